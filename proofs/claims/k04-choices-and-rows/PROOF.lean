import PyProof.Rows.All
import Wide.All
import OpenK.AllK
import Wide.FinOn
import HandS.ForMost
import HandS.Wide
import HandS.TupAny
import HandS.IsInst
import HandS.OwnEq
import HandS.MakeKwOnly
import HandS.Evl
import HandS.Codes
import PyProof.InstNe
import KE.DataEq
import HandS.ExcInit
import HandS.ExcField
import HandS.ExcOwn
import HandS.Exc
import HandS.Defaults
import HandS.WordsExc
import HandS.CallSlots
import HandS.TryOnly
import HandS.WideBits
import HandS.Text
import HandS.Walk
import HandS.Iter
import HandS.Zip
import KE.GoesMore
import PyProof.EnumMake
import PyProof.Draws
import HandS.SetFor
import PySem.Challenge.RW_roomleft_k04_choices_and_rows_refused_or
set_option Elab.async false
set_option linter.all false
set_option maxRecDepth 100000
set_option maxHeartbeats 4000000
set_option autoImplicit false
namespace My
open PySem L2
/-! promises by the number of arguments -/
def Sp0 (f : Hp → VK → XK → Prop) : Sp := fun vs H Q E => vs = [] ∧ f H Q E
def Sp1 (f : V → Hp → VK → XK → Prop) : Sp := fun vs H Q E => ∃ a, vs = [a] ∧ f a H Q E
def Sp2 (f : V → V → Hp → VK → XK → Prop) : Sp := fun vs H Q E => ∃ a b, vs = [a, b] ∧ f a b H Q E
def Sp3 (f : V → V → V → Hp → VK → XK → Prop) : Sp := fun vs H Q E => ∃ a b c, vs = [a, b, c] ∧ f a b c H Q E
def Sp4 (f : V → V → V → V → Hp → VK → XK → Prop) : Sp := fun vs H Q E => ∃ a b c d, vs = [a, b, c, d] ∧ f a b c d H Q E
def Sp5 (f : V → V → V → V → V → Hp → VK → XK → Prop) : Sp := fun vs H Q E => ∃ a b c d e, vs = [a, b, c, d, e] ∧ f a b c d e H Q E
def Sp6 (f : V → V → V → V → V → V → Hp → VK → XK → Prop) : Sp := fun vs H Q E => ∃ a b c d e g, vs = [a, b, c, d, e, g] ∧ f a b c d e g H Q E
section
variable {vs : List V} {H : Hp} {Q : VK} {E : XK}
theorem sp1_len {f : V → Hp → VK → XK → Prop} (h : Sp1 f vs H Q E) : vs.length = 1 := by obtain ⟨_, rfl, _⟩ := h; rfl
theorem sp2_len {f : V → V → Hp → VK → XK → Prop} (h : Sp2 f vs H Q E) : vs.length = 2 := by obtain ⟨_, _, rfl, _⟩ := h; rfl
theorem sp3_len {f : V → V → V → Hp → VK → XK → Prop} (h : Sp3 f vs H Q E) : vs.length = 3 := by obtain ⟨_, _, _, rfl, _⟩ := h; rfl
theorem sp4_len {f : V → V → V → V → Hp → VK → XK → Prop} (h : Sp4 f vs H Q E) : vs.length = 4 := by obtain ⟨_, _, _, _, rfl, _⟩ := h; rfl
theorem sp5_len {f : V → V → V → V → V → Hp → VK → XK → Prop} (h : Sp5 f vs H Q E) : vs.length = 5 := by obtain ⟨_, _, _, _, _, rfl, _⟩ := h; rfl
theorem sp6_len {f : V → V → V → V → V → V → Hp → VK → XK → Prop} (h : Sp6 f vs H Q E) : vs.length = 6 := by obtain ⟨_, _, _, _, _, _, rfl, _⟩ := h; rfl
theorem sp1_of {f : V → Hp → VK → XK → Prop} (h : Sp1 f vs H Q E) : ∃ a, vs = [a] ∧ f a H Q E := h
theorem sp2_of {f : V → V → Hp → VK → XK → Prop} (h : Sp2 f vs H Q E) : ∃ a b, vs = [a, b] ∧ f a b H Q E := h
theorem sp3_of {f : V → V → V → Hp → VK → XK → Prop} (h : Sp3 f vs H Q E) : ∃ a b c, vs = [a, b, c] ∧ f a b c H Q E := h
theorem sp4_of {f : V → V → V → V → Hp → VK → XK → Prop} (h : Sp4 f vs H Q E) : ∃ a b c d, vs = [a, b, c, d] ∧ f a b c d H Q E := h
theorem sp5_of {f : V → V → V → V → V → Hp → VK → XK → Prop} (h : Sp5 f vs H Q E) : ∃ a b c d e, vs = [a, b, c, d, e] ∧ f a b c d e H Q E := h
theorem sp6_of {f : V → V → V → V → V → V → Hp → VK → XK → Prop} (h : Sp6 f vs H Q E) : ∃ a b c d e g, vs = [a, b, c, d, e, g] ∧ f a b c d e g H Q E := h
end
/-! the drawing state: the list at p, the script's copy at l, its numbers -/
structure Dr where
  p : Addr
  l : Addr
  ns : List Int
/-- all that is tracked stands, but the state itself -/
def Chg (d : Dr) (H H' : Hp) : Prop := ∀ b o, b ≠ d.p → H b = some o → H' b = some o
section
variable {d : Dr} {H H1 H2 H' : Hp} {q : Addr} {o : HO}
theorem Chg.refl : Chg d H H := fun _ _ _ e => e
theorem Chg.trans (a : Chg d H H1) (b : Chg d H1 H2) : Chg d H H2 := fun c o n e => b c o n (a c o n e)
theorem Chg.upd : Chg d H (upd H d.p o) := fun b u n e => by rw [upd_ne n]; exact e
theorem Chg.new (h : H q = none) : Chg d H (L2.upd H q o) := fun b u n e => by rw [upd_ne (ne_of_none e h)]; exact e
theorem Chg.same (h : Same H H') : Chg d H H' := fun b u _ e => h b u e
/-- a thing that was new, changed -/
theorem Chg.mut (e : Chg d H H') (h : H q = none) : Chg d H (L2.upd H' q o) := fun b u n k => by rw [upd_ne (ne_of_none k h)]; exact e b u n k
end
structure RngL (H : Hp) (d : Dr) (i : Nat) (c s : Int) : Prop where
  pl : d.l ≠ d.p
  st : H d.p = some (.lst [.ref d.l, .int i, .int c, .int s])
  ls : H d.l = some (.lst (d.ns.map V.int))
  hi : i ≤ d.ns.length
  hn : d.ns.length ≤ 63
  hc : 0 ≤ c
  hs : 0 ≤ s
  hs2 : s < 2147483647
def Rng (d : Dr) (H : Hp) : Prop := ∃ i c s, RngL H d i c s
theorem RngL.set {H : Hp} {d : Dr} {i : Nat} {c s : Int} (r : RngL H d i c s) {j : Nat} {x t : Int} (hj : j ≤ d.ns.length) (hx : 0 ≤ x) (ht : 0 ≤ t) (ht2 : t < 2147483647) :
    RngL (upd H d.p (.lst [.ref d.l, .int j, .int x, .int t])) d j x t := ⟨r.pl, upd_same, by rw [upd_ne r.pl]; exact r.ls, hj, r.hn, hx, ht, ht2⟩
section
variable {d : Dr} {H H' : Hp} {q : Addr} {o : HO}
theorem Rng.atp (r : Rng d H) : ∃ xs, H d.p = some (.lst xs) ∧ xs.length = 4 := by
  obtain ⟨i, c, s, r⟩ := r
  exact ⟨_, r.st, rfl⟩
theorem Rng.atl (r : Rng d H) : H d.l = some (.lst (d.ns.map V.int)) := by
  obtain ⟨i, c, s, r⟩ := r
  exact r.ls
/-- something else is changed -/
theorem Rng.put (r : Rng d H) (h1 : q ≠ d.p) (h2 : q ≠ d.l) : Rng d (upd H q o) := by
  obtain ⟨i, c, s, r⟩ := r
  exact ⟨i, c, s, r.pl, by rw [upd_ne h1.symm]; exact r.st, by rw [upd_ne h2.symm]; exact r.ls, r.hi, r.hn, r.hc, r.hs, r.hs2⟩
theorem Rng.nep (r : Rng d H) (h : H q = none) : q ≠ d.p := fun z => by
  obtain ⟨xs, e, _⟩ := r.atp
  rw [← z, h] at e
  cases e
theorem Rng.nel (r : Rng d H) (h : H q = none) : q ≠ d.l := fun z => by
  have e := r.atl
  rw [← z, h] at e
  cases e
theorem Rng.new (r : Rng d H) (h : H q = none) : Rng d (upd H q o) := r.put (r.nep h) (r.nel h)
theorem Rng.same (r : Rng d H) (e : Same H H') : Rng d H' := by
  obtain ⟨i, c, s, r⟩ := r
  exact ⟨i, c, s, r.pl, e _ _ r.st, e _ _ r.ls, r.hi, r.hn, r.hc, r.hs, r.hs2⟩
/-- what was free stays apart from the state -/
theorem Chg.free (e : Chg d H H') (n : q ≠ d.p) (h : H' q = none) : H q = none := by
  cases z : H q with
  | none => rfl
  | some o => rw [e q o n z] at h; cases h
end
theorem ne_lst {H : Hp} {p q : Addr} {xs : List V} {o : HO} (h : H p = some (.lst xs)) (h2 : H q = some o) (d : ∀ ys, o ≠ .lst ys) : q ≠ p := fun z => by
  rw [z, h] at h2
  exact d xs (Option.some.inj h2).symm
theorem pos_ {n : Int} (h : 0 < n) : 0 < n := h
theorem heap_gen {G : Hp → Prop} {H0 : Hp} (C : Hp → Prop) (h : C H0) (k : ∀ H1, C H1 → G H1) : G H0 := k _ h
/-! the script -/
theorem start_seq {K : PySem.W.Frag} {H : Hp} {a : Addr} {xs : List V} (h : SqL K H a xs) : SqL K H a xs := h
def sp_law0 (K : PySem.W.Frag) : Sp := Sp1 fun a H Q _ => ∃ (l : Addr) (ns : List Int), a = .ref l ∧ SqL K H l (ns.map V.int) ∧ ns.length ≤ 63 ∧ ∀ H', Q (.bl true) H'
def sp_start (K : PySem.W.Frag) : Sp := Sp1 fun a H Q _ => ∃ (l : Addr) (ns : List Int), a = .ref l ∧ SqL K H l (ns.map V.int) ∧ ns.length ≤ 63 ∧
  ∀ (d : Dr) H', H d.p = none → H d.l = none → Same H H' → Rng d H' → Q (.ref d.p) H'
def sp_pull : Sp := Sp2 fun a b H Q _ => ∃ (d : Dr) (many : Int), a = .ref d.p ∧ b = .int many ∧ Rng d H ∧ 0 < many ∧ many.natAbs.log2 < 9000 ∧
  ∀ (v : Int) H', 0 ≤ v → v < many → Chg d H H' → Rng d H' → Q (.int v) H'
theorem kit_self {K : PySem.W.Frag} {C : Addr} : PySem.W.kitOne K (.ref C) (.ref C) = some true := by
  unfold PySem.W.kitOne
  rw [if_pos (by simp)]
theorem small_log {n : Int} (h0 : 0 < n) (h : n < 1000000000) : n.natAbs.log2 < 9000 := by
  have e : n.natAbs < 2 ^ 30 := by omega
  have := (Nat.log2_lt (by omega)).mpr e
  omega
end My
namespace My
open PySem L2
theorem sp0_len {vs : List V} {H : Hp} {Q : VK} {E : XK} {f : Hp → VK → XK → Prop} (h : Sp0 f vs H Q E) : vs.length = 0 := by obtain ⟨rfl, _⟩ := h; rfl
theorem sp0_of {vs : List V} {H : Hp} {Q : VK} {E : XK} {f : Hp → VK → XK → Prop} (h : Sp0 f vs H Q E) : vs = [] ∧ f H Q E := h
end My

namespace My
open PySem L2
/-- every tracked tuple stands -/
def TupKeep (H H' : Hp) : Prop := ∀ b xs, H b = some (.tup xs) → H' b = some (.tup xs)
theorem TupKeep.refl {H : Hp} : TupKeep H H := fun _ _ e => e
theorem TupKeep.trans {H H1 H2 : Hp} (a : TupKeep H H1) (b : TupKeep H1 H2) : TupKeep H H2 := fun c xs e => b c xs (a c xs e)
theorem TupKeep.chg {d : Dr} {H H' : Hp} (r : Rng d H) (e : Chg d H H') : TupKeep H H' := fun b xs k => by
  obtain ⟨ys, hp, _⟩ := r.atp
  exact e b _ (ne_lst hp k fun ys => by intro z; cases z) k
theorem TupKeep.set {D : Addr} {H : Hp} {xs : List V} {o : HO} (h : H D = some (.lst xs)) : TupKeep H (upd H D o) := fun b ys k => by
  rw [upd_ne (ne_lst h k fun ys => by intro z; cases z)]
  exact k
theorem TupKeep.new {D : Addr} {H : Hp} {o : HO} (h : H D = none) : TupKeep H (upd H D o) := fun b ys k => by
  rw [upd_ne (ne_of_none k h)]
  exact k
/-- [e for k in range(..)], e (and the range's end) drawing from the state -/
theorem lc_draw {σ : St} {H : Hp} {te : TE} {ta : TA} {j : Nat} {vs : List Nat} {d : Dr} (Pn : Nat → Prop) (Φ : V → Hp → Prop) (hΦ : ∀ v H1 H2, TupKeep H1 H2 → Φ v H1 → Φ v H2)
    (hw : ∀ x, wipe ((wipe σ vs).set j (some x)) vs = wipe σ vs) (hn : ∀ n, Pn n → n ≤ 100000)
    (hta : ∀ R : List V → Hp → Prop, (∀ (n : Nat) H1, Pn n → Chg d H H1 → Rng d H1 → R [.int (n : Int)] H1) → ta σ H R)
    (ht : ∀ (x : V) H1 (Q : VK), Rng d H1 → Chg d H H1 → (∀ v H2, Φ v H2 → Chg d H1 H2 → Rng d H2 → Q v H2) → te ((wipe σ vs).set j (some x)) H1 Q) {Q : VK}
    (k : ∀ (n : Nat) D (xs : List V) H', Pn n → D ≠ d.p → D ≠ d.l → H D = none → xs.length = n → (∀ x ∈ xs, Φ x H') → H' D = some (.lst xs) → Chg d H H' → Rng d H' → Q (.ref D) H') :
    tLc (iRng1 ta) (gName j) tYes te vs σ H Q := by
  refine hta _ fun n H1 pn e1 r1 => ?_
  have hn' := hn n pn
  refine ⟨(n : Int), rfl, by omega, by omega, fun D hD => ?_⟩
  have nDp := r1.nep hD
  have nDl := r1.nel hD
  have hD0 := e1.free nDp hD
  refine lc_range (lo := 0) (n := n) (fun i H' => ∃ xs : List V, H' D = some (.lst xs) ∧ xs.length = i ∧ (∀ x ∈ xs, Φ x H') ∧ Chg d H H' ∧ Rng d H')
    ⟨[], upd_same, rfl, fun x hx => by simp at hx, e1.trans (Chg.new hD), r1.new hD⟩ ?_ ?_
  · rintro i H' hi ⟨xs, hxs, hl, hf, e2, r2⟩
    refine ⟨hw _, ?_⟩
    refine ht _ H' _ r2 e2 fun v H3 hv e3 r3 => ?_
    have hD3 : H3 D = some (.lst xs) := e3 D _ nDp hxs
    refine ⟨xs, hD3, ?_, xs ++ [v], upd_same, by rw [List.length_append, hl]; rfl, fun x hx => ?_, (e2.trans e3).mut hD0, r3.put nDp nDl⟩
    · rw [hl, sizeLine_eq]; omega
    · have tk : TupKeep H3 (upd H3 D (.lst (xs ++ [v]))) := TupKeep.set hD3
      rcases List.mem_append.mp hx with hx | hx
      · exact hΦ x _ _ ((TupKeep.chg r2 e3).trans tk) (hf x hx)
      · rw [List.mem_singleton.mp hx]
        exact hΦ v _ _ tk hv
  · rintro H' ⟨xs, hxs, hl, hf, e2, r2⟩
    exact k n D xs H' pn nDp nDl hD0 hl hf hxs e2 r2
theorem q_setLc {wi : TI} {g : TG} {tt : TT} {te : TE} {vs : List Nat} {i : Nat} {tz : TS} {D : Ends} {σ : St} {H : Hp} (h : tLc wi g tt te vs σ H fun x H1 => tz D (σ.set i (some x)) H1) : tSeq (tAsg (tLc wi g tt te vs) (gName i)) tz D σ H := h
/-! texts of drawn signs -/
def Sign (ok : Nat → Prop) (v : V) (_ : Hp) : Prop := ∃ c, ok c ∧ v = .str ⟨#[c]⟩
theorem signs_of {ok : Nat → Prop} {H : Hp} : ∀ {xs : List V}, (∀ x ∈ xs, Sign ok x H) → ∃ cs : List Nat, xs = (cs.map fun c => (⟨#[c]⟩ : Str)).map V.str ∧ (∀ c ∈ cs, ok c) ∧ cs.length = xs.length
  | [], _ => ⟨[], rfl, fun c h => by simp at h, rfl⟩
  | x :: xs, h => by
    obtain ⟨c, hc, rfl⟩ := h x (List.mem_cons_self ..)
    obtain ⟨cs, e, hcs, hl⟩ := signs_of (xs := xs) fun y hy => h y (List.mem_cons_of_mem _ hy)
    refine ⟨c :: cs, by rw [e]; rfl, fun y hy => ?_, by rw [List.length_cons, List.length_cons, hl]⟩
    rcases List.mem_cons.mp hy with rfl | hy
    · exact hc
    · exact hcs y hy
theorem joinL_signs : ∀ cs : List Nat, TL.joinL [] ((cs.map fun c => (⟨#[c]⟩ : Str)).map TL.tl) = cs
  | [] => rfl
  | [c] => rfl
  | c :: e :: r => by
    have ih := joinL_signs (e :: r)
    show [c] ++ ([] ++ TL.joinL [] (((e :: r).map fun c => (⟨#[c]⟩ : Str)).map TL.tl)) = c :: e :: r
    rw [ih]
    rfl
theorem join_signs (z : Str) (hz : TL.tl z = []) (cs : List Nat) : Txt.join z (cs.map fun c => (⟨#[c]⟩ : Str)) = ⟨cs.toArray⟩ := by
  refine TL.ext_tl ?_
  rw [TL.join_eq, TL.tl_join, hz, joinL_signs]
theorem sum_signs (cs : List Nat) : ((cs.map fun c => (⟨#[c]⟩ : Str)).map (·.length)).sum = cs.length := by
  induction cs with
  | nil => rfl
  | cons c r ih => rw [List.map_cons, List.map_cons, List.sum_cons, ih, List.length_cons]; show 1 + r.length = r.length + 1; omega
/-- a sign of a written text, at a drawn place -/
theorem pick_sign {z : Str} {l : List Nat} (e : z.cps.toList = l) {v : Int} (h0 : 0 ≤ v) (h1 : v < (l.length : Int)) : ∃ c, c ∈ l ∧ atI z.cps.toList v = some c := by
  obtain ⟨n, rfl⟩ := Int.eq_ofNat_of_zero_le h0
  have hn : n < l.length := by omega
  refine ⟨l[n], List.getElem_mem hn, ?_⟩
  rw [e]
  exact atI_nat (by simp [hn])
/-- what a def that draws a text promises -/
def sp_text (ok : Nat → Prop) : Sp := Sp2 fun a b H Q _ => ∃ (d : Dr) (n : Nat), a = .ref d.p ∧ b = .int (n : Int) ∧ n ≤ 100000 ∧ Rng d H ∧
  ∀ (cs : List Nat) H', cs.length = n → (∀ c ∈ cs, ok c) → Chg d H H' → Rng d H' → Q (.str ⟨cs.toArray⟩) H'
def letter (c : Nat) : Prop := 97 ≤ c ∧ c ≤ 122
def bit (c : Nat) : Prop := c = 48 ∨ c = 49
theorem abc_eq : (Str.ofString "abcdefghijklmnopqrstuvwxyz").cps.toList = [97, 98, 99, 100, 101, 102, 103, 104, 105, 106, 107, 108, 109, 110, 111, 112, 113, 114, 115, 116, 117, 118, 119, 120, 121, 122] := by decide +kernel
theorem abc_letter : ∀ c ∈ [97, 98, 99, 100, 101, 102, 103, 104, 105, 106, 107, 108, 109, 110, 111, 112, 113, 114, 115, 116, 117, 118, 119, 120, 121, 122], letter c := by
  unfold letter
  decide
theorem bits_eq : (Str.ofString "01").cps.toList = [48, 49] := by decide +kernel
theorem bits_bit : ∀ c ∈ [48, 49], bit c := by
  unfold bit
  decide
theorem tl_empty : TL.tl (Str.ofString "") = [] := by decide +kernel
end My

namespace My
open PySem PySem.Spec PyProof.Rows L2
/-- a class over object alone with an own __eq__ at f and no own __ne__ -/
structure EqC (K : PySem.W.Frag) (C f : Addr) : Prop where
  eq : PySem.W.findIn K (.ref C) "__eq__" = some (some (.ref f))
  fn : PySem.W.isFn K (.ref f) = true
  cls : ∃ nm q N bs hd sn sub ab col dd k0 k1 k2 k3 k5 newId, K.lookup C = some (excClassObj nm q C N bs [.type "object"] hd sn sub ab col dd k0 k1 k2 k3 k5 newId) ∧
    PySem.W.nsOkIn K N = true ∧ PySem.W.nsIn K N "__eq__" = some (some (.ref f)) ∧ PySem.W.nsIn K N "__ne__" = some none
def rEqO (C : Addr) (sp : Sp) : R2 := fun x y H Q => ∃ a b dx dy fs gs, x = .ref a ∧ y = .ref b ∧ H a = some (.ins C dx fs) ∧ H b = some (.ins C dy gs) ∧ sp [.ref a, .ref b] H Q E0
def rNeO (C : Addr) (sp : Sp) : R2 := fun x y H Q => ∃ a b dx dy fs gs, x = .ref a ∧ y = .ref b ∧ H a = some (.ins C dx fs) ∧ H b = some (.ins C dy gs) ∧
  sp [.ref a, .ref b] H (fun v H' => ∃ r, v = .bl r ∧ Q (.bl (!r)) H') E0
/-- one call deeper in the interpreter's own stack -/
abbrev in1X (X : Cx) : Cx := { X with A := X.A.in1 }
theorem inv_in1 {X : Cx} {pins : List (Addr × Obj)} {σ : L2.St} {H : Hp} {s : Shared} (I : L2.Inv X pins σ H s) : Inv (in1X X) pins σ H s :=
  ⟨⟨I.ok.mod, I.ok.kind, I.ok.glob, I.ok.blt, I.ok.above, I.ok.inj, I.ok.has, I.ok.cab, I.ok.hd, I.ok.frames, I.ok.stk, I.ok.exf, I.ok.bs, I.ok.bsz, I.ok.noex, I.ok.exfs, I.ok.funs, I.ok.frf⟩, I.os, I.bare, I.base, I.loc, I.cell, I.free, I.freeC, I.pin, I.hok, I.len⟩
theorem inv_out1 {X : Cx} {pins : List (Addr × Obj)} {σ : L2.St} {H : Hp} {s : Shared} (I : L2.Inv (in1X X) pins σ H s) : Inv X pins σ H s :=
  ⟨⟨I.ok.mod, I.ok.kind, I.ok.glob, I.ok.blt, I.ok.above, I.ok.inj, I.ok.has, I.ok.cab, I.ok.hd, I.ok.frames, I.ok.stk, I.ok.exf, I.ok.bs, I.ok.bsz, I.ok.noex, I.ok.exfs, I.ok.funs, I.ok.frf⟩, I.os, I.bare, I.base, I.loc, I.cell, I.free, I.freeC, I.pin, I.hok, I.len⟩
theorem rel_notni {v : V} {u : Value} (r : RelV v u) : u ≠ .notImplemented := by
  cases v with
  | non => cases r; exact fun z => nomatch z
  | bl _ => cases r; exact fun z => nomatch z
  | int _ => obtain ⟨t, rfl⟩ := r; exact fun z => nomatch z
  | str _ => obtain ⟨t, rfl⟩ := r; exact fun z => nomatch z
  | byt _ => obtain ⟨t, rfl⟩ := r; exact fun z => nomatch z
  | flt _ => obtain ⟨t, rfl⟩ := r; exact fun z => nomatch z
  | ref _ => cases r; exact fun z => nomatch z
  | ty _ => cases r; exact fun z => nomatch z
theorem cmpBack_of {Q : Value → Shared → Prop} {u : Value} {s : Shared} (h : u ≠ .notImplemented) (q : Q u s) : PySem.W.CmpBack Q u s := by
  unfold PySem.W.CmpBack
  cases u <;> first | exact q | exact absurd rfl h
/-- what a class's own dict holds, out of the written part -/
theorem ns_at {K : PySem.W.Frag} {h : Heap} {N : Addr} {m : Str → Option Value} {n : Str} {v : Value} (kin : K.In h) (G : h.Ns N m) (e : PySem.W.nsIn K N n = some (some v)) : m n = some v := by
  obtain ⟨ob, es, ep, gN, dat, _, look⟩ := G
  unfold PySem.W.nsIn at e
  cases q : K.lookup N with
  | none => simp [q] at e
  | some o2 =>
    have z := (kin _ _ q).symm.trans gN
    injection z with z
    subst z
    obtain ⟨cl, di, da, sl⟩ := o2
    simp only at dat
    subst dat
    simp only [q] at e
    cases r : es.toList.find? (·.key.isStr n) with
    | none => simp only [r] at e; split at e <;> simp at e
    | some en =>
      simp only [r, Option.some.injEq] at e
      rw [← look]
      show (es.find? _).map _ = some v
      rw [← Array.find?_toList]
      simp only [r, Option.map_some, e]
section
variable {X : Cx} {C f : Addr} {fd : FuncData} {ps : List Str} {sp : Sp} {n : Nat}
theorem op_eqO (F : FnOk X.prog X.w X.K X.mg X.base CX0 n f fd ps sp) (c : EqC X.K C f) (hb : Binds X.K fd ps []) (hr : Room n X.A) : OpR X (compareOp .Eq) (rEqO C sp) := by
  intro pins s σ H x y u v Q I rx ry h
  obtain ⟨a, b, dx, dy, fs, gs, rfl, rfl, ha, hb', hs⟩ := h
  cases rx
  cases ry
  obtain ⟨mA, J, _⟩ := ins_get I.hok ha
  obtain ⟨mB, J', _⟩ := ins_get I.hok hb'
  obtain ⟨od, J, _⟩ := J.look
  obtain ⟨od', J', _⟩ := J'.look
  obtain ⟨m, hF⟩ := I.fr
  show wpAny (model X.prog X.w) X.A (richCompare .Eq _ _) (EP X pins σ Q) X.xe s
  refine PySem.W.cmp_K (op := .Eq) (tb := .ref C) hr.units0 hF I.ok.mod.kin J J'.type (by simp [PySem.W.notFirst]) c.eq c.fn ?_
  refine thn (run_fn (us := [.ref a, .ref b]) (vs := [.ref a, .ref b]) F hr hb .nil pass0 I (.cons rfl (.cons rfl .nil)) (show sp ([.ref a, .ref b] ++ []) H _ E0 from hs)) fun w s' hw => ?_
  obtain ⟨v, H', I', r, q⟩ := hw
  exact cmpBack_of (rel_notni r) ⟨v, H', I', r, q⟩
theorem op_neO (F : FnOk X.prog X.w X.K X.mg X.base CX0 n f fd ps sp) (c : EqC X.K C f) (hb : Binds X.K fd ps []) (hr : Room (n + 1) X.A) : OpR X (compareOp .NotEq) (rNeO C sp) := by
  intro pins s σ H x y u v Q I rx ry h
  obtain ⟨a, b, dx, dy, fs, gs, rfl, rfl, ha, hb', hs⟩ := h
  cases rx
  cases ry
  have KX := I.kIn
  obtain ⟨mA, J, _⟩ := ins_get I.hok ha
  obtain ⟨mB, J', _⟩ := ins_get I.hok hb'
  obtain ⟨nm, q, N, bs, hd, sn, sub, ab, col, dd, k0, k1, k2, k3, k5, newId, lC, okN, nE, nN⟩ := c.cls
  obtain ⟨of, lf, ef⟩ := Option.map_eq_some_iff.mp (show (X.K.lookup f).map (·.cls) = some (.type "function") from beq_iff_eq.mp c.fn)
  have NN := Heap.Ns.of_isNs (PySem.W.isNs_of_in KX okN)
  have OE : s.heap.OwnEqNoNe a C f "object" [.type "object"] :=
    ⟨_, of, nm, q, N, bs, hd, sn, sub, ab, col, dd, k0, k1, k2, k3, k5, newId, _, _, J.obj, rfl, KX _ _ lC, NN, ns_at KX NN nE, KX _ _ lf, ef, PySem.F.cmp_object.mro, PySem.F.cmp_object.eq.lookup, PySem.W.ns_none_of KX NN nN⟩
  obtain ⟨hp, g, d, tk, os⟩ := s
  refine compareOp_ne_ownEq PySem.F.cmp_object OE J'.obj rfl (by have := hr.un; omega) ?_
  have I1 := inv_in1 I
  refine thn (run_fn (X := in1X X) (us := [.ref a, .ref b]) (vs := [.ref a, .ref b]) F hr.in1 hb .nil pass0 I1 (.cons rfl (.cons rfl .nil)) (show sp ([.ref a, .ref b] ++ []) H _ E0 from hs)) fun w s' hw => ?_
  obtain ⟨v, H', I', r, z, rfl, q⟩ := hw
  cases r
  exact ⟨_, rfl, .bl _, H', inv_out1 I', rfl, q⟩
/-- == of an instance and one of any own class that does not come first -/
def rEqD (K : PySem.W.Frag) (C : Addr) (sp : Sp) : R2 := fun x y H Q => ∃ a b dx fs D dy gs, x = .ref a ∧ y = .ref b ∧ H a = some (.ins C dx fs) ∧ H b = some (.ins D dy gs) ∧ PySem.W.notFirst K C (.ref D) = true ∧ sp [.ref a, .ref b] H Q E0
theorem op_eqD (F : FnOk X.prog X.w X.K X.mg X.base CX0 n f fd ps sp) (he : PySem.W.findIn X.K (.ref C) "__eq__" = some (some (.ref f))) (hfn : PySem.W.isFn X.K (.ref f) = true) (hb : Binds X.K fd ps []) (hr : Room n X.A) : OpR X (compareOp .Eq) (rEqD X.K C sp) := by
  intro pins s σ H x y u v Q I rx ry h
  obtain ⟨a, b, dx, fs, D, dy, gs, rfl, rfl, ha, hb', hn, hs⟩ := h
  cases rx
  cases ry
  obtain ⟨mA, J, _⟩ := ins_get I.hok ha
  obtain ⟨mB, J', _⟩ := ins_get I.hok hb'
  obtain ⟨od, J, _⟩ := J.look
  obtain ⟨od', J', _⟩ := J'.look
  obtain ⟨m, hF⟩ := I.fr
  show wpAny (model X.prog X.w) X.A (richCompare .Eq _ _) (EP X pins σ Q) X.xe s
  refine PySem.W.cmp_K (op := .Eq) (tb := .ref D) hr.units0 hF I.ok.mod.kin J J'.type hn he hfn ?_
  refine thn (run_fn (us := [.ref a, .ref b]) (vs := [.ref a, .ref b]) F hr hb .nil pass0 I (.cons rfl (.cons rfl .nil)) (show sp ([.ref a, .ref b] ++ []) H _ E0 from hs)) fun w s' hw => ?_
  obtain ⟨v, H', I', r, q⟩ := hw
  exact cmpBack_of (rel_notni r) ⟨v, H', I', r, q⟩
end
end My

namespace My
open PySem PySem.Spec PyProof.Rows L2
/-! == and != of data without dicts, at any texts -/
def rEqP (K : PySem.W.Frag) : R2 := fun x y H Q => ∃ d e, Dp K H x d ∧ Dp K H y e ∧ d.plain = true ∧ e.plain = true ∧ d.depth ≤ 60 ∧ Q (.bl (PyData.eqv d e)) H
def rNeP (K : PySem.W.Frag) : R2 := fun x y H Q => ∃ d e, Dp K H x d ∧ Dp K H y e ∧ d.plain = true ∧ e.plain = true ∧ d.depth ≤ 60 ∧ Q (.bl (!PyData.eqv d e)) H
section
variable {X : Cx}
theorem op_eqP (hu : X.A.units + 64 < cLine) : OpR X (compareOp .Eq) (rEqP X.K) := by
  intro pins s σ H x y v u Q I rx ry h
  obtain ⟨d, e, hd, he, pd, pe, dp, q⟩ := h
  obtain ⟨as, r1⟩ := Dp.reads I d x v hd rx
  obtain ⟨bs, r2⟩ := Dp.reads I e y u he ry
  exact SeqAt.eq_plain r1 r2 pd pe (by have := Nat.min_le_left d.depth e.depth; omega) ⟨.bl _, H, I, rfl, q⟩
theorem op_neP (hu : X.A.units + 64 < cLine) : OpR X (compareOp .NotEq) (rNeP X.K) := by
  intro pins s σ H x y v u Q I rx ry h
  obtain ⟨d, e, hd, he, pd, pe, dp, q⟩ := h
  obtain ⟨as, r1⟩ := Dp.reads I d x v hd rx
  obtain ⟨bs, r2⟩ := Dp.reads I e y u he ry
  exact SeqAt.ne_plain r1 r2 pd pe (by have := Nat.min_le_left d.depth e.depth; omega) ⟨.bl _, H, I, rfl, q⟩
end
mutual
theorem Dp.keep {K : PySem.W.Frag} {H H' : Hp} (e : Same H H') : ∀ {d : PyData} {v : V}, Dp K H v d → Dp K H' v d
  | _, _, .non => .non
  | _, _, .bl b => .bl b
  | _, _, .int i => .int i
  | _, _, .str x => .str x
  | _, _, .lst h a => .lst (e.seq h) (DpAll.keep e a)
  | _, _, .tup h a => .tup (h.elim (fun h => .inl (h.elim (fun h => .inl (e _ _ h)) fun ⟨o, h⟩ => .inr ⟨o, e _ _ h⟩)) fun h => .inr h) (DpAll.keep e a)
theorem DpAll.keep {K : PySem.W.Frag} {H H' : Hp} (e : Same H H') : ∀ {ds : List PyData} {vs : List V}, DpAll K H vs ds → DpAll K H' vs ds
  | _, _, .nil => .nil
  | _, _, .cons h a => .cons (Dp.keep e h) (DpAll.keep e a)
end
theorem DpAll.length {K : PySem.W.Frag} {H : Hp} : ∀ {vs : List V} {ds : List PyData}, DpAll K H vs ds → vs.length = ds.length
  | _, _, .nil => rfl
  | _, _, .cons _ a => congrArg Nat.succ (DpAll.length a)
theorem eqv_list (xs ys : List PyData) : PyData.eqv (.list xs) (.list ys) = PyData.eqvAll xs ys := by rw [PyData.eqv]
theorem eqv_tuple (xs ys : List PyData) : PyData.eqv (.tuple xs) (.tuple ys) = PyData.eqvAll xs ys := by rw [PyData.eqv]
/-! keywords: the values by their places -/
def pick {α : Type} (ix : List Nat) (l : List α) : List α := ix.filterMap fun i => l[i]?
theorem pick_rel : ∀ (ix : List Nat) {vs : List V} {us : List Value}, Vals vs us → Vals (pick ix vs) (pick ix us)
  | [], _, _, _ => .nil
  | i :: ix, vs, us, r => by
    have ih := pick_rel ix r
    unfold pick at ih ⊢
    rw [List.filterMap_cons, List.filterMap_cons]
    cases e : vs[i]? with
    | none =>
      rw [r.none_of e]
      exact ih
    | some x =>
      obtain ⟨u, hu, ru⟩ := r.get e
      rw [hu]
      exact .cons ru ih
theorem fun_kbn {K : PySem.W.Frag} {x qual : Str} {st : Stmt} {f : Addr} {fd : FuncData} {ps ks : List Str} {n : Nat} (ix : List Nat) (F : Fun K x qual st f fd)
    (h : ∀ (kV doc pm : Value) (an : Option Addr) (cdv ct : Value) (us ws : List Value), us.length = n → ws.length = ks.length →
      bindArgs (PySem.W.fnOf x qual (defArgs st) (defBody st) (defScope st) .none kV doc pm an cdv ct) ⟨us, ks.zip ws⟩ = pure (ps.zip (pick ix (us ++ ws)))) :
    KBn K fd ps n ks (fun us ws => pick ix (us ++ ws)) (fun vs zs => pick ix (vs ++ zs)) := by
  obtain ⟨oc, od, kV, doc, pm, an, cdv, ct, osl, rfl, lk, hcd⟩ := F.ex
  exact ⟨fun s us ws _ l1 l2 => .of_eq (h kV doc pm an cdv ct us ws l1 l2), fun r1 r2 => pick_rel ix (r1.append r2)⟩
end My

namespace My
open PySem L2
/-! the classes of the program that stand over object alone -/
structure ClsO (K : PySem.W.Frag) (C : Addr) (nm : Str) : Prop where
  ex : ∃ q N bs hd sn sub ab col dd k0 k1 k2 k3 k5 newId, K.lookup C = some (excClassObj nm q C N bs [.type "object"] hd sn sub ab col dd k0 k1 k2 k3 k5 newId)
theorem ClsO.cls {K : PySem.W.Frag} {C : Addr} {nm : Str} (h : ClsO K C nm) : ∃ cd, PySem.W.clsIn K C = some cd ∧ cd.mro = [.ref C, .type "object"] ∧ cd.name = nm := by
  obtain ⟨q, N, bs, hd, sn, sub, ab, col, dd, k0, k1, k2, k3, k5, newId, e⟩ := h.ex
  refine ⟨_, by unfold PySem.W.clsIn; rw [e], rfl, rfl⟩
theorem ClsO.ne {K : PySem.W.Frag} {C D : Addr} {nm nm' : Str} (h : ClsO K C nm) (h' : ClsO K D nm') (n : ¬ nm = nm') : C ≠ D := fun z => by
  subst z
  obtain ⟨cd, e, _, q⟩ := h.cls
  obtain ⟨cd', e', _, q'⟩ := h'.cls
  rw [e] at e'
  cases e'
  exact n (q.symm.trans q')
theorem ClsO.sub {K : PySem.W.Frag} {C : Addr} {nm : Str} (h : ClsO K C nm) (b : Value) : PySem.W.subIn K (.ref C) b = some (decide (b = .ref C ∨ b = .type "object")) := by
  obtain ⟨cd, e, m, _⟩ := h.cls
  show PySem.W.mroIn K C b = _
  unfold PySem.W.mroIn
  rw [e, Option.bind_some, m, if_neg (by simp)]
  congr 1
  simp only [List.contains_cons, List.contains_nil, Bool.or_false]
  rw [Bool.decide_or]
  rfl
theorem ClsO.type {K : PySem.W.Frag} {C : Addr} {nm : Str} (h : ClsO K C nm) : PySem.W.typeIn K (.ref C) = some (.type "type") := by
  obtain ⟨q, N, bs, hd, sn, sub, ab, col, dd, k0, k1, k2, k3, k5, newId, e⟩ := h.ex
  show (K.lookup C).map (·.cls) = _
  rw [e]
  rfl
/-- the built-in types that our values have -/
def tags : List String := ["NoneType", "bool", "int", "str", "list", "tuple", "dict"]
def asks : List String := ["bool", "int", "str", "list", "tuple", "dict"]
inductive TagOk (K : PySem.W.Frag) : Value → Prop where
  | ty {n : String} (h : n ∈ tags) : TagOk K (.type n)
  | own {C : Addr} {nm : Str} (h : ClsO K C nm) : TagOk K (.ref C)
/-- is a thing of type t an instance of c -/
def isa (t c : Value) : Bool := decide (t = c) || (decide (t = .type "bool") && decide (c = .type "int"))
theorem kitB_table : ∀ n ∈ tags, ∀ m ∈ asks, kitB n m = some (decide (n = m) || (decide (n = "bool") && decide (m = "int"))) := by decide +kernel
theorem kitMeta_asks : ∀ m ∈ asks, PySem.W.kitMeta m = true := by decide +kernel
theorem asks_obj : ∀ m ∈ asks, m ≠ "object" := by decide
theorem isa_ty {n m : String} : isa (.type n) (.type m) = (decide (n = m) || (decide (n = "bool") && decide (m = "int"))) := by
  unfold isa
  have h : ∀ a b : String, decide (Value.type a = Value.type b) = decide (a = b) := fun a b => by
    by_cases e : a = b
    · subst e; simp
    · rw [decide_eq_false e, decide_eq_false (fun z => e (by injection z))]
  rw [h, h, h]
theorem kit_isa {K : PySem.W.Frag} {t : Value} (h : TagOk K t) {m : String} (hm : m ∈ asks) : PySem.W.kitOne K t (.type m) = some (isa t (.type m)) := by
  cases h with
  | ty hn => rw [isa_ty]; exact kit_ty (kitB_table _ hn _ hm)
  | own o =>
    unfold PySem.W.kitOne
    rw [if_neg (by simp)]
    show (if PySem.W.kitMeta m = true then PySem.W.subIn K _ (.type m) else none) = _
    rw [if_pos (kitMeta_asks m hm), o.sub]
    congr 1
    unfold isa
    rw [decide_eq_false (by intro z; rcases z with z | z <;> first | (injection z with z; exact asks_obj m hm z) | cases z), decide_eq_false (by intro z; cases z), decide_eq_false (by intro z; cases z)]
    rfl
def allTypes (l : List Value) : Bool := l.all fun v => match v with | .type _ => true | _ => false
theorem tags_mro0 : ∀ n ∈ tags, (fastBuiltinMro n).map allTypes = some true := by decide +kernel
theorem tags_mro (n : String) (h : n ∈ tags) : ∃ l, fastBuiltinMro n = some l ∧ ∀ v ∈ l, ∃ s, v = Value.type s := by
  obtain ⟨l, e, q⟩ := Option.map_eq_some_iff.mp (tags_mro0 n h)
  refine ⟨l, e, fun v hv => ?_⟩
  have z := List.all_eq_true.mp q v hv
  cases v <;> first | exact ⟨_, rfl⟩ | cases z
theorem kit_isaO {K : PySem.W.Frag} {t : Value} (h : TagOk K t) {D : Addr} {nm : Str} (d : ClsO K D nm) : PySem.W.kitOne K t (.ref D) = some (isa t (.ref D)) := by
  have two : ((PySem.W.clsIn K D).isSome && PySem.W.typeIn K (.ref D) == some (.type "type")) = true := by
    obtain ⟨cd, e, _⟩ := d.cls
    rw [e, d.type]
    rfl
  cases h with
  | @ty n hn =>
    unfold PySem.W.kitOne
    rw [if_neg (by simp)]
    show (if _ then PySem.W.subIn K _ (.ref D) else none) = _
    rw [if_pos two]
    obtain ⟨l, e, hl⟩ := tags_mro n hn
    show (fastBuiltinMro n).map _ = _
    rw [e]
    show some _ = some _
    have i1 : isa (.type n) (.ref D) = false := by
      have n1 : ¬ Value.type n = Value.ref D := fun z => by cases z
      have n2 : ¬ Value.ref D = Value.type "int" := fun z => by cases z
      unfold isa
      rw [decide_eq_false n1, decide_eq_false n2, Bool.and_false]
      rfl
    rw [i1]
    congr 1
    rw [Bool.eq_false_iff]
    intro z
    obtain ⟨s, e⟩ := hl _ (List.contains_iff_mem.mp z)
    cases e
  | @own C nm' o =>
    by_cases e : C = D
    · subst e
      unfold isa
      rw [kit_self, decide_eq_true rfl]
      rfl
    · unfold PySem.W.kitOne
      rw [if_neg (by simp; exact e)]
      show (if _ then PySem.W.subIn K _ (.ref D) else none) = _
      rw [if_pos two, o.sub]
      congr 1
      unfold isa
      have n1 : ¬ Value.ref C = Value.ref D := fun z => e (by injection z)
      have n2 : ¬ Value.ref D = Value.ref C := fun z => e (by injection z with z; exact z.symm)
      rw [decide_eq_false n1, decide_eq_false (by intro z; rcases z with z | z; exact n2 z; cases z), decide_eq_false (by intro z; cases z)]
      rfl
theorem kitAny_isa {K : PySem.W.Frag} {t : Value} : ∀ {us : List Value}, (∀ u ∈ us, PySem.W.kitOne K t u = some (isa t u)) → PySem.W.kitAny K t us = some (us.any (isa t))
  | [], _ => rfl
  | u :: us, h => kitAny_cons (h u (List.mem_cons_self ..)) (fun e => by rw [kitAny_isa fun v hv => h v (List.mem_cons_of_mem _ hv), List.any_cons, e]; rfl) (fun e => by rw [List.any_cons, e]; rfl)
/-! typed values: what a value is, as far as isinstance goes -/
inductive VT (K : PySem.W.Frag) (H : Hp) : V → Value → Prop where
  | non : VT K H .non (.type "NoneType")
  | bl (b : Bool) : VT K H (.bl b) (.type "bool")
  | int (i : Int) : VT K H (.int i) (.type "int")
  | str (x : Str) : VT K H (.str x) (.type "str")
  | lst {a : Addr} {xs : List V} (e : H a = some (.lst xs)) : VT K H (.ref a) (.type "list")
  | tup {a : Addr} {xs : List V} (e : H a = some (.tup xs)) : VT K H (.ref a) (.type "tuple")
  | dK {a : Addr} {kvs : List (Key × V)} (e : H a = some (.dK kvs)) : VT K H (.ref a) (.type "dict")
  | ins {a C dx : Addr} {fs : List (Str × V)} {nm : Str} (e : H a = some (.ins C dx fs)) (c : C8.InsC K C) (o : ClsO K C nm) : VT K H (.ref a) (.ref C)
theorem VT.tyx {K : PySem.W.Frag} {H : Hp} {v : V} {t : Value} (h : VT K H v t) : TyX K H v t := by
  cases h with
  | non => exact .base .non
  | bl b => exact .base (.bl b)
  | int i => exact .base (.int i)
  | str x => exact .base (.str x)
  | lst e => exact .base (.lst e)
  | tup e => exact .base (.tup e)
  | dK e => exact .base (.dK e)
  | ins e c o => exact .base (.ins e c.cl c.ha c.hn c.htk c.hm)
theorem VT.tag {K : PySem.W.Frag} {H : Hp} {v : V} {t : Value} (h : VT K H v t) : TagOk K t := by
  cases h <;> first | exact .ty (by decide) | exact .own (by assumption)
/-- each thing keeps its sort -/
def KK (H H' : Hp) : Prop := ∀ a o, H a = some o → ∃ o', H' a = some o' ∧ match o, o' with
  | .lst _, .lst _ => True
  | .tup xs, .tup ys => xs = ys
  | .dK _, .dK _ => True
  | .ins C _ _, .ins C' _ _ => C = C'
  | .lst _, _ => False
  | .tup _, _ => False
  | .dK _, _ => False
  | .ins _ _ _, _ => False
  | _, _ => True
theorem KK.refl {H : Hp} : KK H H := fun a o e => ⟨o, e, by cases o <;> trivial⟩
theorem KK.same {H H' : Hp} (h : Same H H') : KK H H' := fun a o e => ⟨o, h a o e, by cases o <;> trivial⟩
theorem KK.trans {H H1 H2 : Hp} (h : KK H H1) (k : KK H1 H2) : KK H H2 := fun a o e => by
  obtain ⟨o1, e1, r1⟩ := h a o e
  obtain ⟨o2, e2, r2⟩ := k a o1 e1
  refine ⟨o2, e2, ?_⟩
  cases o <;> cases o1 <;> first | (exact r1.elim) | skip
  all_goals (cases o2 <;> first | trivial | exact r2.elim | (exact Eq.trans r1 r2) | skip)
theorem KK.chg {d : Dr} {H H' : Hp} (r : Rng d H) (r' : Rng d H') (e : Chg d H H') : KK H H' := fun a o h => by
  by_cases n : a = d.p
  · obtain ⟨xs, e1, _⟩ := r.atp
    obtain ⟨ys, e2, _⟩ := r'.atp
    rw [n] at h ⊢
    rw [e1] at h
    cases h
    exact ⟨_, e2, trivial⟩
  · exact ⟨o, e a o n h, by cases o <;> trivial⟩
theorem KK.setL {H : Hp} {D : Addr} {xs ys : List V} (h : H D = some (.lst xs)) : KK H (upd H D (.lst ys)) := fun a o e => by
  by_cases n : a = D
  · rw [n] at e ⊢
    rw [h] at e
    cases e
    exact ⟨_, upd_same, trivial⟩
  · exact ⟨o, by rw [upd_ne n]; exact e, by cases o <;> trivial⟩
theorem KK.new {H : Hp} {D : Addr} {o : HO} (h : H D = none) : KK H (upd H D o) := KK.same fun b u e => by rw [upd_ne (ne_of_none e h)]; exact e
theorem VT.keep {K : PySem.W.Frag} {H H' : Hp} (e : KK H H') {v : V} {t : Value} (h : VT K H v t) : VT K H' v t := by
  cases h with
  | non => exact .non
  | bl b => exact .bl b
  | int i => exact .int i
  | str x => exact .str x
  | lst h =>
    obtain ⟨o, e1, r⟩ := e _ _ h
    cases o <;> first | exact .lst e1 | exact r.elim
  | tup h =>
    obtain ⟨o, e1, r⟩ := e _ _ h
    cases o <;> first | exact .tup e1 | exact r.elim
  | dK h =>
    obtain ⟨o, e1, r⟩ := e _ _ h
    cases o <;> first | exact .dK e1 | exact r.elim
  | ins h c o2 =>
    obtain ⟨o, e1, r⟩ := e _ _ h
    cases o with
    | ins C' dx' fs' =>
      have z : _ = C' := r
      subst z
      exact .ins e1 c o2
    | _ => exact r.elim
/-- an integer and no bool -/
def isI : V → Bool
  | .int _ => true
  | _ => false
theorem isI_of {K : PySem.W.Frag} {H : Hp} {v : V} {t : Value} (h : VT K H v t) : isI v = (isa t (.type "int") && !isa t (.type "bool")) := by
  cases h <;> first | rfl | (simp only [isI, isa]; simp)
def isS : V → Bool
  | .str _ => true
  | _ => false
theorem isS_of {K : PySem.W.Frag} {H : Hp} {v : V} {t : Value} (h : VT K H v t) : isS v = isa t (.type "str") := by
  cases h <;> first | rfl | (simp only [isS, isa]; simp)
/-- isinstance(x, T), T built in: the reading -/
theorem isi_ty {K : PySem.W.Frag} {H : Hp} {v : V} {t : Value} {Q : VK} {m : String} (h : VT K H v t) (hm : m ∈ asks) (q : Q (.bl (isa t (.type m))) H) : rIsi K [v, .ty m] H Q :=
  ⟨v, .ty m, t, .type m, _, rfl, .ty m, h.tyx, kit_isa h.tag hm, q⟩
theorem isi_own {K : PySem.W.Frag} {H : Hp} {v : V} {t : Value} {Q : VK} {D : Addr} {nm : Str} (h : VT K H v t) (d : ClsO K D nm) (q : Q (.bl (isa t (.ref D))) H) : rIsi K [v, .ref D] H Q :=
  ⟨v, .ref D, t, .ref D, _, rfl, .own D, h.tyx, kit_isaO h.tag d, q⟩
end My

namespace My
open PySem PySem.Spec PyProof.Rows L2
section
variable {X : Cx} {CX : CXT} {k n : Nat} {f C : Addr} {fd : FuncData} {ps ks : List Str} {sp : Sp} {dvs : List V} {ds : List Value} {E : L2.St → XK} {x : Str} {p pos : Pos} {e : Expr} {es : List Expr} {kws : List Keyword} {t tk : TA}
  {g : List Value → List Value → List Value} {gV : List V → List V → List V}
/-- what a call ends in, where what it raises is wished for at the caller's slots -/
theorem ends_at {pins : List (Addr × Obj)} {σ : L2.St} {H : Hp} {s s' : Shared} {Q : VK} {r : Result} (I : L2.Inv X pins σ H s) (hx : PassesAt CX X σ (E σ)) (hq : CR CX X.stack X.prog X.w H s Q (E σ) r s') {R : Value → Shared → Prop}
    (hr : ∀ u, EP X pins σ Q u s' → R u s') : wants R X.xe r s' := by
  cases r with
  | error er => exact hx pins H s er s' I hq
  | ok fl => cases fl <;> first | exact hr _ (I.after hq) | exact False.elim hq
/-- C(..) where C's __init__ may raise -/
def tMakeS (C : Addr) (sp : Sp) (dvs : List V) (E : L2.St → XK) (t : TA) : TE := fun σ H Q => t σ H fun vs H1 => ∀ x dx, H1 x = none → H1 dx = none → dx ≠ x →
  sp (.ref x :: (vs ++ dvs)) (upd (upd H1 dx (.own x)) x (.ins C dx [])) (fun v H2 => v = .non ∧ Q (.ref x) H2) (E σ)
theorem made_ends {pins : List (Addr × Obj)} {σ : L2.St} {H : Hp} {s : Shared} {Q : VK} {us : List Value} {kw : List (Str × Value)} (M : Mk X.K C f) (I : L2.Inv X pins σ H s) (hx : PassesAt CX X σ (E σ))
    (h : codeAny (model X.prog X.w) (X.A.under (.builtin "type.__call__" ⟨.ref C :: us, kw⟩)) (.call (.ref f) ⟨.ref (s.heap.objs.size + 1) :: us, kw⟩)
      (CR CX X.stack X.prog X.w (upd (upd H s.heap.objs.size (.own (s.heap.objs.size + 1))) (s.heap.objs.size + 1) (.ins C s.heap.objs.size [])) { s with heap := (s.heap.push PySem.W.emptyDict).push (PySem.W.instObj C s.heap.objs.size) }
        (fun v H2 => v = .non ∧ Q (.ref (s.heap.objs.size + 1)) H2) (E σ)) { s with heap := (s.heap.push PySem.W.emptyDict).push (PySem.W.instObj C s.heap.objs.size) }) :
    wpAny (model X.prog X.w) X.A (call (.ref C) us kw) (EP X pins σ Q) X.xe s := by
  have J := Inv.made (C := C) I
  refine wpAny_call (make_map (f := f) I.kIn M.makes M.init (beq_iff_eq.mp M.fn) (codeAny_mono h fun r s' q => ?_))
  cases r with
  | error er => exact hx pins _ _ er s' J q
  | ok fl =>
    cases fl with
    | ret u =>
      obtain ⟨v, H', J', rv, ev, q2⟩ := J.after q
      subst ev
      exact ⟨rv, ⟨V.ref (s.heap.objs.size + 1), H', J', rfl, q2⟩⟩
    | next => exact False.elim q
    | brk => exact False.elim q
    | cont => exact False.elim q
theorem pe_makeS (M : Mk X.K C f) (F : FnOk X.prog X.w X.K X.mg X.base CX k f fd ps sp) (hr : Room (k + 1) X.A) (hg : Gl X x) (hm : X.mg x = some (.ref C)) (hb : L2.Binds X.K fd ps ds) (hd : Vals dvs ds) (hx : ∀ σ, PassesAt CX X σ (E σ))
    (ha : PA X (e :: es) t) (hdb : (x == ("__debug__" : Str)) = false := by decide) (he : starEach (e :: es) X.env = (false, eval e X.env) :: starEach es X.env := by rfl) (hpl : (backTo pos (starEach es X.env)).any (·.1) = false := by rfl) :
    PE X (.Call (.Name x p) (e :: es) [] pos) (tMakeS C sp dvs E t) := by
  refine ⟨fun pins s σ H Q I h => ?_⟩
  refine wpAny_Call_Name_kw (ld_glob I hg hm ?_ hdb)
  refine PySem.W.callWith_K (h₀ := X.base) I.ok.mod.kin M.kp (thn (ha.run pos pins s σ H _ I h) fun us s1 hh => ?_) he hpl
  obtain ⟨vs, H1, I1, r, q⟩ := hh
  refine ⟨I1.kIn, made_ends M I1 (hx σ) ?_⟩
  have q1 := q (s1.heap.objs.size + 1) s1.heap.objs.size (I1.hok.fresh (Nat.le_succ _)) (I1.hok.fresh (Nat.le_refl _)) (Nat.ne_of_lt (Nat.lt_succ_self _))
  have J := Inv.made (C := C) I1
  have r2 : Vals (V.ref (s1.heap.objs.size + 1) :: (vs ++ dvs)) (Value.ref (s1.heap.objs.size + 1) :: (us ++ ds)) := .cons rfl (r.append hd)
  exact F.run _ X.stack _ _ _ _ _ _ (E σ) (hr.make C us []) (J.env0.make C us []) (hb _ (Value.ref (s1.heap.objs.size + 1) :: us) J.kIn (r2.length.symm.trans (F.len _ _ _ _ q1))) r2 q1
/-- C(k = v, ..) where C's __init__ may raise -/
def tMakeKS (C : Addr) (m : Nat) (sp : Sp) (gV : List V → List V → List V) (E : L2.St → XK) (tk : TA) : TE := fun σ H Q => tk σ H fun zs H1 => zs.length = m ∧ ∀ x dx, H1 x = none → H1 dx = none → dx ≠ x →
  sp (gV [.ref x] zs) (upd (upd H1 dx (.own x)) x (.ins C dx [])) (fun v H2 => v = .non ∧ Q (.ref x) H2) (E σ)
theorem pe_makeKS (M : Mk X.K C f) (F : FnOk X.prog X.w X.K X.mg X.base CX k f fd ps sp) (hr : Room (k + 1) X.A) (hg : Gl X x) (hm : X.mg x = some (.ref C)) (hb : KBn X.K fd ps 1 ks g gV) (hx : ∀ σ, PassesAt CX X σ (E σ)) (hkw : PK X kws tk)
    (hall : (backToKw pos (keywordEach kws X.env)).all (·.1.isSome) = true := by rfl) (hks : (backToKw pos (keywordEach kws X.env)).filterMap (·.1) = ks := by rfl) (hdb : (x == ("__debug__" : Str)) = false := by decide)
    (hpl : ((backTo pos (starEach [] X.env)).any (·.1) || (backToKw pos (keywordEach kws X.env)).any (·.1.isNone)) = false := by rfl) :
    PE X (.Call (.Name x p) [] kws pos) (tMakeKS C ks.length sp gV E tk) := by
  refine ⟨fun pins s σ H Q I h => ?_⟩
  refine wpAny_Call_Name_kw (ld_glob I hg hm ?_ hdb)
  refine PySem.W.callWith_KW0 (h₀ := X.base) I.ok.mod.kin M.kp hall ?_ hpl
  refine thn (hkw.run pos pins s σ H _ I h) fun ws s1 hh => ?_
  obtain ⟨zs, H1, I1, r, l2, q⟩ := hh
  refine ⟨I1.kIn, ?_⟩
  rw [hks]
  refine made_ends M I1 (hx σ) ?_
  have q1 := q (s1.heap.objs.size + 1) s1.heap.objs.size (I1.hok.fresh (Nat.le_succ _)) (I1.hok.fresh (Nat.le_refl _)) (Nat.ne_of_lt (Nat.lt_succ_self _))
  have J := Inv.made (C := C) I1
  have r1 : Vals [V.ref (s1.heap.objs.size + 1)] [Value.ref (s1.heap.objs.size + 1)] := .cons rfl .nil
  exact F.run _ X.stack _ _ _ _ _ _ (E σ) (hr.make C [] (ks.zip ws)) (J.env0.make C [] (ks.zip ws)) (hb.to _ _ ws J.kIn rfl (r.length.symm.trans l2)) (hb.rel r1 r) q1
/-- C() of a class without an __init__ of its own -/
def tMakeO (C : Addr) : TE := fun _ H Q => ∀ x dx, H x = none → H dx = none → dx ≠ x → Q (.ref x) (upd (upd H dx (.own x)) x (.ins C dx []))
theorem pe_makeO (mk : PySem.W.makesIn X.K C = true) (hi : PySem.W.findIn X.K (.ref C) "__init__" = some (some (.builtin "object.__init__"))) (kp : PySem.W.keepIn X.K (.ref C) = true) (hg : Gl X x) (hm : X.mg x = some (.ref C))
    (hdb : (x == ("__debug__" : Str)) = false := by decide) : PE X (.Call (.Name x p) [] [] pos) (tMakeO C) := by
  refine ⟨fun pins s σ H Q I h => ?_⟩
  refine wpAny_Call_Name_kw (ld_glob I hg hm ?_ hdb)
  refine PySem.W.callWith_K0 I.kIn kp (wpAny_call ?_)
  have J := Inv.made (C := C) I
  have q1 := h (s.heap.objs.size + 1) s.heap.objs.size (I.hok.fresh (Nat.le_succ _)) (I.hok.fresh (Nat.le_refl _)) (Nat.ne_of_lt (Nat.lt_succ_self _))
  have Y := PySem.W.makes_of (M := model X.prog X.w) I.kIn mk
  show codeAny _ _ (.call (.ref C) ⟨[], []⟩) _ _
  refine make_map0 I.kIn mk hi (fun self => .of_pure (PySem.W.oi_bind self)) ?_
  obtain ⟨hp, gs, dr, tks, os⟩ := s
  have t1 : PySem.W.Looks (model X.prog X.w) ((hp.push PySem.W.emptyDict).push (PySem.W.instObj C hp.objs.size)) (typeOf (.ref (hp.objs.size + 1))) (.ref C) :=
    (PySem.W.Looks.ld (part := none) (by heap_get)).andThen .now
  have t2 : PySem.W.Looks (model X.prog X.w) ((hp.push PySem.W.emptyDict).push (PySem.W.instObj C hp.objs.size)) (isInstance (.ref (hp.objs.size + 1)) (.type "object")) true :=
    t1.andThen (Y.top.keeps fun b o z => Heap.get?_push_of_some (PySem.W.instObj C hp.objs.size) (Heap.get?_push_of_some PySem.W.emptyDict z))
  refine codeAny_call_builtin PySem.W.oi_plain PySem.W.entry_oi (PySem.W.check_slot (M := model X.prog X.w) (s := ⟨(hp.push PySem.W.emptyDict).push (PySem.W.instObj C hp.objs.size), gs, dr, tks, os⟩) (rest := []) (kw := []) PySem.W.oi_kind PySem.W.oi_split t2 (PySem.W.oi_args _) ?_)
  rw [PySem.W.oi_run]
  exact wpAny_pure (And.intro rfl ⟨V.ref (hp.objs.size + 1), _, J, rfl, q1⟩)
end
end My

namespace My
open PySem PySem.Spec PyProof.Rows L2
/-! an own exception with one field -/
/-- what its __init__ promises -/
abbrev sp_exc1 (C : Addr) (f : Str) : Sp := Sp2 fun s v H Q _ => ∃ a, s = .ref a ∧ H a = some (exo a C none) ∧ ∀ dx, H dx = none → dx ≠ a → Q .non (upd (upd H dx (exd dx [(f, v)])) a (exo a C (some dx)))
/-- C(v), as it is raised: its own new dict holds the field -/
theorem mk_exc1 {C : Addr} {f : Str} {v : V} {H : Hp} {R : XK} (k : ∀ d, H d = none → R (.ref C) (some d) (upd H d (.xd [(f, v)]))) : ([v] : List V).length ≤ 1000 ∧ ∀ a, H a = none →
    sp_exc1 C f (.ref a :: ([v] ++ [])) (upd H a (exo a C none)) (fun u H2 => u = .non ∧ ∃ (d : Addr) (fs : List (Str × V)), H2 a = some (exo a C (some d)) ∧ H2 d = some (exd d fs) ∧ H d = none ∧ R (.ref C) (some d) (upd (L2.del H2 a) d (.xd fs))) (fun _ _ _ => False) := by
  refine ⟨by show 1 ≤ 1000; decide, fun a ha => ⟨_, _, rfl, a, rfl, upd_same, fun dx hdx ne => ⟨rfl, dx, [(f, v)], upd_same, ?_, ?_, ?_⟩⟩⟩
  · rw [upd_ne ne, upd_same]
  · rw [upd_ne ne] at hdx
    exact hdx
  · rw [upd_ne ne] at hdx
    have e : upd (L2.del (upd (upd (upd H a (exo a C none)) dx (exd dx [(f, v)])) a (exo a C (some dx))) a) dx (.xd [(f, v)]) = upd H dx (.xd [(f, v)]) := by
      funext b
      by_cases h1 : b = dx
      · rw [h1, upd_same, upd_same]
      · rw [upd_ne h1, upd_ne h1]
        by_cases h2 : b = a
        · rw [h2, L2.del_same, ha]
        · rw [L2.del_ne h2, upd_ne h2, upd_ne h1, upd_ne h2]
    rw [e]
    exact k dx hdx
theorem exm_own {K : PySem.W.Frag} {C D : Addr} {b : Bool} (h1 : PySem.W.subIn K (.ref D) (.type "BaseException") = some true) (h2 : PySem.W.isClsIn K D = true) (h3 : PySem.W.typeIn K (.ref D) = some (.type "type")) (h4 : PySem.W.subIn K (.ref C) (.ref D) = some b) :
    PySem.W.exmOne K (.ref C) (.ref D) = some b := by
  have e2 : (PySem.W.clsIn K D).isSome = true := h2
  simp only [PySem.W.exmOne, PySem.W.kitCls, h1, e2, h3, h4, beq_self_eq_true, Bool.and_self, if_true]
/-! defaults -/
theorem binds_nil {K : PySem.W.Frag} {fd : FuncData} {ps : List Str} {dvs : List V} (h0 : dvs = []) (h : ∃ ds, Vals dvs ds ∧ L2.Binds K fd ps ds) : L2.Binds K fd ps [] := by
  subst h0
  obtain ⟨ds, v, b⟩ := h
  cases v
  exact b
theorem binds_non {K : PySem.W.Frag} {fd : FuncData} {ps : List Str} {dvs : List V} (h0 : dvs = [.non]) (h : ∃ ds, Vals dvs ds ∧ L2.Binds K fd ps ds) : L2.Binds K fd ps [.none] := by
  subst h0
  obtain ⟨ds, v, b⟩ := h
  cases v with
  | cons r t =>
    cases t
    cases r
    exact b
theorem fun_kbnD {K : PySem.W.Frag} {x qual : Str} {params : Arguments} {body : List Stmt} {scope : Scope} {dvs : List V} {kws : List (Str × V)} {f : Addr} {fd : FuncData} {ps ks : List Str} {n : Nat} (ix : List Nat) (F : FunD K x qual params body scope dvs kws f fd) (hd : dvs ≠ [])
    (h : ∀ (T : Addr) (kV doc pm : Value) (an : Option Addr) (cdv ct : Value) (us its ws : List Value), us.length = n → its.length = dvs.length → ws.length = ks.length →
      ∃ k, bindArgs (PySem.W.fnOf x qual params body scope (.ref T) kV doc pm an cdv ct) ⟨us, ks.zip ws⟩ = seqItems? (.ref T) >>= k ∧ k (some its.toArray) = pure (ps.zip (pick ix (us ++ ws ++ its)))) :
    ∃ g, KBn K fd ps n ks g (fun vs zs => pick ix (vs ++ zs ++ dvs)) := by
  obtain ⟨oc, od, dV, kV, doc, pm, an, cdv, ct, osl, rfl, lk, hcd, hD, hK⟩ := F.ex
  rcases hD with ⟨e, _⟩ | ⟨_, T, o, its, m, rfl, lT, oT, rT⟩
  · exact absurd e hd
  · refine ⟨fun us ws => pick ix (us ++ ws ++ its), ⟨fun s us ws kin l1 l2 => ?_, fun r1 r2 => pick_rel ix ((r1.append r2).append rT)⟩⟩
    obtain ⟨k, e1, e2⟩ := h T kV doc pm an cdv ct us its ws l1 rT.length.symm l2
    refine BindsTo.of_looks fun M => ?_
    rw [e1]
    exact looks_items kin lT oT (.of_pure e2)
/-! a text, sign by sign -/
theorem for_str {x : Str} {g : TG} {tb : TS} {D : Ends} {σ : L2.St} {H : Hp} (Pv : Nat → L2.St → Hp → Prop) (h0 : Pv 0 σ H)
    (hs : ∀ i c σ H, x.cps.toList[i]? = some c → Pv i σ H → g (.str ⟨#[c]⟩) σ H fun σ2 H2 => tb { D with nx := Pv (i + 1), ct := Pv (i + 1), bk := D.nx } σ2 H2) (hd : ∀ σ H, Pv x.cps.size σ H → D.nx σ H) :
    ∃ W : Nat → Nat → L2.St → Hp → Prop, (∃ m, W 0 m σ H) ∧ ∀ i m σ H, W i m σ H →
      ((Its x).stop i H ∧ D.nx σ H) ∨ ((Its x).go i H ∧ ∃ N : L2.St → Hp → Prop, (∀ σ' H', N σ' H' → ∃ m', m' < m ∧ W (i + 1) m' σ' H') ∧ ∀ y H', (Its x).yld i H y H' → g y σ H' fun σ2 H2 => tb { D with nx := N, ct := N, bk := D.nx } σ2 H2) := by
  refine ⟨fun i m σ H => m + i = x.cps.size ∧ Pv i σ H, ⟨x.cps.size, by simp, h0⟩, ?_⟩
  rintro i m σ H ⟨hm, p⟩
  by_cases hlt : i < x.cps.size
  · refine .inr ⟨hlt, Pv (i + 1), fun σ' H' p' => ⟨m - 1, by omega, by omega, p'⟩, fun y H' hy => ?_⟩
    obtain ⟨e, c, hc, ey⟩ := hy
    subst e ey
    refine hs i c σ _ ?_ p
    rw [Array.getElem?_toList]
    exact hc
  · have e : i = x.cps.size := by omega
    subst e
    exact .inl ⟨Nat.le_refl _, hd σ H p⟩
end My
namespace My
open PySem PySem.Spec PyProof.Rows L2
/-- a call that raises nothing where it stands -/
theorem passL0 {X : Cx} (σ : L2.St) : PassesAt (L2.CX X.prog X.w) X σ E0 := fun _ _ _ _ _ _ h => by
  obtain ⟨_, _, _, _, _, _, _, _, _, _, _, _, z⟩ := h
  exact z.elim
end My
namespace My
open PySem PySem.Spec PyProof.Rows L2
/-! rules with the written part named, for the bodies of a try -/
theorem ix_listK {X : Cx} {K : PySem.W.Frag} (h : X.K = K) : IxR X (rIxL K) := by subst h; exact ix_list
theorem ix_tupK {X : Cx} {K : PySem.W.Frag} (h : X.K = K) : IxR X (rIxT K) := by subst h; exact ix_tup
theorem pe_fldK {X : Cx} {K : PySem.W.Frag} {e : Expr} {te : TE} {f : Str} {pos : Pos} (hk : X.K = K) (h : PE X e te) (hb : attributeBase e f X.env (eval e X.env) = eval e X.env) : PE X (.Attribute e f pos) (tFld K te f) := by subst hk; exact pe_fld h hb
theorem call_isiK2 {X : Cx} {K : PySem.W.Frag} (h : X.K = K) : CallR X (.builtin "isinstance") (rIsi K) := by subst h; exact call_isi
theorem call_isiTK {X : Cx} {K : PySem.W.Frag} (h : X.K = K) : CallR X (.builtin "isinstance") (rIsiT K) := by subst h; exact call_isiT
theorem op_in_seqK {X : Cx} {K : PySem.W.Frag} (h : X.K = K) : OpR X (compareOp .In) (rIn K false) := by subst h; exact op_in_seq
theorem op_notIn_seqK {X : Cx} {K : PySem.W.Frag} (h : X.K = K) : OpR X (compareOp .NotIn) (rIn K true) := by subst h; exact op_notIn_seq
end My

namespace My
open PySem PySem.Spec PyProof.Rows L2 AutoSeq1
/-! enumerate of a tuple -/
theorem new_enum_tup (t : Addr) (its : Array Value) (n : Nat) (dct : Option Addr) (sl : Array (Option Value)) :
    Meets (Builtin.«enumerate.__new__» ⟨[.type "enumerate", .ref t], []⟩) (fun _ R s => s.heap.get? t = some { cls := .type "tuple", dict := dct, data := .seq its n, slots := sl } ∧ R (.ok (.ret (.ref (s.heap.push { cls := .type "tuple_iterator", data := .fields #[.ref t, .int 0 0] }).objs.size)))
      { s with heap := (s.heap.push { cls := .type "tuple_iterator", data := .fields #[.ref t, .int 0 0] }).push { cls := .type "enumerate", data := .fields #[.none, .bool false, .ref s.heap.objs.size, rawInt 0, .none, .none] } }) :=
  .of_wp fun prog w A R s h => by
    obtain ⟨hp, gs, dr, tk, os⟩ := s
    obtain ⟨hl, h⟩ := h
    have sub := sub_enumerate
    have tT : Heap.IsTuple (Shared.heap ⟨hp, gs, dr, tk, os⟩) t its := ⟨_, hl, rfl, n, rfl⟩
    wp_walk using wpAny_loadPart' hl
    refine wpAny_stack_any fun st => wpAny_pure ?_
    split
    · rename_i c _ _ _ _ _
      cases c == Value.type "enumerate" <;> (wp_walk using wpAny_loadPart' hl, wpAny_pyIter_tuple tT; exact ⟨_, rfl, h⟩)
    · (wp_walk using wpAny_loadPart' hl, wpAny_pyIter_tuple tT); exact ⟨_, rfl, h⟩
section
variable {prog : Program} {w : World} {A : Around} {E : Value → Shared → Prop} {s : Shared}
theorem call_enum_tup {t : Addr} {its : Array Value} {Q : Value → Shared → Prop} (tT : s.heap.IsTuple t its)
    (h : ∀ h', IsEnum h' (s.heap.objs.size + 1) s.heap.objs.size 0 .none → h'.IsTupleIter s.heap.objs.size t 0 → (∀ b o, s.heap.get? b = some o → h'.get? b = some o) → Q (.ref (s.heap.objs.size + 1)) { s with heap := h' }) :
    wpAny (model prog w) A (call (.type "enumerate") [.ref t]) Q E s := by
  obtain ⟨⟨c, dct, dt, sl⟩, hl, hc, n, hd⟩ := tT
  obtain rfl : c = .type "tuple" := hc
  obtain rfl : dt = .seq its n := hd
  refine callType_new F.called_enumerate (by decide) (F.typeCall_enumerate_1 _) (F.newCall_enumerate_1 _) (fun obj => F.args_object_init_2 obj _) F.entry_enumerate_new (new_enum_tup t its n dct sl) ⟨hl, ?_⟩
  generalize hi : ({ cls := .type "tuple_iterator", data := .fields #[.ref t, .int 0 0] } : Obj) = io
  have sz : (s.heap.push io).objs.size = s.heap.objs.size + 1 := Heap.size_push ..
  show _ ∧ _
  rw [sz]
  generalize hj : ({ cls := .type "enumerate", data := .fields #[.none, .bool false, .ref s.heap.objs.size, rawInt 0, .none, .none] } : Obj) = eo
  have ge : ((s.heap.push io).push eo).get? (s.heap.objs.size + 1) = some eo := by
    have q := Heap.get?_push_size (s.heap.push io) (o := eo) (by rw [← hj]; rfl)
    rw [sz] at q
    exact q
  have he : IsEnum ((s.heap.push io).push eo) (s.heap.objs.size + 1) s.heap.objs.size 0 .none := by rw [← hj] at ge ⊢; exact ge
  exact ⟨⟨eo, ge, by rw [← hj]⟩, h _ he ⟨io, Heap.get?_push_of_some _ (Heap.get?_push_size _ (by rw [← hi]; rfl)), by rw [← hi], by rw [← hi]; rfl⟩ fun b o x => Heap.get?_push_of_some _ (Heap.get?_push_of_some _ x)⟩
end
/-- the tuple at a, each item in a new pair -/
def IteT (K : PySem.W.Frag) (a : Addr) : It :=
  ⟨fun i H => ∃ (xs : List V) (x : V), SqT K H a xs ∧ xs[i]? = some x, fun i H v H' => ∃ T x, v = .ref T ∧ H T = none ∧ H' = upd H T (.tup [.int (i : Nat), x]) ∧ ∀ xs, SqT K H a xs → xs[i]? = some x, fun i H => ∃ xs : List V, SqT K H a xs ∧ xs.length ≤ i⟩
theorem turn_enumT {P : Program} {w : World} {K : PySem.W.Frag} {elts : List Expr} {kk : Nat} {tpos : Pos} (a e it : Addr) (hat : a ≠ it) :
    Turn P w K (.Tuple elts kk tpos) (IteT K a) [e, it] e (fun i h => (∃ old, IsEnum h e it ((i : Nat) : Int) old) ∧ h.IsTupleIter it a i ∧ e ≠ it ∧ e ≠ a) where
  mem := List.mem_cons_self ..
  obj := fun i h st b hb => by
    obtain ⟨⟨old, he⟩, ⟨o, ho, hc, hd⟩, _⟩ := st
    rcases List.mem_cons.mp hb with z | hb
    · rw [z]; exact ⟨_, he, fun v q => nomatch q⟩
    · rw [List.mem_singleton.mp hb]; exact ⟨o, ho, fun v q => by rw [hd] at q; cases q⟩
  keep := fun i h h' st k => by
    obtain ⟨⟨old, he⟩, hi, ne⟩ := st
    exact ⟨⟨old, k e (List.mem_cons_self ..) _ he⟩, hi.at fun o q => k it (by simp) o q, ne⟩
  item := by
    intro X hP hw hK hc i pins s σ H E I hf st hg
    subst hP hw hK
    obtain ⟨⟨old, he⟩, hit, hne, hea⟩ := st
    obtain ⟨xs, x, hq, hx⟩ := hg
    obtain ⟨its, rv, p, hz⟩ := I.tuple hq
    have pT : s.heap.IsTuple a its.toArray := p
    obtain ⟨u, hu, ru⟩ := rv.get hx
    have hil : i < its.toArray.size := by
      rw [List.size_toArray]
      exact (List.getElem?_eq_some_iff.mp hu).1
    have lte : e < s.heap.objs.size := Heap.lt_size he
    have lti : it < s.heap.objs.size := by obtain ⟨_, q, _⟩ := hit; exact Heap.lt_size q
    have D := Draws.tuple (prog := X.prog) (w := X.w) (A := X.A.in1) (I.ok.hd hc) it a hat its.toArray
    refine wpAny_pyNext_enum_itemD D he ⟨hit, pT⟩ hil hne (by simp [hne, hea]) fun y h' tk hy ho hst hT hsz hk => ?_
    have ey : y = u := by
      have hy2 : its.toArray[i]? = some y := hy
      rw [List.getElem?_toArray, hu] at hy2
      exact (Option.some.inj hy2).symm
    subst ey
    refine ⟨_, rfl, wpAny_letOwnedTupleGo_enum (s := { s with heap := h', toks := tk + 1 }) ho fun h'' he' sb => ?_⟩
    have T2 : h''.get? s.heap.objs.size = some { cls := .type "tuple", data := .seq #[.int i tk, y] } := (sb.2 _ (Nat.ne_of_gt lte)).trans hT
    have I1 : Inv X pins σ (upd H s.heap.objs.size (.tup [.int (i : Nat), x])) { s with heap := h'', toks := tk + 1 } :=
      I.turnedNew (ch := [e, it]) (fun b ob hb q => (sb.2 b (fun z => hb (by simp [z]))).trans (hk b ob (fun z => hb (by simp [z])) (fun z => hb (by simp [z])) q)) hf (Nat.le_refl _)
        ⟨by show 2 ≤ sizeLine; decide, [.int i tk, y], .cons ⟨_, rfl⟩ (.cons ru .nil), ⟨_, T2, rfl, _, rfl⟩⟩
    refine ⟨.ref s.heap.objs.size, _, I1, rfl, ⟨_, x, rfl, I.hok.fresh (Nat.le_refl _), rfl, fun ys hy => by rw [I.tuple_inj hy hq]; exact hx⟩, ⟨⟨y, ?_⟩, hst.1.at fun o q => (sb.2 it (Ne.symm hne)).trans q, hne, hea⟩, fun b hb => ?_⟩
    · rw [show ((i + 1 : Nat) : Int) = (i : Int) + 1 by omega]
      exact he'
    · have lt : b < s.heap.objs.size := by
        rcases List.mem_cons.mp hb with z | hb
        · rw [z]; exact lte
        · rw [List.mem_singleton.mp hb]; exact lti
      rw [upd_ne (Nat.ne_of_lt lt)]
      exact (hf b hb).1
  done := by
    intro X hP hw hK hc i pins s σ H E I hf st hg
    subst hP hw hK
    obtain ⟨⟨old, he⟩, hit, hne, hea⟩ := st
    obtain ⟨xs, hq, hx⟩ := hg
    obtain ⟨its, rv, p, hz⟩ := I.tuple hq
    have pT : s.heap.IsTuple a its.toArray := p
    obtain ⟨f0, f1, f2, f3, f4, f5⟩ := hf it (by simp)
    have hA : X.A.handled = none := I.ok.hd hc
    have hT : s.TypeIs (.ref e) "enumerate" := ⟨_, he, rfl⟩
    unfold pyNext
    refine wpAny_bind (wpAny_attempt (wpAny_callSpecial?_slot (name := Str.ofString "__next__") hT F.slot_enumerate_next (wpAny_call_entry F.slot_enumerate_next hT F.entry_enumerate_next ?_ (F.args_enumerate_next_1 _))))
    show wpAny _ _ (field (.ref e) 2 >>= _) _ _ _
    refine wpAny_bind (wpAny_field he rfl (x := .ref it) rfl ?_)
    have hn : its.toArray[i]? = none := by
      have l := rv.length
      rw [List.getElem?_toArray]
      exact List.getElem?_eq_none (by omega)
    refine wpAny_bind (wpAny_nextOf_tuple_end (A := X.A.in1) hA hit pT hn fun h' x ex hx' => ?_)
    obtain ⟨o, ho, hc⟩ := hx'
    refine wpAny_bind (wpAny_isInstance (T := "StopIteration") (b := true) ⟨o, ho, hc⟩ isSubtype_stop ?_)
    exact wpAny_pure ⟨rfl, I.turned (t' := s.toks) (fun b o hb q => ex b o hb q) f0 f1 f3 f4 f5⟩
  self := fun A i s Q E st h => by
    obtain ⟨⟨_, he⟩, _⟩ := st
    exact wpAny_pyIter_enum he h
/-- enumerate of a list or of a tuple -/
def iEnumA (K : PySem.W.Frag) (ta : TA) : TI := fun σ H R => ta σ H fun vs H1 => ∃ a xs, vs = [.ref a] ∧ ((SqL K H1 a xs ∧ R (Ite K a) H1) ∨ (SqT K H1 a xs ∧ R (IteT K a) H1))
theorem pi_enumA {X : Cx} {e : Expr} {ta : TA} {p pos tpos : Pos} {elts : List Expr} {kk : Nat} (hg : Gl X "enumerate") (hm : X.mg "enumerate" = none) (ha : PA X [e] ta) (hs : starEach [e] X.env = [(false, eval e X.env)] := by rfl) :
    PI X (.Tuple elts kk tpos) (.Call (.Name "enumerate" p) [e] [] pos) (iEnumA X.K ta) := by
  refine ⟨fun pins s σ H R I h => ?_⟩
  refine Call_ (ld_blt I hg hm boot_enumerate (PyProof.Rows.callWith_type1 (thn (ha.run pos pins s σ H _ I h) fun us s1 ⟨vs, H1, I1, r1, q1⟩ => ?_) hs rfl))
  obtain ⟨a, xs, ex, q1⟩ := q1
  subst ex
  cases r1 with
  | cons r rr =>
    cases rr
    cases r
    have fr2 : ∀ b ∈ [s1.heap.objs.size + 1, s1.heap.objs.size], FpOk X pins H1 b := fun b hb => by
      have hle : s1.heap.objs.size ≤ b := by
        rcases List.mem_cons.mp hb with z | hb
        · rw [z]; exact Nat.le_add_right _ _
        · rw [List.mem_singleton.mp hb]; exact Nat.le_refl _
      exact I1.fpOk hle (I1.hok.fresh hle)
    rcases q1 with ⟨hq, q⟩ | ⟨hq, q⟩
    · obtain ⟨its, rv, p', hz⟩ := I1.list hq
      refine call_enumerate_list p'.isList fun h' he hit hsz hk => wpAny_pyIter_enum he ?_
      have I2 : Inv X pins σ H1 { s1 with heap := h' } := I1.kept (t' := s1.toks) hk
      exact ⟨s1.heap.objs.size + 1, [s1.heap.objs.size + 1, s1.heap.objs.size], _, _, H1, rfl, I2, turn_enum a (s1.heap.objs.size + 1) s1.heap.objs.size, ⟨⟨.none, he⟩, hit, Nat.succ_ne_self _⟩, fr2, q⟩
    · obtain ⟨its, rv, p', hz⟩ := I1.tuple hq
      have pT : s1.heap.IsTuple a its.toArray := p'
      have lta : a < s1.heap.objs.size := by obtain ⟨_, z, _⟩ := pT; exact Heap.lt_size z
      refine call_enum_tup pT fun h' he hit hk => wpAny_pyIter_enum he ?_
      have I2 : Inv X pins σ H1 { s1 with heap := h' } := I1.kept (t' := s1.toks) hk
      exact ⟨s1.heap.objs.size + 1, [s1.heap.objs.size + 1, s1.heap.objs.size], _, _, H1, rfl, I2, turn_enumT a (s1.heap.objs.size + 1) s1.heap.objs.size (Nat.ne_of_lt lta), ⟨⟨.none, he⟩, hit, Nat.succ_ne_self _, Nat.ne_of_gt (Nat.lt_succ_of_lt lta)⟩, fr2, q⟩
theorem walk_enumT {K : PySem.W.Frag} {a : Addr} {xs : List V} : Walk (IteT K a) xs.length (fun H => SqT K H a xs) (YPair (fun i => some (.int (i : Nat))) (fun i => xs[i]?)) := by
  refine ⟨fun i _ hi q => ⟨xs, xs[i], q, by simp [hi]⟩, fun _ q => ⟨xs, q, Nat.le_refl _⟩, fun i H v H' _ q y => ?_⟩
  obtain ⟨T, x, h1, h2, h3, h4⟩ := y
  exact ⟨T, .int (i : Nat), x, h1, h2, h3, rfl, h4 xs q⟩
/-- a walk of one of two kinds -/
theorem pi_or {X : Cx} {tg e : Expr} {w1 w2 : TI} (h1 : PI X tg e w1) (h2 : PI X tg e w2) : PI X tg e (fun σ H R => w1 σ H R ∨ w2 σ H R) :=
  ⟨fun pins s σ H R I h => h.elim (h1.run pins s σ H R I) (h2.run pins s σ H R I)⟩
end My

namespace My
open PySem PySem.Spec PyProof.Rows L2
/-! list.remove of texts -/
def isTx (k : Str) (v : Value) : Bool := match v with
  | .str n _ => n == k
  | _ => false
theorem strs_at {zs : List Str} {us : List Value} (r : Vals (zs.map V.str) us) {j : Nat} {z : Str} (h : zs[j]? = some z) : ∃ t, us[j]? = some (.str z t) := by
  obtain ⟨u, hu, ru⟩ := r.get (i := j) (x := V.str z) (by rw [List.getElem?_map, h]; rfl)
  obtain ⟨t, rfl⟩ := ru
  exact ⟨t, hu⟩
theorem strs_mem {zs : List Str} {us : List Value} (r : Vals (zs.map V.str) us) {y : Value} (h : y ∈ us) : ∃ z t, y = .str z t := by
  obtain ⟨j, hj, rfl⟩ := List.getElem_of_mem h
  have l := r.length
  rw [List.length_map] at l
  obtain ⟨t, e⟩ := strs_at r (List.getElem?_eq_getElem (by omega : j < zs.length))
  rw [List.getElem?_eq_getElem hj] at e
  exact ⟨_, t, Option.some.inj e⟩
def rRemS : V → List V → Hp → VK → Prop := fun x xs H Q => ∃ (l : Addr) (zs : List Str) (k : Str) (j : Nat), x = .ref l ∧ xs = [.str k] ∧ H l = some (.lst (zs.map V.str)) ∧ zs[j]? = some k ∧ (∀ m : Nat, m < j → zs[m]? ≠ some k) ∧ Q .non (upd H l (.lst ((zs.eraseIdx j).map V.str)))
theorem erase_mapS : ∀ (l : List Str) (j : Nat), (l.map V.str).eraseIdx j = (l.eraseIdx j).map V.str
  | [], _ => rfl
  | _ :: _, 0 => rfl
  | a :: r, j + 1 => congrArg (V.str a :: ·) (erase_mapS r j)
theorem mt_removeS {X : Cx} : MtM X "list.remove" rRemS := by
  intro pins s σ H x xs v us Q I rx rxs h
  obtain ⟨l, zs, k, j, rfl, rfl, hH, hj, hno, q⟩ := h
  cases rx
  obtain ⟨u, rfl, ru⟩ := rxs.one
  obtain ⟨t, rfl⟩ := ru
  obtain ⟨z, its, n, r, hl, e⟩ := I.lstM hH
  rw [List.length_map] at hl z
  have jz : j < zs.length := (List.getElem?_eq_some_iff.mp hj).1
  have ji : j < its.toArray.size := by rw [List.size_toArray]; omega
  have gv : ∀ y ∈ its.toArray, MeetsSeq.EqGives y (.str k t) (isTx k y) := fun y hy => by
    obtain ⟨a, b, rfl⟩ := strs_mem r (by simpa using hy)
    exact PyProof.Rows.eqGives_str a k b t
  refine call_meets PySem.F.slot_list_remove ⟨_, e, rfl⟩ PySem.F.entry_list_remove (PySem.F.args_list_remove_2 _ _) (MeetsSeq.list_remove l its.toArray n (.str k t) (isTx k) gv j ji ?_ ?_ (by rw [List.size_toArray]; omega)) ⟨e, ?_⟩
  · obtain ⟨tj, ht⟩ := strs_at r hj
    have q2 : its.toArray[j] = .str k tj := by
      obtain ⟨_, h2⟩ := List.getElem?_eq_some_iff.mp ht
      simpa using h2
    rw [q2]
    exact beq_self_eq_true k
  · intro m hm mj
    have mz : m < zs.length := by omega
    obtain ⟨tm, ht⟩ := strs_at r (List.getElem?_eq_getElem mz)
    have q2 : its.toArray[m] = .str zs[m] tm := by
      obtain ⟨_, h2⟩ := List.getElem?_eq_some_iff.mp ht
      simpa using h2
    rw [q2]
    refine beq_eq_false_iff_ne.mpr fun w => hno m mj ?_
    rw [List.getElem?_eq_getElem mz, w]
  · have rr := r.eraseIdx j
    rw [erase_mapS] at rr
    refine ⟨.non, _, I.lset (its' := its.eraseIdx j) (t' := s.toks) hH e ?_ rr ?_, rfl, q⟩
    · show its.toArray.eraseIdxIfInBounds j = (its.eraseIdx j).toArray
      rw [List.eraseIdxIfInBounds_toArray]
    · have := len_erase zs j
      rw [List.length_map]
      omega
end My
namespace My
open PySem L2

def top (i : Nat) : Stmt := PySem.Challenge.pw_roomleft_k04_choices_and_rows_refused_or.main.body.getD i (.Pass ⟨0, 0, 0, 0⟩)
abbrev s_BadKind___init__ : Stmt := inClass (top 2) 0
abbrev s_is_integer : Stmt := top 5
abbrev s_is_bits : Stmt := top 6
abbrev s_is_name : Stmt := top 7
abbrev s_is_word : Stmt := top 8
abbrev s_begins : Stmt := top 9
abbrev s_Nothing___eq__ : Stmt := inClass (top 10) 0
abbrev s_is_width : Stmt := top 11
abbrev s_Number___init__ : Stmt := inClass (top 12) 0
abbrev s_Number___eq__ : Stmt := inClass (top 12) 1
abbrev s_Bits___init__ : Stmt := inClass (top 13) 0
abbrev s_Bits___eq__ : Stmt := inClass (top 13) 1
abbrev s_Call___init__ : Stmt := inClass (top 14) 0
abbrev s_Call___eq__ : Stmt := inClass (top 14) 1
abbrev s_Items___init__ : Stmt := inClass (top 15) 0
abbrev s_Items___eq__ : Stmt := inClass (top 15) 1
abbrev s_is_simple : Stmt := top 16
abbrev s_check_inner : Stmt := top 17
abbrev s_Way___init__ : Stmt := inClass (top 18) 0
abbrev s_Way___eq__ : Stmt := inClass (top 18) 1
abbrev s_Door___init__ : Stmt := inClass (top 19) 0
abbrev s_Door___eq__ : Stmt := inClass (top 19) 1
abbrev s_are_ways : Stmt := top 20
abbrev s_Choice___init__ : Stmt := inClass (top 21) 0
abbrev s_Choice___eq__ : Stmt := inClass (top 21) 1
abbrev s_Part___init__ : Stmt := inClass (top 22) 0
abbrev s_Part___eq__ : Stmt := inClass (top 22) 1
abbrev s_Room___init__ : Stmt := inClass (top 23) 0
abbrev s_Room___eq__ : Stmt := inClass (top 23) 1
abbrev s_are_parts : Stmt := top 24
abbrev s_Row___init__ : Stmt := inClass (top 25) 0
abbrev s_Row___eq__ : Stmt := inClass (top 25) 1
abbrev s__law_is_int : Stmt := top 27
abbrev s__law_same_dict : Stmt := top 28
abbrev s__law_same : Stmt := top 29
abbrev s__law_start : Stmt := top 30
abbrev s__law_pull : Stmt := top 31
abbrev s__law_name : Stmt := top 32
abbrev s__law_bits : Stmt := top 33
abbrev s__law_words : Stmt := top 34
abbrev s__law_odd : Stmt := top 35
abbrev s__law_object : Stmt := top 36
abbrev s__law_rows : Stmt := top 37
abbrev s__law_spoil : Stmt := top 38
abbrev s__law_one : Stmt := top 39
abbrev s__law_plain : Stmt := top 40
abbrev s__law_good : Stmt := top 41
abbrev s__law_make : Stmt := top 42
abbrev s__law_told : Stmt := top 43
abbrev s__law_is_right : Stmt := top 44
abbrev s__law_kept : Stmt := top 45
abbrev s__law_after_change : Stmt := top 46
abbrev s_law : Stmt := top 47
structure Ad where
  f_BadKind___init__ : Addr
  d_BadKind___init__ : FuncData
  f_is_integer : Addr
  d_is_integer : FuncData
  f_is_bits : Addr
  d_is_bits : FuncData
  f_is_name : Addr
  d_is_name : FuncData
  f_is_word : Addr
  d_is_word : FuncData
  f_begins : Addr
  d_begins : FuncData
  f_Nothing___eq__ : Addr
  d_Nothing___eq__ : FuncData
  f_is_width : Addr
  d_is_width : FuncData
  f_Number___init__ : Addr
  d_Number___init__ : FuncData
  f_Number___eq__ : Addr
  d_Number___eq__ : FuncData
  f_Bits___init__ : Addr
  d_Bits___init__ : FuncData
  f_Bits___eq__ : Addr
  d_Bits___eq__ : FuncData
  f_Call___init__ : Addr
  d_Call___init__ : FuncData
  f_Call___eq__ : Addr
  d_Call___eq__ : FuncData
  f_Items___init__ : Addr
  d_Items___init__ : FuncData
  f_Items___eq__ : Addr
  d_Items___eq__ : FuncData
  f_is_simple : Addr
  d_is_simple : FuncData
  f_check_inner : Addr
  d_check_inner : FuncData
  f_Way___init__ : Addr
  d_Way___init__ : FuncData
  f_Way___eq__ : Addr
  d_Way___eq__ : FuncData
  f_Door___init__ : Addr
  d_Door___init__ : FuncData
  f_Door___eq__ : Addr
  d_Door___eq__ : FuncData
  f_are_ways : Addr
  d_are_ways : FuncData
  f_Choice___init__ : Addr
  d_Choice___init__ : FuncData
  f_Choice___eq__ : Addr
  d_Choice___eq__ : FuncData
  f_Part___init__ : Addr
  d_Part___init__ : FuncData
  f_Part___eq__ : Addr
  d_Part___eq__ : FuncData
  f_Room___init__ : Addr
  d_Room___init__ : FuncData
  f_Room___eq__ : Addr
  d_Room___eq__ : FuncData
  f_are_parts : Addr
  d_are_parts : FuncData
  f_Row___init__ : Addr
  d_Row___init__ : FuncData
  f_Row___eq__ : Addr
  d_Row___eq__ : FuncData
  f__law_is_int : Addr
  d__law_is_int : FuncData
  f__law_same_dict : Addr
  d__law_same_dict : FuncData
  f__law_same : Addr
  d__law_same : FuncData
  f__law_start : Addr
  d__law_start : FuncData
  f__law_pull : Addr
  d__law_pull : FuncData
  f__law_name : Addr
  d__law_name : FuncData
  f__law_bits : Addr
  d__law_bits : FuncData
  f__law_words : Addr
  d__law_words : FuncData
  f__law_odd : Addr
  d__law_odd : FuncData
  f__law_object : Addr
  d__law_object : FuncData
  f__law_rows : Addr
  d__law_rows : FuncData
  f__law_spoil : Addr
  d__law_spoil : FuncData
  f__law_one : Addr
  d__law_one : FuncData
  f__law_plain : Addr
  d__law_plain : FuncData
  f__law_good : Addr
  d__law_good : FuncData
  f__law_make : Addr
  d__law_make : FuncData
  f__law_told : Addr
  d__law_told : FuncData
  f__law_is_right : Addr
  d__law_is_right : FuncData
  f__law_kept : Addr
  d__law_kept : FuncData
  f__law_after_change : Addr
  d__law_after_change : FuncData
  f_law : Addr
  d_law : FuncData
  c_Nothing : Addr
  c_Number : Addr
  c_Bits : Addr
  c_Call : Addr
  c_Items : Addr
  c_Way : Addr
  c_Door : Addr
  c_Choice : Addr
  c_Part : Addr
  c_Room : Addr
  c_Row : Addr
  c_RoomError : Addr
  c_BadKind : Addr
structure Txt (K : PySem.W.Frag) (mg : Str → Option Value) (A : Ad) : Prop where
  F_BadKind___init__ : Fun K "__init__" "BadKind.__init__" s_BadKind___init__ A.f_BadKind___init__ A.d_BadKind___init__
  k_BadKind___init__ : PySem.W.keepIn K (.ref A.f_BadKind___init__) = true
  b_BadKind___init__ : Binds K A.d_BadKind___init__ ["self", "part"] []
  F_is_integer : Fun K "is_integer" "is_integer" s_is_integer A.f_is_integer A.d_is_integer
  k_is_integer : PySem.W.keepIn K (.ref A.f_is_integer) = true
  b_is_integer : Binds K A.d_is_integer ["thing"] []
  mg_is_integer : mg "is_integer" = some (.ref A.f_is_integer)
  F_is_bits : Fun K "is_bits" "is_bits" s_is_bits A.f_is_bits A.d_is_bits
  k_is_bits : PySem.W.keepIn K (.ref A.f_is_bits) = true
  b_is_bits : Binds K A.d_is_bits ["thing"] []
  mg_is_bits : mg "is_bits" = some (.ref A.f_is_bits)
  F_is_name : Fun K "is_name" "is_name" s_is_name A.f_is_name A.d_is_name
  k_is_name : PySem.W.keepIn K (.ref A.f_is_name) = true
  b_is_name : Binds K A.d_is_name ["thing"] []
  mg_is_name : mg "is_name" = some (.ref A.f_is_name)
  F_is_word : Fun K "is_word" "is_word" s_is_word A.f_is_word A.d_is_word
  k_is_word : PySem.W.keepIn K (.ref A.f_is_word) = true
  b_is_word : Binds K A.d_is_word ["thing"] []
  mg_is_word : mg "is_word" = some (.ref A.f_is_word)
  F_begins : Fun K "begins" "begins" s_begins A.f_begins A.d_begins
  k_begins : PySem.W.keepIn K (.ref A.f_begins) = true
  b_begins : Binds K A.d_begins ["one", "other"] []
  mg_begins : mg "begins" = some (.ref A.f_begins)
  F_Nothing___eq__ : Fun K "__eq__" "Nothing.__eq__" s_Nothing___eq__ A.f_Nothing___eq__ A.d_Nothing___eq__
  k_Nothing___eq__ : PySem.W.keepIn K (.ref A.f_Nothing___eq__) = true
  b_Nothing___eq__ : Binds K A.d_Nothing___eq__ ["self", "other"] []
  m_Nothing___eq__ : PySem.W.findIn K (.ref A.c_Nothing) "__eq__" = some (some (.ref A.f_Nothing___eq__))
  i_Nothing___eq__ : PySem.W.isFn K (.ref A.f_Nothing___eq__) = true
  F_is_width : Fun K "is_width" "is_width" s_is_width A.f_is_width A.d_is_width
  k_is_width : PySem.W.keepIn K (.ref A.f_is_width) = true
  b_is_width : Binds K A.d_is_width ["width", "many"] []
  mg_is_width : mg "is_width" = some (.ref A.f_is_width)
  F_Number___init__ : FunD K "__init__" "Number.__init__" (defArgs s_Number___init__) (defBody s_Number___init__) (defScope s_Number___init__) [.non] [] A.f_Number___init__ A.d_Number___init__
  b1_Number___init__ : Binds K A.d_Number___init__ ["self", "low", "high", "width"] [Value.none]
  k_Number___init__ : PySem.W.keepIn K (.ref A.f_Number___init__) = true
  b_Number___init__ : Binds K A.d_Number___init__ ["self", "low", "high", "width"] []
  F_Number___eq__ : Fun K "__eq__" "Number.__eq__" s_Number___eq__ A.f_Number___eq__ A.d_Number___eq__
  k_Number___eq__ : PySem.W.keepIn K (.ref A.f_Number___eq__) = true
  b_Number___eq__ : Binds K A.d_Number___eq__ ["self", "other"] []
  m_Number___eq__ : PySem.W.findIn K (.ref A.c_Number) "__eq__" = some (some (.ref A.f_Number___eq__))
  i_Number___eq__ : PySem.W.isFn K (.ref A.f_Number___eq__) = true
  F_Bits___init__ : Fun K "__init__" "Bits.__init__" s_Bits___init__ A.f_Bits___init__ A.d_Bits___init__
  k_Bits___init__ : PySem.W.keepIn K (.ref A.f_Bits___init__) = true
  b_Bits___init__ : Binds K A.d_Bits___init__ ["self", "many"] []
  F_Bits___eq__ : Fun K "__eq__" "Bits.__eq__" s_Bits___eq__ A.f_Bits___eq__ A.d_Bits___eq__
  k_Bits___eq__ : PySem.W.keepIn K (.ref A.f_Bits___eq__) = true
  b_Bits___eq__ : Binds K A.d_Bits___eq__ ["self", "other"] []
  m_Bits___eq__ : PySem.W.findIn K (.ref A.c_Bits) "__eq__" = some (some (.ref A.f_Bits___eq__))
  i_Bits___eq__ : PySem.W.isFn K (.ref A.f_Bits___eq__) = true
  F_Call___init__ : Fun K "__init__" "Call.__init__" s_Call___init__ A.f_Call___init__ A.d_Call___init__
  k_Call___init__ : PySem.W.keepIn K (.ref A.f_Call___init__) = true
  b_Call___init__ : Binds K A.d_Call___init__ ["self", "name"] []
  F_Call___eq__ : Fun K "__eq__" "Call.__eq__" s_Call___eq__ A.f_Call___eq__ A.d_Call___eq__
  k_Call___eq__ : PySem.W.keepIn K (.ref A.f_Call___eq__) = true
  b_Call___eq__ : Binds K A.d_Call___eq__ ["self", "other"] []
  m_Call___eq__ : PySem.W.findIn K (.ref A.c_Call) "__eq__" = some (some (.ref A.f_Call___eq__))
  i_Call___eq__ : PySem.W.isFn K (.ref A.f_Call___eq__) = true
  F_Items___init__ : FunD K "__init__" "Items.__init__" (defArgs s_Items___init__) (defBody s_Items___init__) (defScope s_Items___init__) [.non] [] A.f_Items___init__ A.d_Items___init__
  b1_Items___init__ : Binds K A.d_Items___init__ ["self", "item", "width"] [Value.none]
  k_Items___init__ : PySem.W.keepIn K (.ref A.f_Items___init__) = true
  b_Items___init__ : Binds K A.d_Items___init__ ["self", "item", "width"] []
  F_Items___eq__ : Fun K "__eq__" "Items.__eq__" s_Items___eq__ A.f_Items___eq__ A.d_Items___eq__
  k_Items___eq__ : PySem.W.keepIn K (.ref A.f_Items___eq__) = true
  b_Items___eq__ : Binds K A.d_Items___eq__ ["self", "other"] []
  m_Items___eq__ : PySem.W.findIn K (.ref A.c_Items) "__eq__" = some (some (.ref A.f_Items___eq__))
  i_Items___eq__ : PySem.W.isFn K (.ref A.f_Items___eq__) = true
  F_is_simple : Fun K "is_simple" "is_simple" s_is_simple A.f_is_simple A.d_is_simple
  k_is_simple : PySem.W.keepIn K (.ref A.f_is_simple) = true
  b_is_simple : Binds K A.d_is_simple ["thing"] []
  mg_is_simple : mg "is_simple" = some (.ref A.f_is_simple)
  F_check_inner : Fun K "check_inner" "check_inner" s_check_inner A.f_check_inner A.d_check_inner
  k_check_inner : PySem.W.keepIn K (.ref A.f_check_inner) = true
  b_check_inner : Binds K A.d_check_inner ["word", "name", "is_kind"] []
  mg_check_inner : mg "check_inner" = some (.ref A.f_check_inner)
  F_Way___init__ : Fun K "__init__" "Way.__init__" s_Way___init__ A.f_Way___init__ A.d_Way___init__
  k_Way___init__ : PySem.W.keepIn K (.ref A.f_Way___init__) = true
  b_Way___init__ : Binds K A.d_Way___init__ ["self", "word", "name", "kind"] []
  F_Way___eq__ : Fun K "__eq__" "Way.__eq__" s_Way___eq__ A.f_Way___eq__ A.d_Way___eq__
  k_Way___eq__ : PySem.W.keepIn K (.ref A.f_Way___eq__) = true
  b_Way___eq__ : Binds K A.d_Way___eq__ ["self", "other"] []
  m_Way___eq__ : PySem.W.findIn K (.ref A.c_Way) "__eq__" = some (some (.ref A.f_Way___eq__))
  i_Way___eq__ : PySem.W.isFn K (.ref A.f_Way___eq__) = true
  F_Door___init__ : Fun K "__init__" "Door.__init__" s_Door___init__ A.f_Door___init__ A.d_Door___init__
  k_Door___init__ : PySem.W.keepIn K (.ref A.f_Door___init__) = true
  b_Door___init__ : Binds K A.d_Door___init__ ["self", "word", "name", "kind"] []
  F_Door___eq__ : Fun K "__eq__" "Door.__eq__" s_Door___eq__ A.f_Door___eq__ A.d_Door___eq__
  k_Door___eq__ : PySem.W.keepIn K (.ref A.f_Door___eq__) = true
  b_Door___eq__ : Binds K A.d_Door___eq__ ["self", "other"] []
  m_Door___eq__ : PySem.W.findIn K (.ref A.c_Door) "__eq__" = some (some (.ref A.f_Door___eq__))
  i_Door___eq__ : PySem.W.isFn K (.ref A.f_Door___eq__) = true
  F_are_ways : Fun K "are_ways" "are_ways" s_are_ways A.f_are_ways A.d_are_ways
  k_are_ways : PySem.W.keepIn K (.ref A.f_are_ways) = true
  b_are_ways : Binds K A.d_are_ways ["ways"] []
  mg_are_ways : mg "are_ways" = some (.ref A.f_are_ways)
  F_Choice___init__ : Fun K "__init__" "Choice.__init__" s_Choice___init__ A.f_Choice___init__ A.d_Choice___init__
  k_Choice___init__ : PySem.W.keepIn K (.ref A.f_Choice___init__) = true
  b_Choice___init__ : Binds K A.d_Choice___init__ ["self", "ways"] []
  F_Choice___eq__ : Fun K "__eq__" "Choice.__eq__" s_Choice___eq__ A.f_Choice___eq__ A.d_Choice___eq__
  k_Choice___eq__ : PySem.W.keepIn K (.ref A.f_Choice___eq__) = true
  b_Choice___eq__ : Binds K A.d_Choice___eq__ ["self", "other"] []
  m_Choice___eq__ : PySem.W.findIn K (.ref A.c_Choice) "__eq__" = some (some (.ref A.f_Choice___eq__))
  i_Choice___eq__ : PySem.W.isFn K (.ref A.f_Choice___eq__) = true
  F_Part___init__ : Fun K "__init__" "Part.__init__" s_Part___init__ A.f_Part___init__ A.d_Part___init__
  k_Part___init__ : PySem.W.keepIn K (.ref A.f_Part___init__) = true
  b_Part___init__ : Binds K A.d_Part___init__ ["self", "name", "kind"] []
  F_Part___eq__ : Fun K "__eq__" "Part.__eq__" s_Part___eq__ A.f_Part___eq__ A.d_Part___eq__
  k_Part___eq__ : PySem.W.keepIn K (.ref A.f_Part___eq__) = true
  b_Part___eq__ : Binds K A.d_Part___eq__ ["self", "other"] []
  m_Part___eq__ : PySem.W.findIn K (.ref A.c_Part) "__eq__" = some (some (.ref A.f_Part___eq__))
  i_Part___eq__ : PySem.W.isFn K (.ref A.f_Part___eq__) = true
  F_Room___init__ : Fun K "__init__" "Room.__init__" s_Room___init__ A.f_Room___init__ A.d_Room___init__
  k_Room___init__ : PySem.W.keepIn K (.ref A.f_Room___init__) = true
  b_Room___init__ : Binds K A.d_Room___init__ ["self", "word", "name", "kind"] []
  F_Room___eq__ : Fun K "__eq__" "Room.__eq__" s_Room___eq__ A.f_Room___eq__ A.d_Room___eq__
  k_Room___eq__ : PySem.W.keepIn K (.ref A.f_Room___eq__) = true
  b_Room___eq__ : Binds K A.d_Room___eq__ ["self", "other"] []
  m_Room___eq__ : PySem.W.findIn K (.ref A.c_Room) "__eq__" = some (some (.ref A.f_Room___eq__))
  i_Room___eq__ : PySem.W.isFn K (.ref A.f_Room___eq__) = true
  F_are_parts : Fun K "are_parts" "are_parts" s_are_parts A.f_are_parts A.d_are_parts
  k_are_parts : PySem.W.keepIn K (.ref A.f_are_parts) = true
  b_are_parts : Binds K A.d_are_parts ["parts"] []
  mg_are_parts : mg "are_parts" = some (.ref A.f_are_parts)
  F_Row___init__ : Fun K "__init__" "Row.__init__" s_Row___init__ A.f_Row___init__ A.d_Row___init__
  k_Row___init__ : PySem.W.keepIn K (.ref A.f_Row___init__) = true
  b_Row___init__ : Binds K A.d_Row___init__ ["self", "parts"] []
  F_Row___eq__ : Fun K "__eq__" "Row.__eq__" s_Row___eq__ A.f_Row___eq__ A.d_Row___eq__
  k_Row___eq__ : PySem.W.keepIn K (.ref A.f_Row___eq__) = true
  b_Row___eq__ : Binds K A.d_Row___eq__ ["self", "other"] []
  m_Row___eq__ : PySem.W.findIn K (.ref A.c_Row) "__eq__" = some (some (.ref A.f_Row___eq__))
  i_Row___eq__ : PySem.W.isFn K (.ref A.f_Row___eq__) = true
  F__law_is_int : Fun K "_law_is_int" "_law_is_int" s__law_is_int A.f__law_is_int A.d__law_is_int
  k__law_is_int : PySem.W.keepIn K (.ref A.f__law_is_int) = true
  b__law_is_int : Binds K A.d__law_is_int ["told"] []
  mg__law_is_int : mg "_law_is_int" = some (.ref A.f__law_is_int)
  F__law_same_dict : Fun K "_law_same_dict" "_law_same_dict" s__law_same_dict A.f__law_same_dict A.d__law_same_dict
  k__law_same_dict : PySem.W.keepIn K (.ref A.f__law_same_dict) = true
  b__law_same_dict : Binds K A.d__law_same_dict ["told", "due"] []
  mg__law_same_dict : mg "_law_same_dict" = some (.ref A.f__law_same_dict)
  F__law_same : Fun K "_law_same" "_law_same" s__law_same A.f__law_same A.d__law_same
  k__law_same : PySem.W.keepIn K (.ref A.f__law_same) = true
  b__law_same : Binds K A.d__law_same ["told", "due"] []
  mg__law_same : mg "_law_same" = some (.ref A.f__law_same)
  F__law_start : Fun K "_law_start" "_law_start" s__law_start A.f__law_start A.d__law_start
  k__law_start : PySem.W.keepIn K (.ref A.f__law_start) = true
  b__law_start : Binds K A.d__law_start ["script"] []
  mg__law_start : mg "_law_start" = some (.ref A.f__law_start)
  F__law_pull : Fun K "_law_pull" "_law_pull" s__law_pull A.f__law_pull A.d__law_pull
  k__law_pull : PySem.W.keepIn K (.ref A.f__law_pull) = true
  b__law_pull : Binds K A.d__law_pull ["state", "many"] []
  mg__law_pull : mg "_law_pull" = some (.ref A.f__law_pull)
  F__law_name : Fun K "_law_name" "_law_name" s__law_name A.f__law_name A.d__law_name
  k__law_name : PySem.W.keepIn K (.ref A.f__law_name) = true
  b__law_name : Binds K A.d__law_name ["state", "taken"] []
  mg__law_name : mg "_law_name" = some (.ref A.f__law_name)
  F__law_bits : Fun K "_law_bits" "_law_bits" s__law_bits A.f__law_bits A.d__law_bits
  k__law_bits : PySem.W.keepIn K (.ref A.f__law_bits) = true
  b__law_bits : Binds K A.d__law_bits ["state", "many"] []
  mg__law_bits : mg "_law_bits" = some (.ref A.f__law_bits)
  F__law_words : Fun K "_law_words" "_law_words" s__law_words A.f__law_words A.d__law_words
  k__law_words : PySem.W.keepIn K (.ref A.f__law_words) = true
  b__law_words : Binds K A.d__law_words ["state", "many"] []
  mg__law_words : mg "_law_words" = some (.ref A.f__law_words)
  F__law_odd : Fun K "_law_odd" "_law_odd" s__law_odd A.f__law_odd A.d__law_odd
  k__law_odd : PySem.W.keepIn K (.ref A.f__law_odd) = true
  b__law_odd : Binds K A.d__law_odd ["state"] []
  mg__law_odd : mg "_law_odd" = some (.ref A.f__law_odd)
  F__law_object : Fun K "_law_object" "_law_object" s__law_object A.f__law_object A.d__law_object
  k__law_object : PySem.W.keepIn K (.ref A.f__law_object) = true
  b__law_object : Binds K A.d__law_object ["turn"] []
  mg__law_object : mg "_law_object" = some (.ref A.f__law_object)
  F__law_rows : Fun K "_law_rows" "_law_rows" s__law_rows A.f__law_rows A.d__law_rows
  k__law_rows : PySem.W.keepIn K (.ref A.f__law_rows) = true
  b__law_rows : Binds K A.d__law_rows ["state", "rows"] []
  mg__law_rows : mg "_law_rows" = some (.ref A.f__law_rows)
  F__law_spoil : Fun K "_law_spoil" "_law_spoil" s__law_spoil A.f__law_spoil A.d__law_spoil
  k__law_spoil : PySem.W.keepIn K (.ref A.f__law_spoil) = true
  b__law_spoil : Binds K A.d__law_spoil ["state", "plain"] []
  mg__law_spoil : mg "_law_spoil" = some (.ref A.f__law_spoil)
  F__law_one : Fun K "_law_one" "_law_one" s__law_one A.f__law_one A.d__law_one
  k__law_one : PySem.W.keepIn K (.ref A.f__law_one) = true
  b__law_one : Binds K A.d__law_one ["rows", "entry"] []
  mg__law_one : mg "_law_one" = some (.ref A.f__law_one)
  F__law_plain : Fun K "_law_plain" "_law_plain" s__law_plain A.f__law_plain A.d__law_plain
  k__law_plain : PySem.W.keepIn K (.ref A.f__law_plain) = true
  b__law_plain : Binds K A.d__law_plain ["rows", "entry"] []
  mg__law_plain : mg "_law_plain" = some (.ref A.f__law_plain)
  F__law_good : Fun K "_law_good" "_law_good" s__law_good A.f__law_good A.d__law_good
  k__law_good : PySem.W.keepIn K (.ref A.f__law_good) = true
  b__law_good : Binds K A.d__law_good ["rows", "plain"] []
  mg__law_good : mg "_law_good" = some (.ref A.f__law_good)
  F__law_make : Fun K "_law_make" "_law_make" s__law_make A.f__law_make A.d__law_make
  k__law_make : PySem.W.keepIn K (.ref A.f__law_make) = true
  b__law_make : Binds K A.d__law_make ["rows", "passed"] []
  mg__law_make : mg "_law_make" = some (.ref A.f__law_make)
  F__law_told : Fun K "_law_told" "_law_told" s__law_told A.f__law_told A.d__law_told
  k__law_told : PySem.W.keepIn K (.ref A.f__law_told) = true
  b__law_told : Binds K A.d__law_told ["rows", "passed"] []
  mg__law_told : mg "_law_told" = some (.ref A.f__law_told)
  F__law_is_right : Fun K "_law_is_right" "_law_is_right" s__law_is_right A.f__law_is_right A.d__law_is_right
  k__law_is_right : PySem.W.keepIn K (.ref A.f__law_is_right) = true
  b__law_is_right : Binds K A.d__law_is_right ["rows", "which", "made"] []
  mg__law_is_right : mg "_law_is_right" = some (.ref A.f__law_is_right)
  F__law_kept : Fun K "_law_kept" "_law_kept" s__law_kept A.f__law_kept A.d__law_kept
  k__law_kept : PySem.W.keepIn K (.ref A.f__law_kept) = true
  b__law_kept : Binds K A.d__law_kept ["rows", "given", "plain", "told"] []
  mg__law_kept : mg "_law_kept" = some (.ref A.f__law_kept)
  F__law_after_change : Fun K "_law_after_change" "_law_after_change" s__law_after_change A.f__law_after_change A.d__law_after_change
  k__law_after_change : PySem.W.keepIn K (.ref A.f__law_after_change) = true
  b__law_after_change : Binds K A.d__law_after_change ["rows", "given"] []
  mg__law_after_change : mg "_law_after_change" = some (.ref A.f__law_after_change)
  F_law : Fun K "law" "law" s_law A.f_law A.d_law
  k_law : PySem.W.keepIn K (.ref A.f_law) = true
  b_law : Binds K A.d_law ["script"] []
  mg_law : mg "law" = some (.ref A.f_law)
  mg_Nothing : mg "Nothing" = some (.ref A.c_Nothing)
  cl_Nothing : Cls K A.c_Nothing
  mo_Nothing : PySem.W.makesIn K A.c_Nothing = true
  io_Nothing : PySem.W.findIn K (.ref A.c_Nothing) "__init__" = some (some (.builtin "object.__init__"))
  kc_Nothing : PySem.W.keepIn K (.ref A.c_Nothing) = true
  o_Nothing : ClsO K A.c_Nothing "Nothing"
  isc_Nothing : C8.InsC K A.c_Nothing
  eq_Nothing : EqC K A.c_Nothing A.f_Nothing___eq__
  mg_Number : mg "Number" = some (.ref A.c_Number)
  cl_Number : Cls K A.c_Number
  mk_Number : Mk K A.c_Number A.f_Number___init__
  kc_Number : PySem.W.keepIn K (.ref A.c_Number) = true
  o_Number : ClsO K A.c_Number "Number"
  n_Number_low : NoAttr K A.c_Number "low"
  n_Number_high : NoAttr K A.c_Number "high"
  n_Number_width : NoAttr K A.c_Number "width"
  isc_Number : C8.InsC K A.c_Number
  eq_Number : EqC K A.c_Number A.f_Number___eq__
  mg_Bits : mg "Bits" = some (.ref A.c_Bits)
  cl_Bits : Cls K A.c_Bits
  mk_Bits : Mk K A.c_Bits A.f_Bits___init__
  kc_Bits : PySem.W.keepIn K (.ref A.c_Bits) = true
  o_Bits : ClsO K A.c_Bits "Bits"
  n_Bits_many : NoAttr K A.c_Bits "many"
  isc_Bits : C8.InsC K A.c_Bits
  eq_Bits : EqC K A.c_Bits A.f_Bits___eq__
  mg_Call : mg "Call" = some (.ref A.c_Call)
  cl_Call : Cls K A.c_Call
  mk_Call : Mk K A.c_Call A.f_Call___init__
  kc_Call : PySem.W.keepIn K (.ref A.c_Call) = true
  o_Call : ClsO K A.c_Call "Call"
  n_Call_name : NoAttr K A.c_Call "name"
  isc_Call : C8.InsC K A.c_Call
  eq_Call : EqC K A.c_Call A.f_Call___eq__
  mg_Items : mg "Items" = some (.ref A.c_Items)
  cl_Items : Cls K A.c_Items
  mk_Items : Mk K A.c_Items A.f_Items___init__
  kc_Items : PySem.W.keepIn K (.ref A.c_Items) = true
  o_Items : ClsO K A.c_Items "Items"
  n_Items_item : NoAttr K A.c_Items "item"
  n_Items_width : NoAttr K A.c_Items "width"
  isc_Items : C8.InsC K A.c_Items
  eq_Items : EqC K A.c_Items A.f_Items___eq__
  mg_Way : mg "Way" = some (.ref A.c_Way)
  cl_Way : Cls K A.c_Way
  mk_Way : Mk K A.c_Way A.f_Way___init__
  kc_Way : PySem.W.keepIn K (.ref A.c_Way) = true
  o_Way : ClsO K A.c_Way "Way"
  n_Way_word : NoAttr K A.c_Way "word"
  n_Way_name : NoAttr K A.c_Way "name"
  n_Way_kind : NoAttr K A.c_Way "kind"
  isc_Way : C8.InsC K A.c_Way
  eq_Way : EqC K A.c_Way A.f_Way___eq__
  mg_Door : mg "Door" = some (.ref A.c_Door)
  cl_Door : Cls K A.c_Door
  mk_Door : Mk K A.c_Door A.f_Door___init__
  kc_Door : PySem.W.keepIn K (.ref A.c_Door) = true
  o_Door : ClsO K A.c_Door "Door"
  n_Door_word : NoAttr K A.c_Door "word"
  n_Door_name : NoAttr K A.c_Door "name"
  n_Door_kind : NoAttr K A.c_Door "kind"
  isc_Door : C8.InsC K A.c_Door
  eq_Door : EqC K A.c_Door A.f_Door___eq__
  mg_Choice : mg "Choice" = some (.ref A.c_Choice)
  cl_Choice : Cls K A.c_Choice
  mk_Choice : Mk K A.c_Choice A.f_Choice___init__
  kc_Choice : PySem.W.keepIn K (.ref A.c_Choice) = true
  o_Choice : ClsO K A.c_Choice "Choice"
  n_Choice_ways : NoAttr K A.c_Choice "ways"
  isc_Choice : C8.InsC K A.c_Choice
  eq_Choice : EqC K A.c_Choice A.f_Choice___eq__
  mg_Part : mg "Part" = some (.ref A.c_Part)
  cl_Part : Cls K A.c_Part
  mk_Part : Mk K A.c_Part A.f_Part___init__
  kc_Part : PySem.W.keepIn K (.ref A.c_Part) = true
  o_Part : ClsO K A.c_Part "Part"
  n_Part_name : NoAttr K A.c_Part "name"
  n_Part_kind : NoAttr K A.c_Part "kind"
  isc_Part : C8.InsC K A.c_Part
  eq_Part : EqC K A.c_Part A.f_Part___eq__
  mg_Room : mg "Room" = some (.ref A.c_Room)
  cl_Room : Cls K A.c_Room
  mk_Room : Mk K A.c_Room A.f_Room___init__
  kc_Room : PySem.W.keepIn K (.ref A.c_Room) = true
  o_Room : ClsO K A.c_Room "Room"
  n_Room_word : NoAttr K A.c_Room "word"
  n_Room_name : NoAttr K A.c_Room "name"
  n_Room_kind : NoAttr K A.c_Room "kind"
  isc_Room : C8.InsC K A.c_Room
  eq_Room : EqC K A.c_Room A.f_Room___eq__
  mg_Row : mg "Row" = some (.ref A.c_Row)
  cl_Row : Cls K A.c_Row
  mk_Row : Mk K A.c_Row A.f_Row___init__
  kc_Row : PySem.W.keepIn K (.ref A.c_Row) = true
  o_Row : ClsO K A.c_Row "Row"
  n_Row_parts : NoAttr K A.c_Row "parts"
  isc_Row : C8.InsC K A.c_Row
  eq_Row : EqC K A.c_Row A.f_Row___eq__
  mg_RoomError : mg "RoomError" = some (.ref A.c_RoomError)
  te_RoomError : PySem.W.exmOne K (.ref A.c_RoomError) (.ref A.c_RoomError) = some true
  mg_BadKind : mg "BadKind" = some (.ref A.c_BadKind)
  te_BadKind : PySem.W.exmOne K (.ref A.c_BadKind) (.ref A.c_BadKind) = some true
  oex_BadKind : OexC K A.c_BadKind
  xf_BadKind : XfC K A.c_BadKind
  ix_BadKind : PySem.W.findIn K (.ref A.c_BadKind) "__init__" = some (some (.ref A.f_BadKind___init__))
  tx_BadKind : PySem.W.typeIn K (.ref A.f_BadKind___init__) = some (.type "function")
  nx_BadKind_part : PySem.W.findIn K (.ref A.c_BadKind) "part" = some none
  b_ValueError : mg "ValueError" = none
  b_bool : mg "bool" = none
  b_dict : mg "dict" = none
  b_enumerate : mg "enumerate" = none
  b_int : mg "int" = none
  b_isinstance : mg "isinstance" = none
  b_len : mg "len" = none
  b_list : mg "list" = none
  b_max : mg "max" = none
  b_range : mg "range" = none
  b_str : mg "str" = none
  b_tuple : mg "tuple" = none
  mg_LETTERS : ∃ u, mg "LETTERS" = some u ∧ RelV (.str "abcdefghijklmnopqrstuvwxyz") u
abbrev N_BadKind___init__ : List Str := ["self", "part"]
theorem sc_BadKind___init__ : FnScope ["self", "part"] ["self", "part"] (defScope s_BadKind___init__) := ⟨rfl, rfl, rfl, by decide +kernel, rfl, by decide +kernel, by decide +kernel⟩
abbrev N_is_integer : List Str := ["thing"]
theorem sc_is_integer : FnScope ["thing"] ["thing"] (defScope s_is_integer) := ⟨rfl, rfl, rfl, by decide +kernel, rfl, by decide +kernel, by decide +kernel⟩
abbrev N_is_bits : List Str := ["thing", "sign"]
theorem sc_is_bits : FnScope ["thing", "sign"] ["thing"] (defScope s_is_bits) := ⟨rfl, rfl, rfl, by decide +kernel, rfl, by decide +kernel, by decide +kernel⟩
abbrev N_is_name : List Str := ["thing", "sign"]
theorem sc_is_name : FnScope ["thing", "sign"] ["thing"] (defScope s_is_name) := ⟨rfl, rfl, rfl, by decide +kernel, rfl, by decide +kernel, by decide +kernel⟩
abbrev N_is_word : List Str := ["thing"]
theorem sc_is_word : FnScope ["thing"] ["thing"] (defScope s_is_word) := ⟨rfl, rfl, rfl, by decide +kernel, rfl, by decide +kernel, by decide +kernel⟩
abbrev N_begins : List Str := ["one", "other"]
theorem sc_begins : FnScope ["one", "other"] ["one", "other"] (defScope s_begins) := ⟨rfl, rfl, rfl, by decide +kernel, rfl, by decide +kernel, by decide +kernel⟩
abbrev N_Nothing___eq__ : List Str := ["self", "other"]
theorem sc_Nothing___eq__ : FnScope ["self", "other"] ["self", "other"] (defScope s_Nothing___eq__) := ⟨rfl, rfl, rfl, by decide +kernel, rfl, by decide +kernel, by decide +kernel⟩
abbrev N_is_width : List Str := ["width", "many"]
theorem sc_is_width : FnScope ["width", "many"] ["width", "many"] (defScope s_is_width) := ⟨rfl, rfl, rfl, by decide +kernel, rfl, by decide +kernel, by decide +kernel⟩
abbrev N_Number___init__ : List Str := ["self", "low", "high", "width"]
theorem sc_Number___init__ : FnScope ["self", "low", "high", "width"] ["self", "low", "high", "width"] (defScope s_Number___init__) := ⟨rfl, rfl, rfl, by decide +kernel, rfl, by decide +kernel, by decide +kernel⟩
abbrev N_Number___eq__ : List Str := ["self", "other"]
theorem sc_Number___eq__ : FnScope ["self", "other"] ["self", "other"] (defScope s_Number___eq__) := ⟨rfl, rfl, rfl, by decide +kernel, rfl, by decide +kernel, by decide +kernel⟩
abbrev N_Bits___init__ : List Str := ["self", "many"]
theorem sc_Bits___init__ : FnScope ["self", "many"] ["self", "many"] (defScope s_Bits___init__) := ⟨rfl, rfl, rfl, by decide +kernel, rfl, by decide +kernel, by decide +kernel⟩
abbrev N_Bits___eq__ : List Str := ["self", "other"]
theorem sc_Bits___eq__ : FnScope ["self", "other"] ["self", "other"] (defScope s_Bits___eq__) := ⟨rfl, rfl, rfl, by decide +kernel, rfl, by decide +kernel, by decide +kernel⟩
abbrev N_Call___init__ : List Str := ["self", "name"]
theorem sc_Call___init__ : FnScope ["self", "name"] ["self", "name"] (defScope s_Call___init__) := ⟨rfl, rfl, rfl, by decide +kernel, rfl, by decide +kernel, by decide +kernel⟩
abbrev N_Call___eq__ : List Str := ["self", "other"]
theorem sc_Call___eq__ : FnScope ["self", "other"] ["self", "other"] (defScope s_Call___eq__) := ⟨rfl, rfl, rfl, by decide +kernel, rfl, by decide +kernel, by decide +kernel⟩
abbrev N_Items___init__ : List Str := ["self", "item", "width"]
theorem sc_Items___init__ : FnScope ["self", "item", "width"] ["self", "item", "width"] (defScope s_Items___init__) := ⟨rfl, rfl, rfl, by decide +kernel, rfl, by decide +kernel, by decide +kernel⟩
abbrev N_Items___eq__ : List Str := ["self", "other"]
theorem sc_Items___eq__ : FnScope ["self", "other"] ["self", "other"] (defScope s_Items___eq__) := ⟨rfl, rfl, rfl, by decide +kernel, rfl, by decide +kernel, by decide +kernel⟩
abbrev N_is_simple : List Str := ["thing"]
theorem sc_is_simple : FnScope ["thing"] ["thing"] (defScope s_is_simple) := ⟨rfl, rfl, rfl, by decide +kernel, rfl, by decide +kernel, by decide +kernel⟩
abbrev N_check_inner : List Str := ["word", "name", "is_kind"]
theorem sc_check_inner : FnScope ["word", "name", "is_kind"] ["word", "name", "is_kind"] (defScope s_check_inner) := ⟨rfl, rfl, rfl, by decide +kernel, rfl, by decide +kernel, by decide +kernel⟩
abbrev N_Way___init__ : List Str := ["self", "word", "name", "kind"]
theorem sc_Way___init__ : FnScope ["self", "word", "name", "kind"] ["self", "word", "name", "kind"] (defScope s_Way___init__) := ⟨rfl, rfl, rfl, by decide +kernel, rfl, by decide +kernel, by decide +kernel⟩
abbrev N_Way___eq__ : List Str := ["self", "other"]
theorem sc_Way___eq__ : FnScope ["self", "other"] ["self", "other"] (defScope s_Way___eq__) := ⟨rfl, rfl, rfl, by decide +kernel, rfl, by decide +kernel, by decide +kernel⟩
abbrev N_Door___init__ : List Str := ["self", "word", "name", "kind"]
theorem sc_Door___init__ : FnScope ["self", "word", "name", "kind"] ["self", "word", "name", "kind"] (defScope s_Door___init__) := ⟨rfl, rfl, rfl, by decide +kernel, rfl, by decide +kernel, by decide +kernel⟩
abbrev N_Door___eq__ : List Str := ["self", "other"]
theorem sc_Door___eq__ : FnScope ["self", "other"] ["self", "other"] (defScope s_Door___eq__) := ⟨rfl, rfl, rfl, by decide +kernel, rfl, by decide +kernel, by decide +kernel⟩
abbrev N_are_ways : List Str := ["ways", "plain", "at", "way", "other"]
theorem sc_are_ways : FnScope ["ways", "plain", "at", "way", "other"] ["ways"] (defScope s_are_ways) := ⟨rfl, rfl, rfl, by decide +kernel, rfl, by decide +kernel, by decide +kernel⟩
abbrev N_Choice___init__ : List Str := ["self", "ways"]
theorem sc_Choice___init__ : FnScope ["self", "ways"] ["self", "ways"] (defScope s_Choice___init__) := ⟨rfl, rfl, rfl, by decide +kernel, rfl, by decide +kernel, by decide +kernel⟩
abbrev N_Choice___eq__ : List Str := ["self", "other"]
theorem sc_Choice___eq__ : FnScope ["self", "other"] ["self", "other"] (defScope s_Choice___eq__) := ⟨rfl, rfl, rfl, by decide +kernel, rfl, by decide +kernel, by decide +kernel⟩
abbrev N_Part___init__ : List Str := ["self", "name", "kind"]
theorem sc_Part___init__ : FnScope ["self", "name", "kind"] ["self", "name", "kind"] (defScope s_Part___init__) := ⟨rfl, rfl, rfl, by decide +kernel, rfl, by decide +kernel, by decide +kernel⟩
abbrev N_Part___eq__ : List Str := ["self", "other"]
theorem sc_Part___eq__ : FnScope ["self", "other"] ["self", "other"] (defScope s_Part___eq__) := ⟨rfl, rfl, rfl, by decide +kernel, rfl, by decide +kernel, by decide +kernel⟩
abbrev N_Room___init__ : List Str := ["self", "word", "name", "kind"]
theorem sc_Room___init__ : FnScope ["self", "word", "name", "kind"] ["self", "word", "name", "kind"] (defScope s_Room___init__) := ⟨rfl, rfl, rfl, by decide +kernel, rfl, by decide +kernel, by decide +kernel⟩
abbrev N_Room___eq__ : List Str := ["self", "other"]
theorem sc_Room___eq__ : FnScope ["self", "other"] ["self", "other"] (defScope s_Room___eq__) := ⟨rfl, rfl, rfl, by decide +kernel, rfl, by decide +kernel, by decide +kernel⟩
abbrev N_are_parts : List Str := ["parts", "at", "part", "other"]
theorem sc_are_parts : FnScope ["parts", "at", "part", "other"] ["parts"] (defScope s_are_parts) := ⟨rfl, rfl, rfl, by decide +kernel, rfl, by decide +kernel, by decide +kernel⟩
abbrev N_Row___init__ : List Str := ["self", "parts"]
theorem sc_Row___init__ : FnScope ["self", "parts"] ["self", "parts"] (defScope s_Row___init__) := ⟨rfl, rfl, rfl, by decide +kernel, rfl, by decide +kernel, by decide +kernel⟩
abbrev N_Row___eq__ : List Str := ["self", "other"]
theorem sc_Row___eq__ : FnScope ["self", "other"] ["self", "other"] (defScope s_Row___eq__) := ⟨rfl, rfl, rfl, by decide +kernel, rfl, by decide +kernel, by decide +kernel⟩
abbrev N__law_is_int : List Str := ["told"]
theorem sc__law_is_int : FnScope ["told"] ["told"] (defScope s__law_is_int) := ⟨rfl, rfl, rfl, by decide +kernel, rfl, by decide +kernel, by decide +kernel⟩
abbrev N__law_same_dict : List Str := ["told", "due", "key"]
theorem sc__law_same_dict : FnScope ["told", "due", "key"] ["told", "due"] (defScope s__law_same_dict) := ⟨rfl, rfl, rfl, by decide +kernel, rfl, by decide +kernel, by decide +kernel⟩
abbrev N__law_same : List Str := ["told", "due", "k"]
theorem sc__law_same : FnScope ["told", "due", "k"] ["told", "due"] (defScope s__law_same) := ⟨rfl, rfl, rfl, by decide +kernel, rfl, by decide +kernel, by decide +kernel⟩
abbrev N__law_start : List Str := ["script"]
theorem sc__law_start : FnScope ["script"] ["script"] (defScope s__law_start) := ⟨rfl, rfl, rfl, by decide +kernel, rfl, by decide +kernel, by decide +kernel⟩
abbrev N__law_pull : List Str := ["state", "many", "cell", "number"]
theorem sc__law_pull : FnScope ["state", "many", "cell", "number"] ["state", "many"] (defScope s__law_pull) := ⟨rfl, rfl, rfl, by decide +kernel, rfl, by decide +kernel, by decide +kernel⟩
abbrev N__law_name : List Str := ["state", "taken", "letters", "word", "k", "letter"]
theorem sc__law_name : FnScope ["state", "taken", "letters", "word", "k", "letter"] ["state", "taken"] (defScope s__law_name) := ⟨rfl, rfl, rfl, by decide +kernel, rfl, by decide +kernel, by decide +kernel⟩
abbrev N__law_bits : List Str := ["state", "many", "text", "k"]
theorem sc__law_bits : FnScope ["state", "many", "text", "k"] ["state", "many"] (defScope s__law_bits) := ⟨rfl, rfl, rfl, by decide +kernel, rfl, by decide +kernel, by decide +kernel⟩
abbrev N__law_words : List Str := ["state", "many", "leaves", "k", "short", "leaf", "words"]
theorem sc__law_words : FnScope ["state", "many", "leaves", "k", "short", "leaf", "words"] ["state", "many"] (defScope s__law_words) := ⟨rfl, rfl, rfl, by decide +kernel, rfl, by decide +kernel, by decide +kernel⟩
abbrev N__law_odd : List Str := ["state", "things"]
theorem sc__law_odd : FnScope ["state", "things"] ["state"] (defScope s__law_odd) := ⟨rfl, rfl, rfl, by decide +kernel, rfl, by decide +kernel, by decide +kernel⟩
abbrev N__law_object : List Str := ["turn"]
theorem sc__law_object : FnScope ["turn"] ["turn"] (defScope s__law_object) := ⟨rfl, rfl, rfl, by decide +kernel, rfl, by decide +kernel, by decide +kernel⟩
abbrev N__law_rows : List Str := ["state", "rows", "plain", "taken", "many", "words", "k", "word", "name"]
theorem sc__law_rows : FnScope ["state", "rows", "plain", "taken", "many", "words", "k", "word", "name"] ["state", "rows"] (defScope s__law_rows) := ⟨rfl, rfl, rfl, by decide +kernel, rfl, by decide +kernel, by decide +kernel⟩
abbrev N__law_spoil : List Str := ["state", "plain", "at", "other", "turn", "entry"]
theorem sc__law_spoil : FnScope ["state", "plain", "at", "other", "turn", "entry"] ["state", "plain"] (defScope s__law_spoil) := ⟨rfl, rfl, rfl, by decide +kernel, rfl, by decide +kernel, by decide +kernel⟩
abbrev N__law_one : List Str := ["rows", "entry"]
theorem sc__law_one : FnScope ["rows", "entry"] ["rows", "entry"] (defScope s__law_one) := ⟨rfl, rfl, rfl, by decide +kernel, rfl, by decide +kernel, by decide +kernel⟩
abbrev N__law_plain : List Str := ["rows", "entry"]
theorem sc__law_plain : FnScope ["rows", "entry"] ["rows", "entry"] (defScope s__law_plain) := ⟨rfl, rfl, rfl, by decide +kernel, rfl, by decide +kernel, by decide +kernel⟩
abbrev N__law_good : List Str := ["rows", "plain", "most", "entry", "k", "j", "one", "other"]
theorem sc__law_good : FnScope ["rows", "plain", "most", "entry", "k", "j", "one", "other"] ["rows", "plain"] (defScope s__law_good) := ⟨rfl, rfl, rfl, by decide +kernel, rfl, by decide +kernel, by decide +kernel⟩
abbrev N__law_make : List Str := ["rows", "passed"]
theorem sc__law_make : FnScope ["rows", "passed"] ["rows", "passed"] (defScope s__law_make) := ⟨rfl, rfl, rfl, by decide +kernel, rfl, by decide +kernel, by decide +kernel⟩
abbrev N__law_told : List Str := ["rows", "passed", "e"]
theorem sc__law_told : FnScope ["rows", "passed", "e"] ["rows", "passed"] (defScope s__law_told) := ⟨rfl, rfl, rfl, by decide +kernel, rfl, by decide +kernel, by decide +kernel⟩
abbrev N__law_is_right : List Str := ["rows", "which", "made"]
theorem sc__law_is_right : FnScope ["rows", "which", "made"] ["rows", "which", "made"] (defScope s__law_is_right) := ⟨rfl, rfl, rfl, by decide +kernel, rfl, by decide +kernel, by decide +kernel⟩
abbrev N__law_kept : List Str := ["rows", "given", "plain", "told", "k"]
theorem sc__law_kept : FnScope ["rows", "given", "plain", "told", "k"] ["rows", "given", "plain", "told"] (defScope s__law_kept) := ⟨rfl, rfl, rfl, by decide +kernel, rfl, by decide +kernel, by decide +kernel⟩
abbrev N__law_after_change : List Str := ["rows", "given", "passed", "entry", "row", "choice"]
theorem sc__law_after_change : FnScope ["rows", "given", "passed", "entry", "row", "choice"] ["rows", "given"] (defScope s__law_after_change) := ⟨rfl, rfl, rfl, by decide +kernel, rfl, by decide +kernel, by decide +kernel⟩
abbrev N_law : List Str := ["script", "state", "rows", "given", "shape", "wrong", "passed", "entry", "told", "plain"]
theorem sc_law : FnScope ["script", "state", "rows", "given", "shape", "wrong", "passed", "entry", "told", "plain"] ["script"] (defScope s_law) := ⟨rfl, rfl, rfl, by decide +kernel, rfl, by decide +kernel, by decide +kernel⟩
/-! the kinds, told as plain data -/
inductive Kd where
  | num (lo hi : Int) (w : Option Int)
  | bits (n : Int)
  | call (s : Str)
  | items (i : Kd) (w : Option Int)
  | nothing
  | none
  | way (word name : Str) (k : Kd)
  | door (word name : Str) (k : Kd)
  | part (name : Str) (k : Kd)
  | room (word name : Str) (k : Kd)
  | choice (ks : List Kd)
  | row (ks : List Kd)
inductive Kc where
  | num | bits | call | items | nothing | way | door | part | room | choice | row
  deriving DecidableEq
def Kd.cls : Kd → Option Kc
  | .num _ _ _ => some .num
  | .bits _ => some .bits
  | .call _ => some .call
  | .items _ _ => some .items
  | .nothing => some .nothing
  | .none => Option.none
  | .way _ _ _ => some .way
  | .door _ _ _ => some .door
  | .part _ _ => some .part
  | .room _ _ _ => some .room
  | .choice _ => some .choice
  | .row _ => some .row
def Ad.kc (A : Ad) : Kc → Addr
  | .num => A.c_Number
  | .bits => A.c_Bits
  | .call => A.c_Call
  | .items => A.c_Items
  | .nothing => A.c_Nothing
  | .way => A.c_Way
  | .door => A.c_Door
  | .part => A.c_Part
  | .room => A.c_Room
  | .choice => A.c_Choice
  | .row => A.c_Row
def kcName : Kc → Str
  | .num => "Number"
  | .bits => "Bits"
  | .call => "Call"
  | .items => "Items"
  | .nothing => "Nothing"
  | .way => "Way"
  | .door => "Door"
  | .part => "Part"
  | .room => "Room"
  | .choice => "Choice"
  | .row => "Row"
theorem kcName_ne (c d : Kc) (n : c ≠ d) : ¬ kcName c = kcName d := by
  cases c <;> cases d <;> first | exact absurd rfl n | (show ¬ Str.ofString _ = Str.ofString _; decide +kernel)
mutual
def Kd.eqk : Kd → Kd → Bool
  | .num a b w, .num a' b' w' => decide (a = a') && (decide (b = b') && decide (w = w'))
  | .bits n, .bits m => decide (n = m)
  | .call s, .call t => decide (s = t)
  | .items i w, .items j x => i.eqk j && decide (w = x)
  | .nothing, .nothing => true
  | .none, .none => true
  | .way w n k, .way w' n' k' => decide (w = w') && (decide (n = n') && k.eqk k')
  | .door w n k, .door w' n' k' => decide (w = w') && (decide (n = n') && k.eqk k')
  | .part n k, .part n' k' => decide (n = n') && k.eqk k'
  | .room w n k, .room w' n' k' => decide (w = w') && (decide (n = n') && k.eqk k')
  | .choice ks, .choice js => Kd.eqAll ks js
  | .row ks, .row js => Kd.eqAll ks js
  | _, _ => false
def Kd.eqAll : List Kd → List Kd → Bool
  | [], [] => true
  | k :: ks, j :: js => k.eqk j && Kd.eqAll ks js
  | _, _ => false
end
mutual
/-- nowhere None meets an instance -/
def Kd.nn : Kd → Kd → Bool
  | .door _ _ k, .door _ _ k' => decide (k.cls = Option.none) == decide (k'.cls = Option.none)
  | .room _ _ k, .room _ _ k' => decide (k.cls = Option.none) == decide (k'.cls = Option.none)
  | .choice ks, .choice js => Kd.nnAll ks js
  | .row ks, .row js => Kd.nnAll ks js
  | _, _ => true
def Kd.nnAll : List Kd → List Kd → Bool
  | k :: ks, j :: js => k.nn j && Kd.nnAll ks js
  | _, _ => true
end
def oi : Option Int → V
  | some i => .int i
  | none => .non
def oiOf : V → Option Int
  | .int i => some i
  | _ => none
def intOf : V → Int
  | .int i => i
  | _ => 0
def strOf : V → Str
  | .str x => x
  | _ => Str.empty
/-- an instance of C with these fields -/
def Ob (C : Addr) (H : Hp) (x : Addr) (l : List (Str × V)) : Prop := ∃ dx fs, H x = some (.ins C dx fs) ∧ ∀ p ∈ l, fs.lookup p.1 = some p.2
/-- each instance and each tuple stands, each thing keeps its sort -/
structure KI (H H' : Hp) : Prop where
  k : KK H H'
  i : ∀ b C dx fs, H b = some (.ins C dx fs) → H' b = some (.ins C dx fs)
  t : TupKeep H H'
theorem KI.same {H H' : Hp} (e : Same H H') : KI H H' := ⟨KK.same e, fun b C dx fs h => e _ _ h, fun b xs h => e _ _ h⟩
theorem KI.refl {H : Hp} : KI H H := KI.same fun _ _ h => h
theorem KI.trans {H H1 H2 : Hp} (a : KI H H1) (b : KI H1 H2) : KI H H2 := ⟨a.k.trans b.k, fun c C dx fs h => b.i _ _ _ _ (a.i _ _ _ _ h), a.t.trans b.t⟩
theorem KI.chg {d : Dr} {H H' : Hp} (r : Rng d H) (r' : Rng d H') (e : Chg d H H') : KI H H' := by
  obtain ⟨ys, hp, _⟩ := r.atp
  exact ⟨KK.chg r r' e, fun b C dx fs h => e _ _ (ne_lst hp h fun ys => by intro z; cases z) h, TupKeep.chg r e⟩
theorem KI.setL {H : Hp} {D : Addr} {xs ys : List V} (h : H D = some (.lst xs)) : KI H (upd H D (.lst ys)) :=
  ⟨KK.setL h, fun b C dx fs h2 => by rw [upd_ne (ne_lst h h2 fun ys => by intro z; cases z)]; exact h2, TupKeep.set h⟩
theorem KI.new {H : Hp} {D : Addr} {o : HO} (h : H D = none) : KI H (upd H D o) := KI.same fun b u e => by rw [upd_ne (ne_of_none e h)]; exact e
theorem Ob.keep {C : Addr} {H H' : Hp} {x : Addr} {l : List (Str × V)} (e : KI H H') (h : Ob C H x l) : Ob C H' x l := by
  obtain ⟨dx, fs, h1, h2⟩ := h
  exact ⟨dx, fs, e.i _ _ _ _ h1, h2⟩
/-- what a thing is: a kind (None among them), or of another built-in type -/
inductive Td where
  | k (d : Kd)
  | raw (n : String)
def Td.cls : Td → Option Kc
  | .k d => d.cls
  | .raw _ => none
def Td.kd : Td → Kd
  | .k d => d
  | .raw _ => .none
def Td.tag (A : Ad) : Td → Value
  | .k d => match d.cls with
    | some c => .ref (A.kc c)
    | none => .type "NoneType"
  | .raw n => .type n
def Td.item (t : Td) : Bool := [Kc.num, .bits, .call].any fun c => decide (t.cls = some c)
def Td.simple (t : Td) : Bool := [Kc.num, .bits, .items, .call].any fun c => decide (t.cls = some c)
def Td.way (t : Td) : Bool := t.simple || decide (t.cls = some .nothing)
def Td.isNone : Td → Bool
  | .k .none => true
  | _ => false
def Td.door (t : Td) : Bool := t.isNone || (t.simple || decide (t.cls = some .nothing))
def Td.room (t : Td) : Bool := t.isNone || t.simple
def Td.wd (t : Td) : Bool := [Kc.way, .door].any fun c => decide (t.cls = some c)
def Td.pr (t : Td) : Bool := [Kc.part, .room].any fun c => decide (t.cls = some c)
mutual
inductive KAt (A : Ad) (H : Hp) : V → Kd → Prop where
  | num {x : Addr} {lo hi : Int} {w : Option Int} (h : Ob A.c_Number H x [("low", .int lo), ("high", .int hi), ("width", oi w)]) : KAt A H (.ref x) (.num lo hi w)
  | bits {x : Addr} {n : Int} (h : Ob A.c_Bits H x [("many", .int n)]) : KAt A H (.ref x) (.bits n)
  | call {x : Addr} {s : Str} (h : Ob A.c_Call H x [("name", .str s)]) : KAt A H (.ref x) (.call s)
  | items {x : Addr} {v : V} {i : Kd} {w : Option Int} (h : Ob A.c_Items H x [("item", v), ("width", oi w)]) (k : KAt A H v i) (o : (Td.k i).item = true) : KAt A H (.ref x) (.items i w)
  | nothing {x : Addr} (h : Ob A.c_Nothing H x []) : KAt A H (.ref x) .nothing
  | none : KAt A H .non .none
  | way {x : Addr} {v : V} {i : Kd} {w n : Str} (h : Ob A.c_Way H x [("word", .str w), ("name", .str n), ("kind", v)]) (k : KAt A H v i) (o : (Td.k i).way = true) : KAt A H (.ref x) (.way w n i)
  | door {x : Addr} {v : V} {i : Kd} {w n : Str} (h : Ob A.c_Door H x [("word", .str w), ("name", .str n), ("kind", v)]) (k : KAt A H v i) (o : (Td.k i).door = true) : KAt A H (.ref x) (.door w n i)
  | part {x : Addr} {v : V} {i : Kd} {n : Str} (h : Ob A.c_Part H x [("name", .str n), ("kind", v)]) (k : KAt A H v i) (o : (Td.k i).simple = true) : KAt A H (.ref x) (.part n i)
  | room {x : Addr} {v : V} {i : Kd} {w n : Str} (h : Ob A.c_Room H x [("word", .str w), ("name", .str n), ("kind", v)]) (k : KAt A H v i) (o : (Td.k i).room = true) : KAt A H (.ref x) (.room w n i)
  | choice {x t : Addr} {vs : List V} {ks : List Kd} (h : Ob A.c_Choice H x [("ways", .ref t)]) (e : H t = some (.tup vs)) (k : KAts A H vs ks) (o : ∀ z ∈ ks, (Td.k z).wd = true) : KAt A H (.ref x) (.choice ks)
  | row {x t : Addr} {vs : List V} {ks : List Kd} (h : Ob A.c_Row H x [("parts", .ref t)]) (e : H t = some (.tup vs)) (k : KAts A H vs ks) (o : ∀ z ∈ ks, (Td.k z).pr = true) : KAt A H (.ref x) (.row ks)
inductive KAts (A : Ad) (H : Hp) : List V → List Kd → Prop where
  | nil : KAts A H [] []
  | cons {v : V} {k : Kd} {vs : List V} {ks : List Kd} (h : KAt A H v k) (t : KAts A H vs ks) : KAts A H (v :: vs) (k :: ks)
end
mutual
theorem KAt.keep {A : Ad} {H H' : Hp} (e : KI H H') : ∀ {v : V} {d : Kd}, KAt A H v d → KAt A H' v d
  | _, _, .num h => .num (h.keep e)
  | _, _, .bits h => .bits (h.keep e)
  | _, _, .call h => .call (h.keep e)
  | _, _, .items h k o => .items (h.keep e) (k.keep e) o
  | _, _, .nothing h => .nothing (h.keep e)
  | _, _, .none => .none
  | _, _, .way h k o => .way (h.keep e) (k.keep e) o
  | _, _, .door h k o => .door (h.keep e) (k.keep e) o
  | _, _, .part h k o => .part (h.keep e) (k.keep e) o
  | _, _, .room h k o => .room (h.keep e) (k.keep e) o
  | _, _, .choice h t k o => .choice (h.keep e) (e.t _ _ t) (KAts.keep e k) o
  | _, _, .row h t k o => .row (h.keep e) (e.t _ _ t) (KAts.keep e k) o
theorem KAts.keep {A : Ad} {H H' : Hp} (e : KI H H') : ∀ {vs : List V} {ds : List Kd}, KAts A H vs ds → KAts A H' vs ds
  | _, _, .nil => .nil
  | _, _, .cons h t => .cons (h.keep e) (KAts.keep e t)
end
def Th (A : Ad) (K : PySem.W.Frag) (H : Hp) (v : V) : Td → Prop
  | .k d => KAt A H v d
  | .raw n => n ∈ asks ∧ VT K H v (.type n)
section
variable {K : PySem.W.Frag} {mg : Str → Option Value} {A : Ad} {H H' : Hp} {v : V} {t : Td} {d : Kd}
theorem Th.keep (e : KI H H') (h : Th A K H v t) : Th A K H' v t := by
  cases t with
  | k d => exact KAt.keep e h
  | raw n => exact ⟨h.1, h.2.keep e.k⟩
theorem Txt.kco (T : Txt K mg A) (c : Kc) : ClsO K (A.kc c) (kcName c) := by
  cases c
  · exact T.o_Number
  · exact T.o_Bits
  · exact T.o_Call
  · exact T.o_Items
  · exact T.o_Nothing
  · exact T.o_Way
  · exact T.o_Door
  · exact T.o_Part
  · exact T.o_Room
  · exact T.o_Choice
  · exact T.o_Row
theorem Txt.kci (T : Txt K mg A) (c : Kc) : C8.InsC K (A.kc c) := by
  cases c
  · exact T.isc_Number
  · exact T.isc_Bits
  · exact T.isc_Call
  · exact T.isc_Items
  · exact T.isc_Nothing
  · exact T.isc_Way
  · exact T.isc_Door
  · exact T.isc_Part
  · exact T.isc_Room
  · exact T.isc_Choice
  · exact T.isc_Row
theorem Txt.kcne (T : Txt K mg A) {c d : Kc} (n : c ≠ d) : A.kc c ≠ A.kc d := (T.kco c).ne (T.kco d) (kcName_ne c d n)
theorem Ob.vt (T : Txt K mg A) (c : Kc) {x : Addr} {l : List (Str × V)} (h : Ob (A.kc c) H x l) : VT K H (.ref x) (.ref (A.kc c)) := by
  obtain ⟨dx, fs, h1, _⟩ := h
  exact .ins h1 (T.kci c) (T.kco c)
theorem KAt.vt (T : Txt K mg A) (h : KAt A H v d) : VT K H v (Td.tag A (.k d)) := by
  cases h with
  | num h => exact h.vt T .num
  | bits h => exact h.vt T .bits
  | call h => exact h.vt T .call
  | items h _ _ => exact h.vt T .items
  | nothing h => exact h.vt T .nothing
  | none => exact .non
  | way h _ _ => exact h.vt T .way
  | door h _ _ => exact h.vt T .door
  | part h _ _ => exact h.vt T .part
  | room h _ _ => exact h.vt T .room
  | choice h _ _ _ => exact h.vt T .choice
  | row h _ _ _ => exact h.vt T .row
theorem Th.vt (T : Txt K mg A) (h : Th A K H v t) : VT K H v (t.tag A) := by
  cases t with
  | k d => exact KAt.vt T h
  | raw n => exact h.2
theorem isa_raw {n : String} {C : Addr} : isa (.type n) (.ref C) = false := by
  have n1 : ¬ Value.type n = Value.ref C := fun z => by cases z
  have n2 : ¬ Value.ref C = Value.type "int" := fun z => by cases z
  unfold isa
  rw [decide_eq_false n1, decide_eq_false n2, Bool.and_false]
  rfl
theorem isa_own (T : Txt K mg A) (c d : Kc) : isa (.ref (A.kc c)) (.ref (A.kc d)) = decide (c = d) := by
  unfold isa
  rw [decide_eq_false (show ¬ Value.ref (A.kc c) = Value.type "bool" from fun z => by cases z), Bool.false_and, Bool.or_false]
  by_cases e : c = d
  · subst e; simp
  · rw [decide_eq_false e, decide_eq_false fun z => T.kcne e (by injection z)]
/-- isinstance(thing, C) -/
theorem isa_kc (T : Txt K mg A) (t : Td) (c : Kc) : isa (t.tag A) (.ref (A.kc c)) = decide (t.cls = some c) := by
  cases t with
  | raw n => rw [show Td.tag A (.raw n) = .type n from rfl, isa_raw]; rfl
  | k d =>
    show isa (match d.cls with | some c => Value.ref (A.kc c) | none => .type "NoneType") _ = decide (d.cls = some c)
    cases d.cls with
    | none => rw [isa_raw]; rfl
    | some e =>
      rw [isa_own T]
      by_cases z : e = c
      · subst z; simp
      · rw [decide_eq_false z, decide_eq_false fun q => z (by injection q)]
end
/-! what is a name, a word, a width -/
def okBits : V → Bool
  | .str x => x.cps.toList.all fun c => decide (c = 48) || decide (c = 49)
  | _ => false
def okName : V → Bool
  | .str x => decide (1 ≤ x.length) && (decide (x.length ≤ 8) && x.cps.toList.all fun c => decide (97 ≤ c) && decide (c ≤ 122))
  | _ => false
def okWord (v : V) : Bool := okBits v && (decide (1 ≤ (strOf v).length) && decide ((strOf v).length ≤ 8))
def okW : V → Int → Bool
  | .non, _ => true
  | .int i, n => decide (1 ≤ i) && (decide (i ≤ 60) && decide (n ≤ 2 ^ i.toNat))
  | _, _ => false
theorem iteB {c : Bool} {P Q : Prop} (h1 : c = true → P) (h2 : c = false → Q) : if c = true then P else Q := by
  cases c
  · exact h2 rfl
  · exact h1 rfl
theorem not_t {b : Bool} (h : (!b) = true) : b = false := by cases b <;> first | rfl | cases h
theorem not_f {b : Bool} (h : (!b) = false) : b = true := by cases b <;> first | rfl | cases h
theorem sign_dec {c n : Nat} {s : Str} (h : s = ⟨#[n]⟩) : decide (V.str ⟨#[c]⟩ = V.str s) = decide (c = n) := by
  subst h
  by_cases e : c = n
  · subst e; simp
  · rw [decide_eq_false e, decide_eq_false]
    intro z
    injection z with z
    injection z with z
    exact e (by simpa using z)
theorem sgn0 : (Str.ofString "0") = ⟨#[48]⟩ := by decide +kernel
theorem sgn1 : (Str.ofString "1") = ⟨#[49]⟩ := by decide +kernel
/-- a text that is not too long for len -/
def Short (v : V) : Prop := (strOf v).length ≤ 1000000
theorem short_le {x : Str} (h : Short (.str x)) : x.length ≤ sizeLine := by
  rw [sizeLine_eq]
  have : x.length ≤ 1000000 := h
  omega
theorem str_of {K : PySem.W.Frag} {H : Hp} {v : V} {t : Value} (h : VT K H v t) (e : isa t (.type "str") = true) : ∃ x, v = .str x := by
  rw [← isS_of h] at e
  cases v <;> first | exact ⟨_, rfl⟩ | cases e
theorem nstr_of {K : PySem.W.Frag} {H : Hp} {v : V} {t : Value} (h : VT K H v t) (e : isa t (.type "str") = false) : okBits v = false ∧ okName v = false := by
  rw [← isS_of h] at e
  cases v <;> first | exact ⟨rfl, rfl⟩ | cases e
theorem take_all {l : List Nat} {f : Nat → Bool} {i c : Nat} (h : (l.take i).all f = true) (hc : l[i]? = some c) (hf : f c = true) : (l.take (i + 1)).all f = true := by
  rw [List.take_succ, hc, List.all_append, h]
  simp [hf]
theorem not_all {l : List Nat} {f : Nat → Bool} {i c : Nat} (hc : l[i]? = some c) (hf : f c = false) : l.all f = false := by
  rw [Bool.eq_false_iff]
  intro z
  have := List.all_eq_true.mp z c (List.mem_of_getElem? hc)
  rw [hf] at this
  cases this
theorem full_all {x : Str} {f : Nat → Bool} (h : (x.cps.toList.take x.cps.size).all f = true) : x.cps.toList.all f = true := by
  rw [← Array.length_toList, List.take_length] at h
  exact h
theorem abc_mem (c : Nat) : decide (c ∈ (Str.ofString "abcdefghijklmnopqrstuvwxyz").cps.toList) = (decide (97 ≤ c) && decide (c ≤ 122)) := by
  rw [abc_eq]
  by_cases h : 97 ≤ c ∧ c ≤ 122
  · obtain ⟨h1, h2⟩ := h
    rw [decide_eq_true h1, decide_eq_true h2]
    have : c = 97 ∨ c = 98 ∨ c = 99 ∨ c = 100 ∨ c = 101 ∨ c = 102 ∨ c = 103 ∨ c = 104 ∨ c = 105 ∨ c = 106 ∨ c = 107 ∨ c = 108 ∨ c = 109 ∨ c = 110 ∨ c = 111 ∨ c = 112 ∨ c = 113 ∨ c = 114 ∨ c = 115 ∨ c = 116 ∨ c = 117 ∨ c = 118 ∨ c = 119 ∨ c = 120 ∨ c = 121 ∨ c = 122 := by omega
    rw [decide_eq_true (by simpa using this)]
    rfl
  · rw [decide_eq_false]
    · by_cases h1 : 97 ≤ c
      · rw [decide_eq_true h1, decide_eq_false fun h2 => h ⟨h1, h2⟩]; rfl
      · rw [decide_eq_false h1]; rfl
    · intro z
      have := abc_letter c z
      exact h this
theorem intOf_isI {v : V} (h : isI v = true) : v = .int (intOf v) := by
  cases v <;> first | rfl | cases h
/-! what each class makes of its arguments -/
def mkNum (a b w : V) : Except Str Kd :=
  if isI a = false then .error "low" else if isI b = false ∨ intOf b ≤ intOf a ∨ 2 ^ 60 ≤ intOf b - intOf a then .error "high" else
  if okW w (intOf b - intOf a + 1) = false then .error "width" else .ok (.num (intOf a) (intOf b) (oiOf w))
def mkBits (v : V) : Except Str Kd := if isI v = false ∨ intOf v < 1 ∨ 16 < intOf v then .error "many" else .ok (.bits (intOf v))
def mkCall (v : V) : Except Str Kd := if okName v = false then .error "name" else .ok (.call (strOf v))
def mkItems (t : Td) (w : V) : Except Str Kd :=
  if t.item = false then .error "item" else if w ≠ .non ∧ (isI w = false ∨ intOf w < 1 ∨ 3 < intOf w) then .error "width" else .ok (.items t.kd (oiOf w))
def chk (w n : V) (b : Bool) : Option Str := if okWord w = false then some "word" else if okName n = false then some "name" else if b = false then some "kind" else none
def mkInner (f : Str → Str → Kd → Kd) (w n : V) (t : Td) (b : Bool) : Except Str Kd := match chk w n b with
  | some p => .error p
  | none => .ok (f (strOf w) (strOf n) t.kd)
def mkPart (n : V) (t : Td) : Except Str Kd := if okName n = false then .error "name" else if t.simple = false then .error "kind" else .ok (.part (strOf n) t.kd)
/-- what a making ends in: an own error with the first part that is not as told, or the made thing -/
def Made (A : Ad) (x : Addr) (r : Except Str Kd) (H : Hp) (Q : VK) (E : XK) : Prop := match r with
  | .error p => ∀ (H' : Hp) (d : Addr), Same H H' → H' d = some (.xd [("part", .str p)]) → E (.ref A.c_BadKind) (some d) H'
  | .ok k => ∀ H', Same H H' → KAt A H' (.ref x) k → Q .non H'
/-- the fresh thing at x in H, H0 ahead of it -/
structure Fresh (C : Addr) (x : Addr) (H0 H : Hp) : Prop where
  no : H0 x = none
  s : Same H0 H
  at' : ∃ dx, H x = some (.ins C dx [])
theorem Fresh.mk' {C x dx : Addr} {H : Hp} (h1 : H x = none) (h2 : H dx = none) (ne : dx ≠ x) : Fresh C x H (upd (upd H dx (.own x)) x (.ins C dx [])) :=
  ⟨h1, fun b o e => by rw [upd_ne (ne_of_none e h1), upd_ne (ne_of_none e h2)]; exact e, dx, upd_same⟩
abbrev sp_BadKind___init__ (_ : PySem.W.Frag) (A : Ad) : Sp := sp_exc1 A.c_BadKind "part"
abbrev sp_is_integer (K : PySem.W.Frag) (_ : Ad) : Sp := Sp1 fun v H Q _ => ∃ t, VT K H v t ∧ Q (.bl (isI v)) H
abbrev sp_is_bits (K : PySem.W.Frag) (_ : Ad) : Sp := Sp1 fun v H Q _ => ∃ t, VT K H v t ∧ Q (.bl (okBits v)) H
abbrev sp_is_name (K : PySem.W.Frag) (_ : Ad) : Sp := Sp1 fun v H Q _ => ∃ t, VT K H v t ∧ Short v ∧ Q (.bl (okName v)) H
abbrev sp_is_word (K : PySem.W.Frag) (_ : Ad) : Sp := Sp1 fun v H Q _ => ∃ t, VT K H v t ∧ Short v ∧ Q (.bl (okWord v)) H
def pre2 (x y : Str) : Bool := PySem.Txt.startswith x y || PySem.Txt.startswith y x
abbrev sp_begins (_ : PySem.W.Frag) (_ : Ad) : Sp := Sp2 fun v w H Q _ => ∃ x y, v = .str x ∧ w = .str y ∧ Q (.bl (pre2 x y)) H
abbrev sp_is_width (K : PySem.W.Frag) (_ : Ad) : Sp := Sp2 fun v w H Q _ => ∃ t n, VT K H v t ∧ w = .int n ∧ Q (.bl (okW v n)) H
abbrev sp_is_simple (K : PySem.W.Frag) (A : Ad) : Sp := Sp1 fun v H Q _ => ∃ t, Th A K H v t ∧ ∀ H', Same H H' → Q (.bl t.simple) H'
abbrev sp_check_inner (K : PySem.W.Frag) (A : Ad) : Sp := Sp3 fun w n b H Q E => ∃ t1 t2 c, VT K H w t1 ∧ VT K H n t2 ∧ Short w ∧ Short n ∧ b = .bl c ∧ (match chk w n c with
  | some p => ∀ (H' : Hp) (d : Addr), Same H H' → H' d = some (.xd [("part", .str p)]) → E (.ref A.c_BadKind) (some d) H'
  | none => Q .non H)
abbrev sp_Number___init__ (K : PySem.W.Frag) (A : Ad) : Sp := Sp4 fun s a b w H Q E => ∃ (H0 : Hp) (x : Addr) (ta tb tw : Value), s = .ref x ∧ Fresh A.c_Number x H0 H ∧ VT K H0 a ta ∧ VT K H0 b tb ∧ VT K H0 w tw ∧ Made A x (mkNum a b w) H0 Q E
abbrev sp_Bits___init__ (K : PySem.W.Frag) (A : Ad) : Sp := Sp2 fun s a H Q E => ∃ (H0 : Hp) (x : Addr) (ta : Value), s = .ref x ∧ Fresh A.c_Bits x H0 H ∧ VT K H0 a ta ∧ Made A x (mkBits a) H0 Q E
abbrev sp_Call___init__ (K : PySem.W.Frag) (A : Ad) : Sp := Sp2 fun s a H Q E => ∃ (H0 : Hp) (x : Addr) (ta : Value), s = .ref x ∧ Fresh A.c_Call x H0 H ∧ VT K H0 a ta ∧ Short a ∧ Made A x (mkCall a) H0 Q E
abbrev sp_Items___init__ (K : PySem.W.Frag) (A : Ad) : Sp := Sp3 fun s a w H Q E => ∃ (H0 : Hp) (x : Addr) (t : Td) (tw : Value), s = .ref x ∧ Fresh A.c_Items x H0 H ∧ Th A K H0 a t ∧ VT K H0 w tw ∧ Made A x (mkItems t w) H0 Q E
abbrev sp_inner (C : Addr) (f : Str → Str → Kd → Kd) (ok : Td → Bool) (K : PySem.W.Frag) (A : Ad) : Sp := Sp4 fun s w n k H Q E => ∃ (H0 : Hp) (x : Addr) (tw tn : Value) (t : Td), s = .ref x ∧ Fresh C x H0 H ∧ VT K H0 w tw ∧ VT K H0 n tn ∧ Short w ∧ Short n ∧ Th A K H0 k t ∧ Made A x (mkInner f w n t (ok t)) H0 Q E
abbrev sp_Way___init__ (K : PySem.W.Frag) (A : Ad) : Sp := sp_inner A.c_Way .way Td.way K A
abbrev sp_Door___init__ (K : PySem.W.Frag) (A : Ad) : Sp := sp_inner A.c_Door .door Td.door K A
abbrev sp_Room___init__ (K : PySem.W.Frag) (A : Ad) : Sp := sp_inner A.c_Room .room Td.room K A
abbrev sp_Part___init__ (K : PySem.W.Frag) (A : Ad) : Sp := Sp3 fun s n k H Q E => ∃ (H0 : Hp) (x : Addr) (tn : Value) (t : Td), s = .ref x ∧ Fresh A.c_Part x H0 H ∧ VT K H0 n tn ∧ Short n ∧ Th A K H0 k t ∧ Made A x (mkPart n t) H0 Q E
/-- C.__eq__ -/
abbrev spEq (c : Kc) (A : Ad) : Sp := Sp2 fun v w H Q _ => ∃ d e, KAt A H v d ∧ d.cls = some c ∧ KAt A H w e ∧ d.nn e = true ∧ Q (.bl (d.eqk e)) H
abbrev sp_Number___eq__ (_ : PySem.W.Frag) (A : Ad) : Sp := spEq .num A
abbrev sp_Bits___eq__ (_ : PySem.W.Frag) (A : Ad) : Sp := spEq .bits A
abbrev sp_Call___eq__ (_ : PySem.W.Frag) (A : Ad) : Sp := spEq .call A
abbrev sp_Items___eq__ (_ : PySem.W.Frag) (A : Ad) : Sp := spEq .items A
abbrev sp_Nothing___eq__ (_ : PySem.W.Frag) (A : Ad) : Sp := spEq .nothing A
abbrev sp_Way___eq__ (_ : PySem.W.Frag) (A : Ad) : Sp := spEq .way A
abbrev sp_Door___eq__ (_ : PySem.W.Frag) (A : Ad) : Sp := spEq .door A
abbrev sp_Part___eq__ (_ : PySem.W.Frag) (A : Ad) : Sp := spEq .part A
abbrev sp_Room___eq__ (_ : PySem.W.Frag) (A : Ad) : Sp := spEq .room A
abbrev sp_Choice___eq__ (_ : PySem.W.Frag) (A : Ad) : Sp := spEq .choice A
abbrev sp_Row___eq__ (_ : PySem.W.Frag) (A : Ad) : Sp := spEq .row A
/-! a choice's ways, a row's parts -/
def Td.word : Td → Str
  | .k (.way w _ _) => w
  | .k (.door w _ _) => w
  | .k (.room w _ _) => w
  | _ => Str.empty
def Td.name : Td → Str
  | .k (.way _ n _) => n
  | .k (.door _ n _) => n
  | .k (.part n _) => n
  | .k (.room _ n _) => n
  | _ => Str.empty
/-- the one behind the others: it clashes with none of them -/
def clearW (seen : List Td) (t : Td) : Bool := seen.all fun o => !(pre2 t.word o.word) && !decide (t.name = o.name)
def clearP (seen : List Td) (t : Td) : Bool := seen.all fun o => !decide (t.name = o.name)
def goodW : List Td → List Td → Bool
  | _, [] => true
  | seen, t :: ts => t.wd && (clearW seen t && goodW (seen ++ [t]) ts)
def goodP : List Td → List Td → Bool
  | _, [] => true
  | seen, t :: ts => t.pr && (clearP seen t && goodP (seen ++ [t]) ts)
def okWays (ts : List Td) : Bool := decide (1 ≤ ts.length) && (decide (ts.length ≤ 12) && (goodW [] ts && ts.any fun t => decide (t.cls = some .way)))
def okParts (ts : List Td) : Bool := decide (1 ≤ ts.length) && (decide (ts.length ≤ 8) && (goodP [] ts && match ts.getLast? with
  | some t => decide (t.cls = some .part)
  | none => false))
/-- a list or a tuple of things, or another thing -/
inductive Seqs (A : Ad) (K : PySem.W.Frag) (H : Hp) : V → Option (List Td) → Prop where
  | lst {a : Addr} {vs : List V} {ts : List Td} (e : H a = some (.lst vs)) (h : Paired (Th A K H) vs ts) (n : vs.length ≤ 100) : Seqs A K H (.ref a) (some ts)
  | tup {a : Addr} {vs : List V} {ts : List Td} (e : H a = some (.tup vs)) (h : Paired (Th A K H) vs ts) (n : vs.length ≤ 100) : Seqs A K H (.ref a) (some ts)
  | no {v : V} {t : Value} (h : VT K H v t) (n1 : t ≠ .type "list") (n2 : t ≠ .type "tuple") : Seqs A K H v none
def mkSeq (f : List Kd → Kd) (ok : List Td → Bool) (p : Str) : Option (List Td) → Except Str Kd
  | some ts => if ok ts = false then .error p else .ok (f (ts.map Td.kd))
  | none => .error p
def okSeq (ok : List Td → Bool) : Option (List Td) → Bool
  | some ts => ok ts
  | none => false
abbrev sp_are_ways (K : PySem.W.Frag) (A : Ad) : Sp := Sp1 fun v H Q _ => ∃ o, Seqs A K H v o ∧ ∀ H', Same H H' → Q (.bl (okSeq okWays o)) H'
abbrev sp_are_parts (K : PySem.W.Frag) (A : Ad) : Sp := Sp1 fun v H Q _ => ∃ o, Seqs A K H v o ∧ ∀ H', Same H H' → Q (.bl (okSeq okParts o)) H'
abbrev sp_Choice___init__ (K : PySem.W.Frag) (A : Ad) : Sp := Sp2 fun s v H Q E => ∃ (H0 : Hp) (x : Addr) (o : Option (List Td)), s = .ref x ∧ Fresh A.c_Choice x H0 H ∧ Seqs A K H0 v o ∧ Made A x (mkSeq .choice okWays "ways" o) H0 Q E
abbrev sp_Row___init__ (K : PySem.W.Frag) (A : Ad) : Sp := Sp2 fun s v H Q E => ∃ (H0 : Hp) (x : Addr) (o : Option (List Td)), s = .ref x ∧ Fresh A.c_Row x H0 H ∧ Seqs A K H0 v o ∧ Made A x (mkSeq .row okParts "parts" o) H0 Q E

theorem same_new {H : Hp} {p : Addr} {o : HO} (h : H p = none) : Same H (upd H p o) := fun b u e => by rw [upd_ne (ne_of_none e h)]; exact e
theorem same_put {H0 H : Hp} {x : Addr} {o : HO} (no : H0 x = none) (s : Same H0 H) : Same H0 (upd H x o) := fun b u e => by rw [upd_ne (ne_of_none e no)]; exact s b u e
theorem Fresh.go {C x : Addr} {H0 H H' : Hp} (f : Fresh C x H0 H) (e : Same H H') : Fresh C x H0 H' := ⟨f.no, f.s.trans e, by obtain ⟨dx, h⟩ := f.at'; exact ⟨dx, e _ _ h⟩⟩
theorem raise_bad {A : Ad} {H0 H : Hp} {p : Str} {E : XK} (sm : Same H0 H) (k : ∀ (H' : Hp) (d : Addr), Same H0 H' → H' d = some (.xd [("part", .str p)]) → E (.ref A.c_BadKind) (some d) H') : ([V.str p] : List V).length ≤ 1000 ∧ ∀ a, H a = none →
    sp_exc1 A.c_BadKind "part" (.ref a :: ([V.str p] ++ [])) (upd H a (exo a A.c_BadKind none)) (fun u H2 => u = .non ∧ ∃ (d : Addr) (fs : List (Str × V)), H2 a = some (exo a A.c_BadKind (some d)) ∧ H2 d = some (exd d fs) ∧ H d = none ∧ E (.ref A.c_BadKind) (some d) (upd (L2.del H2 a) d (.xd fs))) (fun _ _ _ => False) :=
  mk_exc1 fun d hd => k _ d (sm.trans (same_new hd)) upd_same
theorem nI {i : Int} : ¬ isI (.int i) = false := fun z => nomatch z
theorem int_ex {v : V} (h : isI v = true) : ∃ i, v = .int i := by cases v <;> first | exact ⟨_, rfl⟩ | cases h
theorem iteY {P Q : Prop} (h : P) : if true = true then P else Q := by rw [if_pos rfl]; exact h
theorem okW_oi {v : V} {n : Int} (h : okW v n = true) : v = oi (oiOf v) := by cases v <;> first | rfl | cases h
theorem put1 {f : Str} {a : V} : ∀ p ∈ [(f, a)], (putF f a []).lookup p.1 = some p.2 := by
  intro p hp
  rw [List.mem_singleton.mp hp, lookup_putF, if_pos rfl]
theorem put2 {f g : Str} {a b : V} (n : ¬ f = g) : ∀ p ∈ [(f, a), (g, b)], (putF g b (putF f a [])).lookup p.1 = some p.2 := by
  intro p hp
  rcases List.mem_cons.mp hp with e | hp
  · rw [e, lookup_putF, if_neg n, lookup_putF, if_pos rfl]
  · rw [List.mem_singleton.mp hp, lookup_putF, if_pos rfl]
theorem put3 {f g h : Str} {a b c : V} (n1 : ¬ f = g) (n2 : ¬ f = h) (n3 : ¬ g = h) : ∀ p ∈ [(f, a), (g, b), (h, c)], (putF h c (putF g b (putF f a []))).lookup p.1 = some p.2 := by
  intro p hp
  rcases List.mem_cons.mp hp with e | hp
  · rw [e, lookup_putF, if_neg n2, lookup_putF, if_neg n1, lookup_putF, if_pos rfl]
  · rcases List.mem_cons.mp hp with e | hp
    · rw [e, lookup_putF, if_neg n3, lookup_putF, if_pos rfl]
    · rw [List.mem_singleton.mp hp, lookup_putF, if_pos rfl]
theorem put_len {fs : List (Str × V)} {f : Str} {v : V} {n : Nat} (h : fs.length ≤ n) : (putF f v fs).length ≤ n + 1 := Nat.le_trans (length_putF _ _ _) (Nat.succ_le_succ h)
theorem any_kc {K : PySem.W.Frag} {mg : Str → Option Value} {A : Ad} {H : Hp} {v : V} {t : Td} (T : Txt K mg A) (h : Th A K H v t) (cs : List Kc) : PySem.W.kitAny K (t.tag A) (cs.map fun c => Value.ref (A.kc c)) = some (cs.any fun c => decide (t.cls = some c)) := by
  rw [kitAny_isa]
  · rw [List.any_map]
    congr 1
    congr 1
    funext c
    exact isa_kc T t c
  · intro u hu
    obtain ⟨c, _, rfl⟩ := List.mem_map.mp hu
    exact kit_isaO (h.vt T).tag (T.kco c)
theorem eqk_ne {d e : Kd} (h : d.cls ≠ e.cls) : d.eqk e = false := by
  cases d <;> cases e <;> first | rfl | exact absurd rfl h
theorem dI {a b : Int} : decide (V.int a = V.int b) = decide (a = b) := decide_eq_decide.mpr ⟨fun h => by injection h, fun h => by rw [h]⟩
theorem dS {a b : Str} : decide (V.str a = V.str b) = decide (a = b) := decide_eq_decide.mpr ⟨fun h => by injection h, fun h => by rw [h]⟩
theorem dO {a b : Option Int} : decide (oi a = oi b) = decide (a = b) := by
  cases a <;> cases b
  · rfl
  · rfl
  · rfl
  · show decide (V.int _ = V.int _) = _
    rw [dI]
    exact decide_eq_decide.mpr ⟨fun h => by rw [h], fun h => by injection h⟩
theorem scal_oi {a b : Option Int} : scal (oi a) (oi b) = true := by cases a <;> cases b <;> rfl
theorem kat_ins {A : Ad} {H : Hp} {v : V} {d : Kd} {c : Kc} (h : KAt A H v d) (e : d.cls = some c) : ∃ x dx fs, v = .ref x ∧ H x = some (.ins (A.kc c) dx fs) := by
  have go : ∀ {C x : Addr} {l : List (Str × V)}, Ob C H x l → A.kc c = C → ∃ x' dx fs, V.ref x = .ref x' ∧ H x' = some (.ins (A.kc c) dx fs) := fun {C x l} h q => by
    obtain ⟨dx, fs, h1, _⟩ := h
    exact ⟨x, dx, fs, rfl, by rw [q]; exact h1⟩
  cases h <;> first | (cases e; done) | skip
  all_goals (have q := Option.some.inj e; subst q; exact go (by assumption) rfl)
theorem kat_non {A : Ad} {H : Hp} {v : V} {d : Kd} (h : KAt A H v d) (e : d.cls = none) : v = .non ∧ d = .none := by
  cases h <;> first | exact ⟨rfl, rfl⟩ | cases e
theorem kc_first {K : PySem.W.Frag} {mg : Str → Option Value} {A : Ad} (T : Txt K mg A) (c d : Kc) : PySem.W.notFirst K (A.kc c) (.ref (A.kc d)) = true := by
  unfold PySem.W.notFirst
  by_cases e : c = d
  · subst e; simp
  · rw [(T.kco d).sub, decide_eq_false]
    · simp
    · rintro (z | z)
      · exact T.kcne e (by injection z)
      · cases z
/-- == of kinds: the classes' own __eq__ at hand -/
inductive EqFs (X : Cx) (A : Ad) : List Kc → Prop where
  | nil : EqFs X A []
  | cons {c : Kc} {cs : List Kc} {f : Addr} {fd : FuncData} {n : Nat} (F : FnOk X.prog X.w X.K X.mg X.base CX0 n f fd ["self", "other"] (spEq c A)) (m : PySem.W.findIn X.K (.ref (A.kc c)) "__eq__" = some (some (.ref f))) (i : PySem.W.isFn X.K (.ref f) = true)
      (b : Binds X.K fd ["self", "other"] []) (r : Room n X.A) (t : EqFs X A cs) : EqFs X A (c :: cs)
def rEqKd (A : Ad) (L : List Kc) : R2 := fun x y H Q => ∃ d e, KAt A H x d ∧ KAt A H y e ∧ (d.cls = none ↔ e.cls = none) ∧ (∀ c, d.cls = some c → c ∈ L) ∧ d.nn e = true ∧ Q (.bl (d.eqk e)) H
theorem EqFs.op {X : Cx} {A : Ad} {c : Kc} : ∀ {L : List Kc}, EqFs X A L → c ∈ L → OpR X (compareOp .Eq) (rEqD X.K (A.kc c) (spEq c A))
  | _, .cons F m i b r t, h => by
    rcases List.mem_cons.mp h with e | h
    · subst e; exact op_eqD F m i b r
    · exact EqFs.op t h
theorem op_eqKd {X : Cx} {A : Ad} {L : List Kc} (T : Txt X.K X.mg A) (F : EqFs X A L) : OpR X (compareOp .Eq) (rEqKd A L) := by
  intro pins s σ H x y u v Q I rx ry h
  obtain ⟨d, e, hd, he, nn, hc, hn, q⟩ := h
  cases z : d.cls with
  | none =>
    obtain ⟨rfl, rfl⟩ := kat_non hd z
    obtain ⟨rfl, rfl⟩ := kat_non he (nn.mp z)
    exact op_eq pins s σ H _ _ u v Q I rx ry ⟨rfl, q⟩
  | some c =>
    obtain ⟨a, dx, fs, rfl, ha⟩ := kat_ins hd z
    cases z2 : e.cls with
    | none => rw [nn.mpr z2] at z; cases z
    | some c2 =>
      obtain ⟨b, dy, gs, rfl, hb⟩ := kat_ins he z2
      exact F.op (hc c z) pins s σ H _ _ u v Q I rx ry ⟨a, b, dx, fs, _, dy, gs, rfl, rfl, ha, hb, kc_first T c c2, _, _, rfl, d, e, hd, z, he, hn, q⟩

theorem chk_none {w n : V} {b : Bool} (h : chk w n b = none) : w = .str (strOf w) ∧ n = .str (strOf n) ∧ b = true := by
  unfold chk at h
  by_cases h1 : okWord w = false
  · rw [if_pos h1] at h; cases h
  rw [if_neg h1] at h
  by_cases h2 : okName n = false
  · rw [if_pos h2] at h; cases h
  rw [if_neg h2] at h
  by_cases h3 : b = false
  · rw [if_pos h3] at h; cases h
  refine ⟨?_, ?_, by simpa using h3⟩
  · cases w <;> first | rfl | exact absurd rfl h1
  · cases n <;> first | rfl | exact absurd rfl h2
theorem inner_go {A : Ad} {x : Addr} {f : Str → Str → Kd → Kd} {w n : V} {t : Td} {b : Bool} {H0 H : Hp} {Q : VK} {E : XK} {G : Prop} (sm : Same H0 H) (k : Made A x (mkInner f w n t b) H0 Q E)
    (g : chk w n b = none → (∀ H', Same H0 H' → KAt A H' (.ref x) (f (strOf w) (strOf n) t.kd) → Q .non H') → G) : (match chk w n b with
      | some p => ∀ (H' : Hp) (d : Addr), Same H H' → H' d = some (.xd [("part", .str p)]) → E (.ref A.c_BadKind) (some d) H'
      | none => G) := by
  unfold mkInner at k
  cases e : chk w n b with
  | some p =>
    rw [e] at k
    exact fun H' d s h => k H' d (sm.trans s) h
  | none =>
    rw [e] at k
    exact g e k
theorem th_non {K : PySem.W.Frag} {A : Ad} {H : Hp} {v : V} {t : Td} (h : Th A K H v t) : decide (v = V.non) = t.isNone := by
  cases t with
  | k d => cases h <;> rfl
  | raw n =>
    obtain ⟨h1, h2⟩ := h
    show _ = false
    rw [decide_eq_false]
    intro z
    subst z
    cases h2
    exact absurd h1 (by decide)
theorem kd_of {t : Td} {c : Kc} (h : t.cls = some c) : t = .k t.kd := by cases t <;> first | rfl | cases h
theorem any_of {t : Td} {L : List Kc} (h : (L.any fun c => decide (t.cls = some c)) = true) : ∃ c, c ∈ L ∧ t.cls = some c := by
  obtain ⟨c, h1, h2⟩ := List.any_eq_true.mp h
  exact ⟨c, h1, of_decide_eq_true h2⟩
theorem any_kd {t : Td} {L : List Kc} (h : (L.any fun c => decide (t.cls = some c)) = true) : t = .k t.kd := by
  obtain ⟨c, _, e⟩ := any_of h
  exact kd_of e
theorem any_mem {d : Kd} {L : List Kc} (h : (L.any fun c => decide ((Td.k d).cls = some c)) = true) : (∀ c, d.cls = some c → c ∈ L) ∧ d.cls ≠ none := by
  obtain ⟨c, h1, e⟩ := any_of h
  have e' : d.cls = some c := e
  exact ⟨fun c' e2 => by rw [e'] at e2; injection e2 with e2; rw [← e2]; exact h1, by rw [e']; exact fun z => nomatch z⟩
abbrev wayL : List Kc := [.num, .bits, .items, .call, .nothing]
theorem way_any {t : Td} (h : t.way = true) : (wayL.any fun c => decide (t.cls = some c)) = true := by
  unfold Td.way Td.simple at h
  simp only [wayL, List.any_cons, List.any_nil, Bool.or_false, Bool.or_eq_true] at h ⊢
  rcases h with (h | h | h | h) | h <;> simp only [h, true_or, or_true]
theorem simple_way {t : Td} (h : t.simple = true) : t.way = true := by unfold Td.way; rw [h]; rfl
theorem door_way {d : Kd} (h : (Td.k d).door = true) (n : d.cls ≠ none) : (Td.k d).way = true := by
  cases d <;> first | exact absurd rfl n | exact h
theorem room_simple {d : Kd} (h : (Td.k d).room = true) (n : d.cls ≠ none) : (Td.k d).simple = true := by
  cases d <;> first | exact absurd rfl n | exact h
theorem nn_flat {d e : Kd} (h : d.cls ≠ none → (Td.k d).way = true) : d.nn e = true := by
  cases d <;> first | rfl | exact nomatch (show false = true from h (fun z => nomatch z))
theorem iff_no {d e : Kd} (h1 : d.cls ≠ none) (h2 : e.cls ≠ none) : d.cls = none ↔ e.cls = none := ⟨fun z => absurd z h1, fun z => absurd z h2⟩
theorem iff_of {d e : Kd} (h : (decide (d.cls = none) == decide (e.cls = none)) = true) : d.cls = none ↔ e.cls = none := by
  rw [beq_iff_eq, decide_eq_decide] at h
  exact h
theorem isa_cls {K : PySem.W.Frag} {mg : Str → Option Value} {A : Ad} (T : Txt K mg A) {t : Td} {c : Kc} {b : Bool} (h : isa (t.tag A) (.ref (A.kc c)) = b) : decide (t.cls = some c) = b := (isa_kc T t c).symm.trans h

theorem any_lt {K : PySem.W.Frag} {H : Hp} {v : V} {t : Value} (h : VT K H v t) : PySem.W.kitAny K t [.type "list", .type "tuple"] = some (isa t (.type "list") || (isa t (.type "tuple") || false)) :=
  kitAny_isa fun u hu => by
    rcases List.mem_cons.mp hu with e | hu
    · rw [e]; exact kit_isa h.tag (by decide)
    · rw [List.mem_singleton.mp hu]; exact kit_isa h.tag (by decide)
theorem isa_not {t : Value} {n : String} (h : t ≠ .type n) (hb : n ≠ "int") : isa t (.type n) = false := by
  unfold isa
  rw [decide_eq_false h, decide_eq_false (show ¬ Value.type n = Value.type "int" from fun z => hb (by injection z)), Bool.and_false]
  rfl
theorem isa_self {t : Value} : isa t t = true := by
  unfold isa
  rw [decide_eq_true rfl]
  rfl
theorem paired_at {R : V → Td → Prop} : ∀ {xs : List V} {ts : List Td} {j : Nat} {y : V}, Paired R xs ts → xs[j]? = some y → ∃ t, ts[j]? = some t ∧ R y t
  | _, _, _, _, .nil, h => by simp at h
  | _, _, 0, _, .cons h t, e => by
    have q := Option.some.inj e
    subst q
    exact ⟨_, rfl, h⟩
  | _, _, j + 1, _, .cons h t, e => paired_at (j := j) t e
theorem paired_len {R : V → Td → Prop} : ∀ {xs : List V} {ts : List Td}, Paired R xs ts → xs.length = ts.length
  | _, _, .nil => rfl
  | _, _, .cons _ t => congrArg Nat.succ (paired_len t)
theorem ths_keep {A : Ad} {K : PySem.W.Frag} {H H' : Hp} (e : KI H H') : ∀ {xs : List V} {ts : List Td}, Paired (Th A K H) xs ts → Paired (Th A K H') xs ts
  | _, _, .nil => .nil
  | _, _, .cons h t => .cons (h.keep e) (ths_keep e t)
theorem Seqs.keep {A : Ad} {K : PySem.W.Frag} {H H' : Hp} {v : V} {o : Option (List Td)} (e : Same H H') (h : Seqs A K H v o) : Seqs A K H' v o := by
  cases h with
  | lst h1 h2 n => exact .lst (e _ _ h1) (ths_keep (KI.same e) h2) n
  | tup h1 h2 n => exact .tup (e _ _ h1) (ths_keep (KI.same e) h2) n
  | no h1 n1 n2 => exact .no (h1.keep (KK.same e)) n1 n2
theorem goodW_app (l r : List Td) : ∀ s, goodW s (l ++ r) = (goodW s l && goodW (s ++ l) r) := by
  induction l with
  | nil => intro s; simp [goodW]
  | cons t l ih =>
    intro s
    show (t.wd && (clearW s t && goodW (s ++ [t]) (l ++ r))) = ((t.wd && (clearW s t && goodW (s ++ [t]) l)) && goodW (s ++ t :: l) r)
    rw [ih, List.append_assoc, Bool.and_assoc, Bool.and_assoc]
    rfl
theorem goodP_app (l r : List Td) : ∀ s, goodP s (l ++ r) = (goodP s l && goodP (s ++ l) r) := by
  induction l with
  | nil => intro s; simp [goodP]
  | cons t l ih =>
    intro s
    show (t.pr && (clearP s t && goodP (s ++ [t]) (l ++ r))) = ((t.pr && (clearP s t && goodP (s ++ [t]) l)) && goodP (s ++ t :: l) r)
    rw [ih, List.append_assoc, Bool.and_assoc, Bool.and_assoc]
    rfl
theorem split_at {ts : List Td} {i : Nat} {t : Td} (h : ts[i]? = some t) : ts = ts.take i ++ t :: ts.drop (i + 1) := by
  obtain ⟨h1, h2⟩ := List.getElem?_eq_some_iff.mp h
  rw [← h2, List.getElem_cons_drop, List.take_append_drop]
theorem take_one {ts : List Td} {i : Nat} {t : Td} (h : ts[i]? = some t) : ts.take (i + 1) = ts.take i ++ [t] := by
  rw [List.take_succ, h]
  rfl
theorem goodW_bad {ts : List Td} {i : Nat} {t : Td} (h : ts[i]? = some t) (w : t.wd = false) : goodW [] ts = false := by
  rw [split_at h, goodW_app]
  simp [goodW, w]
theorem goodW_bad2 {ts : List Td} {i : Nat} {t : Td} (h : ts[i]? = some t) (w : clearW (ts.take i) t = false) : goodW [] ts = false := by
  rw [split_at h, goodW_app]
  simp [goodW, w]
theorem goodW_step {ts : List Td} {i : Nat} {t : Td} (h : ts[i]? = some t) (g : goodW [] (ts.take i) = true) (w : t.wd = true) (c : clearW (ts.take i) t = true) : goodW [] (ts.take (i + 1)) = true := by
  rw [take_one h, goodW_app, g]
  simp [goodW, w, c]
theorem goodP_bad {ts : List Td} {i : Nat} {t : Td} (h : ts[i]? = some t) (w : t.pr = false) : goodP [] ts = false := by
  rw [split_at h, goodP_app]
  simp [goodP, w]
theorem goodP_bad2 {ts : List Td} {i : Nat} {t : Td} (h : ts[i]? = some t) (w : clearP (ts.take i) t = false) : goodP [] ts = false := by
  rw [split_at h, goodP_app]
  simp [goodP, w]
theorem goodP_step {ts : List Td} {i : Nat} {t : Td} (h : ts[i]? = some t) (g : goodP [] (ts.take i) = true) (w : t.pr = true) (c : clearP (ts.take i) t = true) : goodP [] (ts.take (i + 1)) = true := by
  rw [take_one h, goodP_app, g]
  simp [goodP, w, c]
theorem goodW_wd : ∀ {l s : List Td}, goodW s l = true → ∀ o ∈ l, o.wd = true
  | [], _, _, o, h => by simp at h
  | t :: l, s, g, o, h => by
    simp only [goodW, Bool.and_eq_true] at g
    rcases List.mem_cons.mp h with e | h
    · rw [e]; exact g.1
    · exact goodW_wd g.2.2 o h
theorem goodP_pr : ∀ {l s : List Td}, goodP s l = true → ∀ o ∈ l, o.pr = true
  | [], _, _, o, h => by simp at h
  | t :: l, s, g, o, h => by
    simp only [goodP, Bool.and_eq_true] at g
    rcases List.mem_cons.mp h with e | h
    · rw [e]; exact g.1
    · exact goodP_pr g.2.2 o h
theorem all_step {l : List Td} {f : Td → Bool} {j : Nat} {t : Td} (h : (l.take j).all f = true) (hc : l[j]? = some t) (hf : f t = true) : (l.take (j + 1)).all f = true := by
  rw [List.take_succ, hc, List.all_append, h]
  simp [hf]
theorem all_bad {l : List Td} {f : Td → Bool} {j : Nat} {t : Td} (hc : l[j]? = some t) (hf : f t = false) : l.all f = false := by
  rw [Bool.eq_false_iff]
  intro z
  have := List.all_eq_true.mp z t (List.mem_of_getElem? hc)
  rw [hf] at this
  cases this
theorem cut_to {xs : List V} {i : Nat} : cutV xs none (some (i : Int)) = xs.take i := by
  unfold cutV
  rw [HT.sIx_none, HT.sIx_nat, List.drop_zero, Nat.sub_zero]
  by_cases h : i ≤ xs.length
  · rw [Nat.min_eq_left h]
  · rw [Nat.min_eq_right (by omega), List.take_length, List.take_of_length_le (by omega)]
theorem seql_same {K : PySem.W.Frag} {H H' : Hp} {a : Addr} {xs : List V} (e : Same H H') (h : SqL K H a xs) : SqL K H' a xs := e.seq h
/-- a way's or a door's word and name -/
theorem wd_fld {K : PySem.W.Frag} {mg : Str → Option Value} {A : Ad} {H : Hp} {v : V} {t : Td} (T : Txt K mg A) (h : Th A K H v t) (w : t.wd = true) : ∃ x C dx fs, v = .ref x ∧ H x = some (.ins C dx fs) ∧ Cls K C ∧ NoAttr K C "word" ∧ NoAttr K C "name" ∧
    fs.lookup ("word" : Str) = some (.str t.word) ∧ fs.lookup ("name" : Str) = some (.str t.name) := by
  have q := any_kd w
  rw [q] at h w ⊢
  generalize t.kd = d at h w
  have h2 : KAt A H v d := h
  cases h2 with
  | way ob _ _ =>
    obtain ⟨dx, fs, h1, lk⟩ := ob
    exact ⟨_, _, dx, fs, rfl, h1, T.cl_Way, T.n_Way_word, T.n_Way_name, lk _ (List.mem_cons_self ..), lk _ (List.mem_cons_of_mem _ (List.mem_cons_self ..))⟩
  | door ob _ _ =>
    obtain ⟨dx, fs, h1, lk⟩ := ob
    exact ⟨_, _, dx, fs, rfl, h1, T.cl_Door, T.n_Door_word, T.n_Door_name, lk _ (List.mem_cons_self ..), lk _ (List.mem_cons_of_mem _ (List.mem_cons_self ..))⟩
  | _ => exact nomatch (show false = true from w)
theorem pr_fld {K : PySem.W.Frag} {mg : Str → Option Value} {A : Ad} {H : Hp} {v : V} {t : Td} (T : Txt K mg A) (h : Th A K H v t) (w : t.pr = true) : ∃ x C dx fs, v = .ref x ∧ H x = some (.ins C dx fs) ∧ Cls K C ∧ NoAttr K C "name" ∧
    fs.lookup ("name" : Str) = some (.str t.name) := by
  have q := any_kd w
  rw [q] at h w ⊢
  generalize t.kd = d at h w
  have h2 : KAt A H v d := h
  cases h2 with
  | part ob _ _ =>
    obtain ⟨dx, fs, h1, lk⟩ := ob
    exact ⟨_, _, dx, fs, rfl, h1, T.cl_Part, T.n_Part_name, lk _ (List.mem_cons_self ..)⟩
  | room ob _ _ =>
    obtain ⟨dx, fs, h1, lk⟩ := ob
    exact ⟨_, _, dx, fs, rfl, h1, T.cl_Room, T.n_Room_name, lk _ (List.mem_cons_of_mem _ (List.mem_cons_self ..))⟩
  | _ => exact nomatch (show false = true from w)
theorem kats_of {A : Ad} {K : PySem.W.Frag} {H : Hp} : ∀ {xs : List V} {ts : List Td}, Paired (Th A K H) xs ts → (∀ t ∈ ts, t = .k t.kd) → KAts A H xs (ts.map Td.kd)
  | _, _, .nil, _ => .nil
  | _, _, .cons h t, w => .cons (by
      have h2 := h
      rw [w _ (List.mem_cons_self ..)] at h2
      exact h2) (kats_of t fun o ho => w o (List.mem_cons_of_mem _ ho))
theorem okWays_good {ts : List Td} (h : okWays ts = true) : goodW [] ts = true := by
  simp only [okWays, Bool.and_eq_true] at h
  exact h.2.2.1
theorem okParts_good {ts : List Td} (h : okParts ts = true) : goodP [] ts = true := by
  simp only [okParts, Bool.and_eq_true] at h
  exact h.2.2.1
theorem heap_gen2 {α : Type} {G : Hp → α → Prop} {H0 : Hp} {q : α} (C : Hp → Prop) (h : C H0) (k : ∀ H1, C H1 → G H1 q) : G H0 q := k _ h
theorem item_way {t : Td} (h : t.item = true) : t.way = true := by
  unfold Td.way Td.simple
  unfold Td.item at h
  simp only [List.any_cons, List.any_nil, Bool.or_false, Bool.or_eq_true] at h ⊢
  rcases h with h | h | h <;> simp only [h, true_or, or_true]
theorem eqk_cls {d e : Kd} {c : Kc} (dc : d.cls = some c) (q : decide ((Td.k e).cls = some c) = false) : d.eqk e = false :=
  eqk_ne (by rw [dc]; exact fun w => of_decide_eq_false q w.symm)
theorem made_cases {A : Ad} {x : Addr} {r : Except Str Kd} {H : Hp} {Q : VK} {E : XK} (he : ∀ p, r = .error p → ∀ (H' : Hp) (d : Addr), Same H H' → H' d = some (.xd [("part", .str p)]) → E (.ref A.c_BadKind) (some d) H') (hk : ∀ k, r = .ok k → ∀ H', Same H H' → KAt A H' (.ref x) k → Q .non H') : Made A x r H Q E := by
  cases r with
  | error p => exact he p rfl
  | ok k => exact hk k rfl
theorem made_ok {A : Ad} {x : Addr} {r : Except Str Kd} {kd : Kd} {H : Hp} {Q : VK} {E : XK} (e : r = .ok kd) (hk : ∀ H', Same H H' → KAt A H' (.ref x) kd → Q .non H') : Made A x r H Q E := by
  subst e
  exact hk
mutual
theorem eqk_refl : ∀ k : Kd, k.eqk k = true
  | .num a b w => by simp [Kd.eqk]
  | .bits n => by simp [Kd.eqk]
  | .call s => by simp [Kd.eqk]
  | .items i w => by simp [Kd.eqk, eqk_refl i]
  | .nothing => rfl
  | .none => rfl
  | .way w n k => by simp [Kd.eqk, eqk_refl k]
  | .door w n k => by simp [Kd.eqk, eqk_refl k]
  | .part n k => by simp [Kd.eqk, eqk_refl k]
  | .room w n k => by simp [Kd.eqk, eqk_refl k]
  | .choice ks => by simp [Kd.eqk, eqAll_refl ks]
  | .row ks => by simp [Kd.eqk, eqAll_refl ks]
theorem eqAll_refl : ∀ ks : List Kd, Kd.eqAll ks ks = true
  | [] => rfl
  | k :: ks => by simp [Kd.eqAll, eqk_refl k, eqAll_refl ks]
end
mutual
theorem nn_refl : ∀ k : Kd, k.nn k = true
  | .num _ _ _ => rfl
  | .bits _ => rfl
  | .call _ => rfl
  | .items _ _ => rfl
  | .nothing => rfl
  | .none => rfl
  | .way _ _ _ => rfl
  | .door _ _ _ => by simp [Kd.nn]
  | .part _ _ => rfl
  | .room _ _ _ => by simp [Kd.nn]
  | .choice ks => by simp [Kd.nn, nnAll_refl ks]
  | .row ks => by simp [Kd.nn, nnAll_refl ks]
theorem nnAll_refl : ∀ ks : List Kd, Kd.nnAll ks ks = true
  | [] => rfl
  | k :: ks => by simp [Kd.nnAll, nn_refl k, nnAll_refl ks]
end
/-- two like kinds: the reading of == -/
theorem eqkd_same {A : Ad} {L : List Kc} {x y : V} {H : Hp} {Q : VK} {d : Kd} {c : Kc} (hx : KAt A H x d) (hy : KAt A H y d) (hc : d.cls = some c) (hl : c ∈ L) (q : Q (.bl true) H) : rEqKd A L x y H Q :=
  ⟨d, d, hx, hy, Iff.rfl, fun c' e => by rw [hc] at e; injection e with e; rw [← e]; exact hl, nn_refl d, by rw [eqk_refl]; exact q⟩
theorem ite_err {c : Prop} [Decidable c] {p : Str} {r : Except Str Kd} {k : Kd} (h : (if c then Except.error p else r) = .ok k) : ¬ c ∧ r = .ok k := by
  by_cases hc : c
  · rw [if_pos hc] at h; cases h
  · rw [if_neg hc] at h; exact ⟨hc, h⟩
theorem mkNum_ok {a b w : V} {k : Kd} (h : mkNum a b w = .ok k) : a = .int (intOf a) ∧ b = .int (intOf b) ∧ w = oi (oiOf w) ∧ k = .num (intOf a) (intOf b) (oiOf w) := by
  obtain ⟨h1, h⟩ := ite_err h
  obtain ⟨h2, h⟩ := ite_err h
  obtain ⟨h3, h⟩ := ite_err h
  have e := Except.ok.inj h
  exact ⟨intOf_isI (by simpa using h1), intOf_isI (by cases z : isI b with | true => rfl | false => exact absurd (.inl z) h2), okW_oi (by simpa using h3), e.symm⟩
theorem mkBits_ok {v : V} {k : Kd} (h : mkBits v = .ok k) : v = .int (intOf v) ∧ k = .bits (intOf v) := by
  obtain ⟨h1, h⟩ := ite_err h
  have e := Except.ok.inj h
  exact ⟨intOf_isI (by cases z : isI v with | true => rfl | false => exact absurd (.inl z) h1), e.symm⟩
theorem mkCall_ok {v : V} {k : Kd} (h : mkCall v = .ok k) : v = .str (strOf v) ∧ k = .call (strOf v) := by
  obtain ⟨h1, h⟩ := ite_err h
  have e := Except.ok.inj h
  exact ⟨by cases v <;> first | rfl | exact absurd rfl h1, e.symm⟩
theorem mkItems_ok {t : Td} {w : V} {k : Kd} (h : mkItems t w = .ok k) : t.item = true ∧ w = oi (oiOf w) ∧ k = .items t.kd (oiOf w) := by
  obtain ⟨h1, h⟩ := ite_err h
  obtain ⟨h2, h⟩ := ite_err h
  have e := Except.ok.inj h
  refine ⟨by simpa using h1, ?_, e.symm⟩
  by_cases z : w = .non
  · rw [z]; rfl
  · cases w <;> first | rfl | exact absurd ⟨z, .inl rfl⟩ h2
theorem KI.new2 {H : Hp} {D : Addr} {o o2 : HO} (h : H D = none) : KI H (upd (upd H D o) D o2) := KI.same fun b u e => by rw [upd_ne (ne_of_none e h), upd_ne (ne_of_none e h)]; exact e
theorem Chg.new2 {d : Dr} {H : Hp} {D : Addr} {o o2 : HO} (h : H D = none) : Chg d H (L2.upd (L2.upd H D o) D o2) := fun b u n e => by rw [upd_ne (ne_of_none e h), upd_ne (ne_of_none e h)]; exact e
theorem Rng.new2 {d : Dr} {H : Hp} {D : Addr} {o o2 : HO} (r : Rng d H) (h : H D = none) : Rng d (upd (upd H D o) D o2) := (r.new h).put (r.nep h) (r.nel h)
theorem pick_at {xs : List V} {v : Int} (h0 : 0 ≤ v) (h1 : v < (xs.length : Int)) : ∃ x, x ∈ xs ∧ atI xs v = some x := by
  obtain ⟨n, rfl⟩ := Int.eq_ofNat_of_zero_le h0
  have hn : n < xs.length := by omega
  exact ⟨xs[n], List.getElem_mem hn, atI_nat (by simp [hn])⟩
theorem cut_tup {xs : List V} {i : Nat} (h : i < xs.length) : ¬ (HT.sIx xs.length 0 none = 0 ∧ HT.sIx xs.length xs.length (some (i : Int)) = xs.length) := by
  rintro ⟨_, w⟩
  rw [HT.sIx_nat] at w
  omega
abbrev sp__law_start (K : PySem.W.Frag) (_ : Ad) : Sp := sp_start K
abbrev sp_law (K : PySem.W.Frag) (_ : Ad) : Sp := sp_law0 K
abbrev sp__law_pull (_ : PySem.W.Frag) (_ : Ad) : Sp := sp_pull

/-- a drawn odd thing: no kind, at most a short text -/
def Odd (A : Ad) (K : PySem.W.Frag) (H : Hp) (v : V) : Prop := ∃ t, Th A K H v t ∧ t.cls = none ∧ Short v
def Atom : V → Prop
  | .non => True
  | .int _ => True
  | .str _ => True
  | _ => False
abbrev sp__law_is_int (K : PySem.W.Frag) (_ : Ad) : Sp := Sp1 fun v H Q _ => ∃ t, VT K H v t ∧ Q (.bl (isI v)) H
abbrev sp__law_odd1 (K : PySem.W.Frag) (A : Ad) : Sp := Sp1 fun a H Q _ => ∃ (d : Dr), a = .ref d.p ∧ Rng d H ∧ ∀ v H', Odd A K H' v → Chg d H H' → Rng d H' → Q v H'
abbrev sp__law_word (_ : PySem.W.Frag) (_ : Ad) : Sp := Sp1 fun a H Q _ => ∃ (d : Dr), a = .ref d.p ∧ Rng d H ∧ ∀ (x : Str) H', x.length ≤ 100 → Chg d H H' → Rng d H' → Q (.str x) H'
abbrev sp__law_is_name (K : PySem.W.Frag) (_ : Ad) : Sp := Sp1 fun v H Q _ => ∃ t, VT K H v t ∧ Short v ∧ ∀ H', Same H H' → Q (.bl (okName v)) H'
abbrev sp__law_same0 (_ : PySem.W.Frag) (_ : Ad) : Sp := Sp2 fun v w H Q _ => v = w ∧ Atom v ∧ Q (.bl true) H
abbrev sp__law_same (_ : PySem.W.Frag) (_ : Ad) : Sp := Sp2 fun v w H Q _ => ∃ p q xs, v = .ref p ∧ w = .ref q ∧ H p = some (.tup xs) ∧ H q = some (.tup xs) ∧ (∀ x ∈ xs, Atom x) ∧ xs.length ≤ 10 ∧ Q (.bl true) H
section
variable {K : PySem.W.Frag} {mg : Str → Option Value} {A : Ad} {H H' : Hp} {v : V}
theorem Odd.vt (T : Txt K mg A) (h : Odd A K H v) : ∃ t, VT K H v t := by
  obtain ⟨t, h, _, _⟩ := h
  exact ⟨_, h.vt T⟩
theorem Odd.keep (e : KI H H') (h : Odd A K H v) : Odd A K H' v := by
  obtain ⟨t, h, h2, h3⟩ := h
  exact ⟨t, h.keep e, h2, h3⟩
theorem short_no {v : V} (h : (strOf v).length = 0) : Short v := by unfold Short; omega
theorem odd_non : Odd A K H .non := ⟨.k .none, .none, rfl, short_no rfl⟩
theorem odd_int (i : Int) : Odd A K H (.int i) := ⟨.raw "int", ⟨by decide, .int i⟩, rfl, short_no rfl⟩
theorem odd_bl (b : Bool) : Odd A K H (.bl b) := ⟨.raw "bool", ⟨by decide, .bl b⟩, rfl, short_no rfl⟩
theorem odd_str {x : Str} (h : x.length ≤ 1000000) : Odd A K H (.str x) := ⟨.raw "str", ⟨by decide, .str x⟩, rfl, h⟩
theorem odd_lst {a : Addr} {xs : List V} (h : H a = some (.lst xs)) : Odd A K H (.ref a) := ⟨.raw "list", ⟨by decide, .lst h⟩, rfl, short_no rfl⟩
theorem odd_tup {a : Addr} {xs : List V} (h : H a = some (.tup xs)) : Odd A K H (.ref a) := ⟨.raw "tuple", ⟨by decide, .tup h⟩, rfl, short_no rfl⟩
theorem odd_dK {a : Addr} {xs : List (Key × V)} (h : H a = some (.dK xs)) : Odd A K H (.ref a) := ⟨.raw "dict", ⟨by decide, .dK h⟩, rfl, short_no rfl⟩
end
theorem short_lit {x : Str} (h : x.length ≤ 1000000) : Short (.str x) := h
theorem short_a : Short (.str "a") := short_lit (by decide +kernel)
theorem short_0 : Short (.str "0") := short_lit (by decide +kernel)
theorem short_ab : Short (.str "ab") := short_lit (by decide +kernel)
theorem mkSeq_ok {f : List Kd → Kd} {ok : List Td → Bool} {p : Str} {ts : List Td} (h : ok ts = true) : mkSeq f ok p (some ts) = .ok (f (ts.map Td.kd)) := by
  show (if ok ts = false then Except.error p else Except.ok (f (ts.map Td.kd))) = _
  rw [if_neg (by rw [h]; decide)]
theorem way_0a : mkInner .way (.str "0") (.str "a") (.k .nothing) (Td.way (.k .nothing)) = .ok (.way "0" "a" .nothing) := by
  unfold mkInner
  rw [show chk (.str "0") (.str "a") (Td.way (.k .nothing)) = none by decide +kernel]
  rfl
theorem part_a : mkPart (.str "a") (.k (.bits 1)) = .ok (.part "a" (.bits 1)) := (if_neg (by decide +kernel)).trans (if_neg (by decide +kernel))
theorem choice_0a : mkSeq .choice okWays "ways" (some [.k (.way "0" "a" .nothing)]) = .ok (.choice [.way "0" "a" .nothing]) := mkSeq_ok (by decide +kernel)
theorem row_a : mkSeq .row okParts "parts" (some [.k (.part "a" (.bits 1))]) = .ok (.row [.part "a" (.bits 1)]) := mkSeq_ok (by decide +kernel)
theorem all_take {l : List Nat} {f : Nat → Bool} {i c : Nat} (hc : l[i]? = some c) : (l.take (i + 1)).all f = ((l.take i).all f && f c) := by
  rw [List.take_succ, hc, List.all_append]
  simp
theorem str_pos {x : Str} (h : decide (V.str x = V.str "") = false) : 0 < x.length := by
  rcases Nat.eq_zero_or_pos x.length with e | e
  · exfalso
    refine of_decide_eq_false h ?_
    congr 1
    cases x with
    | mk a =>
      have q : a = #[] := Array.eq_empty_of_size_eq_zero e
      rw [q]
      decide +kernel
  · exact e
theorem cut_len {z : Str} {lo hi : Option Int} {n : Nat} (h : z.length ≤ n) : (cutS z lo hi).length ≤ n := Nat.le_trans (cutS_length z lo hi) h
theorem app_len {a b : Str} {n m : Nat} (h1 : a.length ≤ n) (h2 : b.length ≤ m) : (a ++ b).length ≤ n + m := by
  rw [PySem.Str.length_append]
  omega

def objK (n : Int) : Kd :=
  if n = 0 then .num (-3) 5 none else if n = 1 then .bits 3 else if n = 2 then .call "ab" else if n = 3 then .items (.bits 1) (some 2) else if n = 4 then .nothing else if n = 5 then .none else
  if n = 6 then .choice [.way "0" "a" .nothing] else if n = 7 then .row [.part "a" (.bits 1)] else if n = 8 then .part "a" (.bits 1) else if n = 9 then .room "0" "a" .none else .door "0" "a" .none
/-- all but the state and the list at p stands -/
def ChgP (d : Dr) (p : Addr) (H H' : Hp) : Prop := ∀ b o, b ≠ d.p → b ≠ p → H b = some o → H' b = some o
/-- a drawn entry -/
inductive Ent where
  | pl (s : Int) (w n : Str)
  | ob (k : Int)
  | od (t : Td)
def Ent.ok : Ent → Prop
  | .pl s w n => (s = 0 ∨ s = 1) ∧ okWord (.str w) = true ∧ okName (.str n) = true
  | .ob k => 0 ≤ k ∧ k ≤ 10
  | .od t => t.cls = none
def Ent.plain : Ent → Prop
  | .pl _ _ _ => True
  | _ => False
def EntAt (A : Ad) (K : PySem.W.Frag) (H : Hp) (v : V) (e : Ent) : Prop := e.ok ∧ ∃ a, v = .ref a ∧ (match e with
  | .pl s w n => H a = some (.lst [.int s, .str w, .str n])
  | .ob k => H a = some (.lst [.int 2, .str "0", .str "a", .int k])
  | .od t => ∃ x, H a = some (.lst [.int 3, .str "0", .str "a", x]) ∧ Th A K H x t)
def entT (b : Bool) : Ent → Td
  | .pl s w n => if b then (if s = 0 then .k (.part n (.bits 2)) else .k (.room w n .none)) else (if s = 0 then .k (.way w n .nothing) else .k (.door w n (.num 0 6 none)))
  | .ob k => .k (objK k)
  | .od t => t
structure Pl where
  s : Int
  w : Str
  n : Str
def plE (b : Bool) : Ent → Pl
  | .pl s w n => ⟨s, w, n⟩
  | .ob k => if b = true ∧ k = 8 then ⟨0, "0", "a"⟩ else if b = true ∧ k = 9 then ⟨1, "0", "a"⟩ else if b = false ∧ k = 10 then ⟨1, "0", "a"⟩ else ⟨3, "0", "a"⟩
  | .od _ => ⟨3, "0", "a"⟩
def PlAt (H : Hp) (v : V) (e : Pl) : Prop := ∃ a r, v = .ref a ∧ H a = some (.lst (.int e.s :: .str e.w :: .str e.n :: r)) ∧ r.length ≤ 1
/-- what is found of the entries: no two clash -/
def clearE (b : Bool) (seen : List Pl) (e : Pl) : Bool := seen.all fun o => !decide (e.n = o.n) && (b || !(pre2 e.w o.w))
def sepE (b : Bool) : List Pl → List Pl → Bool
  | _, [] => true
  | seen, e :: es => clearE b seen e && sepE b (seen ++ [e]) es
def goodE (b : Bool) (ps : List Pl) : Bool := decide (1 ≤ ps.length) && (decide (ps.length ≤ if b then 8 else 12) && ((ps.all fun e => decide (e.s ≤ 1)) && (sepE b [] ps &&
  if b then (match ps.getLast? with
    | some e => decide (e.s = 0)
    | none => false) else ps.any fun e => decide (e.s = 0))))
def partN (b : Bool) : Str := if b then "parts" else "ways"
def mkCR (b : Bool) (o : Option (List Td)) : Except Str Kd := if b then mkSeq .row okParts "parts" o else mkSeq .choice okWays "ways" o
def MadeT (A : Ad) (r : Except Str Kd) (H : Hp) (Q : VK) (E : XK) : Prop := match r with
  | .error p => ∀ (H' : Hp) (d : Addr), Same H H' → H' d = some (.xd [("part", .str p)]) → E (.ref A.c_BadKind) (some d) H'
  | .ok (.choice ks) => ∀ t vs H', Same H H' → H' t = some (.tup vs) → KAts A H' vs ks → Q (.ref t) H'
  | .ok (.row ks) => ∀ t vs H', Same H H' → H' t = some (.tup vs) → KAts A H' vs ks → Q (.ref t) H'
  | .ok _ => False
/-- told of a making: a tuple -/
def ToldAt (A : Ad) (r : Except Str Kd) (H : Hp) (q : Addr) : Prop := match r with
  | .error p => H q = some (.tup [.str "refused", .str p])
  | .ok (.choice ks) => ∃ t vs, H q = some (.tup [.str "made", .ref t]) ∧ H t = some (.tup vs) ∧ KAts A H vs ks
  | .ok (.row ks) => ∃ t vs, H q = some (.tup [.str "made", .ref t]) ∧ H t = some (.tup vs) ∧ KAts A H vs ks
  | .ok _ => False
/-- an odd thing, as a choice's or a row's argument too -/
def allInts (xs : List V) : Bool := xs.all fun v => match v with
  | .int _ => true
  | _ => false
def Odd2 (A : Ad) (K : PySem.W.Frag) (H : Hp) (v : V) : Prop := (∃ t, Th A K H v t ∧ t.cls = none) ∧
  ((∃ a xs, v = .ref a ∧ H a = some (.lst xs) ∧ allInts xs = true ∧ xs.length ≤ 100) ∨ (∃ a xs, v = .ref a ∧ H a = some (.tup xs) ∧ allInts xs = true ∧ xs.length ≤ 100) ∨ ∃ t, VT K H v t ∧ t ≠ .type "list" ∧ t ≠ .type "tuple")
abbrev sp__law_odd (K : PySem.W.Frag) (A : Ad) : Sp := Sp1 fun a H Q _ => ∃ (d : Dr), a = .ref d.p ∧ Rng d H ∧ ∀ v H', Odd2 A K H' v → Chg d H H' → Rng d H' → Q v H'
abbrev sp__law_object (_ : PySem.W.Frag) (A : Ad) : Sp := Sp1 fun i H Q _ => ∃ n, i = .int n ∧ 0 ≤ n ∧ n ≤ 10 ∧ ∀ v H', Same H H' → KAt A H' v (objK n) → Q v H'
abbrev sp__law_bits (_ : PySem.W.Frag) (_ : Ad) : Sp := Sp2 fun a b H Q _ => ∃ (d : Dr) (n : Int), a = .ref d.p ∧ b = .int n ∧ 0 ≤ n ∧ n ≤ 20 ∧ Rng d H ∧ ∀ (x : Str) H', okBits (.str x) = true → (x.length : Int) = n → Chg d H H' → Rng d H' → Q (.str x) H'
abbrev sp__law_name (_ : PySem.W.Frag) (_ : Ad) : Sp := Sp2 fun a t H Q _ => ∃ (d : Dr) (p : Addr) (ws : List Str), a = .ref d.p ∧ t = .ref p ∧ p ≠ d.p ∧ p ≠ d.l ∧ Rng d H ∧ H p = some (.lst (ws.map V.str)) ∧ ws.length ≤ 20 ∧
  ∀ (x : Str) H', okName (.str x) = true → H' p = some (.lst ((ws ++ [x]).map V.str)) → ChgP d p H H' → Rng d H' → Q (.str x) H'
abbrev sp__law_words (_ : PySem.W.Frag) (_ : Ad) : Sp := Sp2 fun a b H Q _ => ∃ (d : Dr) (n : Int), a = .ref d.p ∧ b = .int n ∧ 1 ≤ n ∧ n ≤ 13 ∧ Rng d H ∧ ∀ p (ws : List Str) H', H' p = some (.lst (ws.map V.str)) → H p = none → p ≠ d.p → p ≠ d.l → (ws.length : Int) = n → (∀ w ∈ ws, okWord (.str w) = true) → Chg d H H' → Rng d H' → Q (.ref p) H'
abbrev sp__law_rows (K : PySem.W.Frag) (A : Ad) : Sp := Sp2 fun a b H Q _ => ∃ (d : Dr) (c : Bool), a = .ref d.p ∧ b = .bl c ∧ Rng d H ∧ ∀ g vs es H', g ≠ d.p → H' g = some (.lst vs) → Paired (fun v e => EntAt A K H' v e) vs es → vs.length ≤ 13 → Chg d H H' → Rng d H' → Q (.ref g) H'
/-- a plain entry -/
def Pn (H : Hp) (v : V) : Prop := ∃ (a : Addr) (s : Int) (w n : Str), v = .ref a ∧ H a = some (.lst [.int s, .str w, .str n]) ∧ (s = 0 ∨ s = 1) ∧ okWord (.str w) = true ∧ okName (.str n) = true
/-- all but the state, the list at g and its entries stands -/
def Stay (d : Dr) (g : Addr) (vs : List V) (H H' : Hp) : Prop := ∀ b o, b ≠ d.p → b ≠ g → V.ref b ∉ vs → H b = some o → H' b = some o
abbrev sp__law_spoil (K : PySem.W.Frag) (A : Ad) : Sp := Sp2 fun a b H Q _ => ∃ (d : Dr) (g : Addr) (vs : List V), a = .ref d.p ∧ b = .ref g ∧ Rng d H ∧ H g = some (.lst vs) ∧ (∀ v ∈ vs, Pn H v) ∧ 1 ≤ vs.length ∧ vs.length ≤ 13 ∧ g ≠ d.p ∧ g ≠ d.l ∧
  (∀ a, V.ref a ∈ vs → a ≠ d.p ∧ a ≠ d.l ∧ a ≠ g) ∧ ∀ vs' H', H' g = some (.lst vs') → (∀ v ∈ vs', ∃ e, EntAt A K H' v e) → vs'.length = vs.length → Stay d g vs H H' → Rng d H' → Q .non H'
abbrev sp__law_one (K : PySem.W.Frag) (A : Ad) : Sp := Sp2 fun b v H Q _ => ∃ (c : Bool) (e : Ent), b = .bl c ∧ EntAt A K H v e ∧ ∀ w H', Same H H' → Th A K H' w (entT c e) → Q w H'
abbrev sp__law_plain (K : PySem.W.Frag) (A : Ad) : Sp := Sp2 fun b v H Q _ => ∃ (c : Bool) (e : Ent), b = .bl c ∧ EntAt A K H v e ∧ ∀ w H', Same H H' → PlAt H' w (plE c e) → Q w H'
abbrev sp__law_good (_ : PySem.W.Frag) (_ : Ad) : Sp := Sp2 fun b v H Q _ => ∃ (c : Bool) (p : Addr) (vs : List V) (ps : List Pl), b = .bl c ∧ v = .ref p ∧ H p = some (.lst vs) ∧ Paired (fun v e => PlAt H v e) vs ps ∧ vs.length ≤ 13 ∧ ∀ H', Same H H' → Q (.bl (goodE c ps)) H'
abbrev sp__law_make (K : PySem.W.Frag) (A : Ad) : Sp := Sp2 fun b v H Q E => ∃ (c : Bool) (o : Option (List Td)), b = .bl c ∧ Seqs A K H v o ∧ MadeT A (mkCR c o) H Q E
abbrev sp__law_told (K : PySem.W.Frag) (A : Ad) : Sp := Sp2 fun b v H Q _ => ∃ (c : Bool) (o : Option (List Td)), b = .bl c ∧ Seqs A K H v o ∧ ∀ q H', Same H H' → ToldAt A (mkCR c o) H' q → Q (.ref q) H'
abbrev sp__law_is_right (K : PySem.W.Frag) (A : Ad) : Sp := Sp3 fun b w v H Q _ => ∃ (c : Bool) (i : Int) (t : Td), b = .bl c ∧ w = .int i ∧ Th A K H v t ∧ Q (.bl (decide (t.cls = some (if c then (if i = 0 then Kc.part else .room) else (if i = 0 then .way else .door))))) H
abbrev sp__law_kept (K : PySem.W.Frag) (A : Ad) : Sp := Sp4 fun b g p t H Q _ => ∃ (c : Bool) (ga pa ta : Addr) (gs : List V) (es : List Ent) (pl vs : List V), b = .bl c ∧ g = .ref ga ∧ p = .ref pa ∧ t = .ref ta ∧ H ga = some (.lst gs) ∧ Paired (fun v e => EntAt A K H v e) gs es ∧ H pa = some (.lst pl) ∧
  Paired (fun v e => PlAt H v e) pl (es.map (plE c)) ∧ H ta = some (.tup vs) ∧ KAts A H vs (es.map fun e => (entT c e).kd) ∧ (if c then okParts else okWays) (es.map (entT c)) = true ∧ ∀ H', Same H H' → Q (.bl true) H'
abbrev sp__law_after_change (K : PySem.W.Frag) (A : Ad) : Sp := Sp2 fun b g H Q _ => ∃ (c : Bool) (ga : Addr) (gs : List V) (es : List Ent), b = .bl c ∧ g = .ref ga ∧ H ga = some (.lst gs) ∧ Paired (fun v e => EntAt A K H v e) gs es ∧ (if c then okParts else okWays) (es.map (entT c)) = true ∧
  ∀ t vs H', Same H H' → H' t = some (.tup vs) → KAts A H' vs (es.map fun e => (entT c e).kd) → Q (.ref t) H'

theorem way_0n : mkInner .door (.str "0") (.str "a") (.k .none) (Td.door (.k .none)) = .ok (.door "0" "a" .none) := by
  unfold mkInner
  rw [show chk (.str "0") (.str "a") (Td.door (.k .none)) = none by decide +kernel]
  rfl
theorem room_0n : mkInner .room (.str "0") (.str "a") (.k .none) (Td.room (.k .none)) = .ok (.room "0" "a" .none) := by
  unfold mkInner
  rw [show chk (.str "0") (.str "a") (Td.room (.k .none)) = none by decide +kernel]
  rfl

theorem app_all {f : Nat → Bool} {x : Str} {c : Nat} : ((x ++ (⟨#[c]⟩ : Str)).cps.toList.all f) = (x.cps.toList.all f && f c) := by
  rw [PySem.Str.cps_append, Array.toList_append, List.all_append]
  simp
theorem app_len1 {x : Str} {c : Nat} : (x ++ (⟨#[c]⟩ : Str)).length = x.length + 1 := PySem.Str.length_append _ _
theorem inV_str {y : Str} : ∀ ws : List Str, inV (.str y) (ws.map V.str) = decide (y ∈ ws)
  | [] => rfl
  | w :: ws => by
    have ih := inV_str (y := y) ws
    show (eqV (.str w) (.str y) || inV (.str y) (ws.map V.str)) = _
    rw [ih]
    show ((w == y) || decide (y ∈ ws)) = _
    by_cases e : w = y
    · subst e; simp
    · have : (w == y) = false := by simpa using e
      rw [this, Bool.false_or]
      exact decide_eq_decide.mpr ⟨fun h => List.mem_cons_of_mem _ h, fun h => (List.mem_cons.mp h).elim (fun z => absurd z.symm e) id⟩
theorem flat_strs : ∀ ws : List Str, (ws.map V.str).all flatV = true
  | [] => rfl
  | _ :: ws => flat_strs ws
theorem php {f : Nat → Str} (inj : ∀ a b, f a = f b → a = b) : ∀ (l : List Nat) (ws : List Str), l.Nodup → (∀ a ∈ l, f a ∈ ws) → l.length ≤ ws.length
  | [], _, _, _ => Nat.zero_le _
  | a :: l, ws, nd, h => by
    have ha := h a (List.mem_cons_self ..)
    have nd2 := List.nodup_cons.mp nd
    have ih := php inj l (ws.erase (f a)) nd2.2 fun b hb => (List.mem_erase_of_ne (fun z => nd2.1 (by rw [← inj b a z]; exact hb))).mpr (h b (List.mem_cons_of_mem _ hb))
    rw [List.length_erase_of_mem ha] at ih
    have : 0 < ws.length := List.length_pos_of_mem ha
    rw [List.length_cons]
    omega
theorem app_inj {x : Str} (a b : Nat) (h : x ++ (⟨#[a]⟩ : Str) = x ++ (⟨#[b]⟩ : Str)) : a = b := by
  have e := congrArg (fun z : Str => z.cps.toList) h
  simp only [PySem.Str.cps_append, Array.toList_append] at e
  have e2 := List.append_cancel_left e
  simpa using e2
def abcL : List Nat := [97, 98, 99, 100, 101, 102, 103, 104, 105, 106, 107, 108, 109, 110, 111, 112, 113, 114, 115, 116, 117, 118, 119, 120, 121, 122]
theorem abc_nodup : abcL.Nodup := by decide
theorem letter_ok {c : Nat} (h : letter c) : (decide (97 ≤ c) && decide (c ≤ 122)) = true := by rw [decide_eq_true h.1, decide_eq_true h.2]; rfl
theorem bit_ok {c : Nat} (h : bit c) : (decide (c = 48) || decide (c = 49)) = true := by
  rcases h with h | h
  · rw [h]; rfl
  · rw [h]; rfl
theorem ChgP.of {d : Dr} {p : Addr} {H H' : Hp} (h : Chg d H H') : ChgP d p H H' := fun b o n _ e => h b o n e
theorem ChgP.trans {d : Dr} {p : Addr} {H H1 H2 : Hp} (a : ChgP d p H H1) (b : ChgP d p H1 H2) : ChgP d p H H2 := fun c o n m e => b c o n m (a c o n m e)
theorem ChgP.set {d : Dr} {p : Addr} {H : Hp} {o : HO} : ChgP d p H (upd H p o) := fun b u _ m e => by rw [upd_ne m]; exact e
/-- the first place -/
theorem first_of {k : Str} : ∀ {zs : List Str}, k ∈ zs → ∃ j : Nat, zs[j]? = some k ∧ ∀ m : Nat, m < j → zs[m]? ≠ some k
  | [], h => by cases h
  | z :: zs, h => by
    by_cases e : z = k
    · exact ⟨0, by rw [e]; rfl, fun m hm => absurd hm (Nat.not_lt_zero m)⟩
    · obtain ⟨j, h1, h2⟩ := first_of ((List.mem_cons.mp h).resolve_left fun q => e q.symm)
      refine ⟨j + 1, h1, fun m hm => ?_⟩
      cases m with
      | zero => exact fun q => e (Option.some.inj q)
      | succ m => exact h2 m (by omega)
/-- how much of all words begins with this one -/
def kw (w : Str) : Nat := 2 ^ (8 - w.length)
theorem kw_pos {w : Str} : 1 ≤ kw w := Nat.one_le_two_pow
theorem sum_erase : ∀ (zs : List Str) (j : Nat) (k : Str), zs[j]? = some k → ((zs.eraseIdx j).map kw).sum + kw k = (zs.map kw).sum
  | [], _, _, h => by simp at h
  | z :: zs, 0, k, h => by
    have q : z = k := Option.some.inj h
    subst q
    show (zs.map kw).sum + kw z = _
    rw [List.map_cons, List.sum_cons]
    omega
  | z :: zs, j + 1, k, h => by
    have ih := sum_erase zs j k h
    show ((z :: zs.eraseIdx j).map kw).sum + kw k = _
    rw [List.map_cons, List.sum_cons, List.map_cons, List.sum_cons]
    omega
theorem kw_half {w : Str} {c : Nat} (h : w.length < 8) : kw (w ++ (⟨#[c]⟩ : Str)) + kw (w ++ (⟨#[c]⟩ : Str)) = kw w := by
  unfold kw
  rw [app_len1]
  have : 8 - w.length = (8 - (w.length + 1)) + 1 := by omega
  rw [this, Nat.pow_succ]
  omega
theorem all_eight : ∀ {zs : List Str}, (∀ z ∈ zs, z.length = 8) → (zs.map kw).sum = zs.length
  | [], _ => rfl
  | z :: zs, h => by
    have ih := all_eight (zs := zs) fun y hy => h y (List.mem_cons_of_mem _ hy)
    rw [List.map_cons, List.sum_cons, ih, List.length_cons]
    have : kw z = 1 := by unfold kw; rw [h z (List.mem_cons_self ..)]
    omega
theorem mem_erase {α : Type} {x : α} {zs : List α} {j : Nat} (h : x ∈ zs.eraseIdx j) : x ∈ zs := List.mem_of_mem_eraseIdx h
def wordy (w : Str) : Prop := okWord (.str w) = true
theorem wordy_of {w : Str} (h : okBits (.str w) = true) (h1 : 1 ≤ w.length) (h8 : w.length ≤ 8) : wordy w := by
  show (okBits (.str w) && (decide (1 ≤ w.length) && decide (w.length ≤ 8))) = true
  rw [h, decide_eq_true h1, decide_eq_true h8]
  rfl
theorem wordy_bits {w : Str} (h : wordy w) : okBits (.str w) = true ∧ 1 ≤ w.length ∧ w.length ≤ 8 := by
  have h2 : (okBits (.str w) && (decide (1 ≤ w.length) && decide (w.length ≤ 8))) = true := h
  simp only [Bool.and_eq_true, decide_eq_true_eq] at h2
  exact ⟨h2.1, h2.2.1, h2.2.2⟩
theorem bits_app {x : Str} {c : Nat} (h : okBits (.str x) = true) (hc : bit c) : okBits (.str (x ++ (⟨#[c]⟩ : Str))) = true := by
  show ((x ++ (⟨#[c]⟩ : Str)).cps.toList.all _) = true
  rw [app_all, bit_ok hc, Bool.and_true]
  exact h

theorem inner_ok {f : Str → Str → Kd → Kd} {w n : Str} {t : Td} {b : Bool} (hw : okWord (.str w) = true) (hn : okName (.str n) = true) (hb : b = true) : mkInner f (.str w) (.str n) t b = .ok (f w n t.kd) := by
  have e : chk (.str w) (.str n) b = none := by
    unfold chk
    rw [if_neg (by rw [hw]; decide), if_neg (by rw [hn]; decide), if_neg (by rw [hb]; decide)]
  unfold mkInner
  rw [e]
  rfl
theorem part_ok {n : Str} {t : Td} (hn : okName (.str n) = true) (ht : t.simple = true) : mkPart (.str n) t = .ok (.part n t.kd) := (if_neg (by rw [hn]; decide)).trans (if_neg (by rw [ht]; decide))
theorem name_short {n : Str} (h : okName (.str n) = true) : Short (.str n) := by
  have h2 : (decide (1 ≤ n.length) && (decide (n.length ≤ 8) && n.cps.toList.all fun c => decide (97 ≤ c) && decide (c ≤ 122))) = true := h
  simp only [Bool.and_eq_true, decide_eq_true_eq] at h2
  show n.length ≤ 1000000
  omega
theorem word_short {w : Str} (h : okWord (.str w) = true) : Short (.str w) := by
  have := (wordy_bits h).2.2
  show w.length ≤ 1000000
  omega
theorem entT_t0 {x : Int} {w n : Str} (e : x = 0) : entT true (.pl x w n) = .k (.part n (.bits 2)) := by subst e; rfl
theorem entT_t1 {x : Int} {w n : Str} (e : ¬ x = 0) : entT true (.pl x w n) = .k (.room w n .none) := by
  show (if x = 0 then Td.k (.part n (.bits 2)) else Td.k (.room w n .none)) = _
  exact if_neg e
theorem entT_f0 {x : Int} {w n : Str} (e : x = 0) : entT false (.pl x w n) = .k (.way w n .nothing) := by subst e; rfl
theorem entT_f1 {x : Int} {w n : Str} (e : ¬ x = 0) : entT false (.pl x w n) = .k (.door w n (.num 0 6 none)) := by
  show (if x = 0 then Td.k (.way w n .nothing) else Td.k (.door w n (.num 0 6 none))) = _
  exact if_neg e
theorem plE_t {j : Int} : plE true (.ob j) = if j = 8 then ⟨0, "0", "a"⟩ else if j = 9 then ⟨1, "0", "a"⟩ else ⟨3, "0", "a"⟩ := by
  unfold plE
  simp
theorem plE_f {j : Int} : plE false (.ob j) = if j = 10 then ⟨1, "0", "a"⟩ else ⟨3, "0", "a"⟩ := by
  unfold plE
  simp
theorem EntAt.keepS {A : Ad} {K : PySem.W.Frag} {H H' : Hp} {v : V} {e : Ent} (h : EntAt A K H v e) (s : Same H H') : EntAt A K H' v e := by
  obtain ⟨ok, a, rfl, he⟩ := h
  refine ⟨ok, a, rfl, ?_⟩
  cases e with
  | pl x w n => exact s _ _ he
  | ob k => exact s _ _ he
  | od t =>
    obtain ⟨x, h1, h2⟩ := he
    exact ⟨x, s _ _ h1, h2.keep (KI.same s)⟩
theorem PlAt.keepS {H H' : Hp} {v : V} {e : Pl} (h : PlAt H v e) (s : Same H H') : PlAt H' v e := by
  obtain ⟨a, r, rfl, h1, h2⟩ := h
  exact ⟨a, r, rfl, s _ _ h1, h2⟩

theorem pair_at {α β : Type} {R : α → β → Prop} : ∀ {xs : List α} {ts : List β} {j : Nat} {y : α}, Paired R xs ts → xs[j]? = some y → ∃ t, ts[j]? = some t ∧ R y t
  | _, _, _, _, .nil, h => by simp at h
  | _, _, 0, _, .cons h t, e => by
    have q := Option.some.inj e
    subst q
    exact ⟨_, rfl, h⟩
  | _, _, j + 1, _, .cons h t, e => pair_at (j := j) t e
theorem pair_len {α β : Type} {R : α → β → Prop} : ∀ {xs : List α} {ts : List β}, Paired R xs ts → xs.length = ts.length
  | _, _, .nil => rfl
  | _, _, .cons _ t => congrArg Nat.succ (pair_len t)
theorem pair_mono {α β : Type} {R S : α → β → Prop} (h : ∀ x y, R x y → S x y) : ∀ {xs : List α} {ts : List β}, Paired R xs ts → Paired S xs ts
  | _, _, .nil => .nil
  | _, _, .cons a t => .cons (h _ _ a) (pair_mono h t)
theorem pair_snoc {α β : Type} {R : α → β → Prop} {x : α} {y : β} (h : R x y) : ∀ {xs : List α} {ts : List β}, Paired R xs ts → Paired R (xs ++ [x]) (ts ++ [y])
  | _, _, .nil => .cons h .nil
  | _, _, .cons a t => .cons a (pair_snoc h t)
theorem kats_at {A : Ad} {H : Hp} : ∀ {vs : List V} {ks : List Kd} {j : Nat} {y : V}, KAts A H vs ks → vs[j]? = some y → ∃ k, ks[j]? = some k ∧ KAt A H y k
  | _, _, _, _, .nil, h => by simp at h
  | _, _, 0, _, .cons h t, e => by
    have q := Option.some.inj e
    subst q
    exact ⟨_, rfl, h⟩
  | _, _, j + 1, _, .cons h t, e => kats_at (j := j) t e
theorem kats_len {A : Ad} {H : Hp} : ∀ {vs : List V} {ks : List Kd}, KAts A H vs ks → vs.length = ks.length
  | _, _, .nil => rfl
  | _, _, .cons _ t => congrArg Nat.succ (kats_len t)
/-- [f(x) for x in xs], f laying new things alone -/
theorem lc_map {α β : Type} {K : PySem.W.Frag} {σ : L2.St} {H : Hp} {te : TE} {j gi : Nat} {vs : List Nat} {a : Addr} {xs : List V} {es : List α} {Q : VK} (S : Hp → V → β → Prop) (hS : ∀ H1 H2 v b, Same H1 H2 → S H1 v b → S H2 v b) (hset : ∀ D H1 ws v v' bs b, H1 D = some (.lst ws) → Paired (S H1) ws bs → S H1 v b → S (upd H1 D (.lst (ws ++ [v']))) v b) (f : α → β) (R : V → α → Prop)
    (hg : σ[gi]? = some (some (.ref a))) (hxs : H a = some (.lst xs)) (hp : Paired R xs es) (hl : xs.length ≤ 100000) (hw : ∀ x, wipe ((wipe σ vs).set j (some x)) vs = wipe σ vs)
    (ht : ∀ (x : V) (e : α) H1 (Q : VK), R x e → Same H H1 → (∀ v H2, Same H1 H2 → S H2 v (f e) → Q v H2) → te ((wipe σ vs).set j (some x)) H1 Q)
    (k : ∀ D (ws : List V) H', H' D = some (.lst ws) → H D = none → Same H H' → Paired (S H') ws (es.map f) → Q (.ref D) H') : tLc (iList K (tVar gi)) (gName j) tYes te vs σ H Q := by
  refine ⟨_, hg, a, rfl, ⟨_, SqL.of hxs⟩, fun D hD => ?_⟩
  have hlen := pair_len hp
  refine lc_it (walk_list (xs := xs)) (fun i H' => ∃ ws : List V, H' D = some (.lst ws) ∧ ws.length ≤ i ∧ Paired (S H') ws ((es.take i).map f) ∧ Same H H') ⟨[], upd_same, Nat.le_refl 0, .nil, same_new hD⟩ (fun i H' _ ⟨_, _, _, _, e⟩ => SqL.of (e _ _ hxs)) ?_ ?_
  · rintro i x H1 H2 hi ⟨ws, hws, lw, hpw, e1⟩ ⟨rfl, hx⟩
    obtain ⟨e, he, hr⟩ := pair_at hp hx
    refine ⟨hw _, ?_⟩
    refine ht x e _ _ hr e1 fun v H3 e3 hs => ?_
    refine ⟨ws, e3 _ _ hws, by rw [sizeLine_eq]; omega, ws ++ [v], upd_same, by rw [List.length_append]; show ws.length + 1 ≤ i + 1; omega, ?_, same_put hD (e1.trans e3)⟩
    have tk : (es.take (i + 1)).map f = (es.take i).map f ++ [f e] := by rw [List.take_succ, he, List.map_append]; rfl
    rw [tk]
    have p3 := pair_mono (fun v b => hS _ _ v b e3) hpw
    exact pair_snoc (hset D H3 ws v v _ _ (e3 _ _ hws) p3 hs) (pair_mono (fun u b q => hset D H3 ws u v _ b (e3 _ _ hws) p3 q) p3)
  · rintro H1 ⟨ws, hws, lw, hpw, e1⟩
    rw [hlen, List.take_length] at hpw
    exact k D ws H1 hws hD e1 hpw

theorem th_set {A : Ad} {K : PySem.W.Frag} : ∀ (D : Addr) (H1 : Hp) (ws : List V) (v v' : V) (bs : List Td) (b : Td), H1 D = some (.lst ws) → Paired (Th A K H1) ws bs → Th A K H1 v b → Th A K (upd H1 D (.lst (ws ++ [v']))) v b := fun D H1 ws v v' bs b h _ t => t.keep (KI.setL h)
theorem pl_set : ∀ (D : Addr) (H1 : Hp) (ws : List V) (v v' : V) (bs : List Pl) (b : Pl), H1 D = some (.lst ws) → Paired (PlAt H1) ws bs → PlAt H1 v b → PlAt (upd H1 D (.lst (ws ++ [v']))) v b := fun D H1 ws v v' bs b h p t => by
  obtain ⟨a, r, rfl, h1, h2⟩ := t
  have n : a ≠ D := fun z => by
    rw [z, h] at h1
    injection h1 with h1
    injection h1 with h1
    subst h1
    cases p with
    | cons q _ =>
      obtain ⟨_, _, e, _⟩ := q
      cases e
  exact ⟨a, r, rfl, by rw [upd_ne n]; exact h1, h2⟩
theorem mkSeq_ok' {f : List Kd → Kd} {ok : List Td → Bool} {p : Str} {o : Option (List Td)} {k : Kd} (h : mkSeq f ok p o = .ok k) : ∃ ts, o = some ts ∧ ok ts = true ∧ k = f (ts.map Td.kd) := by
  cases o with
  | none => cases h
  | some ts =>
    have h2 : (if ok ts = false then Except.error p else Except.ok (f (ts.map Td.kd))) = .ok k := h
    obtain ⟨h3, h4⟩ := ite_err h2
    exact ⟨ts, rfl, by simpa using h3, (Except.ok.inj h4).symm⟩
theorem mkCR_t {o : Option (List Td)} : mkCR true o = mkSeq .row okParts "parts" o := rfl
theorem mkCR_f {o : Option (List Td)} : mkCR false o = mkSeq .choice okWays "ways" o := rfl
theorem madet_cases {A : Ad} {c : Bool} {o : Option (List Td)} {H : Hp} {Q : VK} {E : XK} (he : ∀ p, mkCR c o = .error p → ∀ (H' : Hp) (d : Addr), Same H H' → H' d = some (.xd [("part", .str p)]) → E (.ref A.c_BadKind) (some d) H')
    (hk : ∀ ts, o = some ts → (if c then okParts else okWays) ts = true → ∀ t vs H', Same H H' → H' t = some (.tup vs) → KAts A H' vs (ts.map Td.kd) → Q (.ref t) H') : MadeT A (mkCR c o) H Q E := by
  cases e : mkCR c o with
  | error p => exact he p e
  | ok k =>
    cases c with
    | true =>
      obtain ⟨ts, rfl, h1, rfl⟩ := mkSeq_ok' (mkCR_t.symm.trans e)
      exact hk ts rfl h1
    | false =>
      obtain ⟨ts, rfl, h1, rfl⟩ := mkSeq_ok' (mkCR_f.symm.trans e)
      exact hk ts rfl h1
theorem told_ok {A : Ad} {c : Bool} {ts : List Td} {H : Hp} {q t : Addr} {vs : List V} (h : (if c then okParts else okWays) ts = true) (h1 : H q = some (.tup [.str "made", .ref t])) (h2 : H t = some (.tup vs)) (h3 : KAts A H vs (ts.map Td.kd)) : ToldAt A (mkCR c (some ts)) H q := by
  cases c with
  | true =>
    have e : mkCR true (some ts) = .ok (.row (ts.map Td.kd)) := mkSeq_ok h
    rw [e]
    exact ⟨t, vs, h1, h2, h3⟩
  | false =>
    have e : mkCR false (some ts) = .ok (.choice (ts.map Td.kd)) := mkSeq_ok h
    rw [e]
    exact ⟨t, vs, h1, h2, h3⟩

/-- an entry that a choice or a row takes -/
theorem ent_cls {c : Bool} {e : Ent} (ok : e.ok) (h : (if c then (entT c e).pr else (entT c e).wd) = true) : (entT c e).cls = some (if c then (if (plE c e).s = 0 then Kc.part else .room) else (if (plE c e).s = 0 then .way else .door)) ∧ entT c e = .k (entT c e).kd := by
  cases e with
  | pl x w n =>
    rcases ok.1 with rfl | rfl <;> cases c <;> exact ⟨rfl, rfl⟩
  | od t =>
    have h0 : t.cls = none := ok
    exfalso
    cases c with
    | true =>
      have h2 : t.pr = true := h
      unfold Td.pr at h2
      rw [h0] at h2
      exact nomatch h2
    | false =>
      have h2 : t.wd = true := h
      unfold Td.wd at h2
      rw [h0] at h2
      exact nomatch h2
  | ob j =>
    have hj : j = 0 ∨ j = 1 ∨ j = 2 ∨ j = 3 ∨ j = 4 ∨ j = 5 ∨ j = 6 ∨ j = 7 ∨ j = 8 ∨ j = 9 ∨ j = 10 := by have := ok.1; have := ok.2; omega
    rcases hj with rfl | rfl | rfl | rfl | rfl | rfl | rfl | rfl | rfl | rfl | rfl <;> cases c <;> first | exact ⟨rfl, rfl⟩ | exact nomatch (show false = true from h)
theorem ok_each {c : Bool} {ts : List Td} (h : (if c then okParts else okWays) ts = true) : ∀ t ∈ ts, (if c then t.pr else t.wd) = true := by
  intro t ht
  cases c with
  | true => exact goodP_pr (okParts_good h) t ht
  | false => exact goodW_wd (okWays_good h) t ht
theorem ok_len {c : Bool} {ts : List Td} (h : (if c then okParts else okWays) ts = true) : 1 ≤ ts.length ∧ ts.length ≤ 12 := by
  cases c with
  | true =>
    have h2 : okParts ts = true := h
    simp only [okParts, Bool.and_eq_true, decide_eq_true_eq] at h2
    omega
  | false =>
    have h2 : okWays ts = true := h
    simp only [okWays, Bool.and_eq_true, decide_eq_true_eq] at h2
    omega
theorem ent_cases {c : Bool} {s : Int} : (if c then (if s = 0 then Kc.part else .room) else (if s = 0 then .way else .door)) ∈ [Kc.way, .door, .part, .room] := by
  cases c
  · by_cases h : s = 0
    · simp [h]
    · simp [h]
  · by_cases h : s = 0
    · simp [h]
    · simp [h]

section
variable {K : PySem.W.Frag} {A : Ad} {H H' : Hp} {v : V}
theorem Odd2.keepS (e : Same H H') (h : Odd2 A K H v) : Odd2 A K H' v := by
  obtain ⟨⟨t, h1, h2⟩, h3⟩ := h
  refine ⟨⟨t, h1.keep (KI.same e), h2⟩, ?_⟩
  rcases h3 with ⟨a, xs, rfl, h, q⟩ | ⟨a, xs, rfl, h, q⟩ | ⟨t, h, q⟩
  · exact .inl ⟨a, xs, rfl, e _ _ h, q⟩
  · exact .inr (.inl ⟨a, xs, rfl, e _ _ h, q⟩)
  · exact .inr (.inr ⟨t, h.keep (KK.same e), q⟩)
theorem Odd2.keepC {d : Dr} (r : Rng d H) (r' : Rng d H') (e : Chg d H H') (h : Odd2 A K H v) : Odd2 A K H' v := by
  obtain ⟨⟨t, h1, h2⟩, h3⟩ := h
  refine ⟨⟨t, h1.keep (KI.chg r r' e), h2⟩, ?_⟩
  obtain ⟨i, c, s, R⟩ := r
  rcases h3 with ⟨a, xs, rfl, h, q1, q2⟩ | ⟨a, xs, rfl, h, q⟩ | ⟨t, h, q⟩
  · refine .inl ⟨a, xs, rfl, e _ _ (fun z => ?_) h, q1, q2⟩
    rw [z, R.st] at h
    injection h with h
    injection h with h
    rw [← h] at q1
    cases q1
  · refine .inr (.inl ⟨a, xs, rfl, e _ _ (fun z => ?_) h, q⟩)
    rw [z, R.st] at h
    cases h
  · exact .inr (.inr ⟨t, h.keep (KI.chg ⟨i, c, s, R⟩ r' e).k, q⟩)
theorem nt {n : String} (h1 : n ≠ "list") (h2 : n ≠ "tuple") : Value.type n ≠ .type "list" ∧ Value.type n ≠ .type "tuple" := ⟨fun z => h1 (by injection z), fun z => h2 (by injection z)⟩
theorem odd2_non : Odd2 A K H .non := ⟨⟨.k .none, .none, rfl⟩, .inr (.inr ⟨_, .non, nt (by decide) (by decide)⟩)⟩
theorem odd2_int (i : Int) : Odd2 A K H (.int i) := ⟨⟨.raw "int", ⟨by decide, .int i⟩, rfl⟩, .inr (.inr ⟨_, .int i, nt (by decide) (by decide)⟩)⟩
theorem odd2_bl (b : Bool) : Odd2 A K H (.bl b) := ⟨⟨.raw "bool", ⟨by decide, .bl b⟩, rfl⟩, .inr (.inr ⟨_, .bl b, nt (by decide) (by decide)⟩)⟩
theorem odd2_str {x : Str} (_ : x.length ≤ 1000000) : Odd2 A K H (.str x) := ⟨⟨.raw "str", ⟨by decide, .str x⟩, rfl⟩, .inr (.inr ⟨_, .str x, nt (by decide) (by decide)⟩)⟩
theorem odd2_lst {a : Addr} {xs : List V} (h : H a = some (.lst xs)) (q : allInts xs = true) (l : xs.length ≤ 100) : Odd2 A K H (.ref a) := ⟨⟨.raw "list", ⟨by decide, .lst h⟩, rfl⟩, .inl ⟨a, xs, rfl, h, q, l⟩⟩
theorem odd2_tup {a : Addr} {xs : List V} (h : H a = some (.tup xs)) (q : allInts xs = true) (l : xs.length ≤ 100) : Odd2 A K H (.ref a) := ⟨⟨.raw "tuple", ⟨by decide, .tup h⟩, rfl⟩, .inr (.inl ⟨a, xs, rfl, h, q, l⟩)⟩
theorem odd2_dK {a : Addr} {xs : List (Key × V)} (h : H a = some (.dK xs)) : Odd2 A K H (.ref a) := ⟨⟨.raw "dict", ⟨by decide, .dK h⟩, rfl⟩, .inr (.inr ⟨_, .dK h, nt (by decide) (by decide)⟩)⟩
theorem same_new2 {p : Addr} {o o2 : HO} (h : H p = none) : Same H (upd (upd H p o) p o2) := fun b u e => by rw [upd_ne (ne_of_none e h), upd_ne (ne_of_none e h)]; exact e
theorem ints_raw : ∀ {xs : List V}, allInts xs = true → Paired (Th A K H) xs (xs.map fun _ => Td.raw "int")
  | [], _ => .nil
  | x :: xs, h => by
    cases x with
    | int i =>
      have h2 : (true && allInts xs) = true := h
      rw [Bool.true_and] at h2
      exact .cons ⟨by decide, .int _⟩ (ints_raw h2)
    | _ => exact nomatch (show false = true from h)
theorem raw_bad (xs : List V) (c : Bool) : (if c then okParts else okWays) (xs.map fun _ => Td.raw "int") = false := by
  cases xs with
  | nil => cases c <;> rfl
  | cons x xs =>
    cases c with
    | true =>
      show okParts (Td.raw "int" :: xs.map fun _ => Td.raw "int") = false
      simp only [okParts, show goodP [] (Td.raw "int" :: xs.map fun _ => Td.raw "int") = false from rfl, Bool.false_and, Bool.and_false]
    | false =>
      show okWays (Td.raw "int" :: xs.map fun _ => Td.raw "int") = false
      simp only [okWays, show goodW [] (Td.raw "int" :: xs.map fun _ => Td.raw "int") = false from rfl, Bool.false_and, Bool.and_false]
theorem cr_bad {c : Bool} {ts : List Td} (h : (if c then okParts else okWays) ts = false) : mkCR c (some ts) = .error (partN c) := by
  cases c with
  | true => exact if_pos h
  | false => exact if_pos h
/-- an odd thing makes no choice and no row -/
theorem Odd2.seqs (c : Bool) (h : Odd2 A K H v) : ∃ o, Seqs A K H v o ∧ mkCR c o = .error (partN c) := by
  rcases h.2 with ⟨a, xs, rfl, h, q, l⟩ | ⟨a, xs, rfl, h, q, l⟩ | ⟨t, h, q1, q2⟩
  · exact ⟨some _, .lst h (ints_raw q) l, cr_bad (raw_bad xs c)⟩
  · exact ⟨some _, .tup h (ints_raw q) l, cr_bad (raw_bad xs c)⟩
  · exact ⟨none, .no h q1 q2, by cases c <;> rfl⟩
end

theorem ent_rel {c : Bool} {e : Ent} (ok : e.ok) : (if c then (entT c e).pr else (entT c e).wd) = decide ((plE c e).s ≤ 1) ∧
    ((plE c e).s ≤ 1 → (entT c e).name = (plE c e).n ∧ (c = false → (entT c e).word = (plE c e).w) ∧ decide ((entT c e).cls = some (if c then Kc.part else .way)) = decide ((plE c e).s = 0)) := by
  cases e with
  | pl x w n =>
    rcases ok.1 with rfl | rfl <;> cases c <;> exact ⟨rfl, fun _ => ⟨rfl, (fun z => by first | rfl | cases z), rfl⟩⟩
  | od t =>
    have h0 : t.cls = none := ok
    refine ⟨?_, fun z => absurd z (by show ¬ (3 : Int) ≤ 1; decide)⟩
    cases c with
    | true =>
      show t.pr = _
      unfold Td.pr
      rw [h0]
      rfl
    | false =>
      show t.wd = _
      unfold Td.wd
      rw [h0]
      rfl
  | ob j =>
    have hj : j = 0 ∨ j = 1 ∨ j = 2 ∨ j = 3 ∨ j = 4 ∨ j = 5 ∨ j = 6 ∨ j = 7 ∨ j = 8 ∨ j = 9 ∨ j = 10 := by have := ok.1; have := ok.2; omega
    rcases hj with rfl | rfl | rfl | rfl | rfl | rfl | rfl | rfl | rfl | rfl | rfl <;> cases c <;> first | exact ⟨rfl, fun z => absurd z (by decide)⟩ | exact ⟨rfl, fun _ => ⟨rfl, (fun z => by first | rfl | cases z), rfl⟩⟩
/-- goodW, goodP in two -/
def sepT (c : Bool) : List Td → List Td → Bool
  | _, [] => true
  | seen, t :: ts => (if c then clearP seen t else clearW seen t) && sepT c (seen ++ [t]) ts
theorem good_two (c : Bool) : ∀ (ts seen : List Td), (if c then goodP else goodW) seen ts = ((ts.all fun t => if c then t.pr else t.wd) && sepT c seen ts)
  | [], seen => by cases c <;> rfl
  | t :: ts, seen => by
    have ih := good_two c ts (seen ++ [t])
    cases c with
    | true =>
      have ih2 : goodP (seen ++ [t]) ts = ((ts.all fun t => t.pr) && sepT true (seen ++ [t]) ts) := ih
      show (t.pr && (clearP seen t && goodP (seen ++ [t]) ts)) = ((t.pr && ts.all fun t => t.pr) && (clearP seen t && sepT true (seen ++ [t]) ts))
      rw [ih2]
      cases t.pr <;> cases clearP seen t <;> simp
    | false =>
      have ih2 : goodW (seen ++ [t]) ts = ((ts.all fun t => t.wd) && sepT false (seen ++ [t]) ts) := ih
      show (t.wd && (clearW seen t && goodW (seen ++ [t]) ts)) = ((t.wd && ts.all fun t => t.wd) && (clearW seen t && sepT false (seen ++ [t]) ts))
      rw [ih2]
      cases t.wd <;> cases clearW seen t <;> simp
theorem clear_eq {c : Bool} {e : Ent} (ok : e.ok) (h1 : (plE c e).s ≤ 1) : ∀ {seen : List Ent}, (∀ o ∈ seen, o.ok ∧ (plE c o).s ≤ 1) → (if c then clearP (seen.map (entT c)) (entT c e) else clearW (seen.map (entT c)) (entT c e)) = clearE c (seen.map (plE c)) (plE c e)
  | [], _ => by cases c <;> rfl
  | o :: seen, h => by
    have ih := clear_eq ok h1 (seen := seen) fun x hx => h x (List.mem_cons_of_mem _ hx)
    obtain ⟨oo, o1⟩ := h o (List.mem_cons_self ..)
    obtain ⟨en, ew, _⟩ := (ent_rel (c := c) ok).2 h1
    obtain ⟨on, owd, _⟩ := (ent_rel (c := c) oo).2 o1
    cases c with
    | true =>
      have ih2 : clearP (seen.map (entT true)) (entT true e) = clearE true (seen.map (plE true)) (plE true e) := ih
      show (!decide ((entT true e).name = (entT true o).name) && clearP (seen.map (entT true)) (entT true e)) = ((!decide ((plE true e).n = (plE true o).n) && (true || _)) && clearE true (seen.map (plE true)) (plE true e))
      rw [ih2, en, on, Bool.true_or, Bool.and_true]
    | false =>
      have ih2 : clearW (seen.map (entT false)) (entT false e) = clearE false (seen.map (plE false)) (plE false e) := ih
      show ((!(pre2 (entT false e).word (entT false o).word) && !decide ((entT false e).name = (entT false o).name)) && clearW (seen.map (entT false)) (entT false e)) = ((!decide ((plE false e).n = (plE false o).n) && (false || !(pre2 (plE false e).w (plE false o).w))) && clearE false (seen.map (plE false)) (plE false e))
      rw [ih2, en, on, ew rfl, owd rfl, Bool.false_or, Bool.and_comm (!(pre2 _ _))]
theorem sep_eq {c : Bool} : ∀ {es seen : List Ent}, (∀ o ∈ seen, o.ok ∧ (plE c o).s ≤ 1) → (∀ o ∈ es, o.ok ∧ (plE c o).s ≤ 1) → sepT c (seen.map (entT c)) (es.map (entT c)) = sepE c (seen.map (plE c)) (es.map (plE c))
  | [], _, _, _ => rfl
  | e :: es, seen, h, h2 => by
    obtain ⟨ok, e1⟩ := h2 e (List.mem_cons_self ..)
    have ih := sep_eq (c := c) (es := es) (seen := seen ++ [e]) (fun o ho => (List.mem_append.mp ho).elim (h o) fun q => by rw [List.mem_singleton.mp q]; exact ⟨ok, e1⟩) fun o ho => h2 o (List.mem_cons_of_mem _ ho)
    rw [List.map_append, List.map_append] at ih
    show ((if c then clearP _ _ else clearW _ _) && sepT c (seen.map (entT c) ++ [entT c e]) (es.map (entT c))) = (clearE c (seen.map (plE c)) (plE c e) && sepE c (seen.map (plE c) ++ [plE c e]) (es.map (plE c)))
    rw [clear_eq ok e1 h]
    exact congrArg _ ih
theorem all_eq {c : Bool} : ∀ {es : List Ent}, (∀ e ∈ es, e.ok) → ((es.map (entT c)).all fun t => if c then t.pr else t.wd) = (es.map (plE c)).all fun e => decide (e.s ≤ 1)
  | [], _ => rfl
  | e :: es, h => by
    have ih := all_eq (c := c) (es := es) fun x hx => h x (List.mem_cons_of_mem _ hx)
    show ((if c then (entT c e).pr else (entT c e).wd) && _) = (decide ((plE c e).s ≤ 1) && _)
    rw [(ent_rel (c := c) (h e (List.mem_cons_self ..))).1]
    exact congrArg _ ih
theorem any_eq : ∀ {es : List Ent}, (∀ e ∈ es, e.ok ∧ (plE false e).s ≤ 1) → ((es.map (entT false)).any fun t => decide (t.cls = some Kc.way)) = (es.map (plE false)).any fun e => decide (e.s = 0)
  | [], _ => rfl
  | e :: es, h => by
    have ih := any_eq (es := es) fun x hx => h x (List.mem_cons_of_mem _ hx)
    obtain ⟨ok, e1⟩ := h e (List.mem_cons_self ..)
    show (decide ((entT false e).cls = some Kc.way) || _) = (decide ((plE false e).s = 0) || _)
    rw [show decide ((entT false e).cls = some Kc.way) = decide ((plE false e).s = 0) from ((ent_rel (c := false) ok).2 e1).2.2]
    exact congrArg _ ih
theorem last_eq {es : List Ent} (h : ∀ e ∈ es, e.ok ∧ (plE true e).s ≤ 1) : (match (es.map (entT true)).getLast? with
    | some t => decide (t.cls = some Kc.part)
    | none => false) = (match (es.map (plE true)).getLast? with
    | some e => decide (e.s = 0)
    | none => false) := by
  rw [List.getLast?_map, List.getLast?_map]
  cases e : es.getLast? with
  | none => rfl
  | some x =>
    obtain ⟨ok, e1⟩ := h x (List.mem_of_getLast? e)
    exact ((ent_rel (c := true) ok).2 e1).2.2
theorem good_eq {c : Bool} {es : List Ent} (h : ∀ e ∈ es, e.ok) : goodE c (es.map (plE c)) = (if c then okParts else okWays) (es.map (entT c)) := by
  have ha := all_eq (c := c) h
  have two := good_two c (es.map (entT c)) []
  by_cases hs : ((es.map (plE c)).all fun e => decide (e.s ≤ 1)) = true
  · have h1 : ∀ e ∈ es, e.ok ∧ (plE c e).s ≤ 1 := fun e he => ⟨h e he, by
      have := List.all_eq_true.mp hs _ (List.mem_map.mpr ⟨e, he, rfl⟩)
      exact of_decide_eq_true this⟩
    have hsep := sep_eq (c := c) (seen := []) (fun o ho => by cases ho) h1
    rw [ha, hs, Bool.true_and] at two
    cases c with
    | true =>
      have two2 : goodP [] (es.map (entT true)) = sepT true [] (es.map (entT true)) := two
      show goodE true (es.map (plE true)) = okParts (es.map (entT true))
      unfold goodE okParts
      rw [two2, last_eq h1, hs, Bool.true_and, List.length_map, List.length_map]
      have : sepT true [] (es.map (entT true)) = sepE true [] (es.map (plE true)) := hsep
      rw [this]
      rfl
    | false =>
      have two2 : goodW [] (es.map (entT false)) = sepT false [] (es.map (entT false)) := two
      show goodE false (es.map (plE false)) = okWays (es.map (entT false))
      unfold goodE okWays
      rw [two2, any_eq h1, hs, Bool.true_and, List.length_map, List.length_map]
      have : sepT false [] (es.map (entT false)) = sepE false [] (es.map (plE false)) := hsep
      rw [this]
      rfl
  · have hs2 : ((es.map (plE c)).all fun e => decide (e.s ≤ 1)) = false := by simpa using hs
    rw [ha, hs2, Bool.false_and] at two
    cases c with
    | true =>
      have two2 : goodP [] (es.map (entT true)) = false := two
      show goodE true (es.map (plE true)) = okParts (es.map (entT true))
      unfold goodE okParts
      rw [two2, hs2, Bool.false_and, Bool.false_and, Bool.and_false, Bool.and_false, Bool.and_false, Bool.and_false]
    | false =>
      have two2 : goodW [] (es.map (entT false)) = false := two
      show goodE false (es.map (plE false)) = okWays (es.map (entT false))
      unfold goodE okWays
      rw [two2, hs2, Bool.false_and, Bool.false_and, Bool.and_false, Bool.and_false, Bool.and_false, Bool.and_false]

/-- [x for x in xs if ..]: how many there are -/
theorem lc_filter {α : Type} {K : PySem.W.Frag} {σ : L2.St} {H : Hp} {tt : TT} {j gi : Nat} {vs : List Nat} {a : Addr} {xs : List V} {es : List α} {Q : VK} (f : α → Bool) (R : V → α → Prop) (hg : σ[gi]? = some (some (.ref a))) (hxs : H a = some (.lst xs)) (hp : Paired R xs es) (hl : xs.length ≤ 100000)
    (hw : ∀ x, wipe ((wipe σ vs).set j (some x)) vs = wipe σ vs) (hv : ∀ x : V, ((wipe σ vs).set j (some x))[j]? = some (some x)) (ht : ∀ (x : V) (e : α) H1 (Q : Bool → Hp → Prop), R x e → Same H H1 → Q (f e) H1 → tt ((wipe σ vs).set j (some x)) H1 Q)
    (k : ∀ D (ws : List V) H', H' D = some (.lst ws) → Same H H' → ws.length = (es.filter f).length → Q (.ref D) H') : tLc (iList K (tVar gi)) (gName j) tt (tVar j) vs σ H Q := by
  refine ⟨_, hg, a, rfl, ⟨_, SqL.of hxs⟩, fun D hD => ?_⟩
  have hlen := pair_len hp
  refine lc_it (walk_list (xs := xs)) (fun i H' => ∃ ws : List V, H' D = some (.lst ws) ∧ ws.length ≤ i ∧ ws.length = ((es.take i).filter f).length ∧ Same H H') ⟨[], upd_same, Nat.le_refl 0, rfl, same_new hD⟩ (fun i H' _ ⟨_, _, _, _, e⟩ => SqL.of (e _ _ hxs)) ?_ ?_
  · rintro i x H1 H2 hi ⟨ws, hws, lw, hpw, e1⟩ ⟨rfl, hx⟩
    obtain ⟨e, he, hr⟩ := pair_at hp hx
    refine ⟨hw _, ?_⟩
    refine ht x e _ _ hr e1 ?_
    have tk : es.take (i + 1) = es.take i ++ [e] := by rw [List.take_succ, he]; rfl
    refine iteB (fun g => ?_) (fun g => ?_)
    · refine ⟨_, hv x, ws, hws, by rw [sizeLine_eq]; omega, ws ++ [x], upd_same, by rw [List.length_append]; show ws.length + 1 ≤ i + 1; omega, ?_, same_put hD e1⟩
      rw [tk, List.filter_append, List.length_append, List.length_append, hpw]
      simp [g]
    · refine ⟨ws, hws, by omega, ?_, e1⟩
      rw [tk, List.filter_append, List.length_append, hpw]
      simp [g]
  · rintro H1 ⟨ws, hws, lw, hpw, e1⟩
    rw [hlen, List.take_length] at hpw
    exact k D ws H1 hws e1 hpw
theorem q_next {D : Ends} {σ : L2.St} {H : Hp} (h : D.nx σ H) : tNext D σ H := h
theorem q_cmpLen {rl : List V → Hp → VK → Prop} {te tb : TE} {r : R2} {t u tz : TS} {D : Ends} {σ : L2.St} {H : Hp} (h : te σ H fun x H1 => rl [x] H1 fun y H2 => tb σ H2 fun z H3 => r y z H3 fun b H4 => ∃ k, b = .bl k ∧ if k = true then t { D with nx := tz D } σ H4 else u { D with nx := tz D } σ H4) :
    tSeq (tIfS (tTest (tOp r (tCB rl (tCons te tNil)) tb)) t u) tz D σ H := h
theorem q_retLen {rl : List V → Hp → VK → Prop} {te tb : TE} {r : R2} {D : Ends} {σ : L2.St} {H : Hp} (h : te σ H fun x H1 => rl [x] H1 fun y H2 => tb σ H2 fun z H3 => r y z H3 D.rt) : tRet (tOp r (tCB rl (tCons te tNil)) tb) D σ H := h
theorem sepE_app {c : Bool} (l r : List Pl) : ∀ s, sepE c s (l ++ r) = (sepE c s l && sepE c (s ++ l) r) := by
  induction l with
  | nil => intro s; simp [sepE]
  | cons t l ih =>
    intro s
    show (clearE c s t && sepE c (s ++ [t]) (l ++ r)) = ((clearE c s t && sepE c (s ++ [t]) l) && sepE c (s ++ t :: l) r)
    rw [ih, List.append_assoc, Bool.and_assoc]
    rfl
theorem splitP {ts : List Pl} {i : Nat} {t : Pl} (h : ts[i]? = some t) : ts = ts.take i ++ t :: ts.drop (i + 1) := by
  obtain ⟨h1, h2⟩ := List.getElem?_eq_some_iff.mp h
  rw [← h2, List.getElem_cons_drop, List.take_append_drop]
theorem sepE_bad {c : Bool} {ts : List Pl} {i : Nat} {t : Pl} (h : ts[i]? = some t) (w : clearE c (ts.take i) t = false) : sepE c [] ts = false := by
  rw [splitP h, sepE_app]
  simp [sepE, w]
theorem sepE_step {c : Bool} {ts : List Pl} {i : Nat} {t : Pl} (h : ts[i]? = some t) (g : sepE c [] (ts.take i) = true) (w : clearE c (ts.take i) t = true) : sepE c [] (ts.take (i + 1)) = true := by
  rw [List.take_succ, h]
  show sepE c [] (ts.take i ++ [t]) = true
  rw [sepE_app, g]
  simp [sepE, w]
theorem allP_step {l : List Pl} {f : Pl → Bool} {j : Nat} {t : Pl} (h : (l.take j).all f = true) (hc : l[j]? = some t) (hf : f t = true) : (l.take (j + 1)).all f = true := by
  rw [List.take_succ, hc, List.all_append, h]
  simp [hf]
theorem allP_bad {l : List Pl} {f : Pl → Bool} {j : Nat} {t : Pl} (hc : l[j]? = some t) (hf : f t = false) : l.all f = false := by
  rw [Bool.eq_false_iff]
  intro z
  have := List.all_eq_true.mp z t (List.mem_of_getElem? hc)
  rw [hf] at this
  cases this
theorem filter_pos {l : List Pl} {f : Pl → Bool} : decide (0 < (((l.filter f).length : Nat) : Int)) = l.any f := by
  cases h : l.any f with
  | true =>
    obtain ⟨x, h1, h2⟩ := List.any_eq_true.mp h
    have := List.length_pos_of_mem (List.mem_filter.mpr ⟨h1, h2⟩)
    exact decide_eq_true (by omega)
  | false =>
    have : l.filter f = [] := List.filter_eq_nil_iff.mpr fun x hx => by
      have := List.any_eq_false.mp h x hx
      simpa using this
    rw [this]
    rfl
theorem any_not {l : List Pl} : (l.any fun e => decide (1 < e.s)) = !(l.all fun e => decide (e.s ≤ 1)) := by
  rw [List.not_all_eq_any_not]
  congr 1
  funext e
  by_cases h : e.s ≤ 1
  · rw [decide_eq_true h, decide_eq_false (by omega)]; rfl
  · rw [decide_eq_false h, decide_eq_true (by omega)]; rfl

theorem cut_cps {z : Str} {n : Nat} : (cutS z none (some (n : Int))).cps.toList = z.cps.toList.take n := by
  unfold cutS
  simp [HT.sIx_none, HT.sIx_nat]
  have : z.length = z.cps.size := rfl
  omega
theorem cut_wordy {z : Str} {n : Nat} (h : okBits (.str z) = true) (h1 : 1 ≤ z.length) (n1 : 1 ≤ n) (n8 : n ≤ 8) : wordy (cutS z none (some (n : Int))) := by
  have e := cut_cps (z := z) (n := n)
  have l : (cutS z none (some (n : Int))).length = min n z.length := by
    show (cutS z none (some (n : Int))).cps.size = _
    rw [← Array.length_toList, e, List.length_take, Array.length_toList]
    rfl
  refine wordy_of ?_ (by omega) (by omega)
  show ((cutS z none (some (n : Int))).cps.toList.all _) = true
  rw [e]
  have h2 : (z.cps.toList.all fun c => decide (c = 48) || decide (c = 49)) = true := h
  exact List.all_eq_true.mpr fun c hc => List.all_eq_true.mp h2 c (List.mem_of_mem_take hc)
theorem bits_cat {x y : Str} (h : okBits (.str x) = true) (h2 : okBits (.str y) = true) : okBits (.str (x ++ y)) = true := by
  show ((x ++ y).cps.toList.all fun c => decide (c = 48) || decide (c = 49)) = true
  rw [PySem.Str.cps_append, Array.toList_append, List.all_append]
  have a : (x.cps.toList.all fun c => decide (c = 48) || decide (c = 49)) = true := h
  have b : (y.cps.toList.all fun c => decide (c = 48) || decide (c = 49)) = true := h2
  rw [a, b]
  rfl
theorem Pn.ent {A : Ad} {K : PySem.W.Frag} {H : Hp} {v : V} (h : Pn H v) : ∃ e, EntAt A K H v e := by
  obtain ⟨a, s, w, n, rfl, h1, h2, h3, h4⟩ := h
  exact ⟨.pl s w n, ⟨h2, h3, h4⟩, a, rfl, h1⟩
theorem Pn.put {H : Hp} {v : V} {a : Addr} {s : Int} {w n : Str} (h : Pn H v) (h2 : s = 0 ∨ s = 1) (h3 : okWord (.str w) = true) (h4 : okName (.str n) = true) : Pn (upd H a (.lst [.int s, .str w, .str n])) v := by
  obtain ⟨b, s', w', n', rfl, h1, q⟩ := h
  by_cases e : b = a
  · rw [e]
    exact ⟨a, s, w, n, rfl, upd_same, h2, h3, h4⟩
  · exact ⟨b, s', w', n', rfl, by rw [upd_ne e]; exact h1, q⟩
theorem pair_ex {R : V → Ent → Prop} : ∀ {vs : List V}, (∀ v ∈ vs, ∃ e, R v e) → ∃ es, Paired R vs es
  | [], _ => ⟨[], .nil⟩
  | v :: vs, h => by
    obtain ⟨e, he⟩ := h v (List.mem_cons_self ..)
    obtain ⟨es, hes⟩ := pair_ex (vs := vs) fun x hx => h x (List.mem_cons_of_mem _ hx)
    exact ⟨e :: es, .cons he hes⟩

/-- what _law_rows carries -/
structure RowS (d : Dr) (G P W : Addr) (ws : List Str) (H0 H : Hp) (vs : List V) (nm : List Str) : Prop where
  g : H G = some (.lst vs)
  p : H P = some (.lst (nm.map V.str))
  w : H W = some (.lst (ws.map V.str))
  pn : ∀ v ∈ vs, Pn H v
  ap : ∀ a, V.ref a ∈ vs → a ≠ d.p ∧ a ≠ d.l ∧ a ≠ G ∧ a ≠ P ∧ a ≠ W ∧ H0 a = none
  c : Chg d H0 H
  r : Rng d H
theorem RowS.chg {d : Dr} {G P W : Addr} {ws : List Str} {H0 H H' : Hp} {vs : List V} {nm : List Str} (h : RowS d G P W ws H0 H vs nm) (nG : G ≠ d.p) (nP : P ≠ d.p) (nW : W ≠ d.p) (e : Chg d H H') (r : Rng d H') : RowS d G P W ws H0 H' vs nm :=
  ⟨e _ _ nG h.g, e _ _ nP h.p, e _ _ nW h.w, fun v hv => by
    obtain ⟨a, s, w, n, rfl, h1, q⟩ := h.pn v hv
    exact ⟨a, s, w, n, rfl, e _ _ (h.ap a hv).1 h1, q⟩, h.ap, h.c.trans e, r⟩

theorem EntAt.keepC {A : Ad} {K : PySem.W.Frag} {H H' : Hp} {d : Dr} {v : V} {e : Ent} (r : Rng d H) (r' : Rng d H') (ch : Chg d H H') (h : EntAt A K H v e) : EntAt A K H' v e := by
  obtain ⟨ok, a, rfl, he⟩ := h
  obtain ⟨i, c, s, R⟩ := id r
  have ne : ∀ (x : Int) (r : List V), H a = some (.lst (.int x :: r)) → a ≠ d.p := fun x r q z => by
    rw [z, R.st] at q
    injection q with q
    injection q with q
    injection q with q
    cases q
  refine ⟨ok, a, rfl, ?_⟩
  cases e with
  | pl x w n => exact ch _ _ (ne _ _ he) he
  | ob k => exact ch _ _ (ne _ _ he) he
  | od t =>
    obtain ⟨x, h1, h2⟩ := he
    exact ⟨x, ch _ _ (ne _ _ h1) h1, h2.keep (KI.chg r r' ch)⟩
theorem kats_map {c : Bool} {es : List Ent} : (es.map (entT c)).map Td.kd = es.map fun e => (entT c e).kd := by rw [List.map_map]; rfl
theorem told_bad {A : Ad} {c : Bool} {o : Option (List Td)} {H : Hp} {q : Addr} (h : mkCR c o = .error (partN c)) (t : ToldAt A (mkCR c o) H q) : H q = some (.tup [.str "refused", .str (partN c)]) := by
  rw [h] at t
  exact t
theorem told_good {A : Ad} {c : Bool} {ts : List Td} {H : Hp} {q : Addr} (h : (if c then okParts else okWays) ts = true) (t : ToldAt A (mkCR c (some ts)) H q) : ∃ a vs, H q = some (.tup [.str "made", .ref a]) ∧ H a = some (.tup vs) ∧ KAts A H vs (ts.map Td.kd) := by
  cases c with
  | true =>
    have e : mkCR true (some ts) = .ok (.row (ts.map Td.kd)) := mkSeq_ok h
    rw [e] at t
    exact t
  | false =>
    have e : mkCR false (some ts) = .ok (.choice (ts.map Td.kd)) := mkSeq_ok h
    rw [e] at t
    exact t

section
variable {P : Program} {w : World} {K : PySem.W.Frag} {mg : Str → Option Value} {base : Heap} {A : Ad}
theorem ok_BadKind___init__ (T : Txt K mg A) : FnOk P w K mg base CX0 1 A.f_BadKind___init__ A.d_BadKind___init__ ["self", "part"] (sp_BadKind___init__ K A) := by
  refine T.F_BadKind___init__.ok sc_BadKind___init__ (fun vs H Q E h => sp2_len h) (fun cdv A0 outer s H vs Q E hr h => ?_)
  have nd := sc_BadKind___init__.nd
  refine ⟨_, (pss_one (ps_ost (pv 0) (pv 1))), ?_⟩
  clear nd hr
  replace h := sp2_of h
  obtain ⟨v_self, v_part, rfl, h⟩ := h

  obtain ⟨a, rfl, ha, k⟩ := h
  exact ⟨_, rfl, _, rfl, a, A.c_BadKind, rfl, T.oex_BadKind, T.nx_BadKind_part, .inl ⟨ha, fun dx h n => k dx h n⟩⟩
theorem ok_is_integer (T : Txt K mg A) : FnOk P w K mg base CX0 1 A.f_is_integer A.d_is_integer ["thing"] (sp_is_integer K A) := by
  refine T.F_is_integer.ok sc_is_integer (fun vs H Q E h => sp1_len h) (fun cdv A0 outer s H vs Q E hr h => ?_)
  have nd := sc_is_integer.nd
  refine ⟨_, (pss_one (ps_ret (pe_and (pe_callB call_isi (by rfl) T.b_isinstance (by decide +kernel) (pa_cons (pv 0) (pa_cons (pe_bltn (v := .ty "int") (by rfl) T.b_int (by decide +kernel) rfl) pa_nil))) (pe_one (pe_not (pe_callB call_isi (by rfl) T.b_isinstance (by decide +kernel) (pa_cons (pv 0) (pa_cons (pe_bltn (v := .ty "bool") (by rfl) T.b_bool (by decide +kernel) rfl) pa_nil)))))))), ?_⟩
  clear nd hr
  replace h := sp1_of h
  obtain ⟨v_thing, rfl, h⟩ := h

  obtain ⟨t, hv, k⟩ := h
  rw [isI_of hv] at k
  refine ⟨_, rfl, _, _, _, _, _, rfl, .ty _, hv.tyx, kit_isa hv.tag (by decide), _, rfl, iteB (fun h1 => ?_) (fun h1 => ?_)⟩
  · refine ⟨_, rfl, _, _, _, _, _, rfl, .ty _, hv.tyx, kit_isa hv.tag (by decide), _, rfl, ?_⟩
    rw [h1, Bool.true_and] at k
    exact k
  · rw [h1, Bool.false_and] at k
    exact k
theorem ok_is_bits (T : Txt K mg A) : FnOk P w K mg base CX0 1 A.f_is_bits A.d_is_bits ["thing"] (sp_is_bits K A) := by
  refine T.F_is_bits.ok sc_is_bits (fun vs H Q E h => sp1_len h) (fun cdv A0 outer s H vs Q E hr h => ?_)
  have nd := sc_is_bits.nd
  refine ⟨_, (pss_cons (ps_if (pt_not (pt_val (pe_callB call_isi (by rfl) T.b_isinstance (by decide +kernel) (pa_cons (pv 0) (pa_cons (pe_bltn (v := .ty "str") (by rfl) T.b_str (by decide +kernel) rfl) pa_nil))))) (pss_one (ps_ret pe_bl)) pss_nil)
      (pss_cons (ps_for PassesOwn.never rfl (pi_str (pv 0)) (pg_name (i := 1) nd rfl (by first | exact Or.inl rfl | exact Or.inr rfl)) (pss_one (ps_if (PW.pt (pw_and (pt_cmpR op_ne (pv 1) pe_str (nomark _)) (pw_and1 (pt_cmpR op_ne (pv 1) pe_str (nomark _))))) (pss_one (ps_ret pe_bl)) pss_nil)))
      (pss_one (ps_ret pe_bl)))), ?_⟩
  clear nd hr
  replace h := sp1_of h
  obtain ⟨v_thing, rfl, h⟩ := h

  obtain ⟨t, hv, k⟩ := h
  refine ⟨_, rfl, _, _, _, _, _, rfl, .ty _, hv.tyx, kit_isa hv.tag (by decide), _, rfl, iteB (fun h1 => ?_) (fun h1 => ?_)⟩
  · rw [(nstr_of hv (by simpa using h1)).1] at k
    exact k
  obtain ⟨x, rfl⟩ := str_of hv (by simpa using h1)
  refine ⟨_, rfl, x, rfl, for_str (fun i σ' H' => ∃ c, σ' = [some (.str x), c] ∧ H' = H ∧ (x.cps.toList.take i).all (fun c => decide (c = 48) || decide (c = 49)) = true) ⟨_, rfl, rfl, rfl⟩ ?_ ?_⟩
  · rintro i c σ' H' hc ⟨_, rfl, rfl, ha⟩
    refine ⟨_, rfl, rfl, _, rfl, ?_⟩
    rw [sign_dec sgn0]
    refine iteB (fun h0 => ⟨_, rfl, rfl, _, rfl, ?_⟩) (fun h0 => ?_)
    · rw [sign_dec sgn1]
      refine iteB (fun h2 => ?_) (fun h2 => ?_)
      · have e : okBits (.str x) = false := not_all hc (by simp at h0 h2; simp [h0, h2])
        rw [e] at k
        exact k
      · exact ⟨_, rfl, rfl, take_all ha hc (by simp at h2; simp [h2])⟩
    · refine iteF ?_
      exact ⟨_, rfl, rfl, take_all ha hc (by simp at h0; simp [h0])⟩
  · rintro σ' H' ⟨_, rfl, rfl, ha⟩
    have e : okBits (.str x) = true := full_all ha
    rw [e] at k
    exact k
theorem ok_is_name (T : Txt K mg A) : FnOk P w K mg base CX0 1 A.f_is_name A.d_is_name ["thing"] (sp_is_name K A) := by
  refine T.F_is_name.ok sc_is_name (fun vs H Q E h => sp1_len h) (fun cdv A0 outer s H vs Q E hr h => ?_)
  have nd := sc_is_name.nd
  refine ⟨_, (pss_cons (ps_if (PW.pt (pw_or (pt_not (pt_val (pe_callB call_isi (by rfl) T.b_isinstance (by decide +kernel) (pa_cons (pv 0) (pa_cons (pe_bltn (v := .ty "str") (by rfl) T.b_str (by decide +kernel) rfl) pa_nil))))) (pw_or (pt_cmpR op_lt (pe_callB call_len_str (by rfl) T.b_len (by decide +kernel) (pa_cons (pv 0) pa_nil)) pe_int (nomark _)) (pw_or1 (pt_cmpR op_gt (pe_callB call_len_str (by rfl) T.b_len (by decide +kernel) (pa_cons (pv 0) pa_nil)) pe_int (nomark _)))))) (pss_one (ps_ret pe_bl)) pss_nil)
      (pss_cons (ps_for PassesOwn.never rfl (pi_str (pv 0)) (pg_name (i := 1) nd rfl (by first | exact Or.inl rfl | exact Or.inr rfl)) (pss_one (ps_if (pt_cmpR op_notIn_sign (pv 1) (C8.pe_gc (by rfl) T.mg_LETTERS) (by rfl)) (pss_one (ps_ret pe_bl)) pss_nil)))
      (pss_one (ps_ret pe_bl)))), ?_⟩
  clear nd hr
  replace h := sp1_of h
  obtain ⟨v_thing, rfl, h⟩ := h

  obtain ⟨t, hv, hs, k⟩ := h
  refine ⟨_, rfl, _, _, _, _, _, rfl, .ty _, hv.tyx, kit_isa hv.tag (by decide), _, rfl, iteB (fun h1 => ?_) (fun h1 => ?_)⟩
  · rw [(nstr_of hv (by simpa using h1)).2] at k
    exact ite2 (fun _ => k) (fun z => absurd rfl z)
  obtain ⟨x, rfl⟩ := str_of hv (by simpa using h1)
  have hl := short_le hs
  refine ⟨_, rfl, x, rfl, hl, _, _, rfl, rfl, _, rfl, iteB (fun h2 => ?_) (fun h2 => ?_)⟩
  · have e : okName (.str x) = false := by simp only [okName, decide_eq_false (by have := of_decide_eq_true h2; omega : ¬ 1 ≤ x.length), Bool.false_and]
    rw [e] at k
    exact ite2 (fun _ => k) (fun z => absurd rfl z)
  refine ⟨_, rfl, x, rfl, hl, _, _, rfl, rfl, _, rfl, iteB (fun h3 => ?_) (fun h3 => ?_)⟩
  · have e : okName (.str x) = false := by simp at h3; simp only [okName, decide_eq_false (by omega : ¬ x.length ≤ 8), Bool.false_and, Bool.and_false]
    rw [e] at k
    exact k
  have l1 : 1 ≤ x.length := by simp at h2; omega
  have l2 : x.length ≤ 8 := by simp at h3; omega
  refine ⟨_, rfl, x, rfl, for_str (fun i σ' H' => ∃ c, σ' = [some (.str x), c] ∧ H' = H ∧ (x.cps.toList.take i).all (fun c => decide (97 ≤ c) && decide (c ≤ 122)) = true) ⟨_, rfl, rfl, rfl⟩ ?_ ?_⟩
  · rintro i c σ' H' hc ⟨_, rfl, rfl, ha⟩
    refine ⟨_, rfl, c, _, rfl, rfl, _, rfl, ?_⟩
    rw [abc_mem]
    refine iteB (fun h0 => ?_) (fun h0 => ?_)
    · have e : okName (.str x) = false := by
        simp only [okName, not_all (f := fun c => decide (97 ≤ c) && decide (c ≤ 122)) hc (not_t h0), Bool.and_false]
      rw [e] at k
      exact k
    · exact ⟨_, rfl, rfl, take_all ha hc (not_f h0)⟩
  · rintro σ' H' ⟨_, rfl, rfl, ha⟩
    have e : okName (.str x) = true := by simp only [okName, full_all ha, decide_eq_true l1, decide_eq_true l2, Bool.and_self]
    rw [e] at k
    exact k
theorem ok_is_word (T : Txt K mg A) : FnOk P w K mg base CX0 2 A.f_is_word A.d_is_word ["thing"] (sp_is_word K A) := by
  refine T.F_is_word.ok sc_is_word (fun vs H Q E h => sp1_len h) (fun cdv A0 outer s H vs Q E hr h => ?_)
  have nd := sc_is_word.nd
  refine ⟨_, (pss_one (ps_ret (pe_and (pe_call (ok_is_bits T) (hr.mono (by decide)) (by rfl) T.mg_is_bits T.k_is_bits T.b_is_bits .nil pass0 (pa_cons (pv 0) pa_nil)) (pe_one (pe_chain op_le op_le pe_int (pe_callB call_len_str (by rfl) T.b_len (by decide +kernel) (pa_cons (pv 0) pa_nil)) pe_int))))), ?_⟩
  clear nd hr
  replace h := sp1_of h
  obtain ⟨v_thing, rfl, h⟩ := h

  obtain ⟨t, hv, hs, k⟩ := h
  refine ⟨_, rfl, _, rfl, t, hv, _, rfl, iteB (fun h1 => ?_) (fun h1 => ?_)⟩
  · obtain ⟨x, rfl⟩ : ∃ x, v_thing = .str x := by
      cases v_thing <;> first | exact ⟨_, rfl⟩ | cases h1
    have e : okWord (.str x) = (decide (1 ≤ x.length) && decide (x.length ≤ 8)) := by
      unfold okWord
      rw [h1, Bool.true_and]
      rfl
    rw [e] at k
    refine ⟨_, rfl, x, rfl, short_le hs, _, _, rfl, rfl, _, rfl, iteB (fun h2 => ?_) (fun h2 => ?_)⟩
    · refine ⟨_, _, rfl, rfl, ?_⟩
      have e2 : decide (1 ≤ x.length) = true := decide_eq_true (by have := of_decide_eq_true h2; omega)
      have e3 : decide (x.length ≤ 8) = decide (((x.length : Nat) : Int) ≤ 8) := decide_eq_decide.mpr (by omega)
      rw [e2, Bool.true_and, e3] at k
      exact k
    · have e2 : decide (1 ≤ x.length) = false := decide_eq_false (by have := of_decide_eq_false h2; omega)
      rw [e2, Bool.false_and] at k
      exact k
  · have e : okWord v_thing = false := by unfold okWord; rw [h1, Bool.false_and]
    rw [e] at k
    exact k
theorem ok_begins (T : Txt K mg A) : FnOk P w K mg base CX0 1 A.f_begins A.d_begins ["one", "other"] (sp_begins K A) := by
  refine T.F_begins.ok sc_begins (fun vs H Q E h => sp2_len h) (fun cdv A0 outer s H vs Q E hr h => ?_)
  have nd := sc_begins.nd
  refine ⟨_, (pss_one (ps_ret (pe_or (pe_m1 PySem.F.slot_str_startswith PySem.F.type_str_startswith mt_startswith (pv 0) (pv 1)) (pe_one (pe_m1 PySem.F.slot_str_startswith PySem.F.type_str_startswith mt_startswith (pv 1) (pv 0)))))), ?_⟩
  clear nd hr
  replace h := sp2_of h
  obtain ⟨v_one, v_other, rfl, h⟩ := h

  obtain ⟨x, y, rfl, rfl, k⟩ := h
  refine ⟨_, rfl, ⟨_, rfl⟩, _, rfl, _, _, rfl, rfl, _, rfl, iteB (fun g => ?_) (fun g => ?_)⟩
  · rw [show pre2 x y = true by unfold pre2; rw [g]; rfl] at k
    exact k
  · rw [show pre2 x y = PySem.Txt.startswith y x by unfold pre2; rw [g]; rfl] at k
    exact ⟨_, rfl, ⟨_, rfl⟩, _, rfl, _, _, rfl, rfl, k⟩
theorem ok_Nothing___eq__ (T : Txt K mg A) : FnOk P w K mg base CX0 1 A.f_Nothing___eq__ A.d_Nothing___eq__ ["self", "other"] (sp_Nothing___eq__ K A) := by
  refine T.F_Nothing___eq__.ok sc_Nothing___eq__ (fun vs H Q E h => sp2_len h) (fun cdv A0 outer s H vs Q E hr h => ?_)
  have nd := sc_Nothing___eq__.nd
  refine ⟨_, (pss_one (ps_ret (pe_callB call_isi (by rfl) T.b_isinstance (by decide +kernel) (pa_cons (pv 1) (pa_cons (pe_glob (v := .ref A.c_Nothing) (by rfl) T.mg_Nothing rfl) pa_nil))))), ?_⟩
  clear nd hr
  replace h := sp2_of h
  obtain ⟨v_self, v_other, rfl, h⟩ := h

  obtain ⟨d, e, hd, hc, he, hn, k⟩ := h
  have q : d.eqk e = isa (Td.tag A (.k e)) (.ref (A.kc .nothing)) := by
    rw [isa_kc T]
    cases d <;> first | cases hc | skip
    cases e <;> rfl
  rw [q] at k
  exact ⟨_, rfl, _, _, _, _, _, rfl, .own _, (KAt.vt T he).tyx, kit_isaO (KAt.vt T he).tag (T.kco .nothing), k⟩
theorem ok_is_width (T : Txt K mg A) : FnOk P w K mg base CX0 2 A.f_is_width A.d_is_width ["width", "many"] (sp_is_width K A) := by
  refine T.F_is_width.ok sc_is_width (fun vs H Q E h => sp2_len h) (fun cdv A0 outer s H vs Q E hr h => ?_)
  have nd := sc_is_width.nd
  refine ⟨_, (pss_cons (ps_if (pt_cmpR op_isN (pv 0) pe_non (nomark _)) (pss_one (ps_ret pe_bl)) pss_nil)
      (pss_one (ps_ret (pe_and (pe_call (ok_is_integer T) (hr.mono (by decide)) (by rfl) T.mg_is_integer T.k_is_integer T.b_is_integer .nil pass0 (pa_cons (pv 0) pa_nil)) (pe_and (pe_chain op_le op_le pe_int (pv 0) pe_int) (pe_one (pe_cmpR op_ge (pe_op op_shl pe_int (pv 0)) (pv 1) (nomark _)))))))), ?_⟩
  clear nd hr
  replace h := sp2_of h
  obtain ⟨v_width, v_many, rfl, h⟩ := h

  obtain ⟨t, n, hv, rfl, k⟩ := h
  refine ⟨_, rfl, rfl, _, rfl, iteB (fun h1 => ?_) (fun h1 => ?_)⟩
  · have e : v_width = .non := by simpa using h1
    subst e
    exact k
  refine ⟨_, rfl, _, rfl, t, hv, _, rfl, iteB (fun h2 => ?_) (fun h2 => ?_)⟩
  · have e := intOf_isI h2
    generalize intOf v_width = i at e
    subst e
    have eq : okW (.int i) n = (decide (1 ≤ i) && (decide (i ≤ 60) && decide (n ≤ 2 ^ i.toNat))) := rfl
    rw [eq] at k
    refine ⟨_, rfl, _, _, rfl, rfl, _, rfl, iteB (fun h3 => ?_) (fun h3 => ?_)⟩
    · rw [h3, Bool.true_and] at k
      refine ⟨_, _, rfl, rfl, _, rfl, iteB (fun h4 => ?_) (fun h4 => ?_)⟩
      · rw [h4, Bool.true_and] at k
        have g1 := of_decide_eq_true h3
        have g2 := of_decide_eq_true h4
        refine ⟨_, rfl, _, _, rfl, rfl, ⟨by omega, by omega, by decide⟩, _, rfl, _, _, rfl, rfl, ?_⟩
        rw [Int.one_mul]
        exact k
      · rw [h4, Bool.false_and] at k
        exact k
    · rw [h3, Bool.false_and] at k
      exact ⟨_, rfl, iteF k⟩
  · have e : okW v_width n = false := by
      cases v_width <;> first | rfl | exact absurd h2 Bool.noConfusion | simp at h1 | cases h2
    rw [e] at k
    exact k
theorem ok_Number___init__ (T : Txt K mg A) : FnOk P w K mg base (L2.CX P w) 3 A.f_Number___init__ A.d_Number___init__ ["self", "low", "high", "width"] (sp_Number___init__ K A) := by
  refine T.F_Number___init__.ok sc_Number___init__ (fun vs H Q E h => sp4_len h) (fun cdv A0 outer s H vs Q E hr h => ?_)
  have nd := sc_Number___init__.nd
  refine ⟨_, (pss_cons (ps_if (pt_not (pt_val (pe_call (ok_is_integer T) (hr.mono (by decide)) (by rfl) T.mg_is_integer T.k_is_integer T.b_is_integer .nil pass0 (pa_cons (pv 1) pa_nil)))) (pss_one (ps_raise rfl (takes_of rfl rfl rfl rfl) (pmk_oex T.oex_BadKind T.ix_BadKind T.tx_BadKind (ok_BadKind___init__ T) (hr.mono (by decide)) T.b_BadKind___init__ .nil pass0 (by rfl) T.mg_BadKind (pa_cons pe_str pa_nil)))) pss_nil)
      (pss_cons (ps_if (PW.pt (pw_or (pt_not (pt_val (pe_call (ok_is_integer T) (hr.mono (by decide)) (by rfl) T.mg_is_integer T.k_is_integer T.b_is_integer .nil pass0 (pa_cons (pv 2) pa_nil)))) (pw_or (pt_cmpR op_le (pv 2) (pv 1) (nomark _)) (pw_or1 (pt_cmpR op_ge (pe_op op_sub (pv 2) (pv 1)) (pe_op op_shl pe_int pe_int) (nomark _)))))) (pss_one (ps_raise rfl (takes_of rfl rfl rfl rfl) (pmk_oex T.oex_BadKind T.ix_BadKind T.tx_BadKind (ok_BadKind___init__ T) (hr.mono (by decide)) T.b_BadKind___init__ .nil pass0 (by rfl) T.mg_BadKind (pa_cons pe_str pa_nil)))) pss_nil)
      (pss_cons (ps_if (pt_not (pt_val (pe_call (ok_is_width T) (hr.mono (by decide)) (by rfl) T.mg_is_width T.k_is_width T.b_is_width .nil pass0 (pa_cons (pv 3) (pa_cons (pe_op op_add (pe_op op_sub (pv 2) (pv 1)) pe_int) pa_nil))))) (pss_one (ps_raise rfl (takes_of rfl rfl rfl rfl) (pmk_oex T.oex_BadKind T.ix_BadKind T.tx_BadKind (ok_BadKind___init__ T) (hr.mono (by decide)) T.b_BadKind___init__ .nil pass0 (by rfl) T.mg_BadKind (pa_cons pe_str pa_nil)))) pss_nil)
      (pss_cons (ps_fld (pv 0) (pv 1) rfl)
      (pss_cons (ps_fld (pv 0) (pv 2) rfl)
      (pss_one (ps_fld (pv 0) (pv 3) rfl))))))), ?_⟩
  clear nd hr
  replace h := sp4_of h
  obtain ⟨v_self, v_low, v_high, v_width, rfl, h⟩ := h

  obtain ⟨H0, x, ta, tb, tw, rfl, fr, va, vb, vw, k⟩ := h
  replace va := va.keep (KK.same fr.s)
  replace vb := vb.keep (KK.same fr.s)
  replace vw := vw.keep (KK.same fr.s)
  refine ⟨_, rfl, _, rfl, ta, va, _, rfl, iteB (fun h1 => ?_) (fun h1 => ?_)⟩
  · rw [show mkNum v_low v_high v_width = .error "low" from if_pos (not_t h1)] at k
    exact raise_bad fr.s k
  obtain ⟨i, rfl⟩ := int_ex (not_f h1)
  refine ⟨_, rfl, _, rfl, tb, vb, _, rfl, iteB (fun h2 => iteY ?_) (fun h2 => ?_)⟩
  · rw [show mkNum (.int i) v_high v_width = .error "high" from (if_neg nI).trans (if_pos (.inl (not_t h2)))] at k
    exact raise_bad fr.s k
  obtain ⟨j, rfl⟩ := int_ex (not_f h2)
  refine ⟨_, rfl, _, rfl, _, _, rfl, rfl, _, rfl, iteB (fun h3 => iteY ?_) (fun h3 => ?_)⟩
  · rw [show mkNum (.int i) (.int j) v_width = .error "high" from (if_neg nI).trans (if_pos (.inr (.inl (of_decide_eq_true h3))))] at k
    exact raise_bad fr.s k
  refine ⟨_, rfl, _, rfl, _, _, rfl, rfl, _, _, rfl, rfl, ⟨by decide, by decide, by decide⟩, _, _, rfl, rfl, _, rfl, iteB (fun h4 => ?_) (fun h4 => ?_)⟩
  · rw [show mkNum (.int i) (.int j) v_width = .error "high" from (if_neg nI).trans (if_pos (.inr (.inr (of_decide_eq_true h4))))] at k
    exact raise_bad fr.s k
  have nh : ¬ (isI (.int j) = false ∨ j ≤ i ∨ 2 ^ 60 ≤ j - i) := by
    have g3 := of_decide_eq_false h3
    have g4 : ¬ (1 * 2 ^ 60 : Int) ≤ j - i := of_decide_eq_false h4
    rintro (z | z | z)
    · cases z
    · exact g3 z
    · exact g4 (by rw [Int.one_mul]; exact z)
  refine ⟨_, rfl, _, rfl, _, rfl, _, _, rfl, rfl, _, _, rfl, rfl, _, _, rfl, tw, _, vw, rfl, _, rfl, iteB (fun h5 => ?_) (fun h5 => ?_)⟩
  · rw [show mkNum (.int i) (.int j) v_width = .error "width" from (if_neg nI).trans ((if_neg nh).trans (if_pos (not_t h5)))] at k
    exact raise_bad fr.s k
  have ew := okW_oi (not_f h5)
  rw [show mkNum (.int i) (.int j) v_width = .ok (.num i j (oiOf v_width)) from (if_neg nI).trans ((if_neg nh).trans (if_neg (by rw [show okW v_width (intOf (.int j) - intOf (.int i) + 1) = true from not_f h5]; decide)))] at k
  obtain ⟨dx, hx⟩ := fr.at'
  refine ⟨_, rfl, _, rfl, x, _, dx, _, rfl, hx, T.cl_Number, T.n_Number_low, Nat.lt_of_le_of_lt (Nat.le_refl 0 : _ ≤ 0) (by decide : 0 < 1000), ?_⟩
  refine ⟨_, rfl, _, rfl, x, _, dx, _, rfl, upd_same, T.cl_Number, T.n_Number_high, Nat.lt_of_le_of_lt (put_len (Nat.zero_le _) : _ ≤ 1) (by decide : 1 < 1000), ?_⟩
  refine ⟨_, rfl, _, rfl, x, _, dx, _, rfl, upd_same, T.cl_Number, T.n_Number_width, Nat.lt_of_le_of_lt (put_len (put_len (Nat.zero_le _)) : _ ≤ 2) (by decide : 2 < 1000), ?_⟩
  refine k _ (same_put fr.no (same_put fr.no (same_put fr.no fr.s))) (.num ⟨dx, _, upd_same, ?_⟩)
  rw [← ew]
  exact put3 (show ¬ (Str.ofString "low") = Str.ofString "high" by decide +kernel) (show ¬ (Str.ofString "low") = Str.ofString "width" by decide +kernel) (show ¬ (Str.ofString "high") = Str.ofString "width" by decide +kernel)
theorem ok_Number___eq__ (T : Txt K mg A) : FnOk P w K mg base CX0 1 A.f_Number___eq__ A.d_Number___eq__ ["self", "other"] (sp_Number___eq__ K A) := by
  refine T.F_Number___eq__.ok sc_Number___eq__ (fun vs H Q E h => sp2_len h) (fun cdv A0 outer s H vs Q E hr h => ?_)
  have nd := sc_Number___eq__.nd
  refine ⟨_, (pss_cons (ps_if (pt_not (pt_val (pe_callB call_isi (by rfl) T.b_isinstance (by decide +kernel) (pa_cons (pv 1) (pa_cons (pe_glob (v := .ref A.c_Number) (by rfl) T.mg_Number rfl) pa_nil))))) (pss_one (ps_ret pe_bl)) pss_nil)
      (pss_one (ps_ret (pe_and (pe_cmpR op_eq (pe_fld (pv 0) rfl) (pe_fld (pv 1) rfl) (nomark _)) (pe_and (pe_cmpR op_eq (pe_fld (pv 0) rfl) (pe_fld (pv 1) rfl) (nomark _)) (pe_one (pe_cmpR op_eq (pe_fld (pv 0) rfl) (pe_fld (pv 1) rfl) (nomark _)))))))), ?_⟩
  clear nd hr
  replace h := sp2_of h
  obtain ⟨v_self, v_other, rfl, h⟩ := h

  obtain ⟨d, e, hd, hc, he, hn, k⟩ := h
  cases hd with
  | num ob1 =>
    obtain ⟨dx, fs, hx, lx⟩ := ob1
    refine ⟨_, rfl, _, _, _, _, _, rfl, .own _, (KAt.vt T he).tyx, kit_isaO (KAt.vt T he).tag (T.kco .num), _, rfl, iteB (fun g => by
      rw [eqk_cls hc (isa_cls (t := .k e) (c := .num) T (not_t g))] at k
      exact k) (fun g => ?_)⟩
    have ec : e.cls = some .num := of_decide_eq_true (isa_cls (t := .k e) (c := .num) T (not_f g))
    cases he with
    | num ob2 =>
      obtain ⟨dy, gs, hy, ly⟩ := ob2
      rw [Kd.eqk] at k
      refine ⟨_, rfl, _, _, dx, fs, _, rfl, hx, T.cl_Number, T.n_Number_low, lx _ (List.mem_cons_self ..), _, rfl, _, _, dy, gs, _, rfl, hy, T.cl_Number, T.n_Number_low, ly _ (List.mem_cons_self ..), rfl, _, rfl, iteB (fun g0 => ?_) (fun g0 => by
        rw [dI] at g0
        rw [g0, Bool.false_and] at k
        exact k)⟩
      rw [dI] at g0
      rw [g0, Bool.true_and] at k
      refine ⟨_, rfl, _, _, dx, fs, _, rfl, hx, T.cl_Number, T.n_Number_high, lx _ (List.mem_cons_of_mem _ (List.mem_cons_self ..)), _, rfl, _, _, dy, gs, _, rfl, hy, T.cl_Number, T.n_Number_high, ly _ (List.mem_cons_of_mem _ (List.mem_cons_self ..)), rfl, _, rfl, iteB (fun g1 => ?_) (fun g1 => by
        rw [dI] at g1
        rw [g1, Bool.false_and] at k
        exact k)⟩
      rw [dI] at g1
      rw [g1, Bool.true_and] at k
      rw [← dO] at k
      exact ⟨_, rfl, _, _, dx, fs, _, rfl, hx, T.cl_Number, T.n_Number_width, lx _ (List.mem_cons_of_mem _ (List.mem_cons_of_mem _ (List.mem_cons_self ..))), _, rfl, _, _, dy, gs, _, rfl, hy, T.cl_Number, T.n_Number_width, ly _ (List.mem_cons_of_mem _ (List.mem_cons_of_mem _ (List.mem_cons_self ..))), scal_oi, k⟩
    | _ => cases ec
  | _ => cases hc
theorem ok_Bits___init__ (T : Txt K mg A) : FnOk P w K mg base (L2.CX P w) 3 A.f_Bits___init__ A.d_Bits___init__ ["self", "many"] (sp_Bits___init__ K A) := by
  refine T.F_Bits___init__.okX sc_Bits___init__ (fun vs H Q E h => sp2_len h) (fun cdv A0 outer s H vs Q E hr h => ?_)
  have nd := sc_Bits___init__.nd
  refine ⟨_, (pss_cons (ps_if (PW.pt (pw_or (pt_not (pt_val (pe_call (ok_is_integer T) (hr.mono (by decide)) (by rfl) T.mg_is_integer T.k_is_integer T.b_is_integer .nil pass0 (pa_cons (pv 1) pa_nil)))) (pw_or (pt_cmpR op_lt (pv 1) pe_int (nomark _)) (pw_or1 (pt_cmpR op_gt (pv 1) pe_int (nomark _)))))) (pss_one (ps_raise rfl (takes_of rfl rfl rfl rfl) (pmk_oex T.oex_BadKind T.ix_BadKind T.tx_BadKind (ok_BadKind___init__ T) (hr.mono (by decide)) T.b_BadKind___init__ .nil pass0 (by rfl) T.mg_BadKind (pa_cons pe_str pa_nil)))) pss_nil)
      (pss_one (ps_fld (pv 0) (pv 1) rfl))), ?_⟩
  clear nd hr
  replace h := sp2_of h
  obtain ⟨v_self, v_many, rfl, h⟩ := h

  obtain ⟨H0, x, ta, rfl, fr, va, k⟩ := h
  replace va := va.keep (KK.same fr.s)
  refine ⟨_, rfl, _, rfl, ta, va, _, rfl, iteB (fun h1 => iteY ?_) (fun h1 => ?_)⟩
  · rw [show mkBits v_many = .error "many" from if_pos (.inl (not_t h1))] at k
    exact raise_bad fr.s k
  obtain ⟨i, rfl⟩ := int_ex (not_f h1)
  refine ⟨_, rfl, _, _, rfl, rfl, _, rfl, iteB (fun h2 => iteY ?_) (fun h2 => ?_)⟩
  · rw [show mkBits (.int i) = .error "many" from if_pos (.inr (.inl (of_decide_eq_true h2)))] at k
    exact raise_bad fr.s k
  refine ⟨_, rfl, _, _, rfl, rfl, _, rfl, iteB (fun h3 => ?_) (fun h3 => ?_)⟩
  · rw [show mkBits (.int i) = .error "many" from if_pos (.inr (.inr (of_decide_eq_true h3)))] at k
    exact raise_bad fr.s k
  rw [show mkBits (.int i) = .ok (.bits i) from if_neg (by
    rintro (z | z | z)
    · cases z
    · exact of_decide_eq_false h2 z
    · exact of_decide_eq_false h3 z)] at k
  obtain ⟨dx, hx⟩ := fr.at'
  refine ⟨_, rfl, _, rfl, x, _, dx, _, rfl, hx, T.cl_Bits, T.n_Bits_many, Nat.lt_of_le_of_lt (Nat.le_refl 0 : _ ≤ 0) (by decide : 0 < 1000), ?_⟩
  exact k _ (same_put fr.no fr.s) (.bits ⟨dx, _, upd_same, put1⟩)
theorem ok_Bits___eq__ (T : Txt K mg A) : FnOk P w K mg base CX0 1 A.f_Bits___eq__ A.d_Bits___eq__ ["self", "other"] (sp_Bits___eq__ K A) := by
  refine T.F_Bits___eq__.ok sc_Bits___eq__ (fun vs H Q E h => sp2_len h) (fun cdv A0 outer s H vs Q E hr h => ?_)
  have nd := sc_Bits___eq__.nd
  refine ⟨_, (pss_one (ps_ret (pe_and (pe_callB call_isi (by rfl) T.b_isinstance (by decide +kernel) (pa_cons (pv 1) (pa_cons (pe_glob (v := .ref A.c_Bits) (by rfl) T.mg_Bits rfl) pa_nil))) (pe_one (pe_cmpR op_eq (pe_fld (pv 0) rfl) (pe_fld (pv 1) rfl) (nomark _)))))), ?_⟩
  clear nd hr
  replace h := sp2_of h
  obtain ⟨v_self, v_other, rfl, h⟩ := h

  obtain ⟨d, e, hd, hc, he, hn, k⟩ := h
  cases hd with
  | bits ob1 =>
    obtain ⟨dx, fs, hx, lx⟩ := ob1
    refine ⟨_, rfl, _, _, _, _, _, rfl, .own _, (KAt.vt T he).tyx, kit_isaO (KAt.vt T he).tag (T.kco .bits), _, rfl, iteB (fun g => ?_) (fun g => by
      rw [eqk_cls hc (isa_cls (t := .k e) (c := .bits) T g)] at k
      exact k)⟩
    have ec : e.cls = some .bits := of_decide_eq_true (isa_cls (t := .k e) (c := .bits) T g)
    cases he with
    | bits ob2 =>
      obtain ⟨dy, gs, hy, ly⟩ := ob2
      rw [Kd.eqk] at k
      rw [← dI] at k
      exact ⟨_, rfl, _, _, dx, fs, _, rfl, hx, T.cl_Bits, T.n_Bits_many, lx _ (List.mem_cons_self ..), _, rfl, _, _, dy, gs, _, rfl, hy, T.cl_Bits, T.n_Bits_many, ly _ (List.mem_cons_self ..), rfl, k⟩
    | _ => cases ec
  | _ => cases hc
theorem ok_Call___init__ (T : Txt K mg A) : FnOk P w K mg base (L2.CX P w) 3 A.f_Call___init__ A.d_Call___init__ ["self", "name"] (sp_Call___init__ K A) := by
  refine T.F_Call___init__.okX sc_Call___init__ (fun vs H Q E h => sp2_len h) (fun cdv A0 outer s H vs Q E hr h => ?_)
  have nd := sc_Call___init__.nd
  refine ⟨_, (pss_cons (ps_if (pt_not (pt_val (pe_call (ok_is_name T) (hr.mono (by decide)) (by rfl) T.mg_is_name T.k_is_name T.b_is_name .nil pass0 (pa_cons (pv 1) pa_nil)))) (pss_one (ps_raise rfl (takes_of rfl rfl rfl rfl) (pmk_oex T.oex_BadKind T.ix_BadKind T.tx_BadKind (ok_BadKind___init__ T) (hr.mono (by decide)) T.b_BadKind___init__ .nil pass0 (by rfl) T.mg_BadKind (pa_cons pe_str pa_nil)))) pss_nil)
      (pss_one (ps_fld (pv 0) (pv 1) rfl))), ?_⟩
  clear nd hr
  replace h := sp2_of h
  obtain ⟨v_self, v_name, rfl, h⟩ := h

  obtain ⟨H0, x, ta, rfl, fr, va, sa, k⟩ := h
  replace va := va.keep (KK.same fr.s)
  refine ⟨_, rfl, _, rfl, ta, va, sa, _, rfl, iteB (fun h1 => ?_) (fun h1 => ?_)⟩
  · rw [show mkCall v_name = .error "name" from if_pos (not_t h1)] at k
    exact raise_bad fr.s k
  rw [show mkCall v_name = .ok (.call (strOf v_name)) from if_neg (by rw [not_f h1]; decide)] at k
  obtain ⟨z, rfl⟩ : ∃ z, v_name = .str z := by
    cases v_name <;> first | exact ⟨_, rfl⟩ | cases h1
  obtain ⟨dx, hx⟩ := fr.at'
  refine ⟨_, rfl, _, rfl, x, _, dx, _, rfl, hx, T.cl_Call, T.n_Call_name, Nat.lt_of_le_of_lt (Nat.le_refl 0 : _ ≤ 0) (by decide : 0 < 1000), ?_⟩
  exact k _ (same_put fr.no fr.s) (.call ⟨dx, _, upd_same, put1⟩)
theorem ok_Call___eq__ (T : Txt K mg A) : FnOk P w K mg base CX0 1 A.f_Call___eq__ A.d_Call___eq__ ["self", "other"] (sp_Call___eq__ K A) := by
  refine T.F_Call___eq__.ok sc_Call___eq__ (fun vs H Q E h => sp2_len h) (fun cdv A0 outer s H vs Q E hr h => ?_)
  have nd := sc_Call___eq__.nd
  refine ⟨_, (pss_one (ps_ret (pe_and (pe_callB call_isi (by rfl) T.b_isinstance (by decide +kernel) (pa_cons (pv 1) (pa_cons (pe_glob (v := .ref A.c_Call) (by rfl) T.mg_Call rfl) pa_nil))) (pe_one (pe_cmpR op_eq (pe_fld (pv 0) rfl) (pe_fld (pv 1) rfl) (nomark _)))))), ?_⟩
  clear nd hr
  replace h := sp2_of h
  obtain ⟨v_self, v_other, rfl, h⟩ := h

  obtain ⟨d, e, hd, hc, he, hn, k⟩ := h
  cases hd with
  | call ob1 =>
    obtain ⟨dx, fs, hx, lx⟩ := ob1
    refine ⟨_, rfl, _, _, _, _, _, rfl, .own _, (KAt.vt T he).tyx, kit_isaO (KAt.vt T he).tag (T.kco .call), _, rfl, iteB (fun g => ?_) (fun g => by
      rw [eqk_cls hc (isa_cls (t := .k e) (c := .call) T g)] at k
      exact k)⟩
    have ec : e.cls = some .call := of_decide_eq_true (isa_cls (t := .k e) (c := .call) T g)
    cases he with
    | call ob2 =>
      obtain ⟨dy, gs, hy, ly⟩ := ob2
      rw [Kd.eqk] at k
      rw [← dS] at k
      exact ⟨_, rfl, _, _, dx, fs, _, rfl, hx, T.cl_Call, T.n_Call_name, lx _ (List.mem_cons_self ..), _, rfl, _, _, dy, gs, _, rfl, hy, T.cl_Call, T.n_Call_name, ly _ (List.mem_cons_self ..), rfl, k⟩
    | _ => cases ec
  | _ => cases hc
theorem ok_Items___init__ (T : Txt K mg A) : FnOk P w K mg base (L2.CX P w) 3 A.f_Items___init__ A.d_Items___init__ ["self", "item", "width"] (sp_Items___init__ K A) := by
  refine T.F_Items___init__.ok sc_Items___init__ (fun vs H Q E h => sp3_len h) (fun cdv A0 outer s H vs Q E hr h => ?_)
  have nd := sc_Items___init__.nd
  refine ⟨_, (pss_cons (ps_if (pt_not (pt_val (pe_callB call_isiT (by rfl) T.b_isinstance (by decide +kernel) (pa_cons (pv 1) (pa_cons (pe_tup (pa_cons (pe_glob (v := .ref A.c_Number) (by rfl) T.mg_Number rfl) (pa_cons (pe_glob (v := .ref A.c_Bits) (by rfl) T.mg_Bits rfl) (pa_cons (pe_glob (v := .ref A.c_Call) (by rfl) T.mg_Call rfl) pa_nil)))) pa_nil))))) (pss_one (ps_raise rfl (takes_of rfl rfl rfl rfl) (pmk_oex T.oex_BadKind T.ix_BadKind T.tx_BadKind (ok_BadKind___init__ T) (hr.mono (by decide)) T.b_BadKind___init__ .nil pass0 (by rfl) T.mg_BadKind (pa_cons pe_str pa_nil)))) pss_nil)
      (pss_cons (ps_if (PW.pt (pw_and (pt_cmpR op_notN (pv 2) pe_non (nomark _)) (pw_and1 (PW.pt (pw_or (pt_not (pt_val (pe_call (ok_is_integer T) (hr.mono (by decide)) (by rfl) T.mg_is_integer T.k_is_integer T.b_is_integer .nil pass0 (pa_cons (pv 2) pa_nil)))) (pw_or (pt_cmpR op_lt (pv 2) pe_int (nomark _)) (pw_or1 (pt_cmpR op_gt (pv 2) pe_int (nomark _))))))))) (pss_one (ps_raise rfl (takes_of rfl rfl rfl rfl) (pmk_oex T.oex_BadKind T.ix_BadKind T.tx_BadKind (ok_BadKind___init__ T) (hr.mono (by decide)) T.b_BadKind___init__ .nil pass0 (by rfl) T.mg_BadKind (pa_cons pe_str pa_nil)))) pss_nil)
      (pss_cons (ps_fld (pv 0) (pv 1) rfl)
      (pss_one (ps_fld (pv 0) (pv 2) rfl))))), ?_⟩
  clear nd hr
  replace h := sp3_of h
  obtain ⟨v_self, v_item, v_width, rfl, h⟩ := h

  obtain ⟨H0, x, t, tw, rfl, fr, ht, vw, k⟩ := h
  replace vw := vw.keep (KK.same fr.s)
  have ht1 := ht.keep (KI.same fr.s)
  refine ⟨_, rfl, (by show 3 ≤ sizeLine; rw [sizeLine_eq]; decide), fun p hp => ⟨_, p, _, _, _, _, rfl, upd_same, .cons (.own _) (.cons (.own _) (.cons (.own _) .nil)), ((ht1.keep (KI.new hp)).vt T).tyx, any_kc T ht1 [.num, .bits, .call], _, rfl, iteB (fun h1 => ?_) (fun h1 => ?_)⟩⟩
  · rw [show mkItems t v_width = .error "item" from if_pos (not_t h1)] at k
    exact raise_bad (fr.s.trans (same_new hp)) k
  have hi : t.item = true := not_f h1
  replace fr := fr.go (same_new hp (o := .tup [V.ref A.c_Number, V.ref A.c_Bits, V.ref A.c_Call]))
  replace vw := vw.keep (KK.new hp (o := .tup [V.ref A.c_Number, V.ref A.c_Bits, V.ref A.c_Call]))
  refine heap_gen (fun H1 => Fresh A.c_Items x H0 H1 ∧ VT K H1 v_width tw) ⟨fr, vw⟩ fun H1 ⟨fr, vw⟩ => ?_
  have q := any_kd hi
  rw [q] at ht hi k
  have fin : (v_width = oi (oiOf v_width)) → ¬ (v_width ≠ .non ∧ (isI v_width = false ∨ intOf v_width < 1 ∨ 3 < intOf v_width)) → ∀ Q1 : Prop, ((∀ H', Same H0 H' → KAt A H' (.ref x) (.items t.kd (oiOf v_width)) → Q .non H') → Q1) → Q1 := fun _ n Q1 g => by
    rw [show mkItems (.k t.kd) v_width = .ok (.items t.kd (oiOf v_width)) from (if_neg (by rw [hi]; decide)).trans (if_neg n)] at k
    exact g k
  refine ⟨_, rfl, rfl, _, rfl, iteB (fun h2 => ?_) (fun h2 => iteF ?_)⟩
  · have n2 : v_width ≠ .non := of_decide_eq_false (not_t h2)
    refine ⟨_, rfl, _, rfl, tw, vw, _, rfl, iteB (fun h3 => iteY ?_) (fun h3 => ?_)⟩
    · rw [show mkItems (.k t.kd) v_width = .error "width" from (if_neg (by rw [hi]; decide)).trans (if_pos ⟨n2, .inl (not_t h3)⟩)] at k
      exact raise_bad fr.s k
    obtain ⟨i, rfl⟩ := int_ex (not_f h3)
    refine ⟨_, rfl, _, _, rfl, rfl, _, rfl, iteB (fun h4 => iteY ?_) (fun h4 => ?_)⟩
    · rw [show mkItems (.k t.kd) (.int i) = .error "width" from (if_neg (by rw [hi]; decide)).trans (if_pos ⟨n2, .inr (.inl (of_decide_eq_true h4))⟩)] at k
      exact raise_bad fr.s k
    refine ⟨_, rfl, _, _, rfl, rfl, _, rfl, iteB (fun h5 => ?_) (fun h5 => ?_)⟩
    · rw [show mkItems (.k t.kd) (.int i) = .error "width" from (if_neg (by rw [hi]; decide)).trans (if_pos ⟨n2, .inr (.inr (of_decide_eq_true h5))⟩)] at k
      exact raise_bad fr.s k
    refine fin rfl (by
      rintro ⟨_, z | z | z⟩
      · cases z
      · exact of_decide_eq_false h4 z
      · exact of_decide_eq_false h5 z) _ fun k => ?_
    obtain ⟨dx, hx⟩ := fr.at'
    refine ⟨_, rfl, _, rfl, x, _, dx, _, rfl, hx, T.cl_Items, T.n_Items_item, Nat.lt_of_le_of_lt (Nat.le_refl 0 : _ ≤ 0) (by decide : 0 < 1000), ?_⟩
    refine ⟨_, rfl, _, rfl, x, _, dx, _, rfl, upd_same, T.cl_Items, T.n_Items_width, Nat.lt_of_le_of_lt (put_len (Nat.zero_le _) : _ ≤ 1) (by decide : 1 < 1000), ?_⟩
    exact k _ (same_put fr.no (same_put fr.no fr.s)) (.items ⟨dx, _, upd_same, put2 (show ¬ (Str.ofString "item") = Str.ofString "width" by decide +kernel)⟩ (KAt.keep (KI.same (same_put fr.no (same_put fr.no fr.s))) ht) hi)
  · have e2 : v_width = .non := of_decide_eq_true (not_f h2)
    subst e2
    refine fin rfl (by rintro ⟨z, _⟩; exact z rfl) _ fun k => ?_
    obtain ⟨dx, hx⟩ := fr.at'
    refine ⟨_, rfl, _, rfl, x, _, dx, _, rfl, hx, T.cl_Items, T.n_Items_item, Nat.lt_of_le_of_lt (Nat.le_refl 0 : _ ≤ 0) (by decide : 0 < 1000), ?_⟩
    refine ⟨_, rfl, _, rfl, x, _, dx, _, rfl, upd_same, T.cl_Items, T.n_Items_width, Nat.lt_of_le_of_lt (put_len (Nat.zero_le _) : _ ≤ 1) (by decide : 1 < 1000), ?_⟩
    exact k _ (same_put fr.no (same_put fr.no fr.s)) (.items ⟨dx, _, upd_same, put2 (show ¬ (Str.ofString "item") = Str.ofString "width" by decide +kernel)⟩ (KAt.keep (KI.same (same_put fr.no (same_put fr.no fr.s))) ht) hi)
theorem ok_Items___eq__ (T : Txt K mg A) : FnOk P w K mg base CX0 2 A.f_Items___eq__ A.d_Items___eq__ ["self", "other"] (sp_Items___eq__ K A) := by
  refine T.F_Items___eq__.ok sc_Items___eq__ (fun vs H Q E h => sp2_len h) (fun cdv A0 outer s H vs Q E hr h => ?_)
  have nd := sc_Items___eq__.nd
  refine ⟨_, (pss_one (ps_ret (pe_and (pe_callB call_isi (by rfl) T.b_isinstance (by decide +kernel) (pa_cons (pv 1) (pa_cons (pe_glob (v := .ref A.c_Items) (by rfl) T.mg_Items rfl) pa_nil))) (pe_and (pe_cmpR (op_eqKd T (.cons (c := .num) (ok_Number___eq__ T) T.m_Number___eq__ T.i_Number___eq__ T.b_Number___eq__ (hr.mono (by decide)) (.cons (c := .bits) (ok_Bits___eq__ T) T.m_Bits___eq__ T.i_Bits___eq__ T.b_Bits___eq__ (hr.mono (by decide)) (.cons (c := .call) (ok_Call___eq__ T) T.m_Call___eq__ T.i_Call___eq__ T.b_Call___eq__ (hr.mono (by decide)) .nil)))) (pe_fld (pv 0) rfl) (pe_fld (pv 1) rfl) (nomark _)) (pe_one (pe_cmpR op_eq (pe_fld (pv 0) rfl) (pe_fld (pv 1) rfl) (nomark _))))))), ?_⟩
  clear nd hr
  replace h := sp2_of h
  obtain ⟨v_self, v_other, rfl, h⟩ := h

  obtain ⟨d, e, hd, hc, he, hn, k⟩ := h
  cases hd with
  | items ob1 k1 o1 =>
    obtain ⟨dx, fs, hx, lx⟩ := ob1
    refine ⟨_, rfl, _, _, _, _, _, rfl, .own _, (KAt.vt T he).tyx, kit_isaO (KAt.vt T he).tag (T.kco .items), _, rfl, iteB (fun g => ?_) (fun g => by
      rw [eqk_cls hc (isa_cls (t := .k e) (c := .items) T g)] at k
      exact k)⟩
    have ec : e.cls = some .items := of_decide_eq_true (isa_cls (t := .k e) (c := .items) T g)
    cases he with
    | items ob2 k2 o2 =>
      obtain ⟨dy, gs, hy, ly⟩ := ob2
      rw [Kd.eqk] at k
      refine ⟨_, rfl, _, _, dx, fs, _, rfl, hx, T.cl_Items, T.n_Items_item, lx _ (List.mem_cons_self ..), _, rfl, _, _, dy, gs, _, rfl, hy, T.cl_Items, T.n_Items_item, ly _ (List.mem_cons_self ..), _, _, k1, k2, iff_no (any_mem o1).2 (any_mem o2).2, (any_mem o1).1, nn_flat (fun _ => item_way o1), _, rfl, iteB (fun g0 => ?_) (fun g0 => by
        rw [g0, Bool.false_and] at k
        exact k)⟩
      rw [g0, Bool.true_and] at k
      rw [← dO] at k
      exact ⟨_, rfl, _, _, dx, fs, _, rfl, hx, T.cl_Items, T.n_Items_width, lx _ (List.mem_cons_of_mem _ (List.mem_cons_self ..)), _, rfl, _, _, dy, gs, _, rfl, hy, T.cl_Items, T.n_Items_width, ly _ (List.mem_cons_of_mem _ (List.mem_cons_self ..)), scal_oi, k⟩
    | _ => cases ec
  | _ => cases hc
theorem ok_is_simple (T : Txt K mg A) : FnOk P w K mg base CX0 1 A.f_is_simple A.d_is_simple ["thing"] (sp_is_simple K A) := by
  refine T.F_is_simple.ok sc_is_simple (fun vs H Q E h => sp1_len h) (fun cdv A0 outer s H vs Q E hr h => ?_)
  have nd := sc_is_simple.nd
  refine ⟨_, (pss_one (ps_ret (pe_callB call_isiT (by rfl) T.b_isinstance (by decide +kernel) (pa_cons (pv 0) (pa_cons (pe_tup (pa_cons (pe_glob (v := .ref A.c_Number) (by rfl) T.mg_Number rfl) (pa_cons (pe_glob (v := .ref A.c_Bits) (by rfl) T.mg_Bits rfl) (pa_cons (pe_glob (v := .ref A.c_Items) (by rfl) T.mg_Items rfl) (pa_cons (pe_glob (v := .ref A.c_Call) (by rfl) T.mg_Call rfl) pa_nil))))) pa_nil))))), ?_⟩
  clear nd hr
  replace h := sp1_of h
  obtain ⟨v_thing, rfl, h⟩ := h

  obtain ⟨t, ht, k⟩ := h
  refine ⟨_, rfl, (by show 4 ≤ sizeLine; rw [sizeLine_eq]; decide), fun p hp => ⟨_, p, _, _, _, _, rfl, upd_same, .cons (.own _) (.cons (.own _) (.cons (.own _) (.cons (.own _) .nil))), ((ht.keep (KI.new hp)).vt T).tyx, any_kc T ht [.num, .bits, .items, .call], k _ (same_new hp)⟩⟩
theorem ok_check_inner (T : Txt K mg A) : FnOk P w K mg base (L2.CX P w) 3 A.f_check_inner A.d_check_inner ["word", "name", "is_kind"] (sp_check_inner K A) := by
  refine T.F_check_inner.okX sc_check_inner (fun vs H Q E h => sp3_len h) (fun cdv A0 outer s H vs Q E hr h => ?_)
  have nd := sc_check_inner.nd
  refine ⟨_, (pss_cons (ps_if (pt_not (pt_val (pe_call (ok_is_word T) (hr.mono (by decide)) (by rfl) T.mg_is_word T.k_is_word T.b_is_word .nil pass0 (pa_cons (pv 0) pa_nil)))) (pss_one (ps_raise rfl (takes_of rfl rfl rfl rfl) (pmk_oex T.oex_BadKind T.ix_BadKind T.tx_BadKind (ok_BadKind___init__ T) (hr.mono (by decide)) T.b_BadKind___init__ .nil pass0 (by rfl) T.mg_BadKind (pa_cons pe_str pa_nil)))) pss_nil)
      (pss_cons (ps_if (pt_not (pt_val (pe_call (ok_is_name T) (hr.mono (by decide)) (by rfl) T.mg_is_name T.k_is_name T.b_is_name .nil pass0 (pa_cons (pv 1) pa_nil)))) (pss_one (ps_raise rfl (takes_of rfl rfl rfl rfl) (pmk_oex T.oex_BadKind T.ix_BadKind T.tx_BadKind (ok_BadKind___init__ T) (hr.mono (by decide)) T.b_BadKind___init__ .nil pass0 (by rfl) T.mg_BadKind (pa_cons pe_str pa_nil)))) pss_nil)
      (pss_one (ps_if (pt_not (pt_val (pv 2))) (pss_one (ps_raise rfl (takes_of rfl rfl rfl rfl) (pmk_oex T.oex_BadKind T.ix_BadKind T.tx_BadKind (ok_BadKind___init__ T) (hr.mono (by decide)) T.b_BadKind___init__ .nil pass0 (by rfl) T.mg_BadKind (pa_cons pe_str pa_nil)))) pss_nil)))), ?_⟩
  clear nd hr
  replace h := sp3_of h
  obtain ⟨v_word, v_name, v_is_kind, rfl, h⟩ := h

  obtain ⟨t1, t2, c, hw, hn, sw, sn, rfl, k⟩ := h
  refine ⟨_, rfl, _, rfl, t1, hw, sw, _, rfl, iteB (fun h1 => ?_) (fun h1 => ?_)⟩
  · rw [show chk v_word v_name c = some "word" from if_pos (not_t h1)] at k
    exact raise_bad (fun _ _ z => z) k
  refine ⟨_, rfl, _, rfl, t2, hn, sn, _, rfl, iteB (fun h2 => ?_) (fun h2 => ?_)⟩
  · rw [show chk v_word v_name c = some "name" from (if_neg (by rw [not_f h1]; decide)).trans (if_pos (not_t h2))] at k
    exact raise_bad (fun _ _ z => z) k
  refine ⟨_, rfl, _, rfl, iteB (fun h3 => ?_) (fun h3 => ?_)⟩
  · rw [show chk v_word v_name c = some "kind" from (if_neg (by rw [not_f h1]; decide)).trans ((if_neg (by rw [not_f h2]; decide)).trans (if_pos (not_t h3)))] at k
    exact raise_bad (fun _ _ z => z) k
  · rw [show chk v_word v_name c = none from (if_neg (by rw [not_f h1]; decide)).trans ((if_neg (by rw [not_f h2]; decide)).trans (if_neg (by rw [not_f h3]; decide)))] at k
    exact k
theorem ok_Way___init__ (T : Txt K mg A) : FnOk P w K mg base (L2.CX P w) 4 A.f_Way___init__ A.d_Way___init__ ["self", "word", "name", "kind"] (sp_Way___init__ K A) := by
  refine T.F_Way___init__.okX sc_Way___init__ (fun vs H Q E h => sp4_len h) (fun cdv A0 outer s H vs Q E hr h => ?_)
  have nd := sc_Way___init__.nd
  refine ⟨_, (pss_cons (ps_expr (by exact (pe_callS (ok_check_inner T) (hr.mono (by decide)) (by rfl) T.mg_check_inner T.k_check_inner T.b_check_inner (fun σ => passAt (W := fun cls d _ H => E cls d H) (takes_of rfl rfl rfl rfl) σ) (by exact (pa_cons (pv 1) (pa_cons (pv 2) (pa_cons (pe_or (pe_call (ok_is_simple T) (hr.mono (by decide)) (by rfl) T.mg_is_simple T.k_is_simple T.b_is_simple .nil pass0 (pa_cons (pv 3) pa_nil)) (pe_one (pe_callB call_isi (by rfl) T.b_isinstance (by decide +kernel) (pa_cons (pv 3) (pa_cons (pe_glob (v := .ref A.c_Nothing) (by rfl) T.mg_Nothing rfl) pa_nil))))) pa_nil)))))))
      (pss_cons (ps_fld (pv 0) (pv 1) rfl)
      (pss_cons (ps_fld (pv 0) (pv 2) rfl)
      (pss_one (ps_fld (pv 0) (pv 3) rfl))))), ?_⟩
  clear nd hr
  replace h := sp4_of h
  obtain ⟨v_self, v_word, v_name, v_kind, rfl, h⟩ := h

  obtain ⟨H0, x, tw, tn, t, rfl, fr, vw, vn, sw, sn, ht, k⟩ := h
  refine ⟨_, rfl, _, rfl, _, rfl, _, rfl, t, ht.keep (KI.same fr.s), fun H1 e1 => ⟨_, rfl, iteB (fun g1 => ?_) (fun g1 => ?_)⟩⟩
  · have hb : t.way = true := by unfold Td.way; rw [g1]; rfl
    have q := any_kd g1
    rw [q] at ht k hb
    rw [hb] at k
    refine ⟨_, _, _, rfl, tw, tn, _, vw.keep (KK.same (fr.s.trans e1)), vn.keep (KK.same (fr.s.trans e1)), sw, sn, rfl, inner_go (fr.s.trans e1) k fun ce k => ?_⟩
    obtain ⟨ew, en, et⟩ := chk_none ce
    replace et := hb.trans et
    replace fr := fr.go e1
    obtain ⟨dx, hx⟩ := fr.at'
    refine ⟨_, rfl, _, rfl, x, _, dx, _, rfl, hx, T.cl_Way, T.n_Way_word, Nat.lt_of_le_of_lt (Nat.le_refl 0 : _ ≤ 0) (by decide : 0 < 1000), ?_⟩
    refine ⟨_, rfl, _, rfl, x, _, dx, _, rfl, upd_same, T.cl_Way, T.n_Way_name, Nat.lt_of_le_of_lt (put_len (Nat.zero_le _) : _ ≤ 1) (by decide : 1 < 1000), ?_⟩
    refine ⟨_, rfl, _, rfl, x, _, dx, _, rfl, upd_same, T.cl_Way, T.n_Way_kind, Nat.lt_of_le_of_lt (put_len (put_len (Nat.zero_le _)) : _ ≤ 2) (by decide : 2 < 1000), ?_⟩
    refine k _ (same_put fr.no (same_put fr.no (same_put fr.no fr.s))) (.way (w := strOf v_word) (n := strOf v_name) ⟨dx, _, upd_same, ?_⟩ (KAt.keep (KI.same (same_put fr.no (same_put fr.no (same_put fr.no fr.s)))) ht) et)
    rw [← ew, ← en]
    exact put3 (show ¬ (Str.ofString "word") = Str.ofString "name" by decide +kernel) (show ¬ (Str.ofString "word") = Str.ofString "kind" by decide +kernel) (show ¬ (Str.ofString "name") = Str.ofString "kind" by decide +kernel)
  · have hi : Th A K H1 v_kind t := ht.keep (KI.same (fr.s.trans e1))
    refine ⟨_, rfl, _, _, _, _, _, rfl, .own _, (hi.vt T).tyx, kit_isaO (hi.vt T).tag (T.kco .nothing), ?_⟩
    have hb : t.way = isa (t.tag A) (.ref (A.kc .nothing)) := by unfold Td.way; rw [g1, Bool.false_or]; exact (isa_kc T t .nothing).symm
    rw [hb] at k
    refine ⟨_, _, _, rfl, tw, tn, _, vw.keep (KK.same (fr.s.trans e1)), vn.keep (KK.same (fr.s.trans e1)), sw, sn, rfl, inner_go (fr.s.trans e1) k fun ce k => ?_⟩
    obtain ⟨ew, en, et⟩ := chk_none ce
    have q : t = .k t.kd := kd_of (of_decide_eq_true ((isa_kc T t .nothing).symm.trans et))
    replace et := hb.trans et
    rw [q] at ht et
    replace fr := fr.go e1
    obtain ⟨dx, hx⟩ := fr.at'
    refine ⟨_, rfl, _, rfl, x, _, dx, _, rfl, hx, T.cl_Way, T.n_Way_word, Nat.lt_of_le_of_lt (Nat.le_refl 0 : _ ≤ 0) (by decide : 0 < 1000), ?_⟩
    refine ⟨_, rfl, _, rfl, x, _, dx, _, rfl, upd_same, T.cl_Way, T.n_Way_name, Nat.lt_of_le_of_lt (put_len (Nat.zero_le _) : _ ≤ 1) (by decide : 1 < 1000), ?_⟩
    refine ⟨_, rfl, _, rfl, x, _, dx, _, rfl, upd_same, T.cl_Way, T.n_Way_kind, Nat.lt_of_le_of_lt (put_len (put_len (Nat.zero_le _)) : _ ≤ 2) (by decide : 2 < 1000), ?_⟩
    refine k _ (same_put fr.no (same_put fr.no (same_put fr.no fr.s))) (.way (w := strOf v_word) (n := strOf v_name) ⟨dx, _, upd_same, ?_⟩ (KAt.keep (KI.same (same_put fr.no (same_put fr.no (same_put fr.no fr.s)))) ht) et)
    rw [← ew, ← en]
    exact put3 (show ¬ (Str.ofString "word") = Str.ofString "name" by decide +kernel) (show ¬ (Str.ofString "word") = Str.ofString "kind" by decide +kernel) (show ¬ (Str.ofString "name") = Str.ofString "kind" by decide +kernel)
theorem ok_Way___eq__ (T : Txt K mg A) : FnOk P w K mg base CX0 3 A.f_Way___eq__ A.d_Way___eq__ ["self", "other"] (sp_Way___eq__ K A) := by
  refine T.F_Way___eq__.ok sc_Way___eq__ (fun vs H Q E h => sp2_len h) (fun cdv A0 outer s H vs Q E hr h => ?_)
  have nd := sc_Way___eq__.nd
  refine ⟨_, (pss_cons (ps_if (pt_not (pt_val (pe_callB call_isi (by rfl) T.b_isinstance (by decide +kernel) (pa_cons (pv 1) (pa_cons (pe_glob (v := .ref A.c_Way) (by rfl) T.mg_Way rfl) pa_nil))))) (pss_one (ps_ret pe_bl)) pss_nil)
      (pss_one (ps_ret (pe_and (pe_cmpR op_eq (pe_fld (pv 0) rfl) (pe_fld (pv 1) rfl) (nomark _)) (pe_and (pe_cmpR op_eq (pe_fld (pv 0) rfl) (pe_fld (pv 1) rfl) (nomark _)) (pe_one (pe_cmpR (op_eqKd T (.cons (c := .num) (ok_Number___eq__ T) T.m_Number___eq__ T.i_Number___eq__ T.b_Number___eq__ (hr.mono (by decide)) (.cons (c := .bits) (ok_Bits___eq__ T) T.m_Bits___eq__ T.i_Bits___eq__ T.b_Bits___eq__ (hr.mono (by decide)) (.cons (c := .items) (ok_Items___eq__ T) T.m_Items___eq__ T.i_Items___eq__ T.b_Items___eq__ (hr.mono (by decide)) (.cons (c := .call) (ok_Call___eq__ T) T.m_Call___eq__ T.i_Call___eq__ T.b_Call___eq__ (hr.mono (by decide)) (.cons (c := .nothing) (ok_Nothing___eq__ T) T.m_Nothing___eq__ T.i_Nothing___eq__ T.b_Nothing___eq__ (hr.mono (by decide)) .nil)))))) (pe_fld (pv 0) rfl) (pe_fld (pv 1) rfl) (nomark _)))))))), ?_⟩
  clear nd hr
  replace h := sp2_of h
  obtain ⟨v_self, v_other, rfl, h⟩ := h

  obtain ⟨d, e, hd, hc, he, hn, k⟩ := h
  cases hd with
  | way ob1 k1 o1 =>
    obtain ⟨dx, fs, hx, lx⟩ := ob1
    refine ⟨_, rfl, _, _, _, _, _, rfl, .own _, (KAt.vt T he).tyx, kit_isaO (KAt.vt T he).tag (T.kco .way), _, rfl, iteB (fun g => by
      rw [eqk_cls hc (isa_cls (t := .k e) (c := .way) T (not_t g))] at k
      exact k) (fun g => ?_)⟩
    have ec : e.cls = some .way := of_decide_eq_true (isa_cls (t := .k e) (c := .way) T (not_f g))
    cases he with
    | way ob2 k2 o2 =>
      obtain ⟨dy, gs, hy, ly⟩ := ob2
      rw [Kd.eqk] at k
      refine ⟨_, rfl, _, _, dx, fs, _, rfl, hx, T.cl_Way, T.n_Way_word, lx _ (List.mem_cons_self ..), _, rfl, _, _, dy, gs, _, rfl, hy, T.cl_Way, T.n_Way_word, ly _ (List.mem_cons_self ..), rfl, _, rfl, iteB (fun g0 => ?_) (fun g0 => by
        rw [dS] at g0
        rw [g0, Bool.false_and] at k
        exact k)⟩
      rw [dS] at g0
      rw [g0, Bool.true_and] at k
      refine ⟨_, rfl, _, _, dx, fs, _, rfl, hx, T.cl_Way, T.n_Way_name, lx _ (List.mem_cons_of_mem _ (List.mem_cons_self ..)), _, rfl, _, _, dy, gs, _, rfl, hy, T.cl_Way, T.n_Way_name, ly _ (List.mem_cons_of_mem _ (List.mem_cons_self ..)), rfl, _, rfl, iteB (fun g1 => ?_) (fun g1 => by
        rw [dS] at g1
        rw [g1, Bool.false_and] at k
        exact k)⟩
      rw [dS] at g1
      rw [g1, Bool.true_and] at k
      exact ⟨_, rfl, _, _, dx, fs, _, rfl, hx, T.cl_Way, T.n_Way_kind, lx _ (List.mem_cons_of_mem _ (List.mem_cons_of_mem _ (List.mem_cons_self ..))), _, rfl, _, _, dy, gs, _, rfl, hy, T.cl_Way, T.n_Way_kind, ly _ (List.mem_cons_of_mem _ (List.mem_cons_of_mem _ (List.mem_cons_self ..))), _, _, k1, k2, iff_no (any_mem (way_any o1)).2 (any_mem (way_any o2)).2, (any_mem (way_any o1)).1, nn_flat (fun _ => o1), k⟩
    | _ => cases ec
  | _ => cases hc
theorem ok_Door___init__ (T : Txt K mg A) : FnOk P w K mg base (L2.CX P w) 4 A.f_Door___init__ A.d_Door___init__ ["self", "word", "name", "kind"] (sp_Door___init__ K A) := by
  refine T.F_Door___init__.okX sc_Door___init__ (fun vs H Q E h => sp4_len h) (fun cdv A0 outer s H vs Q E hr h => ?_)
  have nd := sc_Door___init__.nd
  refine ⟨_, (pss_cons (ps_expr (by exact (pe_callS (ok_check_inner T) (hr.mono (by decide)) (by rfl) T.mg_check_inner T.k_check_inner T.b_check_inner (fun σ => passAt (W := fun cls d _ H => E cls d H) (takes_of rfl rfl rfl rfl) σ) (by exact (pa_cons (pv 1) (pa_cons (pv 2) (pa_cons (pe_or (pe_cmpR op_isN (pv 3) pe_non (nomark _)) (pe_or (pe_call (ok_is_simple T) (hr.mono (by decide)) (by rfl) T.mg_is_simple T.k_is_simple T.b_is_simple .nil pass0 (pa_cons (pv 3) pa_nil)) (pe_one (pe_callB call_isi (by rfl) T.b_isinstance (by decide +kernel) (pa_cons (pv 3) (pa_cons (pe_glob (v := .ref A.c_Nothing) (by rfl) T.mg_Nothing rfl) pa_nil)))))) pa_nil)))))))
      (pss_cons (ps_fld (pv 0) (pv 1) rfl)
      (pss_cons (ps_fld (pv 0) (pv 2) rfl)
      (pss_one (ps_fld (pv 0) (pv 3) rfl))))), ?_⟩
  clear nd hr
  replace h := sp4_of h
  obtain ⟨v_self, v_word, v_name, v_kind, rfl, h⟩ := h

  obtain ⟨H0, x, tw, tn, t, rfl, fr, vw, vn, sw, sn, ht, k⟩ := h
  refine ⟨_, rfl, _, rfl, _, rfl, rfl, _, rfl, iteB (fun g0 => ?_) (fun g0 => ?_)⟩
  · have hb : t.door = true := by unfold Td.door; rw [← th_non ht, g0]; rfl
    have q : t = .k t.kd := by
      have z : t.isNone = true := (th_non ht).symm.trans g0
      cases t with
      | k d => rfl
      | raw n => cases z
    rw [q] at ht k hb
    rw [hb] at k
    refine ⟨_, _, _, rfl, tw, tn, _, vw.keep (KK.same fr.s), vn.keep (KK.same fr.s), sw, sn, rfl, inner_go fr.s k fun ce k => ?_⟩
    obtain ⟨ew, en, et⟩ := chk_none ce
    replace et := hb.trans et
    replace fr := fr.go (fun _ _ z => z)
    obtain ⟨dx, hx⟩ := fr.at'
    refine ⟨_, rfl, _, rfl, x, _, dx, _, rfl, hx, T.cl_Door, T.n_Door_word, Nat.lt_of_le_of_lt (Nat.le_refl 0 : _ ≤ 0) (by decide : 0 < 1000), ?_⟩
    refine ⟨_, rfl, _, rfl, x, _, dx, _, rfl, upd_same, T.cl_Door, T.n_Door_name, Nat.lt_of_le_of_lt (put_len (Nat.zero_le _) : _ ≤ 1) (by decide : 1 < 1000), ?_⟩
    refine ⟨_, rfl, _, rfl, x, _, dx, _, rfl, upd_same, T.cl_Door, T.n_Door_kind, Nat.lt_of_le_of_lt (put_len (put_len (Nat.zero_le _)) : _ ≤ 2) (by decide : 2 < 1000), ?_⟩
    refine k _ (same_put fr.no (same_put fr.no (same_put fr.no fr.s))) (.door (w := strOf v_word) (n := strOf v_name) ⟨dx, _, upd_same, ?_⟩ (KAt.keep (KI.same (same_put fr.no (same_put fr.no (same_put fr.no fr.s)))) ht) et)
    rw [← ew, ← en]
    exact put3 (show ¬ (Str.ofString "word") = Str.ofString "name" by decide +kernel) (show ¬ (Str.ofString "word") = Str.ofString "kind" by decide +kernel) (show ¬ (Str.ofString "name") = Str.ofString "kind" by decide +kernel)
  have g0' : t.isNone = false := (th_non ht).symm.trans g0
  refine ⟨_, rfl, _, rfl, t, ht.keep (KI.same fr.s), fun H1 e1 => ⟨_, rfl, iteB (fun g1 => ?_) (fun g1 => ?_)⟩⟩
  · have hb : t.door = true := by unfold Td.door; rw [g0', g1]; rfl
    have q := any_kd g1
    rw [q] at ht k hb
    rw [hb] at k
    refine ⟨_, _, _, rfl, tw, tn, _, vw.keep (KK.same (fr.s.trans e1)), vn.keep (KK.same (fr.s.trans e1)), sw, sn, rfl, inner_go (fr.s.trans e1) k fun ce k => ?_⟩
    obtain ⟨ew, en, et⟩ := chk_none ce
    replace et := hb.trans et
    replace fr := fr.go e1
    obtain ⟨dx, hx⟩ := fr.at'
    refine ⟨_, rfl, _, rfl, x, _, dx, _, rfl, hx, T.cl_Door, T.n_Door_word, Nat.lt_of_le_of_lt (Nat.le_refl 0 : _ ≤ 0) (by decide : 0 < 1000), ?_⟩
    refine ⟨_, rfl, _, rfl, x, _, dx, _, rfl, upd_same, T.cl_Door, T.n_Door_name, Nat.lt_of_le_of_lt (put_len (Nat.zero_le _) : _ ≤ 1) (by decide : 1 < 1000), ?_⟩
    refine ⟨_, rfl, _, rfl, x, _, dx, _, rfl, upd_same, T.cl_Door, T.n_Door_kind, Nat.lt_of_le_of_lt (put_len (put_len (Nat.zero_le _)) : _ ≤ 2) (by decide : 2 < 1000), ?_⟩
    refine k _ (same_put fr.no (same_put fr.no (same_put fr.no fr.s))) (.door (w := strOf v_word) (n := strOf v_name) ⟨dx, _, upd_same, ?_⟩ (KAt.keep (KI.same (same_put fr.no (same_put fr.no (same_put fr.no fr.s)))) ht) et)
    rw [← ew, ← en]
    exact put3 (show ¬ (Str.ofString "word") = Str.ofString "name" by decide +kernel) (show ¬ (Str.ofString "word") = Str.ofString "kind" by decide +kernel) (show ¬ (Str.ofString "name") = Str.ofString "kind" by decide +kernel)
  · have hi : Th A K H1 v_kind t := ht.keep (KI.same (fr.s.trans e1))
    refine ⟨_, rfl, _, _, _, _, _, rfl, .own _, (hi.vt T).tyx, kit_isaO (hi.vt T).tag (T.kco .nothing), ?_⟩
    have hb : t.door = isa (t.tag A) (.ref (A.kc .nothing)) := by unfold Td.door; rw [g0', g1, Bool.false_or, Bool.false_or]; exact (isa_kc T t .nothing).symm
    rw [hb] at k
    refine ⟨_, _, _, rfl, tw, tn, _, vw.keep (KK.same (fr.s.trans e1)), vn.keep (KK.same (fr.s.trans e1)), sw, sn, rfl, inner_go (fr.s.trans e1) k fun ce k => ?_⟩
    obtain ⟨ew, en, et⟩ := chk_none ce
    have q : t = .k t.kd := kd_of (of_decide_eq_true ((isa_kc T t .nothing).symm.trans et))
    replace et := hb.trans et
    rw [q] at ht et
    replace fr := fr.go e1
    obtain ⟨dx, hx⟩ := fr.at'
    refine ⟨_, rfl, _, rfl, x, _, dx, _, rfl, hx, T.cl_Door, T.n_Door_word, Nat.lt_of_le_of_lt (Nat.le_refl 0 : _ ≤ 0) (by decide : 0 < 1000), ?_⟩
    refine ⟨_, rfl, _, rfl, x, _, dx, _, rfl, upd_same, T.cl_Door, T.n_Door_name, Nat.lt_of_le_of_lt (put_len (Nat.zero_le _) : _ ≤ 1) (by decide : 1 < 1000), ?_⟩
    refine ⟨_, rfl, _, rfl, x, _, dx, _, rfl, upd_same, T.cl_Door, T.n_Door_kind, Nat.lt_of_le_of_lt (put_len (put_len (Nat.zero_le _)) : _ ≤ 2) (by decide : 2 < 1000), ?_⟩
    refine k _ (same_put fr.no (same_put fr.no (same_put fr.no fr.s))) (.door (w := strOf v_word) (n := strOf v_name) ⟨dx, _, upd_same, ?_⟩ (KAt.keep (KI.same (same_put fr.no (same_put fr.no (same_put fr.no fr.s)))) ht) et)
    rw [← ew, ← en]
    exact put3 (show ¬ (Str.ofString "word") = Str.ofString "name" by decide +kernel) (show ¬ (Str.ofString "word") = Str.ofString "kind" by decide +kernel) (show ¬ (Str.ofString "name") = Str.ofString "kind" by decide +kernel)
theorem ok_Door___eq__ (T : Txt K mg A) : FnOk P w K mg base CX0 3 A.f_Door___eq__ A.d_Door___eq__ ["self", "other"] (sp_Door___eq__ K A) := by
  refine T.F_Door___eq__.ok sc_Door___eq__ (fun vs H Q E h => sp2_len h) (fun cdv A0 outer s H vs Q E hr h => ?_)
  have nd := sc_Door___eq__.nd
  refine ⟨_, (pss_cons (ps_if (pt_not (pt_val (pe_callB call_isi (by rfl) T.b_isinstance (by decide +kernel) (pa_cons (pv 1) (pa_cons (pe_glob (v := .ref A.c_Door) (by rfl) T.mg_Door rfl) pa_nil))))) (pss_one (ps_ret pe_bl)) pss_nil)
      (pss_one (ps_ret (pe_and (pe_cmpR op_eq (pe_fld (pv 0) rfl) (pe_fld (pv 1) rfl) (nomark _)) (pe_and (pe_cmpR op_eq (pe_fld (pv 0) rfl) (pe_fld (pv 1) rfl) (nomark _)) (pe_one (pe_cmpR (op_eqKd T (.cons (c := .num) (ok_Number___eq__ T) T.m_Number___eq__ T.i_Number___eq__ T.b_Number___eq__ (hr.mono (by decide)) (.cons (c := .bits) (ok_Bits___eq__ T) T.m_Bits___eq__ T.i_Bits___eq__ T.b_Bits___eq__ (hr.mono (by decide)) (.cons (c := .items) (ok_Items___eq__ T) T.m_Items___eq__ T.i_Items___eq__ T.b_Items___eq__ (hr.mono (by decide)) (.cons (c := .call) (ok_Call___eq__ T) T.m_Call___eq__ T.i_Call___eq__ T.b_Call___eq__ (hr.mono (by decide)) (.cons (c := .nothing) (ok_Nothing___eq__ T) T.m_Nothing___eq__ T.i_Nothing___eq__ T.b_Nothing___eq__ (hr.mono (by decide)) .nil)))))) (pe_fld (pv 0) rfl) (pe_fld (pv 1) rfl) (nomark _)))))))), ?_⟩
  clear nd hr
  replace h := sp2_of h
  obtain ⟨v_self, v_other, rfl, h⟩ := h

  obtain ⟨d, e, hd, hc, he, hn, k⟩ := h
  cases hd with
  | door ob1 k1 o1 =>
    obtain ⟨dx, fs, hx, lx⟩ := ob1
    refine ⟨_, rfl, _, _, _, _, _, rfl, .own _, (KAt.vt T he).tyx, kit_isaO (KAt.vt T he).tag (T.kco .door), _, rfl, iteB (fun g => by
      rw [eqk_cls hc (isa_cls (t := .k e) (c := .door) T (not_t g))] at k
      exact k) (fun g => ?_)⟩
    have ec : e.cls = some .door := of_decide_eq_true (isa_cls (t := .k e) (c := .door) T (not_f g))
    cases he with
    | door ob2 k2 o2 =>
      obtain ⟨dy, gs, hy, ly⟩ := ob2
      rw [Kd.eqk] at k
      refine ⟨_, rfl, _, _, dx, fs, _, rfl, hx, T.cl_Door, T.n_Door_word, lx _ (List.mem_cons_self ..), _, rfl, _, _, dy, gs, _, rfl, hy, T.cl_Door, T.n_Door_word, ly _ (List.mem_cons_self ..), rfl, _, rfl, iteB (fun g0 => ?_) (fun g0 => by
        rw [dS] at g0
        rw [g0, Bool.false_and] at k
        exact k)⟩
      rw [dS] at g0
      rw [g0, Bool.true_and] at k
      refine ⟨_, rfl, _, _, dx, fs, _, rfl, hx, T.cl_Door, T.n_Door_name, lx _ (List.mem_cons_of_mem _ (List.mem_cons_self ..)), _, rfl, _, _, dy, gs, _, rfl, hy, T.cl_Door, T.n_Door_name, ly _ (List.mem_cons_of_mem _ (List.mem_cons_self ..)), rfl, _, rfl, iteB (fun g1 => ?_) (fun g1 => by
        rw [dS] at g1
        rw [g1, Bool.false_and] at k
        exact k)⟩
      rw [dS] at g1
      rw [g1, Bool.true_and] at k
      exact ⟨_, rfl, _, _, dx, fs, _, rfl, hx, T.cl_Door, T.n_Door_kind, lx _ (List.mem_cons_of_mem _ (List.mem_cons_of_mem _ (List.mem_cons_self ..))), _, rfl, _, _, dy, gs, _, rfl, hy, T.cl_Door, T.n_Door_kind, ly _ (List.mem_cons_of_mem _ (List.mem_cons_of_mem _ (List.mem_cons_self ..))), _, _, k1, k2, iff_of hn, (fun c q => (any_mem (way_any (door_way o1 (by rw [q]; exact fun z => nomatch z)))).1 c q), nn_flat (fun q => door_way o1 q), k⟩
    | _ => cases ec
  | _ => cases hc
theorem ok_are_ways (T : Txt K mg A) : FnOk P w K mg base CX0 2 A.f_are_ways A.d_are_ways ["ways"] (sp_are_ways K A) := by
  refine T.F_are_ways.ok sc_are_ways (fun vs H Q E h => sp1_len h) (fun cdv A0 outer s H vs Q E hr h => ?_)
  have nd := sc_are_ways.nd
  refine ⟨_, (pss_cons (ps_if (PW.pt (pw_or (pt_not (pt_val (pe_callB call_isiT (by rfl) T.b_isinstance (by decide +kernel) (pa_cons (pv 0) (pa_cons (pe_tup (pa_cons (pe_bltn (v := .ty "list") (by rfl) T.b_list (by decide +kernel) rfl) (pa_cons (pe_bltn (v := .ty "tuple") (by rfl) T.b_tuple (by decide +kernel) rfl) pa_nil))) pa_nil))))) (pw_or (pt_cmpR op_lt (pe_callB call_len (by rfl) T.b_len (by decide +kernel) (pa_cons (pv 0) pa_nil)) pe_int (nomark _)) (pw_or1 (pt_cmpR op_gt (pe_callB call_len (by rfl) T.b_len (by decide +kernel) (pa_cons (pv 0) pa_nil)) pe_int (nomark _)))))) (pss_one (ps_ret pe_bl)) pss_nil)
      (pss_cons (ps_set (i := 1) nd rfl (by first | exact Or.inl rfl | exact Or.inr rfl) pe_int)
      (pss_cons (ps_for PassesOwn.never rfl (pi_enumA (by rfl) T.b_enumerate (pa_cons (pv 0) pa_nil)) (pg_tup (by rfl) (pgs_cons (pg_name (i := 2) nd rfl (by first | exact Or.inl rfl | exact Or.inr rfl)) (pgs_cons (pg_name (i := 3) nd rfl (by first | exact Or.inl rfl | exact Or.inr rfl)) pgs_nil))) (pss_cons (ps_if (pt_not (pt_val (pe_callB call_isiT (by rfl) T.b_isinstance (by decide +kernel) (pa_cons (pv 3) (pa_cons (pe_tup (pa_cons (pe_glob (v := .ref A.c_Way) (by rfl) T.mg_Way rfl) (pa_cons (pe_glob (v := .ref A.c_Door) (by rfl) T.mg_Door rfl) pa_nil))) pa_nil))))) (pss_one (ps_ret pe_bl)) pss_nil)
      (Evl.pss_cut (ps_if (pt_val (pe_callB call_isi (by rfl) T.b_isinstance (by decide +kernel) (pa_cons (pv 3) (pa_cons (pe_glob (v := .ref A.c_Way) (by rfl) T.mg_Way rfl) pa_nil)))) (pss_one (ps_aug (i := 1) nd rfl (by first | exact Or.inl rfl | exact Or.inr rfl) pe_int ip_add)) pss_nil)
      (pss_one (ps_for PassesOwn.never rfl (pi_or (pi_list (pe_slice sl_list (pv 0) po_none (po_some (pv 2)))) (pi_tup (pe_slice sl_tupA (pv 0) po_none (po_some (pv 2))))) (pg_name (i := 4) nd rfl (by first | exact Or.inl rfl | exact Or.inr rfl)) (pss_one (ps_if (PW.pt (pw_or (pt_val (pe_call (ok_begins T) (hr.mono (by decide)) (by rfl) T.mg_begins T.k_begins T.b_begins .nil pass0 (pa_cons (pe_fld (pv 3) rfl) (pa_cons (pe_fld (pv 4) rfl) pa_nil)))) (pw_or1 (pt_cmpR op_eq (pe_fld (pv 3) rfl) (pe_fld (pv 4) rfl) (nomark _))))) (pss_one (ps_ret pe_bl)) pss_nil)))))))
      (pss_one (ps_ret (pe_cmpR op_gt (pv 1) pe_int (nomark _))))))), ?_⟩
  clear nd hr
  replace h := sp1_of h
  obtain ⟨v_ways, rfl, h⟩ := h

  obtain ⟨o, hs, k⟩ := h
  have hv : ∃ t, VT K H v_ways t ∧ (isa t (.type "list") || (isa t (.type "tuple") || false)) = o.isSome := by
    cases hs with
    | lst e _ _ => exact ⟨_, .lst e, by rw [isa_self]; rfl⟩
    | tup e _ _ => exact ⟨_, .tup e, by rw [isa_self, isa_not (by decide) (by decide)]; rfl⟩
    | no h n1 n2 => exact ⟨_, h, by rw [isa_not n1 (by decide), isa_not n2 (by decide)]; rfl⟩
  obtain ⟨tv, hv, hb⟩ := hv
  refine ⟨_, rfl, (by show 2 ≤ sizeLine; rw [sizeLine_eq]; decide), fun p hp => ⟨_, p, _, _, _, _, rfl, upd_same, .cons (.ty _) (.cons (.ty _) .nil), (hv.keep (KK.new hp)).tyx, any_lt hv, _, rfl, iteB (fun h1 => iteY ?_) (fun h1 => ?_)⟩⟩
  · have e : o = none := by
      have z := not_t h1
      rw [hb] at z
      cases o <;> first | rfl | cases z
    subst e
    exact k _ (same_new hp)
  refine heap_gen2 (fun H1 => Same H H1) (same_new hp (o := .tup [V.ty "list", V.ty "tuple"])) fun H1 e1 => ?_
  cases hs with
  | no h n1 n2 =>
    have z := not_f h1
    rw [hb] at z
    cases z
  | @lst a vs ts ea hp2 hl =>
    replace hp2 := ths_keep (KI.same e1) hp2
    replace ea := e1 _ _ ea
    have hlen := paired_len hp2
    refine ⟨_, rfl, _, _, rfl, .inl ⟨_, SqL.of ea, rfl⟩, _, _, rfl, rfl, _, rfl, iteB (fun h2 => iteY ?_) (fun h2 => ?_)⟩
    · have z : okSeq okWays (some ts) = false := by
        show okWays ts = false
        have := of_decide_eq_true h2
        simp only [okWays, decide_eq_false (show ¬ 1 ≤ ts.length by omega), Bool.false_and]
      rw [z] at k
      exact k _ e1
    refine ⟨_, rfl, _, _, rfl, .inl ⟨_, SqL.of ea, rfl⟩, _, _, rfl, rfl, _, rfl, iteB (fun h3 => ?_) (fun h3 => ?_)⟩
    · have z : okSeq okWays (some ts) = false := by
        show okWays ts = false
        have := of_decide_eq_true h3
        simp only [okWays, decide_eq_false (show ¬ ts.length ≤ 12 by omega), Bool.false_and, Bool.and_false]
      rw [z] at k
      exact k _ e1
    have l1 : 1 ≤ ts.length := by have := of_decide_eq_false h2; omega
    have l2 : ts.length ≤ 12 := by have := of_decide_eq_false h3; omega
    have bad : goodW [] ts = false → ∀ H2, Same H H2 → Q (.bl false) H2 := fun g H2 e2 => by
      have z : okSeq okWays (some ts) = false := by
        show okWays ts = false
        simp only [okWays, g, Bool.false_and, Bool.and_false]
      rw [z] at k
      exact k H2 e2
    refine ⟨_, rfl, a, vs, rfl, .inl ⟨SqL.of ea, for_it walk_enum (fun i σ' H' => ∃ (n : Int) (a1 a2 a3 : Option V), σ' = [some (.ref a), some (.int n), a1, a2, a3] ∧ Same H1 H' ∧ goodW [] (ts.take i) = true ∧ 0 ≤ n ∧ decide (0 < n) = (ts.take i).any fun t => decide (t.cls = some .way)) ⟨0, _, _, _, rfl, fun _ _ z => z, rfl, by decide, rfl⟩ (fun i σ' H' _ ⟨_, _, _, _, _, e2, _⟩ => SqL.of (e2 _ _ ea)) ?_ ?_⟩⟩
    · rintro i x σ' H' H'' hi ⟨n, a1, a2, a3, rfl, e2, g, hn, hw⟩ ⟨T1, u, z, rfl, hT, rfl, hu, hz⟩
      have hu2 := Option.some.inj hu
      subst hu2
      obtain ⟨t, ht, hx⟩ := paired_at hp2 hz
      have e3 : Same H1 (upd H' T1 (.tup [.int (i : Nat), z])) := e2.trans (same_new hT)
      refine ⟨T1, _, rfl, SqT.of upd_same, rfl, ?_⟩
      refine heap_gen2 (fun H3 => Same H1 H3) e3 fun H3 e3 => ?_
      refine ⟨_, _, rfl, _, _, rfl, rfl, ?_⟩
      have hx3 := hx.keep (KI.same e3)
      refine ⟨_, rfl, (by show 2 ≤ sizeLine; rw [sizeLine_eq]; decide), fun p4 hp4 => ⟨_, p4, _, _, _, _, rfl, upd_same, .cons (.own _) (.cons (.own _) .nil), ((hx3.keep (KI.new hp4)).vt T).tyx, any_kc T hx3 [.way, .door], _, rfl, iteB (fun g1 => ?_) (fun g1 => ?_)⟩⟩
      · exact bad (goodW_bad ht (not_t g1)) _ (e1.trans (e3.trans (same_new hp4)))
      have tw : t.wd = true := not_f g1
      refine heap_gen (fun H4 => Same H1 H4) (e3.trans (same_new hp4 (o := .tup [V.ref (A.kc .way), V.ref (A.kc .door)]))) fun H4 e4 => ?_
      have hx4 := hx.keep (KI.same e4)
      refine ⟨fun σ' H' => ∃ (n : Int) (a1 : Option V), σ' = [some (.ref a), some (.int n), some (.int (i : Nat)), some z, a1] ∧ H' = H4 ∧ 0 ≤ n ∧ decide (0 < n) = (ts.take (i + 1)).any fun t => decide (t.cls = some .way), ?_, ?_⟩
      · refine ⟨_, rfl, _, _, _, _, _, rfl, .own _, (hx4.vt T).tyx, kit_isaO (hx4.vt T).tag (T.kco .way), _, rfl, iteB (fun g2 => ?_) (fun g2 => ?_)⟩
        · refine ⟨_, rfl, _, _, rfl, rfl, n + 1, _, rfl, rfl, by omega, ?_⟩
          have q := isa_cls (c := .way) T g2
          rw [take_one ht, List.any_append, decide_eq_true (show 0 < n + 1 by omega), show ([t].any fun t => decide (t.cls = some Kc.way)) = true by simp only [List.any_cons, q]; rfl, Bool.or_true]
        · refine ⟨n, _, rfl, rfl, hn, ?_⟩
          have q := isa_cls (c := .way) T g2
          rw [take_one ht, List.any_append, hw, show ([t].any fun t => decide (t.cls = some Kc.way)) = false by simp only [List.any_cons, q]; rfl, Bool.or_false]
      rintro σ' H' ⟨n2, a4, rfl, rfl, hn2, hw2⟩
      refine .inl ⟨_, rfl, _, rfl, _, rfl, a, vs, rfl, SqL.of (e4 _ _ ea), fun q hq => ?_⟩
      rw [cut_to]
      have e5 : Same H1 (upd H' q (.lst (vs.take i))) := e4.trans (same_new hq)
      refine ⟨q, rfl, ⟨_, SqL.of upd_same⟩, ?_⟩
      have sq : SqL K (upd H' q (.lst (vs.take i))) q (vs.take i) := SqL.of upd_same
      generalize upd H' q (.lst (vs.take i)) = H5 at e5 sq ⊢
      refine for_it (walk_list (xs := vs.take i)) (fun j σ' H' => ∃ (a3 : Option V), σ' = [some (.ref a), some (.int n2), some (.int (i : Nat)), some z, a3] ∧ H' = H5 ∧ ((ts.take i).take j).all (fun o => !(pre2 t.word o.word) && !decide (t.name = o.name)) = true) ⟨_, rfl, rfl, rfl⟩ (fun j σ' H' _ ⟨_, _, e, _⟩ => by rw [e]; exact sq) ?_ ?_
      · rintro j y σ' H' H9 _ ⟨a5, rfl, rfl, hall⟩ ⟨rfl, hj⟩
        have hj2 : vs[j]? = some y ∧ j < i := by
          rw [List.getElem?_take] at hj
          by_cases c : j < i
          · rw [if_pos c] at hj; exact ⟨hj, c⟩
          · rw [if_neg c] at hj; cases hj
        obtain ⟨o, ho, hy⟩ := paired_at hp2 hj2.1
        have ho2 : (ts.take i)[j]? = some o := by rw [List.getElem?_take, if_pos hj2.2]; exact ho
        have ow : o.wd = true := goodW_wd g o (List.mem_of_getElem? ho2)
        obtain ⟨xa, xC, xd, xf, rfl, x1, x2, x3, x4, x5, x6⟩ := wd_fld T (hx.keep (KI.same e5)) tw
        obtain ⟨ya, yC, yd, yf, rfl, y1, y2, y3, y4, y5, y6⟩ := wd_fld T (hy.keep (KI.same e5)) ow
        refine ⟨_, rfl, xa, xC, xd, xf, _, rfl, x1, x2, x3, x5, _, rfl, ya, yC, yd, yf, _, rfl, y1, y2, y3, y5, _, _, rfl, _, _, rfl, rfl, _, rfl, iteB (fun g3 => iteY ?_) (fun g3 => ?_)⟩
        · exact bad (goodW_bad2 ht (all_bad ho2 (by rw [g3]; rfl))) _ (e1.trans e5)
        refine ⟨_, rfl, xa, xC, xd, xf, _, rfl, x1, x2, x4, x6, _, rfl, ya, yC, yd, yf, _, rfl, y1, y2, y4, y6, rfl, _, rfl, iteB (fun g4 => ?_) (fun g4 => ?_)⟩
        · rw [dS] at g4
          exact bad (goodW_bad2 ht (all_bad ho2 (by rw [g4, g3]; rfl))) _ (e1.trans e5)
        · rw [dS] at g4
          exact ⟨_, rfl, rfl, all_step hall ho2 (by rw [g4, g3]; rfl)⟩
      · rintro σ' H' ⟨a6, rfl, rfl, hall⟩
        have hlt : (vs.take i).length = (ts.take i).length := by rw [List.length_take, List.length_take, hlen]
        rw [hlt, List.take_length] at hall
        exact ⟨n2, _, _, _, rfl, e5, goodW_step ht g tw hall, hn2, hw2⟩
    · rintro σ' H' ⟨n, a1, a2, a3, rfl, e2, g, hn, hw⟩
      rw [hlen, List.take_length] at g hw
      refine ⟨_, rfl, _, _, rfl, rfl, ?_⟩
      have z : okSeq okWays (some ts) = decide (0 < n) := by
        show okWays ts = _
        simp only [okWays, g, decide_eq_true l1, decide_eq_true l2, Bool.true_and, hw]
      rw [z] at k
      exact k _ (e1.trans e2)
  | @tup a vs ts ea hp2 hl =>
    replace hp2 := ths_keep (KI.same e1) hp2
    replace ea := e1 _ _ ea
    have hlen := paired_len hp2
    refine ⟨_, rfl, _, _, rfl, .inr ⟨_, SqT.of ea, rfl⟩, _, _, rfl, rfl, _, rfl, iteB (fun h2 => iteY ?_) (fun h2 => ?_)⟩
    · have z : okSeq okWays (some ts) = false := by
        show okWays ts = false
        have := of_decide_eq_true h2
        simp only [okWays, decide_eq_false (show ¬ 1 ≤ ts.length by omega), Bool.false_and]
      rw [z] at k
      exact k _ e1
    refine ⟨_, rfl, _, _, rfl, .inr ⟨_, SqT.of ea, rfl⟩, _, _, rfl, rfl, _, rfl, iteB (fun h3 => ?_) (fun h3 => ?_)⟩
    · have z : okSeq okWays (some ts) = false := by
        show okWays ts = false
        have := of_decide_eq_true h3
        simp only [okWays, decide_eq_false (show ¬ ts.length ≤ 12 by omega), Bool.false_and, Bool.and_false]
      rw [z] at k
      exact k _ e1
    have l1 : 1 ≤ ts.length := by have := of_decide_eq_false h2; omega
    have l2 : ts.length ≤ 12 := by have := of_decide_eq_false h3; omega
    have bad : goodW [] ts = false → ∀ H2, Same H H2 → Q (.bl false) H2 := fun g H2 e2 => by
      have z : okSeq okWays (some ts) = false := by
        show okWays ts = false
        simp only [okWays, g, Bool.false_and, Bool.and_false]
      rw [z] at k
      exact k H2 e2
    refine ⟨_, rfl, a, vs, rfl, .inr ⟨SqT.of ea, for_it walk_enumT (fun i σ' H' => ∃ (n : Int) (a1 a2 a3 : Option V), σ' = [some (.ref a), some (.int n), a1, a2, a3] ∧ Same H1 H' ∧ goodW [] (ts.take i) = true ∧ 0 ≤ n ∧ decide (0 < n) = (ts.take i).any fun t => decide (t.cls = some .way)) ⟨0, _, _, _, rfl, fun _ _ z => z, rfl, by decide, rfl⟩ (fun i σ' H' _ ⟨_, _, _, _, _, e2, _⟩ => SqT.of (e2 _ _ ea)) ?_ ?_⟩⟩
    · rintro i x σ' H' H'' hi ⟨n, a1, a2, a3, rfl, e2, g, hn, hw⟩ ⟨T1, u, z, rfl, hT, rfl, hu, hz⟩
      have hu2 := Option.some.inj hu
      subst hu2
      obtain ⟨t, ht, hx⟩ := paired_at hp2 hz
      have e3 : Same H1 (upd H' T1 (.tup [.int (i : Nat), z])) := e2.trans (same_new hT)
      refine ⟨T1, _, rfl, SqT.of upd_same, rfl, ?_⟩
      refine heap_gen2 (fun H3 => Same H1 H3) e3 fun H3 e3 => ?_
      refine ⟨_, _, rfl, _, _, rfl, rfl, ?_⟩
      have hx3 := hx.keep (KI.same e3)
      refine ⟨_, rfl, (by show 2 ≤ sizeLine; rw [sizeLine_eq]; decide), fun p4 hp4 => ⟨_, p4, _, _, _, _, rfl, upd_same, .cons (.own _) (.cons (.own _) .nil), ((hx3.keep (KI.new hp4)).vt T).tyx, any_kc T hx3 [.way, .door], _, rfl, iteB (fun g1 => ?_) (fun g1 => ?_)⟩⟩
      · exact bad (goodW_bad ht (not_t g1)) _ (e1.trans (e3.trans (same_new hp4)))
      have tw : t.wd = true := not_f g1
      refine heap_gen (fun H4 => Same H1 H4) (e3.trans (same_new hp4 (o := .tup [V.ref (A.kc .way), V.ref (A.kc .door)]))) fun H4 e4 => ?_
      have hx4 := hx.keep (KI.same e4)
      refine ⟨fun σ' H' => ∃ (n : Int) (a1 : Option V), σ' = [some (.ref a), some (.int n), some (.int (i : Nat)), some z, a1] ∧ H' = H4 ∧ 0 ≤ n ∧ decide (0 < n) = (ts.take (i + 1)).any fun t => decide (t.cls = some .way), ?_, ?_⟩
      · refine ⟨_, rfl, _, _, _, _, _, rfl, .own _, (hx4.vt T).tyx, kit_isaO (hx4.vt T).tag (T.kco .way), _, rfl, iteB (fun g2 => ?_) (fun g2 => ?_)⟩
        · refine ⟨_, rfl, _, _, rfl, rfl, n + 1, _, rfl, rfl, by omega, ?_⟩
          have q := isa_cls (c := .way) T g2
          rw [take_one ht, List.any_append, decide_eq_true (show 0 < n + 1 by omega), show ([t].any fun t => decide (t.cls = some Kc.way)) = true by simp only [List.any_cons, q]; rfl, Bool.or_true]
        · refine ⟨n, _, rfl, rfl, hn, ?_⟩
          have q := isa_cls (c := .way) T g2
          rw [take_one ht, List.any_append, hw, show ([t].any fun t => decide (t.cls = some Kc.way)) = false by simp only [List.any_cons, q]; rfl, Bool.or_false]
      rintro σ' H' ⟨n2, a4, rfl, rfl, hn2, hw2⟩
      refine .inr ⟨_, rfl, _, rfl, _, rfl, a, vs, rfl, SqT.of (e4 _ _ ea), fun w => absurd w (cut_tup hi), fun _ q hq => ?_⟩
      rw [cut_to]
      have e5 : Same H1 (upd H' q (.tup (vs.take i))) := e4.trans (same_new hq)
      refine ⟨q, rfl, ⟨_, SqT.of upd_same⟩, ?_⟩
      have sq : SqT K (upd H' q (.tup (vs.take i))) q (vs.take i) := SqT.of upd_same
      generalize upd H' q (.tup (vs.take i)) = H5 at e5 sq ⊢
      refine for_it (walk_tup (xs := vs.take i)) (fun j σ' H' => ∃ (a3 : Option V), σ' = [some (.ref a), some (.int n2), some (.int (i : Nat)), some z, a3] ∧ H' = H5 ∧ ((ts.take i).take j).all (fun o => !(pre2 t.word o.word) && !decide (t.name = o.name)) = true) ⟨_, rfl, rfl, rfl⟩ (fun j σ' H' _ ⟨_, _, e, _⟩ => by rw [e]; exact sq) ?_ ?_
      · rintro j y σ' H' H9 _ ⟨a5, rfl, rfl, hall⟩ ⟨rfl, hj⟩
        have hj2 : vs[j]? = some y ∧ j < i := by
          rw [List.getElem?_take] at hj
          by_cases c : j < i
          · rw [if_pos c] at hj; exact ⟨hj, c⟩
          · rw [if_neg c] at hj; cases hj
        obtain ⟨o, ho, hy⟩ := paired_at hp2 hj2.1
        have ho2 : (ts.take i)[j]? = some o := by rw [List.getElem?_take, if_pos hj2.2]; exact ho
        have ow : o.wd = true := goodW_wd g o (List.mem_of_getElem? ho2)
        obtain ⟨xa, xC, xd, xf, rfl, x1, x2, x3, x4, x5, x6⟩ := wd_fld T (hx.keep (KI.same e5)) tw
        obtain ⟨ya, yC, yd, yf, rfl, y1, y2, y3, y4, y5, y6⟩ := wd_fld T (hy.keep (KI.same e5)) ow
        refine ⟨_, rfl, xa, xC, xd, xf, _, rfl, x1, x2, x3, x5, _, rfl, ya, yC, yd, yf, _, rfl, y1, y2, y3, y5, _, _, rfl, _, _, rfl, rfl, _, rfl, iteB (fun g3 => iteY ?_) (fun g3 => ?_)⟩
        · exact bad (goodW_bad2 ht (all_bad ho2 (by rw [g3]; rfl))) _ (e1.trans e5)
        refine ⟨_, rfl, xa, xC, xd, xf, _, rfl, x1, x2, x4, x6, _, rfl, ya, yC, yd, yf, _, rfl, y1, y2, y4, y6, rfl, _, rfl, iteB (fun g4 => ?_) (fun g4 => ?_)⟩
        · rw [dS] at g4
          exact bad (goodW_bad2 ht (all_bad ho2 (by rw [g4, g3]; rfl))) _ (e1.trans e5)
        · rw [dS] at g4
          exact ⟨_, rfl, rfl, all_step hall ho2 (by rw [g4, g3]; rfl)⟩
      · rintro σ' H' ⟨a6, rfl, rfl, hall⟩
        have hlt : (vs.take i).length = (ts.take i).length := by rw [List.length_take, List.length_take, hlen]
        rw [hlt, List.take_length] at hall
        exact ⟨n2, _, _, _, rfl, e5, goodW_step ht g tw hall, hn2, hw2⟩
    · rintro σ' H' ⟨n, a1, a2, a3, rfl, e2, g, hn, hw⟩
      rw [hlen, List.take_length] at g hw
      refine ⟨_, rfl, _, _, rfl, rfl, ?_⟩
      have z : okSeq okWays (some ts) = decide (0 < n) := by
        show okWays ts = _
        simp only [okWays, g, decide_eq_true l1, decide_eq_true l2, Bool.true_and, hw]
      rw [z] at k
      exact k _ (e1.trans e2)
theorem ok_Choice___init__ (T : Txt K mg A) : FnOk P w K mg base (L2.CX P w) 3 A.f_Choice___init__ A.d_Choice___init__ ["self", "ways"] (sp_Choice___init__ K A) := by
  refine T.F_Choice___init__.okX sc_Choice___init__ (fun vs H Q E h => sp2_len h) (fun cdv A0 outer s H vs Q E hr h => ?_)
  have nd := sc_Choice___init__.nd
  refine ⟨_, (pss_cons (ps_if (pt_not (pt_val (pe_call (ok_are_ways T) (hr.mono (by decide)) (by rfl) T.mg_are_ways T.k_are_ways T.b_are_ways .nil pass0 (pa_cons (pv 1) pa_nil)))) (pss_one (ps_raise rfl (takes_of rfl rfl rfl rfl) (pmk_oex T.oex_BadKind T.ix_BadKind T.tx_BadKind (ok_BadKind___init__ T) (hr.mono (by decide)) T.b_BadKind___init__ .nil pass0 (by rfl) T.mg_BadKind (pa_cons pe_str pa_nil)))) pss_nil)
      (pss_one (ps_fld (pv 0) (pe_callTy call_tuple_of (by rfl) T.b_tuple (by decide +kernel) (pa_cons (pv 1) pa_nil)) rfl))), ?_⟩
  clear nd hr
  replace h := sp2_of h
  obtain ⟨v_self, v_ways, rfl, h⟩ := h

  obtain ⟨H0, x, o, rfl, fr, hs, k⟩ := h
  refine ⟨_, rfl, _, rfl, o, hs.keep fr.s, fun H1 e1 => ⟨_, rfl, iteB (fun h1 => ?_) (fun h1 => ?_)⟩⟩
  · rw [show mkSeq .choice okWays "ways" o = .error "ways" by
      have z := not_t h1
      cases o with
      | none => rfl
      | some ts => exact if_pos z] at k
    exact raise_bad (fr.s.trans e1) k
  replace h1 := not_f h1
  cases hs with
  | no _ _ _ => cases h1
  | @lst a vs ts ea hp hl =>
    have z : okWays ts = true := h1
    rw [show mkSeq .choice okWays "ways" (some ts) = .ok (.choice (ts.map Td.kd)) from if_neg (by rw [z]; decide)] at k
    replace fr := fr.go e1
    obtain ⟨dx, hx⟩ := fr.at'
    refine ⟨_, rfl, a, vs, rfl, .inl ⟨SqL.of (fr.s _ _ ea), fun q hq => ?_⟩⟩
    have nq : q ≠ x := fun z => by rw [z, hx] at hq; cases hq
    refine ⟨_, rfl, x, _, dx, _, rfl, (by rw [upd_ne nq.symm]; exact hx), T.cl_Choice, T.n_Choice_ways, Nat.lt_of_le_of_lt (Nat.le_refl 0 : _ ≤ 0) (by decide : 0 < 1000), ?_⟩
    have e4 : ∀ o, Same H0 (upd (upd H1 q (.tup vs)) x o) := fun o => same_put fr.no (fr.s.trans (same_new hq))
    have gw := goodW_wd (okWays_good z)
    refine k _ (e4 _) (.choice ⟨dx, _, upd_same, put1⟩ (by rw [upd_ne nq]; exact upd_same) (KAts.keep (KI.same (e4 _)) (kats_of hp fun t ht => any_kd (gw t ht))) ?_)
    intro y hy
    obtain ⟨t, ht, rfl⟩ := List.mem_map.mp hy
    have q2 := any_kd (gw t ht)
    rw [← q2]
    exact gw t ht
  | @tup a vs ts ea hp hl =>
    have z : okWays ts = true := h1
    rw [show mkSeq .choice okWays "ways" (some ts) = .ok (.choice (ts.map Td.kd)) from if_neg (by rw [z]; decide)] at k
    replace fr := fr.go e1
    obtain ⟨dx, hx⟩ := fr.at'
    refine ⟨_, rfl, a, vs, rfl, .inr ⟨SqT.of (fr.s _ _ ea), ?_⟩⟩
    have nq : a ≠ x := fun z => by rw [z, fr.no] at ea; cases ea
    refine ⟨_, rfl, x, _, dx, _, rfl, hx, T.cl_Choice, T.n_Choice_ways, Nat.lt_of_le_of_lt (Nat.le_refl 0 : _ ≤ 0) (by decide : 0 < 1000), ?_⟩
    have e4 : ∀ o, Same H0 (upd H1 x o) := fun o => same_put fr.no fr.s
    have gw := goodW_wd (okWays_good z)
    refine k _ (e4 _) (.choice ⟨dx, _, upd_same, put1⟩ (by rw [upd_ne nq]; exact fr.s _ _ ea) (KAts.keep (KI.same (e4 _)) (kats_of hp fun t ht => any_kd (gw t ht))) ?_)
    intro y hy
    obtain ⟨t, ht, rfl⟩ := List.mem_map.mp hy
    have q2 := any_kd (gw t ht)
    rw [← q2]
    exact gw t ht
theorem ok_Part___init__ (T : Txt K mg A) : FnOk P w K mg base (L2.CX P w) 3 A.f_Part___init__ A.d_Part___init__ ["self", "name", "kind"] (sp_Part___init__ K A) := by
  refine T.F_Part___init__.okX sc_Part___init__ (fun vs H Q E h => sp3_len h) (fun cdv A0 outer s H vs Q E hr h => ?_)
  have nd := sc_Part___init__.nd
  refine ⟨_, (pss_cons (ps_if (pt_not (pt_val (pe_call (ok_is_name T) (hr.mono (by decide)) (by rfl) T.mg_is_name T.k_is_name T.b_is_name .nil pass0 (pa_cons (pv 1) pa_nil)))) (pss_one (ps_raise rfl (takes_of rfl rfl rfl rfl) (pmk_oex T.oex_BadKind T.ix_BadKind T.tx_BadKind (ok_BadKind___init__ T) (hr.mono (by decide)) T.b_BadKind___init__ .nil pass0 (by rfl) T.mg_BadKind (pa_cons pe_str pa_nil)))) pss_nil)
      (pss_cons (ps_if (pt_not (pt_val (pe_call (ok_is_simple T) (hr.mono (by decide)) (by rfl) T.mg_is_simple T.k_is_simple T.b_is_simple .nil pass0 (pa_cons (pv 2) pa_nil)))) (pss_one (ps_raise rfl (takes_of rfl rfl rfl rfl) (pmk_oex T.oex_BadKind T.ix_BadKind T.tx_BadKind (ok_BadKind___init__ T) (hr.mono (by decide)) T.b_BadKind___init__ .nil pass0 (by rfl) T.mg_BadKind (pa_cons pe_str pa_nil)))) pss_nil)
      (pss_cons (ps_fld (pv 0) (pv 1) rfl)
      (pss_one (ps_fld (pv 0) (pv 2) rfl))))), ?_⟩
  clear nd hr
  replace h := sp3_of h
  obtain ⟨v_self, v_name, v_kind, rfl, h⟩ := h

  obtain ⟨H0, x, tn, t, rfl, fr, vn, sn, ht, k⟩ := h
  replace vn := vn.keep (KK.same fr.s)
  refine ⟨_, rfl, _, rfl, tn, vn, sn, _, rfl, iteB (fun h1 => ?_) (fun h1 => ?_)⟩
  · rw [show mkPart v_name t = .error "name" from if_pos (not_t h1)] at k
    exact raise_bad fr.s k
  obtain ⟨z, rfl⟩ : ∃ z, v_name = .str z := by
    cases v_name <;> first | exact ⟨_, rfl⟩ | cases h1
  refine ⟨_, rfl, _, rfl, t, ht.keep (KI.same fr.s), fun H1 e1 => ⟨_, rfl, iteB (fun h2 => ?_) (fun h2 => ?_)⟩⟩
  · rw [show mkPart (.str z) t = .error "kind" from (if_neg (by rw [not_f h1]; decide)).trans (if_pos (not_t h2))] at k
    exact raise_bad (fr.s.trans e1) k
  have hi : t.simple = true := not_f h2
  rw [show mkPart (.str z) t = .ok (.part z t.kd) from (if_neg (by rw [not_f h1]; decide)).trans (if_neg (by rw [hi]; decide))] at k
  have q := any_kd hi
  rw [q] at ht hi
  replace fr := fr.go e1
  obtain ⟨dx, hx⟩ := fr.at'
  refine ⟨_, rfl, _, rfl, x, _, dx, _, rfl, hx, T.cl_Part, T.n_Part_name, Nat.lt_of_le_of_lt (Nat.le_refl 0 : _ ≤ 0) (by decide : 0 < 1000), ?_⟩
  refine ⟨_, rfl, _, rfl, x, _, dx, _, rfl, upd_same, T.cl_Part, T.n_Part_kind, Nat.lt_of_le_of_lt (put_len (Nat.zero_le _) : _ ≤ 1) (by decide : 1 < 1000), ?_⟩
  exact k _ (same_put fr.no (same_put fr.no fr.s)) (.part ⟨dx, _, upd_same, put2 (show ¬ (Str.ofString "name") = Str.ofString "kind" by decide +kernel)⟩ (KAt.keep (KI.same (same_put fr.no (same_put fr.no fr.s))) ht) hi)
theorem ok_Part___eq__ (T : Txt K mg A) : FnOk P w K mg base CX0 3 A.f_Part___eq__ A.d_Part___eq__ ["self", "other"] (sp_Part___eq__ K A) := by
  refine T.F_Part___eq__.ok sc_Part___eq__ (fun vs H Q E h => sp2_len h) (fun cdv A0 outer s H vs Q E hr h => ?_)
  have nd := sc_Part___eq__.nd
  refine ⟨_, (pss_one (ps_ret (pe_and (pe_callB call_isi (by rfl) T.b_isinstance (by decide +kernel) (pa_cons (pv 1) (pa_cons (pe_glob (v := .ref A.c_Part) (by rfl) T.mg_Part rfl) pa_nil))) (pe_and (pe_cmpR op_eq (pe_fld (pv 0) rfl) (pe_fld (pv 1) rfl) (nomark _)) (pe_one (pe_cmpR (op_eqKd T (.cons (c := .num) (ok_Number___eq__ T) T.m_Number___eq__ T.i_Number___eq__ T.b_Number___eq__ (hr.mono (by decide)) (.cons (c := .bits) (ok_Bits___eq__ T) T.m_Bits___eq__ T.i_Bits___eq__ T.b_Bits___eq__ (hr.mono (by decide)) (.cons (c := .items) (ok_Items___eq__ T) T.m_Items___eq__ T.i_Items___eq__ T.b_Items___eq__ (hr.mono (by decide)) (.cons (c := .call) (ok_Call___eq__ T) T.m_Call___eq__ T.i_Call___eq__ T.b_Call___eq__ (hr.mono (by decide)) (.cons (c := .nothing) (ok_Nothing___eq__ T) T.m_Nothing___eq__ T.i_Nothing___eq__ T.b_Nothing___eq__ (hr.mono (by decide)) .nil)))))) (pe_fld (pv 0) rfl) (pe_fld (pv 1) rfl) (nomark _))))))), ?_⟩
  clear nd hr
  replace h := sp2_of h
  obtain ⟨v_self, v_other, rfl, h⟩ := h

  obtain ⟨d, e, hd, hc, he, hn, k⟩ := h
  cases hd with
  | part ob1 k1 o1 =>
    obtain ⟨dx, fs, hx, lx⟩ := ob1
    refine ⟨_, rfl, _, _, _, _, _, rfl, .own _, (KAt.vt T he).tyx, kit_isaO (KAt.vt T he).tag (T.kco .part), _, rfl, iteB (fun g => ?_) (fun g => by
      rw [eqk_cls hc (isa_cls (t := .k e) (c := .part) T g)] at k
      exact k)⟩
    have ec : e.cls = some .part := of_decide_eq_true (isa_cls (t := .k e) (c := .part) T g)
    cases he with
    | part ob2 k2 o2 =>
      obtain ⟨dy, gs, hy, ly⟩ := ob2
      rw [Kd.eqk] at k
      refine ⟨_, rfl, _, _, dx, fs, _, rfl, hx, T.cl_Part, T.n_Part_name, lx _ (List.mem_cons_self ..), _, rfl, _, _, dy, gs, _, rfl, hy, T.cl_Part, T.n_Part_name, ly _ (List.mem_cons_self ..), rfl, _, rfl, iteB (fun g0 => ?_) (fun g0 => by
        rw [dS] at g0
        rw [g0, Bool.false_and] at k
        exact k)⟩
      rw [dS] at g0
      rw [g0, Bool.true_and] at k
      exact ⟨_, rfl, _, _, dx, fs, _, rfl, hx, T.cl_Part, T.n_Part_kind, lx _ (List.mem_cons_of_mem _ (List.mem_cons_self ..)), _, rfl, _, _, dy, gs, _, rfl, hy, T.cl_Part, T.n_Part_kind, ly _ (List.mem_cons_of_mem _ (List.mem_cons_self ..)), _, _, k1, k2, iff_no (any_mem (way_any (simple_way o1))).2 (any_mem (way_any (simple_way o2))).2, (any_mem (way_any (simple_way o1))).1, nn_flat (fun _ => simple_way o1), k⟩
    | _ => cases ec
  | _ => cases hc
theorem ok_Room___init__ (T : Txt K mg A) : FnOk P w K mg base (L2.CX P w) 4 A.f_Room___init__ A.d_Room___init__ ["self", "word", "name", "kind"] (sp_Room___init__ K A) := by
  refine T.F_Room___init__.okX sc_Room___init__ (fun vs H Q E h => sp4_len h) (fun cdv A0 outer s H vs Q E hr h => ?_)
  have nd := sc_Room___init__.nd
  refine ⟨_, (pss_cons (ps_expr (by exact (pe_callS (ok_check_inner T) (hr.mono (by decide)) (by rfl) T.mg_check_inner T.k_check_inner T.b_check_inner (fun σ => passAt (W := fun cls d _ H => E cls d H) (takes_of rfl rfl rfl rfl) σ) (by exact (pa_cons (pv 1) (pa_cons (pv 2) (pa_cons (pe_or (pe_cmpR op_isN (pv 3) pe_non (nomark _)) (pe_one (pe_call (ok_is_simple T) (hr.mono (by decide)) (by rfl) T.mg_is_simple T.k_is_simple T.b_is_simple .nil pass0 (pa_cons (pv 3) pa_nil)))) pa_nil)))))))
      (pss_cons (ps_fld (pv 0) (pv 1) rfl)
      (pss_cons (ps_fld (pv 0) (pv 2) rfl)
      (pss_one (ps_fld (pv 0) (pv 3) rfl))))), ?_⟩
  clear nd hr
  replace h := sp4_of h
  obtain ⟨v_self, v_word, v_name, v_kind, rfl, h⟩ := h

  obtain ⟨H0, x, tw, tn, t, rfl, fr, vw, vn, sw, sn, ht, k⟩ := h
  refine ⟨_, rfl, _, rfl, _, rfl, rfl, _, rfl, iteB (fun g0 => ?_) (fun g0 => ?_)⟩
  · have hb : t.room = true := by unfold Td.room; rw [← th_non ht, g0]; rfl
    have q : t = .k t.kd := by
      have z : t.isNone = true := (th_non ht).symm.trans g0
      cases t with
      | k d => rfl
      | raw n => cases z
    rw [q] at ht k hb
    rw [hb] at k
    refine ⟨_, _, _, rfl, tw, tn, _, vw.keep (KK.same fr.s), vn.keep (KK.same fr.s), sw, sn, rfl, inner_go fr.s k fun ce k => ?_⟩
    obtain ⟨ew, en, et⟩ := chk_none ce
    replace et := hb.trans et
    replace fr := fr.go (fun _ _ z => z)
    obtain ⟨dx, hx⟩ := fr.at'
    refine ⟨_, rfl, _, rfl, x, _, dx, _, rfl, hx, T.cl_Room, T.n_Room_word, Nat.lt_of_le_of_lt (Nat.le_refl 0 : _ ≤ 0) (by decide : 0 < 1000), ?_⟩
    refine ⟨_, rfl, _, rfl, x, _, dx, _, rfl, upd_same, T.cl_Room, T.n_Room_name, Nat.lt_of_le_of_lt (put_len (Nat.zero_le _) : _ ≤ 1) (by decide : 1 < 1000), ?_⟩
    refine ⟨_, rfl, _, rfl, x, _, dx, _, rfl, upd_same, T.cl_Room, T.n_Room_kind, Nat.lt_of_le_of_lt (put_len (put_len (Nat.zero_le _)) : _ ≤ 2) (by decide : 2 < 1000), ?_⟩
    refine k _ (same_put fr.no (same_put fr.no (same_put fr.no fr.s))) (.room (w := strOf v_word) (n := strOf v_name) ⟨dx, _, upd_same, ?_⟩ (KAt.keep (KI.same (same_put fr.no (same_put fr.no (same_put fr.no fr.s)))) ht) et)
    rw [← ew, ← en]
    exact put3 (show ¬ (Str.ofString "word") = Str.ofString "name" by decide +kernel) (show ¬ (Str.ofString "word") = Str.ofString "kind" by decide +kernel) (show ¬ (Str.ofString "name") = Str.ofString "kind" by decide +kernel)
  have g0' : t.isNone = false := (th_non ht).symm.trans g0
  refine ⟨_, rfl, _, rfl, t, ht.keep (KI.same fr.s), fun H1 e1 => ?_⟩
  · have hb : t.room = t.simple := by unfold Td.room; rw [g0']; rfl
    rw [hb] at k
    refine ⟨_, _, _, rfl, tw, tn, _, vw.keep (KK.same (fr.s.trans e1)), vn.keep (KK.same (fr.s.trans e1)), sw, sn, rfl, inner_go (fr.s.trans e1) k fun ce k => ?_⟩
    obtain ⟨ew, en, et⟩ := chk_none ce
    replace fr := fr.go e1
    obtain ⟨dx, hx⟩ := fr.at'
    have q := any_kd et
    rw [q] at ht
    refine ⟨_, rfl, _, rfl, x, _, dx, _, rfl, hx, T.cl_Room, T.n_Room_word, Nat.lt_of_le_of_lt (Nat.le_refl 0 : _ ≤ 0) (by decide : 0 < 1000), ?_⟩
    refine ⟨_, rfl, _, rfl, x, _, dx, _, rfl, upd_same, T.cl_Room, T.n_Room_name, Nat.lt_of_le_of_lt (put_len (Nat.zero_le _) : _ ≤ 1) (by decide : 1 < 1000), ?_⟩
    refine ⟨_, rfl, _, rfl, x, _, dx, _, rfl, upd_same, T.cl_Room, T.n_Room_kind, Nat.lt_of_le_of_lt (put_len (put_len (Nat.zero_le _)) : _ ≤ 2) (by decide : 2 < 1000), ?_⟩
    refine k _ (same_put fr.no (same_put fr.no (same_put fr.no fr.s))) (.room (w := strOf v_word) (n := strOf v_name) ⟨dx, _, upd_same, ?_⟩ (KAt.keep (KI.same (same_put fr.no (same_put fr.no (same_put fr.no fr.s)))) ht) (by rw [← q]; exact hb.trans et))
    rw [← ew, ← en]
    exact put3 (show ¬ (Str.ofString "word") = Str.ofString "name" by decide +kernel) (show ¬ (Str.ofString "word") = Str.ofString "kind" by decide +kernel) (show ¬ (Str.ofString "name") = Str.ofString "kind" by decide +kernel)
theorem ok_Room___eq__ (T : Txt K mg A) : FnOk P w K mg base CX0 3 A.f_Room___eq__ A.d_Room___eq__ ["self", "other"] (sp_Room___eq__ K A) := by
  refine T.F_Room___eq__.ok sc_Room___eq__ (fun vs H Q E h => sp2_len h) (fun cdv A0 outer s H vs Q E hr h => ?_)
  have nd := sc_Room___eq__.nd
  refine ⟨_, (pss_cons (ps_if (pt_not (pt_val (pe_callB call_isi (by rfl) T.b_isinstance (by decide +kernel) (pa_cons (pv 1) (pa_cons (pe_glob (v := .ref A.c_Room) (by rfl) T.mg_Room rfl) pa_nil))))) (pss_one (ps_ret pe_bl)) pss_nil)
      (pss_one (ps_ret (pe_and (pe_cmpR op_eq (pe_fld (pv 0) rfl) (pe_fld (pv 1) rfl) (nomark _)) (pe_and (pe_cmpR op_eq (pe_fld (pv 0) rfl) (pe_fld (pv 1) rfl) (nomark _)) (pe_one (pe_cmpR (op_eqKd T (.cons (c := .num) (ok_Number___eq__ T) T.m_Number___eq__ T.i_Number___eq__ T.b_Number___eq__ (hr.mono (by decide)) (.cons (c := .bits) (ok_Bits___eq__ T) T.m_Bits___eq__ T.i_Bits___eq__ T.b_Bits___eq__ (hr.mono (by decide)) (.cons (c := .items) (ok_Items___eq__ T) T.m_Items___eq__ T.i_Items___eq__ T.b_Items___eq__ (hr.mono (by decide)) (.cons (c := .call) (ok_Call___eq__ T) T.m_Call___eq__ T.i_Call___eq__ T.b_Call___eq__ (hr.mono (by decide)) (.cons (c := .nothing) (ok_Nothing___eq__ T) T.m_Nothing___eq__ T.i_Nothing___eq__ T.b_Nothing___eq__ (hr.mono (by decide)) .nil)))))) (pe_fld (pv 0) rfl) (pe_fld (pv 1) rfl) (nomark _)))))))), ?_⟩
  clear nd hr
  replace h := sp2_of h
  obtain ⟨v_self, v_other, rfl, h⟩ := h

  obtain ⟨d, e, hd, hc, he, hn, k⟩ := h
  cases hd with
  | room ob1 k1 o1 =>
    obtain ⟨dx, fs, hx, lx⟩ := ob1
    refine ⟨_, rfl, _, _, _, _, _, rfl, .own _, (KAt.vt T he).tyx, kit_isaO (KAt.vt T he).tag (T.kco .room), _, rfl, iteB (fun g => by
      rw [eqk_cls hc (isa_cls (t := .k e) (c := .room) T (not_t g))] at k
      exact k) (fun g => ?_)⟩
    have ec : e.cls = some .room := of_decide_eq_true (isa_cls (t := .k e) (c := .room) T (not_f g))
    cases he with
    | room ob2 k2 o2 =>
      obtain ⟨dy, gs, hy, ly⟩ := ob2
      rw [Kd.eqk] at k
      refine ⟨_, rfl, _, _, dx, fs, _, rfl, hx, T.cl_Room, T.n_Room_word, lx _ (List.mem_cons_self ..), _, rfl, _, _, dy, gs, _, rfl, hy, T.cl_Room, T.n_Room_word, ly _ (List.mem_cons_self ..), rfl, _, rfl, iteB (fun g0 => ?_) (fun g0 => by
        rw [dS] at g0
        rw [g0, Bool.false_and] at k
        exact k)⟩
      rw [dS] at g0
      rw [g0, Bool.true_and] at k
      refine ⟨_, rfl, _, _, dx, fs, _, rfl, hx, T.cl_Room, T.n_Room_name, lx _ (List.mem_cons_of_mem _ (List.mem_cons_self ..)), _, rfl, _, _, dy, gs, _, rfl, hy, T.cl_Room, T.n_Room_name, ly _ (List.mem_cons_of_mem _ (List.mem_cons_self ..)), rfl, _, rfl, iteB (fun g1 => ?_) (fun g1 => by
        rw [dS] at g1
        rw [g1, Bool.false_and] at k
        exact k)⟩
      rw [dS] at g1
      rw [g1, Bool.true_and] at k
      exact ⟨_, rfl, _, _, dx, fs, _, rfl, hx, T.cl_Room, T.n_Room_kind, lx _ (List.mem_cons_of_mem _ (List.mem_cons_of_mem _ (List.mem_cons_self ..))), _, rfl, _, _, dy, gs, _, rfl, hy, T.cl_Room, T.n_Room_kind, ly _ (List.mem_cons_of_mem _ (List.mem_cons_of_mem _ (List.mem_cons_self ..))), _, _, k1, k2, iff_of hn, (fun c q => (any_mem (way_any (simple_way (room_simple o1 (by rw [q]; exact fun z => nomatch z))))).1 c q), nn_flat (fun q => simple_way (room_simple o1 q)), k⟩
    | _ => cases ec
  | _ => cases hc
theorem ok_are_parts (T : Txt K mg A) : FnOk P w K mg base CX0 1 A.f_are_parts A.d_are_parts ["parts"] (sp_are_parts K A) := by
  refine T.F_are_parts.ok sc_are_parts (fun vs H Q E h => sp1_len h) (fun cdv A0 outer s H vs Q E hr h => ?_)
  have nd := sc_are_parts.nd
  refine ⟨_, (pss_cons (ps_if (PW.pt (pw_or (pt_not (pt_val (pe_callB call_isiT (by rfl) T.b_isinstance (by decide +kernel) (pa_cons (pv 0) (pa_cons (pe_tup (pa_cons (pe_bltn (v := .ty "list") (by rfl) T.b_list (by decide +kernel) rfl) (pa_cons (pe_bltn (v := .ty "tuple") (by rfl) T.b_tuple (by decide +kernel) rfl) pa_nil))) pa_nil))))) (pw_or (pt_cmpR op_lt (pe_callB call_len (by rfl) T.b_len (by decide +kernel) (pa_cons (pv 0) pa_nil)) pe_int (nomark _)) (pw_or1 (pt_cmpR op_gt (pe_callB call_len (by rfl) T.b_len (by decide +kernel) (pa_cons (pv 0) pa_nil)) pe_int (nomark _)))))) (pss_one (ps_ret pe_bl)) pss_nil)
      (pss_cons (ps_for PassesOwn.never rfl (pi_enumA (by rfl) T.b_enumerate (pa_cons (pv 0) pa_nil)) (pg_tup (by rfl) (pgs_cons (pg_name (i := 1) nd rfl (by first | exact Or.inl rfl | exact Or.inr rfl)) (pgs_cons (pg_name (i := 2) nd rfl (by first | exact Or.inl rfl | exact Or.inr rfl)) pgs_nil))) (pss_cons (ps_if (pt_not (pt_val (pe_callB call_isiT (by rfl) T.b_isinstance (by decide +kernel) (pa_cons (pv 2) (pa_cons (pe_tup (pa_cons (pe_glob (v := .ref A.c_Part) (by rfl) T.mg_Part rfl) (pa_cons (pe_glob (v := .ref A.c_Room) (by rfl) T.mg_Room rfl) pa_nil))) pa_nil))))) (pss_one (ps_ret pe_bl)) pss_nil)
      (pss_one (ps_for PassesOwn.never rfl (pi_or (pi_list (pe_slice sl_list (pv 0) po_none (po_some (pv 1)))) (pi_tup (pe_slice sl_tupA (pv 0) po_none (po_some (pv 1))))) (pg_name (i := 3) nd rfl (by first | exact Or.inl rfl | exact Or.inr rfl)) (pss_one (ps_if (pt_cmpR op_eq (pe_fld (pv 2) rfl) (pe_fld (pv 3) rfl) (nomark _)) (pss_one (ps_ret pe_bl)) pss_nil))))))
      (pss_one (ps_ret (pe_callB call_isi (by rfl) T.b_isinstance (by decide +kernel) (pa_cons (pe_ix (ix_list.or ix_tup) (pv 0) (pe_un un_neg pe_int) (fun _ _ => rfl)) (pa_cons (pe_glob (v := .ref A.c_Part) (by rfl) T.mg_Part rfl) pa_nil))))))), ?_⟩
  clear nd hr
  replace h := sp1_of h
  obtain ⟨v_parts, rfl, h⟩ := h

  obtain ⟨o, hs, k⟩ := h
  have hv : ∃ t, VT K H v_parts t ∧ (isa t (.type "list") || (isa t (.type "tuple") || false)) = o.isSome := by
    cases hs with
    | lst e _ _ => exact ⟨_, .lst e, by rw [isa_self]; rfl⟩
    | tup e _ _ => exact ⟨_, .tup e, by rw [isa_self, isa_not (by decide) (by decide)]; rfl⟩
    | no h n1 n2 => exact ⟨_, h, by rw [isa_not n1 (by decide), isa_not n2 (by decide)]; rfl⟩
  obtain ⟨tv, hv, hb⟩ := hv
  refine ⟨_, rfl, (by show 2 ≤ sizeLine; rw [sizeLine_eq]; decide), fun p hp => ⟨_, p, _, _, _, _, rfl, upd_same, .cons (.ty _) (.cons (.ty _) .nil), (hv.keep (KK.new hp)).tyx, any_lt hv, _, rfl, iteB (fun h1 => iteY ?_) (fun h1 => ?_)⟩⟩
  · have e : o = none := by
      have z := not_t h1
      rw [hb] at z
      cases o <;> first | rfl | cases z
    subst e
    exact k _ (same_new hp)
  refine heap_gen2 (fun H1 => Same H H1) (same_new hp (o := .tup [V.ty "list", V.ty "tuple"])) fun H1 e1 => ?_
  cases hs with
  | no h n1 n2 =>
    have z := not_f h1
    rw [hb] at z
    cases z
  | @lst a vs ts ea hp2 hl =>
    replace hp2 := ths_keep (KI.same e1) hp2
    replace ea := e1 _ _ ea
    have hlen := paired_len hp2
    refine ⟨_, rfl, _, _, rfl, .inl ⟨_, SqL.of ea, rfl⟩, _, _, rfl, rfl, _, rfl, iteB (fun h2 => iteY ?_) (fun h2 => ?_)⟩
    · have z : okSeq okParts (some ts) = false := by
        show okParts ts = false
        have := of_decide_eq_true h2
        simp only [okParts, decide_eq_false (show ¬ 1 ≤ ts.length by omega), Bool.false_and]
      rw [z] at k
      exact k _ e1
    refine ⟨_, rfl, _, _, rfl, .inl ⟨_, SqL.of ea, rfl⟩, _, _, rfl, rfl, _, rfl, iteB (fun h3 => ?_) (fun h3 => ?_)⟩
    · have z : okSeq okParts (some ts) = false := by
        show okParts ts = false
        have := of_decide_eq_true h3
        simp only [okParts, decide_eq_false (show ¬ ts.length ≤ 8 by omega), Bool.false_and, Bool.and_false]
      rw [z] at k
      exact k _ e1
    have l1 : 1 ≤ ts.length := by have := of_decide_eq_false h2; omega
    have l2 : ts.length ≤ 8 := by have := of_decide_eq_false h3; omega
    have bad : goodP [] ts = false → ∀ H2, Same H H2 → Q (.bl false) H2 := fun g H2 e2 => by
      have z : okSeq okParts (some ts) = false := by
        show okParts ts = false
        simp only [okParts, g, Bool.false_and, Bool.and_false]
      rw [z] at k
      exact k H2 e2
    refine ⟨_, rfl, a, vs, rfl, .inl ⟨SqL.of ea, for_it walk_enum (fun i σ' H' => ∃ (a1 a2 a3 : Option V), σ' = [some (.ref a), a1, a2, a3] ∧ Same H1 H' ∧ goodP [] (ts.take i) = true) ⟨_, _, _, rfl, fun _ _ z => z, rfl⟩ (fun i σ' H' _ ⟨_, _, _, _, e2, _⟩ => SqL.of (e2 _ _ ea)) ?_ ?_⟩⟩
    · rintro i x σ' H' H'' hi ⟨a1, a2, a3, rfl, e2, g⟩ ⟨T1, u, z, rfl, hT, rfl, hu, hz⟩
      have hu2 := Option.some.inj hu
      subst hu2
      obtain ⟨t, ht, hx⟩ := paired_at hp2 hz
      have e3 : Same H1 (upd H' T1 (.tup [.int (i : Nat), z])) := e2.trans (same_new hT)
      refine ⟨T1, _, rfl, SqT.of upd_same, rfl, ?_⟩
      refine heap_gen2 (fun H3 => Same H1 H3) e3 fun H3 e3 => ?_
      refine ⟨_, _, rfl, _, _, rfl, rfl, ?_⟩
      have hx3 := hx.keep (KI.same e3)
      refine ⟨_, rfl, (by show 2 ≤ sizeLine; rw [sizeLine_eq]; decide), fun p4 hp4 => ⟨_, p4, _, _, _, _, rfl, upd_same, .cons (.own _) (.cons (.own _) .nil), ((hx3.keep (KI.new hp4)).vt T).tyx, any_kc T hx3 [.part, .room], _, rfl, iteB (fun g1 => ?_) (fun g1 => ?_)⟩⟩
      · exact bad (goodP_bad ht (not_t g1)) _ (e1.trans (e3.trans (same_new hp4)))
      have tw : t.pr = true := not_f g1
      refine heap_gen (fun H4 => Same H1 H4) (e3.trans (same_new hp4 (o := .tup [V.ref (A.kc .part), V.ref (A.kc .room)]))) fun H4 e4 => ?_
      have hx4 := hx.keep (KI.same e4)
      refine .inl ⟨_, rfl, _, rfl, _, rfl, a, vs, rfl, SqL.of (e4 _ _ ea), fun q hq => ?_⟩
      rw [cut_to]
      have e5 : Same H1 (upd H4 q (.lst (vs.take i))) := e4.trans (same_new hq)
      refine ⟨q, rfl, ⟨_, SqL.of upd_same⟩, ?_⟩
      have sq : SqL K (upd H4 q (.lst (vs.take i))) q (vs.take i) := SqL.of upd_same
      generalize upd H4 q (.lst (vs.take i)) = H5 at e5 sq ⊢
      refine for_it (walk_list (xs := vs.take i)) (fun j σ' H' => ∃ (a3 : Option V), σ' = [some (.ref a), some (.int (i : Nat)), some z, a3] ∧ H' = H5 ∧ ((ts.take i).take j).all (fun o => !decide (t.name = o.name)) = true) ⟨_, rfl, rfl, rfl⟩ (fun j σ' H' _ ⟨_, _, e, _⟩ => by rw [e]; exact sq) ?_ ?_
      · rintro j y σ' H' H9 _ ⟨a5, rfl, rfl, hall⟩ ⟨rfl, hj⟩
        have hj2 : vs[j]? = some y ∧ j < i := by
          rw [List.getElem?_take] at hj
          by_cases c : j < i
          · rw [if_pos c] at hj; exact ⟨hj, c⟩
          · rw [if_neg c] at hj; cases hj
        obtain ⟨o, ho, hy⟩ := paired_at hp2 hj2.1
        have ho2 : (ts.take i)[j]? = some o := by rw [List.getElem?_take, if_pos hj2.2]; exact ho
        have ow : o.pr = true := goodP_pr g o (List.mem_of_getElem? ho2)
        obtain ⟨xa, xC, xd, xf, rfl, x1, x2, x4, x6⟩ := pr_fld T (hx.keep (KI.same e5)) tw
        obtain ⟨ya, yC, yd, yf, rfl, y1, y2, y4, y6⟩ := pr_fld T (hy.keep (KI.same e5)) ow
        refine ⟨_, rfl, xa, xC, xd, xf, _, rfl, x1, x2, x4, x6, _, rfl, ya, yC, yd, yf, _, rfl, y1, y2, y4, y6, rfl, _, rfl, iteB (fun g4 => ?_) (fun g4 => ?_)⟩
        · rw [dS] at g4
          exact bad (goodP_bad2 ht (all_bad ho2 (by rw [g4]; rfl))) _ (e1.trans e5)
        · rw [dS] at g4
          exact ⟨_, rfl, rfl, all_step hall ho2 (by rw [g4]; rfl)⟩
      · rintro σ' H' ⟨a6, rfl, rfl, hall⟩
        have hlt : (vs.take i).length = (ts.take i).length := by rw [List.length_take, List.length_take, hlen]
        rw [hlt, List.take_length] at hall
        exact ⟨_, _, _, rfl, e5, goodP_step ht g tw hall⟩
    · rintro σ' H' ⟨a1, a2, a3, rfl, e2, g⟩
      rw [hlen, List.take_length] at g
      have hk : vs.length - 1 < vs.length := by omega
      have hat : atI vs (-1) = some vs[vs.length - 1] := by
        unfold atI ixN
        rw [if_neg (by decide), if_pos (by omega)]
        have : ((-1 : Int) + (vs.length : Int)).toNat = vs.length - 1 := by omega
        simp only [Option.bind_some, this]
        exact List.getElem?_eq_getElem hk
      obtain ⟨t, ht, hx⟩ := paired_at hp2 (List.getElem?_eq_getElem hk)
      have hx2 := hx.keep (KI.same e2)
      refine ⟨_, rfl, _, rfl, .inl ⟨a, vs, _, _, rfl, rfl, SqL.of (e2 _ _ ea), hat, _, _, _, _, _, rfl, .own _, (hx2.vt T).tyx, kit_isaO (hx2.vt T).tag (T.kco .part), ?_⟩⟩
      have z : okSeq okParts (some ts) = isa (t.tag A) (.ref (A.kc .part)) := by
        show okParts ts = _
        have gl : ts.getLast? = some t := by
          rw [List.getLast?_eq_getElem?, ← hlen]
          exact ht
        simp only [okParts, g, decide_eq_true l1, decide_eq_true l2, Bool.true_and, gl]
        exact (isa_kc T t .part).symm
      rw [z] at k
      exact k _ (e1.trans e2)
  | @tup a vs ts ea hp2 hl =>
    replace hp2 := ths_keep (KI.same e1) hp2
    replace ea := e1 _ _ ea
    have hlen := paired_len hp2
    refine ⟨_, rfl, _, _, rfl, .inr ⟨_, SqT.of ea, rfl⟩, _, _, rfl, rfl, _, rfl, iteB (fun h2 => iteY ?_) (fun h2 => ?_)⟩
    · have z : okSeq okParts (some ts) = false := by
        show okParts ts = false
        have := of_decide_eq_true h2
        simp only [okParts, decide_eq_false (show ¬ 1 ≤ ts.length by omega), Bool.false_and]
      rw [z] at k
      exact k _ e1
    refine ⟨_, rfl, _, _, rfl, .inr ⟨_, SqT.of ea, rfl⟩, _, _, rfl, rfl, _, rfl, iteB (fun h3 => ?_) (fun h3 => ?_)⟩
    · have z : okSeq okParts (some ts) = false := by
        show okParts ts = false
        have := of_decide_eq_true h3
        simp only [okParts, decide_eq_false (show ¬ ts.length ≤ 8 by omega), Bool.false_and, Bool.and_false]
      rw [z] at k
      exact k _ e1
    have l1 : 1 ≤ ts.length := by have := of_decide_eq_false h2; omega
    have l2 : ts.length ≤ 8 := by have := of_decide_eq_false h3; omega
    have bad : goodP [] ts = false → ∀ H2, Same H H2 → Q (.bl false) H2 := fun g H2 e2 => by
      have z : okSeq okParts (some ts) = false := by
        show okParts ts = false
        simp only [okParts, g, Bool.false_and, Bool.and_false]
      rw [z] at k
      exact k H2 e2
    refine ⟨_, rfl, a, vs, rfl, .inr ⟨SqT.of ea, for_it walk_enumT (fun i σ' H' => ∃ (a1 a2 a3 : Option V), σ' = [some (.ref a), a1, a2, a3] ∧ Same H1 H' ∧ goodP [] (ts.take i) = true) ⟨_, _, _, rfl, fun _ _ z => z, rfl⟩ (fun i σ' H' _ ⟨_, _, _, _, e2, _⟩ => SqT.of (e2 _ _ ea)) ?_ ?_⟩⟩
    · rintro i x σ' H' H'' hi ⟨a1, a2, a3, rfl, e2, g⟩ ⟨T1, u, z, rfl, hT, rfl, hu, hz⟩
      have hu2 := Option.some.inj hu
      subst hu2
      obtain ⟨t, ht, hx⟩ := paired_at hp2 hz
      have e3 : Same H1 (upd H' T1 (.tup [.int (i : Nat), z])) := e2.trans (same_new hT)
      refine ⟨T1, _, rfl, SqT.of upd_same, rfl, ?_⟩
      refine heap_gen2 (fun H3 => Same H1 H3) e3 fun H3 e3 => ?_
      refine ⟨_, _, rfl, _, _, rfl, rfl, ?_⟩
      have hx3 := hx.keep (KI.same e3)
      refine ⟨_, rfl, (by show 2 ≤ sizeLine; rw [sizeLine_eq]; decide), fun p4 hp4 => ⟨_, p4, _, _, _, _, rfl, upd_same, .cons (.own _) (.cons (.own _) .nil), ((hx3.keep (KI.new hp4)).vt T).tyx, any_kc T hx3 [.part, .room], _, rfl, iteB (fun g1 => ?_) (fun g1 => ?_)⟩⟩
      · exact bad (goodP_bad ht (not_t g1)) _ (e1.trans (e3.trans (same_new hp4)))
      have tw : t.pr = true := not_f g1
      refine heap_gen (fun H4 => Same H1 H4) (e3.trans (same_new hp4 (o := .tup [V.ref (A.kc .part), V.ref (A.kc .room)]))) fun H4 e4 => ?_
      have hx4 := hx.keep (KI.same e4)
      refine .inr ⟨_, rfl, _, rfl, _, rfl, a, vs, rfl, SqT.of (e4 _ _ ea), fun w => absurd w (cut_tup hi), fun _ q hq => ?_⟩
      rw [cut_to]
      have e5 : Same H1 (upd H4 q (.tup (vs.take i))) := e4.trans (same_new hq)
      refine ⟨q, rfl, ⟨_, SqT.of upd_same⟩, ?_⟩
      have sq : SqT K (upd H4 q (.tup (vs.take i))) q (vs.take i) := SqT.of upd_same
      generalize upd H4 q (.tup (vs.take i)) = H5 at e5 sq ⊢
      refine for_it (walk_tup (xs := vs.take i)) (fun j σ' H' => ∃ (a3 : Option V), σ' = [some (.ref a), some (.int (i : Nat)), some z, a3] ∧ H' = H5 ∧ ((ts.take i).take j).all (fun o => !decide (t.name = o.name)) = true) ⟨_, rfl, rfl, rfl⟩ (fun j σ' H' _ ⟨_, _, e, _⟩ => by rw [e]; exact sq) ?_ ?_
      · rintro j y σ' H' H9 _ ⟨a5, rfl, rfl, hall⟩ ⟨rfl, hj⟩
        have hj2 : vs[j]? = some y ∧ j < i := by
          rw [List.getElem?_take] at hj
          by_cases c : j < i
          · rw [if_pos c] at hj; exact ⟨hj, c⟩
          · rw [if_neg c] at hj; cases hj
        obtain ⟨o, ho, hy⟩ := paired_at hp2 hj2.1
        have ho2 : (ts.take i)[j]? = some o := by rw [List.getElem?_take, if_pos hj2.2]; exact ho
        have ow : o.pr = true := goodP_pr g o (List.mem_of_getElem? ho2)
        obtain ⟨xa, xC, xd, xf, rfl, x1, x2, x4, x6⟩ := pr_fld T (hx.keep (KI.same e5)) tw
        obtain ⟨ya, yC, yd, yf, rfl, y1, y2, y4, y6⟩ := pr_fld T (hy.keep (KI.same e5)) ow
        refine ⟨_, rfl, xa, xC, xd, xf, _, rfl, x1, x2, x4, x6, _, rfl, ya, yC, yd, yf, _, rfl, y1, y2, y4, y6, rfl, _, rfl, iteB (fun g4 => ?_) (fun g4 => ?_)⟩
        · rw [dS] at g4
          exact bad (goodP_bad2 ht (all_bad ho2 (by rw [g4]; rfl))) _ (e1.trans e5)
        · rw [dS] at g4
          exact ⟨_, rfl, rfl, all_step hall ho2 (by rw [g4]; rfl)⟩
      · rintro σ' H' ⟨a6, rfl, rfl, hall⟩
        have hlt : (vs.take i).length = (ts.take i).length := by rw [List.length_take, List.length_take, hlen]
        rw [hlt, List.take_length] at hall
        exact ⟨_, _, _, rfl, e5, goodP_step ht g tw hall⟩
    · rintro σ' H' ⟨a1, a2, a3, rfl, e2, g⟩
      rw [hlen, List.take_length] at g
      have hk : vs.length - 1 < vs.length := by omega
      have hat : atI vs (-1) = some vs[vs.length - 1] := by
        unfold atI ixN
        rw [if_neg (by decide), if_pos (by omega)]
        have : ((-1 : Int) + (vs.length : Int)).toNat = vs.length - 1 := by omega
        simp only [Option.bind_some, this]
        exact List.getElem?_eq_getElem hk
      obtain ⟨t, ht, hx⟩ := paired_at hp2 (List.getElem?_eq_getElem hk)
      have hx2 := hx.keep (KI.same e2)
      refine ⟨_, rfl, _, rfl, .inr ⟨a, vs, _, _, rfl, rfl, SqT.of (e2 _ _ ea), hat, _, _, _, _, _, rfl, .own _, (hx2.vt T).tyx, kit_isaO (hx2.vt T).tag (T.kco .part), ?_⟩⟩
      have z : okSeq okParts (some ts) = isa (t.tag A) (.ref (A.kc .part)) := by
        show okParts ts = _
        have gl : ts.getLast? = some t := by
          rw [List.getLast?_eq_getElem?, ← hlen]
          exact ht
        simp only [okParts, g, decide_eq_true l1, decide_eq_true l2, Bool.true_and, gl]
        exact (isa_kc T t .part).symm
      rw [z] at k
      exact k _ (e1.trans e2)
theorem ok_Row___init__ (T : Txt K mg A) : FnOk P w K mg base (L2.CX P w) 3 A.f_Row___init__ A.d_Row___init__ ["self", "parts"] (sp_Row___init__ K A) := by
  refine T.F_Row___init__.okX sc_Row___init__ (fun vs H Q E h => sp2_len h) (fun cdv A0 outer s H vs Q E hr h => ?_)
  have nd := sc_Row___init__.nd
  refine ⟨_, (pss_cons (ps_if (pt_not (pt_val (pe_call (ok_are_parts T) (hr.mono (by decide)) (by rfl) T.mg_are_parts T.k_are_parts T.b_are_parts .nil pass0 (pa_cons (pv 1) pa_nil)))) (pss_one (ps_raise rfl (takes_of rfl rfl rfl rfl) (pmk_oex T.oex_BadKind T.ix_BadKind T.tx_BadKind (ok_BadKind___init__ T) (hr.mono (by decide)) T.b_BadKind___init__ .nil pass0 (by rfl) T.mg_BadKind (pa_cons pe_str pa_nil)))) pss_nil)
      (pss_one (ps_fld (pv 0) (pe_callTy call_tuple_of (by rfl) T.b_tuple (by decide +kernel) (pa_cons (pv 1) pa_nil)) rfl))), ?_⟩
  clear nd hr
  replace h := sp2_of h
  obtain ⟨v_self, v_parts, rfl, h⟩ := h

  obtain ⟨H0, x, o, rfl, fr, hs, k⟩ := h
  refine ⟨_, rfl, _, rfl, o, hs.keep fr.s, fun H1 e1 => ⟨_, rfl, iteB (fun h1 => ?_) (fun h1 => ?_)⟩⟩
  · rw [show mkSeq .row okParts "parts" o = .error "parts" by
      have z := not_t h1
      cases o with
      | none => rfl
      | some ts => exact if_pos z] at k
    exact raise_bad (fr.s.trans e1) k
  replace h1 := not_f h1
  cases hs with
  | no _ _ _ => cases h1
  | @lst a vs ts ea hp hl =>
    have z : okParts ts = true := h1
    rw [show mkSeq .row okParts "parts" (some ts) = .ok (.row (ts.map Td.kd)) from if_neg (by rw [z]; decide)] at k
    replace fr := fr.go e1
    obtain ⟨dx, hx⟩ := fr.at'
    refine ⟨_, rfl, a, vs, rfl, .inl ⟨SqL.of (fr.s _ _ ea), fun q hq => ?_⟩⟩
    have nq : q ≠ x := fun z => by rw [z, hx] at hq; cases hq
    refine ⟨_, rfl, x, _, dx, _, rfl, (by rw [upd_ne nq.symm]; exact hx), T.cl_Row, T.n_Row_parts, Nat.lt_of_le_of_lt (Nat.le_refl 0 : _ ≤ 0) (by decide : 0 < 1000), ?_⟩
    have e4 : ∀ o, Same H0 (upd (upd H1 q (.tup vs)) x o) := fun o => same_put fr.no (fr.s.trans (same_new hq))
    have gw := goodP_pr (okParts_good z)
    refine k _ (e4 _) (.row ⟨dx, _, upd_same, put1⟩ (by rw [upd_ne nq]; exact upd_same) (KAts.keep (KI.same (e4 _)) (kats_of hp fun t ht => any_kd (gw t ht))) ?_)
    intro y hy
    obtain ⟨t, ht, rfl⟩ := List.mem_map.mp hy
    have q2 := any_kd (gw t ht)
    rw [← q2]
    exact gw t ht
  | @tup a vs ts ea hp hl =>
    have z : okParts ts = true := h1
    rw [show mkSeq .row okParts "parts" (some ts) = .ok (.row (ts.map Td.kd)) from if_neg (by rw [z]; decide)] at k
    replace fr := fr.go e1
    obtain ⟨dx, hx⟩ := fr.at'
    refine ⟨_, rfl, a, vs, rfl, .inr ⟨SqT.of (fr.s _ _ ea), ?_⟩⟩
    have nq : a ≠ x := fun z => by rw [z, fr.no] at ea; cases ea
    refine ⟨_, rfl, x, _, dx, _, rfl, hx, T.cl_Row, T.n_Row_parts, Nat.lt_of_le_of_lt (Nat.le_refl 0 : _ ≤ 0) (by decide : 0 < 1000), ?_⟩
    have e4 : ∀ o, Same H0 (upd H1 x o) := fun o => same_put fr.no fr.s
    have gw := goodP_pr (okParts_good z)
    refine k _ (e4 _) (.row ⟨dx, _, upd_same, put1⟩ (by rw [upd_ne nq]; exact fr.s _ _ ea) (KAts.keep (KI.same (e4 _)) (kats_of hp fun t ht => any_kd (gw t ht))) ?_)
    intro y hy
    obtain ⟨t, ht, rfl⟩ := List.mem_map.mp hy
    have q2 := any_kd (gw t ht)
    rw [← q2]
    exact gw t ht
theorem ok__law_is_int (T : Txt K mg A) : FnOk P w K mg base CX0 1 A.f__law_is_int A.d__law_is_int ["told"] (sp__law_is_int K A) := by
  refine T.F__law_is_int.ok sc__law_is_int (fun vs H Q E h => sp1_len h) (fun cdv A0 outer s H vs Q E hr h => ?_)
  have nd := sc__law_is_int.nd
  refine ⟨_, (pss_one (ps_ret (pe_and (pe_callB call_isi (by rfl) T.b_isinstance (by decide +kernel) (pa_cons (pv 0) (pa_cons (pe_bltn (v := .ty "int") (by rfl) T.b_int (by decide +kernel) rfl) pa_nil))) (pe_one (pe_not (pe_callB call_isi (by rfl) T.b_isinstance (by decide +kernel) (pa_cons (pv 0) (pa_cons (pe_bltn (v := .ty "bool") (by rfl) T.b_bool (by decide +kernel) rfl) pa_nil)))))))), ?_⟩
  clear nd hr
  replace h := sp1_of h
  obtain ⟨v_told, rfl, h⟩ := h

  obtain ⟨t, hv, k⟩ := h
  rw [isI_of hv] at k
  refine ⟨_, rfl, _, _, _, _, _, rfl, .ty _, hv.tyx, kit_isa hv.tag (by decide), _, rfl, iteB (fun h1 => ?_) (fun h1 => ?_)⟩
  · refine ⟨_, rfl, _, _, _, _, _, rfl, .ty _, hv.tyx, kit_isa hv.tag (by decide), _, rfl, ?_⟩
    rw [h1, Bool.true_and] at k
    exact k
  · rw [h1, Bool.false_and] at k
    exact k
theorem ok__law_same0 (T : Txt K mg A) : FnOk P w K mg base CX0 2 A.f__law_same A.d__law_same ["told", "due"] (sp__law_same0 K A) := by
  refine T.F__law_same.ok sc__law_same (fun vs H Q E h => sp2_len h) (fun cdv A0 outer s H vs Q E hr h => ?_)
  have nd := sc__law_same.nd
  refine ⟨_, (pss_cons (ps_if (pt_cmpR op_isN (pv 1) pe_non (nomark _)) (pss_one (ps_ret (pe_cmpR op_isN (pv 0) pe_non (nomark _)))) pss_nil)
      (pss_cons (ps_if (pt_val (pe_callB call_isi (by rfl) T.b_isinstance (by decide +kernel) (pa_cons (pv 1) (pa_cons (pe_bltn (v := .ty "bool") (by rfl) T.b_bool (by decide +kernel) rfl) pa_nil)))) (pss_one (ps_ret (pe_and (pe_callB call_isi (by rfl) T.b_isinstance (by decide +kernel) (pa_cons (pv 0) (pa_cons (pe_bltn (v := .ty "bool") (by rfl) T.b_bool (by decide +kernel) rfl) pa_nil))) (pe_one (pe_cmpR op_eq (pv 0) (pv 1) (nomark _)))))) pss_nil)
      (pss_cons (ps_if (pt_val (pe_callB call_isi (by rfl) T.b_isinstance (by decide +kernel) (pa_cons (pv 1) (pa_cons (pe_bltn (v := .ty "int") (by rfl) T.b_int (by decide +kernel) rfl) pa_nil)))) (pss_one (ps_ret (pe_and (pe_call (ok__law_is_int T) (hr.mono (by decide)) (by rfl) T.mg__law_is_int T.k__law_is_int T.b__law_is_int .nil pass0 (pa_cons (pv 0) pa_nil)) (pe_one (pe_cmpR op_eq (pv 0) (pv 1) (nomark _)))))) pss_nil)
      (pss_cons (ps_if (pt_val (pe_callB call_isi (by rfl) T.b_isinstance (by decide +kernel) (pa_cons (pv 1) (pa_cons (pe_bltn (v := .ty "str") (by rfl) T.b_str (by decide +kernel) rfl) pa_nil)))) (pss_one (ps_ret (pe_and (pe_callB call_isi (by rfl) T.b_isinstance (by decide +kernel) (pa_cons (pv 0) (pa_cons (pe_bltn (v := .ty "str") (by rfl) T.b_str (by decide +kernel) rfl) pa_nil))) (pe_one (pe_cmpR op_eq (pv 0) (pv 1) (nomark _)))))) pss_nil)
      pss_never)))), ?_⟩
  clear nd hr
  replace h := sp2_of h
  obtain ⟨v_told, v_due, rfl, h⟩ := h

  obtain ⟨rfl, ha, k⟩ := h
  cases v_told with
  | non => exact ⟨_, rfl, rfl, _, rfl, iteB (fun _ => ⟨_, rfl, rfl, k⟩) (fun z => nomatch z)⟩
  | int i =>
    have hv : VT K H (.int i) (.type "int") := .int i
    refine ⟨_, rfl, rfl, _, rfl, iteB (fun z => nomatch z) (fun _ => ?_)⟩
    refine ⟨_, rfl, _, _, _, _, _, rfl, .ty _, hv.tyx, kit_isa hv.tag (by decide), _, rfl, iteB (fun z => absurd z (by decide)) (fun _ => ?_)⟩
    refine ⟨_, rfl, _, _, _, _, _, rfl, .ty _, hv.tyx, kit_isa hv.tag (by decide), _, rfl, iteB (fun _ => ?_) (fun z => absurd z (by decide))⟩
    refine ⟨_, rfl, _, rfl, _, hv, _, rfl, iteB (fun _ => ⟨_, rfl, _, rfl, rfl, ?_⟩) (fun z => nomatch z)⟩
    rw [decide_eq_true rfl]
    exact k
  | str x =>
    have hv : VT K H (.str x) (.type "str") := .str x
    refine ⟨_, rfl, rfl, _, rfl, iteB (fun z => nomatch z) (fun _ => ?_)⟩
    refine ⟨_, rfl, _, _, _, _, _, rfl, .ty _, hv.tyx, kit_isa hv.tag (by decide), _, rfl, iteB (fun z => absurd z (by decide)) (fun _ => ?_)⟩
    refine ⟨_, rfl, _, _, _, _, _, rfl, .ty _, hv.tyx, kit_isa hv.tag (by decide), _, rfl, iteB (fun z => absurd z (by decide)) (fun _ => ?_)⟩
    refine ⟨_, rfl, _, _, _, _, _, rfl, .ty _, hv.tyx, kit_isa hv.tag (by decide), _, rfl, iteB (fun _ => ?_) (fun z => absurd z (by decide))⟩
    refine ⟨_, rfl, _, _, _, _, _, rfl, .ty _, hv.tyx, kit_isa hv.tag (by decide), _, rfl, iteB (fun _ => ⟨_, rfl, _, rfl, rfl, ?_⟩) (fun z => absurd z (by decide))⟩
    rw [decide_eq_true rfl]
    exact k
  | _ => exact ha.elim
theorem ok__law_same (T : Txt K mg A) : FnOk P w K mg base CX0 3 A.f__law_same A.d__law_same ["told", "due"] (sp__law_same K A) := by
  refine T.F__law_same.ok sc__law_same (fun vs H Q E h => sp2_len h) (fun cdv A0 outer s H vs Q E hr h => ?_)
  have nd := sc__law_same.nd
  refine ⟨_, (pss_cons (ps_if (pt_cmpR op_isN (pv 1) pe_non (nomark _)) (pss_one (ps_ret (pe_cmpR op_isN (pv 0) pe_non (nomark _)))) pss_nil)
      (pss_cons (ps_if (pt_val (pe_callB call_isi (by rfl) T.b_isinstance (by decide +kernel) (pa_cons (pv 1) (pa_cons (pe_bltn (v := .ty "bool") (by rfl) T.b_bool (by decide +kernel) rfl) pa_nil)))) (pss_one (ps_ret (pe_and (pe_callB call_isi (by rfl) T.b_isinstance (by decide +kernel) (pa_cons (pv 0) (pa_cons (pe_bltn (v := .ty "bool") (by rfl) T.b_bool (by decide +kernel) rfl) pa_nil))) (pe_one (pe_cmpR op_eq (pv 0) (pv 1) (nomark _)))))) pss_nil)
      (pss_cons (ps_if (pt_val (pe_callB call_isi (by rfl) T.b_isinstance (by decide +kernel) (pa_cons (pv 1) (pa_cons (pe_bltn (v := .ty "int") (by rfl) T.b_int (by decide +kernel) rfl) pa_nil)))) (pss_one (ps_ret (pe_and (pe_call (ok__law_is_int T) (hr.mono (by decide)) (by rfl) T.mg__law_is_int T.k__law_is_int T.b__law_is_int .nil pass0 (pa_cons (pv 0) pa_nil)) (pe_one (pe_cmpR op_eq (pv 0) (pv 1) (nomark _)))))) pss_nil)
      (pss_cons (ps_if (pt_val (pe_callB call_isi (by rfl) T.b_isinstance (by decide +kernel) (pa_cons (pv 1) (pa_cons (pe_bltn (v := .ty "str") (by rfl) T.b_str (by decide +kernel) rfl) pa_nil)))) (pss_one (ps_ret (pe_and (pe_callB call_isi (by rfl) T.b_isinstance (by decide +kernel) (pa_cons (pv 0) (pa_cons (pe_bltn (v := .ty "str") (by rfl) T.b_str (by decide +kernel) rfl) pa_nil))) (pe_one (pe_cmpR op_eq (pv 0) (pv 1) (nomark _)))))) pss_nil)
      (pss_cons (ps_if (pt_val (pe_callB call_isi (by rfl) T.b_isinstance (by decide +kernel) (pa_cons (pv 1) (pa_cons (pe_bltn (v := .ty "dict") (by rfl) T.b_dict (by decide +kernel) rfl) pa_nil)))) (pss_one ps_never) pss_nil)
      (pss_cons (ps_if (PW.pt (pw_and (pt_val (pe_callB call_isi (by rfl) T.b_isinstance (by decide +kernel) (pa_cons (pv 1) (pa_cons (pe_bltn (v := .ty "list") (by rfl) T.b_list (by decide +kernel) rfl) pa_nil)))) (pw_and1 (pt_not (pt_val (pe_callB call_isi (by rfl) T.b_isinstance (by decide +kernel) (pa_cons (pv 0) (pa_cons (pe_bltn (v := .ty "list") (by rfl) T.b_list (by decide +kernel) rfl) pa_nil)))))))) (pss_one (ps_ret pe_bl)) pss_nil)
      (pss_cons (ps_if (PW.pt (pw_and (pt_val (pe_callB call_isi (by rfl) T.b_isinstance (by decide +kernel) (pa_cons (pv 1) (pa_cons (pe_bltn (v := .ty "tuple") (by rfl) T.b_tuple (by decide +kernel) rfl) pa_nil)))) (pw_and1 (pt_not (pt_val (pe_callB call_isi (by rfl) T.b_isinstance (by decide +kernel) (pa_cons (pv 0) (pa_cons (pe_bltn (v := .ty "tuple") (by rfl) T.b_tuple (by decide +kernel) rfl) pa_nil)))))))) (pss_one (ps_ret pe_bl)) pss_nil)
      (pss_cons (ps_if (pt_cmpR op_ne (pe_callB call_len (by rfl) T.b_len (by decide +kernel) (pa_cons (pv 0) pa_nil)) (pe_callB call_len (by rfl) T.b_len (by decide +kernel) (pa_cons (pv 1) pa_nil)) (nomark _)) (pss_one (ps_ret pe_bl)) pss_nil)
      (pss_cons (ps_for PassesOwn.never rfl (pi_range1 (by rfl) T.b_range (pa_cons (pe_callB call_len (by rfl) T.b_len (by decide +kernel) (pa_cons (pv 1) pa_nil)) pa_nil)) (pg_name (i := 2) nd rfl (by first | exact Or.inl rfl | exact Or.inr rfl)) (pss_one (ps_if (pt_not (pt_val (pe_call (ok__law_same0 T) (hr.mono (by decide)) (by rfl) T.mg__law_same T.k__law_same T.b__law_same .nil pass0 (pa_cons (pe_ix ix_tup (pv 0) (pv 2) (fun _ _ => rfl)) (pa_cons (pe_ix ix_tup (pv 1) (pv 2) (fun _ _ => rfl)) pa_nil))))) (pss_one (ps_ret pe_bl)) pss_nil)))
      (pss_one (ps_ret pe_bl))))))))))), ?_⟩
  clear nd hr
  replace h := sp2_of h
  obtain ⟨v_told, v_due, rfl, h⟩ := h

  obtain ⟨p, q, xs, rfl, rfl, hp, hq0, ha, hl, k⟩ := h
  have hq : VT K H (.ref q) (.type "tuple") := .tup hq0
  have hpt : VT K H (.ref p) (.type "tuple") := .tup hp
  refine ⟨_, rfl, rfl, _, rfl, iteB (fun z => nomatch z) (fun _ => ?_)⟩
  refine ⟨_, rfl, _, _, _, _, _, rfl, .ty _, hq.tyx, kit_isa hq.tag (by decide), _, rfl, iteB (fun z => absurd z (by decide)) (fun _ => ?_)⟩
  refine ⟨_, rfl, _, _, _, _, _, rfl, .ty _, hq.tyx, kit_isa hq.tag (by decide), _, rfl, iteB (fun z => absurd z (by decide)) (fun _ => ?_)⟩
  refine ⟨_, rfl, _, _, _, _, _, rfl, .ty _, hq.tyx, kit_isa hq.tag (by decide), _, rfl, iteB (fun z => absurd z (by decide)) (fun _ => ?_)⟩
  refine ⟨_, rfl, _, _, _, _, _, rfl, .ty _, hq.tyx, kit_isa hq.tag (by decide), _, rfl, iteB (fun z => absurd z (by decide)) (fun _ => ?_)⟩
  refine ⟨_, rfl, _, _, _, _, _, rfl, .ty _, hq.tyx, kit_isa hq.tag (by decide), _, rfl, iteB (fun z => absurd z (by decide)) (fun _ => iteF ?_)⟩
  refine ⟨_, rfl, _, _, _, _, _, rfl, .ty _, hq.tyx, kit_isa hq.tag (by decide), _, rfl, iteB (fun _ => ?_) (fun z => absurd z (by decide))⟩
  refine ⟨_, rfl, _, _, _, _, _, rfl, .ty _, hpt.tyx, kit_isa hpt.tag (by decide), _, rfl, iteB (fun z => absurd z (by decide)) (fun _ => ?_)⟩
  refine ⟨_, rfl, _, _, rfl, .inr ⟨_, SqT.of hp, rfl⟩, _, rfl, _, _, rfl, .inr ⟨_, SqT.of hq0, rfl⟩, rfl, _, rfl, iteB (fun z => ?_) (fun _ => ?_)⟩
  · rw [decide_eq_true rfl] at z
    cases z
  refine ⟨_, rfl, _, _, rfl, .inr ⟨_, SqT.of hq0, rfl⟩, xs.length, rfl, by omega, by omega, for_range (n := xs.length) (fun i σ' H' => ∃ kv : Option V, σ' = [some (.ref p), some (.ref q), kv] ∧ H' = H) ⟨_, rfl, rfl⟩ ?_ ?_⟩
  · rintro i σ' H' hi ⟨kv, rfl, rfl⟩
    have hat : atI xs (i : Int) = some xs[i] := atI_nat (by simp [hi])
    refine ⟨_, rfl, _, rfl, _, _, _, _, rfl, rfl, SqT.of hp, (by rw [Int.zero_add]; exact hat), _, rfl, _, rfl, _, _, _, _, rfl, rfl, SqT.of hq0, (by rw [Int.zero_add]; exact hat), _, _, rfl, rfl, ha _ (List.getElem_mem hi), _, rfl, iteB (fun z => nomatch z) (fun _ => ⟨_, rfl, rfl⟩)⟩
  · rintro σ' H' ⟨kv, rfl, rfl⟩
    exact k
theorem ok__law_start (T : Txt K mg A) : FnOk P w K mg base CX0 1 A.f__law_start A.d__law_start ["script"] (sp__law_start K A) := by
  refine T.F__law_start.ok sc__law_start (fun vs H Q E h => sp1_len h) (fun cdv A0 outer s H vs Q E hr h => ?_)
  have nd := sc__law_start.nd
  refine ⟨_, (pss_one (ps_ret (pe_lst (pa_cons (pe_callTy call_list_of (by rfl) T.b_list (by decide +kernel) (pa_cons (pv 0) pa_nil)) (pa_cons pe_int (pa_cons pe_int (pa_cons pe_int pa_nil))))))), ?_⟩
  clear nd hr
  replace h := sp1_of h
  obtain ⟨v_script, rfl, h⟩ := h

  obtain ⟨l, ns, rfl, hl, hn, k⟩ := h
  refine ⟨_, rfl, l, _, rfl, .inl hl, fun q hq => ⟨by show 4 ≤ sizeLine; rw [sizeLine_eq]; decide, fun p hp => ?_⟩⟩
  have nqp : q ≠ p := fun z => by rw [← z, upd_same] at hp; cases hp
  have hp0 : H p = none := by rw [upd_ne nqp.symm] at hp; exact hp
  refine k ⟨p, q, ns⟩ _ hp0 hq (fun b u e => ?_) ⟨0, 0, 1234577, nqp, upd_same, ?_, Nat.zero_le _, hn, by decide, by decide, by decide⟩
  · rw [upd_ne (ne_of_none e hp0), upd_ne (ne_of_none e hq)]
    exact e
  · show upd _ p _ q = _
    rw [upd_ne nqp, upd_same]
theorem ok__law_pull (T : Txt K mg A) : FnOk P w K mg base CX0 1 A.f__law_pull A.d__law_pull ["state", "many"] (sp__law_pull K A) := by
  refine T.F__law_pull.ok sc__law_pull (fun vs H Q E h => sp2_len h) (fun cdv A0 outer s H vs Q E hr h => ?_)
  have nd := sc__law_pull.nd
  refine ⟨_, (Evl.pss_cut (ps_if (PW.pt (pw_and (pt_cmpR op_eq (pe_ix ix_list (pv 0) pe_int (fun _ _ => rfl)) pe_int (nomark _)) (pw_and1 (pt_cmpR op_lt (pe_ix ix_list (pv 0) pe_int (fun _ _ => rfl)) (pe_callB call_len (by rfl) T.b_len (by decide +kernel) (pa_cons (pe_ix ix_list (pv 0) pe_int (fun _ _ => rfl)) pa_nil)) (nomark _))))) (pss_cons (ps_set (i := 2) nd rfl (by first | exact Or.inl rfl | exact Or.inr rfl) (pe_ix ix_list (pe_ix ix_list (pv 0) pe_int (fun _ _ => rfl)) (pe_ix ix_list (pv 0) pe_int (fun _ _ => rfl)) (fun _ _ => rfl)))
      (pss_cons (ps_asg (pe_op op_add (pe_ix ix_list (pv 0) pe_int (fun _ _ => rfl)) pe_int) (pg_sub (pv 0) pe_int set_list))
      (pss_one (ps_if (pt_cmpR op_ge (pv 2) (pe_op op_pow pe_int pe_int) (nomark _)) (pss_one (ps_asg (pv 2) (pg_sub (pv 0) pe_int set_list))) (pss_one (ps_asg (pe_op op_mod (pe_callTy call_int1 (by rfl) T.b_int (by decide +kernel) (pa_cons (pe_op op_add (pe_op op_add (pe_op op_mul (pe_ix ix_list (pv 0) pe_int (fun _ _ => rfl)) pe_int) (pe_op op_mod (pe_callTy call_int1 (by rfl) T.b_int (by decide +kernel) (pa_cons (pv 2) pa_nil)) pe_int)) pe_int) pa_nil)) pe_int) (pg_sub (pv 0) pe_int set_list))))))) pss_nil)
      (pss_cons (ps_if (pt_cmpR op_gt (pe_ix ix_list (pv 0) pe_int (fun _ _ => rfl)) pe_int (nomark _)) (pss_cons (ps_set (i := 3) nd rfl (by first | exact Or.inl rfl | exact Or.inr rfl) (pe_op op_mod (pe_callTy call_int1 (by rfl) T.b_int (by decide +kernel) (pa_cons (pe_ix ix_list (pv 0) pe_int (fun _ _ => rfl)) pa_nil)) (pv 1)))
      (pss_cons (ps_asg (pe_op op_fdivW (pe_ix ix_list (pv 0) pe_int (fun _ _ => rfl)) (pv 1)) (pg_sub (pv 0) pe_int set_list))
      (pss_one (ps_ret (pv 3))))) pss_nil)
      (pss_cons (ps_asg (pe_op op_mod (pe_callTy call_int1 (by rfl) T.b_int (by decide +kernel) (pa_cons (pe_op op_add (pe_op op_mul (pe_ix ix_list (pv 0) pe_int (fun _ _ => rfl)) pe_int) pe_int) pa_nil)) pe_int) (pg_sub (pv 0) pe_int set_list))
      (pss_cons (ps_set (i := 3) nd rfl (by first | exact Or.inl rfl | exact Or.inr rfl) (pe_op op_mod (pe_callTy call_int1 (by rfl) T.b_int (by decide +kernel) (pa_cons (pe_op op_add (pe_op op_mul (pe_ix ix_list (pv 0) pe_int (fun _ _ => rfl)) pe_int) (pe_op op_fdivW (pe_ix ix_list (pv 0) pe_int (fun _ _ => rfl)) pe_int)) pa_nil)) pe_int))
      (pss_one (ps_ret (pe_op op_mod (pe_callTy call_int1 (by rfl) T.b_int (by decide +kernel) (pa_cons (pe_op op_fdivW (pv 3) pe_int) pa_nil)) (pv 1)))))))), ?_⟩
  clear nd hr
  replace h := sp2_of h
  obtain ⟨v_state, v_many, rfl, h⟩ := h

  obtain ⟨d, many, rfl, rfl, ⟨i, c, s, R⟩, hm, hlog, k⟩ := h
  refine ⟨fun σ' H' => ∃ (v : Option V) (j : Nat) (x t : Int), σ' = [some (.ref d.p), some (.int many), v, none] ∧ Chg d H H' ∧ RngL H' d j x t, ?_, ?_⟩
  · refine ⟨_, rfl, _, _, _, _, rfl, rfl, SqL.of R.st, rfl, rfl, _, rfl, ?_⟩
    refine ite2 (fun hc0 => ?_) (fun _ => iteF ⟨none, i, c, s, rfl, Chg.refl, R⟩)
    refine ⟨_, rfl, _, _, _, _, rfl, rfl, SqL.of R.st, rfl, _, rfl, _, _, _, _, rfl, rfl, SqL.of R.st, rfl, _, _, rfl, .inl ⟨_, SqL.of R.ls, rfl⟩, _, _, rfl, rfl, _, rfl, ?_⟩
    refine ite2 (fun hlt => ?_) (fun _ => ⟨none, i, c, s, rfl, Chg.refl, R⟩)
    have hi : i < d.ns.length := by
      have q := of_decide_eq_true hlt
      rw [List.length_map] at q
      omega
    have hat : atI (d.ns.map V.int) (i : Int) = some (.int d.ns[i]) := atI_nat (by simp [hi])
    refine ⟨_, rfl, _, _, _, _, rfl, rfl, SqL.of R.st, rfl, _, rfl, _, _, _, _, rfl, rfl, SqL.of R.st, rfl, _, _, _, _, rfl, rfl, SqL.of R.ls, hat, ?_⟩
    refine ⟨_, rfl, _, _, _, _, rfl, rfl, SqL.of R.st, rfl, _, _, rfl, rfl, _, rfl, _, _, _, _, rfl, rfl, R.st, rfl, ?_⟩
    have R1 : RngL (upd H d.p (.lst [.ref d.l, .int ((i + 1 : Nat) : Int), .int c, .int s])) d (i + 1) c s := R.set hi R.hc R.hs R.hs2
    have e1 : Chg d H (upd H d.p (.lst [.ref d.l, .int ((i + 1 : Nat) : Int), .int c, .int s])) := Chg.upd
    refine heap_gen (fun H1 => RngL H1 d (i + 1) c s ∧ Chg d H H1) ⟨R1, e1⟩ fun H1 ⟨R1, e1⟩ => ?_
    refine ⟨_, rfl, _, _, rfl, rfl, ⟨by decide, by decide, by decide⟩, _, _, rfl, rfl, _, rfl, ?_⟩
    refine ite2 (fun hge => ?_) (fun _ => ?_)
    · have h0 : 0 ≤ d.ns[i] := by
        have q := of_decide_eq_true hge
        have e : ((10 : Int) ^ ((18 : Int).toNat)) = 1000000000000000000 := by decide
        rw [e] at q
        omega
      refine ⟨_, rfl, _, rfl, _, _, _, _, rfl, rfl, R1.st, rfl, ?_⟩
      exact ⟨_, i + 1, d.ns[i], s, rfl, e1.trans Chg.upd, R1.set R1.hi h0 R1.hs R1.hs2⟩
    · refine ⟨_, rfl, _, _, _, _, rfl, rfl, SqL.of R1.st, rfl, _, _, rfl, rfl, .inl ⟨by have := R1.hs; omega, by have := R1.hs2; omega⟩, _, rfl, .inl ⟨_, rfl, _, _, rfl, rfl, pos_ (by decide), _, _, rfl, rfl, _, _, rfl, rfl, .inl ⟨_, rfl, _, _, rfl, rfl, pos_ (by decide), ?_⟩⟩⟩
      refine ⟨_, rfl, _, _, _, _, rfl, rfl, R1.st, rfl, ?_⟩
      exact ⟨_, i + 1, c, _, rfl, e1.trans Chg.upd, R1.set R1.hi R1.hc (Int.emod_nonneg _ (by decide)) (Int.emod_lt_of_pos _ (by decide))⟩
  · rintro σ' H' ⟨v, j, x, t, rfl, e1, R1⟩
    refine ⟨_, rfl, _, _, _, _, rfl, rfl, SqL.of R1.st, rfl, _, _, rfl, rfl, _, rfl, ?_⟩
    refine ite2 (fun hd => ?_) (fun _ => ?_)
    · refine ⟨_, rfl, _, _, _, _, rfl, rfl, SqL.of R1.st, rfl, .inl ⟨_, rfl, _, rfl, _, _, rfl, rfl, hm, ?_⟩⟩
      refine ⟨_, rfl, _, _, _, _, rfl, rfl, SqL.of R1.st, rfl, _, rfl, _, _, rfl, rfl, ⟨hm, hlog⟩, _, rfl, _, _, _, _, rfl, rfl, R1.st, rfl, _, rfl, ?_⟩
      exact k _ _ (Int.emod_nonneg _ (by omega)) (Int.emod_lt_of_pos _ hm) (e1.trans Chg.upd) ⟨_, _, _, R1.set R1.hi (Int.ediv_nonneg R1.hc (Int.le_of_lt hm)) R1.hs R1.hs2⟩
    · refine ⟨_, rfl, _, _, _, _, rfl, rfl, SqL.of R1.st, rfl, _, _, rfl, rfl, .inl ⟨by have := R1.hs; omega, by have := R1.hs2; omega⟩, _, _, rfl, rfl, .inl ⟨_, rfl, _, _, rfl, rfl, pos_ (by decide), _, rfl, _, _, _, _, rfl, rfl, R1.st, rfl, ?_⟩⟩
      have R2 := R1.set (j := j) (x := x) R1.hi R1.hc (Int.emod_nonneg ((t * 69621 + 11)) (by decide : (2147483647 : Int) ≠ 0)) (Int.emod_lt_of_pos (t * 69621 + 11) (by decide : (0 : Int) < 2147483647))
      have e2 := e1.trans (Chg.upd (o := .lst [.ref d.l, .int (j : Int), .int x, .int ((t * 69621 + 11) % 2147483647)]))
      refine heap_gen (fun H2 => RngL H2 d j x ((t * 69621 + 11) % 2147483647) ∧ Chg d H H2) ⟨R2, e2⟩ fun H2 ⟨R2, e2⟩ => ?_
      generalize (t * 69621 + 11) % 2147483647 = t2 at R2
      refine ⟨_, rfl, _, _, _, _, rfl, rfl, SqL.of R2.st, rfl, _, _, rfl, rfl, .inl ⟨by have := R2.hs; omega, by have := R2.hs2; omega⟩, _, rfl, _, _, _, _, rfl, rfl, SqL.of R2.st, rfl, _, _, rfl, rfl, ⟨by decide, small_log (by decide) (by decide)⟩, _, _, rfl, rfl, .inl ⟨_, rfl, _, _, rfl, rfl, pos_ (by decide), ?_⟩⟩
      refine ⟨_, rfl, _, _, rfl, rfl, ⟨by decide, small_log (by decide) (by decide)⟩, .inl ⟨_, rfl, _, rfl, _, _, rfl, rfl, hm, ?_⟩⟩
      exact k _ _ (Int.emod_nonneg _ (by omega)) (Int.emod_lt_of_pos _ hm) e2 ⟨_, _, _, R2⟩
theorem ok__law_name (T : Txt K mg A) : FnOk P w K mg base CX0 2 A.f__law_name A.d__law_name ["state", "taken"] (sp__law_name K A) := by
  refine T.F__law_name.ok sc__law_name (fun vs H Q E h => sp2_len h) (fun cdv A0 outer s H vs Q E hr h => ?_)
  have nd := sc__law_name.nd
  refine ⟨_, (pss_cons (ps_set (i := 2) nd rfl (by first | exact Or.inl rfl | exact Or.inr rfl) pe_str)
      (pss_cons (ps_set (i := 3) nd rfl (by first | exact Or.inl rfl | exact Or.inr rfl) pe_str)
      (Evl.pss_cut (ps_for PassesOwn.never rfl (pi_range1 (by rfl) T.b_range (pa_cons (pe_ix ix_list (pe_lst (pa_cons pe_int (pa_cons pe_int (pa_cons pe_int (pa_cons pe_int pa_nil))))) (pe_call (ok__law_pull T) (hr.mono (by decide)) (by rfl) T.mg__law_pull T.k__law_pull T.b__law_pull .nil pass0 (pa_cons (pv 0) (pa_cons pe_int pa_nil))) (fun _ _ => rfl)) pa_nil)) (pg_name (i := 4) nd rfl (by first | exact Or.inl rfl | exact Or.inr rfl)) (pss_one (ps_set (i := 3) nd rfl (by first | exact Or.inl rfl | exact Or.inr rfl) (pe_op op_add_str (pv 3) (pe_ix ix_str (pv 2) (pe_call (ok__law_pull T) (hr.mono (by decide)) (by rfl) T.mg__law_pull T.k__law_pull T.b__law_pull .nil pass0 (pa_cons (pv 0) (pa_cons pe_int pa_nil))) (fun _ _ => rfl))))))
      (Evl.pss_cut (ps_if (pt_cmpR op_in_seq (pv 3) (pv 1) (by rfl)) (pss_one (ps_set (i := 3) nd rfl (by first | exact Or.inl rfl | exact Or.inr rfl) (pe_op op_add_str (pv 3) (pe_ix ix_list (pe_lc (own := [("letter", 5)]) (g := gName 5) (by rfl) nd (pi_str (pv 2)) (blkOk_by (own := [("letter", 5)]) (N := ["state", "taken", "letters", "word", "k", "letter"]) (sc := defScope s__law_name) (by decide +kernel)) (fun _ _ _ _ _ => pg_name (i := 5) nd rfl (Or.inl rfl)) (fun _ _ _ _ _ => pts_one (pt_cmpR (op_notIn_seqK (K := K) rfl) (pe_op op_add_str (pv 3) (pv 5)) (pv 1) (by rfl))) (fun _ _ _ _ _ => (pv 5))) pe_int (fun _ _ => rfl))))) pss_nil)
      (pss_cons (ps_expr (pe_bm PySem.F.plainAttrs_list PySem.F.slot_list_append PySem.F.type_list_append mt_append (pv 1) (pa_cons (pv 3) pa_nil)))
      (pss_one (ps_ret (pv 3)))))))), ?_⟩
  clear nd hr
  replace h := sp2_of h
  obtain ⟨v_state, v_taken, rfl, h⟩ := h

  obtain ⟨d, p, ws, rfl, rfl, np, nl, r, hp, hl, k⟩ := h
  refine ⟨fun σ' H' => ∃ (x : Str) (kv : Option V), σ' = [some (.ref d.p), some (.ref p), some (.str "abcdefghijklmnopqrstuvwxyz"), some (.str x), kv, none] ∧ x.cps.toList.all (fun c => decide (97 ≤ c) && decide (c ≤ 122)) = true ∧ 1 ≤ x.length ∧ x.length ≤ 7 ∧ H' p = some (.lst (ws.map V.str)) ∧ Chg d H H' ∧ Rng d H', ?_, ?_⟩
  · refine ⟨(by show 4 ≤ sizeLine; rw [sizeLine_eq]; decide), fun pA hA => ?_⟩
    refine ⟨_, rfl, _, _, rfl, d, _, rfl, rfl, (r.new hA), by decide, small_log (by decide) (by decide), fun v H1 h0a h1a e1 r1 => ?_⟩
    obtain ⟨y, hy, hat⟩ := pick_at (xs := [V.int 1, V.int 1, V.int 2, V.int 7]) h0a h1a
    obtain ⟨n, rfl, n1, n7⟩ : ∃ n : Nat, y = .int (n : Int) ∧ 1 ≤ n ∧ n ≤ 7 := by
      simp only [List.mem_cons, List.not_mem_nil, or_false] at hy
      rcases hy with rfl | rfl | rfl | rfl
      · exact ⟨1, rfl, by decide, by decide⟩
      · exact ⟨1, rfl, by decide, by decide⟩
      · exact ⟨2, rfl, by decide, by decide⟩
      · exact ⟨7, rfl, by decide, by decide⟩
    have eA : Chg d H H1 := (Chg.new hA).trans e1
    refine ⟨_, _, _, _, rfl, rfl, SqL.of (e1 _ _ (r.nep hA) upd_same), hat, (n : Int), rfl, by omega, by omega, ?_⟩
    rw [Int.toNat_natCast]
    refine for_range (n := n) (fun i σ' H' => ∃ (x : Str) (kv : Option V), σ' = [some (.ref d.p), some (.ref p), some (.str "abcdefghijklmnopqrstuvwxyz"), some (.str x), kv, none] ∧ x.cps.toList.all (fun c => decide (97 ≤ c) && decide (c ≤ 122)) = true ∧ x.length = i ∧ Chg d H H' ∧ Rng d H') ⟨_, _, rfl, by decide +kernel, by decide +kernel, eA, r1⟩ ?_ ?_
    · rintro i σ' H2 hi ⟨x, kv, rfl, ob, hx, e, r2⟩
      refine ⟨_, rfl, _, rfl, _, rfl, _, _, rfl, d, _, rfl, rfl, r2, by decide, small_log (by decide) (by decide), fun v3 H3 h0c h1c e3 r3 => ?_⟩
      obtain ⟨c, hc, ha⟩ := pick_sign abc_eq h0c h1c
      exact ⟨_, _, c, rfl, rfl, by show (Str.ofString _).cps.size ≤ sizeLine; rw [sizeLine_eq]; decide +kernel, ha, _, _, rfl, rfl, by rw [sizeLine_eq]; show x.length + 1 ≤ _; omega, _, _, rfl, by rw [app_all, letter_ok (abc_letter c hc), Bool.and_true]; exact ob, by rw [app_len1, hx], e.trans e3, r3⟩
    · rintro σ' H2 ⟨x, kv, rfl, ob, hx, e, r2⟩
      exact ⟨x, kv, rfl, ob, by omega, by omega, e _ _ np hp, e, r2⟩
  rintro σ' H1 ⟨x, kv, rfl, ob, x1, x7, hp1, e1, r1⟩
  refine ⟨fun σ' H' => ∃ (x : Str) (k1 k2 : Option V), σ' = [some (.ref d.p), some (.ref p), some (.str "abcdefghijklmnopqrstuvwxyz"), some (.str x), k1, k2] ∧ okName (.str x) = true ∧ H' p = some (.lst (ws.map V.str)) ∧ Chg d H H' ∧ Rng d H', ?_, ?_⟩
  · refine ⟨_, rfl, _, rfl, p, _, rfl, .inl (SqL.of hp1), rfl, flat_strs ws, _, rfl, ?_⟩
    show if (inV (.str x) (ws.map V.str)) = true then _ else _
    refine iteB (fun _ => ?_) (fun _ => ⟨x, _, _, rfl, ?_, hp1, e1, r1⟩)
    · refine ⟨_, rfl, _, rfl, _, rfl, fun D hD => lc_it walk_str (fun i H' => ∃ ls : List Nat, H' D = some (.lst (ls.map fun c => V.str ⟨#[c]⟩)) ∧ ls = ((Str.ofString "abcdefghijklmnopqrstuvwxyz").cps.toList.take i).filter (fun c => !decide ((x ++ (⟨#[c]⟩ : Str)) ∈ ws)) ∧ Same H1 H') ⟨[], upd_same, rfl, same_new hD⟩ (fun _ _ _ _ => trivial) ?_ ?_⟩
      · rintro i y H2 H3 hi ⟨ls, hls, els, e2⟩ ⟨rfl, c, hc, rfl⟩
        have hc2 : (Str.ofString "abcdefghijklmnopqrstuvwxyz").cps.toList[i]? = some c := by rw [Array.getElem?_toList]; exact hc
        refine ⟨rfl, _, rfl, _, rfl, x, ⟨#[c]⟩, rfl, rfl, by rw [sizeLine_eq]; show x.length + 1 ≤ _; omega, _, rfl, p, _, rfl, .inl (SqL.of (e2 _ _ hp1)), rfl, flat_strs ws, _, rfl, ?_⟩
        show if (!inV (.str (x ++ (⟨#[c]⟩ : Str))) (ws.map V.str)) = true then _ else _
        rw [inV_str]
        have hlt : ls.length ≤ 26 := by
          rw [els]
          refine Nat.le_trans (List.length_filter_le _ _) ?_
          rw [List.length_take, abc_eq]
          exact Nat.min_le_right _ _
        refine iteB (fun g => ?_) (fun g => ?_)
        · refine ⟨_, rfl, _, hls, by rw [sizeLine_eq, List.length_map]; omega, ls ++ [c], ?_, ?_, same_put hD e2⟩
          · rw [upd_same, List.map_append]; rfl
          · rw [List.take_succ, hc2, List.filter_append, ← els]
            simp [g]
        · refine ⟨ls, hls, ?_, e2⟩
          rw [List.take_succ, hc2, List.filter_append, ← els]
          simp [g]
      · rintro H2 ⟨ls, hls, els, e2⟩
        have efull : ls = abcL.filter (fun c => !decide ((x ++ (⟨#[c]⟩ : Str)) ∈ ws)) := by
          rw [els, ← Array.length_toList, List.take_length, abc_eq]
          rfl
        have ne : ls ≠ [] := fun z => by
          rw [z] at efull
          have q := List.filter_eq_nil_iff.mp efull.symm
          have := php (f := fun c => x ++ (⟨#[c]⟩ : Str)) app_inj abcL ws abc_nodup fun a ha => by simpa using q a ha
          have l26 : abcL.length = 26 := rfl
          omega
        obtain ⟨c, cs, ecs⟩ := List.exists_cons_of_ne_nil ne
        have hc : c ∈ abcL := by
          have : c ∈ ls := by rw [ecs]; exact List.mem_cons_self ..
          rw [efull] at this
          exact (List.mem_filter.mp this).1
        rw [ecs] at hls
        refine ⟨_, _, _, _, rfl, rfl, SqL.of hls, (show atI _ ((0 : Nat) : Int) = _ from atI_nat rfl), x, ⟨#[c]⟩, rfl, rfl, by rw [sizeLine_eq]; show x.length + 1 ≤ _; omega, _, _, _, rfl, ?_, e2 _ _ hp1, e1.trans (Chg.same e2), r1.same e2⟩
        show (decide (1 ≤ (x ++ (⟨#[c]⟩ : Str)).length) && (decide ((x ++ (⟨#[c]⟩ : Str)).length ≤ 8) && ((x ++ (⟨#[c]⟩ : Str)).cps.toList.all fun c => decide (97 ≤ c) && decide (c ≤ 122)))) = true
        rw [app_all, ob, letter_ok (abc_letter c hc), decide_eq_true (by rw [app_len1]; omega : 1 ≤ (x ++ (⟨#[c]⟩ : Str)).length), decide_eq_true (by rw [app_len1]; omega : (x ++ (⟨#[c]⟩ : Str)).length ≤ 8)]
        rfl
    · show (decide (1 ≤ x.length) && (decide (x.length ≤ 8) && (x.cps.toList.all fun c => decide (97 ≤ c) && decide (c ≤ 122)))) = true
      rw [ob, decide_eq_true x1, decide_eq_true (by omega : x.length ≤ 8)]
      rfl
  rintro σ' H3 ⟨x, k1, k2, rfl, ok, hp3, e3, r3⟩
  refine ⟨_, rfl, .inl ⟨rfl, _, SqL.of hp3⟩, _, rfl, p, _, _, rfl, rfl, hp3, by rw [sizeLine_eq, List.length_map]; omega, _, rfl, k x _ ok ?_ ((ChgP.of e3).trans ChgP.set) (r3.put np nl)⟩
  rw [upd_same, List.map_append]
  rfl
theorem ok__law_bits (T : Txt K mg A) : FnOk P w K mg base CX0 2 A.f__law_bits A.d__law_bits ["state", "many"] (sp__law_bits K A) := by
  refine T.F__law_bits.ok sc__law_bits (fun vs H Q E h => sp2_len h) (fun cdv A0 outer s H vs Q E hr h => ?_)
  have nd := sc__law_bits.nd
  refine ⟨_, (pss_cons (ps_set (i := 2) nd rfl (by first | exact Or.inl rfl | exact Or.inr rfl) pe_str)
      (pss_cons (ps_for PassesOwn.never rfl (pi_range1 (by rfl) T.b_range (pa_cons (pv 1) pa_nil)) (pg_name (i := 3) nd rfl (by first | exact Or.inl rfl | exact Or.inr rfl)) (pss_one (ps_set (i := 2) nd rfl (by first | exact Or.inl rfl | exact Or.inr rfl) (pe_op op_add_str (pv 2) (pe_ix ix_str pe_str (pe_call (ok__law_pull T) (hr.mono (by decide)) (by rfl) T.mg__law_pull T.k__law_pull T.b__law_pull .nil pass0 (pa_cons (pv 0) (pa_cons pe_int pa_nil))) (fun _ _ => rfl))))))
      (pss_one (ps_ret (pv 2))))), ?_⟩
  clear nd hr
  replace h := sp2_of h
  obtain ⟨v_state, v_many, rfl, h⟩ := h

  obtain ⟨d, n, rfl, rfl, n0, n20, r, k⟩ := h
  refine ⟨_, rfl, n, rfl, by omega, by omega, for_range (n := n.toNat) (fun i σ' H' => ∃ (x : Str) (kv : Option V), σ' = [some (.ref d.p), some (.int n), some (.str x), kv] ∧ okBits (.str x) = true ∧ x.length = i ∧ Chg d H H' ∧ Rng d H') ⟨_, _, rfl, by decide +kernel, by decide +kernel, Chg.refl, r⟩ ?_ ?_⟩
  · rintro i σ' H1 hi ⟨x, kv, rfl, ob, hx, e, r1⟩
    refine ⟨_, rfl, _, rfl, _, _, rfl, d, _, rfl, rfl, r1, by decide, small_log (by decide) (by decide), fun v H2 h0a h1a e1 r2 => ?_⟩
    obtain ⟨c, hc, ha⟩ := pick_sign bits_eq h0a h1a
    exact ⟨_, _, c, rfl, rfl, by show (Str.ofString _).cps.size ≤ sizeLine; rw [sizeLine_eq]; decide +kernel, ha, _, _, rfl, rfl, by rw [sizeLine_eq]; show x.length + 1 ≤ _; omega, _, _, rfl, bits_app ob (bits_bit c hc), by rw [app_len1, hx], e.trans e1, r2⟩
  · rintro σ' H1 ⟨x, kv, rfl, ob, hx, e, r1⟩
    exact ⟨_, rfl, k x H1 ob (by omega) e r1⟩
theorem ok__law_words (T : Txt K mg A) : FnOk P w K mg base CX0 2 A.f__law_words A.d__law_words ["state", "many"] (sp__law_words K A) := by
  refine T.F__law_words.ok sc__law_words (fun vs H Q E h => sp2_len h) (fun cdv A0 outer s H vs Q E hr h => ?_)
  have nd := sc__law_words.nd
  refine ⟨_, (pss_cons (ps_set (i := 2) nd rfl (by first | exact Or.inl rfl | exact Or.inr rfl) (pe_lst (pa_cons pe_str (pa_cons pe_str pa_nil))))
      (Evl.pss_cut (ps_for PassesOwn.never rfl (pi_range1 (by rfl) T.b_range (pa_cons (pe_op op_add (pe_op op_sub (pv 1) pe_int) (pe_call (ok__law_pull T) (hr.mono (by decide)) (by rfl) T.mg__law_pull T.k__law_pull T.b__law_pull .nil pass0 (pa_cons (pv 0) (pa_cons pe_int pa_nil)))) pa_nil)) (pg_name (i := 3) nd rfl (by first | exact Or.inl rfl | exact Or.inr rfl)) (pss_cons (ps_setLc (i := 4) (own := [("leaf", 5)]) (g := gName 5) (by rfl) nd rfl rfl (sw_true rfl rfl rfl (by decide +kernel)) (pi_list (pv 2)) (blkOk_by (own := [("leaf", 5)]) (N := ["state", "many", "leaves", "k", "short", "leaf", "words"]) (sc := defScope s__law_words) (by decide +kernel)) (fun _ _ _ _ _ => pg_name (i := 5) nd rfl (Or.inl rfl)) (fun _ _ _ _ _ => pts_one (pt_cmpR op_lt (pe_callB call_len_str (by rfl) T.b_len (by decide +kernel) (pa_cons (pv 5) pa_nil)) pe_int (nomark _))) (fun _ _ _ _ _ => (pv 5)))
      (pss_cons (ps_set (i := 5) nd rfl (by first | exact Or.inl rfl | exact Or.inr rfl) (pe_ix ix_list (pv 4) (pe_call (ok__law_pull T) (hr.mono (by decide)) (by rfl) T.mg__law_pull T.k__law_pull T.b__law_pull .nil pass0 (pa_cons (pv 0) (pa_cons (pe_callB call_len (by rfl) T.b_len (by decide +kernel) (pa_cons (pv 4) pa_nil)) pa_nil))) (fun _ _ => rfl)))
      (pss_cons (ps_expr (pe_bm PySem.F.plainAttrs_list PySem.F.slot_list_remove PySem.F.type_list_remove mt_removeS (pv 2) (pa_cons (pv 5) pa_nil)))
      (pss_one (ps_expr (pe_bm PySem.F.plainAttrs_list PySem.F.slot_list_extend PySem.F.type_list_extend mt_extend (pv 2) (pa_cons (pe_lst (pa_cons (pe_op op_add_str (pv 5) pe_str) (pa_cons (pe_op op_add_str (pv 5) pe_str) pa_nil))) pa_nil))))))))
      (pss_cons (ps_set (i := 6) nd rfl (by first | exact Or.inl rfl | exact Or.inr rfl) (pe_lst pa_nil))
      (pss_cons (ps_for PassesOwn.never rfl (pi_range1 (by rfl) T.b_range (pa_cons (pv 1) pa_nil)) (pg_name (i := 3) nd rfl (by first | exact Or.inl rfl | exact Or.inr rfl)) (pss_one (ps_expr (pe_bm PySem.F.plainAttrs_list PySem.F.slot_list_append PySem.F.type_list_append mt_append (pv 6) (pa_cons (pe_bm PySem.F.plainAttrs_list PySem.F.slot_list_pop PySem.F.type_list_pop mt_popAt (pv 2) (pa_cons (pe_call (ok__law_pull T) (hr.mono (by decide)) (by rfl) T.mg__law_pull T.k__law_pull T.b__law_pull .nil pass0 (pa_cons (pv 0) (pa_cons (pe_callB call_len (by rfl) T.b_len (by decide +kernel) (pa_cons (pv 2) pa_nil)) pa_nil))) pa_nil)) pa_nil)))))
      (pss_one (ps_ret (pv 6))))))), ?_⟩
  clear nd hr
  replace h := sp2_of h
  obtain ⟨v_state, v_many, rfl, h⟩ := h

  obtain ⟨d, n, rfl, rfl, n1, n13, r, k⟩ := h
  refine ⟨(by show 2 ≤ sizeLine; rw [sizeLine_eq]; decide), fun p hp => ?_⟩
  have np := r.nep hp
  have nl := r.nel hp
  have r0 := r.new hp (o := .lst [.str "0", .str "1"])
  refine ⟨fun σ' H' => ∃ (ws : List Str) (kv k4 k5 : Option V), σ' = [some (.ref d.p), some (.int n), some (.ref p), kv, k4, k5, none] ∧ H' p = some (.lst (ws.map V.str)) ∧ (∀ w ∈ ws, wordy w) ∧ n ≤ (ws.length : Int) ∧ ws.length ≤ 20 ∧ Chg d H H' ∧ Rng d H', ?_, ?_⟩
  · refine ⟨_, rfl, _, _, rfl, rfl, _, rfl, _, _, rfl, d, _, rfl, rfl, r0, by decide, small_log (by decide) (by decide), fun v H1 h0a h1a e1 r1 => ⟨_, _, rfl, rfl, n - 2 + v, rfl, by omega, by omega, ?_⟩⟩
    have hN : (n - 2 + v).toNat ≤ 13 := by omega
    have hN2 : n ≤ 2 + ((n - 2 + v).toNat : Int) := by omega
    generalize (n - 2 + v).toNat = N at hN hN2
    refine for_range (n := N) (fun i σ' H' => ∃ (ws : List Str) (kv k4 k5 : Option V), σ' = [some (.ref d.p), some (.int n), some (.ref p), kv, k4, k5, none] ∧ H' p = some (.lst (ws.map V.str)) ∧ (∀ w ∈ ws, wordy w) ∧ ws.length = 2 + i ∧ (ws.map kw).sum = 256 ∧ Chg d H H' ∧ Rng d H')
      ⟨["0", "1"], _, _, _, rfl, e1 _ _ np upd_same, ?_, rfl, by decide +kernel, (Chg.new hp).trans e1, r1⟩ ?_ ?_
    · intro w hw
      simp only [List.mem_cons, List.not_mem_nil, or_false] at hw
      rcases hw with rfl | rfl
      · show okWord (.str "0") = true
        decide +kernel
      · show okWord (.str "1") = true
        decide +kernel
    · rintro i σ' H2 hi ⟨ws, kv, k4, k5, rfl, hws, hwd, hlen, hsum, e, r2⟩
      dsimp only [gName]
      refine q_setLc ?_
      refine ⟨_, rfl, p, rfl, ⟨_, SqL.of hws⟩, fun D hD => ?_⟩
      have nD := r2.nep hD
      have nDl := r2.nel hD
      have npD : p ≠ D := fun z => by rw [z, hD] at hws; cases hws
      refine lc_it (walk_list (xs := ws.map V.str)) (fun i H' => H' D = some (.lst (((ws.take i).filter (fun w => decide (w.length < 8))).map V.str)) ∧ Same H2 H') ⟨upd_same, same_new hD⟩ (fun i H' _ q => SqL.of (q.2 _ _ hws)) ?_ ?_
      · rintro j y H3 H4 hj ⟨hD3, e3⟩ ⟨rfl, hy⟩
        rw [List.length_map] at hj
        rw [List.getElem?_map] at hy
        obtain ⟨w, hw, rfl⟩ := Option.map_eq_some_iff.mp hy
        have w8 := (wordy_bits (hwd w (List.mem_of_getElem? hw))).2.2
        refine ⟨rfl, _, rfl, w, rfl, by rw [sizeLine_eq]; omega, _, _, rfl, rfl, _, rfl, ?_⟩
        have tk : ws.take (j + 1) = ws.take j ++ [w] := by rw [List.take_succ, hw]; rfl
        refine iteB (fun g => ?_) (fun g => ?_)
        · have g2 : w.length < 8 := by have := of_decide_eq_true g; omega
          refine ⟨_, rfl, _, hD3, ?_, ?_, same_put hD e3⟩
          · rw [sizeLine_eq, List.length_map]
            have := List.length_filter_le (fun w : Str => decide (w.length < 8)) (ws.take j)
            have := List.length_take_le j ws
            omega
          · rw [upd_same, tk, List.filter_append, List.map_append]
            simp [g2]
        · have g2 : ¬ w.length < 8 := by have := of_decide_eq_false g; omega
          refine ⟨?_, e3⟩
          rw [tk, List.filter_append, hD3]
          simp [g2]
      · rintro H3 ⟨hD3, e3⟩
        rw [List.length_map, List.take_length] at hD3
        have hD3' := hD3
        generalize efl : ws.filter (fun w => decide (w.length < 8)) = fl at hD3
        have fpos : 0 < fl.length := by
          rcases Nat.eq_zero_or_pos fl.length with z | z
          · exfalso
            have z2 : fl = [] := List.eq_nil_of_length_eq_zero z
            rw [z2] at efl
            have q := List.filter_eq_nil_iff.mp efl
            have := all_eight (zs := ws) fun w hw => by
              have a := q w hw
              have b := (wordy_bits (hwd w hw)).2.2
              simp at a
              omega
            omega
          · exact z
        have fle : fl.length ≤ ws.length := by rw [← efl]; exact List.length_filter_le _ _
        have r3 := r2.same e3
        refine ⟨_, rfl, _, rfl, _, rfl, _, _, rfl, .inl ⟨_, SqL.of hD3, rfl⟩, _, _, rfl, d, _, rfl, rfl, r3, by rw [List.length_map]; omega, small_log (by rw [List.length_map]; omega) (by rw [List.length_map]; omega), fun v5 H5 h05 h15 e5 r5 => ?_⟩
        obtain ⟨y, hy, hat⟩ := pick_at h05 h15
        obtain ⟨lf, hlf, rfl⟩ := List.mem_map.mp hy
        rw [← efl] at hlf
        obtain ⟨lfw, lf8⟩ := List.mem_filter.mp hlf
        have lf8' : lf.length < 8 := of_decide_eq_true lf8
        have hws5 := e5 _ _ np (e3 _ _ hws)
        refine ⟨_, _, _, _, rfl, rfl, SqL.of (e5 _ _ nD hD3), hat, ?_⟩
        obtain ⟨j, hj, hjf⟩ := first_of lfw
        have hjl : j < ws.length := (List.getElem?_eq_some_iff.mp hj).1
        have hel : (ws.eraseIdx j).length + 1 = ws.length := by rw [List.length_eraseIdx_of_lt hjl]; omega
        have hse := sum_erase ws j lf hj
        refine ⟨_, rfl, .inl ⟨rfl, _, SqL.of hws5⟩, _, rfl, p, ws, lf, j, rfl, rfl, hws5, hj, hjf, ?_⟩
        refine ⟨_, rfl, .inl ⟨rfl, _, SqL.of upd_same⟩, _, rfl, _, _, rfl, rfl, by rw [sizeLine_eq]; show lf.length + 1 ≤ _; omega, _, rfl, _, _, rfl, rfl, by rw [sizeLine_eq]; show lf.length + 1 ≤ _; omega, (by show 2 ≤ sizeLine; rw [sizeLine_eq]; decide), fun q hq => ?_⟩
        have nqp : p ≠ q := fun z => by rw [← z, upd_same] at hq; cases hq
        refine ⟨p, q, _, _, rfl, rfl, by rw [upd_ne nqp]; exact upd_same, upd_same, by rw [sizeLine_eq, List.length_map]; show _ + 2 ≤ _; omega, ?_⟩
        have hq5 : H5 q = none := by rw [upd_ne nqp.symm] at hq; exact hq
        have hp5 : H5 p = some (.lst (ws.map V.str)) := hws5
        refine ⟨ws.eraseIdx j ++ [lf ++ "0", lf ++ "1"], _, _, _, rfl, ?_, ?_, ?_, ?_, ?_, ?_⟩
        · rw [upd_same, List.map_append]
          rfl
        · intro w hw
          rcases List.mem_append.mp hw with hw | hw
          · exact hwd w (mem_erase hw)
          · have b := wordy_bits (hwd lf lfw)
            simp only [List.mem_cons, List.not_mem_nil, or_false] at hw
            rcases hw with rfl | rfl
            · rw [sgn0]
              exact wordy_of (bits_app b.1 (.inl rfl)) (by rw [app_len1]; omega) (by rw [app_len1]; omega)
            · rw [sgn1]
              exact wordy_of (bits_app b.1 (.inr rfl)) (by rw [app_len1]; omega) (by rw [app_len1]; omega)
        · rw [List.length_append]
          show (ws.eraseIdx j).length + 2 = _
          omega
        · rw [List.map_append, List.sum_append]
          show _ + (kw (lf ++ (Str.ofString "0")) + (kw (lf ++ (Str.ofString "1")) + 0)) = 256
          rw [sgn0, sgn1]
          have h1 := kw_half (c := 48) lf8'
          have h2 : kw (lf ++ (⟨#[49]⟩ : Str)) = kw (lf ++ (⟨#[48]⟩ : Str)) := by unfold kw; rw [app_len1, app_len1]
          rw [h2]
          omega
        · intro b o nb hb
          have nbp : b ≠ p := fun z => by rw [z, hp] at hb; cases hb
          have h5 := e5 b o nb (e3 b o (e b o nb hb))
          have nbq : b ≠ q := ne_of_none h5 hq5
          rw [upd_ne nbp, upd_ne nbq, upd_ne nbp]
          exact h5
        · have ra := r5.put (q := p) (o := .lst ((ws.eraseIdx j).map V.str)) np nl
          have rb := ra.new hq (o := .lst [.str (lf ++ "0"), .str (lf ++ "1")])
          exact rb.put np nl
    · rintro σ' H2 ⟨ws, kv, k4, k5, rfl, hws, hwd, hlen, hsum, e, r2⟩
      exact ⟨ws, kv, k4, k5, rfl, hws, hwd, by omega, by omega, e, r2⟩
  rintro σ' H1 ⟨ws, kv, k4, k5, rfl, hws, hwd, hn, h20, e1, r1⟩
  refine ⟨(by show 0 ≤ sizeLine; rw [sizeLine_eq]; decide), fun q hq => ?_⟩
  have nq := r1.nep hq
  have nql := r1.nel hq
  have npq : p ≠ q := fun z => by rw [z, hq] at hws; cases hws
  have hq0 : H q = none := e1.free nq hq
  refine ⟨_, rfl, n, rfl, by omega, by omega, for_range (n := n.toNat) (fun i σ' H' => ∃ (us vs : List Str) (kv : Option V), σ' = [some (.ref d.p), some (.int n), some (.ref p), kv, k4, k5, some (.ref q)] ∧ H' p = some (.lst (us.map V.str)) ∧ H' q = some (.lst (vs.map V.str)) ∧ (∀ w ∈ us, wordy w) ∧ (∀ w ∈ vs, wordy w) ∧ us.length + i = ws.length ∧ vs.length = i ∧ Chg d H H' ∧ Rng d H') ⟨ws, [], _, rfl, by rw [upd_ne npq]; exact hws, upd_same, hwd, (fun w hw => by cases hw), rfl, rfl, e1.trans (Chg.new hq), r1.new hq⟩ ?_ ?_⟩
  · rintro i σ' H2 hi ⟨us, vs, kv, rfl, hu, hv, wu, wv, lu, lv, e2, r2⟩
    have upos : 0 < us.length := by omega
    refine ⟨_, rfl, .inl ⟨rfl, _, SqL.of hv⟩, _, rfl, .inl ⟨rfl, _, SqL.of hu⟩, _, rfl, _, rfl, _, _, rfl, .inl ⟨_, SqL.of hu, rfl⟩, _, _, rfl, d, _, rfl, rfl, r2, by rw [List.length_map]; omega, small_log (by rw [List.length_map]; omega) (by rw [List.length_map]; omega), fun v5 H5 h05 h15 e5 r5 => ?_⟩
    rw [List.length_map] at h15
    obtain ⟨j, rfl⟩ := Int.eq_ofNat_of_zero_le h05
    have hj : j < us.length := by omega
    have hu5 := e5 _ _ np hu
    have hv5 := e5 _ _ nq hv
    refine ⟨p, us.map V.str, (j : Int), j, .str us[j], rfl, rfl, hu5, by omega, by omega, ?_, by rw [List.getElem?_map, List.getElem?_eq_getElem hj]; rfl, ?_⟩
    · have h1 : ¬ ((j : Int) < 0) := by omega
      have h2 : (j : Int) < (us.length : Int) := by omega
      unfold seqIndex?
      rw [List.length_map]
      simp only [h1, if_false]
      rw [if_pos (by rw [decide_eq_true h2, decide_eq_true (by omega : (0 : Int) ≤ (j : Int))]; rfl)]
      rfl
    refine ⟨q, _, _, rfl, rfl, by rw [upd_ne npq.symm]; exact hv5, by rw [sizeLine_eq, List.length_map]; omega, ?_⟩
    refine ⟨us.eraseIdx j, vs ++ [us[j]], _, rfl, ?_, ?_, fun w hw => wu w (mem_erase hw), ?_, ?_, ?_, ?_, ?_⟩
    · rw [upd_ne npq, upd_same, erase_mapS]
    · rw [upd_same, List.map_append]
      rfl
    · intro w hw
      rcases List.mem_append.mp hw with hw | hw
      · exact wv w hw
      · rw [List.mem_singleton.mp hw]
        exact wu _ (List.getElem_mem hj)
    · rw [List.length_eraseIdx_of_lt hj]
      omega
    · rw [List.length_append, List.length_singleton]
      omega
    · intro b o nb hb
      have nbp : b ≠ p := fun z => by rw [z, hp] at hb; cases hb
      have nbq : b ≠ q := fun z => by rw [z, hq0] at hb; cases hb
      rw [upd_ne nbq, upd_ne nbp]
      exact e5 b o nb (e2 b o nb hb)
    · exact (r5.put np nl).put nq nql
  · rintro σ' H2 ⟨us, vs, kv, rfl, hu, hv, wu, wv, lu, lv, e2, r2⟩
    exact ⟨_, rfl, k q vs H2 hv hq0 nq nql (by omega) wv e2 r2⟩
theorem ok__law_odd (T : Txt K mg A) : FnOk P w K mg base CX0 2 A.f__law_odd A.d__law_odd ["state"] (sp__law_odd K A) := by
  refine T.F__law_odd.ok sc__law_odd (fun vs H Q E h => sp1_len h) (fun cdv A0 outer s H vs Q E hr h => ?_)
  have nd := sc__law_odd.nd
  refine ⟨_, (pss_cons (ps_if (pt_cmpR op_eq (pe_call (ok__law_pull T) (hr.mono (by decide)) (by rfl) T.mg__law_pull T.k__law_pull T.b__law_pull .nil pass0 (pa_cons (pv 0) (pa_cons pe_int pa_nil))) pe_int (nomark _)) (pss_one (ps_ret (pe_op op_sub (pe_call (ok__law_pull T) (hr.mono (by decide)) (by rfl) T.mg__law_pull T.k__law_pull T.b__law_pull .nil pass0 (pa_cons (pv 0) (pa_cons pe_int pa_nil))) pe_int))) pss_nil)
      (pss_cons (ps_set (i := 1) nd rfl (by first | exact Or.inl rfl | exact Or.inr rfl) (pe_lst (pa_cons pe_non (pa_cons pe_bl (pa_cons pe_bl (pa_cons pe_str (pa_cons pe_str (pa_cons pe_str (pa_cons (pe_tup (pa_cons pe_int pa_nil)) (pa_cons (pe_lst (pa_cons pe_int pa_nil)) (pa_cons pe_dnewK (pa_cons (pe_tup pa_nil) (pa_cons (pe_op op_pow pe_int pe_int) (pa_cons (pe_un un_neg pe_int) (pa_cons pe_int (pa_cons pe_int (pa_cons pe_str (pa_cons pe_str (pa_cons (pe_lst pa_nil) (pa_cons (pe_disp (pps_cons pe_str pe_int pps_nil) (by rfl) (by rfl) (fun z => by cases z) (by decide)) pa_nil))))))))))))))))))))
      (pss_one (ps_ret (pe_ix ix_list (pv 1) (pe_call (ok__law_pull T) (hr.mono (by decide)) (by rfl) T.mg__law_pull T.k__law_pull T.b__law_pull .nil pass0 (pa_cons (pv 0) (pa_cons (pe_callB call_len (by rfl) T.b_len (by decide +kernel) (pa_cons (pv 1) pa_nil)) pa_nil))) (fun _ _ => rfl)))))), ?_⟩
  clear nd hr
  replace h := sp1_of h
  obtain ⟨v_state, rfl, h⟩ := h

  obtain ⟨d, rfl, r, k⟩ := h
  refine ⟨_, rfl, _, _, rfl, d, _, rfl, rfl, r, by decide, small_log (by decide) (by decide), fun v H1 h0a h1a e1 r1 => ⟨rfl, _, rfl, iteB (fun _ => ?_) (fun _ => ?_)⟩⟩
  · exact ⟨_, rfl, _, _, rfl, d, _, rfl, rfl, r1, by decide, small_log (by decide) (by decide), fun w H2 h0b h1b e2 r2 => ⟨_, _, rfl, rfl, k _ _ (odd2_int _) (e1.trans e2) r2⟩⟩
  refine ⟨(by show 1 ≤ sizeLine; rw [sizeLine_eq]; decide), fun p1 hp1 => ⟨(by show 1 ≤ sizeLine; rw [sizeLine_eq]; decide), fun p2 hp2 => fun p3 hp3 => ⟨(by show 0 ≤ sizeLine; rw [sizeLine_eq]; decide), fun p4 hp4 => ⟨_, _, rfl, rfl, ⟨by decide, by decide, by decide⟩, _, rfl, ⟨(by show 0 ≤ sizeLine; rw [sizeLine_eq]; decide), fun p5 hp5 => fun p6 hp6 => ⟨upd_same, [(.inr "a", .int 1)], rfl, by decide, (by show 18 ≤ sizeLine; rw [sizeLine_eq]; decide), fun pL hpL => ?_⟩⟩⟩⟩⟩⟩
  have R6 := (((((r1.new hp1 (o := .tup [.int 1])).new hp2 (o := .lst [.int 2])).new hp3 (o := .dK [])).new hp4 (o := .tup [])).new hp5 (o := .lst [])).new2 hp6 (o := .dK []) (o2 := .dK (mergeK [] [(.inr "a", .int 1)]))
  refine ⟨_, rfl, _, rfl, _, rfl, _, _, rfl, .inl ⟨_, SqL.of upd_same, rfl⟩, _, _, rfl, d, _, rfl, rfl, R6.new hpL, by show (0 : Int) < 18; decide, small_log (by show (0 : Int) < 18; decide) (by show (18 : Int) < 1000000000; decide), fun w H2 h0 h1 e2 r2 => ?_⟩
  obtain ⟨x, hx, hat⟩ := pick_at h0 h1
  refine ⟨_, _, _, _, rfl, rfl, SqL.of (e2 _ _ (R6.nep hpL) upd_same), hat, k _ _ (Odd2.keepC (R6.new hpL) r2 e2 ?_) (e1.trans ((Chg.new hp1).trans ((Chg.new hp2).trans ((Chg.new hp3).trans ((Chg.new hp4).trans ((Chg.new hp5).trans ((Chg.new2 hp6).trans ((Chg.new hpL).trans e2)))))))) r2⟩
  simp only [List.mem_cons, List.not_mem_nil, or_false] at hx
  rcases hx with rfl | rfl | rfl | rfl | rfl | rfl | rfl | rfl | rfl | rfl | rfl | rfl | rfl | rfl | rfl | rfl | rfl | rfl
  · exact odd2_non
  · exact odd2_bl _
  · exact odd2_bl _
  · exact odd2_str (by decide +kernel)
  · exact odd2_str (by decide +kernel)
  · exact odd2_str (by decide +kernel)
  · exact (Odd2.keepS (same_new hpL) (Odd2.keepS (same_new2 hp6) (Odd2.keepS (same_new hp5) (Odd2.keepS (same_new hp4) (Odd2.keepS (same_new hp3) (Odd2.keepS (same_new hp2) (odd2_tup upd_same (by rfl) (by show _ ≤ 100; decide))))))))
  · exact (Odd2.keepS (same_new hpL) (Odd2.keepS (same_new2 hp6) (Odd2.keepS (same_new hp5) (Odd2.keepS (same_new hp4) (Odd2.keepS (same_new hp3) (odd2_lst upd_same (by rfl) (by show _ ≤ 100; decide)))))))
  · exact (Odd2.keepS (same_new hpL) (Odd2.keepS (same_new2 hp6) (Odd2.keepS (same_new hp5) (Odd2.keepS (same_new hp4) (odd2_dK upd_same)))))
  · exact (Odd2.keepS (same_new hpL) (Odd2.keepS (same_new2 hp6) (Odd2.keepS (same_new hp5) (odd2_tup upd_same (by rfl) (by show _ ≤ 100; decide)))))
  · exact odd2_int _
  · exact odd2_int _
  · exact odd2_int _
  · exact odd2_int _
  · exact odd2_str (by decide +kernel)
  · exact odd2_str (by decide +kernel)
  · exact (Odd2.keepS (same_new hpL) (Odd2.keepS (same_new2 hp6) (odd2_lst upd_same (by rfl) (by show _ ≤ 100; decide))))
  · exact (Odd2.keepS (same_new hpL) (odd2_dK upd_same))
theorem ok__law_object (T : Txt K mg A) : FnOk P w K mg base CX0 6 A.f__law_object A.d__law_object ["turn"] (sp__law_object K A) := by
  refine T.F__law_object.ok sc__law_object (fun vs H Q E h => sp1_len h) (fun cdv A0 outer s H vs Q E hr h => ?_)
  have nd := sc__law_object.nd
  refine ⟨_, (pss_cons (ps_if (pt_cmpR op_eq (pv 0) pe_int (nomark _)) (pss_one (ps_ret (by exact (pe_makeS T.mk_Number (ok_Number___init__ T) (hr.mono (by decide)) (by rfl) T.mg_Number T.b1_Number___init__ (show Vals [V.non] [Value.none] from .cons rfl .nil) (fun σ => passL0 σ) (by exact (pa_cons (pe_un un_neg pe_int) (pa_cons pe_int pa_nil))))))) pss_nil)
      (pss_cons (ps_if (pt_cmpR op_eq (pv 0) pe_int (nomark _)) (pss_one (ps_ret (by exact (pe_makeS T.mk_Bits (ok_Bits___init__ T) (hr.mono (by decide)) (by rfl) T.mg_Bits T.b_Bits___init__ .nil (fun σ => passL0 σ) (by exact (pa_cons pe_int pa_nil)))))) pss_nil)
      (pss_cons (ps_if (pt_cmpR op_eq (pv 0) pe_int (nomark _)) (pss_one (ps_ret (by exact (pe_makeS T.mk_Call (ok_Call___init__ T) (hr.mono (by decide)) (by rfl) T.mg_Call T.b_Call___init__ .nil (fun σ => passL0 σ) (by exact (pa_cons pe_str pa_nil)))))) pss_nil)
      (pss_cons (ps_if (pt_cmpR op_eq (pv 0) pe_int (nomark _)) (pss_one (ps_ret (by exact (pe_makeS T.mk_Items (ok_Items___init__ T) (hr.mono (by decide)) (by rfl) T.mg_Items T.b_Items___init__ .nil (fun σ => passL0 σ) (by exact (pa_cons (by exact (pe_makeS T.mk_Bits (ok_Bits___init__ T) (hr.mono (by decide)) (by rfl) T.mg_Bits T.b_Bits___init__ .nil (fun σ => passL0 σ) (by exact (pa_cons pe_int pa_nil)))) (pa_cons pe_int pa_nil))))))) pss_nil)
      (pss_cons (ps_if (pt_cmpR op_eq (pv 0) pe_int (nomark _)) (pss_one (ps_ret (pe_makeO T.mo_Nothing T.io_Nothing T.kc_Nothing (by rfl) T.mg_Nothing))) pss_nil)
      (pss_cons (ps_if (pt_cmpR op_eq (pv 0) pe_int (nomark _)) (pss_one (ps_ret pe_non)) pss_nil)
      (pss_cons (ps_if (pt_cmpR op_eq (pv 0) pe_int (nomark _)) (pss_one (ps_ret (by exact (pe_makeS T.mk_Choice (ok_Choice___init__ T) (hr.mono (by decide)) (by rfl) T.mg_Choice T.b_Choice___init__ .nil (fun σ => passL0 σ) (by exact (pa_cons (pe_lst (pa_cons (by exact (pe_makeS T.mk_Way (ok_Way___init__ T) (hr.mono (by decide)) (by rfl) T.mg_Way T.b_Way___init__ .nil (fun σ => passL0 σ) (by exact (pa_cons pe_str (pa_cons pe_str (pa_cons (pe_makeO T.mo_Nothing T.io_Nothing T.kc_Nothing (by rfl) T.mg_Nothing) pa_nil)))))) pa_nil)) pa_nil)))))) pss_nil)
      (pss_cons (ps_if (pt_cmpR op_eq (pv 0) pe_int (nomark _)) (pss_one (ps_ret (by exact (pe_makeS T.mk_Row (ok_Row___init__ T) (hr.mono (by decide)) (by rfl) T.mg_Row T.b_Row___init__ .nil (fun σ => passL0 σ) (by exact (pa_cons (pe_lst (pa_cons (by exact (pe_makeS T.mk_Part (ok_Part___init__ T) (hr.mono (by decide)) (by rfl) T.mg_Part T.b_Part___init__ .nil (fun σ => passL0 σ) (by exact (pa_cons pe_str (pa_cons (by exact (pe_makeS T.mk_Bits (ok_Bits___init__ T) (hr.mono (by decide)) (by rfl) T.mg_Bits T.b_Bits___init__ .nil (fun σ => passL0 σ) (by exact (pa_cons pe_int pa_nil)))) pa_nil))))) pa_nil)) pa_nil)))))) pss_nil)
      (pss_cons (ps_if (pt_cmpR op_eq (pv 0) pe_int (nomark _)) (pss_one (ps_ret (by exact (pe_makeS T.mk_Part (ok_Part___init__ T) (hr.mono (by decide)) (by rfl) T.mg_Part T.b_Part___init__ .nil (fun σ => passL0 σ) (by exact (pa_cons pe_str (pa_cons (by exact (pe_makeS T.mk_Bits (ok_Bits___init__ T) (hr.mono (by decide)) (by rfl) T.mg_Bits T.b_Bits___init__ .nil (fun σ => passL0 σ) (by exact (pa_cons pe_int pa_nil)))) pa_nil))))))) pss_nil)
      (pss_cons (ps_if (pt_cmpR op_eq (pv 0) pe_int (nomark _)) (pss_one (ps_ret (by exact (pe_makeS T.mk_Room (ok_Room___init__ T) (hr.mono (by decide)) (by rfl) T.mg_Room T.b_Room___init__ .nil (fun σ => passL0 σ) (by exact (pa_cons pe_str (pa_cons pe_str (pa_cons pe_non pa_nil)))))))) pss_nil)
      (pss_one (ps_ret (by exact (pe_makeS T.mk_Door (ok_Door___init__ T) (hr.mono (by decide)) (by rfl) T.mg_Door T.b_Door___init__ .nil (fun σ => passL0 σ) (by exact (pa_cons pe_str (pa_cons pe_str (pa_cons pe_non pa_nil)))))))))))))))))), ?_⟩
  clear nd hr
  replace h := sp1_of h
  obtain ⟨v_turn, rfl, h⟩ := h

  obtain ⟨n, rfl, n0, n10, k⟩ := h
  refine ⟨_, rfl, rfl, _, rfl, iteB (fun g => ?_) (fun g0 => ?_)⟩
  · have e : n = 0 := of_decide_eq_true (dI.symm.trans g)
    subst e
    exact ⟨_, rfl, fun o dx h1 h2 ne => ⟨_, _, _, _, rfl, H, o, _, _, _, rfl, Fresh.mk' h1 h2 ne, .int _, .int _, .non, made_ok (kd := .num (-3) 5 none) rfl fun H2 e2 hk => ⟨rfl, k _ _ e2 hk⟩⟩⟩
  rw [dI] at g0
  refine ⟨_, rfl, rfl, _, rfl, iteB (fun g => ?_) (fun g1 => ?_)⟩
  · have e : n = 1 := of_decide_eq_true (dI.symm.trans g)
    subst e
    exact fun o dx h1 h2 ne => ⟨_, _, rfl, H, o, _, rfl, Fresh.mk' h1 h2 ne, .int _, made_ok (kd := .bits 3) rfl fun H2 e2 hk => ⟨rfl, k _ _ e2 hk⟩⟩
  rw [dI] at g1
  refine ⟨_, rfl, rfl, _, rfl, iteB (fun g => ?_) (fun g2 => ?_)⟩
  · have e : n = 2 := of_decide_eq_true (dI.symm.trans g)
    subst e
    exact fun o dx h1 h2 ne => ⟨_, _, rfl, H, o, _, rfl, Fresh.mk' h1 h2 ne, .str _, short_ab, made_ok (kd := .call "ab") (if_neg (by decide +kernel)) fun H2 e2 hk => ⟨rfl, k _ _ e2 hk⟩⟩
  rw [dI] at g2
  refine ⟨_, rfl, rfl, _, rfl, iteB (fun g => ?_) (fun g3 => ?_)⟩
  · have e : n = 3 := of_decide_eq_true (dI.symm.trans g)
    subst e
    exact fun o dx h1 h2 ne => ⟨_, _, rfl, H, o, _, rfl, Fresh.mk' h1 h2 ne, .int _, made_ok (kd := .bits 1) rfl fun H1 e1 hk1 => ⟨rfl, fun o2 dx2 h3 h4 ne2 => ⟨_, _, _, rfl, H1, o2, .k (.bits 1), _, rfl, Fresh.mk' h3 h4 ne2, hk1, .int _, made_ok (kd := .items (.bits 1) (some 2)) rfl fun H2 e2 hk => ⟨rfl, k _ _ (e1.trans e2) hk⟩⟩⟩⟩
  rw [dI] at g3
  refine ⟨_, rfl, rfl, _, rfl, iteB (fun g => ?_) (fun g4 => ?_)⟩
  · have e : n = 4 := of_decide_eq_true (dI.symm.trans g)
    subst e
    exact fun o dx h1 h2 ne => k _ _ (Fresh.mk' (C := A.c_Nothing) h1 h2 ne).s (.nothing ⟨dx, [], upd_same, fun p hp => by cases hp⟩)
  rw [dI] at g4
  refine ⟨_, rfl, rfl, _, rfl, iteB (fun g => ?_) (fun g5 => ?_)⟩
  · have e : n = 5 := of_decide_eq_true (dI.symm.trans g)
    subst e
    exact k _ _ (fun _ _ z => z) .none
  rw [dI] at g5
  refine ⟨_, rfl, rfl, _, rfl, iteB (fun g => ?_) (fun g6 => ?_)⟩
  · have e : n = 6 := of_decide_eq_true (dI.symm.trans g)
    subst e
    refine fun o dx h1 h2 ne => ?_
    have hn : KAt A (upd (upd H dx (.own o)) o (.ins A.c_Nothing dx [])) (.ref o) .nothing := .nothing ⟨dx, [], upd_same, fun p hp => by cases hp⟩
    refine fun o2 dx2 h3 h4 ne2 => ⟨_, _, _, _, rfl, _, o2, _, _, .k .nothing, rfl, Fresh.mk' h3 h4 ne2, .str _, .str _, short_0, short_a, hn, made_ok (kd := .way "0" "a" .nothing) way_0a fun H1 e1 hk1 => ⟨rfl, ?_⟩⟩
    refine ⟨(by show 1 ≤ sizeLine; rw [sizeLine_eq]; decide), fun pl hpl => ?_⟩
    refine fun o3 dx3 h5 h6 ne3 => ⟨_, _, rfl, _, o3, some [.k (.way "0" "a" .nothing)], rfl, Fresh.mk' h5 h6 ne3, .lst upd_same (.cons (KAt.keep (KI.new hpl) hk1) .nil) (by show 1 ≤ 100; decide), made_ok (kd := .choice [.way "0" "a" .nothing]) choice_0a fun H2 e2 hk => ⟨rfl, ?_⟩⟩
    exact k _ _ ((((Fresh.mk' (C := A.c_Nothing) h1 h2 ne).s.trans e1).trans (same_new hpl)).trans e2) hk
  rw [dI] at g6
  refine ⟨_, rfl, rfl, _, rfl, iteB (fun g => ?_) (fun g7 => ?_)⟩
  · have e : n = 7 := of_decide_eq_true (dI.symm.trans g)
    subst e
    refine fun o dx h1 h2 ne => ⟨_, _, rfl, H, o, _, rfl, Fresh.mk' h1 h2 ne, .int _, made_ok (kd := .bits 1) rfl fun H1 e1 hk1 => ⟨rfl, ?_⟩⟩
    refine fun o2 dx2 h3 h4 ne2 => ⟨_, _, _, rfl, H1, o2, _, .k (.bits 1), rfl, Fresh.mk' h3 h4 ne2, .str _, short_a, hk1, made_ok (kd := .part "a" (.bits 1)) part_a fun H2 e2 hk2 => ⟨rfl, ?_⟩⟩
    refine ⟨(by show 1 ≤ sizeLine; rw [sizeLine_eq]; decide), fun pl hpl => ?_⟩
    refine fun o3 dx3 h5 h6 ne3 => ⟨_, _, rfl, _, o3, some [.k (.part "a" (.bits 1))], rfl, Fresh.mk' h5 h6 ne3, .lst upd_same (.cons (KAt.keep (KI.new hpl) hk2) .nil) (by show 1 ≤ 100; decide), made_ok (kd := .row [.part "a" (.bits 1)]) row_a fun H3 e3 hk => ⟨rfl, ?_⟩⟩
    exact k _ _ (((e1.trans e2).trans (same_new hpl)).trans e3) hk
  rw [dI] at g7
  refine ⟨_, rfl, rfl, _, rfl, iteB (fun g => ?_) (fun g8 => ?_)⟩
  · have e : n = 8 := of_decide_eq_true (dI.symm.trans g)
    subst e
    refine fun o dx h1 h2 ne => ⟨_, _, rfl, H, o, _, rfl, Fresh.mk' h1 h2 ne, .int _, made_ok (kd := .bits 1) rfl fun H1 e1 hk1 => ⟨rfl, ?_⟩⟩
    exact fun o2 dx2 h3 h4 ne2 => ⟨_, _, _, rfl, H1, o2, _, .k (.bits 1), rfl, Fresh.mk' h3 h4 ne2, .str _, short_a, hk1, made_ok (kd := .part "a" (.bits 1)) part_a fun H2 e2 hk2 => ⟨rfl, k _ _ (e1.trans e2) hk2⟩⟩
  rw [dI] at g8
  refine ⟨_, rfl, rfl, _, rfl, iteB (fun g => ?_) (fun g9 => ?_)⟩
  · have e : n = 9 := of_decide_eq_true (dI.symm.trans g)
    subst e
    exact fun o dx h1 h2 ne => ⟨_, _, _, _, rfl, H, o, _, _, .k .none, rfl, Fresh.mk' h1 h2 ne, .str _, .str _, short_0, short_a, .none, made_ok (kd := .room "0" "a" .none) room_0n fun H2 e2 hk => ⟨rfl, k _ _ e2 hk⟩⟩
  rw [dI] at g9
  have e : n = 10 := by
    have := of_decide_eq_false g0
    have := of_decide_eq_false g1
    have := of_decide_eq_false g2
    have := of_decide_eq_false g3
    have := of_decide_eq_false g4
    have := of_decide_eq_false g5
    have := of_decide_eq_false g6
    have := of_decide_eq_false g7
    have := of_decide_eq_false g8
    have := of_decide_eq_false g9
    omega
  subst e
  exact fun o dx h1 h2 ne => ⟨_, _, _, _, rfl, H, o, _, _, .k .none, rfl, Fresh.mk' h1 h2 ne, .str _, .str _, short_0, short_a, .none, made_ok (kd := .door "0" "a" .none) way_0n fun H2 e2 hk => ⟨rfl, k _ _ e2 hk⟩⟩
theorem ok__law_spoil (T : Txt K mg A) : FnOk P w K mg base CX0 3 A.f__law_spoil A.d__law_spoil ["state", "plain"] (sp__law_spoil K A) := by
  refine T.F__law_spoil.ok sc__law_spoil (fun vs H Q E h => sp2_len h) (fun cdv A0 outer s H vs Q E hr h => ?_)
  have nd := sc__law_spoil.nd
  refine ⟨_, (pss_cons (ps_set (i := 2) nd rfl (by first | exact Or.inl rfl | exact Or.inr rfl) (pe_call (ok__law_pull T) (hr.mono (by decide)) (by rfl) T.mg__law_pull T.k__law_pull T.b__law_pull .nil pass0 (pa_cons (pv 0) (pa_cons (pe_callB call_len (by rfl) T.b_len (by decide +kernel) (pa_cons (pv 1) pa_nil)) pa_nil))))
      (pss_cons (ps_set (i := 3) nd rfl (by first | exact Or.inl rfl | exact Or.inr rfl) (pe_call (ok__law_pull T) (hr.mono (by decide)) (by rfl) T.mg__law_pull T.k__law_pull T.b__law_pull .nil pass0 (pa_cons (pv 0) (pa_cons (pe_callB call_len (by rfl) T.b_len (by decide +kernel) (pa_cons (pv 1) pa_nil)) pa_nil))))
      (pss_cons (ps_set (i := 4) nd rfl (by first | exact Or.inl rfl | exact Or.inr rfl) (pe_call (ok__law_pull T) (hr.mono (by decide)) (by rfl) T.mg__law_pull T.k__law_pull T.b__law_pull .nil pass0 (pa_cons (pv 0) (pa_cons pe_int pa_nil))))
      (pss_one (ps_if (pt_cmpR op_eq (pv 4) pe_int (nomark _)) (pss_one (ps_asg (pe_ix ix_list (pe_ix ix_list (pv 1) (pv 3) (fun _ _ => rfl)) pe_int (fun _ _ => rfl)) (pg_sub (pe_ix ix_list (pv 1) (pv 2) (fun _ _ => rfl)) pe_int set_list))) (pss_one (ps_if (pt_cmpR op_eq (pv 4) pe_int (nomark _)) (pss_one (ps_asg (pe_slice sl_str (pe_op op_add_str (pe_ix ix_list (pe_ix ix_list (pv 1) (pv 3) (fun _ _ => rfl)) pe_int (fun _ _ => rfl)) (pe_call (ok__law_bits T) (hr.mono (by decide)) (by rfl) T.mg__law_bits T.k__law_bits T.b__law_bits .nil pass0 (pa_cons (pv 0) (pa_cons pe_int pa_nil)))) po_none (po_some pe_int)) (pg_sub (pe_ix ix_list (pv 1) (pv 2) (fun _ _ => rfl)) pe_int set_list))) (pss_one (ps_if (pt_cmpR op_eq (pv 4) pe_int (nomark _)) (pss_one (ps_asg (pe_slice sl_str (pe_ix ix_list (pe_ix ix_list (pv 1) (pv 3) (fun _ _ => rfl)) pe_int (fun _ _ => rfl)) po_none (po_some pe_int)) (pg_sub (pe_ix ix_list (pv 1) (pv 2) (fun _ _ => rfl)) pe_int set_list))) (pss_one (ps_if (pt_cmpR op_eq (pv 4) pe_int (nomark _)) (pss_one (ps_asg (pe_lst (pa_cons pe_int (pa_cons pe_str (pa_cons pe_str (pa_cons (pe_call (ok__law_pull T) (hr.mono (by decide)) (by rfl) T.mg__law_pull T.k__law_pull T.b__law_pull .nil pass0 (pa_cons (pv 0) (pa_cons pe_int pa_nil))) pa_nil))))) (pg_sub (pv 1) (pv 2) set_list))) (pss_one (ps_if (pt_cmpR op_eq (pv 4) pe_int (nomark _)) (pss_one (ps_asg (pe_lst (pa_cons pe_int (pa_cons pe_str (pa_cons pe_str (pa_cons (pe_call (ok__law_odd T) (hr.mono (by decide)) (by rfl) T.mg__law_odd T.k__law_odd T.b__law_odd .nil pass0 (pa_cons (pv 0) pa_nil)) pa_nil))))) (pg_sub (pv 1) (pv 2) set_list))) (pss_one (ps_if (pt_cmpR op_eq (pv 4) pe_int (nomark _)) (pss_one (ps_for PassesOwn.never rfl (pi_list (pv 1)) (pg_name (i := 5) nd rfl (by first | exact Or.inl rfl | exact Or.inr rfl)) (pss_one (ps_asg pe_int (pg_sub (pv 5) pe_int set_list))))) pss_nil))))))))))))))), ?_⟩
  clear nd hr
  replace h := sp2_of h
  obtain ⟨v_state, v_plain, rfl, h⟩ := h

  obtain ⟨d, g, vs, rfl, rfl, r, hg, hall, l1, l13, ng, ngl, nv, k⟩ := h
  refine ⟨_, rfl, _, rfl, _, _, rfl, .inl ⟨_, SqL.of hg, rfl⟩, _, _, rfl, d, _, rfl, rfl, r, by omega, small_log (by omega) (by omega), fun v1 H1 h01 h11 e1 r1 => ?_⟩
  have hg1 := e1 _ _ ng hg
  refine ⟨_, rfl, _, rfl, _, _, rfl, .inl ⟨_, SqL.of hg1, rfl⟩, _, _, rfl, d, _, rfl, rfl, r1, by omega, small_log (by omega) (by omega), fun v2 H2 h02 h12 e2 r2 => ?_⟩
  refine ⟨_, rfl, _, _, rfl, d, _, rfl, rfl, r2, by decide, small_log (by decide) (by decide), fun v3 H3 h0c h1c e3 r3 => ?_⟩
  have e3' := e1.trans (e2.trans e3)
  have hg3 := e3' _ _ ng hg
  have pk : ∀ {H H' : Hp}, Chg d H H' → (∀ v ∈ vs, Pn H v) → ∀ v ∈ vs, Pn H' v := fun e h v hv => by
    obtain ⟨a, s, w, n, rfl, h1, q⟩ := h v hv
    exact ⟨a, s, w, n, rfl, e _ _ (nv a hv).1 h1, q⟩
  have hall3 := pk e3' hall
  have st3 : Stay d g vs H H3 := fun b o n1 _ _ h => e3' b o n1 h
  obtain ⟨x1, hx1, at1⟩ := pick_at h01 h11
  obtain ⟨x2, hx2, at2⟩ := pick_at h02 h12
  obtain ⟨a1, s1, w1, m1, rfl, ha1, hs1, hw1, hm1⟩ := hall3 x1 hx1
  obtain ⟨a2, s2, w2, m2, rfl, ha2, hs2, hw2, hm2⟩ := hall3 x2 hx2
  have put : ∀ H4 a s w n, Rng d H4 → Chg d H3 H4 → V.ref a ∈ vs → (s = 0 ∨ s = 1) → okWord (.str w) = true → okName (.str n) = true → Q .non (upd H4 a (.lst [.int s, .str w, .str n])) := fun H4 a s w n r4 e4 ha hs hw hn => by
    obtain ⟨n1, n2, n3⟩ := nv a ha
    refine k vs _ (by rw [upd_ne n3.symm]; exact e4 _ _ ng hg3) (fun v hv => ((pk e4 hall3 v hv).put hs hw hn).ent) rfl (fun b o b1 b2 b3 h => ?_) (r4.put n1 n2)
    have : b ≠ a := fun z => b3 (by rw [z]; exact ha)
    rw [upd_ne this]
    exact e4 b o b1 (st3 b o b1 b2 b3 h)
  refine ⟨_, rfl, rfl, _, rfl, iteB (fun _ => ?_) (fun _ => ?_)⟩
  · exact ⟨_, rfl, _, rfl, _, _, _, _, rfl, rfl, SqL.of hg3, at2, _, _, _, .str m2, rfl, rfl, SqL.of ha2, (show atI _ ((2 : Nat) : Int) = _ from atI_nat rfl), _, rfl, _, rfl, _, _, _, _, rfl, rfl, SqL.of hg3, at1, _, _, _, 2, rfl, rfl, ha1, rfl, put H3 a1 s1 w1 m2 r3 Chg.refl hx1 hs1 hw1 hm2⟩
  refine ⟨_, rfl, rfl, _, rfl, iteB (fun _ => ?_) (fun _ => ?_)⟩
  · refine ⟨_, rfl, _, rfl, _, _, _, _, rfl, rfl, SqL.of hg3, at2, _, _, _, .str w2, rfl, rfl, SqL.of ha2, (show atI _ ((1 : Nat) : Int) = _ from atI_nat rfl), _, rfl, _, _, rfl, d, 2, rfl, rfl, by decide, by decide, r3, fun x H4 xb xl e4 r4 => ?_⟩
    have b2 := wordy_bits hw2
    have hxl : x.length = 2 := by omega
    have lap : (w2 ++ x).length = w2.length + x.length := PySem.Str.length_append _ _
    have hg4 := e4 _ _ ng hg3
    have ha4 := e4 _ _ (nv a1 hx1).1 ha1
    exact ⟨_, _, rfl, rfl, by rw [sizeLine_eq]; omega, _, rfl, _, rfl, by rw [sizeLine_eq]; omega, _, rfl, _, rfl, _, _, _, _, rfl, rfl, SqL.of hg4, at1, _, _, _, 1, rfl, rfl, ha4, rfl, put H4 a1 s1 _ m1 r4 e4 hx1 hs1 (cut_wordy (n := 8) (bits_cat b2.1 xb) (by omega) (by decide) (by decide)) hm1⟩
  refine ⟨_, rfl, rfl, _, rfl, iteB (fun _ => ?_) (fun _ => ?_)⟩
  · have b2 := wordy_bits hw2
    exact ⟨_, rfl, _, rfl, _, _, _, _, rfl, rfl, SqL.of hg3, at2, _, _, _, .str w2, rfl, rfl, SqL.of ha2, (show atI _ ((1 : Nat) : Int) = _ from atI_nat rfl), _, rfl, _, rfl, by rw [sizeLine_eq]; omega, _, rfl, _, rfl, _, _, _, _, rfl, rfl, SqL.of hg3, at1, _, _, _, 1, rfl, rfl, ha1, rfl, put H3 a1 s1 _ m1 r3 Chg.refl hx1 hs1 (cut_wordy (n := 1) b2.1 b2.2.1 (by decide) (by decide)) hm1⟩
  obtain ⟨j, rfl⟩ := Int.eq_ofNat_of_zero_le h01
  have hj : j < vs.length := by omega
  have ix : ixN vs.length (j : Int) = some j := by
    unfold ixN
    rw [if_pos (by omega), if_pos (by omega)]
    simp
  have setg : ∀ H4 q x, Rng d H4 → Chg d H3 H4 → H4 q = none → (∃ e, EntAt A K (upd H4 q (.lst x)) (.ref q) e) → Q .non (upd (upd H4 q (.lst x)) g (.lst (vs.set j (.ref q)))) := fun H4 q x r4 e4 hq he => by
    have nqg : q ≠ g := fun z => by rw [z, e4 _ _ ng hg3] at hq; cases hq
    refine k (vs.set j (.ref q)) _ upd_same (fun v hv => ?_) (by simp) (fun b o b1 b2 b3 h => ?_) ((r4.new hq).put ng ngl)
    · rcases List.mem_or_eq_of_mem_set hv with hv | rfl
      · obtain ⟨a, s, w, n, rfl, h1, q2⟩ := pk e4 hall3 v hv
        have nag := (nv a hv).2.2
        have naq : a ≠ q := ne_of_none h1 hq
        exact Pn.ent ⟨a, s, w, n, rfl, by rw [upd_ne nag, upd_ne naq]; exact h1, q2⟩
      · obtain ⟨e, ok, a, ea, hc⟩ := he
        cases ea
        refine ⟨e, ok, q, rfl, ?_⟩
        have gl : (upd H4 q (.lst x)) g = some (.lst vs) := by rw [upd_ne nqg.symm]; exact e4 _ _ ng hg3
        cases e with
        | pl s w n => exact (by rw [upd_ne nqg]; exact hc)
        | ob i => exact (by rw [upd_ne nqg]; exact hc)
        | od t =>
          obtain ⟨y, h1, h2⟩ := hc
          exact ⟨y, by rw [upd_ne nqg]; exact h1, h2.keep (KI.setL gl)⟩
    · have nbq : b ≠ q := ne_of_none (e4 b o b1 (st3 b o b1 b2 b3 h)) hq
      rw [upd_ne b2, upd_ne nbq]
      exact e4 b o b1 (st3 b o b1 b2 b3 h)
  refine ⟨_, rfl, rfl, _, rfl, iteB (fun _ => ?_) (fun _ => ?_)⟩
  · refine ⟨_, rfl, _, _, rfl, d, _, rfl, rfl, r3, by decide, small_log (by decide) (by decide), fun v5 H5 h0e h1e e5 r5 => ⟨(by show 4 ≤ sizeLine; rw [sizeLine_eq]; decide), fun q hq => ?_⟩⟩
    have hg5 := e5 _ _ ng hg3
    exact ⟨_, rfl, _, rfl, g, _, _, j, rfl, rfl, by rw [upd_ne (fun z => by rw [← z, hg5] at hq; cases hq)]; exact hg5, ix, setg H5 q _ r5 e5 hq ⟨.ob v5, ⟨h0e, by omega⟩, q, rfl, upd_same⟩⟩
  refine ⟨_, rfl, rfl, _, rfl, iteB (fun _ => ?_) (fun _ => ?_)⟩
  · refine ⟨_, rfl, _, rfl, d, rfl, r3, fun y H5 oy e5 r5 => ⟨(by show 4 ≤ sizeLine; rw [sizeLine_eq]; decide), fun q hq => ?_⟩⟩
    have hg5 := e5 _ _ ng hg3
    obtain ⟨t, ht, htc⟩ := oy.1
    exact ⟨_, rfl, _, rfl, g, _, _, j, rfl, rfl, by rw [upd_ne (fun z => by rw [← z, hg5] at hq; cases hq)]; exact hg5, ix, setg H5 q _ r5 e5 hq ⟨.od t, htc, q, rfl, y, upd_same, ht.keep (KI.new hq)⟩⟩
  refine ⟨_, rfl, rfl, _, rfl, iteB (fun _ => ?_) (fun _ => ?_)⟩
  · refine ⟨_, rfl, g, rfl, ⟨_, SqL.of hg3⟩, for_it (walk_list (xs := vs)) (fun i σ' H4 => ∃ kv : Option V, σ' = [some (.ref d.p), some (.ref g), some (.int (j : Int)), some (.int v2), some (.int v3), kv] ∧ H4 g = some (.lst vs) ∧ (∀ v ∈ vs, Pn H4 v) ∧ Stay d g vs H H4 ∧ Rng d H4) ⟨_, rfl, hg3, hall3, st3, r3⟩ (fun i σ' H4 _ ⟨_, _, h, _⟩ => SqL.of h) ?_ ?_⟩
    · rintro i y σ' H4 H5 hi ⟨kv, rfl, hg4, hall4, st4, r4⟩ ⟨rfl, hy⟩
      have ym := List.mem_of_getElem? hy
      obtain ⟨a, s, w, n, rfl, ha, hs, hw, hn⟩ := hall4 y ym
      obtain ⟨n1, n2, n3⟩ := nv a ym
      refine ⟨_, rfl, a, _, _, 0, rfl, rfl, ha, rfl, _, rfl, ?_, fun v hv => (hall4 v hv).put (.inr rfl) hw hn, fun b o b1 b2 b3 h => ?_, r4.put n1 n2⟩
      · rw [upd_ne n3.symm]
        exact hg4
      · have : b ≠ a := fun z => b3 (by rw [z]; exact ym)
        rw [upd_ne this]
        exact st4 b o b1 b2 b3 h
    · rintro σ' H4 ⟨kv, rfl, hg4, hall4, st4, r4⟩
      exact k vs H4 hg4 (fun v hv => (hall4 v hv).ent) rfl st4 r4
  · exact k vs H3 hg3 (fun v hv => (hall3 v hv).ent) rfl st3 r3
theorem ok__law_rows (T : Txt K mg A) : FnOk P w K mg base CX0 4 A.f__law_rows A.d__law_rows ["state", "rows"] (sp__law_rows K A) := by
  refine T.F__law_rows.ok sc__law_rows (fun vs H Q E h => sp2_len h) (fun cdv A0 outer s H vs Q E hr h => ?_)
  have nd := sc__law_rows.nd
  refine ⟨_, (pss_cons (ps_set (i := 2) nd rfl (by first | exact Or.inl rfl | exact Or.inr rfl) (pe_lst pa_nil))
      (pss_cons (ps_set (i := 3) nd rfl (by first | exact Or.inl rfl | exact Or.inr rfl) (pe_lst pa_nil))
      (pss_cons (ps_set (i := 4) nd rfl (by first | exact Or.inl rfl | exact Or.inr rfl) (pe_ix ix_list (pe_lst (pa_cons pe_int (pa_cons pe_int (pa_cons pe_int (pa_cons pe_int (pa_cons pe_int (pa_cons pe_int (pa_cons pe_int (pa_cons pe_int (pa_cons pe_int (pa_cons pe_int (pa_cons pe_int (pa_cons pe_int pa_nil))))))))))))) (pe_call (ok__law_pull T) (hr.mono (by decide)) (by rfl) T.mg__law_pull T.k__law_pull T.b__law_pull .nil pass0 (pa_cons (pv 0) (pa_cons pe_int pa_nil))) (fun _ _ => rfl)))
      (pss_cons (ps_set (i := 5) nd rfl (by first | exact Or.inl rfl | exact Or.inr rfl) (pe_call (ok__law_words T) (hr.mono (by decide)) (by rfl) T.mg__law_words T.k__law_words T.b__law_words .nil pass0 (pa_cons (pv 0) (pa_cons (pe_callB (call_max2 rfl) (by rfl) T.b_max (by decide +kernel) (pa_cons pe_int (pa_cons (pv 4) pa_nil))) pa_nil))))
      (Evl.pss_cut (ps_for PassesOwn.never rfl (pi_range1 (by rfl) T.b_range (pa_cons (pv 4) pa_nil)) (pg_name (i := 6) nd rfl (by first | exact Or.inl rfl | exact Or.inr rfl)) (pss_cons (ps_set (i := 7) nd rfl (by first | exact Or.inl rfl | exact Or.inr rfl) (pe_ix ix_list (pv 5) (pv 6) (fun _ _ => rfl)))
      (pss_cons (ps_set (i := 8) nd rfl (by first | exact Or.inl rfl | exact Or.inr rfl) (pe_call (ok__law_name T) (hr.mono (by decide)) (by rfl) T.mg__law_name T.k__law_name T.b__law_name .nil pass0 (pa_cons (pv 0) (pa_cons (pv 3) pa_nil))))
      (Evl.pss_cut (ps_if (pt_val (pv 1)) (pss_one (ps_set (i := 7) nd rfl (by first | exact Or.inl rfl | exact Or.inr rfl) (pe_call (ok__law_bits T) (hr.mono (by decide)) (by rfl) T.mg__law_bits T.k__law_bits T.b__law_bits .nil pass0 (pa_cons (pv 0) (pa_cons (pe_op op_add pe_int (pe_call (ok__law_pull T) (hr.mono (by decide)) (by rfl) T.mg__law_pull T.k__law_pull T.b__law_pull .nil pass0 (pa_cons (pv 0) (pa_cons pe_int pa_nil)))) pa_nil))))) pss_nil)
      (pss_one (ps_expr (pe_bm PySem.F.plainAttrs_list PySem.F.slot_list_append PySem.F.type_list_append mt_append (pv 2) (pa_cons (pe_lst (pa_cons (pe_call (ok__law_pull T) (hr.mono (by decide)) (by rfl) T.mg__law_pull T.k__law_pull T.b__law_pull .nil pass0 (pa_cons (pv 0) (pa_cons pe_int pa_nil))) (pa_cons (pv 7) (pa_cons (pv 8) pa_nil)))) pa_nil))))))))
      (Evl.pss_cut (ps_if (PW.pt (pw_and (pt_cmpR op_gt (pv 4) pe_int (nomark _)) (pw_and1 (pt_cmpR op_gt (pe_call (ok__law_pull T) (hr.mono (by decide)) (by rfl) T.mg__law_pull T.k__law_pull T.b__law_pull .nil pass0 (pa_cons (pv 0) (pa_cons pe_int pa_nil))) pe_int (nomark _))))) (pss_one (ps_asg pe_int (pg_sub (pe_ix ix_list (pv 2) (pe_op op_sub (pv 4) pe_int) (fun _ _ => rfl)) pe_int set_list))) pss_nil)
      (Evl.pss_cut (ps_if (pt_cmpR op_gt (pv 4) pe_int (nomark _)) (pss_one (ps_expr (pe_call (ok__law_spoil T) (hr.mono (by decide)) (by rfl) T.mg__law_spoil T.k__law_spoil T.b__law_spoil .nil pass0 (pa_cons (pv 0) (pa_cons (pv 2) pa_nil))))) pss_nil)
      (pss_one (ps_ret (pv 2)))))))))), ?_⟩
  clear nd hr
  replace h := sp2_of h
  obtain ⟨v_state, v_rows, rfl, h⟩ := h

  obtain ⟨d, c, rfl, rfl, r, k⟩ := h
  refine ⟨(by show 0 ≤ sizeLine; rw [sizeLine_eq]; decide), fun G hG => ?_⟩
  have rG := r.new hG (o := .lst [])
  refine ⟨(by show 0 ≤ sizeLine; rw [sizeLine_eq]; decide), fun P hP => ?_⟩
  have rP := rG.new hP (o := .lst [])
  refine ⟨(by show 12 ≤ sizeLine; rw [sizeLine_eq]; decide), fun pA hA => ?_⟩
  refine ⟨_, rfl, _, _, rfl, d, _, rfl, rfl, (rP.new hA), by decide, small_log (by decide) (by decide), fun v H1 h0a h1a e1 r1 => ?_⟩
  obtain ⟨y, hy, hat⟩ := pick_at (xs := [V.int 1, V.int 2, V.int 3, V.int 4, V.int 1, V.int 2, V.int 3, V.int 8, V.int 9, V.int 12, V.int 13, V.int 0]) h0a h1a
  obtain ⟨n, rfl, n0, n13⟩ : ∃ n : Int, y = .int n ∧ 0 ≤ n ∧ n ≤ 13 := by
    simp only [List.mem_cons, List.not_mem_nil, or_false] at hy
    rcases hy with rfl | rfl | rfl | rfl | rfl | rfl | rfl | rfl | rfl | rfl | rfl | rfl <;> exact ⟨_, rfl, by decide, by decide⟩
  refine ⟨_, _, _, _, rfl, rfl, SqL.of (e1 _ _ (rP.nep hA) upd_same), hat, ?_⟩
  have nGp := r.nep hG
  have nGl := r.nel hG
  have nPp := rG.nep hP
  have nPl := rG.nel hP
  have nGP : G ≠ P := fun z => by rw [← z, upd_same] at hP; cases hP
  have hP0 : H P = none := by rw [upd_ne nGP.symm] at hP; exact hP
  have hG1 : H1 G = some (.lst []) := e1 _ _ nGp (by rw [upd_ne (fun z => by rw [← z, upd_ne nGP, upd_same] at hA; cases hA), upd_ne nGP]; exact upd_same)
  have hP1 : H1 P = some (.lst []) := e1 _ _ nPp (by rw [upd_ne (fun z => by rw [← z, upd_same] at hA; cases hA)]; exact upd_same)
  have eA : Chg d H H1 := (Chg.new hG).trans ((Chg.new hP).trans ((Chg.new hA).trans e1))
  refine ⟨_, rfl, _, rfl, _, _, rfl, _, _, rfl, d, _, rfl, rfl, ?_, ?_, r1, fun W ws H2 hW hW0 nWp nWl lW hwd e2 r2 => ?_⟩
  · split <;> omega
  · split <;> omega
  have nWG : W ≠ G := fun z => by rw [z, hG1] at hW0; cases hW0
  have nWP : W ≠ P := fun z => by rw [z, hP1] at hW0; cases hW0
  have hW00 : H W = none := by
    cases q : H W with
    | none => rfl
    | some o =>
      have := eA W o nWp q
      rw [this] at hW0
      cases hW0
  have R0 : RowS d G P W ws H H2 [] [] := ⟨e2 _ _ nGp hG1, e2 _ _ nPp hP1, hW, fun v hv => (by cases hv), fun a ha => (by cases ha), eA.trans e2, r2⟩
  have nlw : n ≤ (ws.length : Int) := by
    rw [lW]
    split <;> omega
  clear hat hy hA eA hG1 hP1 e1 r1 r2 e2 hW hW0 rP rG
  refine ⟨fun σ' H' => ∃ (vs : List V) (nm : List Str) (k6 k7 k8 : Option V), σ' = [some (.ref d.p), some (.bl c), some (.ref G), some (.ref P), some (.int n), some (.ref W), k6, k7, k8] ∧ RowS d G P W ws H H' vs nm ∧ (vs.length : Int) = n, ?_, ?_⟩
  · refine ⟨_, rfl, n, rfl, by omega, by omega, for_range (n := n.toNat) (fun i σ' H' => ∃ (vs : List V) (nm : List Str) (k6 k7 k8 : Option V), σ' = [some (.ref d.p), some (.bl c), some (.ref G), some (.ref P), some (.int n), some (.ref W), k6, k7, k8] ∧ RowS d G P W ws H H' vs nm ∧ vs.length = i ∧ nm.length = i) ⟨[], [], _, _, _, rfl, R0, rfl, rfl⟩ ?_ ?_⟩
    · rintro i σ' H3 hi ⟨vs, nm, k6, k7, k8, rfl, S, lv, ln⟩
      have hiw : i < ws.length := by omega
      have aw : atI (ws.map V.str) ((0 : Int) + (i : Nat)) = some (.str ws[i]) := by
        rw [Int.zero_add]
        exact atI_nat (by rw [List.getElem?_map, List.getElem?_eq_getElem hiw]; rfl)
      refine ⟨_, rfl, _, rfl, _, _, _, _, rfl, rfl, SqL.of S.w, aw, ?_⟩
      refine ⟨_, rfl, _, rfl, _, _, rfl, d, P, nm, rfl, rfl, nPp, nPl, S.r, S.p, by omega, fun x H4 hx hP4 e4 r4 => ?_⟩
      have S4 : RowS d G P W ws H H4 vs (nm ++ [x]) := ⟨e4 _ _ nGp nGP S.g, hP4, e4 _ _ nWp nWP S.w, fun v hv => by
        obtain ⟨a, s, w, n, rfl, h1, q⟩ := S.pn v hv
        exact ⟨a, s, w, n, rfl, e4 _ _ (S.ap a hv).1 (S.ap a hv).2.2.2.1 h1, q⟩, S.ap, fun b o nb hb => e4 _ _ nb (fun z => by rw [z, hP0] at hb; cases hb) (S.c b o nb hb), r4⟩
      refine ⟨fun σ' H' => ∃ (w : Str) (k7 : Option V), σ' = [some (.ref d.p), some (.bl c), some (.ref G), some (.ref P), some (.int n), some (.ref W), some (.int ((0 : Int) + (i : Nat))), some (.str w), some (.str x)] ∧ okWord (.str w) = true ∧ RowS d G P W ws H H' vs (nm ++ [x]), ?_, ?_⟩
      · cases c with
        | false => exact ⟨_, rfl, _, rfl, iteF ⟨_, none, rfl, hwd _ (List.getElem_mem hiw), S4⟩⟩
        | true =>
          refine ⟨_, rfl, _, rfl, iteY ?_⟩
          refine ⟨_, rfl, _, rfl, _, _, rfl, d, _, rfl, rfl, r4, by decide, small_log (by decide) (by decide), fun v5 H5 h0e h1e e5 r5 => ⟨_, _, rfl, rfl, _, _, rfl, d, _, rfl, rfl, by omega, by omega, r5, fun w H6 wb wl e6 r6 => ?_⟩⟩
          exact ⟨w, none, rfl, wordy_of wb (by omega) (by omega), (S4.chg nGp nPp nWp e5 r5).chg nGp nPp nWp e6 r6⟩
      rintro σ' H5 ⟨w, _, rfl, hw, S5⟩
      refine ⟨_, rfl, .inl ⟨rfl, _, SqL.of S5.g⟩, _, rfl, _, _, rfl, d, _, rfl, rfl, S5.r, by decide, small_log (by decide) (by decide), fun v6 H6 h0f h1f e6 r6 => ⟨_, rfl, _, rfl, (by show 3 ≤ sizeLine; rw [sizeLine_eq]; decide), fun q hq => ?_⟩⟩
      have S6 := S5.chg nGp nPp nWp e6 r6
      have nqG : q ≠ G := fun z => by rw [z, S6.g] at hq; cases hq
      have nqP : q ≠ P := fun z => by rw [z, S6.p] at hq; cases hq
      have nqW : q ≠ W := fun z => by rw [z, S6.w] at hq; cases hq
      have nqp := r6.nep hq
      have nql := r6.nel hq
      refine ⟨G, vs, _, rfl, rfl, by rw [upd_ne nqG.symm]; exact S6.g, by rw [sizeLine_eq]; omega, vs ++ [.ref q], nm ++ [x], _, _, _, rfl, ⟨upd_same, ?_, ?_, ?_, ?_, ?_, ?_⟩, ?_, ?_⟩
      · rw [upd_ne nGP.symm, upd_ne nqP.symm]
        exact S6.p
      · rw [upd_ne nWG, upd_ne nqW.symm]
        exact S6.w
      · intro v hv
        rcases List.mem_append.mp hv with hv | hv
        · obtain ⟨a, s, w2, n2, rfl, h1, q2⟩ := S6.pn v hv
          exact ⟨a, s, w2, n2, rfl, by rw [upd_ne (S6.ap a hv).2.2.1, upd_ne (ne_of_none h1 hq)]; exact h1, q2⟩
        · rw [List.mem_singleton.mp hv]
          exact ⟨q, v6, w, x, rfl, by rw [upd_ne nqG]; exact upd_same, by omega, hw, hx⟩
      · intro a ha
        rcases List.mem_append.mp ha with ha | ha
        · exact S6.ap a ha
        · have e := List.mem_singleton.mp ha
          injection e with e
          rw [e]
          exact ⟨nqp, nql, nqG, nqP, nqW, S6.c.free nqp hq⟩
      · exact (S6.c.trans (Chg.new hq)).mut hG
      · exact (r6.new hq).put nGp nGl
      · rw [List.length_append, lv]; rfl
      · rw [List.length_append, ln]; rfl
    · rintro σ' H3 ⟨vs, nm, k6, k7, k8, rfl, S, lv, ln⟩
      exact ⟨vs, nm, k6, k7, k8, rfl, S, by omega⟩
  rintro σ' H3 ⟨vs, nm, k6, k7, k8, rfl, S, lv⟩
  refine ⟨fun σ' H' => σ' = [some (.ref d.p), some (.bl c), some (.ref G), some (.ref P), some (.int n), some (.ref W), k6, k7, k8] ∧ RowS d G P W ws H H' vs nm, ?_, ?_⟩
  · refine ⟨_, rfl, _, _, rfl, rfl, _, rfl, iteB (fun g => ?_) (fun g => iteF ⟨rfl, S⟩)⟩
    refine ⟨_, rfl, _, _, rfl, d, _, rfl, rfl, S.r, by decide, small_log (by decide) (by decide), fun v7 H7 h0g h1g e7 r7 => ⟨_, _, rfl, rfl, _, rfl, iteB (fun g2 => ?_) (fun g2 => ⟨rfl, S.chg nGp nPp nWp e7 r7⟩)⟩⟩
    have S7 := S.chg nGp nPp nWp e7 r7
    have gn := of_decide_eq_true g
    have hk : vs.length - 1 < vs.length := by omega
    have hkv : vs[vs.length - 1]? = some vs[vs.length - 1] := List.getElem?_eq_getElem hk
    obtain ⟨a, s, w, m, ea, ha, hs, hw, hm⟩ := S7.pn _ (List.getElem_mem hk)
    have am : V.ref a ∈ vs := by rw [← ea]; exact List.getElem_mem hk
    have atk : atI vs (n - 1) = some (.ref a) := by
      have q : n - 1 = ((vs.length - 1 : Nat) : Int) := by omega
      rw [q, ← ea]
      exact atI_nat hkv
    obtain ⟨n1, n2, n3, n4, n5, n6⟩ := S7.ap a am
    refine ⟨_, rfl, _, rfl, _, _, rfl, rfl, _, _, _, _, rfl, rfl, SqL.of S7.g, atk, a, _, _, 0, rfl, rfl, ha, rfl, rfl, ⟨?_, ?_, ?_, fun v hv => (S7.pn v hv).put (.inl rfl) hw hm, S7.ap, S7.c.mut n6, S7.r.put n1 n2⟩⟩
    · rw [upd_ne n3.symm]; exact S7.g
    · rw [upd_ne n4.symm]; exact S7.p
    · rw [upd_ne n5.symm]; exact S7.w
  rintro σ' H4 ⟨rfl, S4⟩
  refine ⟨fun σ' H' => σ' = [some (.ref d.p), some (.bl c), some (.ref G), some (.ref P), some (.int n), some (.ref W), k6, k7, k8] ∧ ∃ vs', H' G = some (.lst vs') ∧ (∀ v ∈ vs', ∃ e, EntAt A K H' v e) ∧ vs'.length ≤ 13 ∧ Chg d H H' ∧ Rng d H', ?_, ?_⟩
  · refine ⟨_, rfl, _, _, rfl, rfl, _, rfl, iteB (fun g => ?_) (fun g => ⟨rfl, vs, S4.g, fun v hv => (S4.pn v hv).ent, by omega, S4.c, S4.r⟩)⟩
    have gn := of_decide_eq_true g
    refine ⟨_, rfl, _, rfl, _, _, rfl, d, G, vs, rfl, rfl, S4.r, S4.g, S4.pn, by omega, by omega, nGp, nGl, fun a ha => ⟨(S4.ap a ha).1, (S4.ap a ha).2.1, (S4.ap a ha).2.2.1⟩, fun vs' H5 h5 he l5 st r5 => ?_⟩
    refine ⟨rfl, vs', h5, he, by omega, fun b o nb hb => ?_, r5⟩
    exact st b o nb (fun z => by rw [z, hG] at hb; cases hb) (fun hm => by rw [(S4.ap b hm).2.2.2.2.2] at hb; cases hb) (S4.c b o nb hb)
  rintro σ' H5 ⟨rfl, vs', h5, he, l5, e5, r5⟩
  obtain ⟨es, pes⟩ := pair_ex he
  exact ⟨_, rfl, k G vs' es H5 nGp h5 pes l5 e5 r5⟩
theorem ok__law_one (T : Txt K mg A) : FnOk P w K mg base CX0 7 A.f__law_one A.d__law_one ["rows", "entry"] (sp__law_one K A) := by
  refine T.F__law_one.ok sc__law_one (fun vs H Q E h => sp2_len h) (fun cdv A0 outer s H vs Q E hr h => ?_)
  have nd := sc__law_one.nd
  refine ⟨_, (pss_cons (ps_if (pt_cmpR op_eq (pe_ix ix_list (pv 1) pe_int (fun _ _ => rfl)) pe_int (nomark _)) (pss_one (ps_ret (pe_call (ok__law_object T) (hr.mono (by decide)) (by rfl) T.mg__law_object T.k__law_object T.b__law_object .nil pass0 (pa_cons (pe_ix ix_list (pv 1) pe_int (fun _ _ => rfl)) pa_nil)))) pss_nil)
      (pss_cons (ps_if (pt_cmpR op_eq (pe_ix ix_list (pv 1) pe_int (fun _ _ => rfl)) pe_int (nomark _)) (pss_one (ps_ret (pe_ix ix_list (pv 1) pe_int (fun _ _ => rfl)))) pss_nil)
      (pss_cons (ps_if (PW.pt (pw_and (pt_val (pv 0)) (pw_and1 (pt_cmpR op_eq (pe_ix ix_list (pv 1) pe_int (fun _ _ => rfl)) pe_int (nomark _))))) (pss_one (ps_ret (by exact (pe_makeS T.mk_Part (ok_Part___init__ T) (hr.mono (by decide)) (by rfl) T.mg_Part T.b_Part___init__ .nil (fun σ => passL0 σ) (by exact (pa_cons (pe_ix ix_list (pv 1) pe_int (fun _ _ => rfl)) (pa_cons (by exact (pe_makeS T.mk_Bits (ok_Bits___init__ T) (hr.mono (by decide)) (by rfl) T.mg_Bits T.b_Bits___init__ .nil (fun σ => passL0 σ) (by exact (pa_cons pe_int pa_nil)))) pa_nil))))))) pss_nil)
      (pss_cons (ps_if (pt_val (pv 0)) (pss_one (ps_ret (by exact (pe_makeS T.mk_Room (ok_Room___init__ T) (hr.mono (by decide)) (by rfl) T.mg_Room T.b_Room___init__ .nil (fun σ => passL0 σ) (by exact (pa_cons (pe_ix ix_list (pv 1) pe_int (fun _ _ => rfl)) (pa_cons (pe_ix ix_list (pv 1) pe_int (fun _ _ => rfl)) (pa_cons pe_non pa_nil)))))))) pss_nil)
      (pss_cons (ps_if (pt_cmpR op_eq (pe_ix ix_list (pv 1) pe_int (fun _ _ => rfl)) pe_int (nomark _)) (pss_one (ps_ret (by exact (pe_makeS T.mk_Way (ok_Way___init__ T) (hr.mono (by decide)) (by rfl) T.mg_Way T.b_Way___init__ .nil (fun σ => passL0 σ) (by exact (pa_cons (pe_ix ix_list (pv 1) pe_int (fun _ _ => rfl)) (pa_cons (pe_ix ix_list (pv 1) pe_int (fun _ _ => rfl)) (pa_cons (pe_makeO T.mo_Nothing T.io_Nothing T.kc_Nothing (by rfl) T.mg_Nothing) pa_nil)))))))) pss_nil)
      (pss_one (ps_ret (by exact (pe_makeS T.mk_Door (ok_Door___init__ T) (hr.mono (by decide)) (by rfl) T.mg_Door T.b_Door___init__ .nil (fun σ => passL0 σ) (by exact (pa_cons (pe_ix ix_list (pv 1) pe_int (fun _ _ => rfl)) (pa_cons (pe_ix ix_list (pv 1) pe_int (fun _ _ => rfl)) (pa_cons (by exact (pe_makeS T.mk_Number (ok_Number___init__ T) (hr.mono (by decide)) (by rfl) T.mg_Number T.b1_Number___init__ (show Vals [V.non] [Value.none] from .cons rfl .nil) (fun σ => passL0 σ) (by exact (pa_cons pe_int (pa_cons pe_int pa_nil))))) pa_nil))))))))))))), ?_⟩
  clear nd hr
  replace h := sp2_of h
  obtain ⟨v_rows, v_entry, rfl, h⟩ := h

  obtain ⟨c, e, rfl, ⟨ok, a, rfl, he⟩, k⟩ := h
  cases e with
  | ob j =>
    have he : H a = some (.lst [.int 2, .str "0", .str "a", .int j]) := he
    refine ⟨_, rfl, _, _, _, _, rfl, rfl, SqL.of he, rfl, rfl, _, rfl, iteB (fun _ => ?_) (fun z => nomatch z)⟩
    exact ⟨_, rfl, _, _, _, _, rfl, rfl, SqL.of he, rfl, _, rfl, j, rfl, ok.1, ok.2, fun v H' e hk => k v H' e hk⟩
  | od t =>
    obtain ⟨x, he, hx⟩ := he
    refine ⟨_, rfl, _, _, _, _, rfl, rfl, SqL.of he, rfl, rfl, _, rfl, iteB (fun z => nomatch z) (fun _ => ?_)⟩
    refine ⟨_, rfl, _, _, _, _, rfl, rfl, SqL.of he, rfl, rfl, _, rfl, iteB (fun _ => ?_) (fun z => nomatch z)⟩
    exact ⟨_, rfl, _, _, _, _, rfl, rfl, SqL.of he, rfl, k _ _ (fun _ _ z => z) hx⟩
  | pl x w n =>
    have he : H a = some (.lst [.int x, .str w, .str n]) := he
    obtain ⟨hs, hw, hn⟩ := ok
    refine ⟨_, rfl, _, _, _, _, rfl, rfl, SqL.of he, rfl, rfl, _, rfl, iteB (fun z => absurd z (by rw [dI]; rcases hs with rfl | rfl <;> decide)) (fun _ => ?_)⟩
    refine ⟨_, rfl, _, _, _, _, rfl, rfl, SqL.of he, rfl, rfl, _, rfl, iteB (fun z => absurd z (by rw [dI]; rcases hs with rfl | rfl <;> decide)) (fun _ => ?_)⟩
    cases c with
    | true =>
      refine ⟨_, rfl, _, rfl, iteY ?_⟩
      refine ⟨_, rfl, _, _, _, _, rfl, rfl, SqL.of he, rfl, rfl, _, rfl, iteB (fun g => ?_) (fun g => ?_)⟩
      · rw [dI] at g
        have e0 := of_decide_eq_true g
        refine ⟨_, rfl, _, _, _, _, rfl, rfl, SqL.of he, rfl, fun o dx h1 h2 ne => ⟨_, _, rfl, H, o, _, rfl, Fresh.mk' h1 h2 ne, .int _, made_ok (kd := .bits 2) rfl fun H1 e1 hk1 => ⟨rfl, ?_⟩⟩⟩
        refine fun o2 dx2 h3 h4 ne2 => ⟨_, _, _, rfl, H1, o2, _, .k (.bits 2), rfl, Fresh.mk' h3 h4 ne2, .str _, name_short hn, hk1, made_ok (part_ok hn rfl) fun H2 e2 hk2 => ⟨rfl, k _ _ (e1.trans e2) ?_⟩⟩
        rw [entT_t0 e0]
        exact hk2
      · rw [dI] at g
        have e0 := of_decide_eq_false g
        refine ⟨_, rfl, _, rfl, iteY ?_⟩
        refine ⟨_, rfl, _, _, _, _, rfl, rfl, SqL.of he, rfl, _, rfl, _, _, _, _, rfl, rfl, SqL.of he, rfl, fun o dx h1 h2 ne => ⟨_, _, _, _, rfl, H, o, _, _, .k .none, rfl, Fresh.mk' h1 h2 ne, .str _, .str _, word_short hw, name_short hn, .none, made_ok (inner_ok hw hn rfl) fun H2 e2 hk => ⟨rfl, k _ _ e2 ?_⟩⟩⟩
        rw [entT_t1 e0]
        exact hk
    | false =>
      refine ⟨_, rfl, _, rfl, iteF (iteF ?_)⟩
      refine ⟨_, rfl, _, rfl, iteF ?_⟩
      refine ⟨_, rfl, _, _, _, _, rfl, rfl, SqL.of he, rfl, rfl, _, rfl, iteB (fun g => ?_) (fun g => ?_)⟩
      · rw [dI] at g
        have e0 := of_decide_eq_true g
        refine ⟨_, rfl, _, _, _, _, rfl, rfl, SqL.of he, rfl, _, rfl, _, _, _, _, rfl, rfl, SqL.of he, rfl, fun o dx h1 h2 ne => ?_⟩
        have hn0 : KAt A (upd (upd H dx (.own o)) o (.ins A.c_Nothing dx [])) (.ref o) .nothing := .nothing ⟨dx, [], upd_same, fun p hp => by cases hp⟩
        refine fun o2 dx2 h3 h4 ne2 => ⟨_, _, _, _, rfl, _, o2, _, _, .k .nothing, rfl, Fresh.mk' h3 h4 ne2, .str _, .str _, word_short hw, name_short hn, hn0, made_ok (inner_ok hw hn rfl) fun H1 e1 hk1 => ⟨rfl, k _ _ ((Fresh.mk' (C := A.c_Nothing) h1 h2 ne).s.trans e1) ?_⟩⟩
        rw [entT_f0 e0]
        exact hk1
      · rw [dI] at g
        have e0 := of_decide_eq_false g
        refine ⟨_, rfl, _, _, _, _, rfl, rfl, SqL.of he, rfl, _, rfl, _, _, _, _, rfl, rfl, SqL.of he, rfl, fun o dx h1 h2 ne => ⟨_, _, _, _, rfl, H, o, _, _, _, rfl, Fresh.mk' h1 h2 ne, .int _, .int _, .non, made_ok (kd := .num 0 6 none) rfl fun H1 e1 hk1 => ⟨rfl, ?_⟩⟩⟩
        refine fun o2 dx2 h3 h4 ne2 => ⟨_, _, _, _, rfl, H1, o2, _, _, .k (.num 0 6 none), rfl, Fresh.mk' h3 h4 ne2, .str _, .str _, word_short hw, name_short hn, hk1, made_ok (inner_ok hw hn rfl) fun H2 e2 hk2 => ⟨rfl, k _ _ (e1.trans e2) ?_⟩⟩
        rw [entT_f1 e0]
        exact hk2
theorem ok__law_plain (T : Txt K mg A) : FnOk P w K mg base CX0 1 A.f__law_plain A.d__law_plain ["rows", "entry"] (sp__law_plain K A) := by
  refine T.F__law_plain.ok sc__law_plain (fun vs H Q E h => sp2_len h) (fun cdv A0 outer s H vs Q E hr h => ?_)
  have nd := sc__law_plain.nd
  refine ⟨_, (pss_cons (ps_if (pt_cmpR op_ne (pe_ix ix_list (pv 1) pe_int (fun _ _ => rfl)) pe_int (nomark _)) (pss_one (ps_ret (pv 1))) pss_nil)
      (pss_cons (ps_if (PW.pt (pw_and (pt_val (pv 0)) (pw_and1 (pt_cmpR op_eq (pe_ix ix_list (pv 1) pe_int (fun _ _ => rfl)) pe_int (nomark _))))) (pss_one (ps_ret (pe_lst (pa_cons pe_int (pa_cons pe_str (pa_cons pe_str pa_nil)))))) pss_nil)
      (pss_cons (ps_if (PW.pt (pw_and (pt_val (pv 0)) (pw_and1 (pt_cmpR op_eq (pe_ix ix_list (pv 1) pe_int (fun _ _ => rfl)) pe_int (nomark _))))) (pss_one (ps_ret (pe_lst (pa_cons pe_int (pa_cons pe_str (pa_cons pe_str pa_nil)))))) pss_nil)
      (pss_cons (ps_if (PW.pt (pw_and (pt_not (pt_val (pv 0))) (pw_and1 (pt_cmpR op_eq (pe_ix ix_list (pv 1) pe_int (fun _ _ => rfl)) pe_int (nomark _))))) (pss_one (ps_ret (pe_lst (pa_cons pe_int (pa_cons pe_str (pa_cons pe_str pa_nil)))))) pss_nil)
      (pss_one (ps_ret (pe_lst (pa_cons pe_int (pa_cons pe_str (pa_cons pe_str pa_nil)))))))))), ?_⟩
  clear nd hr
  replace h := sp2_of h
  obtain ⟨v_rows, v_entry, rfl, h⟩ := h

  obtain ⟨c, e, rfl, ⟨ok, a, rfl, he⟩, k⟩ := h
  cases e with
  | pl x w n =>
    have he : H a = some (.lst [.int x, .str w, .str n]) := he
    obtain ⟨hs, hw, hn⟩ := ok
    refine ⟨_, rfl, _, _, _, _, rfl, rfl, SqL.of he, rfl, rfl, _, rfl, iteB (fun _ => ?_) (fun z => absurd z (by rw [dI]; rcases hs with rfl | rfl <;> decide))⟩
    exact ⟨_, rfl, k _ _ (fun _ _ z => z) ⟨a, [], rfl, he, by decide⟩⟩
  | od t =>
    obtain ⟨x, he, hx⟩ := he
    refine ⟨_, rfl, _, _, _, _, rfl, rfl, SqL.of he, rfl, rfl, _, rfl, iteB (fun _ => ?_) (fun z => nomatch z)⟩
    exact ⟨_, rfl, k _ _ (fun _ _ z => z) ⟨a, [x], rfl, he, Nat.le_refl 1⟩⟩
  | ob j =>
    have he : H a = some (.lst [.int 2, .str "0", .str "a", .int j]) := he
    have nw : ∀ (i : Int) (w : V), plE c (.ob j) = ⟨i, "0", "a"⟩ → ∀ q, H q = none → Q (.ref q) (upd H q (.lst [.int i, .str "0", .str "a"])) := fun i w e q hq => k _ _ (same_new hq) ⟨q, [], rfl, by rw [e]; exact upd_same, by decide⟩
    refine ⟨_, rfl, _, _, _, _, rfl, rfl, SqL.of he, rfl, rfl, _, rfl, iteB (fun z => nomatch z) (fun _ => ?_)⟩
    cases c with
    | true =>
      refine ⟨_, rfl, _, rfl, iteY ?_⟩
      refine ⟨_, rfl, _, _, _, _, rfl, rfl, SqL.of he, rfl, rfl, _, rfl, iteB (fun g => ?_) (fun g => ?_)⟩
      · rw [dI] at g
        exact ⟨(by show 3 ≤ sizeLine; rw [sizeLine_eq]; decide), nw _ .non (plE_t.trans (if_pos (of_decide_eq_true g)))⟩
      rw [dI] at g
      have g1 := of_decide_eq_false g
      refine ⟨_, rfl, _, rfl, iteY ?_⟩
      refine ⟨_, rfl, _, _, _, _, rfl, rfl, SqL.of he, rfl, rfl, _, rfl, iteB (fun g => ?_) (fun g => ?_)⟩
      · rw [dI] at g
        exact ⟨(by show 3 ≤ sizeLine; rw [sizeLine_eq]; decide), nw _ .non (plE_t.trans ((if_neg g1).trans (if_pos (of_decide_eq_true g))))⟩
      rw [dI] at g
      have g2 := of_decide_eq_false g
      refine ⟨_, rfl, _, rfl, iteF ?_⟩
      exact ⟨(by show 3 ≤ sizeLine; rw [sizeLine_eq]; decide), nw _ .non (plE_t.trans ((if_neg g1).trans (if_neg g2)))⟩
    | false =>
      refine ⟨_, rfl, _, rfl, iteF (iteF ?_)⟩
      refine ⟨_, rfl, _, rfl, iteF (iteF ?_)⟩
      refine ⟨_, rfl, _, rfl, iteY ?_⟩
      refine ⟨_, rfl, _, _, _, _, rfl, rfl, SqL.of he, rfl, rfl, _, rfl, iteB (fun g => ?_) (fun g => ?_)⟩
      · rw [dI] at g
        exact ⟨(by show 3 ≤ sizeLine; rw [sizeLine_eq]; decide), nw _ .non (plE_f.trans (if_pos (of_decide_eq_true g)))⟩
      rw [dI] at g
      have g3 := of_decide_eq_false g
      exact ⟨(by show 3 ≤ sizeLine; rw [sizeLine_eq]; decide), nw _ .non (plE_f.trans (if_neg g3))⟩
theorem ok__law_good (T : Txt K mg A) : FnOk P w K mg base CX0 1 A.f__law_good A.d__law_good ["rows", "plain"] (sp__law_good K A) := by
  refine T.F__law_good.ok sc__law_good (fun vs H Q E h => sp2_len h) (fun cdv A0 outer s H vs Q E hr h => ?_)
  have nd := sc__law_good.nd
  refine ⟨_, (pss_cons (ps_set (i := 2) nd rfl (by first | exact Or.inl rfl | exact Or.inr rfl) pe_int)
      (Evl.pss_cut (ps_if (pt_val (pv 0)) (pss_one (ps_set (i := 2) nd rfl (by first | exact Or.inl rfl | exact Or.inr rfl) pe_int)) pss_nil)
      (pss_cons (ps_if (PW.pt (pw_or (pt_cmpR op_lt (pe_callB call_len (by rfl) T.b_len (by decide +kernel) (pa_cons (pv 1) pa_nil)) pe_int (nomark _)) (pw_or1 (pt_cmpR op_gt (pe_callB call_len (by rfl) T.b_len (by decide +kernel) (pa_cons (pv 1) pa_nil)) (pv 2) (nomark _))))) (pss_one (ps_ret pe_bl)) pss_nil)
      (pss_cons (ps_if (pt_cmpR op_gt (pe_callB call_len (by rfl) T.b_len (by decide +kernel) (pa_cons (pe_lc (own := [("entry", 3)]) (g := gName 3) (by rfl) nd (pi_list (pv 1)) (blkOk_by (own := [("entry", 3)]) (N := ["rows", "plain", "most", "entry", "k", "j", "one", "other"]) (sc := defScope s__law_good) (by decide +kernel)) (fun _ _ _ _ _ => pg_name (i := 3) nd rfl (Or.inl rfl)) (fun _ _ _ _ _ => pts_one (pt_cmpR op_gt (pe_ix (ix_listK (K := K) rfl) (pv 3) pe_int (fun _ _ => rfl)) pe_int (nomark _))) (fun _ _ _ _ _ => (pv 3))) pa_nil)) pe_int (nomark _)) (pss_one (ps_ret pe_bl)) pss_nil)
      (pss_cons (ps_for PassesOwn.never rfl (pi_range1 (by rfl) T.b_range (pa_cons (pe_callB call_len (by rfl) T.b_len (by decide +kernel) (pa_cons (pv 1) pa_nil)) pa_nil)) (pg_name (i := 4) nd rfl (by first | exact Or.inl rfl | exact Or.inr rfl)) (pss_one (ps_for PassesOwn.never rfl (pi_range1 (by rfl) T.b_range (pa_cons (pv 4) pa_nil)) (pg_name (i := 5) nd rfl (by first | exact Or.inl rfl | exact Or.inr rfl)) (pss_cons (ps_set (i := 6) nd rfl (by first | exact Or.inl rfl | exact Or.inr rfl) (pe_ix ix_list (pe_ix ix_list (pv 1) (pv 4) (fun _ _ => rfl)) pe_int (fun _ _ => rfl)))
      (pss_cons (ps_set (i := 7) nd rfl (by first | exact Or.inl rfl | exact Or.inr rfl) (pe_ix ix_list (pe_ix ix_list (pv 1) (pv 5) (fun _ _ => rfl)) pe_int (fun _ _ => rfl)))
      (pss_cons (ps_if (pt_cmpR op_eq (pe_ix ix_list (pe_ix ix_list (pv 1) (pv 4) (fun _ _ => rfl)) pe_int (fun _ _ => rfl)) (pe_ix ix_list (pe_ix ix_list (pv 1) (pv 5) (fun _ _ => rfl)) pe_int (fun _ _ => rfl)) (nomark _)) (pss_one (ps_ret pe_bl)) pss_nil)
      (pss_one (ps_if (PW.pt (pw_and (pt_not (pt_val (pv 0))) (pw_and1 (PW.pt (pw_or (pt_val (pe_m1 PySem.F.slot_str_startswith PySem.F.type_str_startswith mt_startswith (pv 6) (pv 7))) (pw_or1 (pt_val (pe_m1 PySem.F.slot_str_startswith PySem.F.type_str_startswith mt_startswith (pv 7) (pv 6))))))))) (pss_one (ps_ret pe_bl)) pss_nil))))))))
      (Evl.pss_cut (ps_if (pt_val (pv 0)) (pss_one (ps_ret (pe_cmpR op_eq (pe_ix ix_list (pe_ix ix_list (pv 1) (pe_op op_sub (pe_callB call_len (by rfl) T.b_len (by decide +kernel) (pa_cons (pv 1) pa_nil)) pe_int) (fun _ _ => rfl)) pe_int (fun _ _ => rfl)) pe_int (nomark _)))) pss_nil)
      (pss_one (ps_ret (pe_cmpR op_gt (pe_callB call_len (by rfl) T.b_len (by decide +kernel) (pa_cons (pe_lc (own := [("entry", 3)]) (g := gName 3) (by rfl) nd (pi_list (pv 1)) (blkOk_by (own := [("entry", 3)]) (N := ["rows", "plain", "most", "entry", "k", "j", "one", "other"]) (sc := defScope s__law_good) (by decide +kernel)) (fun _ _ _ _ _ => pg_name (i := 3) nd rfl (Or.inl rfl)) (fun _ _ _ _ _ => pts_one (pt_cmpR op_eq (pe_ix (ix_listK (K := K) rfl) (pv 3) pe_int (fun _ _ => rfl)) pe_int (nomark _))) (fun _ _ _ _ _ => (pv 3))) pa_nil)) pe_int (nomark _)))))))))), ?_⟩
  clear nd hr
  replace h := sp2_of h
  obtain ⟨v_rows, v_plain, rfl, h⟩ := h

  obtain ⟨c, p, vs, ps, rfl, rfl, hp, pp, hl, k⟩ := h
  have lp := pair_len pp
  have bad : goodE c ps = false → ∀ H', Same H H' → Q (.bl false) H' := fun e H' s => by
    rw [e] at k
    exact k H' s
  refine ⟨fun σ' H' => σ' = [some (.bl c), some (.ref p), some (.int (if c then 8 else 12)), none, none, none, none, none] ∧ H' = H, ?_, ?_⟩
  · cases c
    · exact ⟨_, rfl, _, rfl, iteF ⟨rfl, rfl⟩⟩
    · exact ⟨_, rfl, _, rfl, iteY ⟨rfl, rfl⟩⟩
  rintro σ' H' ⟨rfl, rfl⟩
  refine ⟨_, rfl, _, _, rfl, .inl ⟨_, SqL.of hp, rfl⟩, _, _, rfl, rfl, _, rfl, iteB (fun h2 => iteY ?_) (fun h2 => ?_)⟩
  · refine bad ?_ _ fun _ _ z => z
    have := of_decide_eq_true h2
    unfold goodE
    rw [decide_eq_false (show ¬ 1 ≤ ps.length by omega), Bool.false_and]
  refine ⟨_, rfl, _, _, rfl, .inl ⟨_, SqL.of hp, rfl⟩, _, rfl, _, _, rfl, rfl, _, rfl, iteB (fun h3 => ?_) (fun h3 => ?_)⟩
  · refine bad ?_ _ fun _ _ z => z
    have := of_decide_eq_true h3
    unfold goodE
    rw [decide_eq_false (show ¬ ps.length ≤ if c then 8 else 12 by cases c <;> simp at this ⊢ <;> omega), Bool.false_and, Bool.and_false]
  have l1 : decide (1 ≤ ps.length) = true := decide_eq_true (by have := of_decide_eq_false h2; omega)
  have l2 : decide (ps.length ≤ if c then 8 else 12) = true := decide_eq_true (by have := of_decide_eq_false h3; cases c <;> simp at this ⊢ <;> omega)
  have rd0 : ∀ {x : V} {e : Pl} {H1 : Hp}, PlAt H' x e → Same H' H1 → ∃ a r, x = .ref a ∧ H1 a = some (.lst (.int e.s :: .str e.w :: .str e.n :: r)) := fun h s => by
    obtain ⟨a, r, h1, h2, _⟩ := h
    exact ⟨a, r, h1, s _ _ h2⟩
  refine q_next ?_
  dsimp only
  refine q_cmpLen ?_
  refine lc_filter (fun e => decide (1 < e.s)) (fun v e => PlAt H' v e) rfl hp pp (by omega) (fun x => rfl) (fun x => rfl) (fun x e H1 Q1 he s q => ?_) (fun D ws H1 hD e1 hlen => ?_)
  · obtain ⟨a, r, rfl, ha⟩ := rd0 he s
    exact ⟨_, rfl, _, _, _, .int e.s, rfl, rfl, SqL.of ha, (show atI _ ((0 : Nat) : Int) = _ from atI_nat rfl), _, _, rfl, rfl, _, rfl, q⟩
  refine ⟨_, _, rfl, .inl ⟨_, SqL.of hD, rfl⟩, _, _, rfl, rfl, _, rfl, ?_⟩
  have ez : decide ((0 : Int) < (ws.length : Nat)) = !(ps.all fun e => decide (e.s ≤ 1)) := by rw [hlen, filter_pos, any_not]
  show if decide ((0 : Int) < (ws.length : Nat)) = true then _ else _
  rw [ez]
  refine iteB (fun g => ?_) (fun g => ?_)
  · refine bad ?_ _ e1
    unfold goodE
    rw [not_t g, Bool.false_and, Bool.and_false, Bool.and_false]
  have ls := not_f g
  have hp1 := e1 _ _ hp
  refine ⟨_, rfl, _, _, rfl, .inl ⟨_, SqL.of hp1, rfl⟩, vs.length, rfl, by omega, by omega, for_range (n := vs.length) (fun i σ' H2 => ∃ a4 a5 a6 a7 : Option V, σ' = [some (.bl c), some (.ref p), some (.int (if c then 8 else 12)), none, a4, a5, a6, a7] ∧ H2 = H1 ∧ sepE c [] (ps.take i) = true) ⟨_, _, _, _, rfl, rfl, rfl⟩ ?_ ?_⟩
  · rintro i σ' H2 hi ⟨a4, a5, a6, a7, rfl, rfl, hs⟩
    have hiv : vs[i]? = some vs[i] := List.getElem?_eq_getElem hi
    obtain ⟨e, he, hpe⟩ := pair_at pp hiv
    obtain ⟨ae, re, eae, hae⟩ := rd0 hpe e1
    have ati : atI vs ((0 : Int) + (i : Nat)) = some (.ref ae) := by rw [Int.zero_add, ← eae]; exact atI_nat hiv
    refine ⟨_, rfl, (0 : Int) + (i : Nat), rfl, by omega, by omega, ?_⟩
    have ei : ((0 : Int) + (i : Nat)).toNat = i := by omega
    rw [ei]
    refine for_range (n := i) (fun j σ' H3 => ∃ a5 a6 a7 : Option V, σ' = [some (.bl c), some (.ref p), some (.int (if c then 8 else 12)), none, some (.int ((0 : Int) + (i : Nat))), a5, a6, a7] ∧ H3 = H2 ∧ ((ps.take i).take j).all (fun o => !decide (e.n = o.n) && (c || !(pre2 e.w o.w))) = true) ⟨_, _, _, rfl, rfl, rfl⟩ ?_ ?_
    · rintro j σ' H3 hj ⟨a5, a6, a7, rfl, rfl, hall⟩
      have hjv : vs[j]? = some (vs[j]'(by omega)) := List.getElem?_eq_getElem _
      obtain ⟨o, ho, hpo⟩ := pair_at pp hjv
      obtain ⟨ao, ro, eao, hao⟩ := rd0 hpo e1
      have atj : atI vs ((0 : Int) + (j : Nat)) = some (.ref ao) := by rw [Int.zero_add, ← eao]; exact atI_nat hjv
      have ho2 : (ps.take i)[j]? = some o := by rw [List.getElem?_take, if_pos hj]; exact ho
      have sbad : (!decide (e.n = o.n) && (c || !(pre2 e.w o.w))) = false → goodE c ps = false := fun z => by
        unfold goodE
        rw [sepE_bad he (allP_bad ho2 z), Bool.false_and, Bool.and_false, Bool.and_false, Bool.and_false]
      refine ⟨_, rfl, _, rfl, _, _, _, _, rfl, rfl, SqL.of hp1, ati, _, _, _, .str e.w, rfl, rfl, SqL.of hae, (show atI _ ((1 : Nat) : Int) = _ from atI_nat rfl), ?_⟩
      refine ⟨_, rfl, _, rfl, _, _, _, _, rfl, rfl, SqL.of hp1, atj, _, _, _, .str o.w, rfl, rfl, SqL.of hao, (show atI _ ((1 : Nat) : Int) = _ from atI_nat rfl), ?_⟩
      refine ⟨_, rfl, _, rfl, _, _, _, _, rfl, rfl, SqL.of hp1, ati, _, _, _, .str e.n, rfl, rfl, SqL.of hae, (show atI _ ((2 : Nat) : Int) = _ from atI_nat rfl), _, rfl, _, rfl, _, _, _, _, rfl, rfl, SqL.of hp1, atj, _, _, _, .str o.n, rfl, rfl, SqL.of hao, (show atI _ ((2 : Nat) : Int) = _ from atI_nat rfl), rfl, _, rfl, ?_⟩
      rw [dS]
      refine iteB (fun g => ?_) (fun g => ?_)
      · exact bad (sbad (by rw [g]; rfl)) _ e1
      cases c with
      | true =>
        refine ⟨_, rfl, _, rfl, iteF (iteF ⟨_, _, _, rfl, rfl, allP_step hall ho2 (by rw [g]; rfl)⟩)⟩
      | false =>
        refine ⟨_, rfl, _, rfl, iteY ?_⟩
        refine ⟨_, rfl, ⟨_, rfl⟩, _, rfl, _, _, rfl, rfl, _, rfl, iteB (fun g1 => iteY ?_) (fun g1 => ?_)⟩
        · exact bad (sbad (by rw [g]; unfold pre2; rw [g1]; rfl)) _ e1
        refine ⟨_, rfl, ⟨_, rfl⟩, _, rfl, _, _, rfl, rfl, _, rfl, iteB (fun g2 => ?_) (fun g2 => ?_)⟩
        · exact bad (sbad (by rw [g]; unfold pre2; rw [g1, g2]; rfl)) _ e1
        · exact ⟨_, _, _, rfl, rfl, allP_step hall ho2 (by rw [g]; unfold pre2; rw [g1, g2]; rfl)⟩
    · rintro σ' H3 ⟨a5, a6, a7, rfl, rfl, hall⟩
      have hlt : (ps.take i).length = i := by rw [List.length_take]; omega
      rw [show (ps.take i).take i = ps.take i from by rw [List.take_take, Nat.min_self]] at hall
      exact ⟨_, _, _, _, rfl, rfl, sepE_step he hs hall⟩
  rintro σ' H2 ⟨a4, a5, a6, a7, rfl, rfl, hs⟩
  rw [lp, List.take_length] at hs
  refine ⟨fun σ' H3 => c = false ∧ (∃ a3, σ' = [some (.bl c), some (.ref p), some (.int (if c then 8 else 12)), a3, a4, a5, a6, a7]) ∧ H3 = H2, ?_, ?_⟩
  · cases c with
    | false => exact ⟨_, rfl, _, rfl, iteF ⟨rfl, ⟨_, rfl⟩, rfl⟩⟩
    | true =>
      refine ⟨_, rfl, _, rfl, iteY ?_⟩
      have lpos : 0 < ps.length := by have := of_decide_eq_true l1; omega
      have hk : vs.length - 1 < vs.length := by omega
      have hkv : vs[vs.length - 1]? = some vs[vs.length - 1] := List.getElem?_eq_getElem hk
      obtain ⟨e, he, hpe⟩ := pair_at pp hkv
      obtain ⟨ae, re, eae, hae⟩ := rd0 hpe e1
      have atk : atI vs ((vs.length : Nat) - 1 : Int) = some (.ref ae) := by
        have q : ((vs.length : Nat) - 1 : Int) = ((vs.length - 1 : Nat) : Int) := by omega
        rw [q, ← eae]
        exact atI_nat hkv
      refine ⟨_, rfl, _, rfl, _, _, rfl, .inl ⟨_, SqL.of hp1, rfl⟩, _, _, rfl, rfl, _, _, _, _, rfl, rfl, SqL.of hp1, atk, _, _, _, .int e.s, rfl, rfl, SqL.of hae, (show atI _ ((0 : Nat) : Int) = _ from atI_nat rfl), rfl, ?_⟩
      rw [dI]
      have gl : ps.getLast? = some e := by
        rw [List.getLast?_eq_getElem?, ← lp]
        exact he
      have eg : goodE true ps = decide (e.s = 0) := by
        unfold goodE
        rw [l1, l2, ls, hs, gl]
        rfl
      rw [eg] at k
      exact k _ e1
  rintro σ' H3 ⟨rfl, ⟨a3, rfl⟩, rfl⟩
  refine q_retLen ?_
  refine lc_filter (fun e => decide (e.s = 0)) (fun v e => PlAt H' v e) rfl hp1 pp (by omega) (fun x => rfl) (fun x => rfl) (fun x e H1' Q1 he s q => ?_) (fun D2 ws2 H4 hD2 e4 hlen2 => ?_)
  · obtain ⟨a, r, rfl, ha⟩ := rd0 he (e1.trans s)
    refine ⟨_, rfl, _, _, _, .int e.s, rfl, rfl, SqL.of ha, (show atI _ ((0 : Nat) : Int) = _ from atI_nat rfl), rfl, _, rfl, ?_⟩
    rw [dI]
    exact q
  refine ⟨_, _, rfl, .inl ⟨_, SqL.of hD2, rfl⟩, _, _, rfl, rfl, ?_⟩
  have eg : goodE false ps = decide ((0 : Int) < (ws2.length : Nat)) := by
    rw [hlen2, filter_pos]
    unfold goodE
    rw [l1, l2, ls, hs]
    rfl
  rw [eg] at k
  exact k _ (e1.trans e4)
theorem kb0_Row___init__ {K : PySem.W.Frag} {mg : Str → Option Value} {A : Ad} (T : Txt K mg A) : KBn K A.d_Row___init__ ["self", "parts"] 1 ["parts"] (fun us ws => pick [0, 1] (us ++ ws)) (fun vs zs => pick [0, 1] (vs ++ zs)) :=
  fun_kbn [0, 1] T.F_Row___init__ fun _ _ _ _ _ _ us ws h1 h2 => match us, ws, h1, h2 with | [_], [_], _, _ => rfl
theorem kb1_Choice___init__ {K : PySem.W.Frag} {mg : Str → Option Value} {A : Ad} (T : Txt K mg A) : KBn K A.d_Choice___init__ ["self", "ways"] 1 ["ways"] (fun us ws => pick [0, 1] (us ++ ws)) (fun vs zs => pick [0, 1] (vs ++ zs)) :=
  fun_kbn [0, 1] T.F_Choice___init__ fun _ _ _ _ _ _ us ws h1 h2 => match us, ws, h1, h2 with | [_], [_], _, _ => rfl
theorem ok__law_make (T : Txt K mg A) : FnOk P w K mg base (L2.CX P w) 5 A.f__law_make A.d__law_make ["rows", "passed"] (sp__law_make K A) := by
  refine T.F__law_make.okX sc__law_make (fun vs H Q E h => sp2_len h) (fun cdv A0 outer s H vs Q E hr h => ?_)
  have nd := sc__law_make.nd
  refine ⟨_, (pss_cons (ps_if (pt_val (pv 0)) (pss_one (ps_ret (pe_fld (by exact (pe_makeKS T.mk_Row (ok_Row___init__ T) (hr.mono (by decide)) (by rfl) T.mg_Row (kb0_Row___init__ T) (fun σ => passAt (W := fun cls d _ H => E cls d H) (takes_of rfl rfl rfl rfl) σ) (by exact (pk_cons (pv 1) pk_nil)))) rfl))) pss_nil)
      (pss_one (ps_ret (pe_fld (by exact (pe_makeKS T.mk_Choice (ok_Choice___init__ T) (hr.mono (by decide)) (by rfl) T.mg_Choice (kb1_Choice___init__ T) (fun σ => passAt (W := fun cls d _ H => E cls d H) (takes_of rfl rfl rfl rfl) σ) (by exact (pk_cons (pv 1) pk_nil)))) rfl)))), ?_⟩
  clear nd hr
  replace h := sp2_of h
  obtain ⟨v_rows, v_passed, rfl, h⟩ := h

  obtain ⟨c, ot, rfl, hs, k⟩ := h
  cases c
  · refine ⟨_, rfl, _, rfl, iteF ?_⟩
    refine ⟨_, rfl, rfl, fun o dx h1 h2 ne => ⟨_, _, rfl, H, o, ot, rfl, Fresh.mk' h1 h2 ne, hs, made_cases (fun p ep H1 dd e1 hd => ?_) (fun kd ek H1 e1 hk => ⟨rfl, ?_⟩)⟩⟩
    · rw [mkCR_f, ep] at k
      exact k _ _ e1 hd
    · obtain ⟨ts, rfl, hok, rfl⟩ := mkSeq_ok' ek
      rw [mkCR_f, ek] at k
      cases hk with
      | choice ob et hks _ =>
        obtain ⟨dx2, fs, hx, lk⟩ := ob
        exact ⟨o, _, dx2, fs, _, rfl, hx, T.cl_Choice, T.n_Choice_ways, lk _ (List.mem_cons_self ..), k _ _ H1 e1 et hks⟩
  · refine ⟨_, rfl, _, rfl, iteY ?_⟩
    refine ⟨_, rfl, rfl, fun o dx h1 h2 ne => ⟨_, _, rfl, H, o, ot, rfl, Fresh.mk' h1 h2 ne, hs, made_cases (fun p ep H1 dd e1 hd => ?_) (fun kd ek H1 e1 hk => ⟨rfl, ?_⟩)⟩⟩
    · rw [mkCR_t, ep] at k
      exact k _ _ e1 hd
    · obtain ⟨ts, rfl, hok, rfl⟩ := mkSeq_ok' ek
      rw [mkCR_t, ek] at k
      cases hk with
      | row ob et hks _ =>
        obtain ⟨dx2, fs, hx, lk⟩ := ob
        exact ⟨o, _, dx2, fs, _, rfl, hx, T.cl_Row, T.n_Row_parts, lk _ (List.mem_cons_self ..), k _ _ H1 e1 et hks⟩
theorem ok__law_told (T : Txt K mg A) : FnOk P w K mg base CX0 6 A.f__law_told A.d__law_told ["rows", "passed"] (sp__law_told K A) := by
  refine T.F__law_told.ok sc__law_told (fun vs H Q E h => sp2_len h) (fun cdv A0 outer s H vs Q E hr h => ?_)
  have nd := sc__law_told.nd
  refine ⟨_, (pss_one (ps_try_as (i := 2) rfl rfl nd rfl rfl ⟨rfl, by decide, Or.inl T.mg_BadKind⟩ takes0 (fun W pn xe tk pw => (pss_one (ps_ret (pe_tup (pa_cons pe_str (pa_cons (by exact (pe_callS (ok__law_make T) (hr.mono (by decide)) (by rfl) T.mg__law_make T.k__law_make T.b__law_make (fun σ => passAt tk σ) (by exact (pa_cons (pv 0) (pa_cons (pv 1) pa_nil))))) pa_nil)))))) (fun a oe cls d pn hz hf => (pss_one (ps_ret (pe_tup (pa_cons pe_str (pa_cons (pe_xf T.xf_BadKind T.nx_BadKind_part hz hf (pv 2)) pa_nil)))))))), ?_⟩
  clear nd hr
  replace h := sp2_of h
  obtain ⟨v_rows, v_passed, rfl, h⟩ := h

  obtain ⟨c, o, rfl, hs, k⟩ := h
  refine ⟨_, rfl, _, rfl, _, _, rfl, c, o, rfl, hs, madet_cases (fun p ep H1 dd e1 hd => ?_) (fun ts eo hok t vs H1 e1 ht hks => ?_)⟩
  · exact ⟨true, T.te_BadKind, fun _ a ha => ⟨_, rfl, rfl, rfl, dd, _, .str p, rfl, hd, by simp [List.lookup], (by show 2 ≤ sizeLine; rw [sizeLine_eq]; decide), fun q hq => k q _ (e1.trans (same_new hq)) (by rw [ep]; exact upd_same)⟩, fun z => nomatch z⟩
  · subst eo
    exact ⟨(by show 2 ≤ sizeLine; rw [sizeLine_eq]; decide), fun q hq => k q _ (e1.trans (same_new hq)) (told_ok hok upd_same ((same_new hq) _ _ ht) (KAts.keep (KI.new hq) hks))⟩
theorem ok__law_is_right (T : Txt K mg A) : FnOk P w K mg base CX0 1 A.f__law_is_right A.d__law_is_right ["rows", "which", "made"] (sp__law_is_right K A) := by
  refine T.F__law_is_right.ok sc__law_is_right (fun vs H Q E h => sp3_len h) (fun cdv A0 outer s H vs Q E hr h => ?_)
  have nd := sc__law_is_right.nd
  refine ⟨_, (pss_cons (ps_if (PW.pt (pw_and (pt_val (pv 0)) (pw_and1 (pt_cmpR op_eq (pv 1) pe_int (nomark _))))) (pss_one (ps_ret (pe_callB call_isi (by rfl) T.b_isinstance (by decide +kernel) (pa_cons (pv 2) (pa_cons (pe_glob (v := .ref A.c_Part) (by rfl) T.mg_Part rfl) pa_nil))))) pss_nil)
      (pss_cons (ps_if (pt_val (pv 0)) (pss_one (ps_ret (pe_callB call_isi (by rfl) T.b_isinstance (by decide +kernel) (pa_cons (pv 2) (pa_cons (pe_glob (v := .ref A.c_Room) (by rfl) T.mg_Room rfl) pa_nil))))) pss_nil)
      (pss_cons (ps_if (pt_cmpR op_eq (pv 1) pe_int (nomark _)) (pss_one (ps_ret (pe_callB call_isi (by rfl) T.b_isinstance (by decide +kernel) (pa_cons (pv 2) (pa_cons (pe_glob (v := .ref A.c_Way) (by rfl) T.mg_Way rfl) pa_nil))))) pss_nil)
      (pss_one (ps_ret (pe_callB call_isi (by rfl) T.b_isinstance (by decide +kernel) (pa_cons (pv 2) (pa_cons (pe_glob (v := .ref A.c_Door) (by rfl) T.mg_Door rfl) pa_nil)))))))), ?_⟩
  clear nd hr
  replace h := sp3_of h
  obtain ⟨v_rows, v_which, v_made, rfl, h⟩ := h

  obtain ⟨c, i, t, rfl, rfl, ht, k⟩ := h
  cases c with
  | true =>
    refine ⟨_, rfl, _, rfl, iteY ?_⟩
    refine ⟨_, rfl, rfl, _, rfl, iteB (fun g => ?_) (fun g => ?_)⟩
    · rw [dI] at g
      rw [if_pos rfl, if_pos (of_decide_eq_true g)] at k
      rw [← isa_kc T t .part] at k
      exact ⟨_, rfl, _, _, _, _, _, rfl, .own _, (ht.vt T).tyx, kit_isaO (ht.vt T).tag (T.kco .part), k⟩
    rw [dI] at g
    rw [if_pos rfl, if_neg (of_decide_eq_false g)] at k
    refine ⟨_, rfl, _, rfl, iteY ?_⟩
    rw [← isa_kc T t .room] at k
    exact ⟨_, rfl, _, _, _, _, _, rfl, .own _, (ht.vt T).tyx, kit_isaO (ht.vt T).tag (T.kco .room), k⟩
  | false =>
    refine ⟨_, rfl, _, rfl, iteF (iteF ?_)⟩
    refine ⟨_, rfl, _, rfl, iteF ?_⟩
    refine ⟨_, rfl, rfl, _, rfl, iteB (fun g => ?_) (fun g => ?_)⟩
    · rw [dI] at g
      rw [if_neg (by decide), if_pos (of_decide_eq_true g)] at k
      rw [← isa_kc T t .way] at k
      exact ⟨_, rfl, _, _, _, _, _, rfl, .own _, (ht.vt T).tyx, kit_isaO (ht.vt T).tag (T.kco .way), k⟩
    rw [dI] at g
    rw [if_neg (by decide), if_neg (of_decide_eq_false g)] at k
    rw [← isa_kc T t .door] at k
    exact ⟨_, rfl, _, _, _, _, _, rfl, .own _, (ht.vt T).tyx, kit_isaO (ht.vt T).tag (T.kco .door), k⟩
theorem ok__law_kept (T : Txt K mg A) : FnOk P w K mg base CX0 8 A.f__law_kept A.d__law_kept ["rows", "given", "plain", "told"] (sp__law_kept K A) := by
  refine T.F__law_kept.ok sc__law_kept (fun vs H Q E h => sp4_len h) (fun cdv A0 outer s H vs Q E hr h => ?_)
  have nd := sc__law_kept.nd
  refine ⟨_, (pss_cons (ps_if (PW.pt (pw_or (pt_not (pt_val (pe_callB call_isi (by rfl) T.b_isinstance (by decide +kernel) (pa_cons (pv 3) (pa_cons (pe_bltn (v := .ty "tuple") (by rfl) T.b_tuple (by decide +kernel) rfl) pa_nil))))) (pw_or1 (pt_cmpR op_ne (pe_callB call_len (by rfl) T.b_len (by decide +kernel) (pa_cons (pv 3) pa_nil)) (pe_callB call_len (by rfl) T.b_len (by decide +kernel) (pa_cons (pv 2) pa_nil)) (nomark _))))) (pss_one (ps_ret pe_bl)) pss_nil)
      (pss_cons (ps_for PassesOwn.never rfl (pi_range1 (by rfl) T.b_range (pa_cons (pe_callB call_len (by rfl) T.b_len (by decide +kernel) (pa_cons (pv 2) pa_nil)) pa_nil)) (pg_name (i := 4) nd rfl (by first | exact Or.inl rfl | exact Or.inr rfl)) (pss_cons (ps_if (pt_not (pt_val (pe_call (ok__law_is_right T) (hr.mono (by decide)) (by rfl) T.mg__law_is_right T.k__law_is_right T.b__law_is_right .nil pass0 (pa_cons (pv 0) (pa_cons (pe_ix ix_list (pe_ix ix_list (pv 2) (pv 4) (fun _ _ => rfl)) pe_int (fun _ _ => rfl)) (pa_cons (pe_ix ix_tup (pv 3) (pv 4) (fun _ _ => rfl)) pa_nil)))))) (pss_one (ps_ret pe_bl)) pss_nil)
      (pss_one (ps_if (pt_not (pt_cmpR (op_eqKd T (.cons (c := .way) (ok_Way___eq__ T) T.m_Way___eq__ T.i_Way___eq__ T.b_Way___eq__ (hr.mono (by decide)) (.cons (c := .door) (ok_Door___eq__ T) T.m_Door___eq__ T.i_Door___eq__ T.b_Door___eq__ (hr.mono (by decide)) (.cons (c := .part) (ok_Part___eq__ T) T.m_Part___eq__ T.i_Part___eq__ T.b_Part___eq__ (hr.mono (by decide)) (.cons (c := .room) (ok_Room___eq__ T) T.m_Room___eq__ T.i_Room___eq__ T.b_Room___eq__ (hr.mono (by decide)) .nil))))) (pe_ix ix_tup (pv 3) (pv 4) (fun _ _ => rfl)) (pe_call (ok__law_one T) (hr.mono (by decide)) (by rfl) T.mg__law_one T.k__law_one T.b__law_one .nil pass0 (pa_cons (pv 0) (pa_cons (pe_ix ix_list (pv 1) (pv 4) (fun _ _ => rfl)) pa_nil))) (nomark _))) (pss_one (ps_ret pe_bl)) pss_nil))))
      (pss_one (ps_ret pe_bl)))), ?_⟩
  clear nd hr
  replace h := sp4_of h
  obtain ⟨v_rows, v_given, v_plain, v_told, rfl, h⟩ := h

  obtain ⟨c, ga, pa, ta, gs, es, pl, vs, rfl, rfl, rfl, rfl, hg, pg, hp, pp, ht, ks, hok, k⟩ := h
  have lg := pair_len pg
  have lp := pair_len pp
  have lv := kats_len ks
  have ll := ok_len hok
  rw [List.length_map] at lp lv ll
  have vt : VT K H (.ref ta) (.type "tuple") := .tup ht
  refine ⟨_, rfl, _, _, _, _, _, rfl, .ty _, vt.tyx, kit_isa vt.tag (by decide), _, rfl, iteB (fun z => absurd z (by rw [isa_self]; decide)) (fun _ => ?_)⟩
  refine ⟨_, rfl, _, _, rfl, .inr ⟨_, SqT.of ht, rfl⟩, _, rfl, _, _, rfl, .inl ⟨_, SqL.of hp, rfl⟩, rfl, _, rfl, iteB (fun z => ?_) (fun _ => ?_)⟩
  · rw [dI, lv, lp, decide_eq_true rfl] at z
    cases z
  refine ⟨_, rfl, _, _, rfl, .inl ⟨_, SqL.of hp, rfl⟩, pl.length, rfl, by omega, by omega, for_range (n := pl.length) (fun i σ' H' => ∃ kv : Option V, σ' = [some (.bl c), some (.ref ga), some (.ref pa), some (.ref ta), kv] ∧ Same H H') ⟨_, rfl, fun _ _ z => z⟩ ?_ ?_⟩
  · rintro i σ' H1 hi ⟨kv, rfl, e1⟩
    have hip : pl[i]? = some pl[i] := List.getElem?_eq_getElem hi
    have hiv : vs[i]? = some (vs[i]'(by omega)) := List.getElem?_eq_getElem _
    have hig : gs[i]? = some (gs[i]'(by omega)) := List.getElem?_eq_getElem _
    obtain ⟨e, he, hge⟩ := pair_at pg hig
    obtain ⟨pe, hpe, hpl⟩ := pair_at pp hip
    obtain ⟨kd, hkd, hka⟩ := kats_at ks hiv
    rw [List.getElem?_map, he] at hpe hkd
    have e1' := Option.some.inj hpe
    have e2' := Option.some.inj hkd
    subst e1' e2'
    have em : e ∈ es := List.mem_of_getElem? he
    obtain ⟨ec, ek⟩ := ent_cls hge.1 (ok_each hok _ (List.mem_map.mpr ⟨e, em, rfl⟩))
    obtain ⟨a, r, ea, ha, _⟩ := hpl
    have hka1 := hka.keep (KI.same e1)
    refine ⟨_, rfl, _, rfl, _, rfl, _, _, _, _, rfl, rfl, SqL.of (e1 _ _ hp), (by rw [Int.zero_add]; exact atI_nat hip), _, _, _, .int (plE c e).s, ea, rfl, SqL.of (e1 _ _ ha), (show atI _ ((0 : Nat) : Int) = _ from atI_nat rfl), _, rfl, _, rfl, _, _, _, _, rfl, rfl, SqT.of (e1 _ _ ht), (by rw [Int.zero_add]; exact atI_nat hiv), _, _, _, rfl, c, _, .k (entT c e).kd, rfl, rfl, hka1, _, rfl, ?_⟩
    rw [← ek, ec, decide_eq_true rfl]
    refine iteF ?_
    refine ⟨_, rfl, _, rfl, _, _, _, _, rfl, rfl, SqT.of (e1 _ _ ht), (by rw [Int.zero_add]; exact atI_nat hiv), _, rfl, _, rfl, _, rfl, _, _, _, _, rfl, rfl, SqL.of (e1 _ _ hg), (by rw [Int.zero_add]; exact atI_nat hig), _, _, rfl, c, e, rfl, hge.keepS e1, fun w H2 e2 hw => ?_⟩
    rw [ek] at hw ec
    exact eqkd_same (hka.keep (KI.same (e1.trans e2))) hw ec ent_cases ⟨_, rfl, iteF ⟨_, rfl, e1.trans e2⟩⟩
  · rintro σ' H1 ⟨kv, rfl, e1⟩
    exact k H1 e1
theorem ok__law_after_change (T : Txt K mg A) : FnOk P w K mg base CX0 8 A.f__law_after_change A.d__law_after_change ["rows", "given"] (sp__law_after_change K A) := by
  refine T.F__law_after_change.ok sc__law_after_change (fun vs H Q E h => sp2_len h) (fun cdv A0 outer s H vs Q E hr h => ?_)
  have nd := sc__law_after_change.nd
  refine ⟨_, (pss_cons (ps_setLc (i := 2) (own := [("entry", 3)]) (g := gName 3) (tt := tYes) (by rfl) nd rfl rfl (sw_true rfl rfl rfl (by decide +kernel)) (pi_list (pv 1)) (blkOk_by (own := [("entry", 3)]) (N := ["rows", "given", "passed", "entry", "row", "choice"]) (sc := defScope s__law_after_change) (by decide +kernel)) (fun _ _ _ _ _ => pg_name (i := 3) nd rfl (Or.inl rfl)) (fun _ _ _ _ _ => pts_nil) (fun _ _ _ _ _ => (pe_call (ok__law_one T) (hr.mono (by decide)) (by rfl) T.mg__law_one T.k__law_one T.b__law_one .nil pass0 (pa_cons (pv 0) (pa_cons (pv 3) pa_nil)))))
      (pss_cons (ps_if (pt_val (pv 0)) (pss_cons (ps_set (i := 4) nd rfl (by first | exact Or.inl rfl | exact Or.inr rfl) (by exact (pe_makeS T.mk_Row (ok_Row___init__ T) (hr.mono (by decide)) (by rfl) T.mg_Row T.b_Row___init__ .nil (fun σ => passL0 σ) (by exact (pa_cons (pv 2) pa_nil)))))
      (pss_cons (ps_expr (pe_bm PySem.F.plainAttrs_list PySem.F.slot_list_append PySem.F.type_list_append mt_append (pv 2) (pa_cons (by exact (pe_makeS T.mk_Part (ok_Part___init__ T) (hr.mono (by decide)) (by rfl) T.mg_Part T.b_Part___init__ .nil (fun σ => passL0 σ) (by exact (pa_cons pe_str (pa_cons (by exact (pe_makeS T.mk_Bits (ok_Bits___init__ T) (hr.mono (by decide)) (by rfl) T.mg_Bits T.b_Bits___init__ .nil (fun σ => passL0 σ) (by exact (pa_cons pe_int pa_nil)))) pa_nil))))) pa_nil)))
      (pss_one (ps_ret (pe_fld (pv 4) rfl))))) pss_nil)
      (pss_cons (ps_set (i := 5) nd rfl (by first | exact Or.inl rfl | exact Or.inr rfl) (by exact (pe_makeS T.mk_Choice (ok_Choice___init__ T) (hr.mono (by decide)) (by rfl) T.mg_Choice T.b_Choice___init__ .nil (fun σ => passL0 σ) (by exact (pa_cons (pv 2) pa_nil)))))
      (pss_cons (ps_asg (by exact (pe_makeS T.mk_Way (ok_Way___init__ T) (hr.mono (by decide)) (by rfl) T.mg_Way T.b_Way___init__ .nil (fun σ => passL0 σ) (by exact (pa_cons pe_str (pa_cons pe_str (pa_cons (pe_makeO T.mo_Nothing T.io_Nothing T.kc_Nothing (by rfl) T.mg_Nothing) pa_nil)))))) (pg_sub (pv 2) pe_int set_list))
      (pss_one (ps_ret (pe_fld (pv 5) rfl))))))), ?_⟩
  clear nd hr
  replace h := sp2_of h
  obtain ⟨v_rows, v_given, rfl, h⟩ := h

  obtain ⟨c, ga, gs, es, rfl, rfl, hg, pg, hok, k⟩ := h
  have lg := pair_len pg
  have ll := ok_len hok
  rw [List.length_map] at ll
  dsimp only [gName]
  refine q_setLc ?_
  refine lc_map (Th A K) (fun H1 H2 v b e t => t.keep (KI.same e)) th_set (entT c) (fun v e => EntAt A K H v e) rfl hg pg (by omega) (fun x => rfl) (fun x e H1 Q1 he e1 h1 => ⟨_, rfl, _, rfl, _, _, rfl, c, e, rfl, he.keepS e1, h1⟩) (fun D ws H1 hws hD e1 pw => ?_)
  have lw := pair_len pw
  rw [List.length_map] at lw
  have eks : (es.map (entT c)).map Td.kd = es.map fun e => (entT c e).kd := by rw [List.map_map]; rfl
  cases c
  · refine ⟨_, rfl, _, rfl, iteF ?_⟩
    refine ⟨_, rfl, fun o dx h1 h2 ne => ⟨_, _, rfl, H1, o, some _, rfl, Fresh.mk' h1 h2 ne, .lst hws pw (by omega), made_ok (mkSeq_ok hok) fun H2 e2 hk => ⟨rfl, ?_⟩⟩⟩
    refine fun o1 dx1 h3 h4 ne1 => ?_
    have hn0 : KAt A (upd (upd H2 dx1 (.own o1)) o1 (.ins A.c_Nothing dx1 [])) (.ref o1) .nothing := .nothing ⟨dx1, [], upd_same, fun p hp => by cases hp⟩
    refine fun o2 dx2 h5 h6 ne2 => ⟨_, _, _, _, rfl, _, o2, _, _, .k .nothing, rfl, Fresh.mk' h5 h6 ne2, .str _, .str _, short_0, short_a, hn0, made_ok (kd := .way "0" "a" .nothing) way_0a fun H3 e3 hk1 => ⟨rfl, ?_⟩⟩
    have e13 := (e2.trans (Fresh.mk' (C := A.c_Nothing) h3 h4 ne1).s).trans e3
    have hws3 := e13 _ _ hws
    refine ⟨_, rfl, D, ws, _, 0, rfl, rfl, hws3, by unfold ixN; rw [if_pos (by decide), if_pos (by omega)]; rfl, ?_⟩
    have hk3 := (hk.keep (KI.same ((Fresh.mk' (C := A.c_Nothing) h3 h4 ne1).s.trans e3))).keep (KI.setL hws3 (ys := ws.set 0 (.ref o2)))
    cases hk3 with
    | choice ob et hks _ =>
      obtain ⟨dx2, fs, hx, lk⟩ := ob
      rw [eks] at hks
      exact ⟨_, rfl, o, _, dx2, fs, _, rfl, hx, T.cl_Choice, T.n_Choice_ways, lk _ (List.mem_cons_self ..), k _ _ _ (same_put hD (e1.trans e13)) et hks⟩
  · refine ⟨_, rfl, _, rfl, iteY ?_⟩
    refine ⟨_, rfl, fun o dx h1 h2 ne => ⟨_, _, rfl, H1, o, some _, rfl, Fresh.mk' h1 h2 ne, .lst hws pw (by omega), made_ok (mkSeq_ok hok) fun H2 e2 hk => ⟨rfl, ?_⟩⟩⟩
    have hws2 := e2 _ _ hws
    refine ⟨_, rfl, .inl ⟨rfl, _, SqL.of hws2⟩, ?_⟩
    refine fun o1 dx1 h3 h4 ne1 => ⟨_, _, rfl, H2, o1, _, rfl, Fresh.mk' h3 h4 ne1, .int _, made_ok (kd := .bits 1) rfl fun H3 e3 hk1 => ⟨rfl, ?_⟩⟩
    refine fun o2 dx2 h5 h6 ne2 => ⟨_, _, _, rfl, H3, o2, _, .k (.bits 1), rfl, Fresh.mk' h5 h6 ne2, .str _, short_lit (by decide +kernel), hk1, made_ok (kd := .part "z" (.bits 1)) (part_ok (by decide +kernel) rfl) fun H4 e4 hk2 => ⟨rfl, ?_⟩⟩
    have hws4 := e4 _ _ (e3 _ _ hws2)
    refine ⟨D, ws, _, rfl, rfl, hws4, by rw [sizeLine_eq]; omega, ?_⟩
    have hk3 := (hk.keep (KI.same (e3.trans e4))).keep (KI.setL hws4 (ys := ws ++ [.ref o2]))
    cases hk3 with
    | row ob et hks _ =>
      obtain ⟨dx2, fs, hx, lk⟩ := ob
      rw [eks] at hks
      exact ⟨_, rfl, o, _, dx2, fs, _, rfl, hx, T.cl_Row, T.n_Row_parts, lk _ (List.mem_cons_self ..), k _ _ _ (same_put hD (e1.trans (e2.trans (e3.trans e4)))) et hks⟩
theorem ok_law (T : Txt K mg A) : FnOk P w K mg base CX0 9 A.f_law A.d_law ["script"] (sp_law K A) := by
  refine T.F_law.ok sc_law (fun vs H Q E h => sp1_len h) (fun cdv A0 outer s H vs Q E hr h => ?_)
  have nd := sc_law.nd
  refine ⟨_, (pss_cons (ps_set (i := 1) nd rfl (by first | exact Or.inl rfl | exact Or.inr rfl) (pe_call (ok__law_start T) (hr.mono (by decide)) (by rfl) T.mg__law_start T.k__law_start T.b__law_start .nil pass0 (pa_cons (pv 0) pa_nil)))
      (pss_cons (ps_for PassesOwn.never rfl (pi_list (pe_lst (pa_cons pe_bl (pa_cons pe_bl (pa_cons pe_bl (pa_cons pe_bl pa_nil)))))) (pg_name (i := 2) nd rfl (by first | exact Or.inl rfl | exact Or.inr rfl)) (pss_cons (ps_set (i := 3) nd rfl (by first | exact Or.inl rfl | exact Or.inr rfl) (pe_call (ok__law_rows T) (hr.mono (by decide)) (by rfl) T.mg__law_rows T.k__law_rows T.b__law_rows .nil pass0 (pa_cons (pv 1) (pa_cons (pv 2) pa_nil))))
      (pss_cons (ps_set (i := 4) nd rfl (by first | exact Or.inl rfl | exact Or.inr rfl) (pe_call (ok__law_pull T) (hr.mono (by decide)) (by rfl) T.mg__law_pull T.k__law_pull T.b__law_pull .nil pass0 (pa_cons (pv 1) (pa_cons pe_int pa_nil))))
      (pss_cons (ps_set (i := 5) nd rfl (by first | exact Or.inl rfl | exact Or.inr rfl) (pe_tup (pa_cons pe_str (pa_cons (pe_ix ix_list (pe_lst (pa_cons pe_str (pa_cons pe_str pa_nil))) (pe_callTy call_int1 (by rfl) T.b_int (by decide +kernel) (pa_cons (pv 2) pa_nil)) (fun _ _ => rfl)) pa_nil))))
      (Evl.pss_cut (ps_if (PW.pt (pw_and (pt_cmpR op_eq (pv 4) pe_int (nomark _)) (pw_and1 (pt_not (pt_val (pe_call (ok__law_same T) (hr.mono (by decide)) (by rfl) T.mg__law_same T.k__law_same T.b__law_same .nil pass0 (pa_cons (pe_call (ok__law_told T) (hr.mono (by decide)) (by rfl) T.mg__law_told T.k__law_told T.b__law_told .nil pass0 (pa_cons (pv 2) (pa_cons (pe_call (ok__law_odd T) (hr.mono (by decide)) (by rfl) T.mg__law_odd T.k__law_odd T.b__law_odd .nil pass0 (pa_cons (pv 1) pa_nil)) pa_nil))) (pa_cons (pv 5) pa_nil)))))))) (pss_one (ps_ret pe_bl)) pss_nil)
      (pss_cons (ps_setLc (i := 6) (own := [("entry", 7)]) (g := gName 7) (tt := tYes) (by rfl) nd rfl rfl (sw_true rfl rfl rfl (by decide +kernel)) (pi_list (pv 3)) (blkOk_by (own := [("entry", 7)]) (N := ["script", "state", "rows", "given", "shape", "wrong", "passed", "entry", "told", "plain"]) (sc := defScope s_law) (by decide +kernel)) (fun _ _ _ _ _ => pg_name (i := 7) nd rfl (Or.inl rfl)) (fun _ _ _ _ _ => pts_nil) (fun _ _ _ _ _ => (pe_call (ok__law_one T) (hr.mono (by decide)) (by rfl) T.mg__law_one T.k__law_one T.b__law_one .nil pass0 (pa_cons (pv 2) (pa_cons (pv 7) pa_nil)))))
      (Evl.pss_cut (ps_if (pt_cmpR op_lt (pv 4) pe_int (nomark _)) (pss_one (ps_set (i := 6) nd rfl (by first | exact Or.inl rfl | exact Or.inr rfl) (pe_callTy call_tuple_of (by rfl) T.b_tuple (by decide +kernel) (pa_cons (pv 6) pa_nil)))) pss_nil)
      (pss_cons (ps_set (i := 8) nd rfl (by first | exact Or.inl rfl | exact Or.inr rfl) (pe_call (ok__law_told T) (hr.mono (by decide)) (by rfl) T.mg__law_told T.k__law_told T.b__law_told .nil pass0 (pa_cons (pv 2) (pa_cons (pv 6) pa_nil))))
      (pss_cons (ps_setLc (i := 9) (own := [("entry", 7)]) (g := gName 7) (tt := tYes) (by rfl) nd rfl rfl (sw_true rfl rfl rfl (by decide +kernel)) (pi_list (pv 3)) (blkOk_by (own := [("entry", 7)]) (N := ["script", "state", "rows", "given", "shape", "wrong", "passed", "entry", "told", "plain"]) (sc := defScope s_law) (by decide +kernel)) (fun _ _ _ _ _ => pg_name (i := 7) nd rfl (Or.inl rfl)) (fun _ _ _ _ _ => pts_nil) (fun _ _ _ _ _ => (pe_call (ok__law_plain T) (hr.mono (by decide)) (by rfl) T.mg__law_plain T.k__law_plain T.b__law_plain .nil pass0 (pa_cons (pv 2) (pa_cons (pv 7) pa_nil)))))
      (pss_cons (ps_if (pt_not (pt_val (pe_call (ok__law_good T) (hr.mono (by decide)) (by rfl) T.mg__law_good T.k__law_good T.b__law_good .nil pass0 (pa_cons (pv 2) (pa_cons (pv 9) pa_nil))))) (pss_cons (ps_if (pt_not (pt_val (pe_call (ok__law_same T) (hr.mono (by decide)) (by rfl) T.mg__law_same T.k__law_same T.b__law_same .nil pass0 (pa_cons (pv 8) (pa_cons (pv 5) pa_nil))))) (pss_one (ps_ret pe_bl)) pss_nil)
      (pss_one ps_continue)) pss_nil)
      (pss_cons (ps_if (PW.pt (pw_or (pt_cmpR op_ne (pe_ix ix_tup (pv 8) pe_int (fun _ _ => rfl)) pe_str (nomark _)) (pw_or1 (pt_not (pt_val (pe_call (ok__law_kept T) (hr.mono (by decide)) (by rfl) T.mg__law_kept T.k__law_kept T.b__law_kept .nil pass0 (pa_cons (pv 2) (pa_cons (pv 3) (pa_cons (pv 9) (pa_cons (pe_ix ix_tup (pv 8) pe_int (fun _ _ => rfl)) pa_nil)))))))))) (pss_one (ps_ret pe_bl)) pss_nil)
      (pss_one (ps_if (pt_not (pt_val (pe_call (ok__law_kept T) (hr.mono (by decide)) (by rfl) T.mg__law_kept T.k__law_kept T.b__law_kept .nil pass0 (pa_cons (pv 2) (pa_cons (pv 3) (pa_cons (pv 9) (pa_cons (pe_call (ok__law_after_change T) (hr.mono (by decide)) (by rfl) T.mg__law_after_change T.k__law_after_change T.b__law_after_change .nil pass0 (pa_cons (pv 2) (pa_cons (pv 3) pa_nil))) pa_nil))))))) (pss_one (ps_ret pe_bl)) pss_nil)))))))))))))
      (pss_one (ps_ret pe_bl)))), ?_⟩
  clear nd hr
  replace h := sp1_of h
  obtain ⟨v_script, rfl, h⟩ := h

  obtain ⟨l, ns, rfl, hl, hn, k⟩ := h
  refine ⟨_, rfl, _, rfl, l, ns, rfl, hl, hn, fun d H1 hp hl2 e0 r0 => ?_⟩
  refine ⟨(by show 4 ≤ sizeLine; rw [sizeLine_eq]; decide), fun pL hpL => ⟨pL, rfl, ⟨_, SqL.of upd_same⟩, ?_⟩⟩
  have nL := r0.nep hpL
  refine for_it (walk_list (xs := [V.bl false, V.bl true, V.bl false, V.bl true])) (fun i σ' H' => ∃ a2 a3 a4 a5 a6 a7 a8 a9 : Option V, σ' = [some (.ref l), some (.ref d.p), a2, a3, a4, a5, a6, a7, a8, a9] ∧ H' pL = some (.lst [V.bl false, V.bl true, V.bl false, V.bl true]) ∧ Rng d H') ⟨_, _, _, _, _, _, _, _, rfl, upd_same, r0.new hpL⟩ (fun i σ' H' _ ⟨_, _, _, _, _, _, _, _, _, h, _⟩ => SqL.of h) ?_ ?_
  · rintro i x σ' H1 H2 hi ⟨a2, a3, a4, a5, a6, a7, a8, a9, rfl, hL, r⟩ ⟨rfl, hx⟩
    obtain ⟨c, rfl⟩ : ∃ c, x = .bl c := by
      have m := List.mem_of_getElem? hx
      simp only [List.mem_cons, List.not_mem_nil, or_false] at m
      rcases m with rfl | rfl | rfl | rfl <;> exact ⟨_, rfl⟩
    refine ⟨_, rfl, _, rfl, _, _, rfl, d, c, rfl, rfl, r, fun G vs es H3 nG hG pes l13 e3 r3 => ?_⟩
    have hL3 := e3 _ _ nL hL
    have okE : ∀ e ∈ es, e.ok := fun e he => by
      obtain ⟨j, hj, rfl⟩ := List.getElem_of_mem he
      have lp := pair_len pes
      obtain ⟨e2, h2, h3⟩ := pair_at pes (List.getElem?_eq_getElem (by omega : j < vs.length))
      rw [List.getElem?_eq_getElem hj] at h2
      rw [Option.some.inj h2]
      exact h3.1
    refine ⟨_, rfl, _, _, rfl, d, _, rfl, rfl, r3, by decide, small_log (by decide) (by decide), fun v4 H4 h0d h1d e4 r4 => ?_⟩
    have hL4 := e4 _ _ nL hL3
    have hG4 := e4 _ _ nG hG
    have pes4 := pair_mono (fun v e => EntAt.keepC r3 r4 e4) pes
    refine ⟨(by show 2 ≤ sizeLine; rw [sizeLine_eq]; decide), fun pW hpW => ⟨_, rfl, .inr ⟨c, rfl, _, _, _, .str (partN c), rfl, rfl, SqL.of upd_same, by cases c <;> rfl, (by show 2 ≤ sizeLine; rw [sizeLine_eq]; decide), fun q hq => ?_⟩⟩⟩
    have eW : Same H4 (upd (upd H4 pW (.lst [V.str "ways", V.str "parts"])) q (.tup [V.str "refused", V.str (partN c)])) := (same_new hpW).trans (same_new hq)
    have rW := r4.same eW
    refine ⟨fun σ' H' => σ' = [some (.ref l), some (.ref d.p), some (.bl c), some (.ref G), some (.int v4), some (.ref q), a6, a7, a8, a9] ∧ H' pL = some (.lst [V.bl false, V.bl true, V.bl false, V.bl true]) ∧ H' G = some (.lst vs) ∧ Paired (fun v e => EntAt A K H' v e) vs es ∧ H' q = some (.tup [V.str "refused", V.str (partN c)]) ∧ Rng d H', ?_, ?_⟩
    · refine ⟨_, rfl, rfl, _, rfl, iteB (fun _ => ?_) (fun _ => iteF ⟨rfl, eW _ _ hL4, eW _ _ hG4, pair_mono (fun v e h => EntAt.keepS h eW) pes4, upd_same, rW⟩)⟩
      refine ⟨_, rfl, _, rfl, _, rfl, d, rfl, rW, fun ov H6 oo e6 r6 => ?_⟩
      obtain ⟨o, hs, hbad⟩ := oo.seqs c
      have hq6 := e6 _ _ (r4.same (same_new hpW) |>.nep hq) (upd_same : (upd (upd H4 pW (.lst [V.str "ways", V.str "parts"])) q (.tup [V.str "refused", V.str (partN c)])) q = _)
      refine ⟨_, _, rfl, c, o, rfl, hs, fun q7 H7 e7 t7 => ?_⟩
      have t8 := told_bad hbad t7
      have atm : ∀ x ∈ ([V.str "refused", V.str (partN c)] : List V), Atom x := fun x hx => by
        simp only [List.mem_cons, List.not_mem_nil, or_false] at hx
        rcases hx with rfl | rfl <;> trivial
      refine ⟨_, rfl, _, _, rfl, q7, q, _, rfl, rfl, t8, e7 _ _ hq6, atm, by show 2 ≤ 10; decide, _, rfl, iteF ?_⟩
      have r4W := r4.same (same_new hpW (o := .lst [V.str "ways", V.str "parts"]))
      exact ⟨rfl, e7 _ _ (e6 _ _ nL (eW _ _ hL4)), e7 _ _ (e6 _ _ nG (eW _ _ hG4)), pair_mono (fun v e h => (EntAt.keepC rW r6 e6 (EntAt.keepS h eW)).keepS e7) pes4, e7 _ _ hq6, r6.same e7⟩
    clear hL4 hG4 pes4 eW rW hpW hq
    rintro σ' H5 ⟨rfl, hL5, hG5, pes5, hq5, r5⟩
    dsimp only [gName]
    refine q_setLc ?_
    refine lc_map (Th A K) (fun H1 H2 v b e t => t.keep (KI.same e)) th_set (entT c) (fun v e => EntAt A K H5 v e) rfl hG5 pes5 (by omega) (fun x => rfl) (fun x e H1 Q1 he e1 h1 => ⟨_, rfl, _, rfl, _, _, rfl, c, e, rfl, he.keepS e1, h1⟩) (fun D ws H6 hws hD e6 pw => ?_)
    have lw := pair_len pw
    have lv := pair_len pes5
    rw [List.length_map] at lw
    refine ⟨fun σ' H' => ∃ pa : Addr, σ' = [some (.ref l), some (.ref d.p), some (.bl c), some (.ref G), some (.int v4), some (.ref q), some (.ref pa), a7, a8, a9] ∧ Seqs A K H' (.ref pa) (some (es.map (entT c))) ∧ Same H5 H', ?_, ?_⟩
    · refine ⟨_, rfl, _, _, rfl, rfl, _, rfl, iteB (fun _ => ?_) (fun _ => ⟨D, rfl, .lst hws pw (by omega), e6⟩)⟩
      exact ⟨_, rfl, D, ws, rfl, .inl ⟨SqL.of hws, fun t ht => ⟨t, rfl, .tup upd_same (ths_keep (KI.new ht) pw) (by omega), e6.trans (same_new ht)⟩⟩⟩
    clear hws hD e6 pw lw
    rintro σ' H7 ⟨pa, rfl, hsq, e7⟩
    refine ⟨_, rfl, _, rfl, _, _, rfl, c, _, rfl, hsq, fun qt H8 e8 t8 => ?_⟩
    have e58 := e7.trans e8
    have hG8 := e58 _ _ hG5
    have pes8 := pair_mono (fun v e h => EntAt.keepS h e58) pes5
    dsimp only [gName]
    refine q_setLc ?_
    refine lc_map PlAt (fun H1 H2 v b e t => t.keepS e) pl_set (plE c) (fun v e => EntAt A K H8 v e) rfl hG8 pes8 (by omega) (fun x => rfl) (fun x e H1 Q1 he e1 h1 => ⟨_, rfl, _, rfl, _, _, rfl, c, e, rfl, he.keepS e1, h1⟩) (fun D2 ps H9 hps hD2 e9 pps => ?_)
    have lps := pair_len pps
    rw [List.length_map] at lps
    refine ⟨_, rfl, _, rfl, _, _, rfl, c, D2, ps, _, rfl, rfl, hps, pps, by omega, fun H10 e10 => ⟨_, rfl, ?_⟩⟩
    have e510 := e58.trans (e9.trans e10)
    rw [good_eq okE]
    refine iteB (fun g => ?_) (fun g => ?_)
    · have tb := told_bad (cr_bad (not_t g)) t8
      have atm : ∀ x ∈ ([V.str "refused", V.str (partN c)] : List V), Atom x := fun x hx => by
        simp only [List.mem_cons, List.not_mem_nil, or_false] at hx
        rcases hx with rfl | rfl <;> trivial
      refine ⟨_, rfl, _, rfl, _, _, rfl, qt, q, _, rfl, rfl, e10 _ _ (e9 _ _ tb), e510 _ _ hq5, atm, by show 2 ≤ 10; decide, _, rfl, iteF ?_⟩
      exact ⟨_, _, _, _, _, _, _, _, rfl, e510 _ _ hL5, r5.same e510⟩
    · have hok := not_f g
      obtain ⟨ta, us, h1, h2, hks⟩ := told_good hok t8
      rw [kats_map] at hks
      have e810 := e9.trans e10
      have pes10 := pair_mono (fun v e h => EntAt.keepS h e510) pes5
      have pps10 := pair_mono (fun v e h => PlAt.keepS h e10) pps
      refine ⟨_, rfl, _, _, _, .str "made", rfl, rfl, SqT.of (e810 _ _ h1), (show atI _ ((0 : Nat) : Int) = _ from atI_nat rfl), rfl, _, rfl, iteB (fun z => absurd z (by rw [dS]; decide +kernel)) (fun _ => ?_)⟩
      refine ⟨_, rfl, _, rfl, _, rfl, _, rfl, _, _, _, .ref ta, rfl, rfl, SqT.of (e810 _ _ h1), (show atI _ ((1 : Nat) : Int) = _ from atI_nat rfl), _, _, _, _, rfl, c, G, D2, ta, vs, es, ps, us, rfl, rfl, rfl, rfl, e510 _ _ hG5, pes10, e10 _ _ hps, pps10, e810 _ _ h2, hks.keep (KI.same e810), hok, fun H11 e11 => ⟨_, rfl, iteF ?_⟩⟩
      refine ⟨_, rfl, _, rfl, _, rfl, _, rfl, _, rfl, _, _, rfl, c, G, vs, es, rfl, rfl, e11 _ _ (e510 _ _ hG5), pair_mono (fun v e h => EntAt.keepS h e11) pes10, hok, fun t2 us2 H12 e12 ht2 hks2 => ?_⟩
      have e1012 := e11.trans e12
      exact ⟨_, _, _, _, rfl, c, G, D2, t2, vs, es, ps, us2, rfl, rfl, rfl, rfl, e1012 _ _ (e510 _ _ hG5), pair_mono (fun v e h => EntAt.keepS h e1012) pes10, e1012 _ _ (e10 _ _ hps), pair_mono (fun v e h => PlAt.keepS h e1012) pps10, ht2, hks2, hok, fun H13 e13 => ⟨_, rfl, iteF ⟨_, _, _, _, _, _, _, _, rfl, e13 _ _ (e1012 _ _ (e510 _ _ hL5)), r5.same (e510.trans (e1012.trans e13))⟩⟩⟩
  · rintro σ' H2 ⟨a2, a3, a4, a5, a6, a7, a8, a9, rfl, hL, r⟩
    exact k _
end
theorem all_mk {K : PySem.W.Frag} {h : Heap} {mg : Str → Option Value} {f0 f1 f2 f3 f4 f5 f6 f7 f8 f9 f10 f11 f12 f13 f14 f15 f16 f17 f18 f19 f20 f21 f22 f23 f24 f25 f26 f27 f28 f29 f30 f31 f32 f33 f34 f35 f36 f37 f38 f39 f40 f41 f42 f43 f44 f45 f46 f47 f48 f49 f50 f51 f52 C0 C1 C2 C3 C4 C5 C6 C7 C8 C9 C10 C11 C12 : Addr} (X : K.In h) (G : h.Ns mainGlobals mg)
    {od0 an0 : Option Addr} {sl0 : Array (Option Value)} {oc0 kV0 dc0 pm0 cd0 ct0 : Value}
    {od1 an1 : Option Addr} {sl1 : Array (Option Value)} {oc1 kV1 dc1 pm1 cd1 ct1 : Value}
    {od2 an2 : Option Addr} {sl2 : Array (Option Value)} {oc2 kV2 dc2 pm2 cd2 ct2 : Value}
    {od3 an3 : Option Addr} {sl3 : Array (Option Value)} {oc3 kV3 dc3 pm3 cd3 ct3 : Value}
    {od4 an4 : Option Addr} {sl4 : Array (Option Value)} {oc4 kV4 dc4 pm4 cd4 ct4 : Value}
    {od5 an5 : Option Addr} {sl5 : Array (Option Value)} {oc5 kV5 dc5 pm5 cd5 ct5 : Value}
    {od6 an6 : Option Addr} {sl6 : Array (Option Value)} {oc6 kV6 dc6 pm6 cd6 ct6 : Value}
    {od7 an7 : Option Addr} {sl7 : Array (Option Value)} {oc7 kV7 dc7 pm7 cd7 ct7 : Value}
    {od8 an8 : Option Addr} {sl8 : Array (Option Value)} {oc8 kV8 dc8 pm8 cd8 ct8 : Value}
    {od9 an9 : Option Addr} {sl9 : Array (Option Value)} {oc9 kV9 dc9 pm9 cd9 ct9 : Value}
    {od10 an10 : Option Addr} {sl10 : Array (Option Value)} {oc10 kV10 dc10 pm10 cd10 ct10 : Value}
    {od11 an11 : Option Addr} {sl11 : Array (Option Value)} {oc11 kV11 dc11 pm11 cd11 ct11 : Value}
    {od12 an12 : Option Addr} {sl12 : Array (Option Value)} {oc12 kV12 dc12 pm12 cd12 ct12 : Value}
    {od13 an13 : Option Addr} {sl13 : Array (Option Value)} {oc13 kV13 dc13 pm13 cd13 ct13 : Value}
    {od14 an14 : Option Addr} {sl14 : Array (Option Value)} {oc14 kV14 dc14 pm14 cd14 ct14 : Value}
    {od15 an15 : Option Addr} {sl15 : Array (Option Value)} {oc15 kV15 dc15 pm15 cd15 ct15 : Value}
    {od16 an16 : Option Addr} {sl16 : Array (Option Value)} {oc16 kV16 dc16 pm16 cd16 ct16 : Value}
    {od17 an17 : Option Addr} {sl17 : Array (Option Value)} {oc17 kV17 dc17 pm17 cd17 ct17 : Value}
    {od18 an18 : Option Addr} {sl18 : Array (Option Value)} {oc18 kV18 dc18 pm18 cd18 ct18 : Value}
    {od19 an19 : Option Addr} {sl19 : Array (Option Value)} {oc19 kV19 dc19 pm19 cd19 ct19 : Value}
    {od20 an20 : Option Addr} {sl20 : Array (Option Value)} {oc20 kV20 dc20 pm20 cd20 ct20 : Value}
    {od21 an21 : Option Addr} {sl21 : Array (Option Value)} {oc21 kV21 dc21 pm21 cd21 ct21 : Value}
    {od22 an22 : Option Addr} {sl22 : Array (Option Value)} {oc22 kV22 dc22 pm22 cd22 ct22 : Value}
    {od23 an23 : Option Addr} {sl23 : Array (Option Value)} {oc23 kV23 dc23 pm23 cd23 ct23 : Value}
    {od24 an24 : Option Addr} {sl24 : Array (Option Value)} {oc24 kV24 dc24 pm24 cd24 ct24 : Value}
    {od25 an25 : Option Addr} {sl25 : Array (Option Value)} {oc25 kV25 dc25 pm25 cd25 ct25 : Value}
    {od26 an26 : Option Addr} {sl26 : Array (Option Value)} {oc26 kV26 dc26 pm26 cd26 ct26 : Value}
    {od27 an27 : Option Addr} {sl27 : Array (Option Value)} {oc27 kV27 dc27 pm27 cd27 ct27 : Value}
    {od28 an28 : Option Addr} {sl28 : Array (Option Value)} {oc28 kV28 dc28 pm28 cd28 ct28 : Value}
    {od29 an29 : Option Addr} {sl29 : Array (Option Value)} {oc29 kV29 dc29 pm29 cd29 ct29 : Value}
    {od30 an30 : Option Addr} {sl30 : Array (Option Value)} {oc30 kV30 dc30 pm30 cd30 ct30 : Value}
    {od31 an31 : Option Addr} {sl31 : Array (Option Value)} {oc31 kV31 dc31 pm31 cd31 ct31 : Value}
    {od32 an32 : Option Addr} {sl32 : Array (Option Value)} {oc32 kV32 dc32 pm32 cd32 ct32 : Value}
    {od33 an33 : Option Addr} {sl33 : Array (Option Value)} {oc33 kV33 dc33 pm33 cd33 ct33 : Value}
    {od34 an34 : Option Addr} {sl34 : Array (Option Value)} {oc34 kV34 dc34 pm34 cd34 ct34 : Value}
    {od35 an35 : Option Addr} {sl35 : Array (Option Value)} {oc35 kV35 dc35 pm35 cd35 ct35 : Value}
    {od36 an36 : Option Addr} {sl36 : Array (Option Value)} {oc36 kV36 dc36 pm36 cd36 ct36 : Value}
    {od37 an37 : Option Addr} {sl37 : Array (Option Value)} {oc37 kV37 dc37 pm37 cd37 ct37 : Value}
    {od38 an38 : Option Addr} {sl38 : Array (Option Value)} {oc38 kV38 dc38 pm38 cd38 ct38 : Value}
    {od39 an39 : Option Addr} {sl39 : Array (Option Value)} {oc39 kV39 dc39 pm39 cd39 ct39 : Value}
    {od40 an40 : Option Addr} {sl40 : Array (Option Value)} {oc40 kV40 dc40 pm40 cd40 ct40 : Value}
    {od41 an41 : Option Addr} {sl41 : Array (Option Value)} {oc41 kV41 dc41 pm41 cd41 ct41 : Value}
    {od42 an42 : Option Addr} {sl42 : Array (Option Value)} {oc42 kV42 dc42 pm42 cd42 ct42 : Value}
    {od43 an43 : Option Addr} {sl43 : Array (Option Value)} {oc43 kV43 dc43 pm43 cd43 ct43 : Value}
    {od44 an44 : Option Addr} {sl44 : Array (Option Value)} {oc44 kV44 dc44 pm44 cd44 ct44 : Value}
    {od45 an45 : Option Addr} {sl45 : Array (Option Value)} {oc45 kV45 dc45 pm45 cd45 ct45 : Value}
    {od46 an46 : Option Addr} {sl46 : Array (Option Value)} {oc46 kV46 dc46 pm46 cd46 ct46 : Value}
    {od47 an47 : Option Addr} {sl47 : Array (Option Value)} {oc47 kV47 dc47 pm47 cd47 ct47 : Value}
    {od48 an48 : Option Addr} {sl48 : Array (Option Value)} {oc48 kV48 dc48 pm48 cd48 ct48 : Value}
    {od49 an49 : Option Addr} {sl49 : Array (Option Value)} {oc49 kV49 dc49 pm49 cd49 ct49 : Value}
    {od50 an50 : Option Addr} {sl50 : Array (Option Value)} {oc50 kV50 dc50 pm50 cd50 ct50 : Value}
    {od51 an51 : Option Addr} {sl51 : Array (Option Value)} {oc51 kV51 dc51 pm51 cd51 ct51 : Value}
    {od52 an52 : Option Addr} {sl52 : Array (Option Value)} {oc52 kV52 dc52 pm52 cd52 ct52 : Value}
    (aC0 : PySem.W.nsIn K mainGlobals "Nothing" = some (some (.ref C0)))
    (aC1 : PySem.W.nsIn K mainGlobals "Number" = some (some (.ref C1)))
    (aC2 : PySem.W.nsIn K mainGlobals "Bits" = some (some (.ref C2)))
    (aC3 : PySem.W.nsIn K mainGlobals "Call" = some (some (.ref C3)))
    (aC4 : PySem.W.nsIn K mainGlobals "Items" = some (some (.ref C4)))
    (aC5 : PySem.W.nsIn K mainGlobals "Way" = some (some (.ref C5)))
    (aC6 : PySem.W.nsIn K mainGlobals "Door" = some (some (.ref C6)))
    (aC7 : PySem.W.nsIn K mainGlobals "Choice" = some (some (.ref C7)))
    (aC8 : PySem.W.nsIn K mainGlobals "Part" = some (some (.ref C8)))
    (aC9 : PySem.W.nsIn K mainGlobals "Room" = some (some (.ref C9)))
    (aC10 : PySem.W.nsIn K mainGlobals "Row" = some (some (.ref C10)))
    (aC11 : PySem.W.nsIn K mainGlobals "RoomError" = some (some (.ref C11)))
    (aC12 : PySem.W.nsIn K mainGlobals "BadKind" = some (some (.ref C12)))
    (a0 : PySem.W.findIn K (.ref C12) "__init__" = some (some (.ref f0)))
    (i0 : PySem.W.isFn K (.ref f0) = true)
    (l0 : K.lookup f0 = some ⟨oc0, od0, .func (PySem.W.fnOf "__init__" "BadKind.__init__" (defArgs s_BadKind___init__) (defBody s_BadKind___init__) (defScope s_BadKind___init__) .none kV0 dc0 pm0 an0 cd0 ct0), sl0⟩)
    (c0 : PySem.W.codeIn K cd0 "BadKind.__init__" = true)
    (k0 : PySem.W.keepIn K (.ref f0) = true)
    (a1 : PySem.W.nsIn K mainGlobals "is_integer" = some (some (.ref f1)))
    (l1 : K.lookup f1 = some ⟨oc1, od1, .func (PySem.W.fnOf "is_integer" "is_integer" (defArgs s_is_integer) (defBody s_is_integer) (defScope s_is_integer) .none kV1 dc1 pm1 an1 cd1 ct1), sl1⟩)
    (c1 : PySem.W.codeIn K cd1 "is_integer" = true)
    (k1 : PySem.W.keepIn K (.ref f1) = true)
    (a2 : PySem.W.nsIn K mainGlobals "is_bits" = some (some (.ref f2)))
    (l2 : K.lookup f2 = some ⟨oc2, od2, .func (PySem.W.fnOf "is_bits" "is_bits" (defArgs s_is_bits) (defBody s_is_bits) (defScope s_is_bits) .none kV2 dc2 pm2 an2 cd2 ct2), sl2⟩)
    (c2 : PySem.W.codeIn K cd2 "is_bits" = true)
    (k2 : PySem.W.keepIn K (.ref f2) = true)
    (a3 : PySem.W.nsIn K mainGlobals "is_name" = some (some (.ref f3)))
    (l3 : K.lookup f3 = some ⟨oc3, od3, .func (PySem.W.fnOf "is_name" "is_name" (defArgs s_is_name) (defBody s_is_name) (defScope s_is_name) .none kV3 dc3 pm3 an3 cd3 ct3), sl3⟩)
    (c3 : PySem.W.codeIn K cd3 "is_name" = true)
    (k3 : PySem.W.keepIn K (.ref f3) = true)
    (a4 : PySem.W.nsIn K mainGlobals "is_word" = some (some (.ref f4)))
    (l4 : K.lookup f4 = some ⟨oc4, od4, .func (PySem.W.fnOf "is_word" "is_word" (defArgs s_is_word) (defBody s_is_word) (defScope s_is_word) .none kV4 dc4 pm4 an4 cd4 ct4), sl4⟩)
    (c4 : PySem.W.codeIn K cd4 "is_word" = true)
    (k4 : PySem.W.keepIn K (.ref f4) = true)
    (a5 : PySem.W.nsIn K mainGlobals "begins" = some (some (.ref f5)))
    (l5 : K.lookup f5 = some ⟨oc5, od5, .func (PySem.W.fnOf "begins" "begins" (defArgs s_begins) (defBody s_begins) (defScope s_begins) .none kV5 dc5 pm5 an5 cd5 ct5), sl5⟩)
    (c5 : PySem.W.codeIn K cd5 "begins" = true)
    (k5 : PySem.W.keepIn K (.ref f5) = true)
    (a6 : PySem.W.findIn K (.ref C0) "__eq__" = some (some (.ref f6)))
    (i6 : PySem.W.isFn K (.ref f6) = true)
    (l6 : K.lookup f6 = some ⟨oc6, od6, .func (PySem.W.fnOf "__eq__" "Nothing.__eq__" (defArgs s_Nothing___eq__) (defBody s_Nothing___eq__) (defScope s_Nothing___eq__) .none kV6 dc6 pm6 an6 cd6 ct6), sl6⟩)
    (c6 : PySem.W.codeIn K cd6 "Nothing.__eq__" = true)
    (k6 : PySem.W.keepIn K (.ref f6) = true)
    (a7 : PySem.W.nsIn K mainGlobals "is_width" = some (some (.ref f7)))
    (l7 : K.lookup f7 = some ⟨oc7, od7, .func (PySem.W.fnOf "is_width" "is_width" (defArgs s_is_width) (defBody s_is_width) (defScope s_is_width) .none kV7 dc7 pm7 an7 cd7 ct7), sl7⟩)
    (c7 : PySem.W.codeIn K cd7 "is_width" = true)
    (k7 : PySem.W.keepIn K (.ref f7) = true)
    (a8 : PySem.W.findIn K (.ref C1) "__init__" = some (some (.ref f8)))
    (i8 : PySem.W.isFn K (.ref f8) = true)
    {T8 : Addr} {td8 : Option Addr} {tn8 : Nat} {ts8 : Array (Option Value)}
    (l8 : K.lookup f8 = some ⟨oc8, od8, .func (PySem.W.fnOf "__init__" "Number.__init__" (defArgs s_Number___init__) (defBody s_Number___init__) (defScope s_Number___init__) (.ref T8) kV8 dc8 pm8 an8 cd8 ct8), sl8⟩)
    (lt8 : K.lookup T8 = some ⟨.type "tuple", td8, .seq ([Value.none] : List Value).toArray tn8, ts8⟩)
    (c8 : PySem.W.codeIn K cd8 "Number.__init__" = true)
    (k8 : PySem.W.keepIn K (.ref f8) = true)
    (a9 : PySem.W.findIn K (.ref C1) "__eq__" = some (some (.ref f9)))
    (i9 : PySem.W.isFn K (.ref f9) = true)
    (l9 : K.lookup f9 = some ⟨oc9, od9, .func (PySem.W.fnOf "__eq__" "Number.__eq__" (defArgs s_Number___eq__) (defBody s_Number___eq__) (defScope s_Number___eq__) .none kV9 dc9 pm9 an9 cd9 ct9), sl9⟩)
    (c9 : PySem.W.codeIn K cd9 "Number.__eq__" = true)
    (k9 : PySem.W.keepIn K (.ref f9) = true)
    (a10 : PySem.W.findIn K (.ref C2) "__init__" = some (some (.ref f10)))
    (i10 : PySem.W.isFn K (.ref f10) = true)
    (l10 : K.lookup f10 = some ⟨oc10, od10, .func (PySem.W.fnOf "__init__" "Bits.__init__" (defArgs s_Bits___init__) (defBody s_Bits___init__) (defScope s_Bits___init__) .none kV10 dc10 pm10 an10 cd10 ct10), sl10⟩)
    (c10 : PySem.W.codeIn K cd10 "Bits.__init__" = true)
    (k10 : PySem.W.keepIn K (.ref f10) = true)
    (a11 : PySem.W.findIn K (.ref C2) "__eq__" = some (some (.ref f11)))
    (i11 : PySem.W.isFn K (.ref f11) = true)
    (l11 : K.lookup f11 = some ⟨oc11, od11, .func (PySem.W.fnOf "__eq__" "Bits.__eq__" (defArgs s_Bits___eq__) (defBody s_Bits___eq__) (defScope s_Bits___eq__) .none kV11 dc11 pm11 an11 cd11 ct11), sl11⟩)
    (c11 : PySem.W.codeIn K cd11 "Bits.__eq__" = true)
    (k11 : PySem.W.keepIn K (.ref f11) = true)
    (a12 : PySem.W.findIn K (.ref C3) "__init__" = some (some (.ref f12)))
    (i12 : PySem.W.isFn K (.ref f12) = true)
    (l12 : K.lookup f12 = some ⟨oc12, od12, .func (PySem.W.fnOf "__init__" "Call.__init__" (defArgs s_Call___init__) (defBody s_Call___init__) (defScope s_Call___init__) .none kV12 dc12 pm12 an12 cd12 ct12), sl12⟩)
    (c12 : PySem.W.codeIn K cd12 "Call.__init__" = true)
    (k12 : PySem.W.keepIn K (.ref f12) = true)
    (a13 : PySem.W.findIn K (.ref C3) "__eq__" = some (some (.ref f13)))
    (i13 : PySem.W.isFn K (.ref f13) = true)
    (l13 : K.lookup f13 = some ⟨oc13, od13, .func (PySem.W.fnOf "__eq__" "Call.__eq__" (defArgs s_Call___eq__) (defBody s_Call___eq__) (defScope s_Call___eq__) .none kV13 dc13 pm13 an13 cd13 ct13), sl13⟩)
    (c13 : PySem.W.codeIn K cd13 "Call.__eq__" = true)
    (k13 : PySem.W.keepIn K (.ref f13) = true)
    (a14 : PySem.W.findIn K (.ref C4) "__init__" = some (some (.ref f14)))
    (i14 : PySem.W.isFn K (.ref f14) = true)
    {T14 : Addr} {td14 : Option Addr} {tn14 : Nat} {ts14 : Array (Option Value)}
    (l14 : K.lookup f14 = some ⟨oc14, od14, .func (PySem.W.fnOf "__init__" "Items.__init__" (defArgs s_Items___init__) (defBody s_Items___init__) (defScope s_Items___init__) (.ref T14) kV14 dc14 pm14 an14 cd14 ct14), sl14⟩)
    (lt14 : K.lookup T14 = some ⟨.type "tuple", td14, .seq ([Value.none] : List Value).toArray tn14, ts14⟩)
    (c14 : PySem.W.codeIn K cd14 "Items.__init__" = true)
    (k14 : PySem.W.keepIn K (.ref f14) = true)
    (a15 : PySem.W.findIn K (.ref C4) "__eq__" = some (some (.ref f15)))
    (i15 : PySem.W.isFn K (.ref f15) = true)
    (l15 : K.lookup f15 = some ⟨oc15, od15, .func (PySem.W.fnOf "__eq__" "Items.__eq__" (defArgs s_Items___eq__) (defBody s_Items___eq__) (defScope s_Items___eq__) .none kV15 dc15 pm15 an15 cd15 ct15), sl15⟩)
    (c15 : PySem.W.codeIn K cd15 "Items.__eq__" = true)
    (k15 : PySem.W.keepIn K (.ref f15) = true)
    (a16 : PySem.W.nsIn K mainGlobals "is_simple" = some (some (.ref f16)))
    (l16 : K.lookup f16 = some ⟨oc16, od16, .func (PySem.W.fnOf "is_simple" "is_simple" (defArgs s_is_simple) (defBody s_is_simple) (defScope s_is_simple) .none kV16 dc16 pm16 an16 cd16 ct16), sl16⟩)
    (c16 : PySem.W.codeIn K cd16 "is_simple" = true)
    (k16 : PySem.W.keepIn K (.ref f16) = true)
    (a17 : PySem.W.nsIn K mainGlobals "check_inner" = some (some (.ref f17)))
    (l17 : K.lookup f17 = some ⟨oc17, od17, .func (PySem.W.fnOf "check_inner" "check_inner" (defArgs s_check_inner) (defBody s_check_inner) (defScope s_check_inner) .none kV17 dc17 pm17 an17 cd17 ct17), sl17⟩)
    (c17 : PySem.W.codeIn K cd17 "check_inner" = true)
    (k17 : PySem.W.keepIn K (.ref f17) = true)
    (a18 : PySem.W.findIn K (.ref C5) "__init__" = some (some (.ref f18)))
    (i18 : PySem.W.isFn K (.ref f18) = true)
    (l18 : K.lookup f18 = some ⟨oc18, od18, .func (PySem.W.fnOf "__init__" "Way.__init__" (defArgs s_Way___init__) (defBody s_Way___init__) (defScope s_Way___init__) .none kV18 dc18 pm18 an18 cd18 ct18), sl18⟩)
    (c18 : PySem.W.codeIn K cd18 "Way.__init__" = true)
    (k18 : PySem.W.keepIn K (.ref f18) = true)
    (a19 : PySem.W.findIn K (.ref C5) "__eq__" = some (some (.ref f19)))
    (i19 : PySem.W.isFn K (.ref f19) = true)
    (l19 : K.lookup f19 = some ⟨oc19, od19, .func (PySem.W.fnOf "__eq__" "Way.__eq__" (defArgs s_Way___eq__) (defBody s_Way___eq__) (defScope s_Way___eq__) .none kV19 dc19 pm19 an19 cd19 ct19), sl19⟩)
    (c19 : PySem.W.codeIn K cd19 "Way.__eq__" = true)
    (k19 : PySem.W.keepIn K (.ref f19) = true)
    (a20 : PySem.W.findIn K (.ref C6) "__init__" = some (some (.ref f20)))
    (i20 : PySem.W.isFn K (.ref f20) = true)
    (l20 : K.lookup f20 = some ⟨oc20, od20, .func (PySem.W.fnOf "__init__" "Door.__init__" (defArgs s_Door___init__) (defBody s_Door___init__) (defScope s_Door___init__) .none kV20 dc20 pm20 an20 cd20 ct20), sl20⟩)
    (c20 : PySem.W.codeIn K cd20 "Door.__init__" = true)
    (k20 : PySem.W.keepIn K (.ref f20) = true)
    (a21 : PySem.W.findIn K (.ref C6) "__eq__" = some (some (.ref f21)))
    (i21 : PySem.W.isFn K (.ref f21) = true)
    (l21 : K.lookup f21 = some ⟨oc21, od21, .func (PySem.W.fnOf "__eq__" "Door.__eq__" (defArgs s_Door___eq__) (defBody s_Door___eq__) (defScope s_Door___eq__) .none kV21 dc21 pm21 an21 cd21 ct21), sl21⟩)
    (c21 : PySem.W.codeIn K cd21 "Door.__eq__" = true)
    (k21 : PySem.W.keepIn K (.ref f21) = true)
    (a22 : PySem.W.nsIn K mainGlobals "are_ways" = some (some (.ref f22)))
    (l22 : K.lookup f22 = some ⟨oc22, od22, .func (PySem.W.fnOf "are_ways" "are_ways" (defArgs s_are_ways) (defBody s_are_ways) (defScope s_are_ways) .none kV22 dc22 pm22 an22 cd22 ct22), sl22⟩)
    (c22 : PySem.W.codeIn K cd22 "are_ways" = true)
    (k22 : PySem.W.keepIn K (.ref f22) = true)
    (a23 : PySem.W.findIn K (.ref C7) "__init__" = some (some (.ref f23)))
    (i23 : PySem.W.isFn K (.ref f23) = true)
    (l23 : K.lookup f23 = some ⟨oc23, od23, .func (PySem.W.fnOf "__init__" "Choice.__init__" (defArgs s_Choice___init__) (defBody s_Choice___init__) (defScope s_Choice___init__) .none kV23 dc23 pm23 an23 cd23 ct23), sl23⟩)
    (c23 : PySem.W.codeIn K cd23 "Choice.__init__" = true)
    (k23 : PySem.W.keepIn K (.ref f23) = true)
    (a24 : PySem.W.findIn K (.ref C7) "__eq__" = some (some (.ref f24)))
    (i24 : PySem.W.isFn K (.ref f24) = true)
    (l24 : K.lookup f24 = some ⟨oc24, od24, .func (PySem.W.fnOf "__eq__" "Choice.__eq__" (defArgs s_Choice___eq__) (defBody s_Choice___eq__) (defScope s_Choice___eq__) .none kV24 dc24 pm24 an24 cd24 ct24), sl24⟩)
    (c24 : PySem.W.codeIn K cd24 "Choice.__eq__" = true)
    (k24 : PySem.W.keepIn K (.ref f24) = true)
    (a25 : PySem.W.findIn K (.ref C8) "__init__" = some (some (.ref f25)))
    (i25 : PySem.W.isFn K (.ref f25) = true)
    (l25 : K.lookup f25 = some ⟨oc25, od25, .func (PySem.W.fnOf "__init__" "Part.__init__" (defArgs s_Part___init__) (defBody s_Part___init__) (defScope s_Part___init__) .none kV25 dc25 pm25 an25 cd25 ct25), sl25⟩)
    (c25 : PySem.W.codeIn K cd25 "Part.__init__" = true)
    (k25 : PySem.W.keepIn K (.ref f25) = true)
    (a26 : PySem.W.findIn K (.ref C8) "__eq__" = some (some (.ref f26)))
    (i26 : PySem.W.isFn K (.ref f26) = true)
    (l26 : K.lookup f26 = some ⟨oc26, od26, .func (PySem.W.fnOf "__eq__" "Part.__eq__" (defArgs s_Part___eq__) (defBody s_Part___eq__) (defScope s_Part___eq__) .none kV26 dc26 pm26 an26 cd26 ct26), sl26⟩)
    (c26 : PySem.W.codeIn K cd26 "Part.__eq__" = true)
    (k26 : PySem.W.keepIn K (.ref f26) = true)
    (a27 : PySem.W.findIn K (.ref C9) "__init__" = some (some (.ref f27)))
    (i27 : PySem.W.isFn K (.ref f27) = true)
    (l27 : K.lookup f27 = some ⟨oc27, od27, .func (PySem.W.fnOf "__init__" "Room.__init__" (defArgs s_Room___init__) (defBody s_Room___init__) (defScope s_Room___init__) .none kV27 dc27 pm27 an27 cd27 ct27), sl27⟩)
    (c27 : PySem.W.codeIn K cd27 "Room.__init__" = true)
    (k27 : PySem.W.keepIn K (.ref f27) = true)
    (a28 : PySem.W.findIn K (.ref C9) "__eq__" = some (some (.ref f28)))
    (i28 : PySem.W.isFn K (.ref f28) = true)
    (l28 : K.lookup f28 = some ⟨oc28, od28, .func (PySem.W.fnOf "__eq__" "Room.__eq__" (defArgs s_Room___eq__) (defBody s_Room___eq__) (defScope s_Room___eq__) .none kV28 dc28 pm28 an28 cd28 ct28), sl28⟩)
    (c28 : PySem.W.codeIn K cd28 "Room.__eq__" = true)
    (k28 : PySem.W.keepIn K (.ref f28) = true)
    (a29 : PySem.W.nsIn K mainGlobals "are_parts" = some (some (.ref f29)))
    (l29 : K.lookup f29 = some ⟨oc29, od29, .func (PySem.W.fnOf "are_parts" "are_parts" (defArgs s_are_parts) (defBody s_are_parts) (defScope s_are_parts) .none kV29 dc29 pm29 an29 cd29 ct29), sl29⟩)
    (c29 : PySem.W.codeIn K cd29 "are_parts" = true)
    (k29 : PySem.W.keepIn K (.ref f29) = true)
    (a30 : PySem.W.findIn K (.ref C10) "__init__" = some (some (.ref f30)))
    (i30 : PySem.W.isFn K (.ref f30) = true)
    (l30 : K.lookup f30 = some ⟨oc30, od30, .func (PySem.W.fnOf "__init__" "Row.__init__" (defArgs s_Row___init__) (defBody s_Row___init__) (defScope s_Row___init__) .none kV30 dc30 pm30 an30 cd30 ct30), sl30⟩)
    (c30 : PySem.W.codeIn K cd30 "Row.__init__" = true)
    (k30 : PySem.W.keepIn K (.ref f30) = true)
    (a31 : PySem.W.findIn K (.ref C10) "__eq__" = some (some (.ref f31)))
    (i31 : PySem.W.isFn K (.ref f31) = true)
    (l31 : K.lookup f31 = some ⟨oc31, od31, .func (PySem.W.fnOf "__eq__" "Row.__eq__" (defArgs s_Row___eq__) (defBody s_Row___eq__) (defScope s_Row___eq__) .none kV31 dc31 pm31 an31 cd31 ct31), sl31⟩)
    (c31 : PySem.W.codeIn K cd31 "Row.__eq__" = true)
    (k31 : PySem.W.keepIn K (.ref f31) = true)
    (a32 : PySem.W.nsIn K mainGlobals "_law_is_int" = some (some (.ref f32)))
    (l32 : K.lookup f32 = some ⟨oc32, od32, .func (PySem.W.fnOf "_law_is_int" "_law_is_int" (defArgs s__law_is_int) (defBody s__law_is_int) (defScope s__law_is_int) .none kV32 dc32 pm32 an32 cd32 ct32), sl32⟩)
    (c32 : PySem.W.codeIn K cd32 "_law_is_int" = true)
    (k32 : PySem.W.keepIn K (.ref f32) = true)
    (a33 : PySem.W.nsIn K mainGlobals "_law_same_dict" = some (some (.ref f33)))
    (l33 : K.lookup f33 = some ⟨oc33, od33, .func (PySem.W.fnOf "_law_same_dict" "_law_same_dict" (defArgs s__law_same_dict) (defBody s__law_same_dict) (defScope s__law_same_dict) .none kV33 dc33 pm33 an33 cd33 ct33), sl33⟩)
    (c33 : PySem.W.codeIn K cd33 "_law_same_dict" = true)
    (k33 : PySem.W.keepIn K (.ref f33) = true)
    (a34 : PySem.W.nsIn K mainGlobals "_law_same" = some (some (.ref f34)))
    (l34 : K.lookup f34 = some ⟨oc34, od34, .func (PySem.W.fnOf "_law_same" "_law_same" (defArgs s__law_same) (defBody s__law_same) (defScope s__law_same) .none kV34 dc34 pm34 an34 cd34 ct34), sl34⟩)
    (c34 : PySem.W.codeIn K cd34 "_law_same" = true)
    (k34 : PySem.W.keepIn K (.ref f34) = true)
    (a35 : PySem.W.nsIn K mainGlobals "_law_start" = some (some (.ref f35)))
    (l35 : K.lookup f35 = some ⟨oc35, od35, .func (PySem.W.fnOf "_law_start" "_law_start" (defArgs s__law_start) (defBody s__law_start) (defScope s__law_start) .none kV35 dc35 pm35 an35 cd35 ct35), sl35⟩)
    (c35 : PySem.W.codeIn K cd35 "_law_start" = true)
    (k35 : PySem.W.keepIn K (.ref f35) = true)
    (a36 : PySem.W.nsIn K mainGlobals "_law_pull" = some (some (.ref f36)))
    (l36 : K.lookup f36 = some ⟨oc36, od36, .func (PySem.W.fnOf "_law_pull" "_law_pull" (defArgs s__law_pull) (defBody s__law_pull) (defScope s__law_pull) .none kV36 dc36 pm36 an36 cd36 ct36), sl36⟩)
    (c36 : PySem.W.codeIn K cd36 "_law_pull" = true)
    (k36 : PySem.W.keepIn K (.ref f36) = true)
    (a37 : PySem.W.nsIn K mainGlobals "_law_name" = some (some (.ref f37)))
    (l37 : K.lookup f37 = some ⟨oc37, od37, .func (PySem.W.fnOf "_law_name" "_law_name" (defArgs s__law_name) (defBody s__law_name) (defScope s__law_name) .none kV37 dc37 pm37 an37 cd37 ct37), sl37⟩)
    (c37 : PySem.W.codeIn K cd37 "_law_name" = true)
    (k37 : PySem.W.keepIn K (.ref f37) = true)
    (a38 : PySem.W.nsIn K mainGlobals "_law_bits" = some (some (.ref f38)))
    (l38 : K.lookup f38 = some ⟨oc38, od38, .func (PySem.W.fnOf "_law_bits" "_law_bits" (defArgs s__law_bits) (defBody s__law_bits) (defScope s__law_bits) .none kV38 dc38 pm38 an38 cd38 ct38), sl38⟩)
    (c38 : PySem.W.codeIn K cd38 "_law_bits" = true)
    (k38 : PySem.W.keepIn K (.ref f38) = true)
    (a39 : PySem.W.nsIn K mainGlobals "_law_words" = some (some (.ref f39)))
    (l39 : K.lookup f39 = some ⟨oc39, od39, .func (PySem.W.fnOf "_law_words" "_law_words" (defArgs s__law_words) (defBody s__law_words) (defScope s__law_words) .none kV39 dc39 pm39 an39 cd39 ct39), sl39⟩)
    (c39 : PySem.W.codeIn K cd39 "_law_words" = true)
    (k39 : PySem.W.keepIn K (.ref f39) = true)
    (a40 : PySem.W.nsIn K mainGlobals "_law_odd" = some (some (.ref f40)))
    (l40 : K.lookup f40 = some ⟨oc40, od40, .func (PySem.W.fnOf "_law_odd" "_law_odd" (defArgs s__law_odd) (defBody s__law_odd) (defScope s__law_odd) .none kV40 dc40 pm40 an40 cd40 ct40), sl40⟩)
    (c40 : PySem.W.codeIn K cd40 "_law_odd" = true)
    (k40 : PySem.W.keepIn K (.ref f40) = true)
    (a41 : PySem.W.nsIn K mainGlobals "_law_object" = some (some (.ref f41)))
    (l41 : K.lookup f41 = some ⟨oc41, od41, .func (PySem.W.fnOf "_law_object" "_law_object" (defArgs s__law_object) (defBody s__law_object) (defScope s__law_object) .none kV41 dc41 pm41 an41 cd41 ct41), sl41⟩)
    (c41 : PySem.W.codeIn K cd41 "_law_object" = true)
    (k41 : PySem.W.keepIn K (.ref f41) = true)
    (a42 : PySem.W.nsIn K mainGlobals "_law_rows" = some (some (.ref f42)))
    (l42 : K.lookup f42 = some ⟨oc42, od42, .func (PySem.W.fnOf "_law_rows" "_law_rows" (defArgs s__law_rows) (defBody s__law_rows) (defScope s__law_rows) .none kV42 dc42 pm42 an42 cd42 ct42), sl42⟩)
    (c42 : PySem.W.codeIn K cd42 "_law_rows" = true)
    (k42 : PySem.W.keepIn K (.ref f42) = true)
    (a43 : PySem.W.nsIn K mainGlobals "_law_spoil" = some (some (.ref f43)))
    (l43 : K.lookup f43 = some ⟨oc43, od43, .func (PySem.W.fnOf "_law_spoil" "_law_spoil" (defArgs s__law_spoil) (defBody s__law_spoil) (defScope s__law_spoil) .none kV43 dc43 pm43 an43 cd43 ct43), sl43⟩)
    (c43 : PySem.W.codeIn K cd43 "_law_spoil" = true)
    (k43 : PySem.W.keepIn K (.ref f43) = true)
    (a44 : PySem.W.nsIn K mainGlobals "_law_one" = some (some (.ref f44)))
    (l44 : K.lookup f44 = some ⟨oc44, od44, .func (PySem.W.fnOf "_law_one" "_law_one" (defArgs s__law_one) (defBody s__law_one) (defScope s__law_one) .none kV44 dc44 pm44 an44 cd44 ct44), sl44⟩)
    (c44 : PySem.W.codeIn K cd44 "_law_one" = true)
    (k44 : PySem.W.keepIn K (.ref f44) = true)
    (a45 : PySem.W.nsIn K mainGlobals "_law_plain" = some (some (.ref f45)))
    (l45 : K.lookup f45 = some ⟨oc45, od45, .func (PySem.W.fnOf "_law_plain" "_law_plain" (defArgs s__law_plain) (defBody s__law_plain) (defScope s__law_plain) .none kV45 dc45 pm45 an45 cd45 ct45), sl45⟩)
    (c45 : PySem.W.codeIn K cd45 "_law_plain" = true)
    (k45 : PySem.W.keepIn K (.ref f45) = true)
    (a46 : PySem.W.nsIn K mainGlobals "_law_good" = some (some (.ref f46)))
    (l46 : K.lookup f46 = some ⟨oc46, od46, .func (PySem.W.fnOf "_law_good" "_law_good" (defArgs s__law_good) (defBody s__law_good) (defScope s__law_good) .none kV46 dc46 pm46 an46 cd46 ct46), sl46⟩)
    (c46 : PySem.W.codeIn K cd46 "_law_good" = true)
    (k46 : PySem.W.keepIn K (.ref f46) = true)
    (a47 : PySem.W.nsIn K mainGlobals "_law_make" = some (some (.ref f47)))
    (l47 : K.lookup f47 = some ⟨oc47, od47, .func (PySem.W.fnOf "_law_make" "_law_make" (defArgs s__law_make) (defBody s__law_make) (defScope s__law_make) .none kV47 dc47 pm47 an47 cd47 ct47), sl47⟩)
    (c47 : PySem.W.codeIn K cd47 "_law_make" = true)
    (k47 : PySem.W.keepIn K (.ref f47) = true)
    (a48 : PySem.W.nsIn K mainGlobals "_law_told" = some (some (.ref f48)))
    (l48 : K.lookup f48 = some ⟨oc48, od48, .func (PySem.W.fnOf "_law_told" "_law_told" (defArgs s__law_told) (defBody s__law_told) (defScope s__law_told) .none kV48 dc48 pm48 an48 cd48 ct48), sl48⟩)
    (c48 : PySem.W.codeIn K cd48 "_law_told" = true)
    (k48 : PySem.W.keepIn K (.ref f48) = true)
    (a49 : PySem.W.nsIn K mainGlobals "_law_is_right" = some (some (.ref f49)))
    (l49 : K.lookup f49 = some ⟨oc49, od49, .func (PySem.W.fnOf "_law_is_right" "_law_is_right" (defArgs s__law_is_right) (defBody s__law_is_right) (defScope s__law_is_right) .none kV49 dc49 pm49 an49 cd49 ct49), sl49⟩)
    (c49 : PySem.W.codeIn K cd49 "_law_is_right" = true)
    (k49 : PySem.W.keepIn K (.ref f49) = true)
    (a50 : PySem.W.nsIn K mainGlobals "_law_kept" = some (some (.ref f50)))
    (l50 : K.lookup f50 = some ⟨oc50, od50, .func (PySem.W.fnOf "_law_kept" "_law_kept" (defArgs s__law_kept) (defBody s__law_kept) (defScope s__law_kept) .none kV50 dc50 pm50 an50 cd50 ct50), sl50⟩)
    (c50 : PySem.W.codeIn K cd50 "_law_kept" = true)
    (k50 : PySem.W.keepIn K (.ref f50) = true)
    (a51 : PySem.W.nsIn K mainGlobals "_law_after_change" = some (some (.ref f51)))
    (l51 : K.lookup f51 = some ⟨oc51, od51, .func (PySem.W.fnOf "_law_after_change" "_law_after_change" (defArgs s__law_after_change) (defBody s__law_after_change) (defScope s__law_after_change) .none kV51 dc51 pm51 an51 cd51 ct51), sl51⟩)
    (c51 : PySem.W.codeIn K cd51 "_law_after_change" = true)
    (k51 : PySem.W.keepIn K (.ref f51) = true)
    (a52 : PySem.W.nsIn K mainGlobals "law" = some (some (.ref f52)))
    (l52 : K.lookup f52 = some ⟨oc52, od52, .func (PySem.W.fnOf "law" "law" (defArgs s_law) (defBody s_law) (defScope s_law) .none kV52 dc52 pm52 an52 cd52 ct52), sl52⟩)
    (c52 : PySem.W.codeIn K cd52 "law" = true)
    (k52 : PySem.W.keepIn K (.ref f52) = true)
    (pg0 : PySem.W.plainGet K C0 Str.empty = true)
    (hd0 : PySem.W.hasDictIn K C0 = true)
    (po0 : PySem.W.plainOver K C0 = true)
    (sa0 : PySem.W.findIn K (.ref C0) "__setattr__" = some (some (.builtin "object.__setattr__")))
    (mk0 : PySem.W.makesIn K C0 = true)
    (kc0 : PySem.W.keepIn K (.ref C0) = true)
    (io0 : PySem.W.findIn K (.ref C0) "__init__" = some (some (.builtin "object.__init__")))
    (ha0 : PySem.W.findIn K (.ref C0) "__class__" = some (some (.builtin "object.__class__")))
    (hm0 : PySem.W.mroIn K C0 (.type "object") = some true)
    {qq0 : Str} {qN0 : Addr} {qb0 : List Value} {qh0 : Bool} {qs0 : List Str} {qu0 : List Value} {qa0 : Bool} {qc0 : Option Bool} {qd0 : Option Addr} {q00 q10 q20 q30 q50 : Option Value} {qi0 : String}
    (lc0 : K.lookup C0 = some (excClassObj "Nothing" qq0 C0 qN0 qb0 [.type "object"] qh0 qs0 qu0 qa0 qc0 qd0 q00 q10 q20 q30 q50 qi0))
    (no0 : PySem.W.nsOkIn K qN0 = true)
    (nq0 : PySem.W.nsIn K qN0 "__eq__" = some (some (.ref f6)))
    (nn0 : PySem.W.nsIn K qN0 "__ne__" = some none)
    (pg1 : PySem.W.plainGet K C1 Str.empty = true)
    (hd1 : PySem.W.hasDictIn K C1 = true)
    (po1 : PySem.W.plainOver K C1 = true)
    (sa1 : PySem.W.findIn K (.ref C1) "__setattr__" = some (some (.builtin "object.__setattr__")))
    (mk1 : PySem.W.makesIn K C1 = true)
    (kc1 : PySem.W.keepIn K (.ref C1) = true)
    (n1_low : PySem.W.findIn K (.ref C1) "low" = some none)
    (n1_high : PySem.W.findIn K (.ref C1) "high" = some none)
    (n1_width : PySem.W.findIn K (.ref C1) "width" = some none)
    (ha1 : PySem.W.findIn K (.ref C1) "__class__" = some (some (.builtin "object.__class__")))
    (hm1 : PySem.W.mroIn K C1 (.type "object") = some true)
    {qq1 : Str} {qN1 : Addr} {qb1 : List Value} {qh1 : Bool} {qs1 : List Str} {qu1 : List Value} {qa1 : Bool} {qc1 : Option Bool} {qd1 : Option Addr} {q01 q11 q21 q31 q51 : Option Value} {qi1 : String}
    (lc1 : K.lookup C1 = some (excClassObj "Number" qq1 C1 qN1 qb1 [.type "object"] qh1 qs1 qu1 qa1 qc1 qd1 q01 q11 q21 q31 q51 qi1))
    (no1 : PySem.W.nsOkIn K qN1 = true)
    (nq1 : PySem.W.nsIn K qN1 "__eq__" = some (some (.ref f9)))
    (nn1 : PySem.W.nsIn K qN1 "__ne__" = some none)
    (pg2 : PySem.W.plainGet K C2 Str.empty = true)
    (hd2 : PySem.W.hasDictIn K C2 = true)
    (po2 : PySem.W.plainOver K C2 = true)
    (sa2 : PySem.W.findIn K (.ref C2) "__setattr__" = some (some (.builtin "object.__setattr__")))
    (mk2 : PySem.W.makesIn K C2 = true)
    (kc2 : PySem.W.keepIn K (.ref C2) = true)
    (n2_many : PySem.W.findIn K (.ref C2) "many" = some none)
    (ha2 : PySem.W.findIn K (.ref C2) "__class__" = some (some (.builtin "object.__class__")))
    (hm2 : PySem.W.mroIn K C2 (.type "object") = some true)
    {qq2 : Str} {qN2 : Addr} {qb2 : List Value} {qh2 : Bool} {qs2 : List Str} {qu2 : List Value} {qa2 : Bool} {qc2 : Option Bool} {qd2 : Option Addr} {q02 q12 q22 q32 q52 : Option Value} {qi2 : String}
    (lc2 : K.lookup C2 = some (excClassObj "Bits" qq2 C2 qN2 qb2 [.type "object"] qh2 qs2 qu2 qa2 qc2 qd2 q02 q12 q22 q32 q52 qi2))
    (no2 : PySem.W.nsOkIn K qN2 = true)
    (nq2 : PySem.W.nsIn K qN2 "__eq__" = some (some (.ref f11)))
    (nn2 : PySem.W.nsIn K qN2 "__ne__" = some none)
    (pg3 : PySem.W.plainGet K C3 Str.empty = true)
    (hd3 : PySem.W.hasDictIn K C3 = true)
    (po3 : PySem.W.plainOver K C3 = true)
    (sa3 : PySem.W.findIn K (.ref C3) "__setattr__" = some (some (.builtin "object.__setattr__")))
    (mk3 : PySem.W.makesIn K C3 = true)
    (kc3 : PySem.W.keepIn K (.ref C3) = true)
    (n3_name : PySem.W.findIn K (.ref C3) "name" = some none)
    (ha3 : PySem.W.findIn K (.ref C3) "__class__" = some (some (.builtin "object.__class__")))
    (hm3 : PySem.W.mroIn K C3 (.type "object") = some true)
    {qq3 : Str} {qN3 : Addr} {qb3 : List Value} {qh3 : Bool} {qs3 : List Str} {qu3 : List Value} {qa3 : Bool} {qc3 : Option Bool} {qd3 : Option Addr} {q03 q13 q23 q33 q53 : Option Value} {qi3 : String}
    (lc3 : K.lookup C3 = some (excClassObj "Call" qq3 C3 qN3 qb3 [.type "object"] qh3 qs3 qu3 qa3 qc3 qd3 q03 q13 q23 q33 q53 qi3))
    (no3 : PySem.W.nsOkIn K qN3 = true)
    (nq3 : PySem.W.nsIn K qN3 "__eq__" = some (some (.ref f13)))
    (nn3 : PySem.W.nsIn K qN3 "__ne__" = some none)
    (pg4 : PySem.W.plainGet K C4 Str.empty = true)
    (hd4 : PySem.W.hasDictIn K C4 = true)
    (po4 : PySem.W.plainOver K C4 = true)
    (sa4 : PySem.W.findIn K (.ref C4) "__setattr__" = some (some (.builtin "object.__setattr__")))
    (mk4 : PySem.W.makesIn K C4 = true)
    (kc4 : PySem.W.keepIn K (.ref C4) = true)
    (n4_item : PySem.W.findIn K (.ref C4) "item" = some none)
    (n4_width : PySem.W.findIn K (.ref C4) "width" = some none)
    (ha4 : PySem.W.findIn K (.ref C4) "__class__" = some (some (.builtin "object.__class__")))
    (hm4 : PySem.W.mroIn K C4 (.type "object") = some true)
    {qq4 : Str} {qN4 : Addr} {qb4 : List Value} {qh4 : Bool} {qs4 : List Str} {qu4 : List Value} {qa4 : Bool} {qc4 : Option Bool} {qd4 : Option Addr} {q04 q14 q24 q34 q54 : Option Value} {qi4 : String}
    (lc4 : K.lookup C4 = some (excClassObj "Items" qq4 C4 qN4 qb4 [.type "object"] qh4 qs4 qu4 qa4 qc4 qd4 q04 q14 q24 q34 q54 qi4))
    (no4 : PySem.W.nsOkIn K qN4 = true)
    (nq4 : PySem.W.nsIn K qN4 "__eq__" = some (some (.ref f15)))
    (nn4 : PySem.W.nsIn K qN4 "__ne__" = some none)
    (pg5 : PySem.W.plainGet K C5 Str.empty = true)
    (hd5 : PySem.W.hasDictIn K C5 = true)
    (po5 : PySem.W.plainOver K C5 = true)
    (sa5 : PySem.W.findIn K (.ref C5) "__setattr__" = some (some (.builtin "object.__setattr__")))
    (mk5 : PySem.W.makesIn K C5 = true)
    (kc5 : PySem.W.keepIn K (.ref C5) = true)
    (n5_word : PySem.W.findIn K (.ref C5) "word" = some none)
    (n5_name : PySem.W.findIn K (.ref C5) "name" = some none)
    (n5_kind : PySem.W.findIn K (.ref C5) "kind" = some none)
    (ha5 : PySem.W.findIn K (.ref C5) "__class__" = some (some (.builtin "object.__class__")))
    (hm5 : PySem.W.mroIn K C5 (.type "object") = some true)
    {qq5 : Str} {qN5 : Addr} {qb5 : List Value} {qh5 : Bool} {qs5 : List Str} {qu5 : List Value} {qa5 : Bool} {qc5 : Option Bool} {qd5 : Option Addr} {q05 q15 q25 q35 q55 : Option Value} {qi5 : String}
    (lc5 : K.lookup C5 = some (excClassObj "Way" qq5 C5 qN5 qb5 [.type "object"] qh5 qs5 qu5 qa5 qc5 qd5 q05 q15 q25 q35 q55 qi5))
    (no5 : PySem.W.nsOkIn K qN5 = true)
    (nq5 : PySem.W.nsIn K qN5 "__eq__" = some (some (.ref f19)))
    (nn5 : PySem.W.nsIn K qN5 "__ne__" = some none)
    (pg6 : PySem.W.plainGet K C6 Str.empty = true)
    (hd6 : PySem.W.hasDictIn K C6 = true)
    (po6 : PySem.W.plainOver K C6 = true)
    (sa6 : PySem.W.findIn K (.ref C6) "__setattr__" = some (some (.builtin "object.__setattr__")))
    (mk6 : PySem.W.makesIn K C6 = true)
    (kc6 : PySem.W.keepIn K (.ref C6) = true)
    (n6_word : PySem.W.findIn K (.ref C6) "word" = some none)
    (n6_name : PySem.W.findIn K (.ref C6) "name" = some none)
    (n6_kind : PySem.W.findIn K (.ref C6) "kind" = some none)
    (ha6 : PySem.W.findIn K (.ref C6) "__class__" = some (some (.builtin "object.__class__")))
    (hm6 : PySem.W.mroIn K C6 (.type "object") = some true)
    {qq6 : Str} {qN6 : Addr} {qb6 : List Value} {qh6 : Bool} {qs6 : List Str} {qu6 : List Value} {qa6 : Bool} {qc6 : Option Bool} {qd6 : Option Addr} {q06 q16 q26 q36 q56 : Option Value} {qi6 : String}
    (lc6 : K.lookup C6 = some (excClassObj "Door" qq6 C6 qN6 qb6 [.type "object"] qh6 qs6 qu6 qa6 qc6 qd6 q06 q16 q26 q36 q56 qi6))
    (no6 : PySem.W.nsOkIn K qN6 = true)
    (nq6 : PySem.W.nsIn K qN6 "__eq__" = some (some (.ref f21)))
    (nn6 : PySem.W.nsIn K qN6 "__ne__" = some none)
    (pg7 : PySem.W.plainGet K C7 Str.empty = true)
    (hd7 : PySem.W.hasDictIn K C7 = true)
    (po7 : PySem.W.plainOver K C7 = true)
    (sa7 : PySem.W.findIn K (.ref C7) "__setattr__" = some (some (.builtin "object.__setattr__")))
    (mk7 : PySem.W.makesIn K C7 = true)
    (kc7 : PySem.W.keepIn K (.ref C7) = true)
    (n7_ways : PySem.W.findIn K (.ref C7) "ways" = some none)
    (ha7 : PySem.W.findIn K (.ref C7) "__class__" = some (some (.builtin "object.__class__")))
    (hm7 : PySem.W.mroIn K C7 (.type "object") = some true)
    {qq7 : Str} {qN7 : Addr} {qb7 : List Value} {qh7 : Bool} {qs7 : List Str} {qu7 : List Value} {qa7 : Bool} {qc7 : Option Bool} {qd7 : Option Addr} {q07 q17 q27 q37 q57 : Option Value} {qi7 : String}
    (lc7 : K.lookup C7 = some (excClassObj "Choice" qq7 C7 qN7 qb7 [.type "object"] qh7 qs7 qu7 qa7 qc7 qd7 q07 q17 q27 q37 q57 qi7))
    (no7 : PySem.W.nsOkIn K qN7 = true)
    (nq7 : PySem.W.nsIn K qN7 "__eq__" = some (some (.ref f24)))
    (nn7 : PySem.W.nsIn K qN7 "__ne__" = some none)
    (pg8 : PySem.W.plainGet K C8 Str.empty = true)
    (hd8 : PySem.W.hasDictIn K C8 = true)
    (po8 : PySem.W.plainOver K C8 = true)
    (sa8 : PySem.W.findIn K (.ref C8) "__setattr__" = some (some (.builtin "object.__setattr__")))
    (mk8 : PySem.W.makesIn K C8 = true)
    (kc8 : PySem.W.keepIn K (.ref C8) = true)
    (n8_name : PySem.W.findIn K (.ref C8) "name" = some none)
    (n8_kind : PySem.W.findIn K (.ref C8) "kind" = some none)
    (ha8 : PySem.W.findIn K (.ref C8) "__class__" = some (some (.builtin "object.__class__")))
    (hm8 : PySem.W.mroIn K C8 (.type "object") = some true)
    {qq8 : Str} {qN8 : Addr} {qb8 : List Value} {qh8 : Bool} {qs8 : List Str} {qu8 : List Value} {qa8 : Bool} {qc8 : Option Bool} {qd8 : Option Addr} {q08 q18 q28 q38 q58 : Option Value} {qi8 : String}
    (lc8 : K.lookup C8 = some (excClassObj "Part" qq8 C8 qN8 qb8 [.type "object"] qh8 qs8 qu8 qa8 qc8 qd8 q08 q18 q28 q38 q58 qi8))
    (no8 : PySem.W.nsOkIn K qN8 = true)
    (nq8 : PySem.W.nsIn K qN8 "__eq__" = some (some (.ref f26)))
    (nn8 : PySem.W.nsIn K qN8 "__ne__" = some none)
    (pg9 : PySem.W.plainGet K C9 Str.empty = true)
    (hd9 : PySem.W.hasDictIn K C9 = true)
    (po9 : PySem.W.plainOver K C9 = true)
    (sa9 : PySem.W.findIn K (.ref C9) "__setattr__" = some (some (.builtin "object.__setattr__")))
    (mk9 : PySem.W.makesIn K C9 = true)
    (kc9 : PySem.W.keepIn K (.ref C9) = true)
    (n9_word : PySem.W.findIn K (.ref C9) "word" = some none)
    (n9_name : PySem.W.findIn K (.ref C9) "name" = some none)
    (n9_kind : PySem.W.findIn K (.ref C9) "kind" = some none)
    (ha9 : PySem.W.findIn K (.ref C9) "__class__" = some (some (.builtin "object.__class__")))
    (hm9 : PySem.W.mroIn K C9 (.type "object") = some true)
    {qq9 : Str} {qN9 : Addr} {qb9 : List Value} {qh9 : Bool} {qs9 : List Str} {qu9 : List Value} {qa9 : Bool} {qc9 : Option Bool} {qd9 : Option Addr} {q09 q19 q29 q39 q59 : Option Value} {qi9 : String}
    (lc9 : K.lookup C9 = some (excClassObj "Room" qq9 C9 qN9 qb9 [.type "object"] qh9 qs9 qu9 qa9 qc9 qd9 q09 q19 q29 q39 q59 qi9))
    (no9 : PySem.W.nsOkIn K qN9 = true)
    (nq9 : PySem.W.nsIn K qN9 "__eq__" = some (some (.ref f28)))
    (nn9 : PySem.W.nsIn K qN9 "__ne__" = some none)
    (pg10 : PySem.W.plainGet K C10 Str.empty = true)
    (hd10 : PySem.W.hasDictIn K C10 = true)
    (po10 : PySem.W.plainOver K C10 = true)
    (sa10 : PySem.W.findIn K (.ref C10) "__setattr__" = some (some (.builtin "object.__setattr__")))
    (mk10 : PySem.W.makesIn K C10 = true)
    (kc10 : PySem.W.keepIn K (.ref C10) = true)
    (n10_parts : PySem.W.findIn K (.ref C10) "parts" = some none)
    (ha10 : PySem.W.findIn K (.ref C10) "__class__" = some (some (.builtin "object.__class__")))
    (hm10 : PySem.W.mroIn K C10 (.type "object") = some true)
    {qq10 : Str} {qN10 : Addr} {qb10 : List Value} {qh10 : Bool} {qs10 : List Str} {qu10 : List Value} {qa10 : Bool} {qc10 : Option Bool} {qd10 : Option Addr} {q010 q110 q210 q310 q510 : Option Value} {qi10 : String}
    (lc10 : K.lookup C10 = some (excClassObj "Row" qq10 C10 qN10 qb10 [.type "object"] qh10 qs10 qu10 qa10 qc10 qd10 q010 q110 q210 q310 q510 qi10))
    (no10 : PySem.W.nsOkIn K qN10 = true)
    (nq10 : PySem.W.nsIn K qN10 "__eq__" = some (some (.ref f31)))
    (nn10 : PySem.W.nsIn K qN10 "__ne__" = some none)
    (xC11 : PySem.W.subIn K (.ref C11) (.type "BaseException") = some true)
    (xt11 : PySem.W.typeIn K (.ref C11) = some (.type "type"))
    (xi11 : PySem.W.isClsIn K C11 = true)
    (xs11 : PySem.W.subIn K (.ref C11) (.ref C11) = some true)
    (xC12 : PySem.W.subIn K (.ref C12) (.type "BaseException") = some true)
    (xt12 : PySem.W.typeIn K (.ref C12) = some (.type "type"))
    (xi12 : PySem.W.isClsIn K C12 = true)
    (xs12 : PySem.W.subIn K (.ref C12) (.ref C12) = some true)
    {qn12 qq12 : Str} {qN12 : Addr} {qb12 : List Value} {qs12 : List Str} {qu12 : List Value} {qa12 : Bool} {qc12 : Option Bool} {qd12 : Option Addr} {q012 q112 q212 q312 q512 : Option Value}
    (xl12 : K.lookup C12 = some (excClassObj qn12 qq12 C12 qN12 qb12 [.ref C11, .type "ValueError", .type "Exception", .type "BaseException", .type "object"] true qs12 qu12 qa12 qc12 qd12 q012 q112 q212 q312 q512 "ValueError.__new__"))
    (xa12 : PySem.W.findIn K (.ref C12) "__setattr__" = some (some (.builtin "object.__setattr__")))
    (xg12 : PySem.W.findIn K (.ref C12) "__getattribute__" = some (some (.builtin "BaseException.__getattribute__")))
    (xy12 : PySem.W.findIn K (.ref C12) "__getattr__" = some none)
    (xk12 : PySem.W.keepIn K (.ref C12) = true)
    (xh12 : PySem.W.hasDictIn K C12 = true)
    (xT12 : PySem.W.typeIn K (.ref f0) = some (.type "function"))
    (xn12_part : PySem.W.findIn K (.ref C12) "part" = some none)
    (gn : PySem.W.specialIn K (.builtin "object.__class__") "__get__" = some (some (.builtin "getset_descriptor.__get__")))
    (gt : PySem.W.takesIn K (.builtin "object.__class__") = some true)
    (z_ValueError : PySem.W.nsIn K mainGlobals "ValueError" = some none)
    (z_bool : PySem.W.nsIn K mainGlobals "bool" = some none)
    (z_dict : PySem.W.nsIn K mainGlobals "dict" = some none)
    (z_enumerate : PySem.W.nsIn K mainGlobals "enumerate" = some none)
    (z_int : PySem.W.nsIn K mainGlobals "int" = some none)
    (z_isinstance : PySem.W.nsIn K mainGlobals "isinstance" = some none)
    (z_len : PySem.W.nsIn K mainGlobals "len" = some none)
    (z_list : PySem.W.nsIn K mainGlobals "list" = some none)
    (z_max : PySem.W.nsIn K mainGlobals "max" = some none)
    (z_range : PySem.W.nsIn K mainGlobals "range" = some none)
    (z_str : PySem.W.nsIn K mainGlobals "str" = some none)
    (z_tuple : PySem.W.nsIn K mainGlobals "tuple" = some none)
    {tk_LETTERS : Tok}
    (g_LETTERS : PySem.W.nsIn K mainGlobals "LETTERS" = some (some (.str "abcdefghijklmnopqrstuvwxyz" tk_LETTERS))) :
    ∃ A : Ad, Txt K mg A ∧ mg "law" = some (.ref A.f_law) ∧ ∀ (s : Shared) (v : Value), BindsTo s A.d_law ⟨[v], []⟩ [("script", v)] := by
  have F0 := fun_mk (st := s_BadKind___init__) l0 c0 k0
  have F1 := fun_mk (st := s_is_integer) l1 c1 k1
  have F2 := fun_mk (st := s_is_bits) l2 c2 k2
  have F3 := fun_mk (st := s_is_name) l3 c3 k3
  have F4 := fun_mk (st := s_is_word) l4 c4 k4
  have F5 := fun_mk (st := s_begins) l5 c5 k5
  have F6 := fun_mk (st := s_Nothing___eq__) l6 c6 k6
  have F7 := fun_mk (st := s_is_width) l7 c7 k7
  have F8 : FunD K "__init__" "Number.__init__" (defArgs s_Number___init__) (defBody s_Number___init__) (defScope s_Number___init__) [.non] [] f8 _ := ⟨⟨oc8, od8, .ref T8, kV8, dc8, pm8, an8, cd8, ct8, sl8, rfl, l8, c8, .inr ⟨by simp, T8, _, _, _, rfl, lt8, rfl, .cons rfl .nil⟩, .inl rfl⟩, k8⟩
  have F9 := fun_mk (st := s_Number___eq__) l9 c9 k9
  have F10 := fun_mk (st := s_Bits___init__) l10 c10 k10
  have F11 := fun_mk (st := s_Bits___eq__) l11 c11 k11
  have F12 := fun_mk (st := s_Call___init__) l12 c12 k12
  have F13 := fun_mk (st := s_Call___eq__) l13 c13 k13
  have F14 : FunD K "__init__" "Items.__init__" (defArgs s_Items___init__) (defBody s_Items___init__) (defScope s_Items___init__) [.non] [] f14 _ := ⟨⟨oc14, od14, .ref T14, kV14, dc14, pm14, an14, cd14, ct14, sl14, rfl, l14, c14, .inr ⟨by simp, T14, _, _, _, rfl, lt14, rfl, .cons rfl .nil⟩, .inl rfl⟩, k14⟩
  have F15 := fun_mk (st := s_Items___eq__) l15 c15 k15
  have F16 := fun_mk (st := s_is_simple) l16 c16 k16
  have F17 := fun_mk (st := s_check_inner) l17 c17 k17
  have F18 := fun_mk (st := s_Way___init__) l18 c18 k18
  have F19 := fun_mk (st := s_Way___eq__) l19 c19 k19
  have F20 := fun_mk (st := s_Door___init__) l20 c20 k20
  have F21 := fun_mk (st := s_Door___eq__) l21 c21 k21
  have F22 := fun_mk (st := s_are_ways) l22 c22 k22
  have F23 := fun_mk (st := s_Choice___init__) l23 c23 k23
  have F24 := fun_mk (st := s_Choice___eq__) l24 c24 k24
  have F25 := fun_mk (st := s_Part___init__) l25 c25 k25
  have F26 := fun_mk (st := s_Part___eq__) l26 c26 k26
  have F27 := fun_mk (st := s_Room___init__) l27 c27 k27
  have F28 := fun_mk (st := s_Room___eq__) l28 c28 k28
  have F29 := fun_mk (st := s_are_parts) l29 c29 k29
  have F30 := fun_mk (st := s_Row___init__) l30 c30 k30
  have F31 := fun_mk (st := s_Row___eq__) l31 c31 k31
  have F32 := fun_mk (st := s__law_is_int) l32 c32 k32
  have F33 := fun_mk (st := s__law_same_dict) l33 c33 k33
  have F34 := fun_mk (st := s__law_same) l34 c34 k34
  have F35 := fun_mk (st := s__law_start) l35 c35 k35
  have F36 := fun_mk (st := s__law_pull) l36 c36 k36
  have F37 := fun_mk (st := s__law_name) l37 c37 k37
  have F38 := fun_mk (st := s__law_bits) l38 c38 k38
  have F39 := fun_mk (st := s__law_words) l39 c39 k39
  have F40 := fun_mk (st := s__law_odd) l40 c40 k40
  have F41 := fun_mk (st := s__law_object) l41 c41 k41
  have F42 := fun_mk (st := s__law_rows) l42 c42 k42
  have F43 := fun_mk (st := s__law_spoil) l43 c43 k43
  have F44 := fun_mk (st := s__law_one) l44 c44 k44
  have F45 := fun_mk (st := s__law_plain) l45 c45 k45
  have F46 := fun_mk (st := s__law_good) l46 c46 k46
  have F47 := fun_mk (st := s__law_make) l47 c47 k47
  have F48 := fun_mk (st := s__law_told) l48 c48 k48
  have F49 := fun_mk (st := s__law_is_right) l49 c49 k49
  have F50 := fun_mk (st := s__law_kept) l50 c50 k50
  have F51 := fun_mk (st := s__law_after_change) l51 c51 k51
  have F52 := fun_mk (st := s_law) l52 c52 k52
  exact ⟨{ f_BadKind___init__ := f0, d_BadKind___init__ := _, f_is_integer := f1, d_is_integer := _, f_is_bits := f2, d_is_bits := _, f_is_name := f3, d_is_name := _, f_is_word := f4, d_is_word := _, f_begins := f5, d_begins := _, f_Nothing___eq__ := f6, d_Nothing___eq__ := _, f_is_width := f7, d_is_width := _, f_Number___init__ := f8, d_Number___init__ := _, f_Number___eq__ := f9, d_Number___eq__ := _, f_Bits___init__ := f10, d_Bits___init__ := _, f_Bits___eq__ := f11, d_Bits___eq__ := _, f_Call___init__ := f12, d_Call___init__ := _, f_Call___eq__ := f13, d_Call___eq__ := _, f_Items___init__ := f14, d_Items___init__ := _, f_Items___eq__ := f15, d_Items___eq__ := _, f_is_simple := f16, d_is_simple := _, f_check_inner := f17, d_check_inner := _, f_Way___init__ := f18, d_Way___init__ := _, f_Way___eq__ := f19, d_Way___eq__ := _, f_Door___init__ := f20, d_Door___init__ := _, f_Door___eq__ := f21, d_Door___eq__ := _, f_are_ways := f22, d_are_ways := _, f_Choice___init__ := f23, d_Choice___init__ := _, f_Choice___eq__ := f24, d_Choice___eq__ := _, f_Part___init__ := f25, d_Part___init__ := _, f_Part___eq__ := f26, d_Part___eq__ := _, f_Room___init__ := f27, d_Room___init__ := _, f_Room___eq__ := f28, d_Room___eq__ := _, f_are_parts := f29, d_are_parts := _, f_Row___init__ := f30, d_Row___init__ := _, f_Row___eq__ := f31, d_Row___eq__ := _, f__law_is_int := f32, d__law_is_int := _, f__law_same_dict := f33, d__law_same_dict := _, f__law_same := f34, d__law_same := _, f__law_start := f35, d__law_start := _, f__law_pull := f36, d__law_pull := _, f__law_name := f37, d__law_name := _, f__law_bits := f38, d__law_bits := _, f__law_words := f39, d__law_words := _, f__law_odd := f40, d__law_odd := _, f__law_object := f41, d__law_object := _, f__law_rows := f42, d__law_rows := _, f__law_spoil := f43, d__law_spoil := _, f__law_one := f44, d__law_one := _, f__law_plain := f45, d__law_plain := _, f__law_good := f46, d__law_good := _, f__law_make := f47, d__law_make := _, f__law_told := f48, d__law_told := _, f__law_is_right := f49, d__law_is_right := _, f__law_kept := f50, d__law_kept := _, f__law_after_change := f51, d__law_after_change := _, f_law := f52, d_law := _, c_Nothing := C0, c_Number := C1, c_Bits := C2, c_Call := C3, c_Items := C4, c_Way := C5, c_Door := C6, c_Choice := C7, c_Part := C8, c_Room := C9, c_Row := C10, c_RoomError := C11, c_BadKind := C12 }, { F_BadKind___init__ := F0, k_BadKind___init__ := k0, b_BadKind___init__ := F0.binds (ps := ["self", "part"]) fun _ _ _ _ _ _ us hl => match us, hl with | [_, _], _ => rfl, F_is_integer := F1, k_is_integer := k1, b_is_integer := F1.binds (ps := ["thing"]) fun _ _ _ _ _ _ us hl => match us, hl with | [_], _ => rfl, mg_is_integer := PySem.W.mg_of X G a1, F_is_bits := F2, k_is_bits := k2, b_is_bits := F2.binds (ps := ["thing"]) fun _ _ _ _ _ _ us hl => match us, hl with | [_], _ => rfl, mg_is_bits := PySem.W.mg_of X G a2, F_is_name := F3, k_is_name := k3, b_is_name := F3.binds (ps := ["thing"]) fun _ _ _ _ _ _ us hl => match us, hl with | [_], _ => rfl, mg_is_name := PySem.W.mg_of X G a3, F_is_word := F4, k_is_word := k4, b_is_word := F4.binds (ps := ["thing"]) fun _ _ _ _ _ _ us hl => match us, hl with | [_], _ => rfl, mg_is_word := PySem.W.mg_of X G a4, F_begins := F5, k_begins := k5, b_begins := F5.binds (ps := ["one", "other"]) fun _ _ _ _ _ _ us hl => match us, hl with | [_, _], _ => rfl, mg_begins := PySem.W.mg_of X G a5, F_Nothing___eq__ := F6, k_Nothing___eq__ := k6, b_Nothing___eq__ := F6.binds (ps := ["self", "other"]) fun _ _ _ _ _ _ us hl => match us, hl with | [_, _], _ => rfl, m_Nothing___eq__ := a6, i_Nothing___eq__ := i6, F_is_width := F7, k_is_width := k7, b_is_width := F7.binds (ps := ["width", "many"]) fun _ _ _ _ _ _ us hl => match us, hl with | [_, _], _ => rfl, mg_is_width := PySem.W.mg_of X G a7, F_Number___init__ := F8, k_Number___init__ := k8, b_Number___init__ := binds_nil rfl (F8.binds1 (ps := ["self", "low", "high", "width"]) 4 1 (by simp) (by rfl) fun _ _ _ _ _ _ _ us its hu hi => match us, its, hu, hi with | [_, _, _, _], [_], _, _ => ⟨_, rfl, rfl⟩), b1_Number___init__ := binds_non rfl (F8.binds1 (ps := ["self", "low", "high", "width"]) 3 0 (by simp) (by rfl) fun _ _ _ _ _ _ _ us its hu hi => match us, its, hu, hi with | [_, _, _], [_], _, _ => ⟨_, rfl, rfl⟩), F_Number___eq__ := F9, k_Number___eq__ := k9, b_Number___eq__ := F9.binds (ps := ["self", "other"]) fun _ _ _ _ _ _ us hl => match us, hl with | [_, _], _ => rfl, m_Number___eq__ := a9, i_Number___eq__ := i9, F_Bits___init__ := F10, k_Bits___init__ := k10, b_Bits___init__ := F10.binds (ps := ["self", "many"]) fun _ _ _ _ _ _ us hl => match us, hl with | [_, _], _ => rfl, F_Bits___eq__ := F11, k_Bits___eq__ := k11, b_Bits___eq__ := F11.binds (ps := ["self", "other"]) fun _ _ _ _ _ _ us hl => match us, hl with | [_, _], _ => rfl, m_Bits___eq__ := a11, i_Bits___eq__ := i11, F_Call___init__ := F12, k_Call___init__ := k12, b_Call___init__ := F12.binds (ps := ["self", "name"]) fun _ _ _ _ _ _ us hl => match us, hl with | [_, _], _ => rfl, F_Call___eq__ := F13, k_Call___eq__ := k13, b_Call___eq__ := F13.binds (ps := ["self", "other"]) fun _ _ _ _ _ _ us hl => match us, hl with | [_, _], _ => rfl, m_Call___eq__ := a13, i_Call___eq__ := i13, F_Items___init__ := F14, k_Items___init__ := k14, b_Items___init__ := binds_nil rfl (F14.binds1 (ps := ["self", "item", "width"]) 3 1 (by simp) (by rfl) fun _ _ _ _ _ _ _ us its hu hi => match us, its, hu, hi with | [_, _, _], [_], _, _ => ⟨_, rfl, rfl⟩), b1_Items___init__ := binds_non rfl (F14.binds1 (ps := ["self", "item", "width"]) 2 0 (by simp) (by rfl) fun _ _ _ _ _ _ _ us its hu hi => match us, its, hu, hi with | [_, _], [_], _, _ => ⟨_, rfl, rfl⟩), F_Items___eq__ := F15, k_Items___eq__ := k15, b_Items___eq__ := F15.binds (ps := ["self", "other"]) fun _ _ _ _ _ _ us hl => match us, hl with | [_, _], _ => rfl, m_Items___eq__ := a15, i_Items___eq__ := i15, F_is_simple := F16, k_is_simple := k16, b_is_simple := F16.binds (ps := ["thing"]) fun _ _ _ _ _ _ us hl => match us, hl with | [_], _ => rfl, mg_is_simple := PySem.W.mg_of X G a16, F_check_inner := F17, k_check_inner := k17, b_check_inner := F17.binds (ps := ["word", "name", "is_kind"]) fun _ _ _ _ _ _ us hl => match us, hl with | [_, _, _], _ => rfl, mg_check_inner := PySem.W.mg_of X G a17, F_Way___init__ := F18, k_Way___init__ := k18, b_Way___init__ := F18.binds (ps := ["self", "word", "name", "kind"]) fun _ _ _ _ _ _ us hl => match us, hl with | [_, _, _, _], _ => rfl, F_Way___eq__ := F19, k_Way___eq__ := k19, b_Way___eq__ := F19.binds (ps := ["self", "other"]) fun _ _ _ _ _ _ us hl => match us, hl with | [_, _], _ => rfl, m_Way___eq__ := a19, i_Way___eq__ := i19, F_Door___init__ := F20, k_Door___init__ := k20, b_Door___init__ := F20.binds (ps := ["self", "word", "name", "kind"]) fun _ _ _ _ _ _ us hl => match us, hl with | [_, _, _, _], _ => rfl, F_Door___eq__ := F21, k_Door___eq__ := k21, b_Door___eq__ := F21.binds (ps := ["self", "other"]) fun _ _ _ _ _ _ us hl => match us, hl with | [_, _], _ => rfl, m_Door___eq__ := a21, i_Door___eq__ := i21, F_are_ways := F22, k_are_ways := k22, b_are_ways := F22.binds (ps := ["ways"]) fun _ _ _ _ _ _ us hl => match us, hl with | [_], _ => rfl, mg_are_ways := PySem.W.mg_of X G a22, F_Choice___init__ := F23, k_Choice___init__ := k23, b_Choice___init__ := F23.binds (ps := ["self", "ways"]) fun _ _ _ _ _ _ us hl => match us, hl with | [_, _], _ => rfl, F_Choice___eq__ := F24, k_Choice___eq__ := k24, b_Choice___eq__ := F24.binds (ps := ["self", "other"]) fun _ _ _ _ _ _ us hl => match us, hl with | [_, _], _ => rfl, m_Choice___eq__ := a24, i_Choice___eq__ := i24, F_Part___init__ := F25, k_Part___init__ := k25, b_Part___init__ := F25.binds (ps := ["self", "name", "kind"]) fun _ _ _ _ _ _ us hl => match us, hl with | [_, _, _], _ => rfl, F_Part___eq__ := F26, k_Part___eq__ := k26, b_Part___eq__ := F26.binds (ps := ["self", "other"]) fun _ _ _ _ _ _ us hl => match us, hl with | [_, _], _ => rfl, m_Part___eq__ := a26, i_Part___eq__ := i26, F_Room___init__ := F27, k_Room___init__ := k27, b_Room___init__ := F27.binds (ps := ["self", "word", "name", "kind"]) fun _ _ _ _ _ _ us hl => match us, hl with | [_, _, _, _], _ => rfl, F_Room___eq__ := F28, k_Room___eq__ := k28, b_Room___eq__ := F28.binds (ps := ["self", "other"]) fun _ _ _ _ _ _ us hl => match us, hl with | [_, _], _ => rfl, m_Room___eq__ := a28, i_Room___eq__ := i28, F_are_parts := F29, k_are_parts := k29, b_are_parts := F29.binds (ps := ["parts"]) fun _ _ _ _ _ _ us hl => match us, hl with | [_], _ => rfl, mg_are_parts := PySem.W.mg_of X G a29, F_Row___init__ := F30, k_Row___init__ := k30, b_Row___init__ := F30.binds (ps := ["self", "parts"]) fun _ _ _ _ _ _ us hl => match us, hl with | [_, _], _ => rfl, F_Row___eq__ := F31, k_Row___eq__ := k31, b_Row___eq__ := F31.binds (ps := ["self", "other"]) fun _ _ _ _ _ _ us hl => match us, hl with | [_, _], _ => rfl, m_Row___eq__ := a31, i_Row___eq__ := i31, F__law_is_int := F32, k__law_is_int := k32, b__law_is_int := F32.binds (ps := ["told"]) fun _ _ _ _ _ _ us hl => match us, hl with | [_], _ => rfl, mg__law_is_int := PySem.W.mg_of X G a32, F__law_same_dict := F33, k__law_same_dict := k33, b__law_same_dict := F33.binds (ps := ["told", "due"]) fun _ _ _ _ _ _ us hl => match us, hl with | [_, _], _ => rfl, mg__law_same_dict := PySem.W.mg_of X G a33, F__law_same := F34, k__law_same := k34, b__law_same := F34.binds (ps := ["told", "due"]) fun _ _ _ _ _ _ us hl => match us, hl with | [_, _], _ => rfl, mg__law_same := PySem.W.mg_of X G a34, F__law_start := F35, k__law_start := k35, b__law_start := F35.binds (ps := ["script"]) fun _ _ _ _ _ _ us hl => match us, hl with | [_], _ => rfl, mg__law_start := PySem.W.mg_of X G a35, F__law_pull := F36, k__law_pull := k36, b__law_pull := F36.binds (ps := ["state", "many"]) fun _ _ _ _ _ _ us hl => match us, hl with | [_, _], _ => rfl, mg__law_pull := PySem.W.mg_of X G a36, F__law_name := F37, k__law_name := k37, b__law_name := F37.binds (ps := ["state", "taken"]) fun _ _ _ _ _ _ us hl => match us, hl with | [_, _], _ => rfl, mg__law_name := PySem.W.mg_of X G a37, F__law_bits := F38, k__law_bits := k38, b__law_bits := F38.binds (ps := ["state", "many"]) fun _ _ _ _ _ _ us hl => match us, hl with | [_, _], _ => rfl, mg__law_bits := PySem.W.mg_of X G a38, F__law_words := F39, k__law_words := k39, b__law_words := F39.binds (ps := ["state", "many"]) fun _ _ _ _ _ _ us hl => match us, hl with | [_, _], _ => rfl, mg__law_words := PySem.W.mg_of X G a39, F__law_odd := F40, k__law_odd := k40, b__law_odd := F40.binds (ps := ["state"]) fun _ _ _ _ _ _ us hl => match us, hl with | [_], _ => rfl, mg__law_odd := PySem.W.mg_of X G a40, F__law_object := F41, k__law_object := k41, b__law_object := F41.binds (ps := ["turn"]) fun _ _ _ _ _ _ us hl => match us, hl with | [_], _ => rfl, mg__law_object := PySem.W.mg_of X G a41, F__law_rows := F42, k__law_rows := k42, b__law_rows := F42.binds (ps := ["state", "rows"]) fun _ _ _ _ _ _ us hl => match us, hl with | [_, _], _ => rfl, mg__law_rows := PySem.W.mg_of X G a42, F__law_spoil := F43, k__law_spoil := k43, b__law_spoil := F43.binds (ps := ["state", "plain"]) fun _ _ _ _ _ _ us hl => match us, hl with | [_, _], _ => rfl, mg__law_spoil := PySem.W.mg_of X G a43, F__law_one := F44, k__law_one := k44, b__law_one := F44.binds (ps := ["rows", "entry"]) fun _ _ _ _ _ _ us hl => match us, hl with | [_, _], _ => rfl, mg__law_one := PySem.W.mg_of X G a44, F__law_plain := F45, k__law_plain := k45, b__law_plain := F45.binds (ps := ["rows", "entry"]) fun _ _ _ _ _ _ us hl => match us, hl with | [_, _], _ => rfl, mg__law_plain := PySem.W.mg_of X G a45, F__law_good := F46, k__law_good := k46, b__law_good := F46.binds (ps := ["rows", "plain"]) fun _ _ _ _ _ _ us hl => match us, hl with | [_, _], _ => rfl, mg__law_good := PySem.W.mg_of X G a46, F__law_make := F47, k__law_make := k47, b__law_make := F47.binds (ps := ["rows", "passed"]) fun _ _ _ _ _ _ us hl => match us, hl with | [_, _], _ => rfl, mg__law_make := PySem.W.mg_of X G a47, F__law_told := F48, k__law_told := k48, b__law_told := F48.binds (ps := ["rows", "passed"]) fun _ _ _ _ _ _ us hl => match us, hl with | [_, _], _ => rfl, mg__law_told := PySem.W.mg_of X G a48, F__law_is_right := F49, k__law_is_right := k49, b__law_is_right := F49.binds (ps := ["rows", "which", "made"]) fun _ _ _ _ _ _ us hl => match us, hl with | [_, _, _], _ => rfl, mg__law_is_right := PySem.W.mg_of X G a49, F__law_kept := F50, k__law_kept := k50, b__law_kept := F50.binds (ps := ["rows", "given", "plain", "told"]) fun _ _ _ _ _ _ us hl => match us, hl with | [_, _, _, _], _ => rfl, mg__law_kept := PySem.W.mg_of X G a50, F__law_after_change := F51, k__law_after_change := k51, b__law_after_change := F51.binds (ps := ["rows", "given"]) fun _ _ _ _ _ _ us hl => match us, hl with | [_, _], _ => rfl, mg__law_after_change := PySem.W.mg_of X G a51, F_law := F52, k_law := k52, b_law := F52.binds (ps := ["script"]) fun _ _ _ _ _ _ us hl => match us, hl with | [_], _ => rfl, mg_law := PySem.W.mg_of X G a52, mg_Nothing := PySem.W.mg_of X G aC0, cl_Nothing := ⟨pg0, hd0, po0, sa0⟩, mo_Nothing := mk0, io_Nothing := io0, kc_Nothing := kc0, o_Nothing := ⟨_, _, _, _, _, _, _, _, _, _, _, _, _, _, _, lc0⟩, isc_Nothing := ⟨⟨pg0, hd0, po0, sa0⟩, ha0, gn, gt, hm0, kit_self⟩, eq_Nothing := ⟨a6, i6, _, _, _, _, _, _, _, _, _, _, _, _, _, _, _, _, lc0, no0, nq0, nn0⟩, mg_Number := PySem.W.mg_of X G aC1, cl_Number := ⟨pg1, hd1, po1, sa1⟩, mk_Number := ⟨mk1, a8, i8, kc1⟩, kc_Number := kc1, o_Number := ⟨_, _, _, _, _, _, _, _, _, _, _, _, _, _, _, lc1⟩, n_Number_low := n1_low, n_Number_high := n1_high, n_Number_width := n1_width, isc_Number := ⟨⟨pg1, hd1, po1, sa1⟩, ha1, gn, gt, hm1, kit_self⟩, eq_Number := ⟨a9, i9, _, _, _, _, _, _, _, _, _, _, _, _, _, _, _, _, lc1, no1, nq1, nn1⟩, mg_Bits := PySem.W.mg_of X G aC2, cl_Bits := ⟨pg2, hd2, po2, sa2⟩, mk_Bits := ⟨mk2, a10, i10, kc2⟩, kc_Bits := kc2, o_Bits := ⟨_, _, _, _, _, _, _, _, _, _, _, _, _, _, _, lc2⟩, n_Bits_many := n2_many, isc_Bits := ⟨⟨pg2, hd2, po2, sa2⟩, ha2, gn, gt, hm2, kit_self⟩, eq_Bits := ⟨a11, i11, _, _, _, _, _, _, _, _, _, _, _, _, _, _, _, _, lc2, no2, nq2, nn2⟩, mg_Call := PySem.W.mg_of X G aC3, cl_Call := ⟨pg3, hd3, po3, sa3⟩, mk_Call := ⟨mk3, a12, i12, kc3⟩, kc_Call := kc3, o_Call := ⟨_, _, _, _, _, _, _, _, _, _, _, _, _, _, _, lc3⟩, n_Call_name := n3_name, isc_Call := ⟨⟨pg3, hd3, po3, sa3⟩, ha3, gn, gt, hm3, kit_self⟩, eq_Call := ⟨a13, i13, _, _, _, _, _, _, _, _, _, _, _, _, _, _, _, _, lc3, no3, nq3, nn3⟩, mg_Items := PySem.W.mg_of X G aC4, cl_Items := ⟨pg4, hd4, po4, sa4⟩, mk_Items := ⟨mk4, a14, i14, kc4⟩, kc_Items := kc4, o_Items := ⟨_, _, _, _, _, _, _, _, _, _, _, _, _, _, _, lc4⟩, n_Items_item := n4_item, n_Items_width := n4_width, isc_Items := ⟨⟨pg4, hd4, po4, sa4⟩, ha4, gn, gt, hm4, kit_self⟩, eq_Items := ⟨a15, i15, _, _, _, _, _, _, _, _, _, _, _, _, _, _, _, _, lc4, no4, nq4, nn4⟩, mg_Way := PySem.W.mg_of X G aC5, cl_Way := ⟨pg5, hd5, po5, sa5⟩, mk_Way := ⟨mk5, a18, i18, kc5⟩, kc_Way := kc5, o_Way := ⟨_, _, _, _, _, _, _, _, _, _, _, _, _, _, _, lc5⟩, n_Way_word := n5_word, n_Way_name := n5_name, n_Way_kind := n5_kind, isc_Way := ⟨⟨pg5, hd5, po5, sa5⟩, ha5, gn, gt, hm5, kit_self⟩, eq_Way := ⟨a19, i19, _, _, _, _, _, _, _, _, _, _, _, _, _, _, _, _, lc5, no5, nq5, nn5⟩, mg_Door := PySem.W.mg_of X G aC6, cl_Door := ⟨pg6, hd6, po6, sa6⟩, mk_Door := ⟨mk6, a20, i20, kc6⟩, kc_Door := kc6, o_Door := ⟨_, _, _, _, _, _, _, _, _, _, _, _, _, _, _, lc6⟩, n_Door_word := n6_word, n_Door_name := n6_name, n_Door_kind := n6_kind, isc_Door := ⟨⟨pg6, hd6, po6, sa6⟩, ha6, gn, gt, hm6, kit_self⟩, eq_Door := ⟨a21, i21, _, _, _, _, _, _, _, _, _, _, _, _, _, _, _, _, lc6, no6, nq6, nn6⟩, mg_Choice := PySem.W.mg_of X G aC7, cl_Choice := ⟨pg7, hd7, po7, sa7⟩, mk_Choice := ⟨mk7, a23, i23, kc7⟩, kc_Choice := kc7, o_Choice := ⟨_, _, _, _, _, _, _, _, _, _, _, _, _, _, _, lc7⟩, n_Choice_ways := n7_ways, isc_Choice := ⟨⟨pg7, hd7, po7, sa7⟩, ha7, gn, gt, hm7, kit_self⟩, eq_Choice := ⟨a24, i24, _, _, _, _, _, _, _, _, _, _, _, _, _, _, _, _, lc7, no7, nq7, nn7⟩, mg_Part := PySem.W.mg_of X G aC8, cl_Part := ⟨pg8, hd8, po8, sa8⟩, mk_Part := ⟨mk8, a25, i25, kc8⟩, kc_Part := kc8, o_Part := ⟨_, _, _, _, _, _, _, _, _, _, _, _, _, _, _, lc8⟩, n_Part_name := n8_name, n_Part_kind := n8_kind, isc_Part := ⟨⟨pg8, hd8, po8, sa8⟩, ha8, gn, gt, hm8, kit_self⟩, eq_Part := ⟨a26, i26, _, _, _, _, _, _, _, _, _, _, _, _, _, _, _, _, lc8, no8, nq8, nn8⟩, mg_Room := PySem.W.mg_of X G aC9, cl_Room := ⟨pg9, hd9, po9, sa9⟩, mk_Room := ⟨mk9, a27, i27, kc9⟩, kc_Room := kc9, o_Room := ⟨_, _, _, _, _, _, _, _, _, _, _, _, _, _, _, lc9⟩, n_Room_word := n9_word, n_Room_name := n9_name, n_Room_kind := n9_kind, isc_Room := ⟨⟨pg9, hd9, po9, sa9⟩, ha9, gn, gt, hm9, kit_self⟩, eq_Room := ⟨a28, i28, _, _, _, _, _, _, _, _, _, _, _, _, _, _, _, _, lc9, no9, nq9, nn9⟩, mg_Row := PySem.W.mg_of X G aC10, cl_Row := ⟨pg10, hd10, po10, sa10⟩, mk_Row := ⟨mk10, a30, i30, kc10⟩, kc_Row := kc10, o_Row := ⟨_, _, _, _, _, _, _, _, _, _, _, _, _, _, _, lc10⟩, n_Row_parts := n10_parts, isc_Row := ⟨⟨pg10, hd10, po10, sa10⟩, ha10, gn, gt, hm10, kit_self⟩, eq_Row := ⟨a31, i31, _, _, _, _, _, _, _, _, _, _, _, _, _, _, _, _, lc10, no10, nq10, nn10⟩, mg_RoomError := PySem.W.mg_of X G aC11, te_RoomError := exm_own xC11 xi11 xt11 xs11, mg_BadKind := PySem.W.mg_of X G aC12, te_BadKind := exm_own xC12 xi12 xt12 xs12, oex_BadKind := ⟨⟨_, _, _, _, _, _, _, _, _, _, _, _, _, _, _, xl12, by rfl⟩, xa12, xC12, xt12, xk12⟩, xf_BadKind := ⟨xg12, xy12, xC12, xh12⟩, ix_BadKind := a0, tx_BadKind := xT12, nx_BadKind_part := xn12_part, b_ValueError := PySem.W.mg_none_of X G z_ValueError, b_bool := PySem.W.mg_none_of X G z_bool, b_dict := PySem.W.mg_none_of X G z_dict, b_enumerate := PySem.W.mg_none_of X G z_enumerate, b_int := PySem.W.mg_none_of X G z_int, b_isinstance := PySem.W.mg_none_of X G z_isinstance, b_len := PySem.W.mg_none_of X G z_len, b_list := PySem.W.mg_none_of X G z_list, b_max := PySem.W.mg_none_of X G z_max, b_range := PySem.W.mg_none_of X G z_range, b_str := PySem.W.mg_none_of X G z_str, b_tuple := PySem.W.mg_none_of X G z_tuple, mg_LETTERS := ⟨_, PySem.W.mg_of X G g_LETTERS, ⟨_, rfl⟩⟩ }, PySem.W.mg_of X G a52, fun s v => .of_eq rfl⟩
end My

open PySem PySem.W PyProof.Rows in
set_option maxRecDepth 100000 in
set_option maxHeartbeats 0 in
theorem PySem.Challenge.cw_roomleft_k04_choices_and_rows_refused_or_holds : PySem.Challenge.rw_roomleft_k04_choices_and_rows_refused_or.Holds := by
  w_on; o_law; k_head; (case hw => w_witness2)
  k_fill
  refine L2.walk_ofK (l := PySem.Challenge.rw_roomleft_k04_choices_and_rows_refused_or) (n := 63) (k := 9) (x := "script") (CX := L2.CX0) (sp := My.sp_law0) rfl (by decide) rfl ⟨rfl, by decide, by decide⟩ (fun w h Y => PySem.W.kIn_of Y) ?F ?S ?Z
  case S => exact fun K H a ns hl hO hS => ⟨_, rfl, a, ns, rfl, hS, hl, fun _ => rfl⟩
  case Z => exact fun _ _ _ _ z => z
  case F =>
    intro w mg fa h KX G hmg
    obtain ⟨A, T, e, b⟩ : ∃ A : My.Ad, My.Txt _ mg A ∧ mg "law" = some (.ref A.f_law) ∧ ∀ (s : Shared) (v : Value), BindsTo s A.d_law ⟨[v], []⟩ [("script", v)] := by
      refine' My.all_mk KX G ?aC0 ?aC1 ?aC2 ?aC3 ?aC4 ?aC5 ?aC6 ?aC7 ?aC8 ?aC9 ?aC10 ?aC11 ?aC12 ?a0 ?i0 ?l0 ?c0 ?k0 ?a1 ?l1 ?c1 ?k1 ?a2 ?l2 ?c2 ?k2 ?a3 ?l3 ?c3 ?k3 ?a4 ?l4 ?c4 ?k4 ?a5 ?l5 ?c5 ?k5 ?a6 ?i6 ?l6 ?c6 ?k6 ?a7 ?l7 ?c7 ?k7 ?a8 ?i8 ?l8 ?lt8 ?c8 ?k8 ?a9 ?i9 ?l9 ?c9 ?k9 ?a10 ?i10 ?l10 ?c10 ?k10 ?a11 ?i11 ?l11 ?c11 ?k11 ?a12 ?i12 ?l12 ?c12 ?k12 ?a13 ?i13 ?l13 ?c13 ?k13 ?a14 ?i14 ?l14 ?lt14 ?c14 ?k14 ?a15 ?i15 ?l15 ?c15 ?k15 ?a16 ?l16 ?c16 ?k16 ?a17 ?l17 ?c17 ?k17 ?a18 ?i18 ?l18 ?c18 ?k18 ?a19 ?i19 ?l19 ?c19 ?k19 ?a20 ?i20 ?l20 ?c20 ?k20 ?a21 ?i21 ?l21 ?c21 ?k21 ?a22 ?l22 ?c22 ?k22 ?a23 ?i23 ?l23 ?c23 ?k23 ?a24 ?i24 ?l24 ?c24 ?k24 ?a25 ?i25 ?l25 ?c25 ?k25 ?a26 ?i26 ?l26 ?c26 ?k26 ?a27 ?i27 ?l27 ?c27 ?k27 ?a28 ?i28 ?l28 ?c28 ?k28 ?a29 ?l29 ?c29 ?k29 ?a30 ?i30 ?l30 ?c30 ?k30 ?a31 ?i31 ?l31 ?c31 ?k31 ?a32 ?l32 ?c32 ?k32 ?a33 ?l33 ?c33 ?k33 ?a34 ?l34 ?c34 ?k34 ?a35 ?l35 ?c35 ?k35 ?a36 ?l36 ?c36 ?k36 ?a37 ?l37 ?c37 ?k37 ?a38 ?l38 ?c38 ?k38 ?a39 ?l39 ?c39 ?k39 ?a40 ?l40 ?c40 ?k40 ?a41 ?l41 ?c41 ?k41 ?a42 ?l42 ?c42 ?k42 ?a43 ?l43 ?c43 ?k43 ?a44 ?l44 ?c44 ?k44 ?a45 ?l45 ?c45 ?k45 ?a46 ?l46 ?c46 ?k46 ?a47 ?l47 ?c47 ?k47 ?a48 ?l48 ?c48 ?k48 ?a49 ?l49 ?c49 ?k49 ?a50 ?l50 ?c50 ?k50 ?a51 ?l51 ?c51 ?k51 ?a52 ?l52 ?c52 ?k52 ?pg0 ?hd0 ?po0 ?sa0 ?mk0 ?kc0 ?io0 ?ha0 ?hm0 ?lc0 ?no0 ?nq0 ?nn0 ?pg1 ?hd1 ?po1 ?sa1 ?mk1 ?kc1 ?n1_low ?n1_high ?n1_width ?ha1 ?hm1 ?lc1 ?no1 ?nq1 ?nn1 ?pg2 ?hd2 ?po2 ?sa2 ?mk2 ?kc2 ?n2_many ?ha2 ?hm2 ?lc2 ?no2 ?nq2 ?nn2 ?pg3 ?hd3 ?po3 ?sa3 ?mk3 ?kc3 ?n3_name ?ha3 ?hm3 ?lc3 ?no3 ?nq3 ?nn3 ?pg4 ?hd4 ?po4 ?sa4 ?mk4 ?kc4 ?n4_item ?n4_width ?ha4 ?hm4 ?lc4 ?no4 ?nq4 ?nn4 ?pg5 ?hd5 ?po5 ?sa5 ?mk5 ?kc5 ?n5_word ?n5_name ?n5_kind ?ha5 ?hm5 ?lc5 ?no5 ?nq5 ?nn5 ?pg6 ?hd6 ?po6 ?sa6 ?mk6 ?kc6 ?n6_word ?n6_name ?n6_kind ?ha6 ?hm6 ?lc6 ?no6 ?nq6 ?nn6 ?pg7 ?hd7 ?po7 ?sa7 ?mk7 ?kc7 ?n7_ways ?ha7 ?hm7 ?lc7 ?no7 ?nq7 ?nn7 ?pg8 ?hd8 ?po8 ?sa8 ?mk8 ?kc8 ?n8_name ?n8_kind ?ha8 ?hm8 ?lc8 ?no8 ?nq8 ?nn8 ?pg9 ?hd9 ?po9 ?sa9 ?mk9 ?kc9 ?n9_word ?n9_name ?n9_kind ?ha9 ?hm9 ?lc9 ?no9 ?nq9 ?nn9 ?pg10 ?hd10 ?po10 ?sa10 ?mk10 ?kc10 ?n10_parts ?ha10 ?hm10 ?lc10 ?no10 ?nq10 ?nn10 ?xC11 ?xt11 ?xi11 ?xs11 ?xC12 ?xt12 ?xi12 ?xs12 ?xl12 ?xa12 ?xg12 ?xy12 ?xk12 ?xh12 ?xT12 ?xn12_part ?gn ?gt ?z_ValueError ?z_bool ?z_dict ?z_enumerate ?z_int ?z_isinstance ?z_len ?z_list ?z_max ?z_range ?z_str ?z_tuple ?g_LETTERS
      (case aC0 => k_is)
      (case aC1 => k_is)
      (case aC2 => k_is)
      (case aC3 => k_is)
      (case aC4 => k_is)
      (case aC5 => k_is)
      (case aC6 => k_is)
      (case aC7 => k_is)
      (case aC8 => k_is)
      (case aC9 => k_is)
      (case aC10 => k_is)
      (case aC11 => k_is)
      (case aC12 => k_is)
      (case a0 => k_is)
      (case i0 => k_is)
      (case l0 => k_is)
      (case c0 => k_is)
      (case k0 => k_is)
      (case a1 => k_is)
      (case l1 => k_is)
      (case c1 => k_is)
      (case k1 => k_is)
      (case a2 => k_is)
      (case l2 => k_is)
      (case c2 => k_is)
      (case k2 => k_is)
      (case a3 => k_is)
      (case l3 => k_is)
      (case c3 => k_is)
      (case k3 => k_is)
      (case a4 => k_is)
      (case l4 => k_is)
      (case c4 => k_is)
      (case k4 => k_is)
      (case a5 => k_is)
      (case l5 => k_is)
      (case c5 => k_is)
      (case k5 => k_is)
      (case a6 => k_is)
      (case i6 => k_is)
      (case l6 => k_is)
      (case c6 => k_is)
      (case k6 => k_is)
      (case a7 => k_is)
      (case l7 => k_is)
      (case c7 => k_is)
      (case k7 => k_is)
      (case a8 => k_is)
      (case i8 => k_is)
      (case l8 => k_is)
      (case lt8 => k_is)
      (case c8 => k_is)
      (case k8 => k_is)
      (case a9 => k_is)
      (case i9 => k_is)
      (case l9 => k_is)
      (case c9 => k_is)
      (case k9 => k_is)
      (case a10 => k_is)
      (case i10 => k_is)
      (case l10 => k_is)
      (case c10 => k_is)
      (case k10 => k_is)
      (case a11 => k_is)
      (case i11 => k_is)
      (case l11 => k_is)
      (case c11 => k_is)
      (case k11 => k_is)
      (case a12 => k_is)
      (case i12 => k_is)
      (case l12 => k_is)
      (case c12 => k_is)
      (case k12 => k_is)
      (case a13 => k_is)
      (case i13 => k_is)
      (case l13 => k_is)
      (case c13 => k_is)
      (case k13 => k_is)
      (case a14 => k_is)
      (case i14 => k_is)
      (case l14 => k_is)
      (case lt14 => k_is)
      (case c14 => k_is)
      (case k14 => k_is)
      (case a15 => k_is)
      (case i15 => k_is)
      (case l15 => k_is)
      (case c15 => k_is)
      (case k15 => k_is)
      (case a16 => k_is)
      (case l16 => k_is)
      (case c16 => k_is)
      (case k16 => k_is)
      (case a17 => k_is)
      (case l17 => k_is)
      (case c17 => k_is)
      (case k17 => k_is)
      (case a18 => k_is)
      (case i18 => k_is)
      (case l18 => k_is)
      (case c18 => k_is)
      (case k18 => k_is)
      (case a19 => k_is)
      (case i19 => k_is)
      (case l19 => k_is)
      (case c19 => k_is)
      (case k19 => k_is)
      (case a20 => k_is)
      (case i20 => k_is)
      (case l20 => k_is)
      (case c20 => k_is)
      (case k20 => k_is)
      (case a21 => k_is)
      (case i21 => k_is)
      (case l21 => k_is)
      (case c21 => k_is)
      (case k21 => k_is)
      (case a22 => k_is)
      (case l22 => k_is)
      (case c22 => k_is)
      (case k22 => k_is)
      (case a23 => k_is)
      (case i23 => k_is)
      (case l23 => k_is)
      (case c23 => k_is)
      (case k23 => k_is)
      (case a24 => k_is)
      (case i24 => k_is)
      (case l24 => k_is)
      (case c24 => k_is)
      (case k24 => k_is)
      (case a25 => k_is)
      (case i25 => k_is)
      (case l25 => k_is)
      (case c25 => k_is)
      (case k25 => k_is)
      (case a26 => k_is)
      (case i26 => k_is)
      (case l26 => k_is)
      (case c26 => k_is)
      (case k26 => k_is)
      (case a27 => k_is)
      (case i27 => k_is)
      (case l27 => k_is)
      (case c27 => k_is)
      (case k27 => k_is)
      (case a28 => k_is)
      (case i28 => k_is)
      (case l28 => k_is)
      (case c28 => k_is)
      (case k28 => k_is)
      (case a29 => k_is)
      (case l29 => k_is)
      (case c29 => k_is)
      (case k29 => k_is)
      (case a30 => k_is)
      (case i30 => k_is)
      (case l30 => k_is)
      (case c30 => k_is)
      (case k30 => k_is)
      (case a31 => k_is)
      (case i31 => k_is)
      (case l31 => k_is)
      (case c31 => k_is)
      (case k31 => k_is)
      (case a32 => k_is)
      (case l32 => k_is)
      (case c32 => k_is)
      (case k32 => k_is)
      (case a33 => k_is)
      (case l33 => k_is)
      (case c33 => k_is)
      (case k33 => k_is)
      (case a34 => k_is)
      (case l34 => k_is)
      (case c34 => k_is)
      (case k34 => k_is)
      (case a35 => k_is)
      (case l35 => k_is)
      (case c35 => k_is)
      (case k35 => k_is)
      (case a36 => k_is)
      (case l36 => k_is)
      (case c36 => k_is)
      (case k36 => k_is)
      (case a37 => k_is)
      (case l37 => k_is)
      (case c37 => k_is)
      (case k37 => k_is)
      (case a38 => k_is)
      (case l38 => k_is)
      (case c38 => k_is)
      (case k38 => k_is)
      (case a39 => k_is)
      (case l39 => k_is)
      (case c39 => k_is)
      (case k39 => k_is)
      (case a40 => k_is)
      (case l40 => k_is)
      (case c40 => k_is)
      (case k40 => k_is)
      (case a41 => k_is)
      (case l41 => k_is)
      (case c41 => k_is)
      (case k41 => k_is)
      (case a42 => k_is)
      (case l42 => k_is)
      (case c42 => k_is)
      (case k42 => k_is)
      (case a43 => k_is)
      (case l43 => k_is)
      (case c43 => k_is)
      (case k43 => k_is)
      (case a44 => k_is)
      (case l44 => k_is)
      (case c44 => k_is)
      (case k44 => k_is)
      (case a45 => k_is)
      (case l45 => k_is)
      (case c45 => k_is)
      (case k45 => k_is)
      (case a46 => k_is)
      (case l46 => k_is)
      (case c46 => k_is)
      (case k46 => k_is)
      (case a47 => k_is)
      (case l47 => k_is)
      (case c47 => k_is)
      (case k47 => k_is)
      (case a48 => k_is)
      (case l48 => k_is)
      (case c48 => k_is)
      (case k48 => k_is)
      (case a49 => k_is)
      (case l49 => k_is)
      (case c49 => k_is)
      (case k49 => k_is)
      (case a50 => k_is)
      (case l50 => k_is)
      (case c50 => k_is)
      (case k50 => k_is)
      (case a51 => k_is)
      (case l51 => k_is)
      (case c51 => k_is)
      (case k51 => k_is)
      (case a52 => k_is)
      (case l52 => k_is)
      (case c52 => k_is)
      (case k52 => k_is)
      (case pg0 => k_is)
      (case hd0 => k_is)
      (case po0 => k_is)
      (case sa0 => k_is)
      (case mk0 => k_is)
      (case kc0 => k_is)
      (case io0 => k_is)
      (case ha0 => k_is)
      (case hm0 => k_is)
      (case lc0 => k_is)
      (case no0 => kernel_rfl)
      (case nq0 => k_is)
      (case nn0 => k_is)
      (case pg1 => k_is)
      (case hd1 => k_is)
      (case po1 => k_is)
      (case sa1 => k_is)
      (case mk1 => k_is)
      (case kc1 => k_is)
      (case n1_low => k_is)
      (case n1_high => k_is)
      (case n1_width => k_is)
      (case ha1 => k_is)
      (case hm1 => k_is)
      (case lc1 => k_is)
      (case no1 => kernel_rfl)
      (case nq1 => k_is)
      (case nn1 => k_is)
      (case pg2 => k_is)
      (case hd2 => k_is)
      (case po2 => k_is)
      (case sa2 => k_is)
      (case mk2 => k_is)
      (case kc2 => k_is)
      (case n2_many => k_is)
      (case ha2 => k_is)
      (case hm2 => k_is)
      (case lc2 => k_is)
      (case no2 => kernel_rfl)
      (case nq2 => k_is)
      (case nn2 => k_is)
      (case pg3 => k_is)
      (case hd3 => k_is)
      (case po3 => k_is)
      (case sa3 => k_is)
      (case mk3 => k_is)
      (case kc3 => k_is)
      (case n3_name => k_is)
      (case ha3 => k_is)
      (case hm3 => k_is)
      (case lc3 => k_is)
      (case no3 => kernel_rfl)
      (case nq3 => k_is)
      (case nn3 => k_is)
      (case pg4 => k_is)
      (case hd4 => k_is)
      (case po4 => k_is)
      (case sa4 => k_is)
      (case mk4 => k_is)
      (case kc4 => k_is)
      (case n4_item => k_is)
      (case n4_width => k_is)
      (case ha4 => k_is)
      (case hm4 => k_is)
      (case lc4 => k_is)
      (case no4 => kernel_rfl)
      (case nq4 => k_is)
      (case nn4 => k_is)
      (case pg5 => k_is)
      (case hd5 => k_is)
      (case po5 => k_is)
      (case sa5 => k_is)
      (case mk5 => k_is)
      (case kc5 => k_is)
      (case n5_word => k_is)
      (case n5_name => k_is)
      (case n5_kind => k_is)
      (case ha5 => k_is)
      (case hm5 => k_is)
      (case lc5 => k_is)
      (case no5 => kernel_rfl)
      (case nq5 => k_is)
      (case nn5 => k_is)
      (case pg6 => k_is)
      (case hd6 => k_is)
      (case po6 => k_is)
      (case sa6 => k_is)
      (case mk6 => k_is)
      (case kc6 => k_is)
      (case n6_word => k_is)
      (case n6_name => k_is)
      (case n6_kind => k_is)
      (case ha6 => k_is)
      (case hm6 => k_is)
      (case lc6 => k_is)
      (case no6 => kernel_rfl)
      (case nq6 => k_is)
      (case nn6 => k_is)
      (case pg7 => k_is)
      (case hd7 => k_is)
      (case po7 => k_is)
      (case sa7 => k_is)
      (case mk7 => k_is)
      (case kc7 => k_is)
      (case n7_ways => k_is)
      (case ha7 => k_is)
      (case hm7 => k_is)
      (case lc7 => k_is)
      (case no7 => kernel_rfl)
      (case nq7 => k_is)
      (case nn7 => k_is)
      (case pg8 => k_is)
      (case hd8 => k_is)
      (case po8 => k_is)
      (case sa8 => k_is)
      (case mk8 => k_is)
      (case kc8 => k_is)
      (case n8_name => k_is)
      (case n8_kind => k_is)
      (case ha8 => k_is)
      (case hm8 => k_is)
      (case lc8 => k_is)
      (case no8 => kernel_rfl)
      (case nq8 => k_is)
      (case nn8 => k_is)
      (case pg9 => k_is)
      (case hd9 => k_is)
      (case po9 => k_is)
      (case sa9 => k_is)
      (case mk9 => k_is)
      (case kc9 => k_is)
      (case n9_word => k_is)
      (case n9_name => k_is)
      (case n9_kind => k_is)
      (case ha9 => k_is)
      (case hm9 => k_is)
      (case lc9 => k_is)
      (case no9 => kernel_rfl)
      (case nq9 => k_is)
      (case nn9 => k_is)
      (case pg10 => k_is)
      (case hd10 => k_is)
      (case po10 => k_is)
      (case sa10 => k_is)
      (case mk10 => k_is)
      (case kc10 => k_is)
      (case n10_parts => k_is)
      (case ha10 => k_is)
      (case hm10 => k_is)
      (case lc10 => k_is)
      (case no10 => kernel_rfl)
      (case nq10 => k_is)
      (case nn10 => k_is)
      (case xC11 => k_is)
      (case xt11 => k_is)
      (case xi11 => k_is)
      (case xs11 => k_is)
      (case xC12 => k_is)
      (case xt12 => k_is)
      (case xi12 => k_is)
      (case xs12 => k_is)
      (case xl12 => k_is)
      (case xa12 => k_is)
      (case xg12 => k_is)
      (case xy12 => k_is)
      (case xk12 => k_is)
      (case xh12 => k_is)
      (case xT12 => k_is)
      (case xn12_part => k_is)
      (case gn => k_is)
      (case gt => k_is)
      (case z_ValueError => k_is)
      (case z_bool => k_is)
      (case z_dict => k_is)
      (case z_enumerate => k_is)
      (case z_int => k_is)
      (case z_isinstance => k_is)
      (case z_len => k_is)
      (case z_list => k_is)
      (case z_max => k_is)
      (case z_range => k_is)
      (case z_str => k_is)
      (case z_tuple => k_is)
      (case g_LETTERS => k_is)
    have e2 := hmg.symm.trans e
    cases e2
    exact ⟨A.d_law, b, fun base _ _ => My.ok_law T⟩
#print axioms PySem.Challenge.cw_roomleft_k04_choices_and_rows_refused_or_holds
