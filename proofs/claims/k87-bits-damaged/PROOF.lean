import PyProof.Rows.All
import Wide.All
import OpenK.AllK
import Wide.FinOn
import HandS.ForMost
import HandS.Wide
import HandS.TupAny
import HandS.IsInst
import HandS.OwnEq
import HandS.MakeKwOnly
import HandS.Evl
import HandS.Codes
import PyProof.InstNe
import KE.DataEq
import HandS.ExcInit
import HandS.ExcField
import HandS.ExcOwn
import HandS.Exc
import HandS.Defaults
import HandS.WordsExc
import HandS.CallSlots
import HandS.TryOnly
import HandS.WideBits
import HandS.Text
import HandS.Walk
import HandS.Iter
import HandS.Zip
import KE.GoesMore
import PyProof.EnumMake
import PyProof.Draws
import HandS.TryMany
import HandS.ExcIs
import HandS.Lambda
import KE.KExcIs
import HandS.EndTab
import HandS.SetFor
import HandS.Head2
import HandS.HeadHook4
import HandS.HeadNt
import HandS.HeadWalk
import HandS.HeadEnd
import KE.KStateDown
import PySem.Challenge.RW_roomleft_k87_bits_turned_dropped_and_put
set_option Elab.async false
set_option linter.all false
set_option maxRecDepth 100000
set_option maxHeartbeats 4000000
set_option autoImplicit false
namespace My
open PySem L2
/-! promises by the number of arguments -/
def Sp0 (f : Hp → VK → XK → Prop) : Sp := fun vs H Q E => vs = [] ∧ f H Q E
def Sp1 (f : V → Hp → VK → XK → Prop) : Sp := fun vs H Q E => ∃ a, vs = [a] ∧ f a H Q E
def Sp2 (f : V → V → Hp → VK → XK → Prop) : Sp := fun vs H Q E => ∃ a b, vs = [a, b] ∧ f a b H Q E
def Sp3 (f : V → V → V → Hp → VK → XK → Prop) : Sp := fun vs H Q E => ∃ a b c, vs = [a, b, c] ∧ f a b c H Q E
def Sp4 (f : V → V → V → V → Hp → VK → XK → Prop) : Sp := fun vs H Q E => ∃ a b c d, vs = [a, b, c, d] ∧ f a b c d H Q E
def Sp5 (f : V → V → V → V → V → Hp → VK → XK → Prop) : Sp := fun vs H Q E => ∃ a b c d e, vs = [a, b, c, d, e] ∧ f a b c d e H Q E
def Sp6 (f : V → V → V → V → V → V → Hp → VK → XK → Prop) : Sp := fun vs H Q E => ∃ a b c d e g, vs = [a, b, c, d, e, g] ∧ f a b c d e g H Q E
section
variable {vs : List V} {H : Hp} {Q : VK} {E : XK}
theorem sp1_len {f : V → Hp → VK → XK → Prop} (h : Sp1 f vs H Q E) : vs.length = 1 := by obtain ⟨_, rfl, _⟩ := h; rfl
theorem sp2_len {f : V → V → Hp → VK → XK → Prop} (h : Sp2 f vs H Q E) : vs.length = 2 := by obtain ⟨_, _, rfl, _⟩ := h; rfl
theorem sp3_len {f : V → V → V → Hp → VK → XK → Prop} (h : Sp3 f vs H Q E) : vs.length = 3 := by obtain ⟨_, _, _, rfl, _⟩ := h; rfl
theorem sp4_len {f : V → V → V → V → Hp → VK → XK → Prop} (h : Sp4 f vs H Q E) : vs.length = 4 := by obtain ⟨_, _, _, _, rfl, _⟩ := h; rfl
theorem sp5_len {f : V → V → V → V → V → Hp → VK → XK → Prop} (h : Sp5 f vs H Q E) : vs.length = 5 := by obtain ⟨_, _, _, _, _, rfl, _⟩ := h; rfl
theorem sp6_len {f : V → V → V → V → V → V → Hp → VK → XK → Prop} (h : Sp6 f vs H Q E) : vs.length = 6 := by obtain ⟨_, _, _, _, _, _, rfl, _⟩ := h; rfl
theorem sp1_of {f : V → Hp → VK → XK → Prop} (h : Sp1 f vs H Q E) : ∃ a, vs = [a] ∧ f a H Q E := h
theorem sp2_of {f : V → V → Hp → VK → XK → Prop} (h : Sp2 f vs H Q E) : ∃ a b, vs = [a, b] ∧ f a b H Q E := h
theorem sp3_of {f : V → V → V → Hp → VK → XK → Prop} (h : Sp3 f vs H Q E) : ∃ a b c, vs = [a, b, c] ∧ f a b c H Q E := h
theorem sp4_of {f : V → V → V → V → Hp → VK → XK → Prop} (h : Sp4 f vs H Q E) : ∃ a b c d, vs = [a, b, c, d] ∧ f a b c d H Q E := h
theorem sp5_of {f : V → V → V → V → V → Hp → VK → XK → Prop} (h : Sp5 f vs H Q E) : ∃ a b c d e, vs = [a, b, c, d, e] ∧ f a b c d e H Q E := h
theorem sp6_of {f : V → V → V → V → V → V → Hp → VK → XK → Prop} (h : Sp6 f vs H Q E) : ∃ a b c d e g, vs = [a, b, c, d, e, g] ∧ f a b c d e g H Q E := h
end
/-! the drawing state: the list at p, the script's copy at l, its numbers -/
structure Dr where
  p : Addr
  l : Addr
  ns : List Int
/-- all that is tracked stands, but the state itself -/
def Chg (d : Dr) (H H' : Hp) : Prop := ∀ b o, b ≠ d.p → H b = some o → H' b = some o
section
variable {d : Dr} {H H1 H2 H' : Hp} {q : Addr} {o : HO}
theorem Chg.refl : Chg d H H := fun _ _ _ e => e
theorem Chg.trans (a : Chg d H H1) (b : Chg d H1 H2) : Chg d H H2 := fun c o n e => b c o n (a c o n e)
theorem Chg.upd : Chg d H (upd H d.p o) := fun b u n e => by rw [upd_ne n]; exact e
theorem Chg.new (h : H q = none) : Chg d H (L2.upd H q o) := fun b u n e => by rw [upd_ne (ne_of_none e h)]; exact e
theorem Chg.same (h : Same H H') : Chg d H H' := fun b u _ e => h b u e
/-- a thing that was new, changed -/
theorem Chg.mut (e : Chg d H H') (h : H q = none) : Chg d H (L2.upd H' q o) := fun b u n k => by rw [upd_ne (ne_of_none k h)]; exact e b u n k
end
structure RngL (H : Hp) (d : Dr) (i : Nat) (c s : Int) : Prop where
  pl : d.l ≠ d.p
  st : H d.p = some (.lst [.ref d.l, .int i, .int c, .int s])
  ls : H d.l = some (.lst (d.ns.map V.int))
  hi : i ≤ d.ns.length
  hn : d.ns.length ≤ 63
  hc : 0 ≤ c
  hs : 0 ≤ s
  hs2 : s < 2147483647
def Rng (d : Dr) (H : Hp) : Prop := ∃ i c s, RngL H d i c s
theorem RngL.set {H : Hp} {d : Dr} {i : Nat} {c s : Int} (r : RngL H d i c s) {j : Nat} {x t : Int} (hj : j ≤ d.ns.length) (hx : 0 ≤ x) (ht : 0 ≤ t) (ht2 : t < 2147483647) :
    RngL (upd H d.p (.lst [.ref d.l, .int j, .int x, .int t])) d j x t := ⟨r.pl, upd_same, by rw [upd_ne r.pl]; exact r.ls, hj, r.hn, hx, ht, ht2⟩
section
variable {d : Dr} {H H' : Hp} {q : Addr} {o : HO}
theorem Rng.atp (r : Rng d H) : ∃ xs, H d.p = some (.lst xs) ∧ xs.length = 4 := by
  obtain ⟨i, c, s, r⟩ := r
  exact ⟨_, r.st, rfl⟩
theorem Rng.atl (r : Rng d H) : H d.l = some (.lst (d.ns.map V.int)) := by
  obtain ⟨i, c, s, r⟩ := r
  exact r.ls
/-- something else is changed -/
theorem Rng.put (r : Rng d H) (h1 : q ≠ d.p) (h2 : q ≠ d.l) : Rng d (upd H q o) := by
  obtain ⟨i, c, s, r⟩ := r
  exact ⟨i, c, s, r.pl, by rw [upd_ne h1.symm]; exact r.st, by rw [upd_ne h2.symm]; exact r.ls, r.hi, r.hn, r.hc, r.hs, r.hs2⟩
theorem Rng.nep (r : Rng d H) (h : H q = none) : q ≠ d.p := fun z => by
  obtain ⟨xs, e, _⟩ := r.atp
  rw [← z, h] at e
  cases e
theorem Rng.nel (r : Rng d H) (h : H q = none) : q ≠ d.l := fun z => by
  have e := r.atl
  rw [← z, h] at e
  cases e
theorem Rng.new (r : Rng d H) (h : H q = none) : Rng d (upd H q o) := r.put (r.nep h) (r.nel h)
theorem Rng.same (r : Rng d H) (e : Same H H') : Rng d H' := by
  obtain ⟨i, c, s, r⟩ := r
  exact ⟨i, c, s, r.pl, e _ _ r.st, e _ _ r.ls, r.hi, r.hn, r.hc, r.hs, r.hs2⟩
/-- what was free stays apart from the state -/
theorem Chg.free (e : Chg d H H') (n : q ≠ d.p) (h : H' q = none) : H q = none := by
  cases z : H q with
  | none => rfl
  | some o => rw [e q o n z] at h; cases h
end
theorem ne_lst {H : Hp} {p q : Addr} {xs : List V} {o : HO} (h : H p = some (.lst xs)) (h2 : H q = some o) (d : ∀ ys, o ≠ .lst ys) : q ≠ p := fun z => by
  rw [z, h] at h2
  exact d xs (Option.some.inj h2).symm
theorem pos_ {n : Int} (h : 0 < n) : 0 < n := h
theorem heap_gen {G : Hp → Prop} {H0 : Hp} (C : Hp → Prop) (h : C H0) (k : ∀ H1, C H1 → G H1) : G H0 := k _ h
/-! the script -/
theorem start_seq {K : PySem.W.Frag} {H : Hp} {a : Addr} {xs : List V} (h : SqL K H a xs) : SqL K H a xs := h
def sp_law0 (K : PySem.W.Frag) : Sp := Sp1 fun a H Q _ => ∃ (l : Addr) (ns : List Int), a = .ref l ∧ SqL K H l (ns.map V.int) ∧ ns.length ≤ 63 ∧ ∀ H', Q (.bl true) H'
def sp_start (K : PySem.W.Frag) : Sp := Sp1 fun a H Q _ => ∃ (l : Addr) (ns : List Int), a = .ref l ∧ SqL K H l (ns.map V.int) ∧ ns.length ≤ 63 ∧
  ∀ (d : Dr) H', H d.p = none → H d.l = none → Same H H' → Rng d H' → Q (.ref d.p) H'
def sp_pull : Sp := Sp2 fun a b H Q _ => ∃ (d : Dr) (many : Int), a = .ref d.p ∧ b = .int many ∧ Rng d H ∧ 0 < many ∧ many.natAbs.log2 < 9000 ∧
  ∀ (v : Int) H', 0 ≤ v → v < many → Chg d H H' → Rng d H' → Q (.int v) H'
theorem kit_self {K : PySem.W.Frag} {C : Addr} : PySem.W.kitOne K (.ref C) (.ref C) = some true := by
  unfold PySem.W.kitOne
  rw [if_pos (by simp)]
theorem small_log {n : Int} (h0 : 0 < n) (h : n < 1000000000) : n.natAbs.log2 < 9000 := by
  have e : n.natAbs < 2 ^ 30 := by omega
  have := (Nat.log2_lt (by omega)).mpr e
  omega
end My
namespace My
open PySem L2
theorem sp0_len {vs : List V} {H : Hp} {Q : VK} {E : XK} {f : Hp → VK → XK → Prop} (h : Sp0 f vs H Q E) : vs.length = 0 := by obtain ⟨rfl, _⟩ := h; rfl
theorem sp0_of {vs : List V} {H : Hp} {Q : VK} {E : XK} {f : Hp → VK → XK → Prop} (h : Sp0 f vs H Q E) : vs = [] ∧ f H Q E := h
end My

namespace My
open PySem L2
/-- every tracked tuple stands -/
def TupKeep (H H' : Hp) : Prop := ∀ b xs, H b = some (.tup xs) → H' b = some (.tup xs)
theorem TupKeep.refl {H : Hp} : TupKeep H H := fun _ _ e => e
theorem TupKeep.trans {H H1 H2 : Hp} (a : TupKeep H H1) (b : TupKeep H1 H2) : TupKeep H H2 := fun c xs e => b c xs (a c xs e)
theorem TupKeep.chg {d : Dr} {H H' : Hp} (r : Rng d H) (e : Chg d H H') : TupKeep H H' := fun b xs k => by
  obtain ⟨ys, hp, _⟩ := r.atp
  exact e b _ (ne_lst hp k fun ys => by intro z; cases z) k
theorem TupKeep.set {D : Addr} {H : Hp} {xs : List V} {o : HO} (h : H D = some (.lst xs)) : TupKeep H (upd H D o) := fun b ys k => by
  rw [upd_ne (ne_lst h k fun ys => by intro z; cases z)]
  exact k
theorem TupKeep.new {D : Addr} {H : Hp} {o : HO} (h : H D = none) : TupKeep H (upd H D o) := fun b ys k => by
  rw [upd_ne (ne_of_none k h)]
  exact k
/-- [e for k in range(..)], e (and the range's end) drawing from the state -/
theorem lc_draw {σ : St} {H : Hp} {te : TE} {ta : TA} {j : Nat} {vs : List Nat} {d : Dr} (Pn : Nat → Prop) (Φ : V → Hp → Prop) (hΦ : ∀ v H1 H2, TupKeep H1 H2 → Φ v H1 → Φ v H2)
    (hw : ∀ x, wipe ((wipe σ vs).set j (some x)) vs = wipe σ vs) (hn : ∀ n, Pn n → n ≤ 100000)
    (hta : ∀ R : List V → Hp → Prop, (∀ (n : Nat) H1, Pn n → Chg d H H1 → Rng d H1 → R [.int (n : Int)] H1) → ta σ H R)
    (ht : ∀ (x : V) H1 (Q : VK), Rng d H1 → Chg d H H1 → (∀ v H2, Φ v H2 → Chg d H1 H2 → Rng d H2 → Q v H2) → te ((wipe σ vs).set j (some x)) H1 Q) {Q : VK}
    (k : ∀ (n : Nat) D (xs : List V) H', Pn n → D ≠ d.p → D ≠ d.l → H D = none → xs.length = n → (∀ x ∈ xs, Φ x H') → H' D = some (.lst xs) → Chg d H H' → Rng d H' → Q (.ref D) H') :
    tLc (iRng1 ta) (gName j) tYes te vs σ H Q := by
  refine hta _ fun n H1 pn e1 r1 => ?_
  have hn' := hn n pn
  refine ⟨(n : Int), rfl, by omega, by omega, fun D hD => ?_⟩
  have nDp := r1.nep hD
  have nDl := r1.nel hD
  have hD0 := e1.free nDp hD
  refine lc_range (lo := 0) (n := n) (fun i H' => ∃ xs : List V, H' D = some (.lst xs) ∧ xs.length = i ∧ (∀ x ∈ xs, Φ x H') ∧ Chg d H H' ∧ Rng d H')
    ⟨[], upd_same, rfl, fun x hx => by simp at hx, e1.trans (Chg.new hD), r1.new hD⟩ ?_ ?_
  · rintro i H' hi ⟨xs, hxs, hl, hf, e2, r2⟩
    refine ⟨hw _, ?_⟩
    refine ht _ H' _ r2 e2 fun v H3 hv e3 r3 => ?_
    have hD3 : H3 D = some (.lst xs) := e3 D _ nDp hxs
    refine ⟨xs, hD3, ?_, xs ++ [v], upd_same, by rw [List.length_append, hl]; rfl, fun x hx => ?_, (e2.trans e3).mut hD0, r3.put nDp nDl⟩
    · rw [hl, sizeLine_eq]; omega
    · have tk : TupKeep H3 (upd H3 D (.lst (xs ++ [v]))) := TupKeep.set hD3
      rcases List.mem_append.mp hx with hx | hx
      · exact hΦ x _ _ ((TupKeep.chg r2 e3).trans tk) (hf x hx)
      · rw [List.mem_singleton.mp hx]
        exact hΦ v _ _ tk hv
  · rintro H' ⟨xs, hxs, hl, hf, e2, r2⟩
    exact k n D xs H' pn nDp nDl hD0 hl hf hxs e2 r2
theorem q_setLc {wi : TI} {g : TG} {tt : TT} {te : TE} {vs : List Nat} {i : Nat} {tz : TS} {D : Ends} {σ : St} {H : Hp} (h : tLc wi g tt te vs σ H fun x H1 => tz D (σ.set i (some x)) H1) : tSeq (tAsg (tLc wi g tt te vs) (gName i)) tz D σ H := h
/-! texts of drawn signs -/
def Sign (ok : Nat → Prop) (v : V) (_ : Hp) : Prop := ∃ c, ok c ∧ v = .str ⟨#[c]⟩
theorem signs_of {ok : Nat → Prop} {H : Hp} : ∀ {xs : List V}, (∀ x ∈ xs, Sign ok x H) → ∃ cs : List Nat, xs = (cs.map fun c => (⟨#[c]⟩ : Str)).map V.str ∧ (∀ c ∈ cs, ok c) ∧ cs.length = xs.length
  | [], _ => ⟨[], rfl, fun c h => by simp at h, rfl⟩
  | x :: xs, h => by
    obtain ⟨c, hc, rfl⟩ := h x (List.mem_cons_self ..)
    obtain ⟨cs, e, hcs, hl⟩ := signs_of (xs := xs) fun y hy => h y (List.mem_cons_of_mem _ hy)
    refine ⟨c :: cs, by rw [e]; rfl, fun y hy => ?_, by rw [List.length_cons, List.length_cons, hl]⟩
    rcases List.mem_cons.mp hy with rfl | hy
    · exact hc
    · exact hcs y hy
theorem joinL_signs : ∀ cs : List Nat, TL.joinL [] ((cs.map fun c => (⟨#[c]⟩ : Str)).map TL.tl) = cs
  | [] => rfl
  | [c] => rfl
  | c :: e :: r => by
    have ih := joinL_signs (e :: r)
    show [c] ++ ([] ++ TL.joinL [] (((e :: r).map fun c => (⟨#[c]⟩ : Str)).map TL.tl)) = c :: e :: r
    rw [ih]
    rfl
theorem join_signs (z : Str) (hz : TL.tl z = []) (cs : List Nat) : Txt.join z (cs.map fun c => (⟨#[c]⟩ : Str)) = ⟨cs.toArray⟩ := by
  refine TL.ext_tl ?_
  rw [TL.join_eq, TL.tl_join, hz, joinL_signs]
theorem sum_signs (cs : List Nat) : ((cs.map fun c => (⟨#[c]⟩ : Str)).map (·.length)).sum = cs.length := by
  induction cs with
  | nil => rfl
  | cons c r ih => rw [List.map_cons, List.map_cons, List.sum_cons, ih, List.length_cons]; show 1 + r.length = r.length + 1; omega
/-- a sign of a written text, at a drawn place -/
theorem pick_sign {z : Str} {l : List Nat} (e : z.cps.toList = l) {v : Int} (h0 : 0 ≤ v) (h1 : v < (l.length : Int)) : ∃ c, c ∈ l ∧ atI z.cps.toList v = some c := by
  obtain ⟨n, rfl⟩ := Int.eq_ofNat_of_zero_le h0
  have hn : n < l.length := by omega
  refine ⟨l[n], List.getElem_mem hn, ?_⟩
  rw [e]
  exact atI_nat (by simp [hn])
/-- what a def that draws a text promises -/
def sp_text (ok : Nat → Prop) : Sp := Sp2 fun a b H Q _ => ∃ (d : Dr) (n : Nat), a = .ref d.p ∧ b = .int (n : Int) ∧ n ≤ 100000 ∧ Rng d H ∧
  ∀ (cs : List Nat) H', cs.length = n → (∀ c ∈ cs, ok c) → Chg d H H' → Rng d H' → Q (.str ⟨cs.toArray⟩) H'
def letter (c : Nat) : Prop := 97 ≤ c ∧ c ≤ 122
def bit (c : Nat) : Prop := c = 48 ∨ c = 49
theorem abc_eq : (Str.ofString "abcdefghijklmnopqrstuvwxyz").cps.toList = [97, 98, 99, 100, 101, 102, 103, 104, 105, 106, 107, 108, 109, 110, 111, 112, 113, 114, 115, 116, 117, 118, 119, 120, 121, 122] := by decide +kernel
theorem abc_letter : ∀ c ∈ [97, 98, 99, 100, 101, 102, 103, 104, 105, 106, 107, 108, 109, 110, 111, 112, 113, 114, 115, 116, 117, 118, 119, 120, 121, 122], letter c := by
  unfold letter
  decide
theorem bits_eq : (Str.ofString "01").cps.toList = [48, 49] := by decide +kernel
theorem bits_bit : ∀ c ∈ [48, 49], bit c := by
  unfold bit
  decide
theorem tl_empty : TL.tl (Str.ofString "") = [] := by decide +kernel
end My

namespace My
open PySem PySem.Spec PyProof.Rows L2
/-- a class over object alone with an own __eq__ at f and no own __ne__ -/
structure EqC (K : PySem.W.Frag) (C f : Addr) : Prop where
  eq : PySem.W.findIn K (.ref C) "__eq__" = some (some (.ref f))
  fn : PySem.W.isFn K (.ref f) = true
  cls : ∃ nm q N bs hd sn sub ab col dd k0 k1 k2 k3 k5 newId, K.lookup C = some (excClassObj nm q C N bs [.type "object"] hd sn sub ab col dd k0 k1 k2 k3 k5 newId) ∧
    PySem.W.nsOkIn K N = true ∧ PySem.W.nsIn K N "__eq__" = some (some (.ref f)) ∧ PySem.W.nsIn K N "__ne__" = some none
def rEqO (C : Addr) (sp : Sp) : R2 := fun x y H Q => ∃ a b dx dy fs gs, x = .ref a ∧ y = .ref b ∧ H a = some (.ins C dx fs) ∧ H b = some (.ins C dy gs) ∧ sp [.ref a, .ref b] H Q E0
def rNeO (C : Addr) (sp : Sp) : R2 := fun x y H Q => ∃ a b dx dy fs gs, x = .ref a ∧ y = .ref b ∧ H a = some (.ins C dx fs) ∧ H b = some (.ins C dy gs) ∧
  sp [.ref a, .ref b] H (fun v H' => ∃ r, v = .bl r ∧ Q (.bl (!r)) H') E0
/-- one call deeper in the interpreter's own stack -/
abbrev in1X (X : Cx) : Cx := { X with A := X.A.in1 }
theorem inv_in1 {X : Cx} {pins : List (Addr × Obj)} {σ : L2.St} {H : Hp} {s : Shared} (I : L2.Inv X pins σ H s) : Inv (in1X X) pins σ H s :=
  ⟨⟨I.ok.mod, I.ok.kind, I.ok.glob, I.ok.blt, I.ok.above, I.ok.inj, I.ok.has, I.ok.cab, I.ok.hd, I.ok.frames, I.ok.stk, I.ok.exf, I.ok.bs, I.ok.bsz, I.ok.noex, I.ok.exfs, I.ok.funs, I.ok.frf⟩, I.os, I.bare, I.base, I.loc, I.cell, I.free, I.freeC, I.pin, I.hok, I.len⟩
theorem inv_out1 {X : Cx} {pins : List (Addr × Obj)} {σ : L2.St} {H : Hp} {s : Shared} (I : L2.Inv (in1X X) pins σ H s) : Inv X pins σ H s :=
  ⟨⟨I.ok.mod, I.ok.kind, I.ok.glob, I.ok.blt, I.ok.above, I.ok.inj, I.ok.has, I.ok.cab, I.ok.hd, I.ok.frames, I.ok.stk, I.ok.exf, I.ok.bs, I.ok.bsz, I.ok.noex, I.ok.exfs, I.ok.funs, I.ok.frf⟩, I.os, I.bare, I.base, I.loc, I.cell, I.free, I.freeC, I.pin, I.hok, I.len⟩
theorem rel_notni {v : V} {u : Value} (r : RelV v u) : u ≠ .notImplemented := by
  cases v with
  | non => cases r; exact fun z => nomatch z
  | bl _ => cases r; exact fun z => nomatch z
  | int _ => obtain ⟨t, rfl⟩ := r; exact fun z => nomatch z
  | str _ => obtain ⟨t, rfl⟩ := r; exact fun z => nomatch z
  | byt _ => obtain ⟨t, rfl⟩ := r; exact fun z => nomatch z
  | flt _ => obtain ⟨t, rfl⟩ := r; exact fun z => nomatch z
  | ref _ => cases r; exact fun z => nomatch z
  | ty _ => cases r; exact fun z => nomatch z
theorem cmpBack_of {Q : Value → Shared → Prop} {u : Value} {s : Shared} (h : u ≠ .notImplemented) (q : Q u s) : PySem.W.CmpBack Q u s := by
  unfold PySem.W.CmpBack
  cases u <;> first | exact q | exact absurd rfl h
/-- what a class's own dict holds, out of the written part -/
theorem ns_at {K : PySem.W.Frag} {h : Heap} {N : Addr} {m : Str → Option Value} {n : Str} {v : Value} (kin : K.In h) (G : h.Ns N m) (e : PySem.W.nsIn K N n = some (some v)) : m n = some v := by
  obtain ⟨ob, es, ep, gN, dat, _, look⟩ := G
  unfold PySem.W.nsIn at e
  cases q : K.lookup N with
  | none => simp [q] at e
  | some o2 =>
    have z := (kin _ _ q).symm.trans gN
    injection z with z
    subst z
    obtain ⟨cl, di, da, sl⟩ := o2
    simp only at dat
    subst dat
    simp only [q] at e
    cases r : es.toList.find? (·.key.isStr n) with
    | none => simp only [r] at e; split at e <;> simp at e
    | some en =>
      simp only [r, Option.some.injEq] at e
      rw [← look]
      show (es.find? _).map _ = some v
      rw [← Array.find?_toList]
      simp only [r, Option.map_some, e]
section
variable {X : Cx} {C f : Addr} {fd : FuncData} {ps : List Str} {sp : Sp} {n : Nat}
theorem op_eqO (F : FnOk X.prog X.w X.K X.mg X.base CX0 n f fd ps sp) (c : EqC X.K C f) (hb : Binds X.K fd ps []) (hr : Room n X.A) : OpR X (compareOp .Eq) (rEqO C sp) := by
  intro pins s σ H x y u v Q I rx ry h
  obtain ⟨a, b, dx, dy, fs, gs, rfl, rfl, ha, hb', hs⟩ := h
  cases rx
  cases ry
  obtain ⟨mA, J, _⟩ := ins_get I.hok ha
  obtain ⟨mB, J', _⟩ := ins_get I.hok hb'
  obtain ⟨od, J, _⟩ := J.look
  obtain ⟨od', J', _⟩ := J'.look
  obtain ⟨m, hF⟩ := I.fr
  show wpAny (model X.prog X.w) X.A (richCompare .Eq _ _) (EP X pins σ Q) X.xe s
  refine PySem.W.cmp_K (op := .Eq) (tb := .ref C) hr.units0 hF I.ok.mod.kin J J'.type (by simp [PySem.W.notFirst]) c.eq c.fn ?_
  refine thn (run_fn (us := [.ref a, .ref b]) (vs := [.ref a, .ref b]) F hr hb .nil pass0 I (.cons rfl (.cons rfl .nil)) (show sp ([.ref a, .ref b] ++ []) H _ E0 from hs)) fun w s' hw => ?_
  obtain ⟨v, H', I', r, q⟩ := hw
  exact cmpBack_of (rel_notni r) ⟨v, H', I', r, q⟩
theorem op_neO (F : FnOk X.prog X.w X.K X.mg X.base CX0 n f fd ps sp) (c : EqC X.K C f) (hb : Binds X.K fd ps []) (hr : Room (n + 1) X.A) : OpR X (compareOp .NotEq) (rNeO C sp) := by
  intro pins s σ H x y u v Q I rx ry h
  obtain ⟨a, b, dx, dy, fs, gs, rfl, rfl, ha, hb', hs⟩ := h
  cases rx
  cases ry
  have KX := I.kIn
  obtain ⟨mA, J, _⟩ := ins_get I.hok ha
  obtain ⟨mB, J', _⟩ := ins_get I.hok hb'
  obtain ⟨nm, q, N, bs, hd, sn, sub, ab, col, dd, k0, k1, k2, k3, k5, newId, lC, okN, nE, nN⟩ := c.cls
  obtain ⟨of, lf, ef⟩ := Option.map_eq_some_iff.mp (show (X.K.lookup f).map (·.cls) = some (.type "function") from beq_iff_eq.mp c.fn)
  have NN := Heap.Ns.of_isNs (PySem.W.isNs_of_in KX okN)
  have OE : s.heap.OwnEqNoNe a C f "object" [.type "object"] :=
    ⟨_, of, nm, q, N, bs, hd, sn, sub, ab, col, dd, k0, k1, k2, k3, k5, newId, _, _, J.obj, rfl, KX _ _ lC, NN, ns_at KX NN nE, KX _ _ lf, ef, PySem.F.cmp_object.mro, PySem.F.cmp_object.eq.lookup, PySem.W.ns_none_of KX NN nN⟩
  obtain ⟨hp, g, d, tk, os⟩ := s
  refine compareOp_ne_ownEq PySem.F.cmp_object OE J'.obj rfl (by have := hr.un; omega) ?_
  have I1 := inv_in1 I
  refine thn (run_fn (X := in1X X) (us := [.ref a, .ref b]) (vs := [.ref a, .ref b]) F hr.in1 hb .nil pass0 I1 (.cons rfl (.cons rfl .nil)) (show sp ([.ref a, .ref b] ++ []) H _ E0 from hs)) fun w s' hw => ?_
  obtain ⟨v, H', I', r, z, rfl, q⟩ := hw
  cases r
  exact ⟨_, rfl, .bl _, H', inv_out1 I', rfl, q⟩
/-- == of an instance and one of any own class that does not come first -/
def rEqD (K : PySem.W.Frag) (C : Addr) (sp : Sp) : R2 := fun x y H Q => ∃ a b dx fs D dy gs, x = .ref a ∧ y = .ref b ∧ H a = some (.ins C dx fs) ∧ H b = some (.ins D dy gs) ∧ PySem.W.notFirst K C (.ref D) = true ∧ sp [.ref a, .ref b] H Q E0
theorem op_eqD (F : FnOk X.prog X.w X.K X.mg X.base CX0 n f fd ps sp) (he : PySem.W.findIn X.K (.ref C) "__eq__" = some (some (.ref f))) (hfn : PySem.W.isFn X.K (.ref f) = true) (hb : Binds X.K fd ps []) (hr : Room n X.A) : OpR X (compareOp .Eq) (rEqD X.K C sp) := by
  intro pins s σ H x y u v Q I rx ry h
  obtain ⟨a, b, dx, fs, D, dy, gs, rfl, rfl, ha, hb', hn, hs⟩ := h
  cases rx
  cases ry
  obtain ⟨mA, J, _⟩ := ins_get I.hok ha
  obtain ⟨mB, J', _⟩ := ins_get I.hok hb'
  obtain ⟨od, J, _⟩ := J.look
  obtain ⟨od', J', _⟩ := J'.look
  obtain ⟨m, hF⟩ := I.fr
  show wpAny (model X.prog X.w) X.A (richCompare .Eq _ _) (EP X pins σ Q) X.xe s
  refine PySem.W.cmp_K (op := .Eq) (tb := .ref D) hr.units0 hF I.ok.mod.kin J J'.type hn he hfn ?_
  refine thn (run_fn (us := [.ref a, .ref b]) (vs := [.ref a, .ref b]) F hr hb .nil pass0 I (.cons rfl (.cons rfl .nil)) (show sp ([.ref a, .ref b] ++ []) H _ E0 from hs)) fun w s' hw => ?_
  obtain ⟨v, H', I', r, q⟩ := hw
  exact cmpBack_of (rel_notni r) ⟨v, H', I', r, q⟩
end
end My

namespace My
open PySem PySem.Spec PyProof.Rows L2
/-! == and != of data without dicts, at any texts -/
def rEqP (K : PySem.W.Frag) : R2 := fun x y H Q => ∃ d e, Dp K H x d ∧ Dp K H y e ∧ d.plain = true ∧ e.plain = true ∧ d.depth ≤ 60 ∧ Q (.bl (PyData.eqv d e)) H
def rNeP (K : PySem.W.Frag) : R2 := fun x y H Q => ∃ d e, Dp K H x d ∧ Dp K H y e ∧ d.plain = true ∧ e.plain = true ∧ d.depth ≤ 60 ∧ Q (.bl (!PyData.eqv d e)) H
section
variable {X : Cx}
theorem op_eqP (hu : X.A.units + 64 < cLine) : OpR X (compareOp .Eq) (rEqP X.K) := by
  intro pins s σ H x y v u Q I rx ry h
  obtain ⟨d, e, hd, he, pd, pe, dp, q⟩ := h
  obtain ⟨as, r1⟩ := Dp.reads I d x v hd rx
  obtain ⟨bs, r2⟩ := Dp.reads I e y u he ry
  exact SeqAt.eq_plain r1 r2 pd pe (by have := Nat.min_le_left d.depth e.depth; omega) ⟨.bl _, H, I, rfl, q⟩
theorem op_neP (hu : X.A.units + 64 < cLine) : OpR X (compareOp .NotEq) (rNeP X.K) := by
  intro pins s σ H x y v u Q I rx ry h
  obtain ⟨d, e, hd, he, pd, pe, dp, q⟩ := h
  obtain ⟨as, r1⟩ := Dp.reads I d x v hd rx
  obtain ⟨bs, r2⟩ := Dp.reads I e y u he ry
  exact SeqAt.ne_plain r1 r2 pd pe (by have := Nat.min_le_left d.depth e.depth; omega) ⟨.bl _, H, I, rfl, q⟩
end
mutual
theorem Dp.keep {K : PySem.W.Frag} {H H' : Hp} (e : Same H H') : ∀ {d : PyData} {v : V}, Dp K H v d → Dp K H' v d
  | _, _, .non => .non
  | _, _, .bl b => .bl b
  | _, _, .int i => .int i
  | _, _, .str x => .str x
  | _, _, .lst h a => .lst (e.seq h) (DpAll.keep e a)
  | _, _, .tup h a => .tup (h.elim (fun h => .inl (h.elim (fun h => .inl (e _ _ h)) fun ⟨o, h⟩ => .inr ⟨o, e _ _ h⟩)) fun h => .inr h) (DpAll.keep e a)
theorem DpAll.keep {K : PySem.W.Frag} {H H' : Hp} (e : Same H H') : ∀ {ds : List PyData} {vs : List V}, DpAll K H vs ds → DpAll K H' vs ds
  | _, _, .nil => .nil
  | _, _, .cons h a => .cons (Dp.keep e h) (DpAll.keep e a)
end
theorem DpAll.length {K : PySem.W.Frag} {H : Hp} : ∀ {vs : List V} {ds : List PyData}, DpAll K H vs ds → vs.length = ds.length
  | _, _, .nil => rfl
  | _, _, .cons _ a => congrArg Nat.succ (DpAll.length a)
theorem eqv_list (xs ys : List PyData) : PyData.eqv (.list xs) (.list ys) = PyData.eqvAll xs ys := by rw [PyData.eqv]
theorem eqv_tuple (xs ys : List PyData) : PyData.eqv (.tuple xs) (.tuple ys) = PyData.eqvAll xs ys := by rw [PyData.eqv]
/-! keywords: the values by their places -/
def pick {α : Type} (ix : List Nat) (l : List α) : List α := ix.filterMap fun i => l[i]?
theorem pick_rel : ∀ (ix : List Nat) {vs : List V} {us : List Value}, Vals vs us → Vals (pick ix vs) (pick ix us)
  | [], _, _, _ => .nil
  | i :: ix, vs, us, r => by
    have ih := pick_rel ix r
    unfold pick at ih ⊢
    rw [List.filterMap_cons, List.filterMap_cons]
    cases e : vs[i]? with
    | none =>
      rw [r.none_of e]
      exact ih
    | some x =>
      obtain ⟨u, hu, ru⟩ := r.get e
      rw [hu]
      exact .cons ru ih
theorem fun_kbn {K : PySem.W.Frag} {x qual : Str} {st : Stmt} {f : Addr} {fd : FuncData} {ps ks : List Str} {n : Nat} (ix : List Nat) (F : Fun K x qual st f fd)
    (h : ∀ (kV doc pm : Value) (an : Option Addr) (cdv ct : Value) (us ws : List Value), us.length = n → ws.length = ks.length →
      bindArgs (PySem.W.fnOf x qual (defArgs st) (defBody st) (defScope st) .none kV doc pm an cdv ct) ⟨us, ks.zip ws⟩ = pure (ps.zip (pick ix (us ++ ws)))) :
    KBn K fd ps n ks (fun us ws => pick ix (us ++ ws)) (fun vs zs => pick ix (vs ++ zs)) := by
  obtain ⟨oc, od, kV, doc, pm, an, cdv, ct, osl, rfl, lk, hcd⟩ := F.ex
  exact ⟨fun s us ws _ l1 l2 => .of_eq (h kV doc pm an cdv ct us ws l1 l2), fun r1 r2 => pick_rel ix (r1.append r2)⟩
end My

namespace My
open PySem L2
/-! the classes of the program that stand over object alone -/
structure ClsO (K : PySem.W.Frag) (C : Addr) (nm : Str) : Prop where
  ex : ∃ q N bs hd sn sub ab col dd k0 k1 k2 k3 k5 newId, K.lookup C = some (excClassObj nm q C N bs [.type "object"] hd sn sub ab col dd k0 k1 k2 k3 k5 newId)
theorem ClsO.cls {K : PySem.W.Frag} {C : Addr} {nm : Str} (h : ClsO K C nm) : ∃ cd, PySem.W.clsIn K C = some cd ∧ cd.mro = [.ref C, .type "object"] ∧ cd.name = nm := by
  obtain ⟨q, N, bs, hd, sn, sub, ab, col, dd, k0, k1, k2, k3, k5, newId, e⟩ := h.ex
  refine ⟨_, by unfold PySem.W.clsIn; rw [e], rfl, rfl⟩
theorem ClsO.ne {K : PySem.W.Frag} {C D : Addr} {nm nm' : Str} (h : ClsO K C nm) (h' : ClsO K D nm') (n : ¬ nm = nm') : C ≠ D := fun z => by
  subst z
  obtain ⟨cd, e, _, q⟩ := h.cls
  obtain ⟨cd', e', _, q'⟩ := h'.cls
  rw [e] at e'
  cases e'
  exact n (q.symm.trans q')
theorem ClsO.sub {K : PySem.W.Frag} {C : Addr} {nm : Str} (h : ClsO K C nm) (b : Value) : PySem.W.subIn K (.ref C) b = some (decide (b = .ref C ∨ b = .type "object")) := by
  obtain ⟨cd, e, m, _⟩ := h.cls
  show PySem.W.mroIn K C b = _
  unfold PySem.W.mroIn
  rw [e, Option.bind_some, m, if_neg (by simp)]
  congr 1
  simp only [List.contains_cons, List.contains_nil, Bool.or_false]
  rw [Bool.decide_or]
  rfl
theorem ClsO.type {K : PySem.W.Frag} {C : Addr} {nm : Str} (h : ClsO K C nm) : PySem.W.typeIn K (.ref C) = some (.type "type") := by
  obtain ⟨q, N, bs, hd, sn, sub, ab, col, dd, k0, k1, k2, k3, k5, newId, e⟩ := h.ex
  show (K.lookup C).map (·.cls) = _
  rw [e]
  rfl
/-- the built-in types that our values have -/
def tags : List String := ["NoneType", "bool", "int", "str", "list", "tuple", "dict"]
def asks : List String := ["bool", "int", "str", "list", "tuple", "dict"]
inductive TagOk (K : PySem.W.Frag) : Value → Prop where
  | ty {n : String} (h : n ∈ tags) : TagOk K (.type n)
  | own {C : Addr} {nm : Str} (h : ClsO K C nm) : TagOk K (.ref C)
/-- is a thing of type t an instance of c -/
def isa (t c : Value) : Bool := decide (t = c) || (decide (t = .type "bool") && decide (c = .type "int"))
theorem kitB_table : ∀ n ∈ tags, ∀ m ∈ asks, kitB n m = some (decide (n = m) || (decide (n = "bool") && decide (m = "int"))) := by decide +kernel
theorem kitMeta_asks : ∀ m ∈ asks, PySem.W.kitMeta m = true := by decide +kernel
theorem asks_obj : ∀ m ∈ asks, m ≠ "object" := by decide
theorem isa_ty {n m : String} : isa (.type n) (.type m) = (decide (n = m) || (decide (n = "bool") && decide (m = "int"))) := by
  unfold isa
  have h : ∀ a b : String, decide (Value.type a = Value.type b) = decide (a = b) := fun a b => by
    by_cases e : a = b
    · subst e; simp
    · rw [decide_eq_false e, decide_eq_false (fun z => e (by injection z))]
  rw [h, h, h]
theorem kit_isa {K : PySem.W.Frag} {t : Value} (h : TagOk K t) {m : String} (hm : m ∈ asks) : PySem.W.kitOne K t (.type m) = some (isa t (.type m)) := by
  cases h with
  | ty hn => rw [isa_ty]; exact kit_ty (kitB_table _ hn _ hm)
  | own o =>
    unfold PySem.W.kitOne
    rw [if_neg (by simp)]
    show (if PySem.W.kitMeta m = true then PySem.W.subIn K _ (.type m) else none) = _
    rw [if_pos (kitMeta_asks m hm), o.sub]
    congr 1
    unfold isa
    rw [decide_eq_false (by intro z; rcases z with z | z <;> first | (injection z with z; exact asks_obj m hm z) | cases z), decide_eq_false (by intro z; cases z), decide_eq_false (by intro z; cases z)]
    rfl
def allTypes (l : List Value) : Bool := l.all fun v => match v with | .type _ => true | _ => false
theorem tags_mro0 : ∀ n ∈ tags, (fastBuiltinMro n).map allTypes = some true := by decide +kernel
theorem tags_mro (n : String) (h : n ∈ tags) : ∃ l, fastBuiltinMro n = some l ∧ ∀ v ∈ l, ∃ s, v = Value.type s := by
  obtain ⟨l, e, q⟩ := Option.map_eq_some_iff.mp (tags_mro0 n h)
  refine ⟨l, e, fun v hv => ?_⟩
  have z := List.all_eq_true.mp q v hv
  cases v <;> first | exact ⟨_, rfl⟩ | cases z
theorem kit_isaO {K : PySem.W.Frag} {t : Value} (h : TagOk K t) {D : Addr} {nm : Str} (d : ClsO K D nm) : PySem.W.kitOne K t (.ref D) = some (isa t (.ref D)) := by
  have two : ((PySem.W.clsIn K D).isSome && PySem.W.typeIn K (.ref D) == some (.type "type")) = true := by
    obtain ⟨cd, e, _⟩ := d.cls
    rw [e, d.type]
    rfl
  cases h with
  | @ty n hn =>
    unfold PySem.W.kitOne
    rw [if_neg (by simp)]
    show (if _ then PySem.W.subIn K _ (.ref D) else none) = _
    rw [if_pos two]
    obtain ⟨l, e, hl⟩ := tags_mro n hn
    show (fastBuiltinMro n).map _ = _
    rw [e]
    show some _ = some _
    have i1 : isa (.type n) (.ref D) = false := by
      have n1 : ¬ Value.type n = Value.ref D := fun z => by cases z
      have n2 : ¬ Value.ref D = Value.type "int" := fun z => by cases z
      unfold isa
      rw [decide_eq_false n1, decide_eq_false n2, Bool.and_false]
      rfl
    rw [i1]
    congr 1
    rw [Bool.eq_false_iff]
    intro z
    obtain ⟨s, e⟩ := hl _ (List.contains_iff_mem.mp z)
    cases e
  | @own C nm' o =>
    by_cases e : C = D
    · subst e
      unfold isa
      rw [kit_self, decide_eq_true rfl]
      rfl
    · unfold PySem.W.kitOne
      rw [if_neg (by simp; exact e)]
      show (if _ then PySem.W.subIn K _ (.ref D) else none) = _
      rw [if_pos two, o.sub]
      congr 1
      unfold isa
      have n1 : ¬ Value.ref C = Value.ref D := fun z => e (by injection z)
      have n2 : ¬ Value.ref D = Value.ref C := fun z => e (by injection z with z; exact z.symm)
      rw [decide_eq_false n1, decide_eq_false (by intro z; rcases z with z | z; exact n2 z; cases z), decide_eq_false (by intro z; cases z)]
      rfl
theorem kitAny_isa {K : PySem.W.Frag} {t : Value} : ∀ {us : List Value}, (∀ u ∈ us, PySem.W.kitOne K t u = some (isa t u)) → PySem.W.kitAny K t us = some (us.any (isa t))
  | [], _ => rfl
  | u :: us, h => kitAny_cons (h u (List.mem_cons_self ..)) (fun e => by rw [kitAny_isa fun v hv => h v (List.mem_cons_of_mem _ hv), List.any_cons, e]; rfl) (fun e => by rw [List.any_cons, e]; rfl)
/-! typed values: what a value is, as far as isinstance goes -/
inductive VT (K : PySem.W.Frag) (H : Hp) : V → Value → Prop where
  | non : VT K H .non (.type "NoneType")
  | bl (b : Bool) : VT K H (.bl b) (.type "bool")
  | int (i : Int) : VT K H (.int i) (.type "int")
  | str (x : Str) : VT K H (.str x) (.type "str")
  | lst {a : Addr} {xs : List V} (e : H a = some (.lst xs)) : VT K H (.ref a) (.type "list")
  | tup {a : Addr} {xs : List V} (e : H a = some (.tup xs)) : VT K H (.ref a) (.type "tuple")
  | dK {a : Addr} {kvs : List (Key × V)} (e : H a = some (.dK kvs)) : VT K H (.ref a) (.type "dict")
  | ins {a C dx : Addr} {fs : List (Str × V)} {nm : Str} (e : H a = some (.ins C dx fs)) (c : C8.InsC K C) (o : ClsO K C nm) : VT K H (.ref a) (.ref C)
theorem VT.tyx {K : PySem.W.Frag} {H : Hp} {v : V} {t : Value} (h : VT K H v t) : TyX K H v t := by
  cases h with
  | non => exact .base .non
  | bl b => exact .base (.bl b)
  | int i => exact .base (.int i)
  | str x => exact .base (.str x)
  | lst e => exact .base (.lst e)
  | tup e => exact .base (.tup e)
  | dK e => exact .base (.dK e)
  | ins e c o => exact .base (.ins e c.cl c.ha c.hn c.htk c.hm)
theorem VT.tag {K : PySem.W.Frag} {H : Hp} {v : V} {t : Value} (h : VT K H v t) : TagOk K t := by
  cases h <;> first | exact .ty (by decide) | exact .own (by assumption)
/-- each thing keeps its sort -/
def KK (H H' : Hp) : Prop := ∀ a o, H a = some o → ∃ o', H' a = some o' ∧ match o, o' with
  | .lst _, .lst _ => True
  | .tup xs, .tup ys => xs = ys
  | .dK _, .dK _ => True
  | .ins C _ _, .ins C' _ _ => C = C'
  | .lst _, _ => False
  | .tup _, _ => False
  | .dK _, _ => False
  | .ins _ _ _, _ => False
  | _, _ => True
theorem KK.refl {H : Hp} : KK H H := fun a o e => ⟨o, e, by cases o <;> trivial⟩
theorem KK.same {H H' : Hp} (h : Same H H') : KK H H' := fun a o e => ⟨o, h a o e, by cases o <;> trivial⟩
theorem KK.trans {H H1 H2 : Hp} (h : KK H H1) (k : KK H1 H2) : KK H H2 := fun a o e => by
  obtain ⟨o1, e1, r1⟩ := h a o e
  obtain ⟨o2, e2, r2⟩ := k a o1 e1
  refine ⟨o2, e2, ?_⟩
  cases o <;> cases o1 <;> first | (exact r1.elim) | skip
  all_goals (cases o2 <;> first | trivial | exact r2.elim | (exact Eq.trans r1 r2) | skip)
theorem KK.chg {d : Dr} {H H' : Hp} (r : Rng d H) (r' : Rng d H') (e : Chg d H H') : KK H H' := fun a o h => by
  by_cases n : a = d.p
  · obtain ⟨xs, e1, _⟩ := r.atp
    obtain ⟨ys, e2, _⟩ := r'.atp
    rw [n] at h ⊢
    rw [e1] at h
    cases h
    exact ⟨_, e2, trivial⟩
  · exact ⟨o, e a o n h, by cases o <;> trivial⟩
theorem KK.setL {H : Hp} {D : Addr} {xs ys : List V} (h : H D = some (.lst xs)) : KK H (upd H D (.lst ys)) := fun a o e => by
  by_cases n : a = D
  · rw [n] at e ⊢
    rw [h] at e
    cases e
    exact ⟨_, upd_same, trivial⟩
  · exact ⟨o, by rw [upd_ne n]; exact e, by cases o <;> trivial⟩
theorem KK.new {H : Hp} {D : Addr} {o : HO} (h : H D = none) : KK H (upd H D o) := KK.same fun b u e => by rw [upd_ne (ne_of_none e h)]; exact e
theorem VT.keep {K : PySem.W.Frag} {H H' : Hp} (e : KK H H') {v : V} {t : Value} (h : VT K H v t) : VT K H' v t := by
  cases h with
  | non => exact .non
  | bl b => exact .bl b
  | int i => exact .int i
  | str x => exact .str x
  | lst h =>
    obtain ⟨o, e1, r⟩ := e _ _ h
    cases o <;> first | exact .lst e1 | exact r.elim
  | tup h =>
    obtain ⟨o, e1, r⟩ := e _ _ h
    cases o <;> first | exact .tup e1 | exact r.elim
  | dK h =>
    obtain ⟨o, e1, r⟩ := e _ _ h
    cases o <;> first | exact .dK e1 | exact r.elim
  | ins h c o2 =>
    obtain ⟨o, e1, r⟩ := e _ _ h
    cases o with
    | ins C' dx' fs' =>
      have z : _ = C' := r
      subst z
      exact .ins e1 c o2
    | _ => exact r.elim
/-- an integer and no bool -/
def isI : V → Bool
  | .int _ => true
  | _ => false
theorem isI_of {K : PySem.W.Frag} {H : Hp} {v : V} {t : Value} (h : VT K H v t) : isI v = (isa t (.type "int") && !isa t (.type "bool")) := by
  cases h <;> first | rfl | (simp only [isI, isa]; simp)
def isS : V → Bool
  | .str _ => true
  | _ => false
theorem isS_of {K : PySem.W.Frag} {H : Hp} {v : V} {t : Value} (h : VT K H v t) : isS v = isa t (.type "str") := by
  cases h <;> first | rfl | (simp only [isS, isa]; simp)
/-- isinstance(x, T), T built in: the reading -/
theorem isi_ty {K : PySem.W.Frag} {H : Hp} {v : V} {t : Value} {Q : VK} {m : String} (h : VT K H v t) (hm : m ∈ asks) (q : Q (.bl (isa t (.type m))) H) : rIsi K [v, .ty m] H Q :=
  ⟨v, .ty m, t, .type m, _, rfl, .ty m, h.tyx, kit_isa h.tag hm, q⟩
theorem isi_own {K : PySem.W.Frag} {H : Hp} {v : V} {t : Value} {Q : VK} {D : Addr} {nm : Str} (h : VT K H v t) (d : ClsO K D nm) (q : Q (.bl (isa t (.ref D))) H) : rIsi K [v, .ref D] H Q :=
  ⟨v, .ref D, t, .ref D, _, rfl, .own D, h.tyx, kit_isaO h.tag d, q⟩
end My

namespace My
open PySem PySem.Spec PyProof.Rows L2
section
variable {X : Cx} {CX : CXT} {k n : Nat} {f C : Addr} {fd : FuncData} {ps ks : List Str} {sp : Sp} {dvs : List V} {ds : List Value} {E : L2.St → XK} {x : Str} {p pos : Pos} {e : Expr} {es : List Expr} {kws : List Keyword} {t tk : TA}
  {g : List Value → List Value → List Value} {gV : List V → List V → List V}
/-- what a call ends in, where what it raises is wished for at the caller's slots -/
theorem ends_at {pins : List (Addr × Obj)} {σ : L2.St} {H : Hp} {s s' : Shared} {Q : VK} {r : Result} (I : L2.Inv X pins σ H s) (hx : PassesAt CX X σ (E σ)) (hq : CR CX X.stack X.prog X.w H s Q (E σ) r s') {R : Value → Shared → Prop}
    (hr : ∀ u, EP X pins σ Q u s' → R u s') : wants R X.xe r s' := by
  cases r with
  | error er => exact hx pins H s er s' I hq
  | ok fl => cases fl <;> first | exact hr _ (I.after hq) | exact False.elim hq
/-- C(..) where C's __init__ may raise -/
def tMakeS (C : Addr) (sp : Sp) (dvs : List V) (E : L2.St → XK) (t : TA) : TE := fun σ H Q => t σ H fun vs H1 => ∀ x dx, H1 x = none → H1 dx = none → dx ≠ x →
  sp (.ref x :: (vs ++ dvs)) (upd (upd H1 dx (.own x)) x (.ins C dx [])) (fun v H2 => v = .non ∧ Q (.ref x) H2) (E σ)
theorem made_ends {pins : List (Addr × Obj)} {σ : L2.St} {H : Hp} {s : Shared} {Q : VK} {us : List Value} {kw : List (Str × Value)} (M : Mk X.K C f) (I : L2.Inv X pins σ H s) (hx : PassesAt CX X σ (E σ))
    (h : codeAny (model X.prog X.w) (X.A.under (.builtin "type.__call__" ⟨.ref C :: us, kw⟩)) (.call (.ref f) ⟨.ref (s.heap.objs.size + 1) :: us, kw⟩)
      (CR CX X.stack X.prog X.w (upd (upd H s.heap.objs.size (.own (s.heap.objs.size + 1))) (s.heap.objs.size + 1) (.ins C s.heap.objs.size [])) { s with heap := (s.heap.push PySem.W.emptyDict).push (PySem.W.instObj C s.heap.objs.size) }
        (fun v H2 => v = .non ∧ Q (.ref (s.heap.objs.size + 1)) H2) (E σ)) { s with heap := (s.heap.push PySem.W.emptyDict).push (PySem.W.instObj C s.heap.objs.size) }) :
    wpAny (model X.prog X.w) X.A (call (.ref C) us kw) (EP X pins σ Q) X.xe s := by
  have J := Inv.made (C := C) I
  refine wpAny_call (make_map (f := f) I.kIn M.makes M.init (beq_iff_eq.mp M.fn) (codeAny_mono h fun r s' q => ?_))
  cases r with
  | error er => exact hx pins _ _ er s' J q
  | ok fl =>
    cases fl with
    | ret u =>
      obtain ⟨v, H', J', rv, ev, q2⟩ := J.after q
      subst ev
      exact ⟨rv, ⟨V.ref (s.heap.objs.size + 1), H', J', rfl, q2⟩⟩
    | next => exact False.elim q
    | brk => exact False.elim q
    | cont => exact False.elim q
theorem pe_makeS (M : Mk X.K C f) (F : FnOk X.prog X.w X.K X.mg X.base CX k f fd ps sp) (hr : Room (k + 1) X.A) (hg : Gl X x) (hm : X.mg x = some (.ref C)) (hb : L2.Binds X.K fd ps ds) (hd : Vals dvs ds) (hx : ∀ σ, PassesAt CX X σ (E σ))
    (ha : PA X (e :: es) t) (hdb : (x == ("__debug__" : Str)) = false := by decide) (he : starEach (e :: es) X.env = (false, eval e X.env) :: starEach es X.env := by rfl) (hpl : (backTo pos (starEach es X.env)).any (·.1) = false := by rfl) :
    PE X (.Call (.Name x p) (e :: es) [] pos) (tMakeS C sp dvs E t) := by
  refine ⟨fun pins s σ H Q I h => ?_⟩
  refine wpAny_Call_Name_kw (ld_glob I hg hm ?_ hdb)
  refine PySem.W.callWith_K (h₀ := X.base) I.ok.mod.kin M.kp (thn (ha.run pos pins s σ H _ I h) fun us s1 hh => ?_) he hpl
  obtain ⟨vs, H1, I1, r, q⟩ := hh
  refine ⟨I1.kIn, made_ends M I1 (hx σ) ?_⟩
  have q1 := q (s1.heap.objs.size + 1) s1.heap.objs.size (I1.hok.fresh (Nat.le_succ _)) (I1.hok.fresh (Nat.le_refl _)) (Nat.ne_of_lt (Nat.lt_succ_self _))
  have J := Inv.made (C := C) I1
  have r2 : Vals (V.ref (s1.heap.objs.size + 1) :: (vs ++ dvs)) (Value.ref (s1.heap.objs.size + 1) :: (us ++ ds)) := .cons rfl (r.append hd)
  exact F.run _ X.stack _ _ _ _ _ _ (E σ) (hr.make C us []) (J.env0.make C us []) (hb _ (Value.ref (s1.heap.objs.size + 1) :: us) J.kIn (r2.length.symm.trans (F.len _ _ _ _ q1))) r2 q1
/-- C(k = v, ..) where C's __init__ may raise -/
def tMakeKS (C : Addr) (m : Nat) (sp : Sp) (gV : List V → List V → List V) (E : L2.St → XK) (tk : TA) : TE := fun σ H Q => tk σ H fun zs H1 => zs.length = m ∧ ∀ x dx, H1 x = none → H1 dx = none → dx ≠ x →
  sp (gV [.ref x] zs) (upd (upd H1 dx (.own x)) x (.ins C dx [])) (fun v H2 => v = .non ∧ Q (.ref x) H2) (E σ)
theorem pe_makeKS (M : Mk X.K C f) (F : FnOk X.prog X.w X.K X.mg X.base CX k f fd ps sp) (hr : Room (k + 1) X.A) (hg : Gl X x) (hm : X.mg x = some (.ref C)) (hb : KBn X.K fd ps 1 ks g gV) (hx : ∀ σ, PassesAt CX X σ (E σ)) (hkw : PK X kws tk)
    (hall : (backToKw pos (keywordEach kws X.env)).all (·.1.isSome) = true := by rfl) (hks : (backToKw pos (keywordEach kws X.env)).filterMap (·.1) = ks := by rfl) (hdb : (x == ("__debug__" : Str)) = false := by decide)
    (hpl : ((backTo pos (starEach [] X.env)).any (·.1) || (backToKw pos (keywordEach kws X.env)).any (·.1.isNone)) = false := by rfl) :
    PE X (.Call (.Name x p) [] kws pos) (tMakeKS C ks.length sp gV E tk) := by
  refine ⟨fun pins s σ H Q I h => ?_⟩
  refine wpAny_Call_Name_kw (ld_glob I hg hm ?_ hdb)
  refine PySem.W.callWith_KW0 (h₀ := X.base) I.ok.mod.kin M.kp hall ?_ hpl
  refine thn (hkw.run pos pins s σ H _ I h) fun ws s1 hh => ?_
  obtain ⟨zs, H1, I1, r, l2, q⟩ := hh
  refine ⟨I1.kIn, ?_⟩
  rw [hks]
  refine made_ends M I1 (hx σ) ?_
  have q1 := q (s1.heap.objs.size + 1) s1.heap.objs.size (I1.hok.fresh (Nat.le_succ _)) (I1.hok.fresh (Nat.le_refl _)) (Nat.ne_of_lt (Nat.lt_succ_self _))
  have J := Inv.made (C := C) I1
  have r1 : Vals [V.ref (s1.heap.objs.size + 1)] [Value.ref (s1.heap.objs.size + 1)] := .cons rfl .nil
  exact F.run _ X.stack _ _ _ _ _ _ (E σ) (hr.make C [] (ks.zip ws)) (J.env0.make C [] (ks.zip ws)) (hb.to _ _ ws J.kIn rfl (r.length.symm.trans l2)) (hb.rel r1 r) q1
/-- C() of a class without an __init__ of its own -/
def tMakeO (C : Addr) : TE := fun _ H Q => ∀ x dx, H x = none → H dx = none → dx ≠ x → Q (.ref x) (upd (upd H dx (.own x)) x (.ins C dx []))
theorem pe_makeO (mk : PySem.W.makesIn X.K C = true) (hi : PySem.W.findIn X.K (.ref C) "__init__" = some (some (.builtin "object.__init__"))) (kp : PySem.W.keepIn X.K (.ref C) = true) (hg : Gl X x) (hm : X.mg x = some (.ref C))
    (hdb : (x == ("__debug__" : Str)) = false := by decide) : PE X (.Call (.Name x p) [] [] pos) (tMakeO C) := by
  refine ⟨fun pins s σ H Q I h => ?_⟩
  refine wpAny_Call_Name_kw (ld_glob I hg hm ?_ hdb)
  refine PySem.W.callWith_K0 I.kIn kp (wpAny_call ?_)
  have J := Inv.made (C := C) I
  have q1 := h (s.heap.objs.size + 1) s.heap.objs.size (I.hok.fresh (Nat.le_succ _)) (I.hok.fresh (Nat.le_refl _)) (Nat.ne_of_lt (Nat.lt_succ_self _))
  have Y := PySem.W.makes_of (M := model X.prog X.w) I.kIn mk
  show codeAny _ _ (.call (.ref C) ⟨[], []⟩) _ _
  refine make_map0 I.kIn mk hi (fun self => .of_pure (PySem.W.oi_bind self)) ?_
  obtain ⟨hp, gs, dr, tks, os⟩ := s
  have t1 : PySem.W.Looks (model X.prog X.w) ((hp.push PySem.W.emptyDict).push (PySem.W.instObj C hp.objs.size)) (typeOf (.ref (hp.objs.size + 1))) (.ref C) :=
    (PySem.W.Looks.ld (part := none) (by heap_get)).andThen .now
  have t2 : PySem.W.Looks (model X.prog X.w) ((hp.push PySem.W.emptyDict).push (PySem.W.instObj C hp.objs.size)) (isInstance (.ref (hp.objs.size + 1)) (.type "object")) true :=
    t1.andThen (Y.top.keeps fun b o z => Heap.get?_push_of_some (PySem.W.instObj C hp.objs.size) (Heap.get?_push_of_some PySem.W.emptyDict z))
  refine codeAny_call_builtin PySem.W.oi_plain PySem.W.entry_oi (PySem.W.check_slot (M := model X.prog X.w) (s := ⟨(hp.push PySem.W.emptyDict).push (PySem.W.instObj C hp.objs.size), gs, dr, tks, os⟩) (rest := []) (kw := []) PySem.W.oi_kind PySem.W.oi_split t2 (PySem.W.oi_args _) ?_)
  rw [PySem.W.oi_run]
  exact wpAny_pure (And.intro rfl ⟨V.ref (hp.objs.size + 1), _, J, rfl, q1⟩)
end
end My

namespace My
open PySem PySem.Spec PyProof.Rows L2
/-! an own exception with one field -/
/-- what its __init__ promises -/
abbrev sp_exc1 (C : Addr) (f : Str) : Sp := Sp2 fun s v H Q _ => ∃ a, s = .ref a ∧ H a = some (exo a C none) ∧ ∀ dx, H dx = none → dx ≠ a → Q .non (upd (upd H dx (exd dx [(f, v)])) a (exo a C (some dx)))
/-- C(v), as it is raised: its own new dict holds the field -/
theorem mk_exc1 {C : Addr} {f : Str} {v : V} {H : Hp} {R : XK} (k : ∀ d, H d = none → R (.ref C) (some d) (upd H d (.xd [(f, v)]))) : ([v] : List V).length ≤ 1000 ∧ ∀ a, H a = none →
    sp_exc1 C f (.ref a :: ([v] ++ [])) (upd H a (exo a C none)) (fun u H2 => u = .non ∧ ∃ (d : Addr) (fs : List (Str × V)), H2 a = some (exo a C (some d)) ∧ H2 d = some (exd d fs) ∧ H d = none ∧ R (.ref C) (some d) (upd (L2.del H2 a) d (.xd fs))) (fun _ _ _ => False) := by
  refine ⟨by show 1 ≤ 1000; decide, fun a ha => ⟨_, _, rfl, a, rfl, upd_same, fun dx hdx ne => ⟨rfl, dx, [(f, v)], upd_same, ?_, ?_, ?_⟩⟩⟩
  · rw [upd_ne ne, upd_same]
  · rw [upd_ne ne] at hdx
    exact hdx
  · rw [upd_ne ne] at hdx
    have e : upd (L2.del (upd (upd (upd H a (exo a C none)) dx (exd dx [(f, v)])) a (exo a C (some dx))) a) dx (.xd [(f, v)]) = upd H dx (.xd [(f, v)]) := by
      funext b
      by_cases h1 : b = dx
      · rw [h1, upd_same, upd_same]
      · rw [upd_ne h1, upd_ne h1]
        by_cases h2 : b = a
        · rw [h2, L2.del_same, ha]
        · rw [L2.del_ne h2, upd_ne h2, upd_ne h1, upd_ne h2]
    rw [e]
    exact k dx hdx
theorem exm_own {K : PySem.W.Frag} {C D : Addr} {b : Bool} (h1 : PySem.W.subIn K (.ref D) (.type "BaseException") = some true) (h2 : PySem.W.isClsIn K D = true) (h3 : PySem.W.typeIn K (.ref D) = some (.type "type")) (h4 : PySem.W.subIn K (.ref C) (.ref D) = some b) :
    PySem.W.exmOne K (.ref C) (.ref D) = some b := by
  have e2 : (PySem.W.clsIn K D).isSome = true := h2
  simp only [PySem.W.exmOne, PySem.W.kitCls, h1, e2, h3, h4, beq_self_eq_true, Bool.and_self, if_true]
/-! defaults -/
theorem binds_nil {K : PySem.W.Frag} {fd : FuncData} {ps : List Str} {dvs : List V} (h0 : dvs = []) (h : ∃ ds, Vals dvs ds ∧ L2.Binds K fd ps ds) : L2.Binds K fd ps [] := by
  subst h0
  obtain ⟨ds, v, b⟩ := h
  cases v
  exact b
theorem binds_non {K : PySem.W.Frag} {fd : FuncData} {ps : List Str} {dvs : List V} (h0 : dvs = [.non]) (h : ∃ ds, Vals dvs ds ∧ L2.Binds K fd ps ds) : L2.Binds K fd ps [.none] := by
  subst h0
  obtain ⟨ds, v, b⟩ := h
  cases v with
  | cons r t =>
    cases t
    cases r
    exact b
theorem fun_kbnD {K : PySem.W.Frag} {x qual : Str} {params : Arguments} {body : List Stmt} {scope : Scope} {dvs : List V} {kws : List (Str × V)} {f : Addr} {fd : FuncData} {ps ks : List Str} {n : Nat} (ix : List Nat) (F : FunD K x qual params body scope dvs kws f fd) (hd : dvs ≠ [])
    (h : ∀ (T : Addr) (kV doc pm : Value) (an : Option Addr) (cdv ct : Value) (us its ws : List Value), us.length = n → its.length = dvs.length → ws.length = ks.length →
      ∃ k, bindArgs (PySem.W.fnOf x qual params body scope (.ref T) kV doc pm an cdv ct) ⟨us, ks.zip ws⟩ = seqItems? (.ref T) >>= k ∧ k (some its.toArray) = pure (ps.zip (pick ix (us ++ ws ++ its)))) :
    ∃ g, KBn K fd ps n ks g (fun vs zs => pick ix (vs ++ zs ++ dvs)) := by
  obtain ⟨oc, od, dV, kV, doc, pm, an, cdv, ct, osl, rfl, lk, hcd, hD, hK⟩ := F.ex
  rcases hD with ⟨e, _⟩ | ⟨_, T, o, its, m, rfl, lT, oT, rT⟩
  · exact absurd e hd
  · refine ⟨fun us ws => pick ix (us ++ ws ++ its), ⟨fun s us ws kin l1 l2 => ?_, fun r1 r2 => pick_rel ix ((r1.append r2).append rT)⟩⟩
    obtain ⟨k, e1, e2⟩ := h T kV doc pm an cdv ct us its ws l1 rT.length.symm l2
    refine BindsTo.of_looks fun M => ?_
    rw [e1]
    exact looks_items kin lT oT (.of_pure e2)
/-! a text, sign by sign -/
theorem for_str {x : Str} {g : TG} {tb : TS} {D : Ends} {σ : L2.St} {H : Hp} (Pv : Nat → L2.St → Hp → Prop) (h0 : Pv 0 σ H)
    (hs : ∀ i c σ H, x.cps.toList[i]? = some c → Pv i σ H → g (.str ⟨#[c]⟩) σ H fun σ2 H2 => tb { D with nx := Pv (i + 1), ct := Pv (i + 1), bk := D.nx } σ2 H2) (hd : ∀ σ H, Pv x.cps.size σ H → D.nx σ H) :
    ∃ W : Nat → Nat → L2.St → Hp → Prop, (∃ m, W 0 m σ H) ∧ ∀ i m σ H, W i m σ H →
      ((Its x).stop i H ∧ D.nx σ H) ∨ ((Its x).go i H ∧ ∃ N : L2.St → Hp → Prop, (∀ σ' H', N σ' H' → ∃ m', m' < m ∧ W (i + 1) m' σ' H') ∧ ∀ y H', (Its x).yld i H y H' → g y σ H' fun σ2 H2 => tb { D with nx := N, ct := N, bk := D.nx } σ2 H2) := by
  refine ⟨fun i m σ H => m + i = x.cps.size ∧ Pv i σ H, ⟨x.cps.size, by simp, h0⟩, ?_⟩
  rintro i m σ H ⟨hm, p⟩
  by_cases hlt : i < x.cps.size
  · refine .inr ⟨hlt, Pv (i + 1), fun σ' H' p' => ⟨m - 1, by omega, by omega, p'⟩, fun y H' hy => ?_⟩
    obtain ⟨e, c, hc, ey⟩ := hy
    subst e ey
    refine hs i c σ _ ?_ p
    rw [Array.getElem?_toList]
    exact hc
  · have e : i = x.cps.size := by omega
    subst e
    exact .inl ⟨Nat.le_refl _, hd σ H p⟩
end My
namespace My
open PySem PySem.Spec PyProof.Rows L2
/-- a call that raises nothing where it stands -/
theorem passL0 {X : Cx} (σ : L2.St) : PassesAt (L2.CX X.prog X.w) X σ E0 := fun _ _ _ _ _ _ h => by
  obtain ⟨_, _, _, _, _, _, _, _, _, _, _, _, z⟩ := h
  exact z.elim
end My
namespace My
open PySem PySem.Spec PyProof.Rows L2
/-! rules with the written part named, for the bodies of a try -/
theorem ix_listK {X : Cx} {K : PySem.W.Frag} (h : X.K = K) : IxR X (rIxL K) := by subst h; exact ix_list
theorem ix_tupK {X : Cx} {K : PySem.W.Frag} (h : X.K = K) : IxR X (rIxT K) := by subst h; exact ix_tup
theorem pe_fldK {X : Cx} {K : PySem.W.Frag} {e : Expr} {te : TE} {f : Str} {pos : Pos} (hk : X.K = K) (h : PE X e te) (hb : attributeBase e f X.env (eval e X.env) = eval e X.env) : PE X (.Attribute e f pos) (tFld K te f) := by subst hk; exact pe_fld h hb
theorem call_isiK2 {X : Cx} {K : PySem.W.Frag} (h : X.K = K) : CallR X (.builtin "isinstance") (rIsi K) := by subst h; exact call_isi
theorem call_isiTK {X : Cx} {K : PySem.W.Frag} (h : X.K = K) : CallR X (.builtin "isinstance") (rIsiT K) := by subst h; exact call_isiT
theorem op_in_seqK {X : Cx} {K : PySem.W.Frag} (h : X.K = K) : OpR X (compareOp .In) (rIn K false) := by subst h; exact op_in_seq
theorem op_notIn_seqK {X : Cx} {K : PySem.W.Frag} (h : X.K = K) : OpR X (compareOp .NotIn) (rIn K true) := by subst h; exact op_notIn_seq
end My

namespace My
open PySem PySem.Spec PyProof.Rows L2
/-! several clauses with names; isinstance of the caught error -/
abbrev HTS : Type := Addr → Value → Option Addr → TS
/-- the ends within a clause's suite: its name is gone behind it -/
def gone (i : Nat) (D : Ends) : Ends := { nx := fun z h => D.nx (z.set i none) h, rt := D.rt, bk := fun z h => D.bk (z.set i none) h, ct := fun z h => D.ct (z.set i none) h }
def wMA (K : PySem.W.Frag) (Wo : WX) (D : Ends) : List (Value × Nat × HTS) → WX
  | [] => Wo
  | (c, i, ts) :: r => fun cls d z h => ∃ b, PySem.W.exmOne K cls c = some b ∧ (b = true → ∀ a, h a = none → ts a cls d (gone i D) (z.set i (some (.ref a))) h) ∧ (b = false → wMA K Wo D r cls d z h)
inductive HdsA (X : Cx) : List ExceptHandler → List (Value × Nat × HTS) → Prop
  | nil : HdsA X [] []
  | cons {x n : Str} {c : Value} {i : Nat} {ts : HTS} {b0 : Stmt} {su : List Stmt} {np ps : Pos} {hds : List ExceptHandler} {l : List (Value × Nat × HTS)} (hc : Names X x c) (hi : X.N[i]? = some n) (hln : X.env.kindOf n = some .local)
      (hsu : ∀ (a : Addr) (oe : Obj) (cls : Value) (d : Option Addr) (pn : List (Addr × Obj)), Zc cls d oe → (∃ vs, oe.data = .fields vs) → PSs (X.suite a ((a, oe) :: pn)) (b0 :: su) (ts a cls d)) (r : HdsA X hds l) :
      HdsA X (.ExceptHandler (some (.Name x np)) (some n) (b0 :: su) ps :: hds) ((c, i, ts) :: l)
theorem Takes.long {X : Cx} {W : WX} (t : Takes X W) : Takes X (fun c d z h => z.length = X.N.length → W c d z h) := fun u s' ⟨a, B, sI, pins, z, h, cls, d, e, I, nb, up, sky, na, os, ag, w⟩ =>
  t u s' ⟨a, B, sI, pins, z, h, cls, d, e, I, nb, up, sky, na, os, ag, w I.len⟩
section
variable {X : Cx} {body : List Stmt} {h0 : ExceptHandler} {hds : List ExceptHandler} {l : List (Value × Nat × HTS)} {pos : Pos} {tb : WX → TS} {Wo : WX}
theorem ps_try_manyA (hs : X.stack = X.env :: X.outer) (hf : X.env.frame = some X.env.locals) (hN : X.N.Nodup) (tk : Takes X Wo)
    (hb : ∀ (W : WX) (pn : List (Addr × Obj)) (xe : Value → Shared → Prop), Takes (X.tr pn xe) W → PassesOwn (model X.prog X.w) X.A X.env xe → PSs (X.tr pn xe) body (tb W))
    (hh : HdsA X (h0 :: hds) l) : PS X (.Try body (h0 :: hds) [] [] pos) (fun D z h => tb (wMA X.K Wo D l) D z h) := by
  refine ⟨fun pins s z h D I hz0 => ?_⟩
  have ok := I.ok
  have hfr : X.A.frames = some (X.env :: X.outer) := hs ▸ ok.frames
  refine wpAny_Try_except (wpAny_mono ((hb (wMA X.K Wo D l) (X.pn ++ pins) (fun e s1 => wpAny (model X.prog X.w) X.A (noteFrame e X.env) (fun _ s2 => wpAny (model X.prog X.w) X.A (setFlight e none) (fun _ s3 => wpAny (model X.prog X.w) X.A (handleBy e X.env (h0 :: hds)) (SP X pins D) X.xe s3) X.xe s2) X.xe s1)
    (fun u s' xx => ?c1) PassesOwn.looking).run [] s z h D (I.toTry _) hz0) (fun f s1 hsp => ?c2) (fun e s1 he => he))
  case c1 =>
    obtain ⟨a, B, sI, pins', z', h', cls, d, rfl, J', nb, up, sky, na, os, ag, w⟩ := xx
    have J : Inv X pins z' h' sI := J'.ofTry ok
    replace sky : Sky B (X.env :: X.outer) a (Zc cls d) X.env.locals s'.heap := hs ▸ sky
    show wpAny (model X.prog X.w) X.A (noteFrame (.ref a) X.env) _ _ _
    refine Sky.land Zc.steady hfr hf sky fun hp fl up3 => ?_
    have J3 : Inv X pins z' h' { s' with heap := hp } := J.landed nb fl.1 (up.trans up3) os ag
    obtain ⟨oe, vs, he, hz, hd⟩ := fl.there
    have nfr : a ∉ frs (X.env :: X.outer) := fun hm => by
      obtain ⟨_, o', e', hnf⟩ := (fl.2.2.1).mem hm
      rw [he] at e'
      cases e'
      exact hnf _ hd
    have nL : a ≠ X.env.locals := fun q => nfr (List.mem_filterMap.mpr ⟨X.env, .head _, by rw [hf, q]⟩)
    have nF : a ∉ X.fs := fun hm => by
      obtain ⟨e, me, q⟩ := List.mem_filterMap.mp hm
      exact nfr (List.mem_filterMap.mpr ⟨e, .tail _ me, q⟩)
    have S3 := J3.suite he hd na nL nF
    have go : ∀ {hs' : List ExceptHandler} {l' : List (Value × Nat × HTS)}, HdsA X hs' l' → wMA X.K Wo D l' cls d z' h' → wpAny (model X.prog X.w) X.A (handleBy (.ref a) X.env hs') (SP X pins D) X.xe { s' with heap := hp } := by
      intro hs' l' hk
      induction hk with
      | nil =>
        intro w
        refine wpAny_handleBy_nil ?_
        obtain ⟨k1, k2, k3, oe, vs, T, oT, ts', he, hz, hd, h1, hr⟩ := id fl
        unfold PySem.passOn
        refine wpAny_bind (wpAny_field he hd h1 ?_)
        rw [if_neg (by simp : ¬ ((Value.ref T == Value.none) = true))]
        have fin : wpAny (model X.prog X.w) X.A (setFlight (.ref a) X.env.frame) (fun _ s4 => wpAny (model X.prog X.w) X.A (throw (.ref a) : Sem Flow) (SP X pins D) X.xe s4) X.xe { s' with heap := hp } :=
          hf ▸ HandSPX.setFlight_upZ fl fun h4 hh4 up4 => wpAny_throw (tk _ _ ⟨a, B, sI, pins, z', h', cls, d, rfl, J, nb, (up.trans up3).trans up4, .inr (.inr (hs ▸ hh4)), na, os, ag, w⟩)
        first
          | exact wpAny_bind (wpAny_pure (wpAny_bind fin))
          | exact wpAny_bind fin
      | @cons x n c i ts b0 su np ps hd2 l2 hc hi hln hsu r ih =>
        rintro ⟨b, hb1, hyes, hno⟩
        refine wpAny_handleBy_cons (codeAny_handlers_test ?_) (by intro q; cases q)
        have LT : PySem.W.Looks (model X.prog X.w) hp (typeOf (.ref a)) cls := fun A Q E s k q => wpAny_typeOf_ref (k _ _ he) (by rw [hz.1]; exact q)
        have LM := PySem.W.exm_one (M := model X.prog X.w) (J3.kIn) LT hb1
        have test : ∀ {Q E : Value → Shared → Prop}, Q c { s' with heap := hp } → wpAny (model X.prog X.w) (X.A.mark (some (.ref a))) (eval (.Name x np) X.env) Q E { s' with heap := hp } := fun {Q E} q => by
          obtain ⟨hg, hdbg, hm | ⟨hm, hv, hnn⟩⟩ := hc
          · exact ld_glob (X := X.suite a ((a, oe) :: (X.pn ++ pins))) S3 hg hm q hdbg
          · exact ld_blt (X := X.suite a ((a, oe) :: (X.pn ++ pins))) S3 hg hm hv q hnn hdbg
        refine test (LM.here ?_)
        cases b with
        | true =>
          refine codeAny_handlers_suite_as (HandSPX.lands_againZ fl fun h4 fl4 up4 => ?_)
          have J4 : Inv X pins z' h' { s' with heap := h4 } := J.landed nb fl4.1 ((up.trans up3).trans up4) os ag
          obtain ⟨o4, vs4, he4, hz4, hd4⟩ := fl4.there
          have S4 := J4.suite he4 hd4 na nL nF
          refine store_ok (X := X.suite a ((a, o4) :: (X.pn ++ pins))) (v := .ref a) S4 hN hi (.inl hln) rfl (fun s5 S5 => ?_) (.inr hln)
          refine wpAny_mono ((hsu a o4 cls d (X.pn ++ pins) hz4 ⟨_, hd4⟩).run [] s5 _ h' _ S5 (hyes rfl a na)) (fun f s6 hsp => ?_) (fun _ _ q => False.elim q)
          have end_ : ∀ {z6 : L2.St} {h6 : Hp} {Q : Shared → Prop}, Inv (X.suite a ((a, o4) :: (X.pn ++ pins))) [] z6 h6 s6 → (∀ s7, Inv X pins (z6.set i none) h6 s7 → Q s7) → wpAny (model X.prog X.w) X.A (do bindName X.env n .none; unbindBehindTheSuite X.env n ps) (fun _ s7 => Q s7) X.xe s6 :=
            fun {z6 h6 Q} S6 hq => gone_ok (S6.unsuite ok) hN hi hln hq
          cases f with
          | next => obtain ⟨z6, h6, S6, q6⟩ := hsp; exact end_ S6 fun s7 J7 => ⟨_, _, J7, q6⟩
          | brk => obtain ⟨z6, h6, S6, q6⟩ := hsp; exact end_ S6 fun s7 J7 => ⟨_, _, J7, q6⟩
          | cont => obtain ⟨z6, h6, S6, q6⟩ := hsp; exact end_ S6 fun s7 J7 => ⟨_, _, J7, q6⟩
          | ret u => obtain ⟨v6, z6, h6, S6, r6, q6⟩ := hsp; exact end_ S6 fun s7 J7 => ⟨_, _, _, J7, r6, q6⟩
        | false => exact ih (hno rfl)
    exact go hh w
  case c2 =>
    cases f with
    | next => obtain ⟨z', h', J', q⟩ := hsp; exact wpAny_execs_nil ⟨z', h', J'.ofTry ok, q⟩
    | brk => obtain ⟨z', h', J', q⟩ := hsp; exact ⟨z', h', J'.ofTry ok, q⟩
    | cont => obtain ⟨z', h', J', q⟩ := hsp; exact ⟨z', h', J'.ofTry ok, q⟩
    | ret u => obtain ⟨v, z', h', J', r, q⟩ := hsp; exact ⟨v, z', h', J'.ofTry ok, r, q⟩
end
/-- isinstance(e, c), e the caught error, with or without a dict of its own -/
structure ExD (K : PySem.W.Frag) (D : Addr) : Prop where
  c : (PySem.W.clsIn K D).isSome = true
  g : PySem.W.findIn K (.ref D) "__getattribute__" = some (some (.builtin "BaseException.__getattribute__"))
  a : PySem.W.findIn K (.ref D) "__getattr__" = some none
  s : PySem.W.subIn K (.ref D) (.type "BaseException") = some true
  k : PySem.W.findIn K (.ref D) "__class__" = some (some (.builtin "object.__class__"))
  n : PySem.W.specialIn K (.builtin "object.__class__") "__get__" = some (some (.builtin "getset_descriptor.__get__"))
  t : PySem.W.takesIn K (.builtin "object.__class__") = some true
  m : PySem.W.mroIn K D (.type "object") = some true
def rIsD (K : PySem.W.Frag) (a : Addr) (cls : Value) (d : Option Addr) : List V → Hp → VK → Prop := fun xs H Q => ∃ (D : Addr) (c : V) (cv : Value) (b : Bool), cls = .ref D ∧ ExD K D ∧ xs = [.ref a, c] ∧ (∀ u, RelV c u → u = cv) ∧ PySem.W.kitOne K (.ref D) cv = some b ∧ (d = none ∨ ∃ dd fs, d = some dd ∧ H dd = some (.xd fs)) ∧ Q (.bl b) H
theorem call_isD {X : Cx} {a : Addr} {cls : Value} {d : Option Addr} {oe : Obj} {pn : List (Addr × Obj)} (hz : Zc cls d oe) (hf : ∃ vs, oe.data = .fields vs) : CallR (X.suite a ((a, oe) :: pn)) (.builtin "isinstance") (rIsD X.K a cls d) := by
  intro pins s σ H xs us Q I r h
  obtain ⟨D, c, cv, b, rfl, C, rfl, hcv, e, hd, q⟩ := h
  cases r with
  | cons rx rr =>
  cases rr with
  | cons rt rr =>
  cases rr
  cases rx
  have ec := hcv _ rt
  subst ec
  obtain ⟨hget, _⟩ := I.pin (a, oe) (List.mem_append.mpr (.inl (.head _)))
  obtain ⟨vs, hv⟩ := hf
  have J : ∃ od, PySem.W.InstAt s.heap a oe D od := by
    obtain ⟨oc, od, oda, osl⟩ := oe
    obtain ⟨h1, h2⟩ := hz
    dsimp only at h1 h2 hv
    subst h1 h2 hv
    rcases hd with z | ⟨dd, fs, z, hx⟩
    · cases z
      exact ⟨none, hget, rfl, rfl, trivial⟩
    · cases z
      have hx2 : ObjOk X.prog X.w H s.heap dd (.xd fs) := I.hok dd _ hx
      obtain ⟨mA, hns, _⟩ := hx2
      obtain ⟨o, ho, _⟩ := lookIn_ns hns
      exact ⟨some o, hget, rfl, rfl, ho⟩
  obtain ⟨od, J⟩ := J
  exact PySem.W.kia_one (PySem.W.kitx_exc C.c C.g C.a C.s C.k C.n C.t C.m) I.kIn J e (fun z => nomatch z) fun tk => ⟨.bl b, H, I.kept (t' := tk) fun _ _ z => z, rfl, q⟩
end My
namespace My
open PySem PySem.Spec PyProof.Rows L2
def exdB (K : PySem.W.Frag) (C : Addr) : Bool := (PySem.W.clsIn K C).isSome && (decide (PySem.W.findIn K (.ref C) "__getattribute__" = some (some (.builtin "BaseException.__getattribute__"))) && (decide (PySem.W.findIn K (.ref C) "__getattr__" = some none) &&
  (decide (PySem.W.subIn K (.ref C) (.type "BaseException") = some true) && (decide (PySem.W.findIn K (.ref C) "__class__" = some (some (.builtin "object.__class__"))) && (decide (PySem.W.specialIn K (.builtin "object.__class__") "__get__" = some (some (.builtin "getset_descriptor.__get__"))) &&
  (decide (PySem.W.takesIn K (.builtin "object.__class__") = some true) && decide (PySem.W.mroIn K C (.type "object") = some true)))))))
theorem exdB_ok {K : PySem.W.Frag} {C : Addr} (h : exdB K C = true) : ExD K C := by
  obtain ⟨h1, h⟩ := Bool.and_eq_true_iff.mp h
  obtain ⟨h2, h⟩ := Bool.and_eq_true_iff.mp h
  obtain ⟨h3, h⟩ := Bool.and_eq_true_iff.mp h
  obtain ⟨h4, h⟩ := Bool.and_eq_true_iff.mp h
  obtain ⟨h5, h⟩ := Bool.and_eq_true_iff.mp h
  obtain ⟨h6, h⟩ := Bool.and_eq_true_iff.mp h
  obtain ⟨h7, h8⟩ := Bool.and_eq_true_iff.mp h
  exact ⟨h1, of_decide_eq_true h2, of_decide_eq_true h3, of_decide_eq_true h4, of_decide_eq_true h5, of_decide_eq_true h6, of_decide_eq_true h7, of_decide_eq_true h8⟩
end My

namespace My
open PySem PySem.Spec PyProof.Rows L2
section
variable {X : Cx} {CX : CXT} {k : Nat} {f C : Addr} {fd : FuncData} {ps ks : List Str} {sp : Sp} {E : L2.St → XK} {x : Str} {p pos : Pos} {kws : List Keyword} {tk : TA} {g : List Value → List Value → List Value} {gV : List V → List V → List V} {bmB : List Value} {B newId initId : String}
/-- X(), X an own exception class without __init__ -/
theorem pmk_own0 (F : ExcBaseFacts B newId initId bmB) (q : PySem.W.excIn X.K C bmB newId = true) (gC : X.mg x = some (.ref C)) (kC : PySem.W.keepIn X.K (.ref C) = true) (r : Raises X (.ref C)) (hg : Gl X x) (hdb : (x == ("__debug__" : Str)) = false := by decide) :
    PMk X (.Call (.Name x p) [] [] pos) (fun _ H Q => Q (.ref C) none H) := by
  intro pins s z H Q I h
  refine wpAny_Call_Name_kw (ld_glob I hg gC ?_ hdb)
  refine PySem.W.callWith_K0 (first := []) I.kIn kC ?_
  show wpAny _ _ (call (.ref C) []) _ _ _
  obtain ⟨bm, N, nm, qn, bs, hdct, sn, sub, ab, col, dd, k0, k1, k2, k3, k5, mN, hC, hN, hni, T⟩ := exc_obj I.kIn q
  exact wpAny_call_exc_subT F T hC hN hni (fun h' e hm => mk_of I hm r h (I.hok.gone hm.new)) (by show 0 ≤ sizeLine; omega)
/-- f(k = v, ..), f may raise -/
def tCallK0 (m : Nat) (sp : Sp) (gV : List V → List V → List V) (E : L2.St → XK) (tk : TA) : TE := fun z H Q => tk z H fun zs H2 => zs.length = m ∧ sp (gV [] zs) H2 Q (E z)
theorem pe_callK0 (F : FnOk X.prog X.w X.K X.mg X.base CX k f fd ps sp) (hr : Room k X.A) (hg : Gl X x) (hm : X.mg x = some (.ref f)) (hk : PySem.W.keepIn X.K (.ref f) = true) (hb : KBn X.K fd ps 0 ks g gV) (hx : ∀ z, PassesAt CX X z (E z)) (hkw : PK X kws tk)
    (hall : (backToKw pos (keywordEach kws X.env)).all (·.1.isSome) = true := by rfl) (hks : (backToKw pos (keywordEach kws X.env)).filterMap (·.1) = ks := by rfl) (hdb : (x == ("__debug__" : Str)) = false := by decide)
    (hpl : ((backTo pos (starEach [] X.env)).any (·.1) || (backToKw pos (keywordEach kws X.env)).any (·.1.isNone)) = false := by rfl) : PE X (.Call (.Name x p) [] kws pos) (tCallK0 ks.length sp gV E tk) := by
  refine ⟨fun pins s z H Q I h => wpAny_Call_Name_kw (ld_glob I hg hm (PySem.W.callWith_KW0 (h₀ := X.base) I.ok.mod.kin hk hall (thn (hkw.run pos pins s z H _ I h) fun ws s1 hh => ?_) hpl) hdb)⟩
  obtain ⟨zs, H1, J, r, l2, q⟩ := hh
  refine ⟨J.kIn, ?_⟩
  rw [hks]
  have r2 := hb.rel (.nil : Vals [] []) r
  refine wpAny_call (codeAny_mono (F.run X.A X.stack s1 H1 ⟨[], ks.zip ws⟩ (g [] ws) (gV [] zs) Q (E z) hr J.env0 (hb.to s1 [] ws J.kIn rfl (r.length.symm.trans l2)) r2 q) fun o s' hq => ?_)
  cases o with
  | error e => exact hx z pins H1 s1 e s' J hq
  | ok fl =>
    cases fl with
    | ret u => exact J.after hq
    | next => exact False.elim hq
    | brk => exact False.elim hq
    | cont => exact False.elim hq
end
end My

namespace My
open PySem PySem.Spec PyProof.Rows L2
/-! the head's facts, over all objects that the top has made -/
def keepO (o : Obj) : Bool := match o.data with
  | .func _ => true
  | .cls _ => true
  | .dict _ _ => true
  | .cell _ => true
  | .fields vs => Nat.beq vs.size 19
  | .seq vs _ => match vs.size with
    | 0 => false
    | _ + 1 => true
  | _ => false
def pickO (g : Addr → Option Obj) (a : Addr) : Option (Addr × Obj) := match g a with
  | some o => match keepO o with
    | true => some (a, o)
    | false => none
  | none => none
def frA (g : Addr → Option Obj) (as : List Addr) : PySem.W.Frag := as.filterMap (pickO g)
theorem pickO_of {g : Addr → Option Obj} {a b : Addr} {o : Obj} (h : pickO g b = some (a, o)) : g a = some o ∧ keepO o = true := by
  unfold pickO at h
  cases e : g b with
  | none => rw [e] at h; cases h
  | some u =>
    rw [e] at h
    cases k : keepO u with
    | false => simp only [k] at h; cases h
    | true =>
      simp only [k] at h
      have z := Option.some.inj h
      injection z with z1 z2
      subst z1
      subst z2
      exact ⟨e, k⟩
theorem frA_at {g : Addr → Option Obj} {as : List Addr} {a : Addr} {o : Obj} (h : (frA g as).lookup a = some o) : g a = some o ∧ keepO o = true := by
  obtain ⟨b, _, e⟩ := List.mem_filterMap.mp (He.lookup_mem h)
  exact pickO_of e
theorem frA_in {as : List Addr} {h : Heap} : (frA h.get? as).In h := fun _ _ e => (frA_at e).1
theorem frA_out {g : Addr → Option Obj} {as : List Addr} {a : Addr} {o : Obj} (h : g a = some o) (ht : He.emptyTab o = true) : (frA g as).lookup a = none := by
  cases e : (frA g as).lookup a with
  | none => rfl
  | some u =>
    obtain ⟨h1, h2⟩ := frA_at e
    rw [h] at h1
    rw [← Option.some.inj h1, He.emptyTab_eq ht] at h2
    cases h2
structure SaysA (fa : List He.Fa) (fn : List He.DefD) (tf : List He.Defn) (fx : List (PySem.W.Frag → Bool)) (h : Heap) (K : PySem.W.Frag) : Prop where
  d : He.SaysD fa fn K
  x : fx.all (fun f => f K) = true
  hd : ∀ p ∈ tf, PySem.W.codeHdIn K (He.cT K p).1 (He.cT K p).2 = true
  out : ∀ p ∈ tf, K.lookup (He.cT K p).2 = none
  empty : ∀ p ∈ tf, h.get? (He.cT K p).2 = some { cls := .none, data := .fields #[] }
theorem SaysA.at {fa : List He.Fa} {fn : List He.DefD} {tf : List He.Defn} {fx : List (PySem.W.Frag → Bool)} {h : Heap} {K : PySem.W.Frag} (c : SaysA fa fn tf fx h K) (i : Nat) {f : PySem.W.Frag → Bool} (e : fx[i]? = some f := by rfl) : f K = true :=
  List.all_eq_true.mp c.x f (List.mem_of_getElem? e)
def obsA (as : List Addr) (fa : List He.Fa) (fn : List He.DefD) (tf : List He.Defn) (fx : List (PySem.W.Frag → Bool)) (g : Addr → Option Obj) : He.AlD × Bool := (He.obsD fa fn (frA g as), (fx.all fun f => f (frA g as)) && He.tabsB g tf (frA g as))
theorem saysA_of {as : List Addr} {fa : List He.Fa} {fn : List He.DefD} {tf : List He.Defn} {fx : List (PySem.W.Frag → Bool)} {h : Heap} (e : obsA as fa fn tf fx h.get? = (He.valD fn, true)) : SaysA fa fn tf fx h (frA h.get? as) := by
  have e1 : He.obsD fa fn (frA h.get? as) = He.valD fn := congrArg Prod.fst e
  obtain ⟨h1, h2⟩ := Bool.and_eq_true_iff.mp (show ((fx.all fun f => f (frA h.get? as)) && He.tabsB h.get? tf (frA h.get? as)) = true from congrArg Prod.snd e)
  have key : ∀ p ∈ tf, PySem.W.codeHdIn (frA h.get? as) (He.cT (frA h.get? as) p).1 (He.cT (frA h.get? as) p).2 = true ∧ ∃ o, h.get? (He.cT (frA h.get? as) p).2 = some o ∧ He.emptyTab o = true := fun p hp => by
    obtain ⟨h3, h4⟩ := Bool.and_eq_true_iff.mp (List.all_eq_true.mp h2 p hp)
    refine ⟨h3, ?_⟩
    cases q : h.get? (He.cT (frA h.get? as) p).2 with
    | none => rw [q] at h4; cases h4
    | some o => rw [q] at h4; exact ⟨o, rfl, h4⟩
  refine ⟨e1, h1, fun p hp => (key p hp).1, fun p hp => ?_, fun p hp => ?_⟩
  · obtain ⟨_, o, q, z⟩ := key p hp
    exact frA_out q z
  · obtain ⟨_, o, q, z⟩ := key p hp
    rw [q, He.emptyTab_eq z]
def hookA (as : List Addr) (fa : List He.Fa) (fn : List He.DefD) (tf : List He.Defn) (fx : List (PySem.W.Frag → Bool)) : PySem.W.Hook where
  α := He.AlD × Bool
  obs := fun s => obsA as fa fn tf fx s.heap.get?
  val := fun _ => (He.valD fn, true)
  says := fun _ h => ∃ K : PySem.W.Frag, K.In h ∧ SaysA fa fn tf fx h K
  of := fun _ _ e => ⟨_, frA_in, saysA_of e⟩
  keeps := fun _ _ _ ⟨K, hK, c⟩ k => ⟨K, PySem.W.Frag.In.keeps hK k, ⟨c.d, c.x, c.hd, c.out, fun p hp => k _ _ (c.empty p hp)⟩⟩
theorem obsA_eq {as : List Addr} {fa : List He.Fa} {fn : List He.DefD} {tf : List He.Defn} {fx : List (PySem.W.Frag → Bool)} {g : Addr → Option Obj} {s : Shared} (h : ∀ a, g a = s.heap.get? a) : obsA as fa fn tf fx g = (hookA as fa fn tf fx).obs s := by
  have e : g = s.heap.get? := funext h
  rw [e] <;> rfl
/-! own classes by Bools -/
def slB (sl : Array (Option Value)) (n : String) : Bool := match sl.toList with
  | [_, _, _, _, some (.builtin m), _] => decide (m = n)
  | _ => false
theorem slB_ok {sl : Array (Option Value)} {n : String} (h : slB sl n = true) : ∃ k0 k1 k2 k3 k5, sl = #[k0, k1, k2, k3, some (.builtin n), k5] := by
  unfold slB at h
  split at h
  · rename_i k0 k1 k2 k3 m k5 e
    have z := of_decide_eq_true h
    subst z
    refine ⟨k0, k1, k2, k3, k5, ?_⟩
    obtain ⟨l⟩ := sl
    simp only at e
    rw [e]
  · cases h
/-- the class object at C: its line of classes, its maker -/
def objB (K : PySem.W.Frag) (C : Addr) (tail : List Value) (n : String) (p : ClassData → Bool) : Bool := match K.lookup C with
  | some ⟨.type t, _, .cls cd, sl⟩ => decide (t = "type") && (slB sl n && (decide (cd.mro = .ref C :: tail) && (!cd.hasDel && p cd)))
  | _ => false
theorem objB_ok {K : PySem.W.Frag} {C : Addr} {tail : List Value} {n : String} {p : ClassData → Bool} (h : objB K C tail n p = true) :
    ∃ nm q N bs hd sn sub ab col dd k0 k1 k2 k3 k5, K.lookup C = some (excClassObj nm q C N bs tail hd sn sub ab col dd k0 k1 k2 k3 k5 n) ∧ p { name := nm, bases := bs, mro := .ref C :: tail, ns := N, qualname := q, hasDict := hd, slotNames := sn, subclasses := sub, abstract := ab, collection := col, hasDel := false } = true := by
  unfold objB at h
  split at h
  · rename_i t dd cd sl ho
    obtain ⟨h1, h⟩ := Bool.and_eq_true_iff.mp h
    obtain ⟨h2, h⟩ := Bool.and_eq_true_iff.mp h
    obtain ⟨h3, h⟩ := Bool.and_eq_true_iff.mp h
    obtain ⟨h4, h5⟩ := Bool.and_eq_true_iff.mp h
    have e1 := of_decide_eq_true h1
    subst e1
    obtain ⟨k0, k1, k2, k3, k5, rfl⟩ := slB_ok h2
    obtain ⟨nm, bs, mro, ns, qn, hd, sn, sub, ab, col, del⟩ := cd
    have e3 : mro = .ref C :: tail := of_decide_eq_true h3
    have e4 : del = false := by cases del <;> first | rfl | cases h4
    subst e3
    subst e4
    exact ⟨nm, qn, ns, bs, hd, sn, sub, ab, col, dd, k0, k1, k2, k3, k5, ho, h5⟩
  · cases h
def clsB (K : PySem.W.Frag) (C : Addr) (nm : Str) : Bool := objB K C [.type "object"] "object.__new__" fun cd => decide (cd.name = nm)
theorem clsB_ok {K : PySem.W.Frag} {C : Addr} {nm : Str} (h : clsB K C nm = true) : ClsO K C nm := by
  obtain ⟨nm', q, N, bs, hd, sn, sub, ab, col, dd, k0, k1, k2, k3, k5, e, h2⟩ := objB_ok h
  have z : nm' = nm := of_decide_eq_true h2
  subst z
  exact ⟨q, N, bs, hd, sn, sub, ab, col, dd, k0, k1, k2, k3, k5, _, e⟩
def eqB (K : PySem.W.Frag) (C f : Addr) : Bool := He.eqO (PySem.W.findIn K (.ref C) "__eq__") (some (some (.ref f))) && (PySem.W.isFn K (.ref f) &&
  objB K C [.type "object"] "object.__new__" fun cd => PySem.W.nsOkIn K cd.ns && (He.eqO (PySem.W.nsIn K cd.ns "__eq__") (some (some (.ref f))) && He.eqO (PySem.W.nsIn K cd.ns "__ne__") (some none)))
theorem eqB_ok {K : PySem.W.Frag} {C f : Addr} (h : eqB K C f = true) : EqC K C f := by
  obtain ⟨h1, h⟩ := Bool.and_eq_true_iff.mp h
  obtain ⟨h2, h⟩ := Bool.and_eq_true_iff.mp h
  obtain ⟨nm', q, N, bs, hd, sn, sub, ab, col, dd, k0, k1, k2, k3, k5, e, h3⟩ := objB_ok h
  obtain ⟨h3, h⟩ := Bool.and_eq_true_iff.mp h3
  obtain ⟨h4, h5⟩ := Bool.and_eq_true_iff.mp h
  exact ⟨He.eqO_ok h1, h2, nm', q, N, bs, hd, sn, sub, ab, col, dd, k0, k1, k2, k3, k5, _, e, h3, He.eqO_ok h4, He.eqO_ok h5⟩
def iscB (K : PySem.W.Frag) (C : Addr) : Bool := He.eqO (PySem.W.findIn K (.ref C) "__class__") (some (some (.builtin "object.__class__"))) && decide (PySem.W.mroIn K C (.type "object") = some true)
def gnB (K : PySem.W.Frag) : Bool := He.eqO (PySem.W.specialIn K (.builtin "object.__class__") "__get__") (some (some (.builtin "getset_descriptor.__get__"))) && decide (PySem.W.takesIn K (.builtin "object.__class__") = some true)
theorem iscB_ok {K : PySem.W.Frag} {C : Addr} (h : iscB K C = true) (c : Cls K C) (g : gnB K = true) : C8.InsC K C := by
  obtain ⟨h1, h2⟩ := Bool.and_eq_true_iff.mp h
  obtain ⟨g1, g2⟩ := Bool.and_eq_true_iff.mp g
  exact ⟨c, He.eqO_ok h1, He.eqO_ok g1, of_decide_eq_true g2, of_decide_eq_true h2, kit_self⟩
def veL (up : List Addr) : List Value := up.map Value.ref ++ [.type "ValueError", .type "Exception", .type "BaseException", .type "object"]
theorem veL_ok (up : List Addr) : PySem.HandSPX.refsVE (veL up) = true := by
  unfold veL
  induction up with
  | nil => rfl
  | cons a r ih => exact ih
def oexB (K : PySem.W.Frag) (C : Addr) (up : List Addr) : Bool := objB K C (veL up) "ValueError.__new__" (fun cd => cd.hasDict) && (He.eqO (PySem.W.findIn K (.ref C) "__setattr__") (some (some (.builtin "object.__setattr__"))) &&
  (decide (PySem.W.subIn K (.ref C) (.type "BaseException") = some true) && (decide (PySem.W.typeIn K (.ref C) = some (.type "type")) && PySem.W.keepIn K (.ref C))))
theorem oexB_ok {K : PySem.W.Frag} {C : Addr} {up : List Addr} (h : oexB K C up = true) : OexC K C := by
  obtain ⟨h1, h⟩ := Bool.and_eq_true_iff.mp h
  obtain ⟨h2, h⟩ := Bool.and_eq_true_iff.mp h
  obtain ⟨h3, h⟩ := Bool.and_eq_true_iff.mp h
  obtain ⟨h4, h5⟩ := Bool.and_eq_true_iff.mp h
  obtain ⟨nm', q, N, bs, hd, sn, sub, ab, col, dd, k0, k1, k2, k3, k5, e, h6⟩ := objB_ok h1
  have z : hd = true := h6
  subst z
  exact ⟨⟨nm', q, N, bs, _, sn, sub, ab, col, dd, k0, k1, k2, k3, k5, e, veL_ok up⟩, He.eqO_ok h2, of_decide_eq_true h3, of_decide_eq_true h4, h5⟩
end My
namespace My
open PySem L2

def top (i : Nat) : Stmt := PySem.Challenge.pw_roomleft_k87_bits_turned_dropped_and_put.main.body.getD i (.Pass ⟨0, 0, 0, 0⟩)
abbrev s_BadNumber___init__ : Stmt := inClass (top 3) 0
abbrev s_is_integer : Stmt := top 5
abbrev s_is_bits : Stmt := top 6
abbrev s_other_bit : Stmt := top 8
abbrev s_check_place : Stmt := top 9
abbrev s_turned : Stmt := top 10
abbrev s_dropped : Stmt := top 11
abbrev s_put : Stmt := top 12
abbrev s__law_is_int : Stmt := top 14
abbrev s__law_same : Stmt := top 15
abbrev s__law_is_bits : Stmt := top 16
abbrev s__law_start : Stmt := top 17
abbrev s__law_pull : Stmt := top 18
abbrev s__law_row : Stmt := top 19
abbrev s__law_outcome : Stmt := top 20
abbrev s__law_place : Stmt := top 21
abbrev s__law_one_due : Stmt := top 22
abbrev s__law_asked : Stmt := top 23
abbrev s_law : Stmt := top 24
structure Ad where
  f_BadNumber___init__ : Addr
  d_BadNumber___init__ : FuncData
  f_is_integer : Addr
  d_is_integer : FuncData
  f_is_bits : Addr
  d_is_bits : FuncData
  f_other_bit : Addr
  d_other_bit : FuncData
  f_check_place : Addr
  d_check_place : FuncData
  f_turned : Addr
  d_turned : FuncData
  f_dropped : Addr
  d_dropped : FuncData
  f_put : Addr
  d_put : FuncData
  f__law_is_int : Addr
  d__law_is_int : FuncData
  f__law_same : Addr
  d__law_same : FuncData
  f__law_is_bits : Addr
  d__law_is_bits : FuncData
  f__law_start : Addr
  d__law_start : FuncData
  f__law_pull : Addr
  d__law_pull : FuncData
  f__law_row : Addr
  d__law_row : FuncData
  f__law_outcome : Addr
  d__law_outcome : FuncData
  f__law_place : Addr
  d__law_place : FuncData
  f__law_one_due : Addr
  d__law_one_due : FuncData
  f__law_asked : Addr
  d__law_asked : FuncData
  f_law : Addr
  d_law : FuncData
  c_RoomError : Addr
  c_NoBits : Addr
  c_BadNumber : Addr
  tc : Addr
  tp : Addr
structure Txt (K : PySem.W.Frag) (mg : Str → Option Value) (A : Ad) : Prop where
  F_BadNumber___init__ : Fun K "__init__" "BadNumber.__init__" s_BadNumber___init__ A.f_BadNumber___init__ A.d_BadNumber___init__
  k_BadNumber___init__ : PySem.W.keepIn K (.ref A.f_BadNumber___init__) = true
  b_BadNumber___init__ : Binds K A.d_BadNumber___init__ ["self", "part"] []
  F_is_integer : Fun K "is_integer" "is_integer" s_is_integer A.f_is_integer A.d_is_integer
  k_is_integer : PySem.W.keepIn K (.ref A.f_is_integer) = true
  b_is_integer : Binds K A.d_is_integer ["thing"] []
  mg_is_integer : mg "is_integer" = some (.ref A.f_is_integer)
  F_is_bits : Fun K "is_bits" "is_bits" s_is_bits A.f_is_bits A.d_is_bits
  k_is_bits : PySem.W.keepIn K (.ref A.f_is_bits) = true
  b_is_bits : Binds K A.d_is_bits ["thing"] []
  mg_is_bits : mg "is_bits" = some (.ref A.f_is_bits)
  F_other_bit : Fun K "other_bit" "other_bit" s_other_bit A.f_other_bit A.d_other_bit
  k_other_bit : PySem.W.keepIn K (.ref A.f_other_bit) = true
  b_other_bit : Binds K A.d_other_bit ["bit"] []
  mg_other_bit : mg "other_bit" = some (.ref A.f_other_bit)
  F_check_place : Fun K "check_place" "check_place" s_check_place A.f_check_place A.d_check_place
  k_check_place : PySem.W.keepIn K (.ref A.f_check_place) = true
  b_check_place : Binds K A.d_check_place ["at", "many"] []
  mg_check_place : mg "check_place" = some (.ref A.f_check_place)
  F_turned : Fun K "turned" "turned" s_turned A.f_turned A.d_turned
  k_turned : PySem.W.keepIn K (.ref A.f_turned) = true
  b_turned : Binds K A.d_turned ["bits", "at"] []
  mg_turned : mg "turned" = some (.ref A.f_turned)
  F_dropped : Fun K "dropped" "dropped" s_dropped A.f_dropped A.d_dropped
  k_dropped : PySem.W.keepIn K (.ref A.f_dropped) = true
  b_dropped : Binds K A.d_dropped ["bits", "at"] []
  mg_dropped : mg "dropped" = some (.ref A.f_dropped)
  F_put : Fun K "put" "put" s_put A.f_put A.d_put
  k_put : PySem.W.keepIn K (.ref A.f_put) = true
  b_put : Binds K A.d_put ["bits", "at", "bit"] []
  mg_put : mg "put" = some (.ref A.f_put)
  F__law_is_int : Fun K "_law_is_int" "_law_is_int" s__law_is_int A.f__law_is_int A.d__law_is_int
  k__law_is_int : PySem.W.keepIn K (.ref A.f__law_is_int) = true
  b__law_is_int : Binds K A.d__law_is_int ["told"] []
  mg__law_is_int : mg "_law_is_int" = some (.ref A.f__law_is_int)
  F__law_same : Fun K "_law_same" "_law_same" s__law_same A.f__law_same A.d__law_same
  k__law_same : PySem.W.keepIn K (.ref A.f__law_same) = true
  b__law_same : Binds K A.d__law_same ["told", "due"] []
  mg__law_same : mg "_law_same" = some (.ref A.f__law_same)
  F__law_is_bits : Fun K "_law_is_bits" "_law_is_bits" s__law_is_bits A.f__law_is_bits A.d__law_is_bits
  k__law_is_bits : PySem.W.keepIn K (.ref A.f__law_is_bits) = true
  b__law_is_bits : Binds K A.d__law_is_bits ["told"] []
  mg__law_is_bits : mg "_law_is_bits" = some (.ref A.f__law_is_bits)
  F__law_start : Fun K "_law_start" "_law_start" s__law_start A.f__law_start A.d__law_start
  k__law_start : PySem.W.keepIn K (.ref A.f__law_start) = true
  b__law_start : Binds K A.d__law_start ["script"] []
  mg__law_start : mg "_law_start" = some (.ref A.f__law_start)
  F__law_pull : Fun K "_law_pull" "_law_pull" s__law_pull A.f__law_pull A.d__law_pull
  k__law_pull : PySem.W.keepIn K (.ref A.f__law_pull) = true
  b__law_pull : Binds K A.d__law_pull ["state", "many"] []
  mg__law_pull : mg "_law_pull" = some (.ref A.f__law_pull)
  F__law_row : Fun K "_law_row" "_law_row" s__law_row A.f__law_row A.d__law_row
  k__law_row : PySem.W.keepIn K (.ref A.f__law_row) = true
  b__law_row : Binds K A.d__law_row ["state", "many"] []
  mg__law_row : mg "_law_row" = some (.ref A.f__law_row)
  F__law_outcome : Fun K "_law_outcome" "_law_outcome" s__law_outcome A.f__law_outcome A.d__law_outcome
  k__law_outcome : PySem.W.keepIn K (.ref A.f__law_outcome) = true
  b__law_outcome : Binds K A.d__law_outcome ["call"] []
  mg__law_outcome : mg "_law_outcome" = some (.ref A.f__law_outcome)
  F__law_place : Fun K "_law_place" "_law_place" s__law_place A.f__law_place A.d__law_place
  k__law_place : PySem.W.keepIn K (.ref A.f__law_place) = true
  b__law_place : Binds K A.d__law_place ["thing", "many"] []
  mg__law_place : mg "_law_place" = some (.ref A.f__law_place)
  F__law_one_due : Fun K "_law_one_due" "_law_one_due" s__law_one_due A.f__law_one_due A.d__law_one_due
  k__law_one_due : PySem.W.keepIn K (.ref A.f__law_one_due) = true
  b__law_one_due : Binds K A.d__law_one_due ["bits", "at", "more", "good"] []
  mg__law_one_due : mg "_law_one_due" = some (.ref A.f__law_one_due)
  F__law_asked : Fun K "_law_asked" "_law_asked" s__law_asked A.f__law_asked A.d__law_asked
  k__law_asked : PySem.W.keepIn K (.ref A.f__law_asked) = true
  b__law_asked : Binds K A.d__law_asked ["bits", "at", "bit"] []
  mg__law_asked : mg "_law_asked" = some (.ref A.f__law_asked)
  F_law : Fun K "law" "law" s_law A.f_law A.d_law
  k_law : PySem.W.keepIn K (.ref A.f_law) = true
  b_law : Binds K A.d_law ["script"] []
  mg_law : mg "law" = some (.ref A.f_law)
  mg_RoomError : mg "RoomError" = some (.ref A.c_RoomError)
  te_RoomError : PySem.W.exmOne K (.ref A.c_RoomError) (.ref A.c_RoomError) = some true
  xo_RoomError : PySem.W.excIn K A.c_RoomError He.veBase "ValueError.__new__" = true ∧ PySem.W.keepIn K (.ref A.c_RoomError) = true ∧ PySem.W.subIn K (.ref A.c_RoomError) (.type "BaseException") = some true ∧ PySem.W.typeIn K (.ref A.c_RoomError) = some (.type "type")
  mg_NoBits : mg "NoBits" = some (.ref A.c_NoBits)
  te_NoBits : PySem.W.exmOne K (.ref A.c_NoBits) (.ref A.c_NoBits) = some true
  xo_NoBits : PySem.W.excIn K A.c_NoBits He.veBase "ValueError.__new__" = true ∧ PySem.W.keepIn K (.ref A.c_NoBits) = true ∧ PySem.W.subIn K (.ref A.c_NoBits) (.type "BaseException") = some true ∧ PySem.W.typeIn K (.ref A.c_NoBits) = some (.type "type")
  mg_BadNumber : mg "BadNumber" = some (.ref A.c_BadNumber)
  te_BadNumber : PySem.W.exmOne K (.ref A.c_BadNumber) (.ref A.c_BadNumber) = some true
  oex_BadNumber : OexC K A.c_BadNumber
  xf_BadNumber : XfC K A.c_BadNumber
  ix_BadNumber : PySem.W.findIn K (.ref A.c_BadNumber) "__init__" = some (some (.ref A.f_BadNumber___init__))
  tx_BadNumber : PySem.W.typeIn K (.ref A.f_BadNumber___init__) = some (.type "function")
  nx_BadNumber_part : PySem.W.findIn K (.ref A.c_BadNumber) "part" = some none
  b_ValueError : mg "ValueError" = none
  b_bool : mg "bool" = none
  b_dict : mg "dict" = none
  b_int : mg "int" = none
  b_isinstance : mg "isinstance" = none
  b_len : mg "len" = none
  b_list : mg "list" = none
  b_min : mg "min" = none
  b_range : mg "range" = none
  b_str : mg "str" = none
  b_tuple : mg "tuple" = none
  xd_NoBits : ExD K A.c_NoBits
  xd_BadNumber : ExD K A.c_BadNumber
  ki_NoBits_RoomError : PySem.W.kitOne K (.ref A.c_NoBits) (.ref A.c_RoomError) = some true
  ki_NoBits_BadNumber : PySem.W.kitOne K (.ref A.c_NoBits) (.ref A.c_BadNumber) = some false
  ki_BadNumber_RoomError : PySem.W.kitOne K (.ref A.c_BadNumber) (.ref A.c_RoomError) = some true
  ki_BadNumber_NoBits : PySem.W.kitOne K (.ref A.c_BadNumber) (.ref A.c_NoBits) = some false
  em_BN : PySem.W.exmOne K (.ref A.c_BadNumber) (.ref A.c_NoBits) = some false
  tcode : ∀ (oc : Value) (od : Option Addr) (fd : FuncData) (osl : Array (Option Value)) (c : Addr), K.lookup A.f__law_asked = some ⟨oc, od, .func fd, osl⟩ → fd.code = .ref c → A.tc = c
abbrev N_BadNumber___init__ : List Str := ["self", "part"]
theorem sc_BadNumber___init__ : FnScope ["self", "part"] ["self", "part"] (defScope s_BadNumber___init__) := ⟨rfl, rfl, rfl, by decide +kernel, rfl, by decide +kernel, by decide +kernel⟩
abbrev N_is_integer : List Str := ["thing"]
theorem sc_is_integer : FnScope ["thing"] ["thing"] (defScope s_is_integer) := ⟨rfl, rfl, rfl, by decide +kernel, rfl, by decide +kernel, by decide +kernel⟩
abbrev N_is_bits : List Str := ["thing", "sign"]
theorem sc_is_bits : FnScope ["thing", "sign"] ["thing"] (defScope s_is_bits) := ⟨rfl, rfl, rfl, by decide +kernel, rfl, by decide +kernel, by decide +kernel⟩
abbrev N_other_bit : List Str := ["bit"]
theorem sc_other_bit : FnScope ["bit"] ["bit"] (defScope s_other_bit) := ⟨rfl, rfl, rfl, by decide +kernel, rfl, by decide +kernel, by decide +kernel⟩
abbrev N_check_place : List Str := ["at", "many"]
theorem sc_check_place : FnScope ["at", "many"] ["at", "many"] (defScope s_check_place) := ⟨rfl, rfl, rfl, by decide +kernel, rfl, by decide +kernel, by decide +kernel⟩
abbrev N_turned : List Str := ["bits", "at"]
theorem sc_turned : FnScope ["bits", "at"] ["bits", "at"] (defScope s_turned) := ⟨rfl, rfl, rfl, by decide +kernel, rfl, by decide +kernel, by decide +kernel⟩
abbrev N_dropped : List Str := ["bits", "at"]
theorem sc_dropped : FnScope ["bits", "at"] ["bits", "at"] (defScope s_dropped) := ⟨rfl, rfl, rfl, by decide +kernel, rfl, by decide +kernel, by decide +kernel⟩
abbrev N_put : List Str := ["bits", "at", "bit"]
theorem sc_put : FnScope ["bits", "at", "bit"] ["bits", "at", "bit"] (defScope s_put) := ⟨rfl, rfl, rfl, by decide +kernel, rfl, by decide +kernel, by decide +kernel⟩
abbrev N__law_is_int : List Str := ["told"]
theorem sc__law_is_int : FnScope ["told"] ["told"] (defScope s__law_is_int) := ⟨rfl, rfl, rfl, by decide +kernel, rfl, by decide +kernel, by decide +kernel⟩
abbrev N__law_same : List Str := ["told", "due", "name", "k"]
theorem sc__law_same : FnScope ["told", "due", "name", "k"] ["told", "due"] (defScope s__law_same) := ⟨rfl, rfl, rfl, by decide +kernel, rfl, by decide +kernel, by decide +kernel⟩
abbrev N__law_is_bits : List Str := ["told", "sign"]
theorem sc__law_is_bits : FnScope ["told", "sign"] ["told"] (defScope s__law_is_bits) := ⟨rfl, rfl, rfl, by decide +kernel, rfl, by decide +kernel, by decide +kernel⟩
abbrev N__law_start : List Str := ["script"]
theorem sc__law_start : FnScope ["script"] ["script"] (defScope s__law_start) := ⟨rfl, rfl, rfl, by decide +kernel, rfl, by decide +kernel, by decide +kernel⟩
abbrev N__law_pull : List Str := ["state", "many", "cell", "number"]
theorem sc__law_pull : FnScope ["state", "many", "cell", "number"] ["state", "many"] (defScope s__law_pull) := ⟨rfl, rfl, rfl, by decide +kernel, rfl, by decide +kernel, by decide +kernel⟩
abbrev N__law_row : List Str := ["state", "many", "k"]
theorem sc__law_row : FnScope ["state", "many", "k"] ["state", "many"] (defScope s__law_row) := ⟨rfl, rfl, rfl, by decide +kernel, rfl, by decide +kernel, by decide +kernel⟩
abbrev N__law_outcome : List Str := ["call", "value", "e"]
theorem sc__law_outcome : FnScope ["call", "value", "e"] ["call"] (defScope s__law_outcome) := ⟨rfl, rfl, rfl, by decide +kernel, rfl, by decide +kernel, by decide +kernel⟩
abbrev N__law_place : List Str := ["thing", "many"]
theorem sc__law_place : FnScope ["thing", "many"] ["thing", "many"] (defScope s__law_place) := ⟨rfl, rfl, rfl, by decide +kernel, rfl, by decide +kernel, by decide +kernel⟩
abbrev N__law_one_due : List Str := ["bits", "at", "more", "good"]
theorem sc__law_one_due : FnScope ["bits", "at", "more", "good"] ["bits", "at", "more", "good"] (defScope s__law_one_due) := ⟨rfl, rfl, rfl, by decide +kernel, rfl, by decide +kernel, by decide +kernel⟩
abbrev N__law_asked : List Str := ["bits", "at", "bit", "one", "two", "three", "due", "other"]
theorem sc__law_asked : FnScope ["bits", "at", "bit", "one", "two", "three", "due", "other"] ["bits", "at", "bit"] (defScope s__law_asked) := ⟨rfl, rfl, rfl, by decide +kernel, rfl, by decide +kernel, by decide +kernel⟩
abbrev N_law : List Str := ["script", "state", "turn", "wrong", "many", "row", "bits", "k", "at", "bit", "odd", "far"]
theorem sc_law : FnScope ["script", "state", "turn", "wrong", "many", "row", "bits", "k", "at", "bit", "odd", "far"] ["script"] (defScope s_law) := ⟨rfl, rfl, rfl, by decide +kernel, rfl, by decide +kernel, by decide +kernel⟩
abbrev sp__law_start (K : PySem.W.Frag) (_ : Ad) : Sp := sp_start K

abbrev sp__law_pull (_ : PySem.W.Frag) (_ : Ad) : Sp := sp_pull
def oi : Option Int → V
  | some i => .int i
  | none => .non
def oiOf : V → Option Int
  | .int i => some i
  | _ => none
def intOf : V → Int
  | .int i => i
  | _ => 0
def strOf : V → Str
  | .str x => x
  | _ => Str.empty
/-! what is a name, a word, a width -/
def okBits : V → Bool
  | .str x => x.cps.toList.all fun c => decide (c = 48) || decide (c = 49)
  | _ => false
def okName : V → Bool
  | .str x => decide (1 ≤ x.length) && (decide (x.length ≤ 8) && x.cps.toList.all fun c => decide (97 ≤ c) && decide (c ≤ 122))
  | _ => false
def okWord (v : V) : Bool := okBits v && (decide (1 ≤ (strOf v).length) && decide ((strOf v).length ≤ 8))
def okW : V → Int → Bool
  | .non, _ => true
  | .int i, n => decide (1 ≤ i) && (decide (i ≤ 60) && decide (n ≤ 2 ^ i.toNat))
  | _, _ => false
theorem iteB {c : Bool} {P Q : Prop} (h1 : c = true → P) (h2 : c = false → Q) : if c = true then P else Q := by
  cases c
  · exact h2 rfl
  · exact h1 rfl
theorem not_t {b : Bool} (h : (!b) = true) : b = false := by cases b <;> first | rfl | cases h
theorem not_f {b : Bool} (h : (!b) = false) : b = true := by cases b <;> first | rfl | cases h
theorem sign_dec {c n : Nat} {s : Str} (h : s = ⟨#[n]⟩) : decide (V.str ⟨#[c]⟩ = V.str s) = decide (c = n) := by
  subst h
  by_cases e : c = n
  · subst e; simp
  · rw [decide_eq_false e, decide_eq_false]
    intro z
    injection z with z
    injection z with z
    exact e (by simpa using z)
theorem sgn0 : (Str.ofString "0") = ⟨#[48]⟩ := by decide +kernel
theorem sgn1 : (Str.ofString "1") = ⟨#[49]⟩ := by decide +kernel
/-- a text that is not too long for len -/
def Short (v : V) : Prop := (strOf v).length ≤ 1000000
theorem short_le {x : Str} (h : Short (.str x)) : x.length ≤ sizeLine := by
  rw [sizeLine_eq]
  have : x.length ≤ 1000000 := h
  omega
theorem str_of {K : PySem.W.Frag} {H : Hp} {v : V} {t : Value} (h : VT K H v t) (e : isa t (.type "str") = true) : ∃ x, v = .str x := by
  rw [← isS_of h] at e
  cases v <;> first | exact ⟨_, rfl⟩ | cases e
theorem nstr_of {K : PySem.W.Frag} {H : Hp} {v : V} {t : Value} (h : VT K H v t) (e : isa t (.type "str") = false) : okBits v = false ∧ okName v = false := by
  rw [← isS_of h] at e
  cases v <;> first | exact ⟨rfl, rfl⟩ | cases e
theorem take_all {l : List Nat} {f : Nat → Bool} {i c : Nat} (h : (l.take i).all f = true) (hc : l[i]? = some c) (hf : f c = true) : (l.take (i + 1)).all f = true := by
  rw [List.take_succ, hc, List.all_append, h]
  simp [hf]
theorem not_all {l : List Nat} {f : Nat → Bool} {i c : Nat} (hc : l[i]? = some c) (hf : f c = false) : l.all f = false := by
  rw [Bool.eq_false_iff]
  intro z
  have := List.all_eq_true.mp z c (List.mem_of_getElem? hc)
  rw [hf] at this
  cases this
theorem full_all {x : Str} {f : Nat → Bool} (h : (x.cps.toList.take x.cps.size).all f = true) : x.cps.toList.all f = true := by
  rw [← Array.length_toList, List.take_length] at h
  exact h
theorem abc_mem (c : Nat) : decide (c ∈ (Str.ofString "abcdefghijklmnopqrstuvwxyz").cps.toList) = (decide (97 ≤ c) && decide (c ≤ 122)) := by
  rw [abc_eq]
  by_cases h : 97 ≤ c ∧ c ≤ 122
  · obtain ⟨h1, h2⟩ := h
    rw [decide_eq_true h1, decide_eq_true h2]
    have : c = 97 ∨ c = 98 ∨ c = 99 ∨ c = 100 ∨ c = 101 ∨ c = 102 ∨ c = 103 ∨ c = 104 ∨ c = 105 ∨ c = 106 ∨ c = 107 ∨ c = 108 ∨ c = 109 ∨ c = 110 ∨ c = 111 ∨ c = 112 ∨ c = 113 ∨ c = 114 ∨ c = 115 ∨ c = 116 ∨ c = 117 ∨ c = 118 ∨ c = 119 ∨ c = 120 ∨ c = 121 ∨ c = 122 := by omega
    rw [decide_eq_true (by simpa using this)]
    rfl
  · rw [decide_eq_false]
    · by_cases h1 : 97 ≤ c
      · rw [decide_eq_true h1, decide_eq_false fun h2 => h ⟨h1, h2⟩]; rfl
      · rw [decide_eq_false h1]; rfl
    · intro z
      have := abc_letter c z
      exact h this
theorem intOf_isI {v : V} (h : isI v = true) : v = .int (intOf v) := by
  cases v <;> first | rfl | cases h
theorem same_new {H : Hp} {p : Addr} {o : HO} (h : H p = none) : Same H (upd H p o) := fun b u e => by rw [upd_ne (ne_of_none e h)]; exact e
theorem same_put {H0 H : Hp} {x : Addr} {o : HO} (no : H0 x = none) (s : Same H0 H) : Same H0 (upd H x o) := fun b u e => by rw [upd_ne (ne_of_none e no)]; exact s b u e
theorem nI {i : Int} : ¬ isI (.int i) = false := fun z => nomatch z
theorem int_ex {v : V} (h : isI v = true) : ∃ i, v = .int i := by cases v <;> first | exact ⟨_, rfl⟩ | cases h
theorem iteY {P Q : Prop} (h : P) : if true = true then P else Q := by rw [if_pos rfl]; exact h
theorem dI {a b : Int} : decide (V.int a = V.int b) = decide (a = b) := decide_eq_decide.mpr ⟨fun h => by injection h, fun h => by rw [h]⟩
theorem dS {a b : Str} : decide (V.str a = V.str b) = decide (a = b) := decide_eq_decide.mpr ⟨fun h => by injection h, fun h => by rw [h]⟩

abbrev sp_is_integer (K : PySem.W.Frag) (_ : Ad) : Sp := Sp1 fun v H Q _ => ∃ t, VT K H v t ∧ Q (.bl (isI v)) H
abbrev sp_is_bits (K : PySem.W.Frag) (_ : Ad) : Sp := Sp1 fun v H Q _ => ∃ t, VT K H v t ∧ Q (.bl (okBits v)) H
abbrev sp_BadNumber___init__ (_ : PySem.W.Frag) (A : Ad) : Sp := sp_exc1 A.c_BadNumber "part"
def flipS (c : Nat) : Str := if c = 48 then "1" else "0"
def slen (v : V) : Int := ((strOf v).length : Nat)
def okAt (v : V) (n : Int) : Bool := isI v && (decide (0 ≤ intOf v) && decide (intOf v < n))
inductive Out where
  | none
  | num
  | told (x : Str)
def outT : Out → List V
  | .none => [.str "none", .bl true]
  | .num => [.str "number", .str "at", .bl true]
  | .told x => [.str "told", .str x]
def endO (A : Ad) (o : Out) (H : Hp) (Q : VK) (E : XK) : Prop := match o with
  | .none => ∀ H', Same H H' → E (.ref A.c_NoBits) Option.none H'
  | .num => ∀ (H' : Hp) (d : Addr), Same H H' → H' d = some (.xd [("part", .str "at")]) → E (.ref A.c_BadNumber) (some d) H'
  | .told x => Q (.str x) H
def signAt (x : Str) (i : Int) : Nat := x.cps.toList.getD i.toNat 48
def turnS (x : Str) (i : Int) : Str := cutS x none (some i) ++ flipS (signAt x i) ++ cutS x (some (i + 1)) none
def dropS (x : Str) (i : Int) : Str := cutS x none (some i) ++ cutS x (some (i + 1)) none
def putS (x : Str) (i : Int) (y : Str) : Str := cutS x none (some i) ++ y ++ cutS x (some i) none
def oneBit (v : V) : Bool := okBits v && decide ((strOf v).length = 1)
def turnO (b a : V) : Out := if okBits b = false then .none else if okAt a (slen b) = false then .num else .told (turnS (strOf b) (intOf a))
def dropO (b a : V) : Out := if okBits b = false then .none else if okAt a (slen b) = false then .num else .told (dropS (strOf b) (intOf a))
def putO (b a c : V) : Out := if okBits b = false then .none else if okAt a (slen b + 1) = false then .num else if oneBit c = false then .none else .told (putS (strOf b) (intOf a) (strOf c))
abbrev sp_other_bit (_ : PySem.W.Frag) (_ : Ad) : Sp := Sp1 fun v H Q _ => ∃ c, v = .str ⟨#[c]⟩ ∧ (c = 48 ∨ c = 49) ∧ Q (.str (flipS c)) H
abbrev sp_check_place (K : PySem.W.Frag) (A : Ad) : Sp := Sp2 fun a m H Q E => ∃ t n, VT K H a t ∧ m = .int n ∧ (okAt a n = true → Q .non H) ∧ (okAt a n = false → ∀ (H' : Hp) (d : Addr), Same H H' → H' d = some (.xd [("part", .str "at")]) → E (.ref A.c_BadNumber) (some d) H')
abbrev sp_turned (K : PySem.W.Frag) (A : Ad) : Sp := Sp2 fun b a H Q E => ∃ tb ta, VT K H b tb ∧ VT K H a ta ∧ Short b ∧ endO A (turnO b a) H Q E
abbrev sp_dropped (K : PySem.W.Frag) (A : Ad) : Sp := Sp2 fun b a H Q E => ∃ tb ta, VT K H b tb ∧ VT K H a ta ∧ Short b ∧ endO A (dropO b a) H Q E
abbrev sp_put (K : PySem.W.Frag) (A : Ad) : Sp := Sp3 fun b a c H Q E => ∃ tb ta tc, VT K H b tb ∧ VT K H a ta ∧ VT K H c tc ∧ Short b ∧ Short c ∧ endO A (putO b a c) H Q E
abbrev sp__law_is_int (K : PySem.W.Frag) (_ : Ad) : Sp := Sp1 fun v H Q _ => ∃ t, VT K H v t ∧ Q (.bl (isI v)) H
abbrev sp__law_is_bits (K : PySem.W.Frag) (_ : Ad) : Sp := Sp1 fun v H Q _ => ∃ t, VT K H v t ∧ Short v ∧ ∀ H', Same H H' → Q (.bl (okBits v)) H'
abbrev sp__law_place (K : PySem.W.Frag) (_ : Ad) : Sp := Sp2 fun v m H Q _ => ∃ t n, VT K H v t ∧ m = .int n ∧ Q (.bl (okAt v n)) H
def dueO (b a : V) (n : Int) (g : Bool) : Option Out := if okBits b = false then some .none else if okAt a (slen b + n) = false then some .num else if g = false then some .none else none
abbrev sp__law_one_due (K : PySem.W.Frag) (_ : Ad) : Sp := Sp4 fun b a m g H Q _ => ∃ tb ta n gb, VT K H b tb ∧ VT K H a ta ∧ Short b ∧ m = .int n ∧ g = .bl gb ∧ match dueO b a n gb with
  | none => ∀ H', Same H H' → Q .non H'
  | some o => ∀ q H', Same H H' → H' q = some (.tup (outT o)) → Q (.ref q) H'
def Atom : V → Prop
  | .non => True
  | .bl _ => True
  | .int _ => True
  | .str _ => True
  | _ => False
abbrev sp__law_same0 (_ : PySem.W.Frag) (_ : Ad) : Sp := Sp2 fun v w H Q _ => v = w ∧ Atom v ∧ Q (.bl true) H
abbrev sp__law_same (_ : PySem.W.Frag) (_ : Ad) : Sp := Sp2 fun v w H Q _ => ∃ p q xs, v = .ref p ∧ w = .ref q ∧ H p = some (.tup xs) ∧ H q = some (.tup xs) ∧ (∀ x ∈ xs, Atom x) ∧ xs.length ≤ 10 ∧ Q (.bl true) H
abbrev sp__law_row (_ : PySem.W.Frag) (_ : Ad) : Sp := sp_text bit
abbrev TT (A : Ad) : List (Addr × Str) := [(A.tp, "_law_asked.<locals>.<lambda>")]
abbrev sp__law_asked (K : PySem.W.Frag) (A : Ad) : Sp := Sp3 fun b a c H Q _ => ∃ tb ta tc, VT K H b tb ∧ VT K H a ta ∧ VT K H c tc ∧ (strOf b).length ≤ 5000 ∧ (strOf c).length ≤ 5000 ∧ LamX.Tabs (TT A) H ∧ ∀ H', LamX.ExtN H H' → LamX.Tabs (TT A) H' → Q (.bl true) H'
abbrev sp_law (K : PySem.W.Frag) (A : Ad) : Sp := Sp1 fun a H Q _ => ∃ (l : Addr) (ns : List Int), a = .ref l ∧ SqL K H l (ns.map V.int) ∧ ns.length ≤ 63 ∧ LamX.Tabs (TT A) H ∧ ∀ H', Q (.bl true) H'

theorem raise_num {A : Ad} {H0 H : Hp} {p : Str} {E : XK} (sm : Same H0 H) (k : ∀ (H' : Hp) (d : Addr), Same H0 H' → H' d = some (.xd [("part", .str p)]) → E (.ref A.c_BadNumber) (some d) H') : ([V.str p] : List V).length ≤ 1000 ∧ ∀ a, H a = none →
    sp_exc1 A.c_BadNumber "part" (.ref a :: ([V.str p] ++ [])) (upd H a (exo a A.c_BadNumber none)) (fun u H2 => u = .non ∧ ∃ (d : Addr) (fs : List (Str × V)), H2 a = some (exo a A.c_BadNumber (some d)) ∧ H2 d = some (exd d fs) ∧ H d = none ∧ E (.ref A.c_BadNumber) (some d) (upd (L2.del H2 a) d (.xd fs))) (fun _ _ _ => False) :=
  mk_exc1 fun d hd => k _ d (sm.trans (same_new hd)) upd_same
theorem okBits_str {v : V} (h : okBits v = true) : ∃ x, v = .str x := by cases v <;> first | exact ⟨_, rfl⟩ | cases h
theorem short_cat {a b : Str} (h1 : a.length ≤ 1000000) (h2 : b.length ≤ 1000000) : a.length + b.length ≤ sizeLine := by rw [sizeLine_eq]; omega
theorem cut_le {z : Str} {lo hi : Option Int} {n : Nat} (h : z.length ≤ n) : (cutS z lo hi).length ≤ n := Nat.le_trans (cutS_length z lo hi) h
theorem app_le {a b : Str} {n m : Nat} (h1 : a.length ≤ n) (h2 : b.length ≤ m) : (a ++ b).length ≤ n + m := by
  rw [PySem.Str.length_append]
  omega
theorem flip_len (c : Nat) : (flipS c).length = 1 := by
  unfold flipS
  split <;> decide +kernel
theorem big_le {n m : Nat} (h : n ≤ m) (h2 : m ≤ 10000000) : n ≤ sizeLine := by rw [sizeLine_eq]; omega
theorem okAt_int {v : V} {n : Int} (h : okAt v n = true) : ∃ i, v = .int i ∧ 0 ≤ i ∧ i < n := by
  unfold okAt at h
  cases v <;> first | cases h | skip
  rename_i i
  have h : (decide (0 ≤ i) && decide (i < n)) = true := h
  rw [Bool.and_eq_true] at h
  exact ⟨i, rfl, of_decide_eq_true h.1, of_decide_eq_true h.2⟩
theorem sign_at {x : Str} {i : Int} (h0 : 0 ≤ i) (h1 : i < (x.length : Nat)) : atI x.cps.toList i = some (signAt x i) := by
  obtain ⟨n, rfl⟩ := Int.eq_ofNat_of_zero_le h0
  have hl : n < x.cps.toList.length := by
    have e : x.length = x.cps.toList.length := by simp [Str.length]
    omega
  unfold signAt
  rw [Int.toNat_natCast, List.getD_eq_getElem?_getD, List.getElem?_eq_getElem hl]
  exact atI_nat (by simp [hl])
theorem bit_at {x : Str} {i : Int} (hb : okBits (.str x) = true) (h0 : 0 ≤ i) (h1 : i < (x.length : Nat)) : signAt x i = 48 ∨ signAt x i = 49 := by
  obtain ⟨n, rfl⟩ := Int.eq_ofNat_of_zero_le h0
  have hl : n < x.cps.toList.length := by
    have e : x.length = x.cps.toList.length := by simp [Str.length]
    omega
  unfold signAt
  rw [Int.toNat_natCast, List.getD_eq_getElem?_getD, List.getElem?_eq_getElem hl]
  have hb : (x.cps.toList.all fun c => decide (c = 48) || decide (c = 49)) = true := hb
  have := List.all_eq_true.mp hb _ (List.getElem_mem hl)
  simpa using this

theorem str1_beq (n c : Nat) : ((⟨#[n]⟩ : Str) == ⟨#[c]⟩) = decide (c = n) := by
  by_cases e : c = n
  · subst e; simp
  · rw [decide_eq_false e, beq_eq_false_iff_ne]
    intro z
    injection z with z
    exact e (by simpa using z.symm)
theorem inV_bits (c : Nat) : inV (.str ⟨#[c]⟩) [.str "0", .str "1"] = (decide (c = 48) || decide (c = 49)) := by
  show ((Str.ofString "0" == ⟨#[c]⟩) || ((Str.ofString "1" == ⟨#[c]⟩) || false)) = _
  rw [sgn0, sgn1, str1_beq, str1_beq, Bool.or_false]
theorem all_take {l : List Nat} {f : Nat → Bool} {i c : Nat} (hc : l[i]? = some c) : (l.take (i + 1)).all f = ((l.take i).all f && f c) := by
  rw [List.take_succ, hc, List.all_append]
  simp

/-! what the law asks of the texts -/
theorem tl_lo (x : Str) (i : Nat) : TL.tl (cutS x none (some (i : Int))) = (TL.tl x).take i := by
  show ((TL.tl x).drop (HT.sIx x.length 0 none)).take (HT.sIx x.length x.length (some (i : Int)) - HT.sIx x.length 0 none) = _
  rw [HT.sIx_none, HT.sIx_nat, List.drop_zero, Nat.sub_zero, TL.len_tl]
  by_cases h : i ≤ (TL.tl x).length
  · rw [Nat.min_eq_left h]
  · rw [Nat.min_eq_right (by omega), List.take_length, List.take_of_length_le (by omega)]
theorem tl_hi (x : Str) (i : Nat) : TL.tl (cutS x (some (i : Int)) none) = (TL.tl x).drop i := by
  show ((TL.tl x).drop (HT.sIx x.length 0 (some (i : Int)))).take (HT.sIx x.length x.length none - HT.sIx x.length 0 (some (i : Int))) = _
  rw [HT.sIx_none, HT.sIx_nat, TL.len_tl]
  by_cases h : i ≤ (TL.tl x).length
  · rw [Nat.min_eq_left h, List.take_of_length_le (by rw [List.length_drop]; omega)]
  · rw [Nat.min_eq_right (by omega), List.drop_eq_nil_of_le (Nat.le_refl _), List.drop_eq_nil_of_le (by omega), List.take_nil]
theorem flip_tl (c : Nat) : TL.tl (flipS c) = [if c = 48 then 49 else 48] := by
  unfold flipS
  split <;> decide +kernel
theorem tl_turn (x : Str) (i : Nat) (h : i < (TL.tl x).length) : TL.tl (turnS x (i : Int)) = (TL.tl x).set i (if (TL.tl x)[i] = 48 then 49 else 48) := by
  unfold turnS
  rw [TL.tl_append, TL.tl_append, tl_lo, flip_tl, show ((i : Int) + 1) = ((i + 1 : Nat) : Int) from rfl, tl_hi]
  have e : signAt x (i : Int) = (TL.tl x)[i] := by
    unfold signAt
    rw [Int.toNat_natCast, List.getD_eq_getElem?_getD, List.getElem?_eq_getElem h]
    rfl
  rw [e, List.set_eq_take_append_cons_drop, if_pos h, List.append_assoc]
  rfl
theorem tl_drop (x : Str) (i : Nat) : TL.tl (dropS x (i : Int)) = (TL.tl x).take i ++ (TL.tl x).drop (i + 1) := by
  unfold dropS
  rw [TL.tl_append, tl_lo, show ((i : Int) + 1) = ((i + 1 : Nat) : Int) from rfl, tl_hi]
theorem tl_put (x y : Str) (i : Nat) : TL.tl (putS x (i : Int) y) = (TL.tl x).take i ++ TL.tl y ++ (TL.tl x).drop i := by
  unfold putS
  rw [TL.tl_append, TL.tl_append, tl_lo, tl_hi]
def bitL (l : List Nat) : Bool := l.all fun c => decide (c = 48) || decide (c = 49)
theorem okb (x : Str) : okBits (.str x) = bitL (TL.tl x) := rfl
theorem bitL_app (a b : List Nat) : bitL (a ++ b) = (bitL a && bitL b) := List.all_append
theorem bitL_sub {a b : List Nat} (h : bitL b = true) (s : ∀ c ∈ a, c ∈ b) : bitL a = true := List.all_eq_true.mpr fun c hc => List.all_eq_true.mp h c (s c hc)
theorem bitL_set {l : List Nat} {i c : Nat} (h : bitL l = true) (hc : c = 48 ∨ c = 49) : bitL (l.set i c) = true := List.all_eq_true.mpr fun d hd => by
  rcases List.mem_or_eq_of_mem_set hd with z | z
  · exact List.all_eq_true.mp h d z
  · subst z
    rcases hc with rfl | rfl <;> rfl
theorem flip2 {c : Nat} (h : c = 48 ∨ c = 49) : (if (if c = 48 then 49 else 48) = 48 then 49 else 48) = c := by rcases h with rfl | rfl <;> rfl
structure Good (x : Str) (i : Nat) : Prop where
  b : bitL (TL.tl x) = true
  i : i < (TL.tl x).length
section
variable {x : Str} {i : Nat}
theorem Good.bit (g : Good x i) : (TL.tl x)[i]'g.i = 48 ∨ (TL.tl x)[i]'g.i = 49 := by
  have := List.all_eq_true.mp g.b _ (List.getElem_mem g.i)
  simpa using this
theorem Good.t1 (g : Good x i) : turnO (.str x) (.int i) = .told (turnS x i) := (if_neg (by rw [okb, g.b]; decide)).trans (if_neg (by
  rw [show okAt (.int (i : Int)) (slen (.str x)) = (decide ((0 : Int) ≤ i) && decide ((i : Int) < ((x.length : Nat) : Int))) from rfl, decide_eq_true (by omega), decide_eq_true (by rw [TL.len_tl]; have := g.i; omega)]
  decide))
theorem Good.d1 (g : Good x i) : dropO (.str x) (.int i) = .told (dropS x i) := (if_neg (by rw [okb, g.b]; decide)).trans (if_neg (by
  rw [show okAt (.int (i : Int)) (slen (.str x)) = (decide ((0 : Int) ≤ i) && decide ((i : Int) < ((x.length : Nat) : Int))) from rfl, decide_eq_true (by omega), decide_eq_true (by rw [TL.len_tl]; have := g.i; omega)]
  decide))
theorem Good.t2 (g : Good x i) : turnO (.str (turnS x i)) (.int i) = .told x := by
  have hc : (if (TL.tl x)[i]'g.i = 48 then 49 else 48) = 48 ∨ (if (TL.tl x)[i]'g.i = 48 then 49 else 48) = 49 := by split <;> simp
  have e := tl_turn x i g.i
  have g2 : Good (turnS x i) i := ⟨by rw [e]; exact bitL_set g.b hc, by rw [e, List.length_set]; exact g.i⟩
  rw [g2.t1]
  congr 1
  refine TL.ext_tl ?_
  rw [tl_turn _ _ g2.i]
  simp only [e, List.getElem_set_self, List.set_set]
  rw [flip2 g.bit, List.set_getElem_self]
theorem put_good {x y : Str} {i : Nat} (hx : bitL (TL.tl x) = true) (hi : i ≤ (TL.tl x).length) (hy : oneBit (.str y) = true) : putO (.str x) (.int i) (.str y) = .told (putS x i y) :=
  (if_neg (by rw [okb, hx]; decide)).trans ((if_neg (by
  rw [show okAt (.int (i : Int)) (slen (.str x) + 1) = (decide ((0 : Int) ≤ i) && decide ((i : Int) < ((x.length : Nat) : Int) + 1)) from rfl, decide_eq_true (by omega), decide_eq_true (by rw [TL.len_tl]; omega)]
  decide)).trans (if_neg (by rw [hy]; decide)))
theorem one_bit {c : Nat} (h : c = 48 ∨ c = 49) : oneBit (.str ⟨#[c]⟩) = true := by rcases h with rfl | rfl <;> decide
theorem Good.pd (g : Good x i) : putO (.str (dropS x i)) (.int i) (.str ⟨#[(TL.tl x)[i]'g.i]⟩) = .told x := by
  have e := tl_drop x i
  have hl := g.i
  rw [put_good (by rw [e]; exact bitL_sub g.b fun c hc => (List.mem_append.mp hc).elim List.mem_of_mem_take List.mem_of_mem_drop) (by rw [e, List.length_append, List.length_take]; omega) (one_bit g.bit)]
  congr 1
  refine TL.ext_tl ?_
  rw [tl_put, e, List.take_append_of_le_length (by rw [List.length_take]; omega), List.take_take, Nat.min_self, List.drop_append, List.length_take, Nat.min_eq_left (by omega), Nat.sub_self, List.drop_zero, List.drop_eq_nil_of_le (by rw [List.length_take]; omega), List.nil_append]
  show (TL.tl x).take i ++ [(TL.tl x)[i]] ++ (TL.tl x).drop (i + 1) = _
  rw [List.append_assoc, List.singleton_append, ← List.drop_eq_getElem_cons hl, List.take_append_drop]
theorem dropput {x y : Str} {i : Nat} (hx : bitL (TL.tl x) = true) (hi : i ≤ (TL.tl x).length) (hy : oneBit (.str y) = true) : dropO (.str (putS x i y)) (.int i) = .told x := by
  have e := tl_put x y i
  have y1 : (TL.tl y).length = 1 := by
    unfold oneBit at hy
    rw [Bool.and_eq_true] at hy
    have := of_decide_eq_true hy.2
    rw [← TL.len_tl]
    exact this
  have yb : bitL (TL.tl y) = true := by
    unfold oneBit at hy
    rw [Bool.and_eq_true] at hy
    exact hy.1
  have hl : (TL.tl (putS x i y)).length = (TL.tl x).length + 1 := by
    rw [e, List.length_append, List.length_append, List.length_take, List.length_drop, y1]
    omega
  have g2 : Good (putS x i y) i := ⟨by
    rw [e, bitL_app, bitL_app, yb, bitL_sub hx fun c hc => List.mem_of_mem_take hc, bitL_sub hx fun c hc => List.mem_of_mem_drop hc]
    rfl, by rw [hl]; omega⟩
  rw [g2.d1]
  congr 1
  refine TL.ext_tl ?_
  rw [tl_drop, e, List.append_assoc, List.take_append_of_le_length (by rw [List.length_take]; omega), List.take_take, Nat.min_self]
  congr 1 <;> rw [List.drop_append, List.length_take, Nat.min_eq_left hi, List.drop_eq_nil_of_le (by rw [List.length_take]; omega), List.nil_append, List.drop_append, List.drop_eq_nil_of_le (by omega), List.nil_append, List.drop_drop]
  rw [y1, show i + (i + 1 - i - 1) = i by omega, List.take_append_drop]
end

theorem act_weak {X : Cx} {e : Expr} {W : WX} {n : Nat} {R : XK → L2.St → Hp → VK → Prop} (h : ∀ E : XK, (∀ cls d z H', E cls d H' → List.length z = n → W cls d z H') → PE X e (R E)) :
    PE X e (fun z H Q => ∃ (E : XK) (Qn : VK), (∀ cls d H', E cls d H' → ∀ z : L2.St, List.length z = n → W cls d z H') ∧ (∀ v H1, Qn v H1 → Q v H1) ∧ R E z H Qn) :=
  ⟨fun pins s z H Q I ⟨E, Qn, h1, h2, h3⟩ => thn ((h E fun cls d z H' he hl => h1 cls d H' he z hl).run pins s z H Qn I h3) fun u s1 ⟨v, H1, I1, r, q⟩ => ⟨v, H1, I1, r, h2 _ _ q⟩⟩
theorem rel_ref {a : Addr} : ∀ u, RelV (.ref a) u → u = .ref a := fun u r => by cases r; rfl
theorem VT.ext {K : PySem.W.Frag} {H H' : Hp} {v : V} {t : Value} (h : VT K H v t) (e : LamX.ExtN H H') : VT K H' v t := by
  cases h with
  | non => exact .non
  | bl b => exact .bl b
  | int i => exact .int i
  | str x => exact .str x
  | lst h => exact .lst (e _ _ h fun ps z => by cases z)
  | tup h => exact .tup (e _ _ h fun ps z => by cases z)
  | dK h => exact .dK (e _ _ h fun ps z => by cases z)
  | ins h c o => exact .ins (e _ _ h fun ps z => by cases z) c o
abbrev XLp : Type := XK → Hp → VK → Prop
/-- what the outcome makes of a lambda's reading -/
def TTo (A : Ad) : XLp → Hp → VK → Prop := fun tl H Q => tl (fun cls d H' => (cls = .ref A.c_NoBits ∧ d = none ∧ ∀ p, H' p = none → Q (.ref p) (upd H' p (.tup (outT .none)))) ∨
  (cls = .ref A.c_BadNumber ∧ ∃ dd, d = some dd ∧ H' dd = some (.xd [("part", .str "at")]) ∧ ∀ p, H' p = none → Q (.ref p) (upd H' p (.tup (outT .num))))) H (fun v H1 => ∀ p, H1 p = none → Q (.ref p) (upd H1 p (.tup [.str "told", v])))

theorem endo_o {A : Ad} {o : Out} {H : Hp} {Q : VK} (k : ∀ p H', Same H H' → H' p = some (.tup (outT o)) → Q (.ref p) H') :
    endO A o H (fun v H1 => ∀ p, H1 p = none → Q (.ref p) (upd H1 p (.tup [.str "told", v]))) (fun cls d H' => (cls = .ref A.c_NoBits ∧ d = none ∧ ∀ p, H' p = none → Q (.ref p) (upd H' p (.tup (outT .none)))) ∨
      (cls = .ref A.c_BadNumber ∧ ∃ dd, d = some dd ∧ H' dd = some (.xd [("part", .str "at")]) ∧ ∀ p, H' p = none → Q (.ref p) (upd H' p (.tup (outT .num))))) := by
  cases o with
  | none => exact fun H' e => .inl ⟨rfl, rfl, fun p hp => k p _ (e.trans (same_new hp)) upd_same⟩
  | num => exact fun H' d e hd => .inr ⟨rfl, d, rfl, hd, fun p hp => k p _ (e.trans (same_new hp)) upd_same⟩
  | told x => exact fun p hp => k p _ (same_new hp) upd_same

theorem tto_of {A : Ad} {o : Out} {H : Hp} {Q : VK} {tl : XLp} (h : ∀ (Q : VK) (E : XK), endO A o H Q E → tl E H Q) (k : ∀ p H', Same H H' → H' p = some (.tup (outT o)) → Q (.ref p) H') : TTo A tl H Q := h _ _ (endo_o k)

structure S3 (A : Ad) (K : PySem.W.Frag) (H0 : Hp) (b a c : V) (tb ta tc : Value) (q1 q2 q3 : Addr) (H : Hp) : Prop where
  x : LamX.ExtN H0 H
  t : LamX.Tabs (TT A) H
  h1 : H q1 = some (.tup (outT (turnO b a)))
  h2 : H q2 = some (.tup (outT (dropO b a)))
  h3 : H q3 = some (.tup (outT (putO b a c)))
  vb : VT K H b tb
  va : VT K H a ta
  vc : VT K H c tc
theorem S3.same {A : Ad} {K : PySem.W.Frag} {H0 H H' : Hp} {b a c : V} {tb ta tc : Value} {q1 q2 q3 : Addr} (s : S3 A K H0 b a c tb ta tc q1 q2 q3 H) (e : Same H H') : S3 A K H0 b a c tb ta tc q1 q2 q3 H' :=
  ⟨s.x.trans (LamX.ExtN.of e), s.t.ext e, e _ _ s.h1, e _ _ s.h2, e _ _ s.h3, s.vb.keep (KK.same e), s.va.keep (KK.same e), s.vc.keep (KK.same e)⟩
def Due0 (b a v : V) (H : Hp) : Prop := (∃ o q, v = .ref q ∧ H q = some (.tup (outT o)) ∧ turnO b a = o ∧ dropO b a = o) ∨ (v = .non ∧ ∃ (x : Str) (i : Nat), b = .str x ∧ a = .int i ∧ Good x i)
def Due1 (b a c v : V) (H : Hp) : Prop := (∃ o q, v = .ref q ∧ H q = some (.tup (outT o)) ∧ putO b a c = o) ∨ (v = .non ∧ ∃ (x y : Str) (i : Nat), b = .str x ∧ a = .int i ∧ c = .str y ∧ bitL (TL.tl x) = true ∧ i ≤ (TL.tl x).length ∧ oneBit c = true)
theorem good_of {x : Str} {i : Int} (hb : okBits (.str x) = true) (h0 : 0 ≤ i) (h1 : i < (x.length : Nat)) : ∃ n : Nat, i = n ∧ Good x n := by
  obtain ⟨n, rfl⟩ := Int.eq_ofNat_of_zero_le h0
  exact ⟨n, rfl, hb, by rw [← TL.len_tl]; omega⟩
theorem due_0 (b a : V) : (∃ o, dueO b a 0 true = some o ∧ turnO b a = o ∧ dropO b a = o) ∨ (dueO b a 0 true = none ∧ ∃ (x : Str) (i : Nat), b = .str x ∧ a = .int i ∧ Good x i) := by
  unfold dueO turnO dropO
  rw [Int.add_zero]
  by_cases h1 : okBits b = false
  · exact .inl ⟨.none, if_pos h1, if_pos h1, if_pos h1⟩
  by_cases h2 : okAt a (slen b) = false
  · exact .inl ⟨.num, (if_neg h1).trans (if_pos h2), (if_neg h1).trans (if_pos h2), (if_neg h1).trans (if_pos h2)⟩
  · refine .inr ⟨(if_neg h1).trans ((if_neg h2).trans (if_neg (by decide))), ?_⟩
    have h1 : okBits b = true := by cases e : okBits b <;> first | rfl | exact absurd e h1
    have h2 : okAt a (slen b) = true := by cases e : okAt a (slen b) <;> first | rfl | exact absurd e h2
    obtain ⟨x, rfl⟩ := okBits_str h1
    obtain ⟨i, rfl, i0, i1⟩ := okAt_int h2
    obtain ⟨n, rfl, g⟩ := good_of h1 i0 i1
    exact ⟨x, n, rfl, rfl, g⟩
theorem due_1 (b a c : V) : (∃ o, dueO b a 1 (oneBit c) = some o ∧ putO b a c = o) ∨ (dueO b a 1 (oneBit c) = none ∧ ∃ (x y : Str) (i : Nat), b = .str x ∧ a = .int i ∧ c = .str y ∧ bitL (TL.tl x) = true ∧ i ≤ (TL.tl x).length ∧ oneBit c = true) := by
  unfold dueO putO
  by_cases h1 : okBits b = false
  · exact .inl ⟨.none, if_pos h1, if_pos h1⟩
  by_cases h2 : okAt a (slen b + 1) = false
  · exact .inl ⟨.num, (if_neg h1).trans (if_pos h2), (if_neg h1).trans (if_pos h2)⟩
  by_cases h3 : oneBit c = false
  · exact .inl ⟨.none, (if_neg h1).trans ((if_neg h2).trans (if_pos h3)), (if_neg h1).trans ((if_neg h2).trans (if_pos h3))⟩
  · refine .inr ⟨(if_neg h1).trans ((if_neg h2).trans (if_neg h3)), ?_⟩
    have h1 : okBits b = true := by cases e : okBits b <;> first | rfl | exact absurd e h1
    have h2 : okAt a (slen b + 1) = true := by cases e : okAt a (slen b + 1) <;> first | rfl | exact absurd e h2
    have h3 : oneBit c = true := by cases e : oneBit c <;> first | rfl | exact absurd e h3
    obtain ⟨x, rfl⟩ := okBits_str h1
    obtain ⟨i, rfl, i0, i1⟩ := okAt_int h2
    obtain ⟨n, rfl⟩ := Int.eq_ofNat_of_zero_le i0
    obtain ⟨y, rfl⟩ := okBits_str (v := c) (by unfold oneBit at h3; rw [Bool.and_eq_true] at h3; exact h3.1)
    have i1 : (n : Int) < ((x.length : Nat) : Int) + 1 := i1
    exact ⟨x, y, n, rfl, rfl, rfl, h1, by rw [← TL.len_tl]; omega, h3⟩
theorem atom_out (o : Out) : ∀ x ∈ outT o, Atom x := by
  intro x hx
  cases o with
  | none => rcases List.mem_cons.mp hx with rfl | hx; trivial; rcases List.mem_singleton.mp hx with rfl; trivial
  | num => rcases List.mem_cons.mp hx with rfl | hx; trivial; rcases List.mem_cons.mp hx with rfl | hx; trivial; rcases List.mem_singleton.mp hx with rfl; trivial
  | told y => rcases List.mem_cons.mp hx with rfl | hx; trivial; rcases List.mem_singleton.mp hx with rfl; trivial
theorem len_out (o : Out) : (outT o).length ≤ 10 := by cases o <;> (unfold outT; simp)

theorem ne_self {P Q : Prop} {v : V} : (if (!decide (v = v)) = true then P else Q) = Q := by
  rw [decide_eq_true rfl]
  exact if_neg (by decide)
theorem nself {P Q : Prop} {v : V} (h : Q) : if (!decide (v = v)) = true then P else Q := by
  rw [ne_self]
  exact h
theorem short1 (c : Nat) : Short (.str ⟨#[c]⟩) := by
  show (1 : Nat) ≤ 1000000
  decide
theorem turn_short {x : Str} {i : Nat} (hx : x.length ≤ 5000) : Short (.str (turnS x i)) := Nat.le_trans (app_le (app_le (cut_le hx) (Nat.le_of_eq (flip_len _))) (cut_le hx)) (by decide)
theorem drop_short {x : Str} {i : Nat} (hx : x.length ≤ 5000) : Short (.str (dropS x i)) := Nat.le_trans (app_le (cut_le hx) (cut_le hx)) (by decide)
theorem put_short {x y : Str} {i : Nat} (hx : x.length ≤ 5000) (hy : y.length ≤ 5000) : Short (.str (putS x i y)) := Nat.le_trans (app_le (app_le (cut_le hx) hy) (cut_le hx)) (by decide)
theorem Good.pd2 {x : Str} {i : Nat} (g : Good x i) : putO (.str (dropS x i)) (.int i) (.str ⟨#[signAt x i]⟩) = .told x := by
  have e : signAt x i = (TL.tl x)[i]'g.i := by
    unfold signAt
    rw [Int.toNat_natCast, List.getD_eq_getElem?_getD, List.getElem?_eq_getElem g.i]
    rfl
  rw [e]
  exact g.pd
theorem sp_due1 {A : Ad} {K : PySem.W.Frag} {H0 H : Hp} {b a c : V} {tb ta tc : Value} {q1 q2 q3 : Addr} {gb : Bool} {Q : VK} {E : XK} (S : S3 A K H0 b a c tb ta tc q1 q2 q3 H) (sb : Short b) (e : gb = oneBit c) (k : ∀ v H', Same H H' → Due1 b a c v H' → Q v H') :
    sp__law_one_due K A [b, a, .int 1, .bl gb] H Q E := by
  refine ⟨_, _, _, _, rfl, tb, ta, 1, gb, S.vb, S.va, sb, rfl, rfl, ?_⟩
  subst e
  rcases due_1 b a c with ⟨o, eo, e1⟩ | ⟨eo, g⟩
  · rw [eo]
    exact fun q H7 e7 h7 => k _ _ e7 (.inl ⟨o, q, rfl, h7, e1⟩)
  · rw [eo]
    exact fun H7 e7 => k _ _ e7 (.inr ⟨rfl, g⟩)
theorem pick_at {xs : List V} {v : Int} (h0 : 0 ≤ v) (h1 : v < (xs.length : Int)) : ∃ x, x ∈ xs ∧ atI xs v = some x := by
  obtain ⟨n, rfl⟩ := Int.eq_ofNat_of_zero_le h0
  have hn : n < xs.length := by omega
  exact ⟨xs[n], List.getElem_mem hn, atI_nat (by simp [hn])⟩

theorem Tabs.chg {A : Ad} {d : Dr} {H H' : Hp} (r : Rng d H) (e : Chg d H H') (t : LamX.Tabs (TT A) H) : LamX.Tabs (TT A) H' := fun p hp => by
  obtain ⟨ys, hd, _⟩ := r.atp
  obtain ⟨ps, h1, h2, h3⟩ := t p hp
  refine ⟨ps, e _ _ (ne_lst hd h1 fun ys z => by cases z) h1, h2, fun pos cv hc => ?_⟩
  obtain ⟨c, e1, e2⟩ := h3 pos cv hc
  exact ⟨c, e1, e _ _ (ne_lst hd e2 fun ys z => by unfold LamX.CodeO at z; cases z) e2⟩
theorem Rng.ext {d : Dr} {H H' : Hp} (r : Rng d H) (e : LamX.ExtN H H') : Rng d H' := by
  obtain ⟨i, c, s, r⟩ := r
  exact ⟨i, c, s, r.pl, e _ _ r.st (fun ps z => by cases z), e _ _ r.ls (fun ps z => by cases z), r.hi, r.hn, r.hc, r.hs, r.hs2⟩
theorem sum_rep (n : Nat) (x : Str) : ((List.replicate n x).map (·.length)).sum = n * x.length := by
  induction n with
  | zero => rw [Nat.zero_mul]; rfl
  | succ n ih => rw [List.replicate_succ, List.map_cons, List.sum_cons, ih, Nat.add_mul, Nat.one_mul, Nat.add_comm]
theorem joinL_len (l : List Nat) : ∀ n : Nat, (TL.joinL [] (List.replicate n l)).length = n * l.length
  | 0 => by rw [Nat.zero_mul]; rfl
  | 1 => by rw [Nat.one_mul]; rfl
  | n + 2 => by
    have ih := joinL_len l (n + 1)
    rw [List.replicate_succ] at ih ⊢
    show (l ++ ([] ++ TL.joinL [] (l :: List.replicate n l))).length = _
    rw [List.nil_append, List.length_append, ih, Nat.add_mul (n + 1) 1, Nat.one_mul, Nat.add_comm]
theorem join_len (n : Nat) (x : Str) : (Txt.join "" (List.replicate n x)).length = n * x.length := by
  rw [TL.join_eq, TL.len_tl, TL.tl_join, tl_empty, List.map_replicate, joinL_len, TL.len_tl]
theorem tor2 {A B : L2.TT} {z : L2.St} {H : Hp} {R : Bool → Hp → Prop} {a b : Bool} (h1 : ∀ R' : Bool → Hp → Prop, R' a H → A z H R') (h2 : ∀ R' : Bool → Hp → Prop, R' b H → B z H R') (h : R (a || b) H) : tOr A B z H R := by
  refine h1 _ ?_
  cases a with
  | true => exact h
  | false => exact h2 _ h
theorem same_new2 {H : Hp} {p : Addr} {o o2 : HO} (h : H p = none) : Same H (upd (upd H p o) p o2) := fun b u e => by rw [upd_ne (ne_of_none e h), upd_ne (ne_of_none e h)]; exact e
theorem sm {H H1 H2 : Hp} (a : Same H H1) (b : Same H1 H2) : Same H H2 := fun c o e => b c o (a c o e)
def Th5 (K : PySem.W.Frag) (H : Hp) (v : V) : Prop := (∃ t, VT K H v t) ∧ (strOf v).length ≤ 5000
section
variable {K : PySem.W.Frag} {H H' : Hp} {v : V}
theorem Th5.same (h : Th5 K H v) (e : Same H H') : Th5 K H' v := ⟨h.1.elim fun t h => ⟨t, h.keep (KK.same e)⟩, h.2⟩
theorem Th5.chg {d : Dr} (h : Th5 K H v) (r : Rng d H) (r' : Rng d H') (e : Chg d H H') : Th5 K H' v := ⟨h.1.elim fun t h => ⟨t, h.keep (KK.chg r r' e)⟩, h.2⟩
theorem th5_non : Th5 K H .non := ⟨⟨_, .non⟩, Nat.zero_le _⟩
theorem th5_bl (b : Bool) : Th5 K H (.bl b) := ⟨⟨_, .bl b⟩, Nat.zero_le _⟩
theorem th5_int (b : Int) : Th5 K H (.int b) := ⟨⟨_, .int b⟩, Nat.zero_le _⟩
theorem th5_str {x : Str} (h : x.length ≤ 5000) : Th5 K H (.str x) := ⟨⟨_, .str x⟩, h⟩
theorem th5_lst {a : Addr} {xs : List V} (h : H a = some (.lst xs)) : Th5 K H (.ref a) := ⟨⟨_, .lst h⟩, Nat.zero_le _⟩
theorem th5_tup {a : Addr} {xs : List V} (h : H a = some (.tup xs)) : Th5 K H (.ref a) := ⟨⟨_, .tup h⟩, Nat.zero_le _⟩
theorem th5_dK {a : Addr} {xs : List (Key × V)} (h : H a = some (.dK xs)) : Th5 K H (.ref a) := ⟨⟨_, .dK h⟩, Nat.zero_le _⟩
end
structure St7 (A : Ad) (d : Dr) (H : Hp) : Prop where
  r : Rng d H
  t : LamX.Tabs (TT A) H
theorem many_pick {a b c i : Int} (i0 : 0 ≤ i) (i1 : i < 10) (ha : 0 ≤ a ∧ a < 4000) (hb : 0 ≤ b ∧ b < 4000) (hc : 0 ≤ c ∧ c < 4000) : ∃ m : Int, atI [V.int a, V.int b, V.int c] (i / 4) = some (.int m) ∧ 0 ≤ m ∧ m < 4000 := by
  have h : i / 4 = 0 ∨ i / 4 = 1 ∨ i / 4 = 2 := by omega
  rcases h with h | h | h <;> rw [h]
  · exact ⟨a, rfl, ha⟩
  · exact ⟨b, rfl, hb⟩
  · exact ⟨c, rfl, hc⟩

section
variable {P : Program} {w : World} {K : PySem.W.Frag} {mg : Str → Option Value} {base : Heap} {A : Ad}
theorem ok_BadNumber___init__ (T : Txt K mg A) : FnOk P w K mg base CX0 1 A.f_BadNumber___init__ A.d_BadNumber___init__ ["self", "part"] (sp_BadNumber___init__ K A) := by
  refine T.F_BadNumber___init__.ok sc_BadNumber___init__ (fun vs H Q E h => sp2_len h) (fun cdv A0 outer s H vs Q E hr h => ?_)
  have nd := sc_BadNumber___init__.nd
  refine ⟨_, (pss_one (ps_ost (pv 0) (pv 1))), ?_⟩
  clear nd hr
  replace h := sp2_of h
  obtain ⟨v_self, v_part, rfl, h⟩ := h

  obtain ⟨a, rfl, ha, k⟩ := h
  exact ⟨_, rfl, _, rfl, a, A.c_BadNumber, rfl, T.oex_BadNumber, T.nx_BadNumber_part, .inl ⟨ha, fun dx h n => k dx h n⟩⟩
theorem ok_is_integer (T : Txt K mg A) : FnOk P w K mg base CX0 1 A.f_is_integer A.d_is_integer ["thing"] (sp_is_integer K A) := by
  refine T.F_is_integer.ok sc_is_integer (fun vs H Q E h => sp1_len h) (fun cdv A0 outer s H vs Q E hr h => ?_)
  have nd := sc_is_integer.nd
  refine ⟨_, (pss_one (ps_ret (pe_and (pe_callB call_isi (by rfl) T.b_isinstance (by decide +kernel) (pa_cons (pv 0) (pa_cons (pe_bltn (v := .ty "int") (by rfl) T.b_int (by decide +kernel) rfl) pa_nil))) (pe_one (pe_not (pe_callB call_isi (by rfl) T.b_isinstance (by decide +kernel) (pa_cons (pv 0) (pa_cons (pe_bltn (v := .ty "bool") (by rfl) T.b_bool (by decide +kernel) rfl) pa_nil)))))))), ?_⟩
  clear nd hr
  replace h := sp1_of h
  obtain ⟨v_thing, rfl, h⟩ := h

  obtain ⟨t, hv, k⟩ := h
  rw [isI_of hv] at k
  refine ⟨_, rfl, _, _, _, _, _, rfl, .ty _, hv.tyx, kit_isa hv.tag (by decide), _, rfl, iteB (fun h1 => ?_) (fun h1 => ?_)⟩
  · refine ⟨_, rfl, _, _, _, _, _, rfl, .ty _, hv.tyx, kit_isa hv.tag (by decide), _, rfl, ?_⟩
    rw [h1, Bool.true_and] at k
    exact k
  · rw [h1, Bool.false_and] at k
    exact k
theorem ok_is_bits (T : Txt K mg A) : FnOk P w K mg base CX0 1 A.f_is_bits A.d_is_bits ["thing"] (sp_is_bits K A) := by
  refine T.F_is_bits.ok sc_is_bits (fun vs H Q E h => sp1_len h) (fun cdv A0 outer s H vs Q E hr h => ?_)
  have nd := sc_is_bits.nd
  refine ⟨_, (pss_cons (ps_if (pt_not (pt_val (pe_callB call_isi (by rfl) T.b_isinstance (by decide +kernel) (pa_cons (pv 0) (pa_cons (pe_bltn (v := .ty "str") (by rfl) T.b_str (by decide +kernel) rfl) pa_nil))))) (pss_one (ps_ret pe_bl)) pss_nil)
      (pss_cons (ps_for PassesOwn.never rfl (pi_str (pv 0)) (pg_name (i := 1) nd rfl (by first | exact Or.inl rfl | exact Or.inr rfl)) (pss_one (ps_if (PW.pt (pw_and (pt_cmpR op_ne (pv 1) pe_str (nomark _)) (pw_and1 (pt_cmpR op_ne (pv 1) pe_str (nomark _))))) (pss_one (ps_ret pe_bl)) pss_nil)))
      (pss_one (ps_ret pe_bl)))), ?_⟩
  clear nd hr
  replace h := sp1_of h
  obtain ⟨v_thing, rfl, h⟩ := h

  obtain ⟨t, hv, k⟩ := h
  refine ⟨_, rfl, _, _, _, _, _, rfl, .ty _, hv.tyx, kit_isa hv.tag (by decide), _, rfl, iteB (fun h1 => ?_) (fun h1 => ?_)⟩
  · rw [(nstr_of hv (by simpa using h1)).1] at k
    exact k
  obtain ⟨x, rfl⟩ := str_of hv (by simpa using h1)
  refine ⟨_, rfl, x, rfl, for_str (fun i σ' H' => ∃ c, σ' = [some (.str x), c] ∧ H' = H ∧ (x.cps.toList.take i).all (fun c => decide (c = 48) || decide (c = 49)) = true) ⟨_, rfl, rfl, rfl⟩ ?_ ?_⟩
  · rintro i c σ' H' hc ⟨_, rfl, rfl, ha⟩
    refine ⟨_, rfl, rfl, _, rfl, ?_⟩
    rw [sign_dec sgn0]
    refine iteB (fun h0 => ⟨_, rfl, rfl, _, rfl, ?_⟩) (fun h0 => ?_)
    · rw [sign_dec sgn1]
      refine iteB (fun h2 => ?_) (fun h2 => ?_)
      · have e : okBits (.str x) = false := not_all hc (by simp at h0 h2; simp [h0, h2])
        rw [e] at k
        exact k
      · exact ⟨_, rfl, rfl, take_all ha hc (by simp at h2; simp [h2])⟩
    · refine iteF ?_
      exact ⟨_, rfl, rfl, take_all ha hc (by simp at h0; simp [h0])⟩
  · rintro σ' H' ⟨_, rfl, rfl, ha⟩
    have e : okBits (.str x) = true := full_all ha
    rw [e] at k
    exact k
theorem ok_other_bit (T : Txt K mg A) : FnOk P w K mg base CX0 1 A.f_other_bit A.d_other_bit ["bit"] (sp_other_bit K A) := by
  refine T.F_other_bit.ok sc_other_bit (fun vs H Q E h => sp1_len h) (fun cdv A0 outer s H vs Q E hr h => ?_)
  have nd := sc_other_bit.nd
  refine ⟨_, (pss_cons (ps_if (pt_cmpR op_eq (pv 0) pe_str (nomark _)) (pss_one (ps_ret pe_str)) pss_nil)
      (pss_one (ps_ret pe_str))), ?_⟩
  clear nd hr
  replace h := sp1_of h
  obtain ⟨v_bit, rfl, h⟩ := h

  obtain ⟨c, rfl, hc, k⟩ := h
  refine ⟨_, rfl, rfl, _, rfl, ?_⟩
  rw [sign_dec sgn0]
  refine iteB (fun g => ?_) (fun g => ?_)
  · rw [show flipS c = "1" from if_pos (of_decide_eq_true g)] at k
    exact k
  · rw [show flipS c = "0" from if_neg (of_decide_eq_false g)] at k
    exact k
theorem ok_check_place (T : Txt K mg A) : FnOk P w K mg base (L2.CX P w) 3 A.f_check_place A.d_check_place ["at", "many"] (sp_check_place K A) := by
  refine T.F_check_place.okX sc_check_place (fun vs H Q E h => sp2_len h) (fun cdv A0 outer s H vs Q E hr h => ?_)
  have nd := sc_check_place.nd
  refine ⟨_, (pss_one (ps_if (PW.pt (pw_or (pt_not (pt_val (pe_call (ok_is_integer T) (hr.mono (by decide)) (by rfl) T.mg_is_integer T.k_is_integer T.b_is_integer .nil pass0 (pa_cons (pv 0) pa_nil)))) (pw_or (pt_cmpR op_lt (pv 0) pe_int (nomark _)) (pw_or1 (pt_cmpR op_ge (pv 0) (pv 1) (nomark _)))))) (pss_one (ps_raise rfl (takes_of rfl rfl rfl rfl) (pmk_oex T.oex_BadNumber T.ix_BadNumber T.tx_BadNumber (ok_BadNumber___init__ T) (hr.mono (by decide)) T.b_BadNumber___init__ .nil pass0 (by rfl) T.mg_BadNumber (pa_cons pe_str pa_nil)))) pss_nil)), ?_⟩
  clear nd hr
  replace h := sp2_of h
  obtain ⟨v_at, v_many, rfl, h⟩ := h

  obtain ⟨t, n, ht, rfl, k1, k2⟩ := h
  refine ⟨_, rfl, _, rfl, t, ht, _, rfl, iteB (fun h1 => iteY ?_) (fun h1 => ?_)⟩
  · exact raise_num (fun _ _ z => z) (k2 (by unfold okAt; rw [not_t h1]; rfl))
  obtain ⟨i, rfl⟩ := int_ex (not_f h1)
  refine ⟨_, rfl, _, _, rfl, rfl, _, rfl, iteB (fun h2 => iteY ?_) (fun h2 => ?_)⟩
  · exact raise_num (fun _ _ z => z) (k2 (by show (decide (0 ≤ i) && decide (i < n)) = false; rw [decide_eq_false (by have := of_decide_eq_true h2; omega : ¬ 0 ≤ i)]; rfl))
  refine ⟨_, rfl, _, rfl, _, _, rfl, rfl, _, rfl, iteB (fun h3 => ?_) (fun h3 => ?_)⟩
  · exact raise_num (fun _ _ z => z) (k2 (by show (decide (0 ≤ i) && decide (i < n)) = false; rw [decide_eq_false (by have := of_decide_eq_true h3; omega : ¬ i < n), Bool.and_false]))
  · exact k1 (by show (decide (0 ≤ i) && decide (i < n)) = true; rw [decide_eq_true (by have := of_decide_eq_false h2; omega : 0 ≤ i), decide_eq_true (by have := of_decide_eq_false h3; omega : i < n)]; rfl)
theorem ok_turned (T : Txt K mg A) : FnOk P w K mg base (L2.CX P w) 4 A.f_turned A.d_turned ["bits", "at"] (sp_turned K A) := by
  refine T.F_turned.okX sc_turned (fun vs H Q E h => sp2_len h) (fun cdv A0 outer s H vs Q E hr h => ?_)
  have nd := sc_turned.nd
  refine ⟨_, (pss_cons (ps_if (pt_not (pt_val (pe_call (ok_is_bits T) (hr.mono (by decide)) (by rfl) T.mg_is_bits T.k_is_bits T.b_is_bits .nil pass0 (pa_cons (pv 0) pa_nil)))) (pss_one (ps_raise rfl (takes_of rfl rfl rfl rfl) (pmk_own0 PySem.F.excBase_ValueError T.xo_NoBits.1 T.mg_NoBits T.xo_NoBits.2.1 (raises_own T.xo_NoBits.2.2.1 T.xo_NoBits.2.2.2) (by rfl)))) pss_nil)
      (pss_cons (ps_expr (by exact (pe_callS (ok_check_place T) (hr.mono (by decide)) (by rfl) T.mg_check_place T.k_check_place T.b_check_place (fun σ => passAt (W := fun cls d _ H => E cls d H) (takes_of rfl rfl rfl rfl) σ) (by exact (pa_cons (pv 1) (pa_cons (pe_callB call_len_str (by rfl) T.b_len (by decide +kernel) (pa_cons (pv 0) pa_nil)) pa_nil))))))
      (pss_one (ps_ret (pe_op op_add_str (pe_op op_add_str (pe_slice sl_str (pv 0) po_none (po_some (pv 1))) (pe_call (ok_other_bit T) (hr.mono (by decide)) (by rfl) T.mg_other_bit T.k_other_bit T.b_other_bit .nil pass0 (pa_cons (pe_ix ix_str (pv 0) (pv 1) (fun _ _ => rfl)) pa_nil))) (pe_slice sl_str (pv 0) (po_some (pe_op op_add (pv 1) pe_int)) po_none)))))), ?_⟩
  clear nd hr
  replace h := sp2_of h
  obtain ⟨v_bits, v_at, rfl, h⟩ := h

  obtain ⟨tb, ta, hb, ha, sb, k⟩ := h
  refine ⟨_, rfl, _, rfl, tb, hb, _, rfl, iteB (fun h1 => ?_) (fun h1 => ?_)⟩
  · rw [show turnO v_bits v_at = .none from if_pos (not_t h1)] at k
    exact k H fun _ _ z => z
  have n1 : ¬ okBits v_bits = false := by rw [not_f h1]; decide
  obtain ⟨x, rfl⟩ := okBits_str (not_f h1)
  have hx : x.length ≤ 1000000 := sb
  refine ⟨_, rfl, _, rfl, x, rfl, short_le sb, _, _, rfl, ta, _, ha, rfl, fun h2 => ?_, fun h2 => ?_⟩
  · obtain ⟨i, rfl, i0, i1⟩ := okAt_int h2
    rw [show turnO (.str x) (.int i) = .told (turnS x i) from (if_neg n1).trans ((if_neg (by rw [show okAt (.int i) (slen (.str x)) = true from h2]; decide)))] at k
    have l1 : (cutS x none (some i)).length ≤ 1000000 := cut_le hx
    have l2 : (cutS x (some (i + 1)) none).length ≤ 1000000 := cut_le hx
    refine ⟨_, rfl, _, rfl, _, rfl, x, rfl, big_le hx (by decide), _, rfl, _, rfl, x, i, _, rfl, rfl, big_le hx (by decide), sign_at i0 i1, _, rfl, _, rfl, bit_at (not_f h1) i0 i1, _, _, rfl, rfl, ?_, _, rfl, _, rfl, _, _, rfl, rfl, _, rfl, x, rfl, big_le hx (by decide), _, _, rfl, rfl, ?_, k⟩
    · rw [flip_len]
      exact big_le (Nat.add_le_add_right l1 1) (by decide)
    · exact big_le (Nat.add_le_add (app_le l1 (Nat.le_of_eq (flip_len _))) l2) (by decide)

  · rw [show turnO (.str x) v_at = .num from (if_neg n1).trans (if_pos h2)] at k
    exact k
theorem ok_dropped (T : Txt K mg A) : FnOk P w K mg base (L2.CX P w) 4 A.f_dropped A.d_dropped ["bits", "at"] (sp_dropped K A) := by
  refine T.F_dropped.okX sc_dropped (fun vs H Q E h => sp2_len h) (fun cdv A0 outer s H vs Q E hr h => ?_)
  have nd := sc_dropped.nd
  refine ⟨_, (pss_cons (ps_if (pt_not (pt_val (pe_call (ok_is_bits T) (hr.mono (by decide)) (by rfl) T.mg_is_bits T.k_is_bits T.b_is_bits .nil pass0 (pa_cons (pv 0) pa_nil)))) (pss_one (ps_raise rfl (takes_of rfl rfl rfl rfl) (pmk_own0 PySem.F.excBase_ValueError T.xo_NoBits.1 T.mg_NoBits T.xo_NoBits.2.1 (raises_own T.xo_NoBits.2.2.1 T.xo_NoBits.2.2.2) (by rfl)))) pss_nil)
      (pss_cons (ps_expr (by exact (pe_callS (ok_check_place T) (hr.mono (by decide)) (by rfl) T.mg_check_place T.k_check_place T.b_check_place (fun σ => passAt (W := fun cls d _ H => E cls d H) (takes_of rfl rfl rfl rfl) σ) (by exact (pa_cons (pv 1) (pa_cons (pe_callB call_len_str (by rfl) T.b_len (by decide +kernel) (pa_cons (pv 0) pa_nil)) pa_nil))))))
      (pss_one (ps_ret (pe_op op_add_str (pe_slice sl_str (pv 0) po_none (po_some (pv 1))) (pe_slice sl_str (pv 0) (po_some (pe_op op_add (pv 1) pe_int)) po_none)))))), ?_⟩
  clear nd hr
  replace h := sp2_of h
  obtain ⟨v_bits, v_at, rfl, h⟩ := h

  obtain ⟨tb, ta, hb, ha, sb, k⟩ := h
  refine ⟨_, rfl, _, rfl, tb, hb, _, rfl, iteB (fun h1 => ?_) (fun h1 => ?_)⟩
  · rw [show dropO v_bits v_at = .none from if_pos (not_t h1)] at k
    exact k H fun _ _ z => z
  have n1 : ¬ okBits v_bits = false := by rw [not_f h1]; decide
  obtain ⟨x, rfl⟩ := okBits_str (not_f h1)
  have hx : x.length ≤ 1000000 := sb
  refine ⟨_, rfl, _, rfl, x, rfl, short_le sb, _, _, rfl, ta, _, ha, rfl, fun h2 => ?_, fun h2 => ?_⟩
  · obtain ⟨i, rfl, i0, i1⟩ := okAt_int h2
    rw [show dropO (.str x) (.int i) = .told (dropS x i) from (if_neg n1).trans ((if_neg (by rw [show okAt (.int i) (slen (.str x)) = true from h2]; decide)))] at k
    have l1 : (cutS x none (some i)).length ≤ 1000000 := cut_le hx
    have l2 : (cutS x (some (i + 1)) none).length ≤ 1000000 := cut_le hx
    exact ⟨_, rfl, _, rfl, _, rfl, x, rfl, big_le hx (by decide), _, rfl, _, rfl, _, _, rfl, rfl, _, rfl, x, rfl, big_le hx (by decide), _, _, rfl, rfl, big_le (Nat.add_le_add l1 l2) (by decide), k⟩

  · rw [show dropO (.str x) v_at = .num from (if_neg n1).trans (if_pos h2)] at k
    exact k
theorem ok_put (T : Txt K mg A) : FnOk P w K mg base (L2.CX P w) 4 A.f_put A.d_put ["bits", "at", "bit"] (sp_put K A) := by
  refine T.F_put.okX sc_put (fun vs H Q E h => sp3_len h) (fun cdv A0 outer s H vs Q E hr h => ?_)
  have nd := sc_put.nd
  refine ⟨_, (pss_cons (ps_if (pt_not (pt_val (pe_call (ok_is_bits T) (hr.mono (by decide)) (by rfl) T.mg_is_bits T.k_is_bits T.b_is_bits .nil pass0 (pa_cons (pv 0) pa_nil)))) (pss_one (ps_raise rfl (takes_of rfl rfl rfl rfl) (pmk_own0 PySem.F.excBase_ValueError T.xo_NoBits.1 T.mg_NoBits T.xo_NoBits.2.1 (raises_own T.xo_NoBits.2.2.1 T.xo_NoBits.2.2.2) (by rfl)))) pss_nil)
      (pss_cons (ps_expr (by exact (pe_callS (ok_check_place T) (hr.mono (by decide)) (by rfl) T.mg_check_place T.k_check_place T.b_check_place (fun σ => passAt (W := fun cls d _ H => E cls d H) (takes_of rfl rfl rfl rfl) σ) (by exact (pa_cons (pv 1) (pa_cons (pe_op op_add (pe_callB call_len_str (by rfl) T.b_len (by decide +kernel) (pa_cons (pv 0) pa_nil)) pe_int) pa_nil))))))
      (pss_cons (ps_if (PW.pt (pw_or (pt_not (pt_val (pe_call (ok_is_bits T) (hr.mono (by decide)) (by rfl) T.mg_is_bits T.k_is_bits T.b_is_bits .nil pass0 (pa_cons (pv 2) pa_nil)))) (pw_or1 (pt_cmpR op_ne (pe_callB call_len_str (by rfl) T.b_len (by decide +kernel) (pa_cons (pv 2) pa_nil)) pe_int (nomark _))))) (pss_one (ps_raise rfl (takes_of rfl rfl rfl rfl) (pmk_own0 PySem.F.excBase_ValueError T.xo_NoBits.1 T.mg_NoBits T.xo_NoBits.2.1 (raises_own T.xo_NoBits.2.2.1 T.xo_NoBits.2.2.2) (by rfl)))) pss_nil)
      (pss_one (ps_ret (pe_op op_add_str (pe_op op_add_str (pe_slice sl_str (pv 0) po_none (po_some (pv 1))) (pv 2)) (pe_slice sl_str (pv 0) (po_some (pv 1)) po_none))))))), ?_⟩
  clear nd hr
  replace h := sp3_of h
  obtain ⟨v_bits, v_at, v_bit, rfl, h⟩ := h

  obtain ⟨tb, ta, tc, hb, ha, hc, sb, sc, k⟩ := h
  refine ⟨_, rfl, _, rfl, tb, hb, _, rfl, iteB (fun h1 => ?_) (fun h1 => ?_)⟩
  · rw [show putO v_bits v_at v_bit = .none from if_pos (not_t h1)] at k
    exact k H fun _ _ z => z
  have n1 : ¬ okBits v_bits = false := by rw [not_f h1]; decide
  obtain ⟨x, rfl⟩ := okBits_str (not_f h1)
  have hx : x.length ≤ 1000000 := sb
  refine ⟨_, rfl, _, rfl, x, rfl, short_le sb, _, _, rfl, rfl, _, _, rfl, ta, _, ha, rfl, fun h2 => ?_, fun h2 => ?_⟩
  · obtain ⟨i, rfl, i0, i1⟩ := okAt_int h2
    refine ⟨_, rfl, _, rfl, tc, hc, _, rfl, iteB (fun h3 => iteY ?_) (fun h3 => ?_)⟩
    · rw [show putO (.str x) (.int i) v_bit = .none from (if_neg n1).trans ((if_neg (by rw [show okAt (.int i) (slen (.str x) + 1) = true from h2]; decide)).trans (if_pos (by unfold oneBit; rw [not_t h3]; rfl)))] at k
      exact k H fun _ _ z => z
    obtain ⟨y, rfl⟩ := okBits_str (not_f h3)
    have hy : y.length ≤ 1000000 := sc
    refine ⟨_, rfl, y, rfl, short_le sc, rfl, _, rfl, iteB (fun h4 => ?_) (fun h4 => ?_)⟩
    · rw [show putO (.str x) (.int i) (.str y) = .none from (if_neg n1).trans ((if_neg (by rw [show okAt (.int i) (slen (.str x) + 1) = true from h2]; decide)).trans (if_pos (by
        unfold oneBit
        rw [show decide ((strOf (.str y)).length = 1) = false from decide_eq_false fun z => ?_, Bool.and_false]
        have z : y.length = 1 := z
        rw [z] at h4
        exact absurd h4 (by decide))))] at k
      exact k H fun _ _ z => z
    have e4 : y.length = 1 := by
      have h5 : decide (V.int (y.length : Nat) = V.int 1) = true := not_f h4
      rw [dI] at h5
      have := of_decide_eq_true h5
      omega
    rw [show putO (.str x) (.int i) (.str y) = .told (putS x i y) from (if_neg n1).trans ((if_neg (by rw [show okAt (.int i) (slen (.str x) + 1) = true from h2]; decide)).trans (if_neg (by rw [show oneBit (.str y) = true from by (unfold oneBit; rw [not_f h3, show decide ((strOf (.str y)).length = 1) = true from decide_eq_true e4]; rfl)]; decide)))] at k
    have l1 : (cutS x none (some i)).length ≤ 1000000 := cut_le hx
    have l2 : (cutS x (some i) none).length ≤ 1000000 := cut_le hx
    exact ⟨_, rfl, _, rfl, _, rfl, x, rfl, big_le hx (by decide), _, rfl, _, _, rfl, rfl, short_cat l1 hy, _, rfl, _, rfl, _, rfl, x, rfl, big_le hx (by decide), _, _, rfl, rfl, big_le (Nat.add_le_add (app_le l1 hy) l2) (by decide), k⟩

  · rw [show putO (.str x) v_at v_bit = .num from (if_neg n1).trans (if_pos h2)] at k
    exact k
theorem ok__law_is_int (T : Txt K mg A) : FnOk P w K mg base CX0 1 A.f__law_is_int A.d__law_is_int ["told"] (sp__law_is_int K A) := by
  refine T.F__law_is_int.ok sc__law_is_int (fun vs H Q E h => sp1_len h) (fun cdv A0 outer s H vs Q E hr h => ?_)
  have nd := sc__law_is_int.nd
  refine ⟨_, (pss_one (ps_ret (pe_and (pe_callB call_isi (by rfl) T.b_isinstance (by decide +kernel) (pa_cons (pv 0) (pa_cons (pe_bltn (v := .ty "int") (by rfl) T.b_int (by decide +kernel) rfl) pa_nil))) (pe_one (pe_not (pe_callB call_isi (by rfl) T.b_isinstance (by decide +kernel) (pa_cons (pv 0) (pa_cons (pe_bltn (v := .ty "bool") (by rfl) T.b_bool (by decide +kernel) rfl) pa_nil)))))))), ?_⟩
  clear nd hr
  replace h := sp1_of h
  obtain ⟨v_told, rfl, h⟩ := h

  obtain ⟨t, hv, k⟩ := h
  rw [isI_of hv] at k
  refine ⟨_, rfl, _, _, _, _, _, rfl, .ty _, hv.tyx, kit_isa hv.tag (by decide), _, rfl, iteB (fun h1 => ?_) (fun h1 => ?_)⟩
  · refine ⟨_, rfl, _, _, _, _, _, rfl, .ty _, hv.tyx, kit_isa hv.tag (by decide), _, rfl, ?_⟩
    rw [h1, Bool.true_and] at k
    exact k
  · rw [h1, Bool.false_and] at k
    exact k
theorem ok__law_same0 (T : Txt K mg A) : FnOk P w K mg base CX0 2 A.f__law_same A.d__law_same ["told", "due"] (sp__law_same0 K A) := by
  refine T.F__law_same.ok sc__law_same (fun vs H Q E h => sp2_len h) (fun cdv A0 outer s H vs Q E hr h => ?_)
  have nd := sc__law_same.nd
  refine ⟨_, (pss_cons (ps_if (pt_cmpR op_isN (pv 1) pe_non (nomark _)) (pss_one (ps_ret (pe_cmpR op_isN (pv 0) pe_non (nomark _)))) pss_nil)
      (pss_cons (ps_if (pt_val (pe_callB call_isi (by rfl) T.b_isinstance (by decide +kernel) (pa_cons (pv 1) (pa_cons (pe_bltn (v := .ty "bool") (by rfl) T.b_bool (by decide +kernel) rfl) pa_nil)))) (pss_one (ps_ret (pe_and (pe_callB call_isi (by rfl) T.b_isinstance (by decide +kernel) (pa_cons (pv 0) (pa_cons (pe_bltn (v := .ty "bool") (by rfl) T.b_bool (by decide +kernel) rfl) pa_nil))) (pe_one (pe_cmpR op_eq (pv 0) (pv 1) (nomark _)))))) pss_nil)
      (pss_cons (ps_if (pt_val (pe_callB call_isi (by rfl) T.b_isinstance (by decide +kernel) (pa_cons (pv 1) (pa_cons (pe_bltn (v := .ty "int") (by rfl) T.b_int (by decide +kernel) rfl) pa_nil)))) (pss_one (ps_ret (pe_and (pe_call (ok__law_is_int T) (hr.mono (by decide)) (by rfl) T.mg__law_is_int T.k__law_is_int T.b__law_is_int .nil pass0 (pa_cons (pv 0) pa_nil)) (pe_one (pe_cmpR op_eq (pv 0) (pv 1) (nomark _)))))) pss_nil)
      (pss_cons (ps_if (pt_val (pe_callB call_isi (by rfl) T.b_isinstance (by decide +kernel) (pa_cons (pv 1) (pa_cons (pe_bltn (v := .ty "str") (by rfl) T.b_str (by decide +kernel) rfl) pa_nil)))) (pss_one (ps_ret (pe_and (pe_callB call_isi (by rfl) T.b_isinstance (by decide +kernel) (pa_cons (pv 0) (pa_cons (pe_bltn (v := .ty "str") (by rfl) T.b_str (by decide +kernel) rfl) pa_nil))) (pe_one (pe_cmpR op_eq (pv 0) (pv 1) (nomark _)))))) pss_nil)
      pss_never)))), ?_⟩
  clear nd hr
  replace h := sp2_of h
  obtain ⟨v_told, v_due, rfl, h⟩ := h

  obtain ⟨rfl, ha, k⟩ := h
  cases v_told with
  | non => exact ⟨_, rfl, rfl, _, rfl, iteB (fun _ => ⟨_, rfl, rfl, k⟩) (fun z => nomatch z)⟩
  | bl b =>
    have hv : VT K H (.bl b) (.type "bool") := .bl b
    refine ⟨_, rfl, rfl, _, rfl, iteB (fun z => nomatch z) (fun _ => ?_)⟩
    refine ⟨_, rfl, _, _, _, _, _, rfl, .ty _, hv.tyx, kit_isa hv.tag (by decide), _, rfl, iteB (fun _ => ⟨_, rfl, _, _, _, _, _, rfl, .ty _, hv.tyx, kit_isa hv.tag (by decide), _, rfl, iteB (fun _ => ⟨_, rfl, _, rfl, rfl, by rw [decide_eq_true rfl]; exact k⟩) (fun z => absurd z (by decide))⟩) (fun z => absurd z (by decide))⟩
  | int i =>
    have hv : VT K H (.int i) (.type "int") := .int i
    refine ⟨_, rfl, rfl, _, rfl, iteB (fun z => nomatch z) (fun _ => ?_)⟩
    refine ⟨_, rfl, _, _, _, _, _, rfl, .ty _, hv.tyx, kit_isa hv.tag (by decide), _, rfl, iteB (fun z => absurd z (by decide)) (fun _ => ?_)⟩
    refine ⟨_, rfl, _, _, _, _, _, rfl, .ty _, hv.tyx, kit_isa hv.tag (by decide), _, rfl, iteB (fun _ => ⟨_, rfl, _, rfl, _, hv, _, rfl, iteB (fun _ => ⟨_, rfl, _, rfl, rfl, by rw [decide_eq_true rfl]; exact k⟩) (fun z => nomatch z)⟩) (fun z => absurd z (by decide))⟩
  | str x =>
    have hv : VT K H (.str x) (.type "str") := .str x
    refine ⟨_, rfl, rfl, _, rfl, iteB (fun z => nomatch z) (fun _ => ?_)⟩
    refine ⟨_, rfl, _, _, _, _, _, rfl, .ty _, hv.tyx, kit_isa hv.tag (by decide), _, rfl, iteB (fun z => absurd z (by decide)) (fun _ => ?_)⟩
    refine ⟨_, rfl, _, _, _, _, _, rfl, .ty _, hv.tyx, kit_isa hv.tag (by decide), _, rfl, iteB (fun z => absurd z (by decide)) (fun _ => ?_)⟩
    refine ⟨_, rfl, _, _, _, _, _, rfl, .ty _, hv.tyx, kit_isa hv.tag (by decide), _, rfl, iteB (fun _ => ⟨_, rfl, _, _, _, _, _, rfl, .ty _, hv.tyx, kit_isa hv.tag (by decide), _, rfl, iteB (fun _ => ⟨_, rfl, _, rfl, rfl, by rw [decide_eq_true rfl]; exact k⟩) (fun z => absurd z (by decide))⟩) (fun z => absurd z (by decide))⟩
  | _ => exact ha.elim
theorem ok__law_same (T : Txt K mg A) : FnOk P w K mg base CX0 3 A.f__law_same A.d__law_same ["told", "due"] (sp__law_same K A) := by
  refine T.F__law_same.ok sc__law_same (fun vs H Q E h => sp2_len h) (fun cdv A0 outer s H vs Q E hr h => ?_)
  have nd := sc__law_same.nd
  refine ⟨_, (pss_cons (ps_if (pt_cmpR op_isN (pv 1) pe_non (nomark _)) (pss_one (ps_ret (pe_cmpR op_isN (pv 0) pe_non (nomark _)))) pss_nil)
      (pss_cons (ps_if (pt_val (pe_callB call_isi (by rfl) T.b_isinstance (by decide +kernel) (pa_cons (pv 1) (pa_cons (pe_bltn (v := .ty "bool") (by rfl) T.b_bool (by decide +kernel) rfl) pa_nil)))) (pss_one (ps_ret (pe_and (pe_callB call_isi (by rfl) T.b_isinstance (by decide +kernel) (pa_cons (pv 0) (pa_cons (pe_bltn (v := .ty "bool") (by rfl) T.b_bool (by decide +kernel) rfl) pa_nil))) (pe_one (pe_cmpR op_eq (pv 0) (pv 1) (nomark _)))))) pss_nil)
      (pss_cons (ps_if (pt_val (pe_callB call_isi (by rfl) T.b_isinstance (by decide +kernel) (pa_cons (pv 1) (pa_cons (pe_bltn (v := .ty "int") (by rfl) T.b_int (by decide +kernel) rfl) pa_nil)))) (pss_one (ps_ret (pe_and (pe_call (ok__law_is_int T) (hr.mono (by decide)) (by rfl) T.mg__law_is_int T.k__law_is_int T.b__law_is_int .nil pass0 (pa_cons (pv 0) pa_nil)) (pe_one (pe_cmpR op_eq (pv 0) (pv 1) (nomark _)))))) pss_nil)
      (pss_cons (ps_if (pt_val (pe_callB call_isi (by rfl) T.b_isinstance (by decide +kernel) (pa_cons (pv 1) (pa_cons (pe_bltn (v := .ty "str") (by rfl) T.b_str (by decide +kernel) rfl) pa_nil)))) (pss_one (ps_ret (pe_and (pe_callB call_isi (by rfl) T.b_isinstance (by decide +kernel) (pa_cons (pv 0) (pa_cons (pe_bltn (v := .ty "str") (by rfl) T.b_str (by decide +kernel) rfl) pa_nil))) (pe_one (pe_cmpR op_eq (pv 0) (pv 1) (nomark _)))))) pss_nil)
      (pss_cons (ps_if (pt_val (pe_callB call_isi (by rfl) T.b_isinstance (by decide +kernel) (pa_cons (pv 1) (pa_cons (pe_bltn (v := .ty "dict") (by rfl) T.b_dict (by decide +kernel) rfl) pa_nil)))) (pss_cons ps_never
      (pss_one ps_never)) pss_nil)
      (pss_cons (ps_if (PW.pt (pw_or (pt_cmpR op_ne (pe_callB call_isi (by rfl) T.b_isinstance (by decide +kernel) (pa_cons (pv 0) (pa_cons (pe_bltn (v := .ty "list") (by rfl) T.b_list (by decide +kernel) rfl) pa_nil))) (pe_callB call_isi (by rfl) T.b_isinstance (by decide +kernel) (pa_cons (pv 1) (pa_cons (pe_bltn (v := .ty "list") (by rfl) T.b_list (by decide +kernel) rfl) pa_nil))) (nomark _)) (pw_or1 (pt_cmpR op_ne (pe_callB call_isi (by rfl) T.b_isinstance (by decide +kernel) (pa_cons (pv 0) (pa_cons (pe_bltn (v := .ty "tuple") (by rfl) T.b_tuple (by decide +kernel) rfl) pa_nil))) (pe_callB call_isi (by rfl) T.b_isinstance (by decide +kernel) (pa_cons (pv 1) (pa_cons (pe_bltn (v := .ty "tuple") (by rfl) T.b_tuple (by decide +kernel) rfl) pa_nil))) (nomark _))))) (pss_one (ps_ret pe_bl)) pss_nil)
      (pss_cons (ps_if (pt_cmpR op_ne (pe_callB call_len (by rfl) T.b_len (by decide +kernel) (pa_cons (pv 0) pa_nil)) (pe_callB call_len (by rfl) T.b_len (by decide +kernel) (pa_cons (pv 1) pa_nil)) (nomark _)) (pss_one (ps_ret pe_bl)) pss_nil)
      (pss_cons (ps_for PassesOwn.never rfl (pi_range1 (by rfl) T.b_range (pa_cons (pe_callB call_len (by rfl) T.b_len (by decide +kernel) (pa_cons (pv 1) pa_nil)) pa_nil)) (pg_name (i := 3) nd rfl (by first | exact Or.inl rfl | exact Or.inr rfl)) (pss_one (ps_if (pt_not (pt_val (pe_call (ok__law_same0 T) (hr.mono (by decide)) (by rfl) T.mg__law_same T.k__law_same T.b__law_same .nil pass0 (pa_cons (pe_ix ix_tup (pv 0) (pv 3) (fun _ _ => rfl)) (pa_cons (pe_ix ix_tup (pv 1) (pv 3) (fun _ _ => rfl)) pa_nil))))) (pss_one (ps_ret pe_bl)) pss_nil)))
      (pss_one (ps_ret pe_bl)))))))))), ?_⟩
  clear nd hr
  replace h := sp2_of h
  obtain ⟨v_told, v_due, rfl, h⟩ := h

  obtain ⟨p, q, xs, rfl, rfl, hp, hq0, ha, hl, k⟩ := h
  have hq : VT K H (.ref q) (.type "tuple") := .tup hq0
  have hpt : VT K H (.ref p) (.type "tuple") := .tup hp
  refine ⟨_, rfl, rfl, _, rfl, iteB (fun z => nomatch z) (fun _ => ?_)⟩
  refine ⟨_, rfl, _, _, _, _, _, rfl, .ty _, hq.tyx, kit_isa hq.tag (by decide), _, rfl, iteB (fun z => absurd z (by decide)) (fun _ => ?_)⟩
  refine ⟨_, rfl, _, _, _, _, _, rfl, .ty _, hq.tyx, kit_isa hq.tag (by decide), _, rfl, iteB (fun z => absurd z (by decide)) (fun _ => ?_)⟩
  refine ⟨_, rfl, _, _, _, _, _, rfl, .ty _, hq.tyx, kit_isa hq.tag (by decide), _, rfl, iteB (fun z => absurd z (by decide)) (fun _ => ?_)⟩
  refine ⟨_, rfl, _, _, _, _, _, rfl, .ty _, hq.tyx, kit_isa hq.tag (by decide), _, rfl, iteB (fun z => absurd z (by decide)) (fun _ => ?_)⟩
  refine ⟨_, rfl, _, _, _, _, _, rfl, .ty _, hpt.tyx, kit_isa hpt.tag (by decide), _, rfl, _, _, _, _, _, rfl, .ty _, hq.tyx, kit_isa hq.tag (by decide), rfl, _, rfl, iteB (fun z => ?_) (fun _ => ?_)⟩
  · rw [decide_eq_true rfl] at z
    cases z
  refine ⟨_, rfl, _, _, _, _, _, rfl, .ty _, hpt.tyx, kit_isa hpt.tag (by decide), _, rfl, _, _, _, _, _, rfl, .ty _, hq.tyx, kit_isa hq.tag (by decide), rfl, _, rfl, iteB (fun z => ?_) (fun _ => ?_)⟩
  · rw [decide_eq_true rfl] at z
    cases z
  refine ⟨_, rfl, _, _, rfl, .inr ⟨_, SqT.of hp, rfl⟩, _, rfl, _, _, rfl, .inr ⟨_, SqT.of hq0, rfl⟩, rfl, _, rfl, iteB (fun z => ?_) (fun _ => ?_)⟩
  · rw [decide_eq_true rfl] at z
    cases z
  refine ⟨_, rfl, _, _, rfl, .inr ⟨_, SqT.of hq0, rfl⟩, xs.length, rfl, by omega, by omega, for_range (n := xs.length) (fun i σ' H' => ∃ kv : Option V, σ' = [some (.ref p), some (.ref q), none, kv] ∧ H' = H) ⟨_, rfl, rfl⟩ ?_ ?_⟩
  · rintro i σ' H' hi ⟨kv, rfl, rfl⟩
    have hat : atI xs (i : Int) = some xs[i] := atI_nat (by simp [hi])
    refine ⟨_, rfl, _, rfl, _, _, _, _, rfl, rfl, SqT.of hp, (by rw [Int.zero_add]; exact hat), _, rfl, _, rfl, _, _, _, _, rfl, rfl, SqT.of hq0, (by rw [Int.zero_add]; exact hat), _, _, rfl, rfl, ha _ (List.getElem_mem hi), _, rfl, iteB (fun z => nomatch z) (fun _ => ⟨_, rfl, rfl⟩)⟩
  · rintro σ' H' ⟨kv, rfl, rfl⟩
    exact k
theorem ok__law_is_bits (T : Txt K mg A) : FnOk P w K mg base CX0 1 A.f__law_is_bits A.d__law_is_bits ["told"] (sp__law_is_bits K A) := by
  refine T.F__law_is_bits.ok sc__law_is_bits (fun vs H Q E h => sp1_len h) (fun cdv A0 outer s H vs Q E hr h => ?_)
  have nd := sc__law_is_bits.nd
  refine ⟨_, (pss_one (ps_ret (pe_and (pe_callB call_isi (by rfl) T.b_isinstance (by decide +kernel) (pa_cons (pv 0) (pa_cons (pe_bltn (v := .ty "str") (by rfl) T.b_str (by decide +kernel) rfl) pa_nil))) (pe_one (pe_cmpR op_eq (pe_callB call_len (by rfl) T.b_len (by decide +kernel) (pa_cons (pe_lc (own := [("sign", 1)]) (g := gName 1) (by rfl) nd (pi_str (pv 0)) (blkOk_by (own := [("sign", 1)]) (N := ["told", "sign"]) (sc := defScope s__law_is_bits) (by decide +kernel)) (fun _ _ _ _ _ => pg_name (i := 1) nd rfl (Or.inl rfl)) (fun _ _ _ _ _ => pts_one (pt_cmpR (op_notIn_seqK (K := K) rfl) (pv 1) (pe_tup (pa_cons pe_str (pa_cons pe_str pa_nil))) (by rfl))) (fun _ _ _ _ _ => (pv 1))) pa_nil)) pe_int (nomark _)))))), ?_⟩
  clear nd hr
  replace h := sp1_of h
  obtain ⟨v_told, rfl, h⟩ := h

  obtain ⟨t, hv, hs, k⟩ := h
  refine ⟨_, rfl, _, _, _, _, _, rfl, .ty _, hv.tyx, kit_isa hv.tag (by decide), _, rfl, iteB (fun h1 => ?_) (fun h1 => ?_)⟩
  · obtain ⟨x, rfl⟩ := str_of hv h1
    have hl := short_le hs
    refine ⟨_, rfl, x, rfl, fun D hD => lc_it walk_str (fun i H' => ∃ acc : List V, H' D = some (.lst acc) ∧ acc.length ≤ i ∧ decide (acc.length = 0) = (x.cps.toList.take i).all (fun c => decide (c = 48) || decide (c = 49)) ∧ Same H H') ⟨[], upd_same, Nat.le_refl 0, rfl, same_new hD⟩ (fun _ _ _ _ => trivial) ?_ ?_⟩
    · rintro i y H0 H1 hi ⟨acc, ha, hla, hd, e⟩ ⟨rfl, c, hc, rfl⟩
      have hc2 : x.cps.toList[i]? = some c := by rw [Array.getElem?_toList]; exact hc
      refine ⟨rfl, _, rfl, (by show 2 ≤ sizeLine; rw [sizeLine_eq]; decide), fun p hp => ⟨p, _, rfl, .inr (SqT.of upd_same), rfl, rfl, _, rfl, ?_⟩⟩
      have nD : D ≠ p := ne_of_none ha hp
      have e2 : Same H (upd H1 p (.tup [.str "0", .str "1"])) := e.trans (same_new hp)
      have ha2 : upd H1 p (.tup [.str "0", .str "1"]) D = some (.lst acc) := by rw [upd_ne nD]; exact ha
      rw [show (if true = true then !inV (V.str ⟨#[c]⟩) [.str "0", .str "1"] else inV (V.str ⟨#[c]⟩) [.str "0", .str "1"]) = !(decide (c = 48) || decide (c = 49)) from by rw [if_pos rfl, inV_bits]]
      refine iteB (fun g => ?_) (fun g => ?_)
      · refine ⟨_, rfl, acc, ha2, by rw [sizeLine_eq]; have : x.cps.size = x.length := rfl; have hs2 : x.length ≤ 1000000 := hs; omega, _, upd_same, by rw [List.length_append]; show acc.length + 1 ≤ i + 1; omega, ?_, same_put hD e2⟩
        rw [all_take hc2, not_t g, Bool.and_false]
        rw [decide_eq_false]
        rw [List.length_append]
        exact fun z => by simp at z
      · refine ⟨acc, ha2, by omega, ?_, e2⟩
        rw [all_take hc2, hd, not_f g, Bool.and_true]
    · rintro H1 ⟨acc, ha, hla, hd, e⟩
      refine ⟨_, _, rfl, .inl ⟨acc, SqL.of ha, rfl⟩, rfl, ?_⟩
      have q : decide (V.int (acc.length : Nat) = V.int 0) = okBits (.str x) := by
        rw [dI]
        have h2 : decide (acc.length = 0) = okBits (.str x) := hd.trans (by
          show (x.cps.toList.take x.cps.size).all _ = x.cps.toList.all _
          rw [← Array.length_toList, List.take_length])
        rw [← h2]
        exact decide_eq_decide.mpr (by omega)
      rw [q]
      exact k H1 e
  · rw [(nstr_of hv h1).1] at k
    exact k H fun _ _ z => z
theorem ok__law_start (T : Txt K mg A) : FnOk P w K mg base CX0 1 A.f__law_start A.d__law_start ["script"] (sp__law_start K A) := by
  refine T.F__law_start.ok sc__law_start (fun vs H Q E h => sp1_len h) (fun cdv A0 outer s H vs Q E hr h => ?_)
  have nd := sc__law_start.nd
  refine ⟨_, (pss_one (ps_ret (pe_lst (pa_cons (pe_callTy call_list_of (by rfl) T.b_list (by decide +kernel) (pa_cons (pv 0) pa_nil)) (pa_cons pe_int (pa_cons pe_int (pa_cons pe_int pa_nil))))))), ?_⟩
  clear nd hr
  replace h := sp1_of h
  obtain ⟨v_script, rfl, h⟩ := h

  obtain ⟨l, ns, rfl, hl, hn, k⟩ := h
  refine ⟨_, rfl, l, _, rfl, .inl hl, fun q hq => ⟨by show 4 ≤ sizeLine; rw [sizeLine_eq]; decide, fun p hp => ?_⟩⟩
  have nqp : q ≠ p := fun z => by rw [← z, upd_same] at hp; cases hp
  have hp0 : H p = none := by rw [upd_ne nqp.symm] at hp; exact hp
  refine k ⟨p, q, ns⟩ _ hp0 hq (fun b u e => ?_) ⟨0, 0, 1234577, nqp, upd_same, ?_, Nat.zero_le _, hn, by decide, by decide, by decide⟩
  · rw [upd_ne (ne_of_none e hp0), upd_ne (ne_of_none e hq)]
    exact e
  · show upd _ p _ q = _
    rw [upd_ne nqp, upd_same]
theorem ok__law_pull (T : Txt K mg A) : FnOk P w K mg base CX0 1 A.f__law_pull A.d__law_pull ["state", "many"] (sp__law_pull K A) := by
  refine T.F__law_pull.ok sc__law_pull (fun vs H Q E h => sp2_len h) (fun cdv A0 outer s H vs Q E hr h => ?_)
  have nd := sc__law_pull.nd
  refine ⟨_, (Evl.pss_cut (ps_if (PW.pt (pw_and (pt_cmpR op_eq (pe_ix ix_list (pv 0) pe_int (fun _ _ => rfl)) pe_int (nomark _)) (pw_and1 (pt_cmpR op_lt (pe_ix ix_list (pv 0) pe_int (fun _ _ => rfl)) (pe_callB call_len (by rfl) T.b_len (by decide +kernel) (pa_cons (pe_ix ix_list (pv 0) pe_int (fun _ _ => rfl)) pa_nil)) (nomark _))))) (pss_cons (ps_set (i := 2) nd rfl (by first | exact Or.inl rfl | exact Or.inr rfl) (pe_ix ix_list (pe_ix ix_list (pv 0) pe_int (fun _ _ => rfl)) (pe_ix ix_list (pv 0) pe_int (fun _ _ => rfl)) (fun _ _ => rfl)))
      (pss_cons (ps_asg (pe_op op_add (pe_ix ix_list (pv 0) pe_int (fun _ _ => rfl)) pe_int) (pg_sub (pv 0) pe_int set_list))
      (pss_one (ps_if (pt_cmpR op_ge (pv 2) (pe_op op_pow pe_int pe_int) (nomark _)) (pss_one (ps_asg (pv 2) (pg_sub (pv 0) pe_int set_list))) (pss_one (ps_asg (pe_op op_mod (pe_callTy call_int1 (by rfl) T.b_int (by decide +kernel) (pa_cons (pe_op op_add (pe_op op_add (pe_op op_mul (pe_ix ix_list (pv 0) pe_int (fun _ _ => rfl)) pe_int) (pe_op op_mod (pe_callTy call_int1 (by rfl) T.b_int (by decide +kernel) (pa_cons (pv 2) pa_nil)) pe_int)) pe_int) pa_nil)) pe_int) (pg_sub (pv 0) pe_int set_list))))))) pss_nil)
      (pss_cons (ps_if (pt_cmpR op_gt (pe_ix ix_list (pv 0) pe_int (fun _ _ => rfl)) pe_int (nomark _)) (pss_cons (ps_set (i := 3) nd rfl (by first | exact Or.inl rfl | exact Or.inr rfl) (pe_op op_mod (pe_callTy call_int1 (by rfl) T.b_int (by decide +kernel) (pa_cons (pe_ix ix_list (pv 0) pe_int (fun _ _ => rfl)) pa_nil)) (pv 1)))
      (pss_cons (ps_asg (pe_op op_fdivW (pe_ix ix_list (pv 0) pe_int (fun _ _ => rfl)) (pv 1)) (pg_sub (pv 0) pe_int set_list))
      (pss_one (ps_ret (pv 3))))) pss_nil)
      (pss_cons (ps_asg (pe_op op_mod (pe_callTy call_int1 (by rfl) T.b_int (by decide +kernel) (pa_cons (pe_op op_add (pe_op op_mul (pe_ix ix_list (pv 0) pe_int (fun _ _ => rfl)) pe_int) pe_int) pa_nil)) pe_int) (pg_sub (pv 0) pe_int set_list))
      (pss_cons (ps_set (i := 3) nd rfl (by first | exact Or.inl rfl | exact Or.inr rfl) (pe_op op_mod (pe_callTy call_int1 (by rfl) T.b_int (by decide +kernel) (pa_cons (pe_op op_add (pe_op op_mul (pe_ix ix_list (pv 0) pe_int (fun _ _ => rfl)) pe_int) (pe_op op_fdivW (pe_ix ix_list (pv 0) pe_int (fun _ _ => rfl)) pe_int)) pa_nil)) pe_int))
      (pss_one (ps_ret (pe_op op_mod (pe_callTy call_int1 (by rfl) T.b_int (by decide +kernel) (pa_cons (pe_op op_fdivW (pv 3) pe_int) pa_nil)) (pv 1)))))))), ?_⟩
  clear nd hr
  replace h := sp2_of h
  obtain ⟨v_state, v_many, rfl, h⟩ := h

  obtain ⟨d, many, rfl, rfl, ⟨i, c, s, R⟩, hm, hlog, k⟩ := h
  refine ⟨fun σ' H' => ∃ (v : Option V) (j : Nat) (x t : Int), σ' = [some (.ref d.p), some (.int many), v, none] ∧ Chg d H H' ∧ RngL H' d j x t, ?_, ?_⟩
  · refine ⟨_, rfl, _, _, _, _, rfl, rfl, SqL.of R.st, rfl, rfl, _, rfl, ?_⟩
    refine ite2 (fun hc0 => ?_) (fun _ => iteF ⟨none, i, c, s, rfl, Chg.refl, R⟩)
    refine ⟨_, rfl, _, _, _, _, rfl, rfl, SqL.of R.st, rfl, _, rfl, _, _, _, _, rfl, rfl, SqL.of R.st, rfl, _, _, rfl, .inl ⟨_, SqL.of R.ls, rfl⟩, _, _, rfl, rfl, _, rfl, ?_⟩
    refine ite2 (fun hlt => ?_) (fun _ => ⟨none, i, c, s, rfl, Chg.refl, R⟩)
    have hi : i < d.ns.length := by
      have q := of_decide_eq_true hlt
      rw [List.length_map] at q
      omega
    have hat : atI (d.ns.map V.int) (i : Int) = some (.int d.ns[i]) := atI_nat (by simp [hi])
    refine ⟨_, rfl, _, _, _, _, rfl, rfl, SqL.of R.st, rfl, _, rfl, _, _, _, _, rfl, rfl, SqL.of R.st, rfl, _, _, _, _, rfl, rfl, SqL.of R.ls, hat, ?_⟩
    refine ⟨_, rfl, _, _, _, _, rfl, rfl, SqL.of R.st, rfl, _, _, rfl, rfl, _, rfl, _, _, _, _, rfl, rfl, R.st, rfl, ?_⟩
    have R1 : RngL (upd H d.p (.lst [.ref d.l, .int ((i + 1 : Nat) : Int), .int c, .int s])) d (i + 1) c s := R.set hi R.hc R.hs R.hs2
    have e1 : Chg d H (upd H d.p (.lst [.ref d.l, .int ((i + 1 : Nat) : Int), .int c, .int s])) := Chg.upd
    refine heap_gen (fun H1 => RngL H1 d (i + 1) c s ∧ Chg d H H1) ⟨R1, e1⟩ fun H1 ⟨R1, e1⟩ => ?_
    refine ⟨_, rfl, _, _, rfl, rfl, ⟨by decide, by decide, by decide⟩, _, _, rfl, rfl, _, rfl, ?_⟩
    refine ite2 (fun hge => ?_) (fun _ => ?_)
    · have h0 : 0 ≤ d.ns[i] := by
        have q := of_decide_eq_true hge
        have e : ((10 : Int) ^ ((18 : Int).toNat)) = 1000000000000000000 := by decide
        rw [e] at q
        omega
      refine ⟨_, rfl, _, rfl, _, _, _, _, rfl, rfl, R1.st, rfl, ?_⟩
      exact ⟨_, i + 1, d.ns[i], s, rfl, e1.trans Chg.upd, R1.set R1.hi h0 R1.hs R1.hs2⟩
    · refine ⟨_, rfl, _, _, _, _, rfl, rfl, SqL.of R1.st, rfl, _, _, rfl, rfl, .inl ⟨by have := R1.hs; omega, by have := R1.hs2; omega⟩, _, rfl, .inl ⟨_, rfl, _, _, rfl, rfl, pos_ (by decide), _, _, rfl, rfl, _, _, rfl, rfl, .inl ⟨_, rfl, _, _, rfl, rfl, pos_ (by decide), ?_⟩⟩⟩
      refine ⟨_, rfl, _, _, _, _, rfl, rfl, R1.st, rfl, ?_⟩
      exact ⟨_, i + 1, c, _, rfl, e1.trans Chg.upd, R1.set R1.hi R1.hc (Int.emod_nonneg _ (by decide)) (Int.emod_lt_of_pos _ (by decide))⟩
  · rintro σ' H' ⟨v, j, x, t, rfl, e1, R1⟩
    refine ⟨_, rfl, _, _, _, _, rfl, rfl, SqL.of R1.st, rfl, _, _, rfl, rfl, _, rfl, ?_⟩
    refine ite2 (fun hd => ?_) (fun _ => ?_)
    · refine ⟨_, rfl, _, _, _, _, rfl, rfl, SqL.of R1.st, rfl, .inl ⟨_, rfl, _, rfl, _, _, rfl, rfl, hm, ?_⟩⟩
      refine ⟨_, rfl, _, _, _, _, rfl, rfl, SqL.of R1.st, rfl, _, rfl, _, _, rfl, rfl, ⟨hm, hlog⟩, _, rfl, _, _, _, _, rfl, rfl, R1.st, rfl, _, rfl, ?_⟩
      exact k _ _ (Int.emod_nonneg _ (by omega)) (Int.emod_lt_of_pos _ hm) (e1.trans Chg.upd) ⟨_, _, _, R1.set R1.hi (Int.ediv_nonneg R1.hc (Int.le_of_lt hm)) R1.hs R1.hs2⟩
    · refine ⟨_, rfl, _, _, _, _, rfl, rfl, SqL.of R1.st, rfl, _, _, rfl, rfl, .inl ⟨by have := R1.hs; omega, by have := R1.hs2; omega⟩, _, _, rfl, rfl, .inl ⟨_, rfl, _, _, rfl, rfl, pos_ (by decide), _, rfl, _, _, _, _, rfl, rfl, R1.st, rfl, ?_⟩⟩
      have R2 := R1.set (j := j) (x := x) R1.hi R1.hc (Int.emod_nonneg ((t * 69621 + 11)) (by decide : (2147483647 : Int) ≠ 0)) (Int.emod_lt_of_pos (t * 69621 + 11) (by decide : (0 : Int) < 2147483647))
      have e2 := e1.trans (Chg.upd (o := .lst [.ref d.l, .int (j : Int), .int x, .int ((t * 69621 + 11) % 2147483647)]))
      refine heap_gen (fun H2 => RngL H2 d j x ((t * 69621 + 11) % 2147483647) ∧ Chg d H H2) ⟨R2, e2⟩ fun H2 ⟨R2, e2⟩ => ?_
      generalize (t * 69621 + 11) % 2147483647 = t2 at R2
      refine ⟨_, rfl, _, _, _, _, rfl, rfl, SqL.of R2.st, rfl, _, _, rfl, rfl, .inl ⟨by have := R2.hs; omega, by have := R2.hs2; omega⟩, _, rfl, _, _, _, _, rfl, rfl, SqL.of R2.st, rfl, _, _, rfl, rfl, ⟨by decide, small_log (by decide) (by decide)⟩, _, _, rfl, rfl, .inl ⟨_, rfl, _, _, rfl, rfl, pos_ (by decide), ?_⟩⟩
      refine ⟨_, rfl, _, _, rfl, rfl, ⟨by decide, small_log (by decide) (by decide)⟩, .inl ⟨_, rfl, _, rfl, _, _, rfl, rfl, hm, ?_⟩⟩
      exact k _ _ (Int.emod_nonneg _ (by omega)) (Int.emod_lt_of_pos _ hm) e2 ⟨_, _, _, R2⟩
theorem ok__law_row (T : Txt K mg A) : FnOk P w K mg base CX0 2 A.f__law_row A.d__law_row ["state", "many"] (sp__law_row K A) := by
  refine T.F__law_row.ok sc__law_row (fun vs H Q E h => sp2_len h) (fun cdv A0 outer s H vs Q E hr h => ?_)
  have nd := sc__law_row.nd
  refine ⟨_, (pss_one (ps_ret (pe_join pe_str (pe_lc (own := [("k", 2)]) (g := gName 2) (tt := tYes) (by rfl) nd (pi_range1 (by rfl) T.b_range (pa_cons (pv 1) pa_nil)) (blkOk_by (own := [("k", 2)]) (N := ["state", "many", "k"]) (sc := defScope s__law_row) (by decide +kernel)) (fun _ _ _ _ _ => pg_name (i := 2) nd rfl (Or.inl rfl)) (fun _ _ _ _ _ => pts_nil) (fun _ _ _ _ _ => (pe_callTy call_str_int (by rfl) T.b_str (by decide +kernel) (pa_cons (pe_call (ok__law_pull T) (hr.mono (by decide)) (by rfl) T.mg__law_pull T.k__law_pull T.b__law_pull .nil pass0 (pa_cons (pv 0) (pa_cons pe_int pa_nil))) pa_nil))))))), ?_⟩
  clear nd hr
  replace h := sp2_of h
  obtain ⟨v_state, v_many, rfl, h⟩ := h

  obtain ⟨d, n, rfl, rfl, hn, r, k⟩ := h
  refine ⟨⟨_, rfl⟩, ?_⟩
  refine lc_draw (d := d) (fun m => m = n) (Sign bit) (fun _ _ _ _ h => h) (fun x => rfl) (fun m e => by omega) (fun R h => ⟨_, rfl, h n H rfl Chg.refl r⟩) (fun x H1 Q1 r1 e1 h1 => ?_) (fun m D xs H' e nDp nDl hD hl hf hxs e2 r2 => ?_)
  · refine ⟨_, rfl, _, _, rfl, d, _, rfl, rfl, r1, by decide, small_log (by decide) (by decide), fun v H2 h0 hv e2 r2 => ?_⟩
    have hv2 : v = 0 ∨ v = 1 := by omega
    refine ⟨_, rfl, by rcases hv2 with rfl | rfl <;> decide, h1 _ _ ?_ e2 r2⟩
    rcases hv2 with rfl | rfl
    · exact ⟨48, .inl rfl, by first | rfl | (congr 1; decide +kernel)⟩
    · exact ⟨49, .inr rfl, by first | rfl | (congr 1; decide +kernel)⟩
  · obtain ⟨cs, rfl, hcs, hl2⟩ := signs_of hf
    refine ⟨_, D, cs.map fun c => (⟨#[c]⟩ : Str), rfl, rfl, .inl (SqL.of hxs), ?_, ?_⟩
    · rw [sum_signs]
      have : (Str.ofString "").length = 0 := by decide +kernel
      rw [this, List.length_map]
      rw [List.length_map, List.length_map] at hl
      omega
    · rw [join_signs _ tl_empty]
      refine k cs H' ?_ hcs e2 r2
      rw [← e, ← hl, List.length_map, List.length_map]
theorem ok__law_place (T : Txt K mg A) : FnOk P w K mg base CX0 2 A.f__law_place A.d__law_place ["thing", "many"] (sp__law_place K A) := by
  refine T.F__law_place.ok sc__law_place (fun vs H Q E h => sp2_len h) (fun cdv A0 outer s H vs Q E hr h => ?_)
  have nd := sc__law_place.nd
  refine ⟨_, (pss_one (ps_ret (pe_and (pe_call (ok__law_is_int T) (hr.mono (by decide)) (by rfl) T.mg__law_is_int T.k__law_is_int T.b__law_is_int .nil pass0 (pa_cons (pv 0) pa_nil)) (pe_and (pe_cmpR op_le pe_int (pv 0) (nomark _)) (pe_one (pe_cmpR op_lt (pv 0) (pv 1) (nomark _))))))), ?_⟩
  clear nd hr
  replace h := sp2_of h
  obtain ⟨v_thing, v_many, rfl, h⟩ := h

  obtain ⟨t, n, ht, rfl, k⟩ := h
  refine ⟨_, rfl, _, rfl, t, ht, _, rfl, iteB (fun h1 => ?_) (fun h1 => ?_)⟩
  · obtain ⟨i, rfl⟩ := int_ex h1
    have e : okAt (.int i) n = (decide (0 ≤ i) && decide (i < n)) := rfl
    rw [e] at k
    refine ⟨_, rfl, _, _, rfl, rfl, _, rfl, iteB (fun h2 => ?_) (fun h2 => ?_)⟩
    · rw [h2, Bool.true_and] at k
      exact ⟨_, rfl, _, rfl, _, _, rfl, rfl, k⟩
    · rw [h2, Bool.false_and] at k
      exact k
  · have e : okAt v_thing n = false := by unfold okAt; rw [h1]; rfl
    rw [e] at k
    exact k
theorem ok__law_one_due (T : Txt K mg A) : FnOk P w K mg base CX0 3 A.f__law_one_due A.d__law_one_due ["bits", "at", "more", "good"] (sp__law_one_due K A) := by
  refine T.F__law_one_due.ok sc__law_one_due (fun vs H Q E h => sp4_len h) (fun cdv A0 outer s H vs Q E hr h => ?_)
  have nd := sc__law_one_due.nd
  refine ⟨_, (pss_cons (ps_if (pt_not (pt_val (pe_call (ok__law_is_bits T) (hr.mono (by decide)) (by rfl) T.mg__law_is_bits T.k__law_is_bits T.b__law_is_bits .nil pass0 (pa_cons (pv 0) pa_nil)))) (pss_one (ps_ret (pe_tup (pa_cons pe_str (pa_cons pe_bl pa_nil))))) pss_nil)
      (pss_cons (ps_if (pt_not (pt_val (pe_call (ok__law_place T) (hr.mono (by decide)) (by rfl) T.mg__law_place T.k__law_place T.b__law_place .nil pass0 (pa_cons (pv 1) (pa_cons (pe_op op_add (pe_callB call_len_str (by rfl) T.b_len (by decide +kernel) (pa_cons (pv 0) pa_nil)) (pv 2)) pa_nil))))) (pss_one (ps_ret (pe_tup (pa_cons pe_str (pa_cons pe_str (pa_cons pe_bl pa_nil)))))) pss_nil)
      (pss_cons (ps_if (pt_not (pt_val (pv 3))) (pss_one (ps_ret (pe_tup (pa_cons pe_str (pa_cons pe_bl pa_nil))))) pss_nil)
      (pss_one (ps_ret pe_non))))), ?_⟩
  clear nd hr
  replace h := sp4_of h
  obtain ⟨v_bits, v_at, v_more, v_good, rfl, h⟩ := h

  obtain ⟨tb, ta, n, gb, hb, ha, sb, rfl, rfl, k⟩ := h
  refine ⟨_, rfl, _, rfl, tb, hb, sb, fun H1 e1 => ⟨_, rfl, iteB (fun h1 => ?_) (fun h1 => ?_)⟩⟩
  · rw [show dueO v_bits v_at n gb = some .none from if_pos (not_t h1)] at k
    exact ⟨(by show 2 ≤ sizeLine; rw [sizeLine_eq]; decide), fun q hq => k q _ (e1.trans (same_new hq)) upd_same⟩
  have n1 : ¬ okBits v_bits = false := by rw [not_f h1]; decide
  obtain ⟨x, rfl⟩ := okBits_str (not_f h1)
  have hx : x.length ≤ 1000000 := sb
  have n1 : ¬ okBits (.str x) = false := n1
  refine ⟨_, rfl, _, rfl, x, rfl, short_le sb, _, rfl, _, _, rfl, rfl, _, _, rfl, ta, _, ha.keep (KK.same e1), rfl, _, rfl, iteB (fun h2 => ?_) (fun h2 => ?_)⟩
  · rw [show dueO (.str x) v_at n gb = some .num from (if_neg n1).trans (if_pos (not_t h2))] at k
    exact ⟨(by show 3 ≤ sizeLine; rw [sizeLine_eq]; decide), fun q hq => k q _ (e1.trans (same_new hq)) upd_same⟩
  have n2 : ¬ okAt v_at (slen (.str x) + n) = false := by rw [show okAt v_at (slen (.str x) + n) = true from not_f h2]; decide
  refine ⟨_, rfl, _, rfl, iteB (fun h3 => ?_) (fun h3 => ?_)⟩
  · rw [show dueO (.str x) v_at n gb = some .none from (if_neg n1).trans ((if_neg n2).trans (if_pos (not_t h3)))] at k
    exact ⟨(by show 2 ≤ sizeLine; rw [sizeLine_eq]; decide), fun q hq => k q _ (e1.trans (same_new hq)) upd_same⟩
  · rw [show dueO (.str x) v_at n gb = none from (if_neg n1).trans ((if_neg n2).trans (if_neg (by rw [not_f h3]; decide)))] at k
    exact k _ e1

theorem out_gives {X : Cx} {A : Ad} (T : Txt X.K X.mg A) {g : Addr} {cdg : Value} {q : Str} : LamX.GivesTo X N__law_outcome "_law_outcome" (defScope s__law_outcome) g cdg (defBody s__law_outcome) "call" q (TTo A) := by
  intro f c' s H Q tl act hc h
  have nd := sc__law_outcome.nd
  refine ⟨_, (pss_cons (ps_try_manyA rfl rfl nd takes0 (fun W pn xe tk pw => (pss_one (ps_set (i := 1) nd rfl (by first | exact Or.inl rfl | exact Or.inr rfl) (act_weak (n := 3) (W := W) fun E hE => act (fun c d z h => z.length = 3 → W c d z h) pn xe E _ _ (Takes.long tk) hE)))) (.cons ⟨rfl, by decide, Or.inl T.mg_NoBits⟩ (i := 2) rfl rfl (fun a oe cls d pn hz hf => (pss_one (ps_ret (pe_tup (pa_cons pe_str (pa_cons (pe_and (pe_callB (call_isD hz hf) (by rfl) T.b_isinstance (by decide +kernel) (pa_cons (pv 2) (pa_cons (pe_glob (v := .ref A.c_RoomError) (by rfl) T.mg_RoomError rfl) pa_nil))) (pe_one (pe_not (pe_callB (call_isD hz hf) (by rfl) T.b_isinstance (by decide +kernel) (pa_cons (pv 2) (pa_cons (pe_glob (v := .ref A.c_BadNumber) (by rfl) T.mg_BadNumber rfl) pa_nil)))))) pa_nil)))))) (.cons ⟨rfl, by decide, Or.inl T.mg_BadNumber⟩ (i := 2) rfl rfl (fun a oe cls d pn hz hf => (pss_one (ps_ret (pe_tup (pa_cons pe_str (pa_cons (pe_xf T.xf_BadNumber T.nx_BadNumber_part hz hf (pv 2)) (pa_cons (pe_and (pe_callB (call_isD hz hf) (by rfl) T.b_isinstance (by decide +kernel) (pa_cons (pv 2) (pa_cons (pe_glob (v := .ref A.c_RoomError) (by rfl) T.mg_RoomError rfl) pa_nil))) (pe_one (pe_not (pe_callB (call_isD hz hf) (by rfl) T.b_isinstance (by decide +kernel) (pa_cons (pv 2) (pa_cons (pe_glob (v := .ref A.c_NoBits) (by rfl) T.mg_NoBits rfl) pa_nil)))))) pa_nil))))))) .nil)))
      (pss_one (ps_ret (pe_tup (pa_cons pe_str (pa_cons (pv 1) pa_nil)))))), ?_⟩
  clear nd act
  refine ⟨_, _, fun cls d H' he z hz => ?_, fun v H1 k => ?_, rfl, hc, h⟩
  · obtain ⟨z0, z1, z2, rfl⟩ : ∃ a b c, z = [a, b, c] := by
      match z, hz with
      | [a, b, c], _ => exact ⟨a, b, c, rfl⟩
    rcases he with ⟨rfl, rfl, k⟩ | ⟨rfl, dd, rfl, hd, k⟩
    · refine ⟨true, T.te_NoBits, fun _ a ha => ?_, fun z => nomatch z⟩
      exact ⟨_, rfl, _, _, _, _, rfl, T.xd_NoBits, rfl, rel_ref, T.ki_NoBits_RoomError, .inl rfl, _, rfl, iteB (fun _ => ⟨_, rfl, _, _, _, _, rfl, T.xd_NoBits, rfl, rel_ref, T.ki_NoBits_BadNumber, .inl rfl, _, rfl, (by show 2 ≤ sizeLine; rw [sizeLine_eq]; decide), k⟩) (fun z => nomatch z)⟩
    · refine ⟨false, T.em_BN, fun z => (nomatch z), fun _ => ⟨true, T.te_BadNumber, fun _ a ha => ?_, fun z => nomatch z⟩⟩
      exact ⟨_, rfl, rfl, rfl, dd, _, .str "at", rfl, hd, by simp [List.lookup], _, rfl, _, _, _, _, rfl, T.xd_BadNumber, rfl, rel_ref, T.ki_BadNumber_RoomError, .inr ⟨dd, _, rfl, hd⟩, _, rfl, iteB (fun _ => ⟨_, rfl, _, _, _, _, rfl, T.xd_BadNumber, rfl, rel_ref, T.ki_BadNumber_NoBits, .inr ⟨dd, _, rfl, hd⟩, _, rfl, (by show 3 ≤ sizeLine; rw [sizeLine_eq]; decide), k⟩) (fun z => nomatch z)⟩
  · exact ⟨_, rfl, (by show 2 ≤ sizeLine; rw [sizeLine_eq]; decide), k⟩
theorem kb0_turned {K : PySem.W.Frag} {mg : Str → Option Value} {A : Ad} (T : Txt K mg A) : KBn K A.d_turned ["bits", "at"] 0 ["at", "bits"] (fun us ws => pick [1, 0] (us ++ ws)) (fun vs zs => pick [1, 0] (vs ++ zs)) :=
  fun_kbn [1, 0] T.F_turned fun _ _ _ _ _ _ us ws h1 h2 => match us, ws, h1, h2 with | [], [_, _], _, _ => rfl
theorem kb1_dropped {K : PySem.W.Frag} {mg : Str → Option Value} {A : Ad} (T : Txt K mg A) : KBn K A.d_dropped ["bits", "at"] 0 ["at", "bits"] (fun us ws => pick [1, 0] (us ++ ws)) (fun vs zs => pick [1, 0] (vs ++ zs)) :=
  fun_kbn [1, 0] T.F_dropped fun _ _ _ _ _ _ us ws h1 h2 => match us, ws, h1, h2 with | [], [_, _], _, _ => rfl
theorem kb2_put {K : PySem.W.Frag} {mg : Str → Option Value} {A : Ad} (T : Txt K mg A) : KBn K A.d_put ["bits", "at", "bit"] 0 ["bit", "at", "bits"] (fun us ws => pick [2, 1, 0] (us ++ ws)) (fun vs zs => pick [2, 1, 0] (vs ++ zs)) :=
  fun_kbn [2, 1, 0] T.F_put fun _ _ _ _ _ _ us ws h1 h2 => match us, ws, h1, h2 with | [], [_, _, _], _, _ => rfl
theorem ok__law_asked (TB : LamX.TabB base mg A.tc A.tp) (T : Txt K mg A) : FnOk P w K mg base CX0 9 A.f__law_asked A.d__law_asked ["bits", "at", "bit"] (sp__law_asked K A) := by
  obtain ⟨oc, od, kV, doc, pm, an, cdv, ct, osl, efd, lk, hcg⟩ := T.F__law_outcome.ex
  have hbo := T.b__law_outcome
  rw [efd] at lk hbo
  obtain ⟨oc1, od1, kV1, doc1, pm1, an1, cdv1, ct1, osl1, efd1, lk1, hcg1⟩ := T.F__law_asked.ex
  obtain ⟨c1, rfl⟩ := He.codeIn_ref hcg1
  have etc : A.tc = c1 := T.tcode _ _ _ _ _ lk1 (by rw [efd1])
  subst etc
  rw [efd1] at lk1 ⊢
  refine fn_of lk1 hcg1 sc__law_asked (fun vs H Q E h => sp3_len h) (fun A0 outer s H vs Q E hr h => ?_)
  have nd := sc__law_asked.nd
  refine ⟨_, PSs.nox ((pss_cons (ps_set (i := 3) nd rfl (by first | exact Or.inl rfl | exact Or.inr rfl) (LamX.pe_lamcall (T := TT A) (TT := TTo A) (k := 6) (by rfl) T.mg__law_outcome T.k__law_outcome lk hcg hbo sc__law_outcome rfl (Or.inl rfl) (out_gives T) TB rfl (List.mem_cons_self ..) (fun p hp e => by rcases List.mem_singleton.mp hp with rfl; rfl) (hr.mono (by decide)) (LamX.lamS_by (sc := defScope s__law_asked) (by decide +kernel)) rfl (fun _ _ _ _ _ => rfl) (fun A1 outer1 s1 H1 E1 f1 c1 hr1 => (by exact (pe_callS (ok_turned T) (hr1.mono (by decide)) (by rfl) T.mg_turned T.k_turned T.b_turned (fun z => passAt (W := fun cls d _ H => E1 cls d H) (takes_of rfl rfl rfl rfl) z) (by exact (pa_cons (pv 0) (pa_cons (pv 1) pa_nil))))))))
      (pss_cons (ps_set (i := 4) nd rfl (by first | exact Or.inl rfl | exact Or.inr rfl) (LamX.pe_lamcall (T := TT A) (TT := TTo A) (k := 6) (by rfl) T.mg__law_outcome T.k__law_outcome lk hcg hbo sc__law_outcome rfl (Or.inl rfl) (out_gives T) TB rfl (List.mem_cons_self ..) (fun p hp e => by rcases List.mem_singleton.mp hp with rfl; rfl) (hr.mono (by decide)) (LamX.lamS_by (sc := defScope s__law_asked) (by decide +kernel)) rfl (fun _ _ _ _ _ => rfl) (fun A1 outer1 s1 H1 E1 f1 c1 hr1 => (by exact (pe_callS (ok_dropped T) (hr1.mono (by decide)) (by rfl) T.mg_dropped T.k_dropped T.b_dropped (fun z => passAt (W := fun cls d _ H => E1 cls d H) (takes_of rfl rfl rfl rfl) z) (by exact (pa_cons (pv 0) (pa_cons (pv 1) pa_nil))))))))
      (pss_cons (ps_set (i := 5) nd rfl (by first | exact Or.inl rfl | exact Or.inr rfl) (LamX.pe_lamcall (T := TT A) (TT := TTo A) (k := 6) (by rfl) T.mg__law_outcome T.k__law_outcome lk hcg hbo sc__law_outcome rfl (Or.inl rfl) (out_gives T) TB rfl (List.mem_cons_self ..) (fun p hp e => by rcases List.mem_singleton.mp hp with rfl; rfl) (hr.mono (by decide)) (LamX.lamS_by (sc := defScope s__law_asked) (by decide +kernel)) rfl (fun _ _ _ _ _ => rfl) (fun A1 outer1 s1 H1 E1 f1 c1 hr1 => (by exact (pe_callS (ok_put T) (hr1.mono (by decide)) (by rfl) T.mg_put T.k_put T.b_put (fun z => passAt (W := fun cls d _ H => E1 cls d H) (takes_of rfl rfl rfl rfl) z) (by exact (pa_cons (pv 0) (pa_cons (pv 1) (pa_cons (pv 2) pa_nil)))))))))
      (Evl.pss_cut (ps_set (i := 6) nd rfl (by first | exact Or.inl rfl | exact Or.inr rfl) (pe_call (ok__law_one_due T) (hr.mono (by decide)) (by rfl) T.mg__law_one_due T.k__law_one_due T.b__law_one_due .nil pass0 (pa_cons (pv 0) (pa_cons (pv 1) (pa_cons pe_int (pa_cons pe_bl pa_nil))))))
      (Evl.pss_cut (ps_if (pt_cmpR op_notN (pv 6) pe_non (nomark _)) (pss_one (ps_if (PW.pt (pw_or (pt_not (pt_val (pe_call (ok__law_same T) (hr.mono (by decide)) (by rfl) T.mg__law_same T.k__law_same T.b__law_same .nil pass0 (pa_cons (pv 3) (pa_cons (pv 6) pa_nil))))) (pw_or1 (pt_not (pt_val (pe_call (ok__law_same T) (hr.mono (by decide)) (by rfl) T.mg__law_same T.k__law_same T.b__law_same .nil pass0 (pa_cons (pv 4) (pa_cons (pv 6) pa_nil)))))))) (pss_one (ps_ret pe_bl)) pss_nil)) (Evl.pss_cut (ps_set (i := 7) nd rfl (by first | exact Or.inl rfl | exact Or.inr rfl) (pe_ifExp (pt_cmpR op_eq (pe_ix ix_str (pv 0) (pv 1) (fun _ _ => rfl)) pe_str (nomark _)) pe_str pe_str))
      (pss_cons (ps_if (pt_not (pt_val (pe_call (ok__law_same T) (hr.mono (by decide)) (by rfl) T.mg__law_same T.k__law_same T.b__law_same .nil pass0 (pa_cons (pv 3) (pa_cons (pe_tup (pa_cons pe_str (pa_cons (pe_op op_add_str (pe_op op_add_str (pe_slice sl_str (pv 0) po_none (po_some (pv 1))) (pv 7)) (pe_slice sl_str (pv 0) (po_some (pe_op op_add (pv 1) pe_int)) po_none)) pa_nil))) pa_nil))))) (pss_one (ps_ret pe_bl)) pss_nil)
      (pss_cons (ps_if (pt_not (pt_val (pe_call (ok__law_same T) (hr.mono (by decide)) (by rfl) T.mg__law_same T.k__law_same T.b__law_same .nil pass0 (pa_cons (pv 4) (pa_cons (pe_tup (pa_cons pe_str (pa_cons (pe_op op_add_str (pe_slice sl_str (pv 0) po_none (po_some (pv 1))) (pe_slice sl_str (pv 0) (po_some (pe_op op_add (pv 1) pe_int)) po_none)) pa_nil))) pa_nil))))) (pss_one (ps_ret pe_bl)) pss_nil)
      (pss_cons (ps_if (PW.pt (pw_or (pt_cmpR op_ne (by exact (pe_callS (ok_turned T) (hr.mono (by decide)) (by rfl) T.mg_turned T.k_turned T.b_turned (fun σ => passL0 σ) (by exact (pa_cons (pe_ix ix_tup (pv 3) pe_int (fun _ _ => rfl)) (pa_cons (pv 1) pa_nil))))) (pv 0) (nomark _)) (pw_or1 (pt_cmpR op_ne (by exact (pe_callS (ok_put T) (hr.mono (by decide)) (by rfl) T.mg_put T.k_put T.b_put (fun σ => passL0 σ) (by exact (pa_cons (pe_ix ix_tup (pv 4) pe_int (fun _ _ => rfl)) (pa_cons (pv 1) (pa_cons (pe_ix ix_str (pv 0) (pv 1) (fun _ _ => rfl)) pa_nil)))))) (pv 0) (nomark _))))) (pss_one (ps_ret pe_bl)) pss_nil)
      (pss_cons (ps_if (PW.pt (pw_or (pt_cmpR op_ne (by exact (pe_callK0 (ok_turned T) (hr.mono (by decide)) (by rfl) T.mg_turned T.k_turned (kb0_turned T) (fun σ => passL0 σ) (by exact (pk_cons (pv 1) (pk_cons (pv 0) pk_nil))))) (pe_ix ix_tup (pv 3) pe_int (fun _ _ => rfl)) (nomark _)) (pw_or1 (pt_cmpR op_ne (by exact (pe_callK0 (ok_dropped T) (hr.mono (by decide)) (by rfl) T.mg_dropped T.k_dropped (kb1_dropped T) (fun σ => passL0 σ) (by exact (pk_cons (pv 1) (pk_cons (pv 0) pk_nil))))) (pe_ix ix_tup (pv 4) pe_int (fun _ _ => rfl)) (nomark _))))) (pss_one (ps_ret pe_bl)) pss_nil)
      (pss_one (ps_if (pt_cmpR op_ne (by exact (pe_callK0 (ok_put T) (hr.mono (by decide)) (by rfl) T.mg_put T.k_put (kb2_put T) (fun σ => passL0 σ) (by exact (pk_cons (pe_ix ix_str (pv 0) (pv 1) (fun _ _ => rfl)) (pk_cons (pv 1) (pk_cons (pe_ix ix_tup (pv 4) pe_int (fun _ _ => rfl)) pk_nil)))))) (pv 0) (nomark _)) (pss_one (ps_ret pe_bl)) pss_nil))))))))
      (Evl.pss_cut (ps_set (i := 6) nd rfl (by first | exact Or.inl rfl | exact Or.inr rfl) (pe_call (ok__law_one_due T) (hr.mono (by decide)) (by rfl) T.mg__law_one_due T.k__law_one_due T.b__law_one_due .nil pass0 (pa_cons (pv 0) (pa_cons (pv 1) (pa_cons pe_int (pa_cons (pe_and (pe_call (ok__law_is_bits T) (hr.mono (by decide)) (by rfl) T.mg__law_is_bits T.k__law_is_bits T.b__law_is_bits .nil pass0 (pa_cons (pv 2) pa_nil)) (pe_one (pe_cmpR op_eq (pe_callB call_len_str (by rfl) T.b_len (by decide +kernel) (pa_cons (pv 2) pa_nil)) pe_int (nomark _)))) pa_nil))))))
      (Evl.pss_cut (ps_if (pt_cmpR op_notN (pv 6) pe_non (nomark _)) (pss_one (ps_ret (pe_call (ok__law_same T) (hr.mono (by decide)) (by rfl) T.mg__law_same T.k__law_same T.b__law_same .nil pass0 (pa_cons (pv 5) (pa_cons (pv 6) pa_nil))))) pss_nil)
      (pss_one (ps_ret (pe_and (pe_call (ok__law_same T) (hr.mono (by decide)) (by rfl) T.mg__law_same T.k__law_same T.b__law_same .nil pass0 (pa_cons (pv 5) (pa_cons (pe_tup (pa_cons pe_str (pa_cons (pe_op op_add_str (pe_op op_add_str (pe_slice sl_str (pv 0) po_none (po_some (pv 1))) (pv 2)) (pe_slice sl_str (pv 0) (po_some (pv 1)) po_none)) pa_nil))) pa_nil))) (pe_one (pe_cmpR op_eq (by exact (pe_callS (ok_dropped T) (hr.mono (by decide)) (by rfl) T.mg_dropped T.k_dropped T.b_dropped (fun σ => passL0 σ) (by exact (pa_cons (pe_ix ix_tup (pv 5) pe_int (fun _ _ => rfl)) (pa_cons (pv 1) pa_nil))))) (pv 0) (nomark _)))))))))))))), ?_⟩
  clear nd hr
  replace h := sp3_of h
  obtain ⟨v_bits, v_at, v_bit, rfl, h⟩ := h

  obtain ⟨tb, ta, tc, hb, ha, hc, sb5, sc5, hT, k⟩ := h
  have sb : Short v_bits := Nat.le_trans sb5 (by decide)
  have sc : Short v_bit := Nat.le_trans sc5 (by decide)
  refine ⟨hT, fun H1 x1 T1 => tto_of (o := turnO v_bits v_at) (fun Q1 E1 h1 => ⟨_, rfl, _, rfl, _, _, rfl, tb, ta, hb.ext x1, ha.ext x1, sb, h1⟩) fun q1 H2 e2 h2 => ?_⟩
  have T2 := T1.ext e2
  have x2 : LamX.ExtN H H2 := x1.trans (LamX.ExtN.of e2)
  refine ⟨T2, fun H3 x3 T3 => tto_of (o := dropO v_bits v_at) (fun Q1 E1 h1 => ⟨_, rfl, _, rfl, _, _, rfl, tb, ta, hb.ext (x2.trans x3), ha.ext (x2.trans x3), sb, h1⟩) fun q2 H4 e4 h4 => ?_⟩
  have T4 := T3.ext e4
  have x4 : LamX.ExtN H H4 := (x2.trans x3).trans (LamX.ExtN.of e4)
  have g1 := e4 _ _ (x3 _ _ h2 (fun ps z => by cases z))
  refine ⟨T4, fun H5 x5 T5 => tto_of (o := putO v_bits v_at v_bit) (fun Q1 E1 h1 => ⟨_, rfl, _, rfl, _, rfl, _, _, _, rfl, tb, ta, tc, hb.ext (x4.trans x5), ha.ext (x4.trans x5), hc.ext (x4.trans x5), sb, sc, h1⟩) fun q3 H6 e6 h6 => ?_⟩
  have T6 := T5.ext e6
  have x6 : LamX.ExtN H H6 := (x4.trans x5).trans (LamX.ExtN.of e6)
  replace g1 := e6 _ _ (x5 _ _ g1 (fun ps z => by cases z))
  have g2 := e6 _ _ (x5 _ _ h4 (fun ps z => by cases z))
  have S6 : S3 A K H v_bits v_at v_bit tb ta tc q1 q2 q3 H6 := ⟨x6, T6, g1, g2, h6, hb.ext x6, ha.ext x6, hc.ext x6⟩
  clear h2 h4 e2 e4 e6 x1 x3 x5 T1 T2 T3 T4 T5 hT x2 x4 g1 g2 h6 hb ha hc x6 T6
  dsimp only [gName]
  refine ⟨fun z h' => ∃ v, z = [some v_bits, some v_at, some v_bit, some (.ref q1), some (.ref q2), some (.ref q3), some v, none] ∧ S3 A K H v_bits v_at v_bit tb ta tc q1 q2 q3 h' ∧ Due0 v_bits v_at v h', ?_, ?_⟩
  · refine ⟨_, rfl, _, rfl, _, _, _, _, rfl, tb, ta, 0, true, S6.vb, S6.va, sb, rfl, rfl, ?_⟩
    rcases due_0 v_bits v_at with ⟨o, eo, e1, e2⟩ | ⟨eo, g⟩
    · rw [eo]
      exact fun q H7 e7 h7 => ⟨_, rfl, S6.same e7, .inl ⟨o, q, rfl, h7, e1, e2⟩⟩
    · rw [eo]
      exact fun H7 e7 => ⟨_, rfl, S6.same e7, .inr ⟨rfl, g⟩⟩
  clear S6
  rintro z H7 ⟨v, rfl, S7, hdue⟩
  refine ⟨fun z h' => ∃ x y, z = [some v_bits, some v_at, some v_bit, some (.ref q1), some (.ref q2), some (.ref q3), x, y] ∧ S3 A K H v_bits v_at v_bit tb ta tc q1 q2 q3 h', ?_, ?_⟩
  · rcases hdue with ⟨o, q, rfl, hq, e1, e2⟩ | ⟨rfl, x, i, rfl, rfl, g⟩
    · refine ⟨_, rfl, rfl, _, rfl, iteB (fun _ => ?_) (fun z => nomatch z)⟩
      refine ⟨_, rfl, _, rfl, _, _, rfl, q1, q, outT o, rfl, rfl, by rw [← e1]; exact S7.h1, hq, atom_out o, len_out o, _, rfl, iteB (fun z => nomatch z) (fun _ => ?_)⟩
      refine ⟨_, rfl, _, rfl, _, _, rfl, q2, q, outT o, rfl, rfl, by rw [← e2]; exact S7.h2, hq, atom_out o, len_out o, _, rfl, iteB (fun z => nomatch z) (fun _ => ?_)⟩
      exact ⟨_, _, rfl, S7⟩
    · refine ⟨_, rfl, rfl, _, rfl, iteB (fun z => nomatch z) (fun _ => ?_)⟩
      have i0 : (0 : Int) ≤ i := by omega
      have i1 : (i : Int) < ((x.length : Nat) : Int) := by rw [TL.len_tl]; have := g.i; omega
      have hx : x.length ≤ 1000000 := sb
      have sat := sign_at i0 i1
      refine ⟨fun z h' => z = [some (.str x), some (.int i), some v_bit, some (.ref q1), some (.ref q2), some (.ref q3), some .non, some (.str (flipS (signAt x i)))] ∧ h' = H7, ?_, ?_⟩
      · refine ⟨_, rfl, _, rfl, x, i, _, rfl, rfl, big_le hx (by decide), sat, rfl, _, rfl, ?_⟩
        rw [sign_dec sgn0]
        refine iteB (fun h => ⟨?_, rfl⟩) (fun h => ⟨?_, rfl⟩)
        · rw [show flipS (signAt x i) = "1" from if_pos (of_decide_eq_true h)]
          rfl
        · rw [show flipS (signAt x i) = "0" from if_neg (of_decide_eq_false h)]
          rfl
      rintro z H9 ⟨rfl, rfl⟩
      have l1 : (cutS x none (some (i : Int))).length ≤ 1000000 := cut_le hx
      have l2 : (cutS x (some ((i : Int) + 1)) none).length ≤ 1000000 := cut_le hx
      refine ⟨_, rfl, _, rfl, _, rfl, _, rfl, x, rfl, big_le hx (by decide), _, rfl, _, _, rfl, rfl, ?_, _, rfl, _, rfl, _, _, rfl, rfl, _, rfl, x, rfl, big_le hx (by decide), _, _, rfl, rfl, ?_, (by show 2 ≤ sizeLine; rw [sizeLine_eq]; decide), fun p1 hp1 => ?_⟩
      · rw [flip_len]
        exact big_le (Nat.add_le_add_right l1 1) (by decide)
      · exact big_le (Nat.add_le_add (app_le l1 (Nat.le_of_eq (flip_len _))) l2) (by decide)
      have S1 := S7.same (same_new hp1 (o := .tup [.str "told", .str (turnS x i)]))
      refine ⟨_, _, rfl, q1, p1, [.str "told", .str (turnS x i)], rfl, rfl, S1.h1.trans (by rw [g.t1]; rfl), upd_same, atom_out (.told _), len_out (.told _), _, rfl, iteB (fun z => nomatch z) (fun _ => ?_)⟩
      refine ⟨_, rfl, _, rfl, _, rfl, _, rfl, x, rfl, big_le hx (by decide), _, rfl, _, rfl, _, _, rfl, rfl, _, rfl, x, rfl, big_le hx (by decide), _, _, rfl, rfl, big_le (Nat.add_le_add l1 l2) (by decide), (by show 2 ≤ sizeLine; rw [sizeLine_eq]; decide), fun p2 hp2 => ?_⟩
      have S2 := S1.same (same_new hp2 (o := .tup [.str "told", .str (dropS x i)]))
      refine ⟨_, _, rfl, q2, p2, [.str "told", .str (dropS x i)], rfl, rfl, S2.h2.trans (by rw [g.d1]; rfl), upd_same, atom_out (.told _), len_out (.told _), _, rfl, iteB (fun z => nomatch z) (fun _ => ?_)⟩
      refine heap_gen (fun h => S3 A K H (.str x) (.int i) v_bit tb ta tc q1 q2 q3 h) S2 fun H9 S9 => ?_
      clear S1 S2 hp1 hp2
      have k1 : H9 q1 = some (.tup [.str "told", .str (turnS x i)]) := by rw [S9.h1, g.t1]; rfl
      have k2 : H9 q2 = some (.tup [.str "told", .str (dropS x i)]) := by rw [S9.h2, g.d1]; rfl
      have st : Short (.str (turnS x i)) := turn_short sb5
      have sd : Short (.str (dropS x i)) := drop_short sb5
      refine ⟨_, rfl, _, _, _, _, rfl, rfl, SqT.of k1, rfl, _, rfl, _, _, rfl, _, _, .str _, .int _, st, ?_⟩
      rw [g.t2]
      refine ⟨_, rfl, rfl, _, rfl, nself ?_⟩
      refine ⟨_, rfl, _, _, _, _, rfl, rfl, SqT.of k2, rfl, _, rfl, _, rfl, _, rfl, x, i, _, rfl, rfl, big_le hx (by decide), sat, _, _, _, rfl, _, _, _, .str _, .int _, .str _, sd, short1 _, ?_⟩
      rw [g.pd2]
      refine ⟨_, rfl, rfl, _, rfl, nself ?_⟩
      refine ⟨_, rfl, _, rfl, rfl, _, _, rfl, _, _, .str _, .int _, sb, ?_⟩
      rw [g.t1]
      refine ⟨_, rfl, _, _, _, _, rfl, rfl, SqT.of k1, rfl, rfl, _, rfl, nself ?_⟩
      refine ⟨_, rfl, _, rfl, rfl, _, _, rfl, _, _, .str _, .int _, sb, ?_⟩
      rw [g.d1]
      refine ⟨_, rfl, _, _, _, _, rfl, rfl, SqT.of k2, rfl, rfl, _, rfl, nself ?_⟩
      refine ⟨_, rfl, _, rfl, x, i, _, rfl, rfl, big_le hx (by decide), sat, _, rfl, _, rfl, _, _, _, _, rfl, rfl, SqT.of k2, rfl, rfl, _, _, _, rfl, _, _, _, .str _, .int _, .str _, sd, short1 _, ?_⟩
      rw [g.pd2]
      refine ⟨_, rfl, rfl, _, rfl, nself ?_⟩
      exact ⟨_, _, rfl, S9⟩
  rintro z H8 ⟨x, y, rfl, S8⟩
  refine ⟨fun z h' => ∃ v, z = [some v_bits, some v_at, some v_bit, some (.ref q1), some (.ref q2), some (.ref q3), some v, y] ∧ S3 A K H v_bits v_at v_bit tb ta tc q1 q2 q3 h' ∧ Due1 v_bits v_at v_bit v h', ?_, ?_⟩
  · refine ⟨_, rfl, _, rfl, _, rfl, _, rfl, tc, S8.vc, sc, fun H9 e9 => ⟨_, rfl, iteB (fun h => ?_) (fun h => ?_)⟩⟩
    · obtain ⟨y, rfl⟩ := okBits_str h
      refine ⟨_, rfl, y, rfl, short_le sc, rfl, ?_⟩
      dsimp only [tNil]
      refine sp_due1 (S8.same e9) sb ?_ fun v H10 e10 hd => ⟨v, rfl, (S8.same e9).same e10, hd⟩
      unfold oneBit
      rw [h, Bool.true_and, dI]
      exact decide_eq_decide.mpr (by show ((y.length : Nat) : Int) = 1 ↔ y.length = 1; omega)
    · dsimp only [tNil]
      exact sp_due1 (gb := false) (S8.same e9) sb (by unfold oneBit; rw [h]; rfl) fun v H10 e10 hd => ⟨v, rfl, (S8.same e9).same e10, hd⟩
  rintro z H9 ⟨v, rfl, S9, hdue⟩
  refine ⟨fun z h' => z = [some v_bits, some v_at, some v_bit, some (.ref q1), some (.ref q2), some (.ref q3), some v, y] ∧ h' = H9 ∧ v = .non, ?_, ?_⟩
  · rcases hdue with ⟨o, q, rfl, hq, e1⟩ | ⟨rfl, _⟩
    · refine ⟨_, rfl, rfl, _, rfl, iteB (fun _ => ?_) (fun z => nomatch z)⟩
      exact ⟨_, rfl, _, rfl, _, _, rfl, q3, q, outT o, rfl, rfl, by rw [← e1]; exact S9.h3, hq, atom_out o, len_out o, k _ S9.x S9.t⟩
    · exact ⟨_, rfl, rfl, _, rfl, iteB (fun z => nomatch z) (fun _ => ⟨rfl, rfl, rfl⟩)⟩
  rintro z H10 ⟨rfl, rfl, rfl⟩
  rcases hdue with ⟨o, q, z, _⟩ | ⟨_, x, y, i, rfl, rfl, rfl, hxb, hi, hyb⟩
  · cases z
  have hx : x.length ≤ 1000000 := sb
  have hy : y.length ≤ 1000000 := sc
  have ep := put_good hxb hi hyb
  have l1 : (cutS x none (some (i : Int))).length ≤ 1000000 := cut_le hx
  have l2 : (cutS x (some (i : Int)) none).length ≤ 1000000 := cut_le hx
  refine ⟨_, rfl, _, rfl, _, rfl, _, rfl, x, rfl, big_le hx (by decide), _, rfl, _, _, rfl, rfl, short_cat l1 hy, _, rfl, _, rfl, _, rfl, x, rfl, big_le hx (by decide), _, _, rfl, rfl, big_le (Nat.add_le_add (app_le l1 hy) l2) (by decide), (by show 2 ≤ sizeLine; rw [sizeLine_eq]; decide), fun p1 hp1 => ?_⟩
  have S1 := S9.same (same_new hp1 (o := .tup [.str "told", .str (putS x i y)]))
  have h3 : upd H10 p1 (.tup [.str "told", .str (putS x i y)]) q3 = some (.tup [.str "told", .str (putS x i y)]) := S1.h3.trans (by rw [ep]; rfl)
  refine ⟨_, _, rfl, q3, p1, [.str "told", .str (putS x i y)], rfl, rfl, h3, upd_same, atom_out (.told _), len_out (.told _), _, rfl, iteB (fun _ => ?_) (fun z => nomatch z)⟩
  refine ⟨_, rfl, _, _, _, _, rfl, rfl, SqT.of h3, rfl, _, rfl, _, _, rfl, _, _, .str _, .int _, put_short sb5 sc5, ?_⟩
  rw [dropput hxb hi hyb]
  refine ⟨_, rfl, rfl, ?_⟩
  rw [decide_eq_true rfl]
  exact k _ S1.x S1.t

theorem ok_law (TB : LamX.TabB base mg A.tc A.tp) (T : Txt K mg A) : FnOk P w K mg base CX0 10 A.f_law A.d_law ["script"] (sp_law K A) := by
  refine T.F_law.ok sc_law (fun vs H Q E h => sp1_len h) (fun cdv A0 outer s H vs Q E hr h => ?_)
  have nd := sc_law.nd
  refine ⟨_, (pss_cons (ps_set (i := 1) nd rfl (by first | exact Or.inl rfl | exact Or.inr rfl) (pe_call (ok__law_start T) (hr.mono (by decide)) (by rfl) T.mg__law_start T.k__law_start T.b__law_start .nil pass0 (pa_cons (pv 0) pa_nil)))
      (pss_cons (ps_for PassesOwn.never rfl (pi_range1 (by rfl) T.b_range (pa_cons (pe_op op_add pe_int (pe_call (ok__law_pull T) (hr.mono (by decide)) (by rfl) T.mg__law_pull T.k__law_pull T.b__law_pull .nil pass0 (pa_cons (pv 1) (pa_cons pe_int pa_nil)))) pa_nil)) (pg_name (i := 2) nd rfl (by first | exact Or.inl rfl | exact Or.inr rfl)) (pss_cons (ps_set (i := 3) nd rfl (by first | exact Or.inl rfl | exact Or.inr rfl) (pe_call (ok__law_pull T) (hr.mono (by decide)) (by rfl) T.mg__law_pull T.k__law_pull T.b__law_pull .nil pass0 (pa_cons (pv 1) (pa_cons pe_int pa_nil))))
      (pss_cons (ps_set (i := 4) nd rfl (by first | exact Or.inl rfl | exact Or.inr rfl) (pe_ix ix_list (pe_lst (pa_cons (pe_call (ok__law_pull T) (hr.mono (by decide)) (by rfl) T.mg__law_pull T.k__law_pull T.b__law_pull .nil pass0 (pa_cons (pv 1) (pa_cons pe_int pa_nil))) (pa_cons (pe_call (ok__law_pull T) (hr.mono (by decide)) (by rfl) T.mg__law_pull T.k__law_pull T.b__law_pull .nil pass0 (pa_cons (pv 1) (pa_cons pe_int pa_nil))) (pa_cons (pe_op op_add pe_int (pe_call (ok__law_pull T) (hr.mono (by decide)) (by rfl) T.mg__law_pull T.k__law_pull T.b__law_pull .nil pass0 (pa_cons (pv 1) (pa_cons pe_int pa_nil)))) pa_nil)))) (pe_op op_fdivW (pe_call (ok__law_pull T) (hr.mono (by decide)) (by rfl) T.mg__law_pull T.k__law_pull T.b__law_pull .nil pass0 (pa_cons (pv 1) (pa_cons pe_int pa_nil))) pe_int) (fun _ _ => rfl)))
      (pss_cons (ps_set (i := 5) nd rfl (by first | exact Or.inl rfl | exact Or.inr rfl) (pe_call (ok__law_row T) (hr.mono (by decide)) (by rfl) T.mg__law_row T.k__law_row T.b__law_row .nil pass0 (pa_cons (pv 1) (pa_cons (pe_op op_add pe_int (pe_callB (call_min2 rfl) (by rfl) T.b_min (by decide +kernel) (pa_cons (pv 4) (pa_cons (pe_call (ok__law_pull T) (hr.mono (by decide)) (by rfl) T.mg__law_pull T.k__law_pull T.b__law_pull .nil pass0 (pa_cons (pv 1) (pa_cons pe_int pa_nil))) pa_nil)))) pa_nil))))
      (pss_cons (ps_set (i := 6) nd rfl (by first | exact Or.inl rfl | exact Or.inr rfl) (pe_slice sl_str (pe_join pe_str (pe_lc (own := [("k", 7)]) (g := gName 7) (tt := tYes) (by rfl) nd (pi_range1 (by rfl) T.b_range (pa_cons (pe_op op_add (pe_op op_fdivW (pv 4) (pe_callB call_len_str (by rfl) T.b_len (by decide +kernel) (pa_cons (pv 5) pa_nil))) pe_int) pa_nil)) (blkOk_by (own := [("k", 7)]) (N := ["script", "state", "turn", "wrong", "many", "row", "bits", "k", "at", "bit", "odd", "far"]) (sc := defScope s_law) (by decide +kernel)) (fun _ _ _ _ _ => pg_name (i := 7) nd rfl (Or.inl rfl)) (fun _ _ _ _ _ => pts_nil) (fun _ _ _ _ _ => (pv 5)))) po_none (po_some (pv 4))))
      (pss_cons (ps_set (i := 8) nd rfl (by first | exact Or.inl rfl | exact Or.inr rfl) (pe_call (ok__law_pull T) (hr.mono (by decide)) (by rfl) T.mg__law_pull T.k__law_pull T.b__law_pull .nil pass0 (pa_cons (pv 1) (pa_cons (pe_op op_add (pv 4) pe_int) pa_nil))))
      (pss_cons (ps_set (i := 9) nd rfl (by first | exact Or.inl rfl | exact Or.inr rfl) (pe_callTy call_str_int (by rfl) T.b_str (by decide +kernel) (pa_cons (pe_call (ok__law_pull T) (hr.mono (by decide)) (by rfl) T.mg__law_pull T.k__law_pull T.b__law_pull .nil pass0 (pa_cons (pv 1) (pa_cons pe_int pa_nil))) pa_nil)))
      (Evl.pss_cut (ps_if (PW.pt (pw_or (pt_cmpR op_eq (pv 3) pe_int (nomark _)) (pw_or1 (pt_cmpR op_gt (pv 3) pe_int (nomark _))))) (pss_cons (ps_set (i := 10) nd rfl (by first | exact Or.inl rfl | exact Or.inr rfl) (pe_lst (pa_cons pe_non (pa_cons pe_bl (pa_cons pe_int (pa_cons pe_str (pa_cons (pe_op op_add_str (pv 6) pe_str) (pa_cons (pe_lst (pa_cons (pv 6) pa_nil)) (pa_cons (pe_tup (pa_cons (pv 6) (pa_cons pe_str pa_nil))) (pa_cons (pe_disp (pps_cons pe_str pe_str pps_nil) (by rfl) (by rfl) (fun z => by cases z) (by decide)) (pa_cons (pe_op op_add_str (pv 6) pe_str) (pa_cons pe_str pa_nil))))))))))))
      (pss_one (ps_set (i := 6) nd rfl (by first | exact Or.inl rfl | exact Or.inr rfl) (pe_ix ix_list (pv 10) (pe_call (ok__law_pull T) (hr.mono (by decide)) (by rfl) T.mg__law_pull T.k__law_pull T.b__law_pull .nil pass0 (pa_cons (pv 1) (pa_cons pe_int pa_nil))) (fun _ _ => rfl))))) pss_nil)
      (Evl.pss_cut (ps_if (PW.pt (pw_or (pt_cmpR op_eq (pv 3) pe_int (nomark _)) (pw_or (pt_cmpR op_eq (pv 3) pe_int (nomark _)) (pw_or1 (pt_cmpR op_eq (pv 3) pe_int (nomark _)))))) (pss_cons (ps_set (i := 11) nd rfl (by first | exact Or.inl rfl | exact Or.inr rfl) (pe_call (ok__law_pull T) (hr.mono (by decide)) (by rfl) T.mg__law_pull T.k__law_pull T.b__law_pull .nil pass0 (pa_cons (pv 1) (pa_cons (pe_op op_pow pe_int pe_int) pa_nil))))
      (pss_one (ps_set (i := 8) nd rfl (by first | exact Or.inl rfl | exact Or.inr rfl) (pe_ix ix_list (pe_lst (pa_cons pe_non (pa_cons pe_bl (pa_cons pe_bl (pa_cons pe_str (pa_cons (pe_un un_neg pe_int) (pa_cons (pe_op op_add (pv 4) pe_int) (pa_cons (pe_op op_add (pv 4) (pv 11)) (pa_cons (pe_op op_sub (pe_un un_neg pe_int) (pv 11)) (pa_cons (pe_lst (pa_cons pe_int pa_nil)) (pa_cons (pe_tup (pa_cons pe_int pa_nil)) pa_nil))))))))))) (pe_call (ok__law_pull T) (hr.mono (by decide)) (by rfl) T.mg__law_pull T.k__law_pull T.b__law_pull .nil pass0 (pa_cons (pv 1) (pa_cons pe_int pa_nil))) (fun _ _ => rfl))))) pss_nil)
      (Evl.pss_cut (ps_if (PW.pt (pw_or (pt_cmpR op_eq (pv 3) pe_int (nomark _)) (pw_or (pt_cmpR op_eq (pv 3) pe_int (nomark _)) (pw_or1 (pt_cmpR op_eq (pv 3) pe_int (nomark _)))))) (pss_one (ps_set (i := 9) nd rfl (by first | exact Or.inl rfl | exact Or.inr rfl) (pe_ix ix_list (pe_lst (pa_cons pe_non (pa_cons pe_str (pa_cons pe_str (pa_cons pe_str (pa_cons pe_int (pa_cons pe_int (pa_cons pe_bl (pa_cons (pe_lst (pa_cons pe_str pa_nil)) (pa_cons pe_str (pa_cons pe_str pa_nil))))))))))) (pe_call (ok__law_pull T) (hr.mono (by decide)) (by rfl) T.mg__law_pull T.k__law_pull T.b__law_pull .nil pass0 (pa_cons (pv 1) (pa_cons pe_int pa_nil))) (fun _ _ => rfl)))) pss_nil)
      (pss_one (ps_if (pt_not (pt_val (pe_call (ok__law_asked TB T) (hr.mono (by decide)) (by rfl) T.mg__law_asked T.k__law_asked T.b__law_asked .nil pass0 (pa_cons (pv 6) (pa_cons (pv 8) (pa_cons (pv 9) pa_nil)))))) (pss_one (ps_ret pe_bl)) pss_nil))))))))))))
      (pss_one (ps_ret pe_bl)))), ?_⟩
  clear nd hr
  replace h := sp1_of h
  obtain ⟨v_script, rfl, h⟩ := h

  obtain ⟨l, ns, rfl, hl, hn, hT, k⟩ := h
  refine ⟨_, rfl, _, rfl, l, ns, rfl, hl, hn, fun d H1 hp hl0 e1 r1 => ?_⟩
  have S1 : St7 A d H1 := ⟨r1, hT.ext e1⟩
  dsimp only [gName]
  refine ⟨_, rfl, _, _, rfl, d, _, rfl, rfl, r1, by decide, small_log (by decide) (by decide), fun v H2 v0 v1 e2 r2 => ⟨_, _, rfl, rfl, 3 + v, rfl, by omega, by omega, ?_⟩⟩
  have S2 : St7 A d H2 := ⟨r2, Tabs.chg S1.r e2 S1.t⟩
  refine for_range (n := (3 + v).toNat) (fun i σ' H' => ∃ a2 a3 a4 a5 a6 a7 a8 a9 a10 a11, σ' = [some (.ref l), some (.ref d.p), a2, a3, a4, a5, a6, a7, a8, a9, a10, a11] ∧ St7 A d H') ⟨_, _, _, _, _, _, _, _, _, _, rfl, S2⟩ ?_ ?_
  · clear S1 S2 r1 r2 e1 e2 hT hp hl0 hl
    rintro i σ' H3 hi ⟨a2, a3, a4, a5, a6, a7, a8, a9, a10, a11, rfl, S3⟩
    obtain ⟨r3, t3⟩ := S3
    refine ⟨_, rfl, _, _, rfl, d, _, rfl, rfl, r3, by decide, small_log (by decide) (by decide), fun w H4 w0 w1 e4 r4 => ?_⟩
    dsimp only [gName]
    refine ⟨_, rfl, _, _, rfl, d, _, rfl, rfl, r4, by decide, small_log (by decide) (by decide), fun a H5 a0 a1 e5 r5 => ⟨_, rfl, _, _, rfl, d, _, rfl, rfl, r5, by decide, small_log (by decide) (by decide), fun b H6 b0 b1 e6 r6 => ⟨_, rfl, _, _, rfl, d, _, rfl, rfl, r6, by decide, small_log (by decide) (by decide), fun c H7 c0 c1 e7 r7 => ⟨_, _, rfl, rfl, (by show 3 ≤ sizeLine; rw [sizeLine_eq]; decide), fun pl hpl => ⟨_, rfl, _, _, rfl, d, _, rfl, rfl, (r7.new hpl), by decide, small_log (by decide) (by decide), fun j H8 j0 j1 e8 r8 => ⟨_, _, rfl, rfl, ⟨by decide, small_log (by decide) (by decide)⟩, ?_⟩⟩⟩⟩⟩⟩
    have e58 := (Chg.new hpl (d := d) (o := .lst [.int a, .int b, .int (3980 + c)])).trans e8
    have hl8 : H8 pl = some (.lst [.int a, .int b, .int (3980 + c)]) := e8 _ _ (r7.nep hpl) upd_same
    obtain ⟨m, hm, m0, m1⟩ := many_pick (a := a) (b := b) (c := 3980 + c) j0 j1 ⟨a0, by omega⟩ ⟨b0, by omega⟩ ⟨by omega, by omega⟩
    refine ⟨_, _, _, _, rfl, rfl, SqL.of hl8, hm, ?_⟩
    dsimp only [gName]
    have t8 := Tabs.chg r7 e58 (Tabs.chg r6 e7 (Tabs.chg r5 e6 (Tabs.chg r4 e5 (Tabs.chg r3 e4 t3))))
    clear e4 e5 e6 e7 e8 e58 hm hl8 r4 r5 r6 r7 hpl t3
    refine ⟨_, rfl, _, rfl, _, rfl, _, _, rfl, d, _, rfl, rfl, r8, by decide, small_log (by decide) (by decide), fun f H9 f0 f1 e9 r9 => ⟨_, _, rfl, _, _, rfl, rfl, ?_⟩⟩
    obtain ⟨rn, hrn, rn1, rn2⟩ : ∃ rn : Nat, (1 + (if f < m then f else m)) = (rn : Int) ∧ 1 ≤ rn ∧ rn ≤ 70 := ⟨(1 + (if f < m then f else m)).toNat, by split <;> omega, by split <;> omega, by split <;> omega⟩
    refine ⟨_, _, rfl, d, rn, rfl, congrArg V.int hrn, by omega, r9, fun cs H10 hcs _ e10 r10 => ?_⟩
    dsimp only [gName]
    have t10 := Tabs.chg r9 e10 (Tabs.chg r8 e9 t8)
    clear e9 e10 r8 r9 t8
    have hrow : (⟨cs.toArray⟩ : Str).length = rn := by show cs.toArray.size = rn; rw [List.size_toArray, hcs]
    generalize (⟨cs.toArray⟩ : Str) = row at hrow
    refine ⟨⟨_, rfl⟩, ?_⟩
    have hcut : ∀ (ys : List V) (D : Addr) (H' : Hp), True := fun _ _ _ => trivial
    obtain ⟨mn, rfl⟩ := Int.eq_ofNat_of_zero_le m0
    refine lc_draw (d := d) (fun n => n = mn / rn + 1) (fun v _ => v = .str row) (fun _ _ _ _ h => h) (fun x => rfl) (fun n e => ?hn) (fun R h => ⟨_, rfl, _, rfl, row, rfl, by rw [hrow, sizeLine_eq]; omega, _, _, rfl, rfl, ⟨by rw [hrow]; omega, small_log (by rw [hrow]; omega) (by rw [hrow]; omega)⟩, _, _, rfl, rfl, ?ht⟩) (fun x H1 Q1 r1 e1 h1 => ⟨_, rfl, h1 _ _ rfl Chg.refl r1⟩) (fun n D xs H11 e nDp nDl hD hl hf hxs e11 r11 => ?hk)
    case hn =>
      have : mn / rn ≤ mn := Nat.div_le_self _ _
      omega
    case ht =>
      have z := h _ H10 rfl Chg.refl r10
      rw [show ((mn / rn + 1 : Nat) : Int) = (mn : Int) / (rn : Int) + 1 from by rw [Int.natCast_add, Int.natCast_ediv]; rfl] at z
      rw [hrow]
      exact z
    have exs : xs = (List.replicate n row).map V.str := by
      rw [List.map_replicate]
      exact List.eq_replicate_iff.mpr ⟨hl, hf⟩
    subst exs
    have t11 := Tabs.chg r10 e11 t10
    refine ⟨_, D, List.replicate n row, rfl, rfl, .inl (SqL.of hxs), ?_, _, rfl, _, rfl, _, rfl, ?_, ?_⟩
    · rw [sum_rep, hrow, e, show (Str.ofString "").length = 0 by decide +kernel, Nat.mul_zero, Nat.add_zero]
      have := Nat.div_mul_le_self mn rn
      rw [Nat.add_mul, Nat.one_mul]
      omega
    · rw [sizeLine_eq, join_len]
      have := Nat.div_mul_le_self mn rn
      rw [hrow, e, Nat.add_mul, Nat.one_mul]
      omega
    have hb : (cutS (Txt.join "" (List.replicate n row)) none (some (mn : Int))).length ≤ 4000 := by
      rw [TL.len_tl, tl_lo, List.length_take]
      omega
    generalize cutS (Txt.join "" (List.replicate n row)) none (some (mn : Int)) = x at hb
    clear hxs hf hl hD nDp nDl e11 e r10 t10 hcut
    dsimp only [gName]
    refine ⟨_, rfl, _, rfl, _, _, rfl, rfl, _, _, rfl, d, _, rfl, rfl, r11, by omega, small_log (by omega) (by omega), fun p H12 p0 p1 e12 r12 => ⟨_, rfl, _, _, rfl, d, _, rfl, rfl, r12, by decide, small_log (by decide) (by decide), fun s H13 s0 s1 e13 r13 => ⟨_, rfl, (by have h2 : s = 0 ∨ s = 1 := (by omega); rcases h2 with rfl | rfl <;> decide), ?_⟩⟩⟩
    have t13 := Tabs.chg r12 e13 (Tabs.chg r11 e12 t11)
    have hs : (Str.ofString (toString s)).length ≤ 5000 := by
      have : s = 0 ∨ s = 1 := by omega
      rcases this with rfl | rfl <;> decide +kernel
    generalize Str.ofString (toString s) = y at hs
    clear e12 e13 t11 r11 r12
    dsimp only [gName]
    refine ⟨fun z h' => ∃ bv a10, z = [some (.ref l), some (.ref d.p), some (.int (0 + i)), some (.int w), some (.int mn), some (.str row), some bv, a7, some (.int p), some (.str y), a10, a11] ∧ St7 A d h' ∧ Th5 K h' bv, ?_, ?_⟩
    · refine tor2 (fun R' h => ⟨_, rfl, rfl, _, rfl, h⟩) (fun R' h => ⟨_, rfl, _, _, rfl, rfl, _, rfl, h⟩) (iteB (fun _ => ?_) (fun _ => ?_))
      · have hx1 : x.length ≤ 5000 := by omega
        refine ⟨_, rfl, _, _, rfl, rfl, big_le (Nat.add_le_add_right hx1 _) (by decide +kernel), _, rfl, (by show 1 ≤ sizeLine; rw [sizeLine_eq]; decide), fun p1 hp1 => ⟨_, rfl, (by show 2 ≤ sizeLine; rw [sizeLine_eq]; decide), fun p2 hp2 => fun p3 hp3 => ⟨upd_same, [(.inr "0", .str "1")], rfl, by decide, _, rfl, _, _, rfl, rfl, big_le (Nat.add_le_add_right hx1 _) (by decide +kernel), (by show 10 ≤ sizeLine; rw [sizeLine_eq]; decide), fun pL hpL => ?_⟩⟩⟩
        dsimp only [gName]
        refine heap_gen (fun h => Same H13 h ∧ h p1 = some (.lst [.str x]) ∧ h p2 = some (.tup [.str x, .str "0"]) ∧ h p3 = some (.dK (mergeK [] [(.inr "0", .str "1")])) ∧ h pL = some (.lst [.non, .bl true, .int 7, .str "2", .str (x ++ "a"), .ref p1, .ref p2, .ref p3, .str (x ++ " "), .str "O"]) ∧ pL ≠ d.p)
          ⟨sm (sm (sm (same_new hp1) (same_new hp2)) (same_new2 hp3)) (same_new hpL), sm (sm (same_new hp2) (same_new2 hp3)) (same_new hpL) _ _ upd_same, sm (same_new2 hp3) (same_new hpL) _ _ upd_same, same_new hpL _ _ upd_same, upd_same, (r13.same (sm (sm (same_new hp1) (same_new hp2)) (same_new2 hp3))).nep hpL⟩ fun H14 ⟨e14, h1, h2, h3, h4, h5⟩ => ?_
        have r14 := r13.same e14
        have t14 := t13.ext e14
        refine ⟨_, rfl, _, rfl, _, _, rfl, d, _, rfl, rfl, r14, by decide, small_log (by decide) (by decide), fun o H15 o0 o1 e15 r15 => ?_⟩
        have h4' := e15 _ _ h5 h4
        obtain ⟨bv, hm, hat⟩ := pick_at o0 (show o < (([.non, .bl true, .int 7, .str "2", .str (x ++ "a"), .ref p1, .ref p2, .ref p3, .str (x ++ " "), .str "O"] : List V).length : Int) from o1)
        refine ⟨_, _, _, _, rfl, rfl, SqL.of h4', hat, bv, _, rfl, ⟨r15, Tabs.chg r14 e15 t14⟩, Th5.chg ?_ r14 r15 e15⟩
        simp only [List.mem_cons, List.not_mem_nil, or_false] at hm
        rcases hm with rfl | rfl | rfl | rfl | rfl | rfl | rfl | rfl | rfl | rfl
        · exact th5_non
        · exact th5_bl _
        · exact th5_int _
        · exact th5_str (by decide +kernel)
        · exact th5_str (Nat.le_trans (app_le hb (Nat.le_refl _)) (by decide +kernel))
        · exact th5_lst h1
        · exact th5_tup h2
        · exact th5_dK h3
        · exact th5_str (Nat.le_trans (app_le hb (Nat.le_refl _)) (by decide +kernel))
        · exact th5_str (by decide +kernel)
      · exact ⟨_, _, rfl, ⟨r13, t13⟩, th5_str (by omega)⟩
    rintro z H14 ⟨bv, a10, rfl, ⟨r14, t14⟩, hbv⟩
    clear r13 t13
    refine ⟨fun z h' => ∃ av a10 a11, z = [some (.ref l), some (.ref d.p), some (.int (0 + i)), some (.int w), some (.int mn), some (.str row), some bv, a7, some av, some (.str y), a10, a11] ∧ St7 A d h' ∧ Th5 K h' bv ∧ Th5 K h' av, ?_, ?_⟩
    · refine tor2 (fun R' h => ⟨_, rfl, rfl, _, rfl, h⟩) (fun R' h => tor2 (fun R' h => ⟨_, rfl, rfl, _, rfl, h⟩) (fun R' h => ⟨_, rfl, rfl, _, rfl, h⟩) h) (iteB (fun _ => ?_) (fun _ => ?_))
      · refine ⟨_, rfl, _, _, rfl, rfl, ⟨by decide, by decide, by decide⟩, _, _, rfl, d, _, rfl, rfl, r14, by decide, by decide +kernel, fun far H15 fa0 fa1 e15 r15 => ?_⟩
        have t15 := Tabs.chg r14 e15 t14
        have hbv := Th5.chg hbv r14 r15 e15
        clear t14 e15
        dsimp only [gName]
        refine ⟨_, rfl, _, rfl, _, _, rfl, rfl, _, rfl, _, rfl, _, _, rfl, rfl, _, rfl, _, rfl, _, _, rfl, rfl, (by show 1 ≤ sizeLine; rw [sizeLine_eq]; decide), fun p1 hp1 => ⟨(by show 1 ≤ sizeLine; rw [sizeLine_eq]; decide), fun p2 hp2 => ⟨(by show 10 ≤ sizeLine; rw [sizeLine_eq]; decide), fun pL hpL => ?_⟩⟩⟩
        have hnp := (r15.same (sm (same_new hp1 (o := .lst [.int 0])) (same_new hp2 (o := .tup [.int 0])))).nep hpL
        have s4 : ∀ xs : List V, Same H15 (upd (upd (upd H15 p1 (.lst [.int 0])) p2 (.tup [.int 0])) pL (.lst xs)) := fun xs => sm (sm (same_new hp1) (same_new hp2)) (same_new hpL)
        have g1 : ∀ xs : List V, upd (upd (upd H15 p1 (.lst [.int 0])) p2 (.tup [.int 0])) pL (.lst xs) p1 = some (.lst [.int 0]) := fun xs => sm (same_new hp2) (same_new hpL) _ _ upd_same
        have g2 : ∀ xs : List V, upd (upd (upd H15 p1 (.lst [.int 0])) p2 (.tup [.int 0])) pL (.lst xs) p2 = some (.tup [.int 0]) := fun xs => same_new hpL _ _ upd_same
        refine ⟨_, rfl, _, _, rfl, d, _, rfl, rfl, (r15.same (s4 _)), by decide, small_log (by decide) (by decide), fun u H17 u0 u1 e17 r17 => ?_⟩
        have h4' := e17 _ _ hnp upd_same
        obtain ⟨av, hm, hat⟩ := pick_at u0 (show u < (([.non, .bl true, .bl false, .str "0", .int (-1), .int ((mn : Int) + 1), .int ((mn : Int) + far), .int (-1 - far), .ref p1, .ref p2] : List V).length : Int) from u1)
        refine ⟨_, _, _, _, rfl, rfl, SqL.of h4', hat, av, _, _, rfl, ⟨r17, Tabs.chg (r15.same (s4 _)) e17 (t15.ext (s4 _))⟩, Th5.chg (hbv.same (s4 _)) (r15.same (s4 _)) r17 e17, Th5.chg ?_ (r15.same (s4 _)) r17 e17⟩
        simp only [List.mem_cons, List.not_mem_nil, or_false] at hm
        rcases hm with rfl | rfl | rfl | rfl | rfl | rfl | rfl | rfl | rfl | rfl
        · exact th5_non
        · exact th5_bl _
        · exact th5_bl _
        · exact th5_str (by decide +kernel)
        · exact th5_int _
        · exact th5_int _
        · exact th5_int _
        · exact th5_int _
        · exact th5_lst (g1 _)
        · exact th5_tup (g2 _)
      · exact ⟨_, _, _, rfl, ⟨r14, t14⟩, hbv, th5_int _⟩
    rintro z H16 ⟨av, a10, a11, rfl, ⟨r16, t16⟩, hbv, hav⟩
    refine ⟨fun z h' => ∃ cv, z = [some (.ref l), some (.ref d.p), some (.int (0 + i)), some (.int w), some (.int mn), some (.str row), some bv, a7, some av, some cv, a10, a11] ∧ St7 A d h' ∧ Th5 K h' bv ∧ Th5 K h' av ∧ Th5 K h' cv, ?_, ?_⟩
    · refine tor2 (fun R' h => ⟨_, rfl, rfl, _, rfl, h⟩) (fun R' h => tor2 (fun R' h => ⟨_, rfl, rfl, _, rfl, h⟩) (fun R' h => ⟨_, rfl, rfl, _, rfl, h⟩) h) (iteB (fun _ => ?_) (fun _ => ?_))
      · refine ⟨(by show 1 ≤ sizeLine; rw [sizeLine_eq]; decide), fun p1 hp1 => ⟨(by show 10 ≤ sizeLine; rw [sizeLine_eq]; decide), fun pL hpL => ?_⟩⟩
        have hnp := (r16.same (same_new hp1 (o := .lst [.str "0"]))).nep hpL
        have s4 : ∀ xs : List V, Same H16 (upd (upd H16 p1 (.lst [.str "0"])) pL (.lst xs)) := fun xs => sm (same_new hp1) (same_new hpL)
        have g1 : ∀ xs : List V, upd (upd H16 p1 (.lst [.str "0"])) pL (.lst xs) p1 = some (.lst [.str "0"]) := fun xs => same_new hpL _ _ upd_same
        refine ⟨_, rfl, _, _, rfl, d, _, rfl, rfl, (r16.same (s4 _)), by decide, small_log (by decide) (by decide), fun u H17 u0 u1 e17 r17 => ?_⟩
        have h4' := e17 _ _ hnp upd_same
        obtain ⟨cv, hm, hat⟩ := pick_at u0 (show u < (([.non, .str "", .str "00", .str "2", .int 0, .int 1, .bl true, .ref p1, .str "O", .str "1 "] : List V).length : Int) from u1)
        refine ⟨_, _, _, _, rfl, rfl, SqL.of h4', hat, cv, rfl, ⟨r17, Tabs.chg (r16.same (s4 _)) e17 (t16.ext (s4 _))⟩, Th5.chg (hbv.same (s4 _)) (r16.same (s4 _)) r17 e17, Th5.chg (hav.same (s4 _)) (r16.same (s4 _)) r17 e17, Th5.chg ?_ (r16.same (s4 _)) r17 e17⟩
        simp only [List.mem_cons, List.not_mem_nil, or_false] at hm
        rcases hm with rfl | rfl | rfl | rfl | rfl | rfl | rfl | rfl | rfl | rfl
        · exact th5_non
        · exact th5_str (by decide +kernel)
        · exact th5_str (by decide +kernel)
        · exact th5_str (by decide +kernel)
        · exact th5_int _
        · exact th5_int _
        · exact th5_bl _
        · exact th5_lst (g1 _)
        · exact th5_str (by decide +kernel)
        · exact th5_str (by decide +kernel)
      · exact ⟨_, rfl, ⟨r16, t16⟩, hbv, hav, th5_str hs⟩
    rintro z H18 ⟨cv, rfl, ⟨r18, t18⟩, ⟨⟨tb, hb1⟩, hb2⟩, ⟨⟨ta, ha1⟩, _⟩, ⟨⟨tc, hc1⟩, hc2⟩⟩
    exact ⟨_, rfl, _, rfl, _, rfl, _, _, _, rfl, tb, ta, tc, hb1, ha1, hc1, hb2, hc2, t18, fun H19 x19 t19 => ⟨_, rfl, iteB (fun z => nomatch z) (fun _ => ⟨_, _, _, _, _, _, _, _, _, _, rfl, ⟨r18.ext x19, t19⟩⟩)⟩⟩
  · rintro σ' H3 ⟨a2, a3, a4, a5, a6, a7, a8, a9, a10, a11, rfl, S3⟩
    exact k _
end
def dd_BadNumber___init__ : He.DefD := ⟨("BadNumber", some "__init__"), "__init__", "BadNumber.__init__", defArgs s_BadNumber___init__, defBody s_BadNumber___init__, defScope s_BadNumber___init__, [], []⟩
def dd_is_integer : He.DefD := ⟨("is_integer", none), "is_integer", "is_integer", defArgs s_is_integer, defBody s_is_integer, defScope s_is_integer, [], []⟩
def dd_is_bits : He.DefD := ⟨("is_bits", none), "is_bits", "is_bits", defArgs s_is_bits, defBody s_is_bits, defScope s_is_bits, [], []⟩
def dd_other_bit : He.DefD := ⟨("other_bit", none), "other_bit", "other_bit", defArgs s_other_bit, defBody s_other_bit, defScope s_other_bit, [], []⟩
def dd_check_place : He.DefD := ⟨("check_place", none), "check_place", "check_place", defArgs s_check_place, defBody s_check_place, defScope s_check_place, [], []⟩
def dd_turned : He.DefD := ⟨("turned", none), "turned", "turned", defArgs s_turned, defBody s_turned, defScope s_turned, [], []⟩
def dd_dropped : He.DefD := ⟨("dropped", none), "dropped", "dropped", defArgs s_dropped, defBody s_dropped, defScope s_dropped, [], []⟩
def dd_put : He.DefD := ⟨("put", none), "put", "put", defArgs s_put, defBody s_put, defScope s_put, [], []⟩
def dd__law_is_int : He.DefD := ⟨("_law_is_int", none), "_law_is_int", "_law_is_int", defArgs s__law_is_int, defBody s__law_is_int, defScope s__law_is_int, [], []⟩
def dd__law_same : He.DefD := ⟨("_law_same", none), "_law_same", "_law_same", defArgs s__law_same, defBody s__law_same, defScope s__law_same, [], []⟩
def dd__law_is_bits : He.DefD := ⟨("_law_is_bits", none), "_law_is_bits", "_law_is_bits", defArgs s__law_is_bits, defBody s__law_is_bits, defScope s__law_is_bits, [], []⟩
def dd__law_start : He.DefD := ⟨("_law_start", none), "_law_start", "_law_start", defArgs s__law_start, defBody s__law_start, defScope s__law_start, [], []⟩
def dd__law_pull : He.DefD := ⟨("_law_pull", none), "_law_pull", "_law_pull", defArgs s__law_pull, defBody s__law_pull, defScope s__law_pull, [], []⟩
def dd__law_row : He.DefD := ⟨("_law_row", none), "_law_row", "_law_row", defArgs s__law_row, defBody s__law_row, defScope s__law_row, [], []⟩
def dd__law_outcome : He.DefD := ⟨("_law_outcome", none), "_law_outcome", "_law_outcome", defArgs s__law_outcome, defBody s__law_outcome, defScope s__law_outcome, [], []⟩
def dd__law_place : He.DefD := ⟨("_law_place", none), "_law_place", "_law_place", defArgs s__law_place, defBody s__law_place, defScope s__law_place, [], []⟩
def dd__law_one_due : He.DefD := ⟨("_law_one_due", none), "_law_one_due", "_law_one_due", defArgs s__law_one_due, defBody s__law_one_due, defScope s__law_one_due, [], []⟩
def dd__law_asked : He.DefD := ⟨("_law_asked", none), "_law_asked", "_law_asked", defArgs s__law_asked, defBody s__law_asked, defScope s__law_asked, [], []⟩
def dd_law : He.DefD := ⟨("law", none), "law", "law", defArgs s_law, defBody s_law, defScope s_law, [], []⟩
def fn_0 : List He.DefD := [dd_BadNumber___init__,
  dd_is_integer,
  dd_is_bits,
  dd_other_bit,
  dd_check_place,
  dd_turned,
  dd_dropped,
  dd_put,
  dd__law_is_int,
  dd__law_same,
  dd__law_is_bits,
  dd__law_start,
  dd__law_pull,
  dd__law_row,
  dd__law_outcome,
  dd__law_place,
  dd__law_one_due,
  dd__law_asked,
  dd_law]
def fn : List He.DefD := fn_0
def fa_0 : List He.Fa := [.glo "is_integer",
  .glo "is_bits",
  .glo "other_bit",
  .glo "check_place",
  .glo "turned",
  .glo "dropped",
  .glo "put",
  .glo "_law_is_int",
  .glo "_law_same",
  .glo "_law_is_bits",
  .glo "_law_start",
  .glo "_law_pull",
  .glo "_law_row",
  .glo "_law_outcome",
  .glo "_law_place",
  .glo "_law_one_due",
  .glo "_law_asked",
  .glo "law",
  .glo "RoomError",
  .exm "RoomError" "RoomError" true,
  .exc "RoomError",
  .glo "NoBits",
  .exm "NoBits" "NoBits" true,
  .exc "NoBits",
  .glo "BadNumber",
  .exm "BadNumber" "BadNumber" true,
  .noat "BadNumber" "part",
  .free "ValueError",
  .free "bool",
  .free "dict"]
def fa_1 : List He.Fa := [.free "int",
  .free "isinstance",
  .free "len",
  .free "list",
  .free "min",
  .free "range",
  .free "str",
  .free "tuple"]
def fa : List He.Fa := fa_0 ++ (fa_1)
def fx_0 : List (PySem.W.Frag → Bool) := [fun K => oexB K (He.ga K "BadNumber") [He.ga K "RoomError"],
  fun K => xfB K (He.ga K "BadNumber"),
  fun K => He.eqO (PySem.W.findIn K (.ref (He.ga K "BadNumber")) "__init__") (some (some (.ref (He.ma K (He.ga K "BadNumber") "__init__")))),
  fun K => decide (PySem.W.typeIn K (.ref (He.ma K (He.ga K "BadNumber") "__init__")) = some (.type "function")),
  fun K => exdB K (He.ga K "NoBits"),
  fun K => exdB K (He.ga K "BadNumber"),
  fun K => decide (PySem.W.kitOne K (.ref (He.ga K "NoBits")) (.ref (He.ga K "RoomError")) = some true),
  fun K => decide (PySem.W.kitOne K (.ref (He.ga K "NoBits")) (.ref (He.ga K "BadNumber")) = some false),
  fun K => decide (PySem.W.kitOne K (.ref (He.ga K "BadNumber")) (.ref (He.ga K "RoomError")) = some true),
  fun K => decide (PySem.W.kitOne K (.ref (He.ga K "BadNumber")) (.ref (He.ga K "NoBits")) = some false),
  fun K => (He.Fa.exm "BadNumber" "NoBits" false).ok K]
def fx : List (PySem.W.Frag → Bool) := fx_0
def tf : List He.Defn := [("_law_asked", none)]
def names_0 : List PySem.Str := ["RoomError",
  "NoBits",
  "BadNumber",
  "is_integer",
  "is_bits",
  "other_bit",
  "check_place",
  "turned",
  "dropped",
  "put",
  "_law_is_int",
  "_law_same",
  "_law_is_bits",
  "_law_start",
  "_law_pull",
  "_law_row",
  "_law_outcome",
  "_law_place",
  "_law_one_due",
  "_law_asked"]
def names : List PySem.Str := names_0
def ads : List Addr := mainGlobals :: List.range 3000
theorem txt_of {K : PySem.W.Frag} {h : Heap} {mg : Str → Option Value} (X : K.In h) (G : h.Ns mainGlobals mg) (c : SaysA fa fn tf fx h K) :
    ∃ A : Ad, Txt K mg A ∧ mg "law" = some (.ref A.f_law) ∧ (∀ (s : Shared) (v : Value), BindsTo s A.d_law ⟨[v], []⟩ [("script", v)]) ∧ A.tc = (He.cT K ("_law_asked", none)).1 ∧ A.tp = (He.cT K ("_law_asked", none)).2 := by
  obtain ⟨e_BadNumber___init__, F_BadNumber___init__⟩ := c.d.def_ 0 (d := dd_BadNumber___init__) rfl
  obtain ⟨e_is_integer, F_is_integer⟩ := c.d.def_ 1 (d := dd_is_integer) rfl
  obtain ⟨e_is_bits, F_is_bits⟩ := c.d.def_ 2 (d := dd_is_bits) rfl
  obtain ⟨e_other_bit, F_other_bit⟩ := c.d.def_ 3 (d := dd_other_bit) rfl
  obtain ⟨e_check_place, F_check_place⟩ := c.d.def_ 4 (d := dd_check_place) rfl
  obtain ⟨e_turned, F_turned⟩ := c.d.def_ 5 (d := dd_turned) rfl
  obtain ⟨e_dropped, F_dropped⟩ := c.d.def_ 6 (d := dd_dropped) rfl
  obtain ⟨e_put, F_put⟩ := c.d.def_ 7 (d := dd_put) rfl
  obtain ⟨e__law_is_int, F__law_is_int⟩ := c.d.def_ 8 (d := dd__law_is_int) rfl
  obtain ⟨e__law_same, F__law_same⟩ := c.d.def_ 9 (d := dd__law_same) rfl
  obtain ⟨e__law_is_bits, F__law_is_bits⟩ := c.d.def_ 10 (d := dd__law_is_bits) rfl
  obtain ⟨e__law_start, F__law_start⟩ := c.d.def_ 11 (d := dd__law_start) rfl
  obtain ⟨e__law_pull, F__law_pull⟩ := c.d.def_ 12 (d := dd__law_pull) rfl
  obtain ⟨e__law_row, F__law_row⟩ := c.d.def_ 13 (d := dd__law_row) rfl
  obtain ⟨e__law_outcome, F__law_outcome⟩ := c.d.def_ 14 (d := dd__law_outcome) rfl
  obtain ⟨e__law_place, F__law_place⟩ := c.d.def_ 15 (d := dd__law_place) rfl
  obtain ⟨e__law_one_due, F__law_one_due⟩ := c.d.def_ 16 (d := dd__law_one_due) rfl
  obtain ⟨e__law_asked, F__law_asked⟩ := c.d.def_ 17 (d := dd__law_asked) rfl
  obtain ⟨e_law, F_law⟩ := c.d.def_ 18 (d := dd_law) rfl
  exact ⟨{ f_BadNumber___init__ := (He.ma K (He.ga K "BadNumber") "__init__"), d_BadNumber___init__ := e_BadNumber___init__, f_is_integer := (He.ga K "is_integer"), d_is_integer := e_is_integer, f_is_bits := (He.ga K "is_bits"), d_is_bits := e_is_bits, f_other_bit := (He.ga K "other_bit"), d_other_bit := e_other_bit, f_check_place := (He.ga K "check_place"), d_check_place := e_check_place, f_turned := (He.ga K "turned"), d_turned := e_turned, f_dropped := (He.ga K "dropped"), d_dropped := e_dropped, f_put := (He.ga K "put"), d_put := e_put, f__law_is_int := (He.ga K "_law_is_int"), d__law_is_int := e__law_is_int, f__law_same := (He.ga K "_law_same"), d__law_same := e__law_same, f__law_is_bits := (He.ga K "_law_is_bits"), d__law_is_bits := e__law_is_bits, f__law_start := (He.ga K "_law_start"), d__law_start := e__law_start, f__law_pull := (He.ga K "_law_pull"), d__law_pull := e__law_pull, f__law_row := (He.ga K "_law_row"), d__law_row := e__law_row, f__law_outcome := (He.ga K "_law_outcome"), d__law_outcome := e__law_outcome, f__law_place := (He.ga K "_law_place"), d__law_place := e__law_place, f__law_one_due := (He.ga K "_law_one_due"), d__law_one_due := e__law_one_due, f__law_asked := (He.ga K "_law_asked"), d__law_asked := e__law_asked, f_law := (He.ga K "law"), d_law := e_law, c_RoomError := (He.ga K "RoomError"), c_NoBits := (He.ga K "NoBits"), c_BadNumber := (He.ga K "BadNumber"), tc := (He.cT K ("_law_asked", none)).1, tp := (He.cT K ("_law_asked", none)).2 }, { k_BadNumber___init__ := F_BadNumber___init__.kp, F_BadNumber___init__ := He5.fun_of F_BadNumber___init__, b_BadNumber___init__ := (He5.fun_of (st := s_BadNumber___init__) F_BadNumber___init__).binds (ps := ["self", "part"]) fun _ _ _ _ _ _ us hl => match us, hl with | [_, _], _ => rfl, k_is_integer := F_is_integer.kp, F_is_integer := He5.fun_of F_is_integer, b_is_integer := (He5.fun_of (st := s_is_integer) F_is_integer).binds (ps := ["thing"]) fun _ _ _ _ _ _ us hl => match us, hl with | [_], _ => rfl, mg_is_integer := He.glo_ok X G (c.d.fact 0 (f := .glo "is_integer") rfl), k_is_bits := F_is_bits.kp, F_is_bits := He5.fun_of F_is_bits, b_is_bits := (He5.fun_of (st := s_is_bits) F_is_bits).binds (ps := ["thing"]) fun _ _ _ _ _ _ us hl => match us, hl with | [_], _ => rfl, mg_is_bits := He.glo_ok X G (c.d.fact 1 (f := .glo "is_bits") rfl), k_other_bit := F_other_bit.kp, F_other_bit := He5.fun_of F_other_bit, b_other_bit := (He5.fun_of (st := s_other_bit) F_other_bit).binds (ps := ["bit"]) fun _ _ _ _ _ _ us hl => match us, hl with | [_], _ => rfl, mg_other_bit := He.glo_ok X G (c.d.fact 2 (f := .glo "other_bit") rfl), k_check_place := F_check_place.kp, F_check_place := He5.fun_of F_check_place, b_check_place := (He5.fun_of (st := s_check_place) F_check_place).binds (ps := ["at", "many"]) fun _ _ _ _ _ _ us hl => match us, hl with | [_, _], _ => rfl, mg_check_place := He.glo_ok X G (c.d.fact 3 (f := .glo "check_place") rfl), k_turned := F_turned.kp, F_turned := He5.fun_of F_turned, b_turned := (He5.fun_of (st := s_turned) F_turned).binds (ps := ["bits", "at"]) fun _ _ _ _ _ _ us hl => match us, hl with | [_, _], _ => rfl, mg_turned := He.glo_ok X G (c.d.fact 4 (f := .glo "turned") rfl), k_dropped := F_dropped.kp, F_dropped := He5.fun_of F_dropped, b_dropped := (He5.fun_of (st := s_dropped) F_dropped).binds (ps := ["bits", "at"]) fun _ _ _ _ _ _ us hl => match us, hl with | [_, _], _ => rfl, mg_dropped := He.glo_ok X G (c.d.fact 5 (f := .glo "dropped") rfl), k_put := F_put.kp, F_put := He5.fun_of F_put, b_put := (He5.fun_of (st := s_put) F_put).binds (ps := ["bits", "at", "bit"]) fun _ _ _ _ _ _ us hl => match us, hl with | [_, _, _], _ => rfl, mg_put := He.glo_ok X G (c.d.fact 6 (f := .glo "put") rfl), k__law_is_int := F__law_is_int.kp, F__law_is_int := He5.fun_of F__law_is_int, b__law_is_int := (He5.fun_of (st := s__law_is_int) F__law_is_int).binds (ps := ["told"]) fun _ _ _ _ _ _ us hl => match us, hl with | [_], _ => rfl, mg__law_is_int := He.glo_ok X G (c.d.fact 7 (f := .glo "_law_is_int") rfl), k__law_same := F__law_same.kp, F__law_same := He5.fun_of F__law_same, b__law_same := (He5.fun_of (st := s__law_same) F__law_same).binds (ps := ["told", "due"]) fun _ _ _ _ _ _ us hl => match us, hl with | [_, _], _ => rfl, mg__law_same := He.glo_ok X G (c.d.fact 8 (f := .glo "_law_same") rfl), k__law_is_bits := F__law_is_bits.kp, F__law_is_bits := He5.fun_of F__law_is_bits, b__law_is_bits := (He5.fun_of (st := s__law_is_bits) F__law_is_bits).binds (ps := ["told"]) fun _ _ _ _ _ _ us hl => match us, hl with | [_], _ => rfl, mg__law_is_bits := He.glo_ok X G (c.d.fact 9 (f := .glo "_law_is_bits") rfl), k__law_start := F__law_start.kp, F__law_start := He5.fun_of F__law_start, b__law_start := (He5.fun_of (st := s__law_start) F__law_start).binds (ps := ["script"]) fun _ _ _ _ _ _ us hl => match us, hl with | [_], _ => rfl, mg__law_start := He.glo_ok X G (c.d.fact 10 (f := .glo "_law_start") rfl), k__law_pull := F__law_pull.kp, F__law_pull := He5.fun_of F__law_pull, b__law_pull := (He5.fun_of (st := s__law_pull) F__law_pull).binds (ps := ["state", "many"]) fun _ _ _ _ _ _ us hl => match us, hl with | [_, _], _ => rfl, mg__law_pull := He.glo_ok X G (c.d.fact 11 (f := .glo "_law_pull") rfl), k__law_row := F__law_row.kp, F__law_row := He5.fun_of F__law_row, b__law_row := (He5.fun_of (st := s__law_row) F__law_row).binds (ps := ["state", "many"]) fun _ _ _ _ _ _ us hl => match us, hl with | [_, _], _ => rfl, mg__law_row := He.glo_ok X G (c.d.fact 12 (f := .glo "_law_row") rfl), k__law_outcome := F__law_outcome.kp, F__law_outcome := He5.fun_of F__law_outcome, b__law_outcome := (He5.fun_of (st := s__law_outcome) F__law_outcome).binds (ps := ["call"]) fun _ _ _ _ _ _ us hl => match us, hl with | [_], _ => rfl, mg__law_outcome := He.glo_ok X G (c.d.fact 13 (f := .glo "_law_outcome") rfl), k__law_place := F__law_place.kp, F__law_place := He5.fun_of F__law_place, b__law_place := (He5.fun_of (st := s__law_place) F__law_place).binds (ps := ["thing", "many"]) fun _ _ _ _ _ _ us hl => match us, hl with | [_, _], _ => rfl, mg__law_place := He.glo_ok X G (c.d.fact 14 (f := .glo "_law_place") rfl), k__law_one_due := F__law_one_due.kp, F__law_one_due := He5.fun_of F__law_one_due, b__law_one_due := (He5.fun_of (st := s__law_one_due) F__law_one_due).binds (ps := ["bits", "at", "more", "good"]) fun _ _ _ _ _ _ us hl => match us, hl with | [_, _, _, _], _ => rfl, mg__law_one_due := He.glo_ok X G (c.d.fact 15 (f := .glo "_law_one_due") rfl), k__law_asked := F__law_asked.kp, F__law_asked := He5.fun_of F__law_asked, b__law_asked := (He5.fun_of (st := s__law_asked) F__law_asked).binds (ps := ["bits", "at", "bit"]) fun _ _ _ _ _ _ us hl => match us, hl with | [_, _, _], _ => rfl, mg__law_asked := He.glo_ok X G (c.d.fact 16 (f := .glo "_law_asked") rfl), k_law := F_law.kp, F_law := He5.fun_of F_law, b_law := (He5.fun_of (st := s_law) F_law).binds (ps := ["script"]) fun _ _ _ _ _ _ us hl => match us, hl with | [_], _ => rfl, mg_law := He.glo_ok X G (c.d.fact 17 (f := .glo "law") rfl), mg_RoomError := He.glo_ok X G (c.d.fact 18 (f := .glo "RoomError") rfl), te_RoomError := He.exm_ok (c.d.fact 19 (f := .exm "RoomError" "RoomError" true) rfl), xo_RoomError := He.exc_ok (c.d.fact 20 (f := .exc "RoomError") rfl), mg_NoBits := He.glo_ok X G (c.d.fact 21 (f := .glo "NoBits") rfl), te_NoBits := He.exm_ok (c.d.fact 22 (f := .exm "NoBits" "NoBits" true) rfl), xo_NoBits := He.exc_ok (c.d.fact 23 (f := .exc "NoBits") rfl), mg_BadNumber := He.glo_ok X G (c.d.fact 24 (f := .glo "BadNumber") rfl), te_BadNumber := He.exm_ok (c.d.fact 25 (f := .exm "BadNumber" "BadNumber" true) rfl), oex_BadNumber := oexB_ok (c.at 0 (f := fun K => oexB K (He.ga K "BadNumber") [He.ga K "RoomError"]) rfl), xf_BadNumber := xfB_ok (c.at 1 (f := fun K => xfB K (He.ga K "BadNumber")) rfl), ix_BadNumber := He.eqO_ok (c.at 2 (f := fun K => He.eqO (PySem.W.findIn K (.ref (He.ga K "BadNumber")) "__init__") (some (some (.ref (He.ma K (He.ga K "BadNumber") "__init__"))))) rfl), tx_BadNumber := of_decide_eq_true (c.at 3 (f := fun K => decide (PySem.W.typeIn K (.ref (He.ma K (He.ga K "BadNumber") "__init__")) = some (.type "function"))) rfl), nx_BadNumber_part := He.noat_ok (c.d.fact 26 (f := .noat "BadNumber" "part") rfl), b_ValueError := He.free_ok X G (c.d.fact 27 (f := .free "ValueError") rfl), b_bool := He.free_ok X G (c.d.fact 28 (f := .free "bool") rfl), b_dict := He.free_ok X G (c.d.fact 29 (f := .free "dict") rfl), b_int := He.free_ok X G (c.d.fact 30 (f := .free "int") rfl), b_isinstance := He.free_ok X G (c.d.fact 31 (f := .free "isinstance") rfl), b_len := He.free_ok X G (c.d.fact 32 (f := .free "len") rfl), b_list := He.free_ok X G (c.d.fact 33 (f := .free "list") rfl), b_min := He.free_ok X G (c.d.fact 34 (f := .free "min") rfl), b_range := He.free_ok X G (c.d.fact 35 (f := .free "range") rfl), b_str := He.free_ok X G (c.d.fact 36 (f := .free "str") rfl), b_tuple := He.free_ok X G (c.d.fact 37 (f := .free "tuple") rfl), xd_NoBits := exdB_ok (c.at 4 (f := fun K => exdB K (He.ga K "NoBits")) rfl), xd_BadNumber := exdB_ok (c.at 5 (f := fun K => exdB K (He.ga K "BadNumber")) rfl), ki_NoBits_RoomError := of_decide_eq_true (c.at 6 (f := fun K => decide (PySem.W.kitOne K (.ref (He.ga K "NoBits")) (.ref (He.ga K "RoomError")) = some true)) rfl), ki_NoBits_BadNumber := of_decide_eq_true (c.at 7 (f := fun K => decide (PySem.W.kitOne K (.ref (He.ga K "NoBits")) (.ref (He.ga K "BadNumber")) = some false)) rfl), ki_BadNumber_RoomError := of_decide_eq_true (c.at 8 (f := fun K => decide (PySem.W.kitOne K (.ref (He.ga K "BadNumber")) (.ref (He.ga K "RoomError")) = some true)) rfl), ki_BadNumber_NoBits := of_decide_eq_true (c.at 9 (f := fun K => decide (PySem.W.kitOne K (.ref (He.ga K "BadNumber")) (.ref (He.ga K "NoBits")) = some false)) rfl), em_BN := of_decide_eq_true (c.at 10 (f := fun K => (He.Fa.exm "BadNumber" "NoBits" false).ok K) rfl), tcode := fun oc od fd osl c h e => He.codeOf_eq h e }, He.glo_ok X G (c.d.fact 17 (f := .glo "law") rfl), fun s v => (FunD.bindsA (ps := ["script"]) F_law fun _ _ _ _ _ _ us hl => match us, hl with | [_], _ => rfl) s [v] rfl, rfl, rfl⟩
abbrev hk : PySem.W.Hook := hookA ads fa fn tf fx
def ob (s : PySem.W.SharedT) : He.AlD × Bool := obsA ads fa fn tf fx (HandSHeadRun.getT s)
theorem ob_eq (s : PySem.W.SharedT) : ob s = hk.obs s.abs := obsA_eq (HandSHeadRun.getT_eq s)
theorem run (w : World) : HandSHeadRun.RunEq (PySem.W.OpenLaw.row PySem.Challenge.rw_roomleft_k87_bits_turned_dropped_and_put) (PySem.W.view (PySem.W.OpenLaw.row PySem.Challenge.rw_roomleft_k87_bits_turned_dropped_and_put).prog [24]) hk ob 20000 names w := by
  intro os
  kernel_rfl
end My

open PySem PySem.W PySem.Calls PyProof.Rows in
set_option maxRecDepth 100000 in
set_option maxHeartbeats 0 in
theorem PySem.Challenge.cw_roomleft_k87_bits_turned_dropped_and_put_holds : PySem.Challenge.rw_roomleft_k87_bits_turned_dropped_and_put.Holds := by
  w_on; o_law
  refine HandSHeadRun.head_any (r := OpenLaw.row PySem.Challenge.rw_roomleft_k87_bits_turned_dropped_and_put) (q := view (OpenLaw.row PySem.Challenge.rw_roomleft_k87_bits_turned_dropped_and_put).prog [24]) (H := My.hk) (ob := My.ob) (M := 20000) (loose := My.names) (d := HandSHeadRun.topDef (OpenLaw.row PySem.Challenge.rw_roomleft_k87_bits_turned_dropped_and_put).prog 24) (kwd := []) My.ob_eq (by kernel_rfl) (fun s => by kernel_rfl) My.run (by kernel_rfl) (by kernel_rfl) (by kernel_rfl) (by rfl) (by first | assumption | decide +kernel) (by decide +kernel) ⟨rfl, rfl, rfl, rfl, rfl, by decide +kernel⟩ ?hw ?hc
  case hw => w_witness2
  case hc =>
    refine LamX.walk_ofTsE (l := PySem.Challenge.rw_roomleft_k87_bits_turned_dropped_and_put) (n := 63) (k := 10) (x := "script") (CX := fun _ => L2.CX0) rfl (by decide) (by kernel_rfl) ⟨rfl, by decide, by decide⟩ ?F (fun _ _ _ _ _ z => z)
    intro w mg fa h Y G hm0
    obtain ⟨K, KX, c⟩ := Y
    have hm : mg ("law" : PySem.Str) = some (.ref fa) := by
      rw [← show (HandSHeadRun.topDef (OpenLaw.row PySem.Challenge.rw_roomleft_k87_bits_turned_dropped_and_put).prog 24).name = ("law" : PySem.Str) from by kernel_rfl]
      exact hm0
    obtain ⟨A, T, e, b, e_tc, e_tp⟩ := My.txt_of KX G c
    have e2 := hm.symm.trans e
    cases e2
    refine ⟨K, KX, A.d_law, My.tf.map (He.cT K), My.sp_law K A, fun p hp => ?_, fun p hp => ?_, fun p hp => ?_, b, fun H a ns hl _ hT hS => ?_, fun base _ _ TB => ?_⟩
    · obtain ⟨q, hq, rfl⟩ := List.mem_map.mp hp
      exact c.empty q hq
    · obtain ⟨q, hq, rfl⟩ := List.mem_map.mp hp
      exact c.out q hq
    · obtain ⟨q, hq, rfl⟩ := List.mem_map.mp hp
      exact PySem.W.codeHd_of_K KX (c.hd q hq)
    · have eT : (A.tc, A.tp) ∈ My.tf.map (He.cT K) := by
        rw [e_tc, e_tp]
        exact List.mem_cons_self ..
      refine ⟨_, rfl, a, ns, rfl, hS, hl, fun p hp => ?_, fun _ => rfl⟩
      rcases List.mem_singleton.mp hp with rfl
      exact LamX.TabS.nil (hT _ eT)
    · have eT : (A.tc, A.tp) ∈ My.tf.map (He.cT K) := by
        rw [e_tc, e_tp]
        exact List.mem_cons_self ..
      exact My.ok_law (TB _ eT) T
#print axioms PySem.Challenge.cw_roomleft_k87_bits_turned_dropped_and_put_holds
