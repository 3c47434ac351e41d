import PyProof.Rows.All
import Wide.All
import OpenK.AllK
import Wide.FinOn
import HandS.ForMost
import HandS.Wide
import HandS.TupAny
import HandS.IsInst
import HandS.OwnEq
import HandS.MakeKwOnly
import HandS.Evl
import HandS.Codes
import PyProof.InstNe
import KE.DataEq
import HandS.ExcInit
import HandS.ExcField
import HandS.ExcOwn
import HandS.Exc
import HandS.Defaults
import HandS.WordsExc
import HandS.CallSlots
import HandS.TryOnly
import HandS.WideBits
import HandS.Text
import HandS.Walk
import HandS.Iter
import HandS.Zip
import KE.GoesMore
import PyProof.EnumMake
import PyProof.Draws
import HandS.TryMany
import HandS.ExcIs
import HandS.Lambda
import KE.KExcIs
import HandS.HotCalls
import HandS.SetFor
import HandS.Head2
import HandS.HeadHook4
import HandS.HeadNt
import HandS.HeadWalk
import HandS.HeadEnd
import KE.KStateDown
import PySem.Challenge.RW_roomleft_k01_errors_and_their_fields
set_option Elab.async false
set_option linter.all false
set_option maxRecDepth 100000
set_option maxHeartbeats 4000000
set_option autoImplicit false
namespace My
open PySem L2
/-! promises by the number of arguments -/
def Sp0 (f : Hp → VK → XK → Prop) : Sp := fun vs H Q E => vs = [] ∧ f H Q E
def Sp1 (f : V → Hp → VK → XK → Prop) : Sp := fun vs H Q E => ∃ a, vs = [a] ∧ f a H Q E
def Sp2 (f : V → V → Hp → VK → XK → Prop) : Sp := fun vs H Q E => ∃ a b, vs = [a, b] ∧ f a b H Q E
def Sp3 (f : V → V → V → Hp → VK → XK → Prop) : Sp := fun vs H Q E => ∃ a b c, vs = [a, b, c] ∧ f a b c H Q E
def Sp4 (f : V → V → V → V → Hp → VK → XK → Prop) : Sp := fun vs H Q E => ∃ a b c d, vs = [a, b, c, d] ∧ f a b c d H Q E
def Sp5 (f : V → V → V → V → V → Hp → VK → XK → Prop) : Sp := fun vs H Q E => ∃ a b c d e, vs = [a, b, c, d, e] ∧ f a b c d e H Q E
def Sp6 (f : V → V → V → V → V → V → Hp → VK → XK → Prop) : Sp := fun vs H Q E => ∃ a b c d e g, vs = [a, b, c, d, e, g] ∧ f a b c d e g H Q E
section
variable {vs : List V} {H : Hp} {Q : VK} {E : XK}
theorem sp1_len {f : V → Hp → VK → XK → Prop} (h : Sp1 f vs H Q E) : vs.length = 1 := by obtain ⟨_, rfl, _⟩ := h; rfl
theorem sp2_len {f : V → V → Hp → VK → XK → Prop} (h : Sp2 f vs H Q E) : vs.length = 2 := by obtain ⟨_, _, rfl, _⟩ := h; rfl
theorem sp3_len {f : V → V → V → Hp → VK → XK → Prop} (h : Sp3 f vs H Q E) : vs.length = 3 := by obtain ⟨_, _, _, rfl, _⟩ := h; rfl
theorem sp4_len {f : V → V → V → V → Hp → VK → XK → Prop} (h : Sp4 f vs H Q E) : vs.length = 4 := by obtain ⟨_, _, _, _, rfl, _⟩ := h; rfl
theorem sp5_len {f : V → V → V → V → V → Hp → VK → XK → Prop} (h : Sp5 f vs H Q E) : vs.length = 5 := by obtain ⟨_, _, _, _, _, rfl, _⟩ := h; rfl
theorem sp6_len {f : V → V → V → V → V → V → Hp → VK → XK → Prop} (h : Sp6 f vs H Q E) : vs.length = 6 := by obtain ⟨_, _, _, _, _, _, rfl, _⟩ := h; rfl
theorem sp1_of {f : V → Hp → VK → XK → Prop} (h : Sp1 f vs H Q E) : ∃ a, vs = [a] ∧ f a H Q E := h
theorem sp2_of {f : V → V → Hp → VK → XK → Prop} (h : Sp2 f vs H Q E) : ∃ a b, vs = [a, b] ∧ f a b H Q E := h
theorem sp3_of {f : V → V → V → Hp → VK → XK → Prop} (h : Sp3 f vs H Q E) : ∃ a b c, vs = [a, b, c] ∧ f a b c H Q E := h
theorem sp4_of {f : V → V → V → V → Hp → VK → XK → Prop} (h : Sp4 f vs H Q E) : ∃ a b c d, vs = [a, b, c, d] ∧ f a b c d H Q E := h
theorem sp5_of {f : V → V → V → V → V → Hp → VK → XK → Prop} (h : Sp5 f vs H Q E) : ∃ a b c d e, vs = [a, b, c, d, e] ∧ f a b c d e H Q E := h
theorem sp6_of {f : V → V → V → V → V → V → Hp → VK → XK → Prop} (h : Sp6 f vs H Q E) : ∃ a b c d e g, vs = [a, b, c, d, e, g] ∧ f a b c d e g H Q E := h
end
/-! the drawing state: the list at p, the script's copy at l, its numbers -/
structure Dr where
  p : Addr
  l : Addr
  ns : List Int
/-- all that is tracked stands, but the state itself -/
def Chg (d : Dr) (H H' : Hp) : Prop := ∀ b o, b ≠ d.p → H b = some o → H' b = some o
section
variable {d : Dr} {H H1 H2 H' : Hp} {q : Addr} {o : HO}
theorem Chg.refl : Chg d H H := fun _ _ _ e => e
theorem Chg.trans (a : Chg d H H1) (b : Chg d H1 H2) : Chg d H H2 := fun c o n e => b c o n (a c o n e)
theorem Chg.upd : Chg d H (upd H d.p o) := fun b u n e => by rw [upd_ne n]; exact e
theorem Chg.new (h : H q = none) : Chg d H (L2.upd H q o) := fun b u n e => by rw [upd_ne (ne_of_none e h)]; exact e
theorem Chg.same (h : Same H H') : Chg d H H' := fun b u _ e => h b u e
/-- a thing that was new, changed -/
theorem Chg.mut (e : Chg d H H') (h : H q = none) : Chg d H (L2.upd H' q o) := fun b u n k => by rw [upd_ne (ne_of_none k h)]; exact e b u n k
end
structure RngL (H : Hp) (d : Dr) (i : Nat) (c s : Int) : Prop where
  pl : d.l ≠ d.p
  st : H d.p = some (.lst [.ref d.l, .int i, .int c, .int s])
  ls : H d.l = some (.lst (d.ns.map V.int))
  hi : i ≤ d.ns.length
  hn : d.ns.length ≤ 63
  hc : 0 ≤ c
  hs : 0 ≤ s
  hs2 : s < 2147483647
def Rng (d : Dr) (H : Hp) : Prop := ∃ i c s, RngL H d i c s
theorem RngL.set {H : Hp} {d : Dr} {i : Nat} {c s : Int} (r : RngL H d i c s) {j : Nat} {x t : Int} (hj : j ≤ d.ns.length) (hx : 0 ≤ x) (ht : 0 ≤ t) (ht2 : t < 2147483647) :
    RngL (upd H d.p (.lst [.ref d.l, .int j, .int x, .int t])) d j x t := ⟨r.pl, upd_same, by rw [upd_ne r.pl]; exact r.ls, hj, r.hn, hx, ht, ht2⟩
section
variable {d : Dr} {H H' : Hp} {q : Addr} {o : HO}
theorem Rng.atp (r : Rng d H) : ∃ xs, H d.p = some (.lst xs) ∧ xs.length = 4 := by
  obtain ⟨i, c, s, r⟩ := r
  exact ⟨_, r.st, rfl⟩
theorem Rng.atl (r : Rng d H) : H d.l = some (.lst (d.ns.map V.int)) := by
  obtain ⟨i, c, s, r⟩ := r
  exact r.ls
/-- something else is changed -/
theorem Rng.put (r : Rng d H) (h1 : q ≠ d.p) (h2 : q ≠ d.l) : Rng d (upd H q o) := by
  obtain ⟨i, c, s, r⟩ := r
  exact ⟨i, c, s, r.pl, by rw [upd_ne h1.symm]; exact r.st, by rw [upd_ne h2.symm]; exact r.ls, r.hi, r.hn, r.hc, r.hs, r.hs2⟩
theorem Rng.nep (r : Rng d H) (h : H q = none) : q ≠ d.p := fun z => by
  obtain ⟨xs, e, _⟩ := r.atp
  rw [← z, h] at e
  cases e
theorem Rng.nel (r : Rng d H) (h : H q = none) : q ≠ d.l := fun z => by
  have e := r.atl
  rw [← z, h] at e
  cases e
theorem Rng.new (r : Rng d H) (h : H q = none) : Rng d (upd H q o) := r.put (r.nep h) (r.nel h)
theorem Rng.same (r : Rng d H) (e : Same H H') : Rng d H' := by
  obtain ⟨i, c, s, r⟩ := r
  exact ⟨i, c, s, r.pl, e _ _ r.st, e _ _ r.ls, r.hi, r.hn, r.hc, r.hs, r.hs2⟩
/-- what was free stays apart from the state -/
theorem Chg.free (e : Chg d H H') (n : q ≠ d.p) (h : H' q = none) : H q = none := by
  cases z : H q with
  | none => rfl
  | some o => rw [e q o n z] at h; cases h
end
theorem ne_lst {H : Hp} {p q : Addr} {xs : List V} {o : HO} (h : H p = some (.lst xs)) (h2 : H q = some o) (d : ∀ ys, o ≠ .lst ys) : q ≠ p := fun z => by
  rw [z, h] at h2
  exact d xs (Option.some.inj h2).symm
theorem pos_ {n : Int} (h : 0 < n) : 0 < n := h
theorem heap_gen {G : Hp → Prop} {H0 : Hp} (C : Hp → Prop) (h : C H0) (k : ∀ H1, C H1 → G H1) : G H0 := k _ h
/-! the script -/
theorem start_seq {K : PySem.W.Frag} {H : Hp} {a : Addr} {xs : List V} (h : SqL K H a xs) : SqL K H a xs := h
def sp_law0 (K : PySem.W.Frag) : Sp := Sp1 fun a H Q _ => ∃ (l : Addr) (ns : List Int), a = .ref l ∧ SqL K H l (ns.map V.int) ∧ ns.length ≤ 63 ∧ ∀ H', Q (.bl true) H'
def sp_start (K : PySem.W.Frag) : Sp := Sp1 fun a H Q _ => ∃ (l : Addr) (ns : List Int), a = .ref l ∧ SqL K H l (ns.map V.int) ∧ ns.length ≤ 63 ∧
  ∀ (d : Dr) H', H d.p = none → H d.l = none → Same H H' → Rng d H' → Q (.ref d.p) H'
def sp_pull : Sp := Sp2 fun a b H Q _ => ∃ (d : Dr) (many : Int), a = .ref d.p ∧ b = .int many ∧ Rng d H ∧ 0 < many ∧ many.natAbs.log2 < 9000 ∧
  ∀ (v : Int) H', 0 ≤ v → v < many → Chg d H H' → Rng d H' → Q (.int v) H'
theorem kit_self {K : PySem.W.Frag} {C : Addr} : PySem.W.kitOne K (.ref C) (.ref C) = some true := by
  unfold PySem.W.kitOne
  rw [if_pos (by simp)]
theorem small_log {n : Int} (h0 : 0 < n) (h : n < 1000000000) : n.natAbs.log2 < 9000 := by
  have e : n.natAbs < 2 ^ 30 := by omega
  have := (Nat.log2_lt (by omega)).mpr e
  omega
end My
namespace My
open PySem L2
theorem sp0_len {vs : List V} {H : Hp} {Q : VK} {E : XK} {f : Hp → VK → XK → Prop} (h : Sp0 f vs H Q E) : vs.length = 0 := by obtain ⟨rfl, _⟩ := h; rfl
theorem sp0_of {vs : List V} {H : Hp} {Q : VK} {E : XK} {f : Hp → VK → XK → Prop} (h : Sp0 f vs H Q E) : vs = [] ∧ f H Q E := h
end My

namespace My
open PySem L2
/-- every tracked tuple stands -/
def TupKeep (H H' : Hp) : Prop := ∀ b xs, H b = some (.tup xs) → H' b = some (.tup xs)
theorem TupKeep.refl {H : Hp} : TupKeep H H := fun _ _ e => e
theorem TupKeep.trans {H H1 H2 : Hp} (a : TupKeep H H1) (b : TupKeep H1 H2) : TupKeep H H2 := fun c xs e => b c xs (a c xs e)
theorem TupKeep.chg {d : Dr} {H H' : Hp} (r : Rng d H) (e : Chg d H H') : TupKeep H H' := fun b xs k => by
  obtain ⟨ys, hp, _⟩ := r.atp
  exact e b _ (ne_lst hp k fun ys => by intro z; cases z) k
theorem TupKeep.set {D : Addr} {H : Hp} {xs : List V} {o : HO} (h : H D = some (.lst xs)) : TupKeep H (upd H D o) := fun b ys k => by
  rw [upd_ne (ne_lst h k fun ys => by intro z; cases z)]
  exact k
theorem TupKeep.new {D : Addr} {H : Hp} {o : HO} (h : H D = none) : TupKeep H (upd H D o) := fun b ys k => by
  rw [upd_ne (ne_of_none k h)]
  exact k
/-- [e for k in range(..)], e (and the range's end) drawing from the state -/
theorem lc_draw {σ : St} {H : Hp} {te : TE} {ta : TA} {j : Nat} {vs : List Nat} {d : Dr} (Pn : Nat → Prop) (Φ : V → Hp → Prop) (hΦ : ∀ v H1 H2, TupKeep H1 H2 → Φ v H1 → Φ v H2)
    (hw : ∀ x, wipe ((wipe σ vs).set j (some x)) vs = wipe σ vs) (hn : ∀ n, Pn n → n ≤ 100000)
    (hta : ∀ R : List V → Hp → Prop, (∀ (n : Nat) H1, Pn n → Chg d H H1 → Rng d H1 → R [.int (n : Int)] H1) → ta σ H R)
    (ht : ∀ (x : V) H1 (Q : VK), Rng d H1 → Chg d H H1 → (∀ v H2, Φ v H2 → Chg d H1 H2 → Rng d H2 → Q v H2) → te ((wipe σ vs).set j (some x)) H1 Q) {Q : VK}
    (k : ∀ (n : Nat) D (xs : List V) H', Pn n → D ≠ d.p → D ≠ d.l → H D = none → xs.length = n → (∀ x ∈ xs, Φ x H') → H' D = some (.lst xs) → Chg d H H' → Rng d H' → Q (.ref D) H') :
    tLc (iRng1 ta) (gName j) tYes te vs σ H Q := by
  refine hta _ fun n H1 pn e1 r1 => ?_
  have hn' := hn n pn
  refine ⟨(n : Int), rfl, by omega, by omega, fun D hD => ?_⟩
  have nDp := r1.nep hD
  have nDl := r1.nel hD
  have hD0 := e1.free nDp hD
  refine lc_range (lo := 0) (n := n) (fun i H' => ∃ xs : List V, H' D = some (.lst xs) ∧ xs.length = i ∧ (∀ x ∈ xs, Φ x H') ∧ Chg d H H' ∧ Rng d H')
    ⟨[], upd_same, rfl, fun x hx => by simp at hx, e1.trans (Chg.new hD), r1.new hD⟩ ?_ ?_
  · rintro i H' hi ⟨xs, hxs, hl, hf, e2, r2⟩
    refine ⟨hw _, ?_⟩
    refine ht _ H' _ r2 e2 fun v H3 hv e3 r3 => ?_
    have hD3 : H3 D = some (.lst xs) := e3 D _ nDp hxs
    refine ⟨xs, hD3, ?_, xs ++ [v], upd_same, by rw [List.length_append, hl]; rfl, fun x hx => ?_, (e2.trans e3).mut hD0, r3.put nDp nDl⟩
    · rw [hl, sizeLine_eq]; omega
    · have tk : TupKeep H3 (upd H3 D (.lst (xs ++ [v]))) := TupKeep.set hD3
      rcases List.mem_append.mp hx with hx | hx
      · exact hΦ x _ _ ((TupKeep.chg r2 e3).trans tk) (hf x hx)
      · rw [List.mem_singleton.mp hx]
        exact hΦ v _ _ tk hv
  · rintro H' ⟨xs, hxs, hl, hf, e2, r2⟩
    exact k n D xs H' pn nDp nDl hD0 hl hf hxs e2 r2
theorem q_setLc {wi : TI} {g : TG} {tt : TT} {te : TE} {vs : List Nat} {i : Nat} {tz : TS} {D : Ends} {σ : St} {H : Hp} (h : tLc wi g tt te vs σ H fun x H1 => tz D (σ.set i (some x)) H1) : tSeq (tAsg (tLc wi g tt te vs) (gName i)) tz D σ H := h
/-! texts of drawn signs -/
def Sign (ok : Nat → Prop) (v : V) (_ : Hp) : Prop := ∃ c, ok c ∧ v = .str ⟨#[c]⟩
theorem signs_of {ok : Nat → Prop} {H : Hp} : ∀ {xs : List V}, (∀ x ∈ xs, Sign ok x H) → ∃ cs : List Nat, xs = (cs.map fun c => (⟨#[c]⟩ : Str)).map V.str ∧ (∀ c ∈ cs, ok c) ∧ cs.length = xs.length
  | [], _ => ⟨[], rfl, fun c h => by simp at h, rfl⟩
  | x :: xs, h => by
    obtain ⟨c, hc, rfl⟩ := h x (List.mem_cons_self ..)
    obtain ⟨cs, e, hcs, hl⟩ := signs_of (xs := xs) fun y hy => h y (List.mem_cons_of_mem _ hy)
    refine ⟨c :: cs, by rw [e]; rfl, fun y hy => ?_, by rw [List.length_cons, List.length_cons, hl]⟩
    rcases List.mem_cons.mp hy with rfl | hy
    · exact hc
    · exact hcs y hy
theorem joinL_signs : ∀ cs : List Nat, TL.joinL [] ((cs.map fun c => (⟨#[c]⟩ : Str)).map TL.tl) = cs
  | [] => rfl
  | [c] => rfl
  | c :: e :: r => by
    have ih := joinL_signs (e :: r)
    show [c] ++ ([] ++ TL.joinL [] (((e :: r).map fun c => (⟨#[c]⟩ : Str)).map TL.tl)) = c :: e :: r
    rw [ih]
    rfl
theorem join_signs (z : Str) (hz : TL.tl z = []) (cs : List Nat) : Txt.join z (cs.map fun c => (⟨#[c]⟩ : Str)) = ⟨cs.toArray⟩ := by
  refine TL.ext_tl ?_
  rw [TL.join_eq, TL.tl_join, hz, joinL_signs]
theorem sum_signs (cs : List Nat) : ((cs.map fun c => (⟨#[c]⟩ : Str)).map (·.length)).sum = cs.length := by
  induction cs with
  | nil => rfl
  | cons c r ih => rw [List.map_cons, List.map_cons, List.sum_cons, ih, List.length_cons]; show 1 + r.length = r.length + 1; omega
/-- a sign of a written text, at a drawn place -/
theorem pick_sign {z : Str} {l : List Nat} (e : z.cps.toList = l) {v : Int} (h0 : 0 ≤ v) (h1 : v < (l.length : Int)) : ∃ c, c ∈ l ∧ atI z.cps.toList v = some c := by
  obtain ⟨n, rfl⟩ := Int.eq_ofNat_of_zero_le h0
  have hn : n < l.length := by omega
  refine ⟨l[n], List.getElem_mem hn, ?_⟩
  rw [e]
  exact atI_nat (by simp [hn])
/-- what a def that draws a text promises -/
def sp_text (ok : Nat → Prop) : Sp := Sp2 fun a b H Q _ => ∃ (d : Dr) (n : Nat), a = .ref d.p ∧ b = .int (n : Int) ∧ n ≤ 100000 ∧ Rng d H ∧
  ∀ (cs : List Nat) H', cs.length = n → (∀ c ∈ cs, ok c) → Chg d H H' → Rng d H' → Q (.str ⟨cs.toArray⟩) H'
def letter (c : Nat) : Prop := 97 ≤ c ∧ c ≤ 122
def bit (c : Nat) : Prop := c = 48 ∨ c = 49
theorem abc_eq : (Str.ofString "abcdefghijklmnopqrstuvwxyz").cps.toList = [97, 98, 99, 100, 101, 102, 103, 104, 105, 106, 107, 108, 109, 110, 111, 112, 113, 114, 115, 116, 117, 118, 119, 120, 121, 122] := by decide +kernel
theorem abc_letter : ∀ c ∈ [97, 98, 99, 100, 101, 102, 103, 104, 105, 106, 107, 108, 109, 110, 111, 112, 113, 114, 115, 116, 117, 118, 119, 120, 121, 122], letter c := by
  unfold letter
  decide
theorem bits_eq : (Str.ofString "01").cps.toList = [48, 49] := by decide +kernel
theorem bits_bit : ∀ c ∈ [48, 49], bit c := by
  unfold bit
  decide
theorem tl_empty : TL.tl (Str.ofString "") = [] := by decide +kernel
end My

namespace My
open PySem PySem.Spec PyProof.Rows L2
/-- a class over object alone with an own __eq__ at f and no own __ne__ -/
structure EqC (K : PySem.W.Frag) (C f : Addr) : Prop where
  eq : PySem.W.findIn K (.ref C) "__eq__" = some (some (.ref f))
  fn : PySem.W.isFn K (.ref f) = true
  cls : ∃ nm q N bs hd sn sub ab col dd k0 k1 k2 k3 k5 newId, K.lookup C = some (excClassObj nm q C N bs [.type "object"] hd sn sub ab col dd k0 k1 k2 k3 k5 newId) ∧
    PySem.W.nsOkIn K N = true ∧ PySem.W.nsIn K N "__eq__" = some (some (.ref f)) ∧ PySem.W.nsIn K N "__ne__" = some none
def rEqO (C : Addr) (sp : Sp) : R2 := fun x y H Q => ∃ a b dx dy fs gs, x = .ref a ∧ y = .ref b ∧ H a = some (.ins C dx fs) ∧ H b = some (.ins C dy gs) ∧ sp [.ref a, .ref b] H Q E0
def rNeO (C : Addr) (sp : Sp) : R2 := fun x y H Q => ∃ a b dx dy fs gs, x = .ref a ∧ y = .ref b ∧ H a = some (.ins C dx fs) ∧ H b = some (.ins C dy gs) ∧
  sp [.ref a, .ref b] H (fun v H' => ∃ r, v = .bl r ∧ Q (.bl (!r)) H') E0
/-- one call deeper in the interpreter's own stack -/
abbrev in1X (X : Cx) : Cx := { X with A := X.A.in1 }
theorem inv_in1 {X : Cx} {pins : List (Addr × Obj)} {σ : L2.St} {H : Hp} {s : Shared} (I : L2.Inv X pins σ H s) : Inv (in1X X) pins σ H s :=
  ⟨⟨I.ok.mod, I.ok.kind, I.ok.glob, I.ok.blt, I.ok.above, I.ok.inj, I.ok.has, I.ok.cab, I.ok.hd, I.ok.frames, I.ok.stk, I.ok.exf, I.ok.bs, I.ok.bsz, I.ok.noex, I.ok.exfs, I.ok.funs, I.ok.frf⟩, I.os, I.bare, I.base, I.loc, I.cell, I.free, I.freeC, I.pin, I.hok, I.len⟩
theorem inv_out1 {X : Cx} {pins : List (Addr × Obj)} {σ : L2.St} {H : Hp} {s : Shared} (I : L2.Inv (in1X X) pins σ H s) : Inv X pins σ H s :=
  ⟨⟨I.ok.mod, I.ok.kind, I.ok.glob, I.ok.blt, I.ok.above, I.ok.inj, I.ok.has, I.ok.cab, I.ok.hd, I.ok.frames, I.ok.stk, I.ok.exf, I.ok.bs, I.ok.bsz, I.ok.noex, I.ok.exfs, I.ok.funs, I.ok.frf⟩, I.os, I.bare, I.base, I.loc, I.cell, I.free, I.freeC, I.pin, I.hok, I.len⟩
theorem rel_notni {v : V} {u : Value} (r : RelV v u) : u ≠ .notImplemented := by
  cases v with
  | non => cases r; exact fun z => nomatch z
  | bl _ => cases r; exact fun z => nomatch z
  | int _ => obtain ⟨t, rfl⟩ := r; exact fun z => nomatch z
  | str _ => obtain ⟨t, rfl⟩ := r; exact fun z => nomatch z
  | byt _ => obtain ⟨t, rfl⟩ := r; exact fun z => nomatch z
  | flt _ => obtain ⟨t, rfl⟩ := r; exact fun z => nomatch z
  | ref _ => cases r; exact fun z => nomatch z
  | ty _ => cases r; exact fun z => nomatch z
theorem cmpBack_of {Q : Value → Shared → Prop} {u : Value} {s : Shared} (h : u ≠ .notImplemented) (q : Q u s) : PySem.W.CmpBack Q u s := by
  unfold PySem.W.CmpBack
  cases u <;> first | exact q | exact absurd rfl h
/-- what a class's own dict holds, out of the written part -/
theorem ns_at {K : PySem.W.Frag} {h : Heap} {N : Addr} {m : Str → Option Value} {n : Str} {v : Value} (kin : K.In h) (G : h.Ns N m) (e : PySem.W.nsIn K N n = some (some v)) : m n = some v := by
  obtain ⟨ob, es, ep, gN, dat, _, look⟩ := G
  unfold PySem.W.nsIn at e
  cases q : K.lookup N with
  | none => simp [q] at e
  | some o2 =>
    have z := (kin _ _ q).symm.trans gN
    injection z with z
    subst z
    obtain ⟨cl, di, da, sl⟩ := o2
    simp only at dat
    subst dat
    simp only [q] at e
    cases r : es.toList.find? (·.key.isStr n) with
    | none => simp only [r] at e; split at e <;> simp at e
    | some en =>
      simp only [r, Option.some.injEq] at e
      rw [← look]
      show (es.find? _).map _ = some v
      rw [← Array.find?_toList]
      simp only [r, Option.map_some, e]
section
variable {X : Cx} {C f : Addr} {fd : FuncData} {ps : List Str} {sp : Sp} {n : Nat}
theorem op_eqO (F : FnOk X.prog X.w X.K X.mg X.base CX0 n f fd ps sp) (c : EqC X.K C f) (hb : Binds X.K fd ps []) (hr : Room n X.A) : OpR X (compareOp .Eq) (rEqO C sp) := by
  intro pins s σ H x y u v Q I rx ry h
  obtain ⟨a, b, dx, dy, fs, gs, rfl, rfl, ha, hb', hs⟩ := h
  cases rx
  cases ry
  obtain ⟨mA, J, _⟩ := ins_get I.hok ha
  obtain ⟨mB, J', _⟩ := ins_get I.hok hb'
  obtain ⟨od, J, _⟩ := J.look
  obtain ⟨od', J', _⟩ := J'.look
  obtain ⟨m, hF⟩ := I.fr
  show wpAny (model X.prog X.w) X.A (richCompare .Eq _ _) (EP X pins σ Q) X.xe s
  refine PySem.W.cmp_K (op := .Eq) (tb := .ref C) hr.units0 hF I.ok.mod.kin J J'.type (by simp [PySem.W.notFirst]) c.eq c.fn ?_
  refine thn (run_fn (us := [.ref a, .ref b]) (vs := [.ref a, .ref b]) F hr hb .nil pass0 I (.cons rfl (.cons rfl .nil)) (show sp ([.ref a, .ref b] ++ []) H _ E0 from hs)) fun w s' hw => ?_
  obtain ⟨v, H', I', r, q⟩ := hw
  exact cmpBack_of (rel_notni r) ⟨v, H', I', r, q⟩
theorem op_neO (F : FnOk X.prog X.w X.K X.mg X.base CX0 n f fd ps sp) (c : EqC X.K C f) (hb : Binds X.K fd ps []) (hr : Room (n + 1) X.A) : OpR X (compareOp .NotEq) (rNeO C sp) := by
  intro pins s σ H x y u v Q I rx ry h
  obtain ⟨a, b, dx, dy, fs, gs, rfl, rfl, ha, hb', hs⟩ := h
  cases rx
  cases ry
  have KX := I.kIn
  obtain ⟨mA, J, _⟩ := ins_get I.hok ha
  obtain ⟨mB, J', _⟩ := ins_get I.hok hb'
  obtain ⟨nm, q, N, bs, hd, sn, sub, ab, col, dd, k0, k1, k2, k3, k5, newId, lC, okN, nE, nN⟩ := c.cls
  obtain ⟨of, lf, ef⟩ := Option.map_eq_some_iff.mp (show (X.K.lookup f).map (·.cls) = some (.type "function") from beq_iff_eq.mp c.fn)
  have NN := Heap.Ns.of_isNs (PySem.W.isNs_of_in KX okN)
  have OE : s.heap.OwnEqNoNe a C f "object" [.type "object"] :=
    ⟨_, of, nm, q, N, bs, hd, sn, sub, ab, col, dd, k0, k1, k2, k3, k5, newId, _, _, J.obj, rfl, KX _ _ lC, NN, ns_at KX NN nE, KX _ _ lf, ef, PySem.F.cmp_object.mro, PySem.F.cmp_object.eq.lookup, PySem.W.ns_none_of KX NN nN⟩
  obtain ⟨hp, g, d, tk, os⟩ := s
  refine compareOp_ne_ownEq PySem.F.cmp_object OE J'.obj rfl (by have := hr.un; omega) ?_
  have I1 := inv_in1 I
  refine thn (run_fn (X := in1X X) (us := [.ref a, .ref b]) (vs := [.ref a, .ref b]) F hr.in1 hb .nil pass0 I1 (.cons rfl (.cons rfl .nil)) (show sp ([.ref a, .ref b] ++ []) H _ E0 from hs)) fun w s' hw => ?_
  obtain ⟨v, H', I', r, z, rfl, q⟩ := hw
  cases r
  exact ⟨_, rfl, .bl _, H', inv_out1 I', rfl, q⟩
/-- == of an instance and one of any own class that does not come first -/
def rEqD (K : PySem.W.Frag) (C : Addr) (sp : Sp) : R2 := fun x y H Q => ∃ a b dx fs D dy gs, x = .ref a ∧ y = .ref b ∧ H a = some (.ins C dx fs) ∧ H b = some (.ins D dy gs) ∧ PySem.W.notFirst K C (.ref D) = true ∧ sp [.ref a, .ref b] H Q E0
theorem op_eqD (F : FnOk X.prog X.w X.K X.mg X.base CX0 n f fd ps sp) (he : PySem.W.findIn X.K (.ref C) "__eq__" = some (some (.ref f))) (hfn : PySem.W.isFn X.K (.ref f) = true) (hb : Binds X.K fd ps []) (hr : Room n X.A) : OpR X (compareOp .Eq) (rEqD X.K C sp) := by
  intro pins s σ H x y u v Q I rx ry h
  obtain ⟨a, b, dx, fs, D, dy, gs, rfl, rfl, ha, hb', hn, hs⟩ := h
  cases rx
  cases ry
  obtain ⟨mA, J, _⟩ := ins_get I.hok ha
  obtain ⟨mB, J', _⟩ := ins_get I.hok hb'
  obtain ⟨od, J, _⟩ := J.look
  obtain ⟨od', J', _⟩ := J'.look
  obtain ⟨m, hF⟩ := I.fr
  show wpAny (model X.prog X.w) X.A (richCompare .Eq _ _) (EP X pins σ Q) X.xe s
  refine PySem.W.cmp_K (op := .Eq) (tb := .ref D) hr.units0 hF I.ok.mod.kin J J'.type hn he hfn ?_
  refine thn (run_fn (us := [.ref a, .ref b]) (vs := [.ref a, .ref b]) F hr hb .nil pass0 I (.cons rfl (.cons rfl .nil)) (show sp ([.ref a, .ref b] ++ []) H _ E0 from hs)) fun w s' hw => ?_
  obtain ⟨v, H', I', r, q⟩ := hw
  exact cmpBack_of (rel_notni r) ⟨v, H', I', r, q⟩
end
end My

namespace My
open PySem PySem.Spec PyProof.Rows L2
/-! == and != of data without dicts, at any texts -/
def rEqP (K : PySem.W.Frag) : R2 := fun x y H Q => ∃ d e, Dp K H x d ∧ Dp K H y e ∧ d.plain = true ∧ e.plain = true ∧ d.depth ≤ 60 ∧ Q (.bl (PyData.eqv d e)) H
def rNeP (K : PySem.W.Frag) : R2 := fun x y H Q => ∃ d e, Dp K H x d ∧ Dp K H y e ∧ d.plain = true ∧ e.plain = true ∧ d.depth ≤ 60 ∧ Q (.bl (!PyData.eqv d e)) H
section
variable {X : Cx}
theorem op_eqP (hu : X.A.units + 64 < cLine) : OpR X (compareOp .Eq) (rEqP X.K) := by
  intro pins s σ H x y v u Q I rx ry h
  obtain ⟨d, e, hd, he, pd, pe, dp, q⟩ := h
  obtain ⟨as, r1⟩ := Dp.reads I d x v hd rx
  obtain ⟨bs, r2⟩ := Dp.reads I e y u he ry
  exact SeqAt.eq_plain r1 r2 pd pe (by have := Nat.min_le_left d.depth e.depth; omega) ⟨.bl _, H, I, rfl, q⟩
theorem op_neP (hu : X.A.units + 64 < cLine) : OpR X (compareOp .NotEq) (rNeP X.K) := by
  intro pins s σ H x y v u Q I rx ry h
  obtain ⟨d, e, hd, he, pd, pe, dp, q⟩ := h
  obtain ⟨as, r1⟩ := Dp.reads I d x v hd rx
  obtain ⟨bs, r2⟩ := Dp.reads I e y u he ry
  exact SeqAt.ne_plain r1 r2 pd pe (by have := Nat.min_le_left d.depth e.depth; omega) ⟨.bl _, H, I, rfl, q⟩
end
mutual
theorem Dp.keep {K : PySem.W.Frag} {H H' : Hp} (e : Same H H') : ∀ {d : PyData} {v : V}, Dp K H v d → Dp K H' v d
  | _, _, .non => .non
  | _, _, .bl b => .bl b
  | _, _, .int i => .int i
  | _, _, .str x => .str x
  | _, _, .lst h a => .lst (e.seq h) (DpAll.keep e a)
  | _, _, .tup h a => .tup (h.elim (fun h => .inl (h.elim (fun h => .inl (e _ _ h)) fun ⟨o, h⟩ => .inr ⟨o, e _ _ h⟩)) fun h => .inr h) (DpAll.keep e a)
theorem DpAll.keep {K : PySem.W.Frag} {H H' : Hp} (e : Same H H') : ∀ {ds : List PyData} {vs : List V}, DpAll K H vs ds → DpAll K H' vs ds
  | _, _, .nil => .nil
  | _, _, .cons h a => .cons (Dp.keep e h) (DpAll.keep e a)
end
theorem DpAll.length {K : PySem.W.Frag} {H : Hp} : ∀ {vs : List V} {ds : List PyData}, DpAll K H vs ds → vs.length = ds.length
  | _, _, .nil => rfl
  | _, _, .cons _ a => congrArg Nat.succ (DpAll.length a)
theorem eqv_list (xs ys : List PyData) : PyData.eqv (.list xs) (.list ys) = PyData.eqvAll xs ys := by rw [PyData.eqv]
theorem eqv_tuple (xs ys : List PyData) : PyData.eqv (.tuple xs) (.tuple ys) = PyData.eqvAll xs ys := by rw [PyData.eqv]
/-! keywords: the values by their places -/
def pick {α : Type} (ix : List Nat) (l : List α) : List α := ix.filterMap fun i => l[i]?
theorem pick_rel : ∀ (ix : List Nat) {vs : List V} {us : List Value}, Vals vs us → Vals (pick ix vs) (pick ix us)
  | [], _, _, _ => .nil
  | i :: ix, vs, us, r => by
    have ih := pick_rel ix r
    unfold pick at ih ⊢
    rw [List.filterMap_cons, List.filterMap_cons]
    cases e : vs[i]? with
    | none =>
      rw [r.none_of e]
      exact ih
    | some x =>
      obtain ⟨u, hu, ru⟩ := r.get e
      rw [hu]
      exact .cons ru ih
theorem fun_kbn {K : PySem.W.Frag} {x qual : Str} {st : Stmt} {f : Addr} {fd : FuncData} {ps ks : List Str} {n : Nat} (ix : List Nat) (F : Fun K x qual st f fd)
    (h : ∀ (kV doc pm : Value) (an : Option Addr) (cdv ct : Value) (us ws : List Value), us.length = n → ws.length = ks.length →
      bindArgs (PySem.W.fnOf x qual (defArgs st) (defBody st) (defScope st) .none kV doc pm an cdv ct) ⟨us, ks.zip ws⟩ = pure (ps.zip (pick ix (us ++ ws)))) :
    KBn K fd ps n ks (fun us ws => pick ix (us ++ ws)) (fun vs zs => pick ix (vs ++ zs)) := by
  obtain ⟨oc, od, kV, doc, pm, an, cdv, ct, osl, rfl, lk, hcd⟩ := F.ex
  exact ⟨fun s us ws _ l1 l2 => .of_eq (h kV doc pm an cdv ct us ws l1 l2), fun r1 r2 => pick_rel ix (r1.append r2)⟩
end My

namespace My
open PySem L2
/-! the classes of the program that stand over object alone -/
structure ClsO (K : PySem.W.Frag) (C : Addr) (nm : Str) : Prop where
  ex : ∃ q N bs hd sn sub ab col dd k0 k1 k2 k3 k5 newId, K.lookup C = some (excClassObj nm q C N bs [.type "object"] hd sn sub ab col dd k0 k1 k2 k3 k5 newId)
theorem ClsO.cls {K : PySem.W.Frag} {C : Addr} {nm : Str} (h : ClsO K C nm) : ∃ cd, PySem.W.clsIn K C = some cd ∧ cd.mro = [.ref C, .type "object"] ∧ cd.name = nm := by
  obtain ⟨q, N, bs, hd, sn, sub, ab, col, dd, k0, k1, k2, k3, k5, newId, e⟩ := h.ex
  refine ⟨_, by unfold PySem.W.clsIn; rw [e], rfl, rfl⟩
theorem ClsO.ne {K : PySem.W.Frag} {C D : Addr} {nm nm' : Str} (h : ClsO K C nm) (h' : ClsO K D nm') (n : ¬ nm = nm') : C ≠ D := fun z => by
  subst z
  obtain ⟨cd, e, _, q⟩ := h.cls
  obtain ⟨cd', e', _, q'⟩ := h'.cls
  rw [e] at e'
  cases e'
  exact n (q.symm.trans q')
theorem ClsO.sub {K : PySem.W.Frag} {C : Addr} {nm : Str} (h : ClsO K C nm) (b : Value) : PySem.W.subIn K (.ref C) b = some (decide (b = .ref C ∨ b = .type "object")) := by
  obtain ⟨cd, e, m, _⟩ := h.cls
  show PySem.W.mroIn K C b = _
  unfold PySem.W.mroIn
  rw [e, Option.bind_some, m, if_neg (by simp)]
  congr 1
  simp only [List.contains_cons, List.contains_nil, Bool.or_false]
  rw [Bool.decide_or]
  rfl
theorem ClsO.type {K : PySem.W.Frag} {C : Addr} {nm : Str} (h : ClsO K C nm) : PySem.W.typeIn K (.ref C) = some (.type "type") := by
  obtain ⟨q, N, bs, hd, sn, sub, ab, col, dd, k0, k1, k2, k3, k5, newId, e⟩ := h.ex
  show (K.lookup C).map (·.cls) = _
  rw [e]
  rfl
/-- the built-in types that our values have -/
def tags : List String := ["NoneType", "bool", "int", "str", "list", "tuple", "dict"]
def asks : List String := ["bool", "int", "str", "list", "tuple", "dict"]
inductive TagOk (K : PySem.W.Frag) : Value → Prop where
  | ty {n : String} (h : n ∈ tags) : TagOk K (.type n)
  | own {C : Addr} {nm : Str} (h : ClsO K C nm) : TagOk K (.ref C)
/-- is a thing of type t an instance of c -/
def isa (t c : Value) : Bool := decide (t = c) || (decide (t = .type "bool") && decide (c = .type "int"))
theorem kitB_table : ∀ n ∈ tags, ∀ m ∈ asks, kitB n m = some (decide (n = m) || (decide (n = "bool") && decide (m = "int"))) := by decide +kernel
theorem kitMeta_asks : ∀ m ∈ asks, PySem.W.kitMeta m = true := by decide +kernel
theorem asks_obj : ∀ m ∈ asks, m ≠ "object" := by decide
theorem isa_ty {n m : String} : isa (.type n) (.type m) = (decide (n = m) || (decide (n = "bool") && decide (m = "int"))) := by
  unfold isa
  have h : ∀ a b : String, decide (Value.type a = Value.type b) = decide (a = b) := fun a b => by
    by_cases e : a = b
    · subst e; simp
    · rw [decide_eq_false e, decide_eq_false (fun z => e (by injection z))]
  rw [h, h, h]
theorem kit_isa {K : PySem.W.Frag} {t : Value} (h : TagOk K t) {m : String} (hm : m ∈ asks) : PySem.W.kitOne K t (.type m) = some (isa t (.type m)) := by
  cases h with
  | ty hn => rw [isa_ty]; exact kit_ty (kitB_table _ hn _ hm)
  | own o =>
    unfold PySem.W.kitOne
    rw [if_neg (by simp)]
    show (if PySem.W.kitMeta m = true then PySem.W.subIn K _ (.type m) else none) = _
    rw [if_pos (kitMeta_asks m hm), o.sub]
    congr 1
    unfold isa
    rw [decide_eq_false (by intro z; rcases z with z | z <;> first | (injection z with z; exact asks_obj m hm z) | cases z), decide_eq_false (by intro z; cases z), decide_eq_false (by intro z; cases z)]
    rfl
def allTypes (l : List Value) : Bool := l.all fun v => match v with | .type _ => true | _ => false
theorem tags_mro0 : ∀ n ∈ tags, (fastBuiltinMro n).map allTypes = some true := by decide +kernel
theorem tags_mro (n : String) (h : n ∈ tags) : ∃ l, fastBuiltinMro n = some l ∧ ∀ v ∈ l, ∃ s, v = Value.type s := by
  obtain ⟨l, e, q⟩ := Option.map_eq_some_iff.mp (tags_mro0 n h)
  refine ⟨l, e, fun v hv => ?_⟩
  have z := List.all_eq_true.mp q v hv
  cases v <;> first | exact ⟨_, rfl⟩ | cases z
theorem kit_isaO {K : PySem.W.Frag} {t : Value} (h : TagOk K t) {D : Addr} {nm : Str} (d : ClsO K D nm) : PySem.W.kitOne K t (.ref D) = some (isa t (.ref D)) := by
  have two : ((PySem.W.clsIn K D).isSome && PySem.W.typeIn K (.ref D) == some (.type "type")) = true := by
    obtain ⟨cd, e, _⟩ := d.cls
    rw [e, d.type]
    rfl
  cases h with
  | @ty n hn =>
    unfold PySem.W.kitOne
    rw [if_neg (by simp)]
    show (if _ then PySem.W.subIn K _ (.ref D) else none) = _
    rw [if_pos two]
    obtain ⟨l, e, hl⟩ := tags_mro n hn
    show (fastBuiltinMro n).map _ = _
    rw [e]
    show some _ = some _
    have i1 : isa (.type n) (.ref D) = false := by
      have n1 : ¬ Value.type n = Value.ref D := fun z => by cases z
      have n2 : ¬ Value.ref D = Value.type "int" := fun z => by cases z
      unfold isa
      rw [decide_eq_false n1, decide_eq_false n2, Bool.and_false]
      rfl
    rw [i1]
    congr 1
    rw [Bool.eq_false_iff]
    intro z
    obtain ⟨s, e⟩ := hl _ (List.contains_iff_mem.mp z)
    cases e
  | @own C nm' o =>
    by_cases e : C = D
    · subst e
      unfold isa
      rw [kit_self, decide_eq_true rfl]
      rfl
    · unfold PySem.W.kitOne
      rw [if_neg (by simp; exact e)]
      show (if _ then PySem.W.subIn K _ (.ref D) else none) = _
      rw [if_pos two, o.sub]
      congr 1
      unfold isa
      have n1 : ¬ Value.ref C = Value.ref D := fun z => e (by injection z)
      have n2 : ¬ Value.ref D = Value.ref C := fun z => e (by injection z with z; exact z.symm)
      rw [decide_eq_false n1, decide_eq_false (by intro z; rcases z with z | z; exact n2 z; cases z), decide_eq_false (by intro z; cases z)]
      rfl
theorem kitAny_isa {K : PySem.W.Frag} {t : Value} : ∀ {us : List Value}, (∀ u ∈ us, PySem.W.kitOne K t u = some (isa t u)) → PySem.W.kitAny K t us = some (us.any (isa t))
  | [], _ => rfl
  | u :: us, h => kitAny_cons (h u (List.mem_cons_self ..)) (fun e => by rw [kitAny_isa fun v hv => h v (List.mem_cons_of_mem _ hv), List.any_cons, e]; rfl) (fun e => by rw [List.any_cons, e]; rfl)
/-! typed values: what a value is, as far as isinstance goes -/
inductive VT (K : PySem.W.Frag) (H : Hp) : V → Value → Prop where
  | non : VT K H .non (.type "NoneType")
  | bl (b : Bool) : VT K H (.bl b) (.type "bool")
  | int (i : Int) : VT K H (.int i) (.type "int")
  | str (x : Str) : VT K H (.str x) (.type "str")
  | lst {a : Addr} {xs : List V} (e : H a = some (.lst xs)) : VT K H (.ref a) (.type "list")
  | tup {a : Addr} {xs : List V} (e : H a = some (.tup xs)) : VT K H (.ref a) (.type "tuple")
  | dK {a : Addr} {kvs : List (Key × V)} (e : H a = some (.dK kvs)) : VT K H (.ref a) (.type "dict")
  | ins {a C dx : Addr} {fs : List (Str × V)} {nm : Str} (e : H a = some (.ins C dx fs)) (c : C8.InsC K C) (o : ClsO K C nm) : VT K H (.ref a) (.ref C)
theorem VT.tyx {K : PySem.W.Frag} {H : Hp} {v : V} {t : Value} (h : VT K H v t) : TyX K H v t := by
  cases h with
  | non => exact .base .non
  | bl b => exact .base (.bl b)
  | int i => exact .base (.int i)
  | str x => exact .base (.str x)
  | lst e => exact .base (.lst e)
  | tup e => exact .base (.tup e)
  | dK e => exact .base (.dK e)
  | ins e c o => exact .base (.ins e c.cl c.ha c.hn c.htk c.hm)
theorem VT.tag {K : PySem.W.Frag} {H : Hp} {v : V} {t : Value} (h : VT K H v t) : TagOk K t := by
  cases h <;> first | exact .ty (by decide) | exact .own (by assumption)
/-- each thing keeps its sort -/
def KK (H H' : Hp) : Prop := ∀ a o, H a = some o → ∃ o', H' a = some o' ∧ match o, o' with
  | .lst _, .lst _ => True
  | .tup xs, .tup ys => xs = ys
  | .dK _, .dK _ => True
  | .ins C _ _, .ins C' _ _ => C = C'
  | .lst _, _ => False
  | .tup _, _ => False
  | .dK _, _ => False
  | .ins _ _ _, _ => False
  | _, _ => True
theorem KK.refl {H : Hp} : KK H H := fun a o e => ⟨o, e, by cases o <;> trivial⟩
theorem KK.same {H H' : Hp} (h : Same H H') : KK H H' := fun a o e => ⟨o, h a o e, by cases o <;> trivial⟩
theorem KK.trans {H H1 H2 : Hp} (h : KK H H1) (k : KK H1 H2) : KK H H2 := fun a o e => by
  obtain ⟨o1, e1, r1⟩ := h a o e
  obtain ⟨o2, e2, r2⟩ := k a o1 e1
  refine ⟨o2, e2, ?_⟩
  cases o <;> cases o1 <;> first | (exact r1.elim) | skip
  all_goals (cases o2 <;> first | trivial | exact r2.elim | (exact Eq.trans r1 r2) | skip)
theorem KK.chg {d : Dr} {H H' : Hp} (r : Rng d H) (r' : Rng d H') (e : Chg d H H') : KK H H' := fun a o h => by
  by_cases n : a = d.p
  · obtain ⟨xs, e1, _⟩ := r.atp
    obtain ⟨ys, e2, _⟩ := r'.atp
    rw [n] at h ⊢
    rw [e1] at h
    cases h
    exact ⟨_, e2, trivial⟩
  · exact ⟨o, e a o n h, by cases o <;> trivial⟩
theorem KK.setL {H : Hp} {D : Addr} {xs ys : List V} (h : H D = some (.lst xs)) : KK H (upd H D (.lst ys)) := fun a o e => by
  by_cases n : a = D
  · rw [n] at e ⊢
    rw [h] at e
    cases e
    exact ⟨_, upd_same, trivial⟩
  · exact ⟨o, by rw [upd_ne n]; exact e, by cases o <;> trivial⟩
theorem KK.new {H : Hp} {D : Addr} {o : HO} (h : H D = none) : KK H (upd H D o) := KK.same fun b u e => by rw [upd_ne (ne_of_none e h)]; exact e
theorem VT.keep {K : PySem.W.Frag} {H H' : Hp} (e : KK H H') {v : V} {t : Value} (h : VT K H v t) : VT K H' v t := by
  cases h with
  | non => exact .non
  | bl b => exact .bl b
  | int i => exact .int i
  | str x => exact .str x
  | lst h =>
    obtain ⟨o, e1, r⟩ := e _ _ h
    cases o <;> first | exact .lst e1 | exact r.elim
  | tup h =>
    obtain ⟨o, e1, r⟩ := e _ _ h
    cases o <;> first | exact .tup e1 | exact r.elim
  | dK h =>
    obtain ⟨o, e1, r⟩ := e _ _ h
    cases o <;> first | exact .dK e1 | exact r.elim
  | ins h c o2 =>
    obtain ⟨o, e1, r⟩ := e _ _ h
    cases o with
    | ins C' dx' fs' =>
      have z : _ = C' := r
      subst z
      exact .ins e1 c o2
    | _ => exact r.elim
/-- an integer and no bool -/
def isI : V → Bool
  | .int _ => true
  | _ => false
theorem isI_of {K : PySem.W.Frag} {H : Hp} {v : V} {t : Value} (h : VT K H v t) : isI v = (isa t (.type "int") && !isa t (.type "bool")) := by
  cases h <;> first | rfl | (simp only [isI, isa]; simp)
def isS : V → Bool
  | .str _ => true
  | _ => false
theorem isS_of {K : PySem.W.Frag} {H : Hp} {v : V} {t : Value} (h : VT K H v t) : isS v = isa t (.type "str") := by
  cases h <;> first | rfl | (simp only [isS, isa]; simp)
/-- isinstance(x, T), T built in: the reading -/
theorem isi_ty {K : PySem.W.Frag} {H : Hp} {v : V} {t : Value} {Q : VK} {m : String} (h : VT K H v t) (hm : m ∈ asks) (q : Q (.bl (isa t (.type m))) H) : rIsi K [v, .ty m] H Q :=
  ⟨v, .ty m, t, .type m, _, rfl, .ty m, h.tyx, kit_isa h.tag hm, q⟩
theorem isi_own {K : PySem.W.Frag} {H : Hp} {v : V} {t : Value} {Q : VK} {D : Addr} {nm : Str} (h : VT K H v t) (d : ClsO K D nm) (q : Q (.bl (isa t (.ref D))) H) : rIsi K [v, .ref D] H Q :=
  ⟨v, .ref D, t, .ref D, _, rfl, .own D, h.tyx, kit_isaO h.tag d, q⟩
end My

namespace My
open PySem PySem.Spec PyProof.Rows L2
section
variable {X : Cx} {CX : CXT} {k n : Nat} {f C : Addr} {fd : FuncData} {ps ks : List Str} {sp : Sp} {dvs : List V} {ds : List Value} {E : L2.St → XK} {x : Str} {p pos : Pos} {e : Expr} {es : List Expr} {kws : List Keyword} {t tk : TA}
  {g : List Value → List Value → List Value} {gV : List V → List V → List V}
/-- what a call ends in, where what it raises is wished for at the caller's slots -/
theorem ends_at {pins : List (Addr × Obj)} {σ : L2.St} {H : Hp} {s s' : Shared} {Q : VK} {r : Result} (I : L2.Inv X pins σ H s) (hx : PassesAt CX X σ (E σ)) (hq : CR CX X.stack X.prog X.w H s Q (E σ) r s') {R : Value → Shared → Prop}
    (hr : ∀ u, EP X pins σ Q u s' → R u s') : wants R X.xe r s' := by
  cases r with
  | error er => exact hx pins H s er s' I hq
  | ok fl => cases fl <;> first | exact hr _ (I.after hq) | exact False.elim hq
/-- C(..) where C's __init__ may raise -/
def tMakeS (C : Addr) (sp : Sp) (dvs : List V) (E : L2.St → XK) (t : TA) : TE := fun σ H Q => t σ H fun vs H1 => ∀ x dx, H1 x = none → H1 dx = none → dx ≠ x →
  sp (.ref x :: (vs ++ dvs)) (upd (upd H1 dx (.own x)) x (.ins C dx [])) (fun v H2 => v = .non ∧ Q (.ref x) H2) (E σ)
theorem made_ends {pins : List (Addr × Obj)} {σ : L2.St} {H : Hp} {s : Shared} {Q : VK} {us : List Value} {kw : List (Str × Value)} (M : Mk X.K C f) (I : L2.Inv X pins σ H s) (hx : PassesAt CX X σ (E σ))
    (h : codeAny (model X.prog X.w) (X.A.under (.builtin "type.__call__" ⟨.ref C :: us, kw⟩)) (.call (.ref f) ⟨.ref (s.heap.objs.size + 1) :: us, kw⟩)
      (CR CX X.stack X.prog X.w (upd (upd H s.heap.objs.size (.own (s.heap.objs.size + 1))) (s.heap.objs.size + 1) (.ins C s.heap.objs.size [])) { s with heap := (s.heap.push PySem.W.emptyDict).push (PySem.W.instObj C s.heap.objs.size) }
        (fun v H2 => v = .non ∧ Q (.ref (s.heap.objs.size + 1)) H2) (E σ)) { s with heap := (s.heap.push PySem.W.emptyDict).push (PySem.W.instObj C s.heap.objs.size) }) :
    wpAny (model X.prog X.w) X.A (call (.ref C) us kw) (EP X pins σ Q) X.xe s := by
  have J := Inv.made (C := C) I
  refine wpAny_call (make_map (f := f) I.kIn M.makes M.init (beq_iff_eq.mp M.fn) (codeAny_mono h fun r s' q => ?_))
  cases r with
  | error er => exact hx pins _ _ er s' J q
  | ok fl =>
    cases fl with
    | ret u =>
      obtain ⟨v, H', J', rv, ev, q2⟩ := J.after q
      subst ev
      exact ⟨rv, ⟨V.ref (s.heap.objs.size + 1), H', J', rfl, q2⟩⟩
    | next => exact False.elim q
    | brk => exact False.elim q
    | cont => exact False.elim q
theorem pe_makeS (M : Mk X.K C f) (F : FnOk X.prog X.w X.K X.mg X.base CX k f fd ps sp) (hr : Room (k + 1) X.A) (hg : Gl X x) (hm : X.mg x = some (.ref C)) (hb : L2.Binds X.K fd ps ds) (hd : Vals dvs ds) (hx : ∀ σ, PassesAt CX X σ (E σ))
    (ha : PA X (e :: es) t) (hdb : (x == ("__debug__" : Str)) = false := by decide) (he : starEach (e :: es) X.env = (false, eval e X.env) :: starEach es X.env := by rfl) (hpl : (backTo pos (starEach es X.env)).any (·.1) = false := by rfl) :
    PE X (.Call (.Name x p) (e :: es) [] pos) (tMakeS C sp dvs E t) := by
  refine ⟨fun pins s σ H Q I h => ?_⟩
  refine wpAny_Call_Name_kw (ld_glob I hg hm ?_ hdb)
  refine PySem.W.callWith_K (h₀ := X.base) I.ok.mod.kin M.kp (thn (ha.run pos pins s σ H _ I h) fun us s1 hh => ?_) he hpl
  obtain ⟨vs, H1, I1, r, q⟩ := hh
  refine ⟨I1.kIn, made_ends M I1 (hx σ) ?_⟩
  have q1 := q (s1.heap.objs.size + 1) s1.heap.objs.size (I1.hok.fresh (Nat.le_succ _)) (I1.hok.fresh (Nat.le_refl _)) (Nat.ne_of_lt (Nat.lt_succ_self _))
  have J := Inv.made (C := C) I1
  have r2 : Vals (V.ref (s1.heap.objs.size + 1) :: (vs ++ dvs)) (Value.ref (s1.heap.objs.size + 1) :: (us ++ ds)) := .cons rfl (r.append hd)
  exact F.run _ X.stack _ _ _ _ _ _ (E σ) (hr.make C us []) (J.env0.make C us []) (hb _ (Value.ref (s1.heap.objs.size + 1) :: us) J.kIn (r2.length.symm.trans (F.len _ _ _ _ q1))) r2 q1
/-- C(k = v, ..) where C's __init__ may raise -/
def tMakeKS (C : Addr) (m : Nat) (sp : Sp) (gV : List V → List V → List V) (E : L2.St → XK) (tk : TA) : TE := fun σ H Q => tk σ H fun zs H1 => zs.length = m ∧ ∀ x dx, H1 x = none → H1 dx = none → dx ≠ x →
  sp (gV [.ref x] zs) (upd (upd H1 dx (.own x)) x (.ins C dx [])) (fun v H2 => v = .non ∧ Q (.ref x) H2) (E σ)
theorem pe_makeKS (M : Mk X.K C f) (F : FnOk X.prog X.w X.K X.mg X.base CX k f fd ps sp) (hr : Room (k + 1) X.A) (hg : Gl X x) (hm : X.mg x = some (.ref C)) (hb : KBn X.K fd ps 1 ks g gV) (hx : ∀ σ, PassesAt CX X σ (E σ)) (hkw : PK X kws tk)
    (hall : (backToKw pos (keywordEach kws X.env)).all (·.1.isSome) = true := by rfl) (hks : (backToKw pos (keywordEach kws X.env)).filterMap (·.1) = ks := by rfl) (hdb : (x == ("__debug__" : Str)) = false := by decide)
    (hpl : ((backTo pos (starEach [] X.env)).any (·.1) || (backToKw pos (keywordEach kws X.env)).any (·.1.isNone)) = false := by rfl) :
    PE X (.Call (.Name x p) [] kws pos) (tMakeKS C ks.length sp gV E tk) := by
  refine ⟨fun pins s σ H Q I h => ?_⟩
  refine wpAny_Call_Name_kw (ld_glob I hg hm ?_ hdb)
  refine PySem.W.callWith_KW0 (h₀ := X.base) I.ok.mod.kin M.kp hall ?_ hpl
  refine thn (hkw.run pos pins s σ H _ I h) fun ws s1 hh => ?_
  obtain ⟨zs, H1, I1, r, l2, q⟩ := hh
  refine ⟨I1.kIn, ?_⟩
  rw [hks]
  refine made_ends M I1 (hx σ) ?_
  have q1 := q (s1.heap.objs.size + 1) s1.heap.objs.size (I1.hok.fresh (Nat.le_succ _)) (I1.hok.fresh (Nat.le_refl _)) (Nat.ne_of_lt (Nat.lt_succ_self _))
  have J := Inv.made (C := C) I1
  have r1 : Vals [V.ref (s1.heap.objs.size + 1)] [Value.ref (s1.heap.objs.size + 1)] := .cons rfl .nil
  exact F.run _ X.stack _ _ _ _ _ _ (E σ) (hr.make C [] (ks.zip ws)) (J.env0.make C [] (ks.zip ws)) (hb.to _ _ ws J.kIn rfl (r.length.symm.trans l2)) (hb.rel r1 r) q1
/-- C() of a class without an __init__ of its own -/
def tMakeO (C : Addr) : TE := fun _ H Q => ∀ x dx, H x = none → H dx = none → dx ≠ x → Q (.ref x) (upd (upd H dx (.own x)) x (.ins C dx []))
theorem pe_makeO (mk : PySem.W.makesIn X.K C = true) (hi : PySem.W.findIn X.K (.ref C) "__init__" = some (some (.builtin "object.__init__"))) (kp : PySem.W.keepIn X.K (.ref C) = true) (hg : Gl X x) (hm : X.mg x = some (.ref C))
    (hdb : (x == ("__debug__" : Str)) = false := by decide) : PE X (.Call (.Name x p) [] [] pos) (tMakeO C) := by
  refine ⟨fun pins s σ H Q I h => ?_⟩
  refine wpAny_Call_Name_kw (ld_glob I hg hm ?_ hdb)
  refine PySem.W.callWith_K0 I.kIn kp (wpAny_call ?_)
  have J := Inv.made (C := C) I
  have q1 := h (s.heap.objs.size + 1) s.heap.objs.size (I.hok.fresh (Nat.le_succ _)) (I.hok.fresh (Nat.le_refl _)) (Nat.ne_of_lt (Nat.lt_succ_self _))
  have Y := PySem.W.makes_of (M := model X.prog X.w) I.kIn mk
  show codeAny _ _ (.call (.ref C) ⟨[], []⟩) _ _
  refine make_map0 I.kIn mk hi (fun self => .of_pure (PySem.W.oi_bind self)) ?_
  obtain ⟨hp, gs, dr, tks, os⟩ := s
  have t1 : PySem.W.Looks (model X.prog X.w) ((hp.push PySem.W.emptyDict).push (PySem.W.instObj C hp.objs.size)) (typeOf (.ref (hp.objs.size + 1))) (.ref C) :=
    (PySem.W.Looks.ld (part := none) (by heap_get)).andThen .now
  have t2 : PySem.W.Looks (model X.prog X.w) ((hp.push PySem.W.emptyDict).push (PySem.W.instObj C hp.objs.size)) (isInstance (.ref (hp.objs.size + 1)) (.type "object")) true :=
    t1.andThen (Y.top.keeps fun b o z => Heap.get?_push_of_some (PySem.W.instObj C hp.objs.size) (Heap.get?_push_of_some PySem.W.emptyDict z))
  refine codeAny_call_builtin PySem.W.oi_plain PySem.W.entry_oi (PySem.W.check_slot (M := model X.prog X.w) (s := ⟨(hp.push PySem.W.emptyDict).push (PySem.W.instObj C hp.objs.size), gs, dr, tks, os⟩) (rest := []) (kw := []) PySem.W.oi_kind PySem.W.oi_split t2 (PySem.W.oi_args _) ?_)
  rw [PySem.W.oi_run]
  exact wpAny_pure (And.intro rfl ⟨V.ref (hp.objs.size + 1), _, J, rfl, q1⟩)
end
end My

namespace My
open PySem PySem.Spec PyProof.Rows L2
/-! an own exception with one field -/
/-- what its __init__ promises -/
abbrev sp_exc1 (C : Addr) (f : Str) : Sp := Sp2 fun s v H Q _ => ∃ a, s = .ref a ∧ H a = some (exo a C none) ∧ ∀ dx, H dx = none → dx ≠ a → Q .non (upd (upd H dx (exd dx [(f, v)])) a (exo a C (some dx)))
/-- C(v), as it is raised: its own new dict holds the field -/
theorem mk_exc1 {C : Addr} {f : Str} {v : V} {H : Hp} {R : XK} (k : ∀ d, H d = none → R (.ref C) (some d) (upd H d (.xd [(f, v)]))) : ([v] : List V).length ≤ 1000 ∧ ∀ a, H a = none →
    sp_exc1 C f (.ref a :: ([v] ++ [])) (upd H a (exo a C none)) (fun u H2 => u = .non ∧ ∃ (d : Addr) (fs : List (Str × V)), H2 a = some (exo a C (some d)) ∧ H2 d = some (exd d fs) ∧ H d = none ∧ R (.ref C) (some d) (upd (L2.del H2 a) d (.xd fs))) (fun _ _ _ => False) := by
  refine ⟨by show 1 ≤ 1000; decide, fun a ha => ⟨_, _, rfl, a, rfl, upd_same, fun dx hdx ne => ⟨rfl, dx, [(f, v)], upd_same, ?_, ?_, ?_⟩⟩⟩
  · rw [upd_ne ne, upd_same]
  · rw [upd_ne ne] at hdx
    exact hdx
  · rw [upd_ne ne] at hdx
    have e : upd (L2.del (upd (upd (upd H a (exo a C none)) dx (exd dx [(f, v)])) a (exo a C (some dx))) a) dx (.xd [(f, v)]) = upd H dx (.xd [(f, v)]) := by
      funext b
      by_cases h1 : b = dx
      · rw [h1, upd_same, upd_same]
      · rw [upd_ne h1, upd_ne h1]
        by_cases h2 : b = a
        · rw [h2, L2.del_same, ha]
        · rw [L2.del_ne h2, upd_ne h2, upd_ne h1, upd_ne h2]
    rw [e]
    exact k dx hdx
theorem exm_own {K : PySem.W.Frag} {C D : Addr} {b : Bool} (h1 : PySem.W.subIn K (.ref D) (.type "BaseException") = some true) (h2 : PySem.W.isClsIn K D = true) (h3 : PySem.W.typeIn K (.ref D) = some (.type "type")) (h4 : PySem.W.subIn K (.ref C) (.ref D) = some b) :
    PySem.W.exmOne K (.ref C) (.ref D) = some b := by
  have e2 : (PySem.W.clsIn K D).isSome = true := h2
  simp only [PySem.W.exmOne, PySem.W.kitCls, h1, e2, h3, h4, beq_self_eq_true, Bool.and_self, if_true]
/-! defaults -/
theorem binds_nil {K : PySem.W.Frag} {fd : FuncData} {ps : List Str} {dvs : List V} (h0 : dvs = []) (h : ∃ ds, Vals dvs ds ∧ L2.Binds K fd ps ds) : L2.Binds K fd ps [] := by
  subst h0
  obtain ⟨ds, v, b⟩ := h
  cases v
  exact b
theorem binds_non {K : PySem.W.Frag} {fd : FuncData} {ps : List Str} {dvs : List V} (h0 : dvs = [.non]) (h : ∃ ds, Vals dvs ds ∧ L2.Binds K fd ps ds) : L2.Binds K fd ps [.none] := by
  subst h0
  obtain ⟨ds, v, b⟩ := h
  cases v with
  | cons r t =>
    cases t
    cases r
    exact b
theorem fun_kbnD {K : PySem.W.Frag} {x qual : Str} {params : Arguments} {body : List Stmt} {scope : Scope} {dvs : List V} {kws : List (Str × V)} {f : Addr} {fd : FuncData} {ps ks : List Str} {n : Nat} (ix : List Nat) (F : FunD K x qual params body scope dvs kws f fd) (hd : dvs ≠ [])
    (h : ∀ (T : Addr) (kV doc pm : Value) (an : Option Addr) (cdv ct : Value) (us its ws : List Value), us.length = n → its.length = dvs.length → ws.length = ks.length →
      ∃ k, bindArgs (PySem.W.fnOf x qual params body scope (.ref T) kV doc pm an cdv ct) ⟨us, ks.zip ws⟩ = seqItems? (.ref T) >>= k ∧ k (some its.toArray) = pure (ps.zip (pick ix (us ++ ws ++ its)))) :
    ∃ g, KBn K fd ps n ks g (fun vs zs => pick ix (vs ++ zs ++ dvs)) := by
  obtain ⟨oc, od, dV, kV, doc, pm, an, cdv, ct, osl, rfl, lk, hcd, hD, hK⟩ := F.ex
  rcases hD with ⟨e, _⟩ | ⟨_, T, o, its, m, rfl, lT, oT, rT⟩
  · exact absurd e hd
  · refine ⟨fun us ws => pick ix (us ++ ws ++ its), ⟨fun s us ws kin l1 l2 => ?_, fun r1 r2 => pick_rel ix ((r1.append r2).append rT)⟩⟩
    obtain ⟨k, e1, e2⟩ := h T kV doc pm an cdv ct us its ws l1 rT.length.symm l2
    refine BindsTo.of_looks fun M => ?_
    rw [e1]
    exact looks_items kin lT oT (.of_pure e2)
/-! a text, sign by sign -/
theorem for_str {x : Str} {g : TG} {tb : TS} {D : Ends} {σ : L2.St} {H : Hp} (Pv : Nat → L2.St → Hp → Prop) (h0 : Pv 0 σ H)
    (hs : ∀ i c σ H, x.cps.toList[i]? = some c → Pv i σ H → g (.str ⟨#[c]⟩) σ H fun σ2 H2 => tb { D with nx := Pv (i + 1), ct := Pv (i + 1), bk := D.nx } σ2 H2) (hd : ∀ σ H, Pv x.cps.size σ H → D.nx σ H) :
    ∃ W : Nat → Nat → L2.St → Hp → Prop, (∃ m, W 0 m σ H) ∧ ∀ i m σ H, W i m σ H →
      ((Its x).stop i H ∧ D.nx σ H) ∨ ((Its x).go i H ∧ ∃ N : L2.St → Hp → Prop, (∀ σ' H', N σ' H' → ∃ m', m' < m ∧ W (i + 1) m' σ' H') ∧ ∀ y H', (Its x).yld i H y H' → g y σ H' fun σ2 H2 => tb { D with nx := N, ct := N, bk := D.nx } σ2 H2) := by
  refine ⟨fun i m σ H => m + i = x.cps.size ∧ Pv i σ H, ⟨x.cps.size, by simp, h0⟩, ?_⟩
  rintro i m σ H ⟨hm, p⟩
  by_cases hlt : i < x.cps.size
  · refine .inr ⟨hlt, Pv (i + 1), fun σ' H' p' => ⟨m - 1, by omega, by omega, p'⟩, fun y H' hy => ?_⟩
    obtain ⟨e, c, hc, ey⟩ := hy
    subst e ey
    refine hs i c σ _ ?_ p
    rw [Array.getElem?_toList]
    exact hc
  · have e : i = x.cps.size := by omega
    subst e
    exact .inl ⟨Nat.le_refl _, hd σ H p⟩
end My
namespace My
open PySem PySem.Spec PyProof.Rows L2
/-- a call that raises nothing where it stands -/
theorem passL0 {X : Cx} (σ : L2.St) : PassesAt (L2.CX X.prog X.w) X σ E0 := fun _ _ _ _ _ _ h => by
  obtain ⟨_, _, _, _, _, _, _, _, _, _, _, _, z⟩ := h
  exact z.elim
end My
namespace My
open PySem PySem.Spec PyProof.Rows L2
/-! rules with the written part named, for the bodies of a try -/
theorem ix_listK {X : Cx} {K : PySem.W.Frag} (h : X.K = K) : IxR X (rIxL K) := by subst h; exact ix_list
theorem ix_tupK {X : Cx} {K : PySem.W.Frag} (h : X.K = K) : IxR X (rIxT K) := by subst h; exact ix_tup
theorem pe_fldK {X : Cx} {K : PySem.W.Frag} {e : Expr} {te : TE} {f : Str} {pos : Pos} (hk : X.K = K) (h : PE X e te) (hb : attributeBase e f X.env (eval e X.env) = eval e X.env) : PE X (.Attribute e f pos) (tFld K te f) := by subst hk; exact pe_fld h hb
theorem call_isiK2 {X : Cx} {K : PySem.W.Frag} (h : X.K = K) : CallR X (.builtin "isinstance") (rIsi K) := by subst h; exact call_isi
theorem call_isiTK {X : Cx} {K : PySem.W.Frag} (h : X.K = K) : CallR X (.builtin "isinstance") (rIsiT K) := by subst h; exact call_isiT
theorem op_in_seqK {X : Cx} {K : PySem.W.Frag} (h : X.K = K) : OpR X (compareOp .In) (rIn K false) := by subst h; exact op_in_seq
theorem op_notIn_seqK {X : Cx} {K : PySem.W.Frag} (h : X.K = K) : OpR X (compareOp .NotIn) (rIn K true) := by subst h; exact op_notIn_seq
end My

namespace My
open PySem PySem.Spec PyProof.Rows L2
/-! several clauses with names; isinstance of the caught error -/
abbrev HTS : Type := Addr → Value → Option Addr → TS
/-- the ends within a clause's suite: its name is gone behind it -/
def gone (i : Nat) (D : Ends) : Ends := { nx := fun z h => D.nx (z.set i none) h, rt := D.rt, bk := fun z h => D.bk (z.set i none) h, ct := fun z h => D.ct (z.set i none) h }
def wMA (K : PySem.W.Frag) (Wo : WX) (D : Ends) : List (Value × Nat × HTS) → WX
  | [] => Wo
  | (c, i, ts) :: r => fun cls d z h => ∃ b, PySem.W.exmOne K cls c = some b ∧ (b = true → ∀ a, h a = none → ts a cls d (gone i D) (z.set i (some (.ref a))) h) ∧ (b = false → wMA K Wo D r cls d z h)
inductive HdsA (X : Cx) : List ExceptHandler → List (Value × Nat × HTS) → Prop
  | nil : HdsA X [] []
  | cons {x n : Str} {c : Value} {i : Nat} {ts : HTS} {b0 : Stmt} {su : List Stmt} {np ps : Pos} {hds : List ExceptHandler} {l : List (Value × Nat × HTS)} (hc : Names X x c) (hi : X.N[i]? = some n) (hln : X.env.kindOf n = some .local)
      (hsu : ∀ (a : Addr) (oe : Obj) (cls : Value) (d : Option Addr) (pn : List (Addr × Obj)), Zc cls d oe → (∃ vs, oe.data = .fields vs) → PSs (X.suite a ((a, oe) :: pn)) (b0 :: su) (ts a cls d)) (r : HdsA X hds l) :
      HdsA X (.ExceptHandler (some (.Name x np)) (some n) (b0 :: su) ps :: hds) ((c, i, ts) :: l)
theorem Takes.long {X : Cx} {W : WX} (t : Takes X W) : Takes X (fun c d z h => z.length = X.N.length → W c d z h) := fun u s' ⟨a, B, sI, pins, z, h, cls, d, e, I, nb, up, sky, na, os, ag, w⟩ =>
  t u s' ⟨a, B, sI, pins, z, h, cls, d, e, I, nb, up, sky, na, os, ag, w I.len⟩
section
variable {X : Cx} {body : List Stmt} {h0 : ExceptHandler} {hds : List ExceptHandler} {l : List (Value × Nat × HTS)} {pos : Pos} {tb : WX → TS} {Wo : WX}
theorem ps_try_manyA (hs : X.stack = X.env :: X.outer) (hf : X.env.frame = some X.env.locals) (hN : X.N.Nodup) (tk : Takes X Wo)
    (hb : ∀ (W : WX) (pn : List (Addr × Obj)) (xe : Value → Shared → Prop), Takes (X.tr pn xe) W → PassesOwn (model X.prog X.w) X.A X.env xe → PSs (X.tr pn xe) body (tb W))
    (hh : HdsA X (h0 :: hds) l) : PS X (.Try body (h0 :: hds) [] [] pos) (fun D z h => tb (wMA X.K Wo D l) D z h) := by
  refine ⟨fun pins s z h D I hz0 => ?_⟩
  have ok := I.ok
  have hfr : X.A.frames = some (X.env :: X.outer) := hs ▸ ok.frames
  refine wpAny_Try_except (wpAny_mono ((hb (wMA X.K Wo D l) (X.pn ++ pins) (fun e s1 => wpAny (model X.prog X.w) X.A (noteFrame e X.env) (fun _ s2 => wpAny (model X.prog X.w) X.A (setFlight e none) (fun _ s3 => wpAny (model X.prog X.w) X.A (handleBy e X.env (h0 :: hds)) (SP X pins D) X.xe s3) X.xe s2) X.xe s1)
    (fun u s' xx => ?c1) PassesOwn.looking).run [] s z h D (I.toTry _) hz0) (fun f s1 hsp => ?c2) (fun e s1 he => he))
  case c1 =>
    obtain ⟨a, B, sI, pins', z', h', cls, d, rfl, J', nb, up, sky, na, os, ag, w⟩ := xx
    have J : Inv X pins z' h' sI := J'.ofTry ok
    replace sky : Sky B (X.env :: X.outer) a (Zc cls d) X.env.locals s'.heap := hs ▸ sky
    show wpAny (model X.prog X.w) X.A (noteFrame (.ref a) X.env) _ _ _
    refine Sky.land Zc.steady hfr hf sky fun hp fl up3 => ?_
    have J3 : Inv X pins z' h' { s' with heap := hp } := J.landed nb fl.1 (up.trans up3) os ag
    obtain ⟨oe, vs, he, hz, hd⟩ := fl.there
    have nfr : a ∉ frs (X.env :: X.outer) := fun hm => by
      obtain ⟨_, o', e', hnf⟩ := (fl.2.2.1).mem hm
      rw [he] at e'
      cases e'
      exact hnf _ hd
    have nL : a ≠ X.env.locals := fun q => nfr (List.mem_filterMap.mpr ⟨X.env, .head _, by rw [hf, q]⟩)
    have nF : a ∉ X.fs := fun hm => by
      obtain ⟨e, me, q⟩ := List.mem_filterMap.mp hm
      exact nfr (List.mem_filterMap.mpr ⟨e, .tail _ me, q⟩)
    have S3 := J3.suite he hd na nL nF
    have go : ∀ {hs' : List ExceptHandler} {l' : List (Value × Nat × HTS)}, HdsA X hs' l' → wMA X.K Wo D l' cls d z' h' → wpAny (model X.prog X.w) X.A (handleBy (.ref a) X.env hs') (SP X pins D) X.xe { s' with heap := hp } := by
      intro hs' l' hk
      induction hk with
      | nil =>
        intro w
        refine wpAny_handleBy_nil ?_
        obtain ⟨k1, k2, k3, oe, vs, T, oT, ts', he, hz, hd, h1, hr⟩ := id fl
        unfold PySem.passOn
        refine wpAny_bind (wpAny_field he hd h1 ?_)
        rw [if_neg (by simp : ¬ ((Value.ref T == Value.none) = true))]
        have fin : wpAny (model X.prog X.w) X.A (setFlight (.ref a) X.env.frame) (fun _ s4 => wpAny (model X.prog X.w) X.A (throw (.ref a) : Sem Flow) (SP X pins D) X.xe s4) X.xe { s' with heap := hp } :=
          hf ▸ HandSPX.setFlight_upZ fl fun h4 hh4 up4 => wpAny_throw (tk _ _ ⟨a, B, sI, pins, z', h', cls, d, rfl, J, nb, (up.trans up3).trans up4, .inr (.inr (hs ▸ hh4)), na, os, ag, w⟩)
        first
          | exact wpAny_bind (wpAny_pure (wpAny_bind fin))
          | exact wpAny_bind fin
      | @cons x n c i ts b0 su np ps hd2 l2 hc hi hln hsu r ih =>
        rintro ⟨b, hb1, hyes, hno⟩
        refine wpAny_handleBy_cons (codeAny_handlers_test ?_) (by intro q; cases q)
        have LT : PySem.W.Looks (model X.prog X.w) hp (typeOf (.ref a)) cls := fun A Q E s k q => wpAny_typeOf_ref (k _ _ he) (by rw [hz.1]; exact q)
        have LM := PySem.W.exm_one (M := model X.prog X.w) (J3.kIn) LT hb1
        have test : ∀ {Q E : Value → Shared → Prop}, Q c { s' with heap := hp } → wpAny (model X.prog X.w) (X.A.mark (some (.ref a))) (eval (.Name x np) X.env) Q E { s' with heap := hp } := fun {Q E} q => by
          obtain ⟨hg, hdbg, hm | ⟨hm, hv, hnn⟩⟩ := hc
          · exact ld_glob (X := X.suite a ((a, oe) :: (X.pn ++ pins))) S3 hg hm q hdbg
          · exact ld_blt (X := X.suite a ((a, oe) :: (X.pn ++ pins))) S3 hg hm hv q hnn hdbg
        refine test (LM.here ?_)
        cases b with
        | true =>
          refine codeAny_handlers_suite_as (HandSPX.lands_againZ fl fun h4 fl4 up4 => ?_)
          have J4 : Inv X pins z' h' { s' with heap := h4 } := J.landed nb fl4.1 ((up.trans up3).trans up4) os ag
          obtain ⟨o4, vs4, he4, hz4, hd4⟩ := fl4.there
          have S4 := J4.suite he4 hd4 na nL nF
          refine store_ok (X := X.suite a ((a, o4) :: (X.pn ++ pins))) (v := .ref a) S4 hN hi (.inl hln) rfl (fun s5 S5 => ?_) (.inr hln)
          refine wpAny_mono ((hsu a o4 cls d (X.pn ++ pins) hz4 ⟨_, hd4⟩).run [] s5 _ h' _ S5 (hyes rfl a na)) (fun f s6 hsp => ?_) (fun _ _ q => False.elim q)
          have end_ : ∀ {z6 : L2.St} {h6 : Hp} {Q : Shared → Prop}, Inv (X.suite a ((a, o4) :: (X.pn ++ pins))) [] z6 h6 s6 → (∀ s7, Inv X pins (z6.set i none) h6 s7 → Q s7) → wpAny (model X.prog X.w) X.A (do bindName X.env n .none; unbindBehindTheSuite X.env n ps) (fun _ s7 => Q s7) X.xe s6 :=
            fun {z6 h6 Q} S6 hq => gone_ok (S6.unsuite ok) hN hi hln hq
          cases f with
          | next => obtain ⟨z6, h6, S6, q6⟩ := hsp; exact end_ S6 fun s7 J7 => ⟨_, _, J7, q6⟩
          | brk => obtain ⟨z6, h6, S6, q6⟩ := hsp; exact end_ S6 fun s7 J7 => ⟨_, _, J7, q6⟩
          | cont => obtain ⟨z6, h6, S6, q6⟩ := hsp; exact end_ S6 fun s7 J7 => ⟨_, _, J7, q6⟩
          | ret u => obtain ⟨v6, z6, h6, S6, r6, q6⟩ := hsp; exact end_ S6 fun s7 J7 => ⟨_, _, _, J7, r6, q6⟩
        | false => exact ih (hno rfl)
    exact go hh w
  case c2 =>
    cases f with
    | next => obtain ⟨z', h', J', q⟩ := hsp; exact wpAny_execs_nil ⟨z', h', J'.ofTry ok, q⟩
    | brk => obtain ⟨z', h', J', q⟩ := hsp; exact ⟨z', h', J'.ofTry ok, q⟩
    | cont => obtain ⟨z', h', J', q⟩ := hsp; exact ⟨z', h', J'.ofTry ok, q⟩
    | ret u => obtain ⟨v, z', h', J', r, q⟩ := hsp; exact ⟨v, z', h', J'.ofTry ok, r, q⟩
end
/-- isinstance(e, c), e the caught error, with or without a dict of its own -/
structure ExD (K : PySem.W.Frag) (D : Addr) : Prop where
  c : (PySem.W.clsIn K D).isSome = true
  g : PySem.W.findIn K (.ref D) "__getattribute__" = some (some (.builtin "BaseException.__getattribute__"))
  a : PySem.W.findIn K (.ref D) "__getattr__" = some none
  s : PySem.W.subIn K (.ref D) (.type "BaseException") = some true
  k : PySem.W.findIn K (.ref D) "__class__" = some (some (.builtin "object.__class__"))
  n : PySem.W.specialIn K (.builtin "object.__class__") "__get__" = some (some (.builtin "getset_descriptor.__get__"))
  t : PySem.W.takesIn K (.builtin "object.__class__") = some true
  m : PySem.W.mroIn K D (.type "object") = some true
def rIsD (K : PySem.W.Frag) (a : Addr) (cls : Value) (d : Option Addr) : List V → Hp → VK → Prop := fun xs H Q => ∃ (D : Addr) (c : V) (cv : Value) (b : Bool), cls = .ref D ∧ ExD K D ∧ xs = [.ref a, c] ∧ (∀ u, RelV c u → u = cv) ∧ PySem.W.kitOne K (.ref D) cv = some b ∧ (d = none ∨ ∃ dd fs, d = some dd ∧ H dd = some (.xd fs)) ∧ Q (.bl b) H
theorem call_isD {X : Cx} {a : Addr} {cls : Value} {d : Option Addr} {oe : Obj} {pn : List (Addr × Obj)} (hz : Zc cls d oe) (hf : ∃ vs, oe.data = .fields vs) : CallR (X.suite a ((a, oe) :: pn)) (.builtin "isinstance") (rIsD X.K a cls d) := by
  intro pins s σ H xs us Q I r h
  obtain ⟨D, c, cv, b, rfl, C, rfl, hcv, e, hd, q⟩ := h
  cases r with
  | cons rx rr =>
  cases rr with
  | cons rt rr =>
  cases rr
  cases rx
  have ec := hcv _ rt
  subst ec
  obtain ⟨hget, _⟩ := I.pin (a, oe) (List.mem_append.mpr (.inl (.head _)))
  obtain ⟨vs, hv⟩ := hf
  have J : ∃ od, PySem.W.InstAt s.heap a oe D od := by
    obtain ⟨oc, od, oda, osl⟩ := oe
    obtain ⟨h1, h2⟩ := hz
    dsimp only at h1 h2 hv
    subst h1 h2 hv
    rcases hd with z | ⟨dd, fs, z, hx⟩
    · cases z
      exact ⟨none, hget, rfl, rfl, trivial⟩
    · cases z
      have hx2 : ObjOk X.prog X.w H s.heap dd (.xd fs) := I.hok dd _ hx
      obtain ⟨mA, hns, _⟩ := hx2
      obtain ⟨o, ho, _⟩ := lookIn_ns hns
      exact ⟨some o, hget, rfl, rfl, ho⟩
  obtain ⟨od, J⟩ := J
  exact PySem.W.kia_one (PySem.W.kitx_exc C.c C.g C.a C.s C.k C.n C.t C.m) I.kIn J e (fun z => nomatch z) fun tk => ⟨.bl b, H, I.kept (t' := tk) fun _ _ z => z, rfl, q⟩
end My
namespace My
open PySem PySem.Spec PyProof.Rows L2
def exdB (K : PySem.W.Frag) (C : Addr) : Bool := (PySem.W.clsIn K C).isSome && (decide (PySem.W.findIn K (.ref C) "__getattribute__" = some (some (.builtin "BaseException.__getattribute__"))) && (decide (PySem.W.findIn K (.ref C) "__getattr__" = some none) &&
  (decide (PySem.W.subIn K (.ref C) (.type "BaseException") = some true) && (decide (PySem.W.findIn K (.ref C) "__class__" = some (some (.builtin "object.__class__"))) && (decide (PySem.W.specialIn K (.builtin "object.__class__") "__get__" = some (some (.builtin "getset_descriptor.__get__"))) &&
  (decide (PySem.W.takesIn K (.builtin "object.__class__") = some true) && decide (PySem.W.mroIn K C (.type "object") = some true)))))))
theorem exdB_ok {K : PySem.W.Frag} {C : Addr} (h : exdB K C = true) : ExD K C := by
  obtain ⟨h1, h⟩ := Bool.and_eq_true_iff.mp h
  obtain ⟨h2, h⟩ := Bool.and_eq_true_iff.mp h
  obtain ⟨h3, h⟩ := Bool.and_eq_true_iff.mp h
  obtain ⟨h4, h⟩ := Bool.and_eq_true_iff.mp h
  obtain ⟨h5, h⟩ := Bool.and_eq_true_iff.mp h
  obtain ⟨h6, h⟩ := Bool.and_eq_true_iff.mp h
  obtain ⟨h7, h8⟩ := Bool.and_eq_true_iff.mp h
  exact ⟨h1, of_decide_eq_true h2, of_decide_eq_true h3, of_decide_eq_true h4, of_decide_eq_true h5, of_decide_eq_true h6, of_decide_eq_true h7, of_decide_eq_true h8⟩
end My

namespace My
open PySem PySem.Spec PyProof.Rows L2
section
variable {X : Cx} {CX : CXT} {k : Nat} {f C : Addr} {fd : FuncData} {ps ks : List Str} {sp : Sp} {E : L2.St → XK} {x : Str} {p pos : Pos} {kws : List Keyword} {tk : TA} {g : List Value → List Value → List Value} {gV : List V → List V → List V} {bmB : List Value} {B newId initId : String}
/-- X(), X an own exception class without __init__ -/
theorem pmk_own0 (F : ExcBaseFacts B newId initId bmB) (q : PySem.W.excIn X.K C bmB newId = true) (gC : X.mg x = some (.ref C)) (kC : PySem.W.keepIn X.K (.ref C) = true) (r : Raises X (.ref C)) (hg : Gl X x) (hdb : (x == ("__debug__" : Str)) = false := by decide) :
    PMk X (.Call (.Name x p) [] [] pos) (fun _ H Q => Q (.ref C) none H) := by
  intro pins s z H Q I h
  refine wpAny_Call_Name_kw (ld_glob I hg gC ?_ hdb)
  refine PySem.W.callWith_K0 (first := []) I.kIn kC ?_
  show wpAny _ _ (call (.ref C) []) _ _ _
  obtain ⟨bm, N, nm, qn, bs, hdct, sn, sub, ab, col, dd, k0, k1, k2, k3, k5, mN, hC, hN, hni, T⟩ := exc_obj I.kIn q
  exact wpAny_call_exc_subT F T hC hN hni (fun h' e hm => mk_of I hm r h (I.hok.gone hm.new)) (by show 0 ≤ sizeLine; omega)
/-- f(k = v, ..), f may raise -/
def tCallK0 (m : Nat) (sp : Sp) (gV : List V → List V → List V) (E : L2.St → XK) (tk : TA) : TE := fun z H Q => tk z H fun zs H2 => zs.length = m ∧ sp (gV [] zs) H2 Q (E z)
theorem pe_callK0 (F : FnOk X.prog X.w X.K X.mg X.base CX k f fd ps sp) (hr : Room k X.A) (hg : Gl X x) (hm : X.mg x = some (.ref f)) (hk : PySem.W.keepIn X.K (.ref f) = true) (hb : KBn X.K fd ps 0 ks g gV) (hx : ∀ z, PassesAt CX X z (E z)) (hkw : PK X kws tk)
    (hall : (backToKw pos (keywordEach kws X.env)).all (·.1.isSome) = true := by rfl) (hks : (backToKw pos (keywordEach kws X.env)).filterMap (·.1) = ks := by rfl) (hdb : (x == ("__debug__" : Str)) = false := by decide)
    (hpl : ((backTo pos (starEach [] X.env)).any (·.1) || (backToKw pos (keywordEach kws X.env)).any (·.1.isNone)) = false := by rfl) : PE X (.Call (.Name x p) [] kws pos) (tCallK0 ks.length sp gV E tk) := by
  refine ⟨fun pins s z H Q I h => wpAny_Call_Name_kw (ld_glob I hg hm (PySem.W.callWith_KW0 (h₀ := X.base) I.ok.mod.kin hk hall (thn (hkw.run pos pins s z H _ I h) fun ws s1 hh => ?_) hpl) hdb)⟩
  obtain ⟨zs, H1, J, r, l2, q⟩ := hh
  refine ⟨J.kIn, ?_⟩
  rw [hks]
  have r2 := hb.rel (.nil : Vals [] []) r
  refine wpAny_call (codeAny_mono (F.run X.A X.stack s1 H1 ⟨[], ks.zip ws⟩ (g [] ws) (gV [] zs) Q (E z) hr J.env0 (hb.to s1 [] ws J.kIn rfl (r.length.symm.trans l2)) r2 q) fun o s' hq => ?_)
  cases o with
  | error e => exact hx z pins H1 s1 e s' J hq
  | ok fl =>
    cases fl with
    | ret u => exact J.after hq
    | next => exact False.elim hq
    | brk => exact False.elim hq
    | cont => exact False.elim hq
end
end My

namespace My
open PySem PySem.Spec PyProof.Rows L2
/-! defs that are handed the caught error while it is handled: they raise nothing -/
/-- isinstance(e, c) and e.f where e's object is pinned -/
theorem call_isP {X : Cx} {a : Addr} {cls : Value} {d : Option Addr} {oe : Obj} (hp : (a, oe) ∈ X.pn) (hz : Zc cls d oe) (hf : ∃ vs, oe.data = .fields vs) : CallR X (.builtin "isinstance") (rIsD X.K a cls d) := by
  intro pins s z H xs us Q I r h
  obtain ⟨D, c, cv, b, rfl, C, rfl, hcv, e, hd, q⟩ := h
  cases r with
  | cons rx rr =>
  cases rr with
  | cons rt rr =>
  cases rr
  cases rx
  have ec := hcv _ rt
  subst ec
  obtain ⟨hget, _⟩ := I.pin (a, oe) (List.mem_append.mpr (.inl hp))
  obtain ⟨vs, hv⟩ := hf
  have J : ∃ od, PySem.W.InstAt s.heap a oe D od := by
    obtain ⟨oc, od, oda, osl⟩ := oe
    obtain ⟨h1, h2⟩ := hz
    dsimp only at h1 h2 hv
    subst h1 h2 hv
    rcases hd with y | ⟨dd, fs, y, hx⟩
    · cases y
      exact ⟨none, hget, rfl, rfl, trivial⟩
    · cases y
      have hx2 : ObjOk X.prog X.w H s.heap dd (.xd fs) := I.hok dd _ hx
      obtain ⟨mA, hns, _⟩ := hx2
      obtain ⟨o, ho, _⟩ := lookIn_ns hns
      exact ⟨some o, hget, rfl, rfl, ho⟩
  obtain ⟨od, J⟩ := J
  exact PySem.W.kia_one (PySem.W.kitx_exc C.c C.g C.a C.s C.k C.n C.t C.m) I.kIn J e (fun y => nomatch y) fun tk => ⟨.bl b, H, I.kept (t' := tk) fun _ _ y => y, rfl, q⟩
def tXfP (K : PySem.W.Frag) (a : Addr) (cls : Value) (d : Option Addr) (n : Str) (te : TE) : TE := fun z H Q => te z H fun x H1 => x = .ref a ∧ ∃ (C dd : Addr) (fs : List (Str × V)) (v : V), cls = .ref C ∧ XfC K C ∧ PySem.W.findIn K (.ref C) n = some none ∧ d = some dd ∧ H1 dd = some (.xd fs) ∧ fs.lookup n = some v ∧ Q v H1
theorem pe_xfP {X : Cx} {a : Addr} {oe : Obj} {cls : Value} {d : Option Addr} {e : Expr} {te : TE} {pos : Pos} {n : Str} (hp : (a, oe) ∈ X.pn) (hz : Zc cls d oe) (hf : ∃ vs, oe.data = .fields vs) (he : PE X e te) (hb : attributeBase e n X.env (eval e X.env) = eval e X.env := by rfl) :
    PE X (.Attribute e n pos) (tXfP X.K a cls d n te) := by
  refine ⟨fun pins s z H Q I h => attr_of hb (thn (he.run pins s z H _ I h) fun u s1 hh => ?_)⟩
  obtain ⟨x, H1, I1, rx, ex, C, dd, fs, v, ec, T, hno, ed, ea, l, q⟩ := hh
  subst ex
  obtain rfl : u = Value.ref a := rx
  subst ec
  subst ed
  obtain ⟨ha, _⟩ := I1.pin (a, oe) (List.mem_append_left _ hp)
  obtain ⟨vs, hd⟩ := hf
  have hx : ObjOk X.prog X.w H1 s1.heap dd (.xd fs) := I1.hok dd _ ea
  obtain ⟨mA, hns, hr⟩ := hx
  obtain ⟨od, ho, hl⟩ := lookIn_ns hns
  obtain ⟨u, hu, ru⟩ := RelO.some_of (v := v) (o := mA n) (by rw [← l]; exact hr n)
  have J : PySem.W.InstAt s1.heap a oe C (some od) := ⟨ha, hz.1, by unfold PySem.W.notCls; rw [hd] <;> rfl, by rw [hz.2]; exact ho⟩
  exact HandSPX.exc_get I1.kIn J T.ga T.gg T.exC (PySem.W.findObj_own T.hdC hno rfl (by rw [hl, hu])) (handed_of ru) ⟨v, H1, I1.tok _, ru, q⟩
/-- what such a def promises of the error at a: its class, its dict -/
abbrev SpE : Type := Addr → Value → Option Addr → Sp
structure FnE (P : Program) (w : World) (K : PySem.W.Frag) (mg : Str → Option Value) (base : Heap) (CX : CXT) (k : Nat) (f : Addr) (fd : FuncData) (ps : List Str) (sp : SpE) : Prop where
  len : ∀ a cls d vs H Q E, sp a cls d vs H Q E → vs.length = ps.length
  run : ∀ (A : Around) (outer : List Env) (s : Shared) (H : Hp) (args : Args) (us : List Value) (vs : List V) (Q : VK) (E : XK) (p : Addr × Obj) (cls : Value) (d : Option Addr), L2H.RoomH k A → Zc cls d p.2 → (∃ vs, p.2.data = .fields vs) → L2H.PinOk outer H s p →
    Env0 P w K mg base A outer s H → BindsTo s fd args (ps.zip us) → Vals vs us → sp p.1 cls d vs H Q E → codeAny (model P w) A (.call (.ref f) args) (CR CX outer P w H s Q E) s
theorem Fun.okE {CX : CXT} {P : Program} {w : World} {K : PySem.W.Frag} {mg : Str → Option Value} {base : Heap} {x qual : Str} {st : Stmt} {f : Addr} {fd : FuncData} {N ps : List Str} {k : Nat} {sp : SpE} (F : Fun K x qual st f fd) (S : FnScope N ps (defScope st))
    (len : ∀ a cls d vs H Q E, sp a cls d vs H Q E → vs.length = ps.length)
    (hbody : ∀ (cdv : Value) (A : Around) (outer : List Env) (s : Shared) (H : Hp) (vs : List V) (Q : VK) (E : XK) (p : Addr × Obj) (cls : Value) (d : Option Addr), L2H.RoomH k (A.deeper (envOfC qual (defScope st) s.heap.objs.size f cdv)) → Zc cls d p.2 → (∃ vs, p.2.data = .fields vs) → sp p.1 cls d vs H Q E →
      ∃ t, PSs (L2H.cxH CX P w K mg base N qual (defScope st) f cdv A outer s H E p) (defBody st) t ∧ t { nx := fun _ H' => Q .non H', rt := Q } (L2.start N vs) H) :
    FnE P w K mg base CX (k + 1) f fd ps sp := by
  obtain ⟨oc, od, kV, doc, pm, an, cdv, ct, osl, rfl, lk, hcd⟩ := F.ex
  refine ⟨len, fun A outer s H args us vs Q E p cls d hr hz hf hpin e0 hb r hsp => ?_⟩
  have hl := len _ _ _ _ _ _ _ hsp
  have KX : K.In s.heap := e0.mod.kin.keeps fun b o e => (e0.bs b o e).1
  have lim : s.heap.NoLimit := e0.mod.nolimit.keeps fun b o e => (e0.bs b o e).1
  refine codeAny_call_function hr.depth (KX _ _ lk) rfl S.co S.gen rfl (PySem.W.codeRec_of KX hcd) (hb _ _ _ _ (wpAny_newFunctionEnv_cells S.kind (fun ⟨n, v⟩ hy => ?_) fun env he s1 x => ?_))
  · rcases S.par n (List.of_mem_zip hy).1 with q | q
    · exact .inl q
    · exact .inr ⟨q, PySem.W.cellsFrom_some _ _ _ (.inl q)⟩
  subst he
  refine ⟨lim.keeps x.toInCall.keep, codeAny_func ?_⟩
  obtain ⟨t, ht, hq⟩ := hbody cdv A outer s H vs Q E p cls d (hr.deeper _) hz hf hsp
  have I := L2H.inv_startH (CX := CX) (E := E) S hpin e0 hl r x
  refine wpAny_mono (ht.run [] s1 (L2.start N vs) H _ I hq) (fun fl s' hs => ?_) fun e s' hs => hs
  cases fl with
  | ret u => obtain ⟨v, z, H', J, rv, q⟩ := hs; exact ⟨v, H', J.os, J.bare, J.base, J.hok, rv, q⟩
  | next => obtain ⟨z, H', J, q⟩ := hs; exact ⟨V.non, H', J.os, J.bare, J.base, J.hok, rfl, q⟩
  | brk => obtain ⟨_, _, _, q⟩ := hs; exact False.elim q
  | cont => obtain ⟨_, _, _, q⟩ := hs; exact False.elim q
/-- f(e, ..) in the suite -/
theorem pe_callE {X : Cx} {CX : CXT} {k : Nat} {f : Addr} {fd : FuncData} {ps : List Str} {sp : SpE} {E : L2.St → XK} {x : Str} {q pos : Pos} {e : Expr} {es : List Expr} {t : TA} {a : Addr} {oe : Obj} {cls : Value} {d : Option Addr}
    (F : FnE X.prog X.w X.K X.mg X.base CX k f fd ps sp) (hr : L2H.RoomH k X.A) (hp : (a, oe) ∈ X.pn) (hz : Zc cls d oe) (hf : ∃ vs, oe.data = .fields vs) (hg : Gl X x) (hm : X.mg x = some (.ref f)) (hk : PySem.W.keepIn X.K (.ref f) = true) (hb : L2.Binds X.K fd ps []) (hx : ∀ z, PassesAt CX X z (E z))
    (ha : PA X (e :: es) t) (hdb : (x == ("__debug__" : Str)) = false := by decide) (he : starEach (e :: es) X.env = (false, eval e X.env) :: starEach es X.env := by rfl) (hpl : (backTo pos (starEach es X.env)).any (·.1) = false := by rfl) :
    PE X (.Call (.Name x q) (e :: es) [] pos) (fun z H Q => t z H fun vs H1 => sp a cls d vs H1 Q (E z)) := by
  refine ⟨fun pins s z H Q I h => wpAny_Call_Name_kw (ld_glob I hg hm (PySem.W.callWith_K (h₀ := X.base) I.ok.mod.kin hk (thn (ha.run pos pins s z H _ I h) fun us s1 ⟨vs, H1, I1, r, q⟩ => ⟨I1.kIn, ?_⟩) he hpl) hdb)⟩
  have hl : us.length = ps.length := by rw [← r.length]; exact F.len _ _ _ _ _ _ _ q
  have b := hb s1 us I1.kIn (by rw [List.append_nil]; exact hl)
  rw [List.append_nil] at b
  have P1 := I1.pin (a, oe) (List.mem_append_left _ hp)
  have hpin : L2H.PinOk X.stack H1 s1 (a, oe) := ⟨P1.1, P1.2.1, fun m => (List.mem_cons.mp (I1.stkSub a m)).elim P1.2.2.1 P1.2.2.2.1, P1.2.2.2.2⟩
  refine wpAny_call (codeAny_mono (F.run X.A X.stack s1 H1 ⟨us, []⟩ us vs Q (E z) (a, oe) cls d hr hz hf hpin I1.env0 b r q) fun r s' hq => ?_)
  cases r with
  | error e => exact hx z pins H1 s1 e s' I1 hq
  | ok fl =>
    cases fl with
    | ret u => exact I1.after hq
    | next => exact False.elim hq
    | brk => exact False.elim hq
    | cont => exact False.elim hq
end My

namespace My
open PySem PySem.Spec PyProof.Rows L2
/-! the head's facts, over all objects that the top has made -/
def keepO (o : Obj) : Bool := match o.data with
  | .func _ => true
  | .cls _ => true
  | .dict _ _ => true
  | .cell _ => true
  | .fields vs => Nat.beq vs.size 19
  | .seq vs _ => match vs.size with
    | 0 => false
    | _ + 1 => true
  | _ => false
def pickO (g : Addr → Option Obj) (a : Addr) : Option (Addr × Obj) := match g a with
  | some o => match keepO o with
    | true => some (a, o)
    | false => none
  | none => none
def frA (g : Addr → Option Obj) (as : List Addr) : PySem.W.Frag := as.filterMap (pickO g)
theorem pickO_of {g : Addr → Option Obj} {a b : Addr} {o : Obj} (h : pickO g b = some (a, o)) : g a = some o ∧ keepO o = true := by
  unfold pickO at h
  cases e : g b with
  | none => rw [e] at h; cases h
  | some u =>
    rw [e] at h
    cases k : keepO u with
    | false => simp only [k] at h; cases h
    | true =>
      simp only [k] at h
      have z := Option.some.inj h
      injection z with z1 z2
      subst z1
      subst z2
      exact ⟨e, k⟩
theorem frA_at {g : Addr → Option Obj} {as : List Addr} {a : Addr} {o : Obj} (h : (frA g as).lookup a = some o) : g a = some o ∧ keepO o = true := by
  obtain ⟨b, _, e⟩ := List.mem_filterMap.mp (He.lookup_mem h)
  exact pickO_of e
theorem frA_in {as : List Addr} {h : Heap} : (frA h.get? as).In h := fun _ _ e => (frA_at e).1
theorem frA_out {g : Addr → Option Obj} {as : List Addr} {a : Addr} {o : Obj} (h : g a = some o) (ht : He.emptyTab o = true) : (frA g as).lookup a = none := by
  cases e : (frA g as).lookup a with
  | none => rfl
  | some u =>
    obtain ⟨h1, h2⟩ := frA_at e
    rw [h] at h1
    rw [← Option.some.inj h1, He.emptyTab_eq ht] at h2
    cases h2
structure SaysA (fa : List He.Fa) (fn : List He.DefD) (tf : List He.Defn) (fx : List (PySem.W.Frag → Bool)) (h : Heap) (K : PySem.W.Frag) : Prop where
  d : He.SaysD fa fn K
  x : fx.all (fun f => f K) = true
  hd : ∀ p ∈ tf, PySem.W.codeHdIn K (He.cT K p).1 (He.cT K p).2 = true
  out : ∀ p ∈ tf, K.lookup (He.cT K p).2 = none
  empty : ∀ p ∈ tf, h.get? (He.cT K p).2 = some { cls := .none, data := .fields #[] }
theorem SaysA.at {fa : List He.Fa} {fn : List He.DefD} {tf : List He.Defn} {fx : List (PySem.W.Frag → Bool)} {h : Heap} {K : PySem.W.Frag} (c : SaysA fa fn tf fx h K) (i : Nat) {f : PySem.W.Frag → Bool} (e : fx[i]? = some f := by rfl) : f K = true :=
  List.all_eq_true.mp c.x f (List.mem_of_getElem? e)
def obsA (as : List Addr) (fa : List He.Fa) (fn : List He.DefD) (tf : List He.Defn) (fx : List (PySem.W.Frag → Bool)) (g : Addr → Option Obj) : He.AlD × Bool := (He.obsD fa fn (frA g as), (fx.all fun f => f (frA g as)) && He.tabsB g tf (frA g as))
theorem saysA_of {as : List Addr} {fa : List He.Fa} {fn : List He.DefD} {tf : List He.Defn} {fx : List (PySem.W.Frag → Bool)} {h : Heap} (e : obsA as fa fn tf fx h.get? = (He.valD fn, true)) : SaysA fa fn tf fx h (frA h.get? as) := by
  have e1 : He.obsD fa fn (frA h.get? as) = He.valD fn := congrArg Prod.fst e
  obtain ⟨h1, h2⟩ := Bool.and_eq_true_iff.mp (show ((fx.all fun f => f (frA h.get? as)) && He.tabsB h.get? tf (frA h.get? as)) = true from congrArg Prod.snd e)
  have key : ∀ p ∈ tf, PySem.W.codeHdIn (frA h.get? as) (He.cT (frA h.get? as) p).1 (He.cT (frA h.get? as) p).2 = true ∧ ∃ o, h.get? (He.cT (frA h.get? as) p).2 = some o ∧ He.emptyTab o = true := fun p hp => by
    obtain ⟨h3, h4⟩ := Bool.and_eq_true_iff.mp (List.all_eq_true.mp h2 p hp)
    refine ⟨h3, ?_⟩
    cases q : h.get? (He.cT (frA h.get? as) p).2 with
    | none => rw [q] at h4; cases h4
    | some o => rw [q] at h4; exact ⟨o, rfl, h4⟩
  refine ⟨e1, h1, fun p hp => (key p hp).1, fun p hp => ?_, fun p hp => ?_⟩
  · obtain ⟨_, o, q, z⟩ := key p hp
    exact frA_out q z
  · obtain ⟨_, o, q, z⟩ := key p hp
    rw [q, He.emptyTab_eq z]
def hookA (as : List Addr) (fa : List He.Fa) (fn : List He.DefD) (tf : List He.Defn) (fx : List (PySem.W.Frag → Bool)) : PySem.W.Hook where
  α := He.AlD × Bool
  obs := fun s => obsA as fa fn tf fx s.heap.get?
  val := fun _ => (He.valD fn, true)
  says := fun _ h => ∃ K : PySem.W.Frag, K.In h ∧ SaysA fa fn tf fx h K
  of := fun _ _ e => ⟨_, frA_in, saysA_of e⟩
  keeps := fun _ _ _ ⟨K, hK, c⟩ k => ⟨K, PySem.W.Frag.In.keeps hK k, ⟨c.d, c.x, c.hd, c.out, fun p hp => k _ _ (c.empty p hp)⟩⟩
theorem obsA_eq {as : List Addr} {fa : List He.Fa} {fn : List He.DefD} {tf : List He.Defn} {fx : List (PySem.W.Frag → Bool)} {g : Addr → Option Obj} {s : Shared} (h : ∀ a, g a = s.heap.get? a) : obsA as fa fn tf fx g = (hookA as fa fn tf fx).obs s := by
  have e : g = s.heap.get? := funext h
  rw [e] <;> rfl
/-! own classes by Bools -/
def slB (sl : Array (Option Value)) (n : String) : Bool := match sl.toList with
  | [_, _, _, _, some (.builtin m), _] => decide (m = n)
  | _ => false
theorem slB_ok {sl : Array (Option Value)} {n : String} (h : slB sl n = true) : ∃ k0 k1 k2 k3 k5, sl = #[k0, k1, k2, k3, some (.builtin n), k5] := by
  unfold slB at h
  split at h
  · rename_i k0 k1 k2 k3 m k5 e
    have z := of_decide_eq_true h
    subst z
    refine ⟨k0, k1, k2, k3, k5, ?_⟩
    obtain ⟨l⟩ := sl
    simp only at e
    rw [e]
  · cases h
/-- the class object at C: its line of classes, its maker -/
def objB (K : PySem.W.Frag) (C : Addr) (tail : List Value) (n : String) (p : ClassData → Bool) : Bool := match K.lookup C with
  | some ⟨.type t, _, .cls cd, sl⟩ => decide (t = "type") && (slB sl n && (decide (cd.mro = .ref C :: tail) && (!cd.hasDel && p cd)))
  | _ => false
theorem objB_ok {K : PySem.W.Frag} {C : Addr} {tail : List Value} {n : String} {p : ClassData → Bool} (h : objB K C tail n p = true) :
    ∃ nm q N bs hd sn sub ab col dd k0 k1 k2 k3 k5, K.lookup C = some (excClassObj nm q C N bs tail hd sn sub ab col dd k0 k1 k2 k3 k5 n) ∧ p { name := nm, bases := bs, mro := .ref C :: tail, ns := N, qualname := q, hasDict := hd, slotNames := sn, subclasses := sub, abstract := ab, collection := col, hasDel := false } = true := by
  unfold objB at h
  split at h
  · rename_i t dd cd sl ho
    obtain ⟨h1, h⟩ := Bool.and_eq_true_iff.mp h
    obtain ⟨h2, h⟩ := Bool.and_eq_true_iff.mp h
    obtain ⟨h3, h⟩ := Bool.and_eq_true_iff.mp h
    obtain ⟨h4, h5⟩ := Bool.and_eq_true_iff.mp h
    have e1 := of_decide_eq_true h1
    subst e1
    obtain ⟨k0, k1, k2, k3, k5, rfl⟩ := slB_ok h2
    obtain ⟨nm, bs, mro, ns, qn, hd, sn, sub, ab, col, del⟩ := cd
    have e3 : mro = .ref C :: tail := of_decide_eq_true h3
    have e4 : del = false := by cases del <;> first | rfl | cases h4
    subst e3
    subst e4
    exact ⟨nm, qn, ns, bs, hd, sn, sub, ab, col, dd, k0, k1, k2, k3, k5, ho, h5⟩
  · cases h
def clsB (K : PySem.W.Frag) (C : Addr) (nm : Str) : Bool := objB K C [.type "object"] "object.__new__" fun cd => decide (cd.name = nm)
theorem clsB_ok {K : PySem.W.Frag} {C : Addr} {nm : Str} (h : clsB K C nm = true) : ClsO K C nm := by
  obtain ⟨nm', q, N, bs, hd, sn, sub, ab, col, dd, k0, k1, k2, k3, k5, e, h2⟩ := objB_ok h
  have z : nm' = nm := of_decide_eq_true h2
  subst z
  exact ⟨q, N, bs, hd, sn, sub, ab, col, dd, k0, k1, k2, k3, k5, _, e⟩
def eqB (K : PySem.W.Frag) (C f : Addr) : Bool := He.eqO (PySem.W.findIn K (.ref C) "__eq__") (some (some (.ref f))) && (PySem.W.isFn K (.ref f) &&
  objB K C [.type "object"] "object.__new__" fun cd => PySem.W.nsOkIn K cd.ns && (He.eqO (PySem.W.nsIn K cd.ns "__eq__") (some (some (.ref f))) && He.eqO (PySem.W.nsIn K cd.ns "__ne__") (some none)))
theorem eqB_ok {K : PySem.W.Frag} {C f : Addr} (h : eqB K C f = true) : EqC K C f := by
  obtain ⟨h1, h⟩ := Bool.and_eq_true_iff.mp h
  obtain ⟨h2, h⟩ := Bool.and_eq_true_iff.mp h
  obtain ⟨nm', q, N, bs, hd, sn, sub, ab, col, dd, k0, k1, k2, k3, k5, e, h3⟩ := objB_ok h
  obtain ⟨h3, h⟩ := Bool.and_eq_true_iff.mp h3
  obtain ⟨h4, h5⟩ := Bool.and_eq_true_iff.mp h
  exact ⟨He.eqO_ok h1, h2, nm', q, N, bs, hd, sn, sub, ab, col, dd, k0, k1, k2, k3, k5, _, e, h3, He.eqO_ok h4, He.eqO_ok h5⟩
def iscB (K : PySem.W.Frag) (C : Addr) : Bool := He.eqO (PySem.W.findIn K (.ref C) "__class__") (some (some (.builtin "object.__class__"))) && decide (PySem.W.mroIn K C (.type "object") = some true)
def gnB (K : PySem.W.Frag) : Bool := He.eqO (PySem.W.specialIn K (.builtin "object.__class__") "__get__") (some (some (.builtin "getset_descriptor.__get__"))) && decide (PySem.W.takesIn K (.builtin "object.__class__") = some true)
theorem iscB_ok {K : PySem.W.Frag} {C : Addr} (h : iscB K C = true) (c : Cls K C) (g : gnB K = true) : C8.InsC K C := by
  obtain ⟨h1, h2⟩ := Bool.and_eq_true_iff.mp h
  obtain ⟨g1, g2⟩ := Bool.and_eq_true_iff.mp g
  exact ⟨c, He.eqO_ok h1, He.eqO_ok g1, of_decide_eq_true g2, of_decide_eq_true h2, kit_self⟩
def veL (up : List Addr) : List Value := up.map Value.ref ++ [.type "ValueError", .type "Exception", .type "BaseException", .type "object"]
theorem veL_ok (up : List Addr) : PySem.HandSPX.refsVE (veL up) = true := by
  unfold veL
  induction up with
  | nil => rfl
  | cons a r ih => exact ih
def oexB (K : PySem.W.Frag) (C : Addr) (up : List Addr) : Bool := objB K C (veL up) "ValueError.__new__" (fun cd => cd.hasDict) && (He.eqO (PySem.W.findIn K (.ref C) "__setattr__") (some (some (.builtin "object.__setattr__"))) &&
  (decide (PySem.W.subIn K (.ref C) (.type "BaseException") = some true) && (decide (PySem.W.typeIn K (.ref C) = some (.type "type")) && PySem.W.keepIn K (.ref C))))
theorem oexB_ok {K : PySem.W.Frag} {C : Addr} {up : List Addr} (h : oexB K C up = true) : OexC K C := by
  obtain ⟨h1, h⟩ := Bool.and_eq_true_iff.mp h
  obtain ⟨h2, h⟩ := Bool.and_eq_true_iff.mp h
  obtain ⟨h3, h⟩ := Bool.and_eq_true_iff.mp h
  obtain ⟨h4, h5⟩ := Bool.and_eq_true_iff.mp h
  obtain ⟨nm', q, N, bs, hd, sn, sub, ab, col, dd, k0, k1, k2, k3, k5, e, h6⟩ := objB_ok h1
  have z : hd = true := h6
  subst z
  exact ⟨⟨nm', q, N, bs, _, sn, sub, ab, col, dd, k0, k1, k2, k3, k5, e, veL_ok up⟩, He.eqO_ok h2, of_decide_eq_true h3, of_decide_eq_true h4, h5⟩
end My
namespace My
open PySem L2

def top (i : Nat) : Stmt := PySem.Challenge.pw_roomleft_k01_errors_and_their_fields.main.body.getD i (.Pass ⟨0, 0, 0, 0⟩)
abbrev s_BadKind___init__ : Stmt := inClass (top 2) 0
abbrev s_BadEdition___init__ : Stmt := inClass (top 3) 0
abbrev s_MissingKind___init__ : Stmt := inClass (top 4) 0
abbrev s_RingOfCalls___init__ : Stmt := inClass (top 5) 0
abbrev s_LongBody___init__ : Stmt := inClass (top 6) 0
abbrev s_RoomTaken___init__ : Stmt := inClass (top 7) 0
abbrev s_BadValue___init__ : Stmt := inClass (top 10) 0
abbrev s_BadBits___init__ : Stmt := inClass (top 11) 0
abbrev s_TooFew___init__ : Stmt := inClass (top 12) 0
abbrev s_Left___init__ : Stmt := inClass (top 13) 0
abbrev s_BadNumber___init__ : Stmt := inClass (top 15) 0
abbrev s_TooMany___init__ : Stmt := inClass (top 16) 0
abbrev s_NoStep___init__ : Stmt := inClass (top 18) 0
abbrev s_NoRoom___init__ : Stmt := inClass (top 21) 0
abbrev s_Broken___init__ : Stmt := inClass (top 22) 0
abbrev s_BadText___init__ : Stmt := inClass (top 23) 0
abbrev s_NoName___init__ : Stmt := inClass (top 25) 0
abbrev s__law_is_int : Stmt := top 27
abbrev s__law_same_dict : Stmt := top 28
abbrev s__law_same : Stmt := top 29
abbrev s__law_start : Stmt := top 30
abbrev s__law_pull : Stmt := top 31
abbrev s__law_big : Stmt := top 32
abbrev s__law_field : Stmt := top 33
abbrev s__law_raise_first : Stmt := top 34
abbrev s__law_raise : Stmt := top 35
abbrev s__law_classes : Stmt := top 36
abbrev s__law_fields : Stmt := top 37
abbrev s__law_caught : Stmt := top 38
abbrev s_law : Stmt := top 39
structure Ad where
  f_BadKind___init__ : Addr
  d_BadKind___init__ : FuncData
  f_BadEdition___init__ : Addr
  d_BadEdition___init__ : FuncData
  f_MissingKind___init__ : Addr
  d_MissingKind___init__ : FuncData
  f_RingOfCalls___init__ : Addr
  d_RingOfCalls___init__ : FuncData
  f_LongBody___init__ : Addr
  d_LongBody___init__ : FuncData
  f_RoomTaken___init__ : Addr
  d_RoomTaken___init__ : FuncData
  f_BadValue___init__ : Addr
  d_BadValue___init__ : FuncData
  f_BadBits___init__ : Addr
  d_BadBits___init__ : FuncData
  f_TooFew___init__ : Addr
  d_TooFew___init__ : FuncData
  f_Left___init__ : Addr
  d_Left___init__ : FuncData
  f_BadNumber___init__ : Addr
  d_BadNumber___init__ : FuncData
  f_TooMany___init__ : Addr
  d_TooMany___init__ : FuncData
  f_NoStep___init__ : Addr
  d_NoStep___init__ : FuncData
  f_NoRoom___init__ : Addr
  d_NoRoom___init__ : FuncData
  f_Broken___init__ : Addr
  d_Broken___init__ : FuncData
  f_BadText___init__ : Addr
  d_BadText___init__ : FuncData
  f_NoName___init__ : Addr
  d_NoName___init__ : FuncData
  f__law_is_int : Addr
  d__law_is_int : FuncData
  f__law_same_dict : Addr
  d__law_same_dict : FuncData
  f__law_same : Addr
  d__law_same : FuncData
  f__law_start : Addr
  d__law_start : FuncData
  f__law_pull : Addr
  d__law_pull : FuncData
  f__law_big : Addr
  d__law_big : FuncData
  f__law_field : Addr
  d__law_field : FuncData
  f__law_raise_first : Addr
  d__law_raise_first : FuncData
  f__law_raise : Addr
  d__law_raise : FuncData
  f__law_classes : Addr
  d__law_classes : FuncData
  f__law_fields : Addr
  d__law_fields : FuncData
  f__law_caught : Addr
  d__law_caught : FuncData
  f_law : Addr
  d_law : FuncData
  c_RoomError : Addr
  c_BadKind : Addr
  c_BadEdition : Addr
  c_MissingKind : Addr
  c_RingOfCalls : Addr
  c_LongBody : Addr
  c_RoomTaken : Addr
  c_NoKind : Addr
  c_NoBits : Addr
  c_BadValue : Addr
  c_BadBits : Addr
  c_TooFew : Addr
  c_Left : Addr
  c_NoOwn : Addr
  c_BadNumber : Addr
  c_TooMany : Addr
  c_NoUndo : Addr
  c_NoStep : Addr
  c_BadWeights : Addr
  c_NoPlace : Addr
  c_NoRoom : Addr
  c_Broken : Addr
  c_BadText : Addr
  c_NoLine : Addr
  c_NoName : Addr
  rz : Nat → Addr
def rnl : List Str := ["BadKind", "BadEdition", "MissingKind", "RingOfCalls", "LongBody", "RoomTaken", "NoKind", "NoBits", "BadValue", "BadBits", "TooFew", "Left", "NoOwn", "BadNumber", "TooMany", "NoUndo", "NoStep", "BadWeights", "NoPlace", "NoRoom", "Broken", "BadText", "NoLine", "NoName"]
def rnm (n : Nat) : Str := rnl.getD n "BadKind"

structure Txt (K : PySem.W.Frag) (mg : Str → Option Value) (A : Ad) : Prop where
  F_BadKind___init__ : Fun K "__init__" "BadKind.__init__" s_BadKind___init__ A.f_BadKind___init__ A.d_BadKind___init__
  k_BadKind___init__ : PySem.W.keepIn K (.ref A.f_BadKind___init__) = true
  b_BadKind___init__ : Binds K A.d_BadKind___init__ ["self", "part"] []
  F_BadEdition___init__ : Fun K "__init__" "BadEdition.__init__" s_BadEdition___init__ A.f_BadEdition___init__ A.d_BadEdition___init__
  k_BadEdition___init__ : PySem.W.keepIn K (.ref A.f_BadEdition___init__) = true
  b_BadEdition___init__ : Binds K A.d_BadEdition___init__ ["self", "part"] []
  F_MissingKind___init__ : Fun K "__init__" "MissingKind.__init__" s_MissingKind___init__ A.f_MissingKind___init__ A.d_MissingKind___init__
  k_MissingKind___init__ : PySem.W.keepIn K (.ref A.f_MissingKind___init__) = true
  b_MissingKind___init__ : Binds K A.d_MissingKind___init__ ["self", "name"] []
  F_RingOfCalls___init__ : Fun K "__init__" "RingOfCalls.__init__" s_RingOfCalls___init__ A.f_RingOfCalls___init__ A.d_RingOfCalls___init__
  k_RingOfCalls___init__ : PySem.W.keepIn K (.ref A.f_RingOfCalls___init__) = true
  b_RingOfCalls___init__ : Binds K A.d_RingOfCalls___init__ ["self", "name"] []
  F_LongBody___init__ : Fun K "__init__" "LongBody.__init__" s_LongBody___init__ A.f_LongBody___init__ A.d_LongBody___init__
  k_LongBody___init__ : PySem.W.keepIn K (.ref A.f_LongBody___init__) = true
  b_LongBody___init__ : Binds K A.d_LongBody___init__ ["self", "name", "inner"] []
  F_RoomTaken___init__ : Fun K "__init__" "RoomTaken.__init__" s_RoomTaken___init__ A.f_RoomTaken___init__ A.d_RoomTaken___init__
  k_RoomTaken___init__ : PySem.W.keepIn K (.ref A.f_RoomTaken___init__) = true
  b_RoomTaken___init__ : Binds K A.d_RoomTaken___init__ ["self", "name", "inner"] []
  F_BadValue___init__ : Fun K "__init__" "BadValue.__init__" s_BadValue___init__ A.f_BadValue___init__ A.d_BadValue___init__
  k_BadValue___init__ : PySem.W.keepIn K (.ref A.f_BadValue___init__) = true
  b_BadValue___init__ : Binds K A.d_BadValue___init__ ["self", "path"] []
  F_BadBits___init__ : Fun K "__init__" "BadBits.__init__" s_BadBits___init__ A.f_BadBits___init__ A.d_BadBits___init__
  k_BadBits___init__ : PySem.W.keepIn K (.ref A.f_BadBits___init__) = true
  b_BadBits___init__ : Binds K A.d_BadBits___init__ ["self", "at"] []
  F_TooFew___init__ : Fun K "__init__" "TooFew.__init__" s_TooFew___init__ A.f_TooFew___init__ A.d_TooFew___init__
  k_TooFew___init__ : PySem.W.keepIn K (.ref A.f_TooFew___init__) = true
  b_TooFew___init__ : Binds K A.d_TooFew___init__ ["self", "due"] []
  F_Left___init__ : Fun K "__init__" "Left.__init__" s_Left___init__ A.f_Left___init__ A.d_Left___init__
  k_Left___init__ : PySem.W.keepIn K (.ref A.f_Left___init__) = true
  b_Left___init__ : Binds K A.d_Left___init__ ["self", "at"] []
  F_BadNumber___init__ : Fun K "__init__" "BadNumber.__init__" s_BadNumber___init__ A.f_BadNumber___init__ A.d_BadNumber___init__
  k_BadNumber___init__ : PySem.W.keepIn K (.ref A.f_BadNumber___init__) = true
  b_BadNumber___init__ : Binds K A.d_BadNumber___init__ ["self", "part"] []
  F_TooMany___init__ : Fun K "__init__" "TooMany.__init__" s_TooMany___init__ A.f_TooMany___init__ A.d_TooMany___init__
  k_TooMany___init__ : PySem.W.keepIn K (.ref A.f_TooMany___init__) = true
  b_TooMany___init__ : Binds K A.d_TooMany___init__ ["self", "most"] []
  F_NoStep___init__ : Fun K "__init__" "NoStep.__init__" s_NoStep___init__ A.f_NoStep___init__ A.d_NoStep___init__
  k_NoStep___init__ : PySem.W.keepIn K (.ref A.f_NoStep___init__) = true
  b_NoStep___init__ : Binds K A.d_NoStep___init__ ["self", "reason"] []
  F_NoRoom___init__ : Fun K "__init__" "NoRoom.__init__" s_NoRoom___init__ A.f_NoRoom___init__ A.d_NoRoom___init__
  k_NoRoom___init__ : PySem.W.keepIn K (.ref A.f_NoRoom___init__) = true
  b_NoRoom___init__ : Binds K A.d_NoRoom___init__ ["self", "path"] []
  F_Broken___init__ : Fun K "__init__" "Broken.__init__" s_Broken___init__ A.f_Broken___init__ A.d_Broken___init__
  k_Broken___init__ : PySem.W.keepIn K (.ref A.f_Broken___init__) = true
  b_Broken___init__ : Binds K A.d_Broken___init__ ["self", "at", "word"] []
  F_BadText___init__ : Fun K "__init__" "BadText.__init__" s_BadText___init__ A.f_BadText___init__ A.d_BadText___init__
  k_BadText___init__ : PySem.W.keepIn K (.ref A.f_BadText___init__) = true
  b_BadText___init__ : Binds K A.d_BadText___init__ ["self", "line"] []
  F_NoName___init__ : Fun K "__init__" "NoName.__init__" s_NoName___init__ A.f_NoName___init__ A.d_NoName___init__
  k_NoName___init__ : PySem.W.keepIn K (.ref A.f_NoName___init__) = true
  b_NoName___init__ : Binds K A.d_NoName___init__ ["self", "name"] []
  F__law_is_int : Fun K "_law_is_int" "_law_is_int" s__law_is_int A.f__law_is_int A.d__law_is_int
  k__law_is_int : PySem.W.keepIn K (.ref A.f__law_is_int) = true
  b__law_is_int : Binds K A.d__law_is_int ["told"] []
  mg__law_is_int : mg "_law_is_int" = some (.ref A.f__law_is_int)
  F__law_same_dict : Fun K "_law_same_dict" "_law_same_dict" s__law_same_dict A.f__law_same_dict A.d__law_same_dict
  k__law_same_dict : PySem.W.keepIn K (.ref A.f__law_same_dict) = true
  b__law_same_dict : Binds K A.d__law_same_dict ["told", "due"] []
  mg__law_same_dict : mg "_law_same_dict" = some (.ref A.f__law_same_dict)
  F__law_same : Fun K "_law_same" "_law_same" s__law_same A.f__law_same A.d__law_same
  k__law_same : PySem.W.keepIn K (.ref A.f__law_same) = true
  b__law_same : Binds K A.d__law_same ["told", "due"] []
  mg__law_same : mg "_law_same" = some (.ref A.f__law_same)
  F__law_start : Fun K "_law_start" "_law_start" s__law_start A.f__law_start A.d__law_start
  k__law_start : PySem.W.keepIn K (.ref A.f__law_start) = true
  b__law_start : Binds K A.d__law_start ["script"] []
  mg__law_start : mg "_law_start" = some (.ref A.f__law_start)
  F__law_pull : Fun K "_law_pull" "_law_pull" s__law_pull A.f__law_pull A.d__law_pull
  k__law_pull : PySem.W.keepIn K (.ref A.f__law_pull) = true
  b__law_pull : Binds K A.d__law_pull ["state", "many"] []
  mg__law_pull : mg "_law_pull" = some (.ref A.f__law_pull)
  F__law_big : Fun K "_law_big" "_law_big" s__law_big A.f__law_big A.d__law_big
  k__law_big : PySem.W.keepIn K (.ref A.f__law_big) = true
  b__law_big : Binds K A.d__law_big ["state", "many"] []
  mg__law_big : mg "_law_big" = some (.ref A.f__law_big)
  F__law_field : Fun K "_law_field" "_law_field" s__law_field A.f__law_field A.d__law_field
  k__law_field : PySem.W.keepIn K (.ref A.f__law_field) = true
  b__law_field : Binds K A.d__law_field ["state"] []
  mg__law_field : mg "_law_field" = some (.ref A.f__law_field)
  F__law_raise_first : Fun K "_law_raise_first" "_law_raise_first" s__law_raise_first A.f__law_raise_first A.d__law_raise_first
  k__law_raise_first : PySem.W.keepIn K (.ref A.f__law_raise_first) = true
  b__law_raise_first : Binds K A.d__law_raise_first ["which", "one", "other"] []
  mg__law_raise_first : mg "_law_raise_first" = some (.ref A.f__law_raise_first)
  F__law_raise : Fun K "_law_raise" "_law_raise" s__law_raise A.f__law_raise A.d__law_raise
  k__law_raise : PySem.W.keepIn K (.ref A.f__law_raise) = true
  b__law_raise : Binds K A.d__law_raise ["which", "one", "other"] []
  mg__law_raise : mg "_law_raise" = some (.ref A.f__law_raise)
  F__law_classes : Fun K "_law_classes" "_law_classes" s__law_classes A.f__law_classes A.d__law_classes
  k__law_classes : PySem.W.keepIn K (.ref A.f__law_classes) = true
  b__law_classes : Binds K A.d__law_classes ["e"] []
  mg__law_classes : mg "_law_classes" = some (.ref A.f__law_classes)
  F__law_fields : Fun K "_law_fields" "_law_fields" s__law_fields A.f__law_fields A.d__law_fields
  k__law_fields : PySem.W.keepIn K (.ref A.f__law_fields) = true
  b__law_fields : Binds K A.d__law_fields ["e", "which"] []
  mg__law_fields : mg "_law_fields" = some (.ref A.f__law_fields)
  F__law_caught : Fun K "_law_caught" "_law_caught" s__law_caught A.f__law_caught A.d__law_caught
  k__law_caught : PySem.W.keepIn K (.ref A.f__law_caught) = true
  b__law_caught : Binds K A.d__law_caught ["which", "one", "other"] []
  mg__law_caught : mg "_law_caught" = some (.ref A.f__law_caught)
  F_law : Fun K "law" "law" s_law A.f_law A.d_law
  k_law : PySem.W.keepIn K (.ref A.f_law) = true
  b_law : Binds K A.d_law ["script"] []
  mg_law : mg "law" = some (.ref A.f_law)
  mg_RoomError : mg "RoomError" = some (.ref A.c_RoomError)
  te_RoomError : PySem.W.exmOne K (.ref A.c_RoomError) (.ref A.c_RoomError) = some true
  xo_RoomError : PySem.W.excIn K A.c_RoomError He.veBase "ValueError.__new__" = true ∧ PySem.W.keepIn K (.ref A.c_RoomError) = true ∧ PySem.W.subIn K (.ref A.c_RoomError) (.type "BaseException") = some true ∧ PySem.W.typeIn K (.ref A.c_RoomError) = some (.type "type")
  mg_BadKind : mg "BadKind" = some (.ref A.c_BadKind)
  te_BadKind : PySem.W.exmOne K (.ref A.c_BadKind) (.ref A.c_BadKind) = some true
  oex_BadKind : OexC K A.c_BadKind
  xf_BadKind : XfC K A.c_BadKind
  ix_BadKind : PySem.W.findIn K (.ref A.c_BadKind) "__init__" = some (some (.ref A.f_BadKind___init__))
  tx_BadKind : PySem.W.typeIn K (.ref A.f_BadKind___init__) = some (.type "function")
  nx_BadKind_part : PySem.W.findIn K (.ref A.c_BadKind) "part" = some none
  mg_BadEdition : mg "BadEdition" = some (.ref A.c_BadEdition)
  te_BadEdition : PySem.W.exmOne K (.ref A.c_BadEdition) (.ref A.c_BadEdition) = some true
  oex_BadEdition : OexC K A.c_BadEdition
  xf_BadEdition : XfC K A.c_BadEdition
  ix_BadEdition : PySem.W.findIn K (.ref A.c_BadEdition) "__init__" = some (some (.ref A.f_BadEdition___init__))
  tx_BadEdition : PySem.W.typeIn K (.ref A.f_BadEdition___init__) = some (.type "function")
  nx_BadEdition_part : PySem.W.findIn K (.ref A.c_BadEdition) "part" = some none
  mg_MissingKind : mg "MissingKind" = some (.ref A.c_MissingKind)
  te_MissingKind : PySem.W.exmOne K (.ref A.c_MissingKind) (.ref A.c_MissingKind) = some true
  oex_MissingKind : OexC K A.c_MissingKind
  xf_MissingKind : XfC K A.c_MissingKind
  ix_MissingKind : PySem.W.findIn K (.ref A.c_MissingKind) "__init__" = some (some (.ref A.f_MissingKind___init__))
  tx_MissingKind : PySem.W.typeIn K (.ref A.f_MissingKind___init__) = some (.type "function")
  nx_MissingKind_name : PySem.W.findIn K (.ref A.c_MissingKind) "name" = some none
  mg_RingOfCalls : mg "RingOfCalls" = some (.ref A.c_RingOfCalls)
  te_RingOfCalls : PySem.W.exmOne K (.ref A.c_RingOfCalls) (.ref A.c_RingOfCalls) = some true
  oex_RingOfCalls : OexC K A.c_RingOfCalls
  xf_RingOfCalls : XfC K A.c_RingOfCalls
  ix_RingOfCalls : PySem.W.findIn K (.ref A.c_RingOfCalls) "__init__" = some (some (.ref A.f_RingOfCalls___init__))
  tx_RingOfCalls : PySem.W.typeIn K (.ref A.f_RingOfCalls___init__) = some (.type "function")
  nx_RingOfCalls_name : PySem.W.findIn K (.ref A.c_RingOfCalls) "name" = some none
  mg_LongBody : mg "LongBody" = some (.ref A.c_LongBody)
  te_LongBody : PySem.W.exmOne K (.ref A.c_LongBody) (.ref A.c_LongBody) = some true
  oex_LongBody : OexC K A.c_LongBody
  xf_LongBody : XfC K A.c_LongBody
  ix_LongBody : PySem.W.findIn K (.ref A.c_LongBody) "__init__" = some (some (.ref A.f_LongBody___init__))
  tx_LongBody : PySem.W.typeIn K (.ref A.f_LongBody___init__) = some (.type "function")
  nx_LongBody_name : PySem.W.findIn K (.ref A.c_LongBody) "name" = some none
  nx_LongBody_inner : PySem.W.findIn K (.ref A.c_LongBody) "inner" = some none
  mg_RoomTaken : mg "RoomTaken" = some (.ref A.c_RoomTaken)
  te_RoomTaken : PySem.W.exmOne K (.ref A.c_RoomTaken) (.ref A.c_RoomTaken) = some true
  oex_RoomTaken : OexC K A.c_RoomTaken
  xf_RoomTaken : XfC K A.c_RoomTaken
  ix_RoomTaken : PySem.W.findIn K (.ref A.c_RoomTaken) "__init__" = some (some (.ref A.f_RoomTaken___init__))
  tx_RoomTaken : PySem.W.typeIn K (.ref A.f_RoomTaken___init__) = some (.type "function")
  nx_RoomTaken_name : PySem.W.findIn K (.ref A.c_RoomTaken) "name" = some none
  nx_RoomTaken_inner : PySem.W.findIn K (.ref A.c_RoomTaken) "inner" = some none
  mg_NoKind : mg "NoKind" = some (.ref A.c_NoKind)
  te_NoKind : PySem.W.exmOne K (.ref A.c_NoKind) (.ref A.c_NoKind) = some true
  xo_NoKind : PySem.W.excIn K A.c_NoKind He.veBase "ValueError.__new__" = true ∧ PySem.W.keepIn K (.ref A.c_NoKind) = true ∧ PySem.W.subIn K (.ref A.c_NoKind) (.type "BaseException") = some true ∧ PySem.W.typeIn K (.ref A.c_NoKind) = some (.type "type")
  mg_NoBits : mg "NoBits" = some (.ref A.c_NoBits)
  te_NoBits : PySem.W.exmOne K (.ref A.c_NoBits) (.ref A.c_NoBits) = some true
  xo_NoBits : PySem.W.excIn K A.c_NoBits He.veBase "ValueError.__new__" = true ∧ PySem.W.keepIn K (.ref A.c_NoBits) = true ∧ PySem.W.subIn K (.ref A.c_NoBits) (.type "BaseException") = some true ∧ PySem.W.typeIn K (.ref A.c_NoBits) = some (.type "type")
  mg_BadValue : mg "BadValue" = some (.ref A.c_BadValue)
  te_BadValue : PySem.W.exmOne K (.ref A.c_BadValue) (.ref A.c_BadValue) = some true
  oex_BadValue : OexC K A.c_BadValue
  xf_BadValue : XfC K A.c_BadValue
  ix_BadValue : PySem.W.findIn K (.ref A.c_BadValue) "__init__" = some (some (.ref A.f_BadValue___init__))
  tx_BadValue : PySem.W.typeIn K (.ref A.f_BadValue___init__) = some (.type "function")
  nx_BadValue_path : PySem.W.findIn K (.ref A.c_BadValue) "path" = some none
  mg_BadBits : mg "BadBits" = some (.ref A.c_BadBits)
  te_BadBits : PySem.W.exmOne K (.ref A.c_BadBits) (.ref A.c_BadBits) = some true
  oex_BadBits : OexC K A.c_BadBits
  xf_BadBits : XfC K A.c_BadBits
  ix_BadBits : PySem.W.findIn K (.ref A.c_BadBits) "__init__" = some (some (.ref A.f_BadBits___init__))
  tx_BadBits : PySem.W.typeIn K (.ref A.f_BadBits___init__) = some (.type "function")
  nx_BadBits_at : PySem.W.findIn K (.ref A.c_BadBits) "at" = some none
  mg_TooFew : mg "TooFew" = some (.ref A.c_TooFew)
  te_TooFew : PySem.W.exmOne K (.ref A.c_TooFew) (.ref A.c_TooFew) = some true
  oex_TooFew : OexC K A.c_TooFew
  xf_TooFew : XfC K A.c_TooFew
  ix_TooFew : PySem.W.findIn K (.ref A.c_TooFew) "__init__" = some (some (.ref A.f_TooFew___init__))
  tx_TooFew : PySem.W.typeIn K (.ref A.f_TooFew___init__) = some (.type "function")
  nx_TooFew_due : PySem.W.findIn K (.ref A.c_TooFew) "due" = some none
  mg_Left : mg "Left" = some (.ref A.c_Left)
  te_Left : PySem.W.exmOne K (.ref A.c_Left) (.ref A.c_Left) = some true
  oex_Left : OexC K A.c_Left
  xf_Left : XfC K A.c_Left
  ix_Left : PySem.W.findIn K (.ref A.c_Left) "__init__" = some (some (.ref A.f_Left___init__))
  tx_Left : PySem.W.typeIn K (.ref A.f_Left___init__) = some (.type "function")
  nx_Left_at : PySem.W.findIn K (.ref A.c_Left) "at" = some none
  mg_NoOwn : mg "NoOwn" = some (.ref A.c_NoOwn)
  te_NoOwn : PySem.W.exmOne K (.ref A.c_NoOwn) (.ref A.c_NoOwn) = some true
  xo_NoOwn : PySem.W.excIn K A.c_NoOwn He.veBase "ValueError.__new__" = true ∧ PySem.W.keepIn K (.ref A.c_NoOwn) = true ∧ PySem.W.subIn K (.ref A.c_NoOwn) (.type "BaseException") = some true ∧ PySem.W.typeIn K (.ref A.c_NoOwn) = some (.type "type")
  mg_BadNumber : mg "BadNumber" = some (.ref A.c_BadNumber)
  te_BadNumber : PySem.W.exmOne K (.ref A.c_BadNumber) (.ref A.c_BadNumber) = some true
  oex_BadNumber : OexC K A.c_BadNumber
  xf_BadNumber : XfC K A.c_BadNumber
  ix_BadNumber : PySem.W.findIn K (.ref A.c_BadNumber) "__init__" = some (some (.ref A.f_BadNumber___init__))
  tx_BadNumber : PySem.W.typeIn K (.ref A.f_BadNumber___init__) = some (.type "function")
  nx_BadNumber_part : PySem.W.findIn K (.ref A.c_BadNumber) "part" = some none
  mg_TooMany : mg "TooMany" = some (.ref A.c_TooMany)
  te_TooMany : PySem.W.exmOne K (.ref A.c_TooMany) (.ref A.c_TooMany) = some true
  oex_TooMany : OexC K A.c_TooMany
  xf_TooMany : XfC K A.c_TooMany
  ix_TooMany : PySem.W.findIn K (.ref A.c_TooMany) "__init__" = some (some (.ref A.f_TooMany___init__))
  tx_TooMany : PySem.W.typeIn K (.ref A.f_TooMany___init__) = some (.type "function")
  nx_TooMany_most : PySem.W.findIn K (.ref A.c_TooMany) "most" = some none
  mg_NoUndo : mg "NoUndo" = some (.ref A.c_NoUndo)
  te_NoUndo : PySem.W.exmOne K (.ref A.c_NoUndo) (.ref A.c_NoUndo) = some true
  xo_NoUndo : PySem.W.excIn K A.c_NoUndo He.veBase "ValueError.__new__" = true ∧ PySem.W.keepIn K (.ref A.c_NoUndo) = true ∧ PySem.W.subIn K (.ref A.c_NoUndo) (.type "BaseException") = some true ∧ PySem.W.typeIn K (.ref A.c_NoUndo) = some (.type "type")
  mg_NoStep : mg "NoStep" = some (.ref A.c_NoStep)
  te_NoStep : PySem.W.exmOne K (.ref A.c_NoStep) (.ref A.c_NoStep) = some true
  oex_NoStep : OexC K A.c_NoStep
  xf_NoStep : XfC K A.c_NoStep
  ix_NoStep : PySem.W.findIn K (.ref A.c_NoStep) "__init__" = some (some (.ref A.f_NoStep___init__))
  tx_NoStep : PySem.W.typeIn K (.ref A.f_NoStep___init__) = some (.type "function")
  nx_NoStep_reason : PySem.W.findIn K (.ref A.c_NoStep) "reason" = some none
  mg_BadWeights : mg "BadWeights" = some (.ref A.c_BadWeights)
  te_BadWeights : PySem.W.exmOne K (.ref A.c_BadWeights) (.ref A.c_BadWeights) = some true
  xo_BadWeights : PySem.W.excIn K A.c_BadWeights He.veBase "ValueError.__new__" = true ∧ PySem.W.keepIn K (.ref A.c_BadWeights) = true ∧ PySem.W.subIn K (.ref A.c_BadWeights) (.type "BaseException") = some true ∧ PySem.W.typeIn K (.ref A.c_BadWeights) = some (.type "type")
  mg_NoPlace : mg "NoPlace" = some (.ref A.c_NoPlace)
  te_NoPlace : PySem.W.exmOne K (.ref A.c_NoPlace) (.ref A.c_NoPlace) = some true
  xo_NoPlace : PySem.W.excIn K A.c_NoPlace He.veBase "ValueError.__new__" = true ∧ PySem.W.keepIn K (.ref A.c_NoPlace) = true ∧ PySem.W.subIn K (.ref A.c_NoPlace) (.type "BaseException") = some true ∧ PySem.W.typeIn K (.ref A.c_NoPlace) = some (.type "type")
  mg_NoRoom : mg "NoRoom" = some (.ref A.c_NoRoom)
  te_NoRoom : PySem.W.exmOne K (.ref A.c_NoRoom) (.ref A.c_NoRoom) = some true
  oex_NoRoom : OexC K A.c_NoRoom
  xf_NoRoom : XfC K A.c_NoRoom
  ix_NoRoom : PySem.W.findIn K (.ref A.c_NoRoom) "__init__" = some (some (.ref A.f_NoRoom___init__))
  tx_NoRoom : PySem.W.typeIn K (.ref A.f_NoRoom___init__) = some (.type "function")
  nx_NoRoom_path : PySem.W.findIn K (.ref A.c_NoRoom) "path" = some none
  mg_Broken : mg "Broken" = some (.ref A.c_Broken)
  te_Broken : PySem.W.exmOne K (.ref A.c_Broken) (.ref A.c_Broken) = some true
  oex_Broken : OexC K A.c_Broken
  xf_Broken : XfC K A.c_Broken
  ix_Broken : PySem.W.findIn K (.ref A.c_Broken) "__init__" = some (some (.ref A.f_Broken___init__))
  tx_Broken : PySem.W.typeIn K (.ref A.f_Broken___init__) = some (.type "function")
  nx_Broken_at : PySem.W.findIn K (.ref A.c_Broken) "at" = some none
  nx_Broken_word : PySem.W.findIn K (.ref A.c_Broken) "word" = some none
  mg_BadText : mg "BadText" = some (.ref A.c_BadText)
  te_BadText : PySem.W.exmOne K (.ref A.c_BadText) (.ref A.c_BadText) = some true
  oex_BadText : OexC K A.c_BadText
  xf_BadText : XfC K A.c_BadText
  ix_BadText : PySem.W.findIn K (.ref A.c_BadText) "__init__" = some (some (.ref A.f_BadText___init__))
  tx_BadText : PySem.W.typeIn K (.ref A.f_BadText___init__) = some (.type "function")
  nx_BadText_line : PySem.W.findIn K (.ref A.c_BadText) "line" = some none
  mg_NoLine : mg "NoLine" = some (.ref A.c_NoLine)
  te_NoLine : PySem.W.exmOne K (.ref A.c_NoLine) (.ref A.c_NoLine) = some true
  xo_NoLine : PySem.W.excIn K A.c_NoLine He.veBase "ValueError.__new__" = true ∧ PySem.W.keepIn K (.ref A.c_NoLine) = true ∧ PySem.W.subIn K (.ref A.c_NoLine) (.type "BaseException") = some true ∧ PySem.W.typeIn K (.ref A.c_NoLine) = some (.type "type")
  mg_NoName : mg "NoName" = some (.ref A.c_NoName)
  te_NoName : PySem.W.exmOne K (.ref A.c_NoName) (.ref A.c_NoName) = some true
  oex_NoName : OexC K A.c_NoName
  xf_NoName : XfC K A.c_NoName
  ix_NoName : PySem.W.findIn K (.ref A.c_NoName) "__init__" = some (some (.ref A.f_NoName___init__))
  tx_NoName : PySem.W.typeIn K (.ref A.f_NoName___init__) = some (.type "function")
  nx_NoName_name : PySem.W.findIn K (.ref A.c_NoName) "name" = some none
  b_ValueError : mg "ValueError" = none
  b_bool : mg "bool" = none
  b_dict : mg "dict" = none
  b_int : mg "int" = none
  b_isinstance : mg "isinstance" = none
  b_len : mg "len" = none
  b_list : mg "list" = none
  b_range : mg "range" = none
  b_str : mg "str" = none
  b_tuple : mg "tuple" = none
  em : ∀ n < 24, PySem.W.exmOne K (.ref (A.rz n)) (.ref A.c_RoomError) = some true
  kv : ∀ n < 24, PySem.W.kitOne K (.ref (A.rz n)) (.type "ValueError") = some true
  xd : ∀ n < 24, ExD K (A.rz n)
  ki : ∀ n < 24, ∀ j < 24, PySem.W.kitOne K (.ref (A.rz n)) (.ref (A.rz j)) = some (decide (j = n))
  rz0 : A.rz 0 = A.c_BadKind
  rz1 : A.rz 1 = A.c_BadEdition
  rz2 : A.rz 2 = A.c_MissingKind
  rz3 : A.rz 3 = A.c_RingOfCalls
  rz4 : A.rz 4 = A.c_LongBody
  rz5 : A.rz 5 = A.c_RoomTaken
  rz6 : A.rz 6 = A.c_NoKind
  rz7 : A.rz 7 = A.c_NoBits
  rz8 : A.rz 8 = A.c_BadValue
  rz9 : A.rz 9 = A.c_BadBits
  rz10 : A.rz 10 = A.c_TooFew
  rz11 : A.rz 11 = A.c_Left
  rz12 : A.rz 12 = A.c_NoOwn
  rz13 : A.rz 13 = A.c_BadNumber
  rz14 : A.rz 14 = A.c_TooMany
  rz15 : A.rz 15 = A.c_NoUndo
  rz16 : A.rz 16 = A.c_NoStep
  rz17 : A.rz 17 = A.c_BadWeights
  rz18 : A.rz 18 = A.c_NoPlace
  rz19 : A.rz 19 = A.c_NoRoom
  rz20 : A.rz 20 = A.c_Broken
  rz21 : A.rz 21 = A.c_BadText
  rz22 : A.rz 22 = A.c_NoLine
  rz23 : A.rz 23 = A.c_NoName
abbrev N_BadKind___init__ : List Str := ["self", "part"]
theorem sc_BadKind___init__ : FnScope ["self", "part"] ["self", "part"] (defScope s_BadKind___init__) := ⟨rfl, rfl, rfl, by decide +kernel, rfl, by decide +kernel, by decide +kernel⟩
abbrev N_BadEdition___init__ : List Str := ["self", "part"]
theorem sc_BadEdition___init__ : FnScope ["self", "part"] ["self", "part"] (defScope s_BadEdition___init__) := ⟨rfl, rfl, rfl, by decide +kernel, rfl, by decide +kernel, by decide +kernel⟩
abbrev N_MissingKind___init__ : List Str := ["self", "name"]
theorem sc_MissingKind___init__ : FnScope ["self", "name"] ["self", "name"] (defScope s_MissingKind___init__) := ⟨rfl, rfl, rfl, by decide +kernel, rfl, by decide +kernel, by decide +kernel⟩
abbrev N_RingOfCalls___init__ : List Str := ["self", "name"]
theorem sc_RingOfCalls___init__ : FnScope ["self", "name"] ["self", "name"] (defScope s_RingOfCalls___init__) := ⟨rfl, rfl, rfl, by decide +kernel, rfl, by decide +kernel, by decide +kernel⟩
abbrev N_LongBody___init__ : List Str := ["self", "name", "inner"]
theorem sc_LongBody___init__ : FnScope ["self", "name", "inner"] ["self", "name", "inner"] (defScope s_LongBody___init__) := ⟨rfl, rfl, rfl, by decide +kernel, rfl, by decide +kernel, by decide +kernel⟩
abbrev N_RoomTaken___init__ : List Str := ["self", "name", "inner"]
theorem sc_RoomTaken___init__ : FnScope ["self", "name", "inner"] ["self", "name", "inner"] (defScope s_RoomTaken___init__) := ⟨rfl, rfl, rfl, by decide +kernel, rfl, by decide +kernel, by decide +kernel⟩
abbrev N_BadValue___init__ : List Str := ["self", "path"]
theorem sc_BadValue___init__ : FnScope ["self", "path"] ["self", "path"] (defScope s_BadValue___init__) := ⟨rfl, rfl, rfl, by decide +kernel, rfl, by decide +kernel, by decide +kernel⟩
abbrev N_BadBits___init__ : List Str := ["self", "at"]
theorem sc_BadBits___init__ : FnScope ["self", "at"] ["self", "at"] (defScope s_BadBits___init__) := ⟨rfl, rfl, rfl, by decide +kernel, rfl, by decide +kernel, by decide +kernel⟩
abbrev N_TooFew___init__ : List Str := ["self", "due"]
theorem sc_TooFew___init__ : FnScope ["self", "due"] ["self", "due"] (defScope s_TooFew___init__) := ⟨rfl, rfl, rfl, by decide +kernel, rfl, by decide +kernel, by decide +kernel⟩
abbrev N_Left___init__ : List Str := ["self", "at"]
theorem sc_Left___init__ : FnScope ["self", "at"] ["self", "at"] (defScope s_Left___init__) := ⟨rfl, rfl, rfl, by decide +kernel, rfl, by decide +kernel, by decide +kernel⟩
abbrev N_BadNumber___init__ : List Str := ["self", "part"]
theorem sc_BadNumber___init__ : FnScope ["self", "part"] ["self", "part"] (defScope s_BadNumber___init__) := ⟨rfl, rfl, rfl, by decide +kernel, rfl, by decide +kernel, by decide +kernel⟩
abbrev N_TooMany___init__ : List Str := ["self", "most"]
theorem sc_TooMany___init__ : FnScope ["self", "most"] ["self", "most"] (defScope s_TooMany___init__) := ⟨rfl, rfl, rfl, by decide +kernel, rfl, by decide +kernel, by decide +kernel⟩
abbrev N_NoStep___init__ : List Str := ["self", "reason"]
theorem sc_NoStep___init__ : FnScope ["self", "reason"] ["self", "reason"] (defScope s_NoStep___init__) := ⟨rfl, rfl, rfl, by decide +kernel, rfl, by decide +kernel, by decide +kernel⟩
abbrev N_NoRoom___init__ : List Str := ["self", "path"]
theorem sc_NoRoom___init__ : FnScope ["self", "path"] ["self", "path"] (defScope s_NoRoom___init__) := ⟨rfl, rfl, rfl, by decide +kernel, rfl, by decide +kernel, by decide +kernel⟩
abbrev N_Broken___init__ : List Str := ["self", "at", "word"]
theorem sc_Broken___init__ : FnScope ["self", "at", "word"] ["self", "at", "word"] (defScope s_Broken___init__) := ⟨rfl, rfl, rfl, by decide +kernel, rfl, by decide +kernel, by decide +kernel⟩
abbrev N_BadText___init__ : List Str := ["self", "line"]
theorem sc_BadText___init__ : FnScope ["self", "line"] ["self", "line"] (defScope s_BadText___init__) := ⟨rfl, rfl, rfl, by decide +kernel, rfl, by decide +kernel, by decide +kernel⟩
abbrev N_NoName___init__ : List Str := ["self", "name"]
theorem sc_NoName___init__ : FnScope ["self", "name"] ["self", "name"] (defScope s_NoName___init__) := ⟨rfl, rfl, rfl, by decide +kernel, rfl, by decide +kernel, by decide +kernel⟩
abbrev N__law_is_int : List Str := ["told"]
theorem sc__law_is_int : FnScope ["told"] ["told"] (defScope s__law_is_int) := ⟨rfl, rfl, rfl, by decide +kernel, rfl, by decide +kernel, by decide +kernel⟩
abbrev N__law_same_dict : List Str := ["told", "due", "key"]
theorem sc__law_same_dict : FnScope ["told", "due", "key"] ["told", "due"] (defScope s__law_same_dict) := ⟨rfl, rfl, rfl, by decide +kernel, rfl, by decide +kernel, by decide +kernel⟩
abbrev N__law_same : List Str := ["told", "due", "k"]
theorem sc__law_same : FnScope ["told", "due", "k"] ["told", "due"] (defScope s__law_same) := ⟨rfl, rfl, rfl, by decide +kernel, rfl, by decide +kernel, by decide +kernel⟩
abbrev N__law_start : List Str := ["script"]
theorem sc__law_start : FnScope ["script"] ["script"] (defScope s__law_start) := ⟨rfl, rfl, rfl, by decide +kernel, rfl, by decide +kernel, by decide +kernel⟩
abbrev N__law_pull : List Str := ["state", "many", "cell", "number"]
theorem sc__law_pull : FnScope ["state", "many", "cell", "number"] ["state", "many"] (defScope s__law_pull) := ⟨rfl, rfl, rfl, by decide +kernel, rfl, by decide +kernel, by decide +kernel⟩
abbrev N__law_big : List Str := ["state", "many", "number", "k"]
theorem sc__law_big : FnScope ["state", "many", "number", "k"] ["state", "many"] (defScope s__law_big) := ⟨rfl, rfl, rfl, by decide +kernel, rfl, by decide +kernel, by decide +kernel⟩
abbrev N__law_field : List Str := ["state", "turn", "letters", "k"]
theorem sc__law_field : FnScope ["state", "turn", "letters", "k"] ["state"] (defScope s__law_field) := ⟨rfl, rfl, rfl, by decide +kernel, rfl, by decide +kernel, by decide +kernel⟩
abbrev N__law_raise_first : List Str := ["which", "one", "other"]
theorem sc__law_raise_first : FnScope ["which", "one", "other"] ["which", "one", "other"] (defScope s__law_raise_first) := ⟨rfl, rfl, rfl, by decide +kernel, rfl, by decide +kernel, by decide +kernel⟩
abbrev N__law_raise : List Str := ["which", "one", "other"]
theorem sc__law_raise : FnScope ["which", "one", "other"] ["which", "one", "other"] (defScope s__law_raise) := ⟨rfl, rfl, rfl, by decide +kernel, rfl, by decide +kernel, by decide +kernel⟩
abbrev N__law_classes : List Str := ["e", "told"]
theorem sc__law_classes : FnScope ["e", "told"] ["e"] (defScope s__law_classes) := ⟨rfl, rfl, rfl, by decide +kernel, rfl, by decide +kernel, by decide +kernel⟩
abbrev N__law_fields : List Str := ["e", "which"]
theorem sc__law_fields : FnScope ["e", "which"] ["e", "which"] (defScope s__law_fields) := ⟨rfl, rfl, rfl, by decide +kernel, rfl, by decide +kernel, by decide +kernel⟩
abbrev N__law_caught : List Str := ["which", "one", "other", "e"]
theorem sc__law_caught : FnScope ["which", "one", "other", "e"] ["which", "one", "other"] (defScope s__law_caught) := ⟨rfl, rfl, rfl, by decide +kernel, rfl, by decide +kernel, by decide +kernel⟩
abbrev N_law : List Str := ["script", "state", "which", "one", "other", "due", "caught", "k"]
theorem sc_law : FnScope ["script", "state", "which", "one", "other", "due", "caught", "k"] ["script"] (defScope s_law) := ⟨rfl, rfl, rfl, by decide +kernel, rfl, by decide +kernel, by decide +kernel⟩
abbrev sp__law_start (K : PySem.W.Frag) (_ : Ad) : Sp := sp_start K
abbrev sp_law (K : PySem.W.Frag) (_ : Ad) : Sp := sp_law0 K
abbrev sp__law_pull (_ : PySem.W.Frag) (_ : Ad) : Sp := sp_pull
abbrev sp__law_big (_ : PySem.W.Frag) (_ : Ad) : Sp := sp_pull
def oi : Option Int → V
  | some i => .int i
  | none => .non
def oiOf : V → Option Int
  | .int i => some i
  | _ => none
def intOf : V → Int
  | .int i => i
  | _ => 0
def strOf : V → Str
  | .str x => x
  | _ => Str.empty
theorem same_new {H : Hp} {p : Addr} {o : HO} (h : H p = none) : Same H (upd H p o) := fun b u e => by rw [upd_ne (ne_of_none e h)]; exact e
theorem same_put {H0 H : Hp} {x : Addr} {o : HO} (no : H0 x = none) (s : Same H0 H) : Same H0 (upd H x o) := fun b u e => by rw [upd_ne (ne_of_none e no)]; exact s b u e
theorem nI {i : Int} : ¬ isI (.int i) = false := fun z => nomatch z
theorem int_ex {v : V} (h : isI v = true) : ∃ i, v = .int i := by cases v <;> first | exact ⟨_, rfl⟩ | cases h
theorem iteY {P Q : Prop} (h : P) : if true = true then P else Q := by rw [if_pos rfl]; exact h
theorem dI {a b : Int} : decide (V.int a = V.int b) = decide (a = b) := decide_eq_decide.mpr ⟨fun h => by injection h, fun h => by rw [h]⟩
theorem dS {a b : Str} : decide (V.str a = V.str b) = decide (a = b) := decide_eq_decide.mpr ⟨fun h => by injection h, fun h => by rw [h]⟩
theorem iteB {c : Bool} {P Q : Prop} (h1 : c = true → P) (h2 : c = false → Q) : if c = true then P else Q := by
  cases c
  · exact h2 rfl
  · exact h1 rfl
theorem not_t {b : Bool} (h : (!b) = true) : b = false := by cases b <;> first | rfl | cases h
theorem not_f {b : Bool} (h : (!b) = false) : b = true := by cases b <;> first | rfl | cases h

def fln (n : Nat) : List Str := ([["part"], ["part"], ["name"], ["name"], ["name", "inner"], ["name", "inner"], [], [], ["path"], ["at"], ["due"], ["at"], [], ["part"], ["most"], [], ["reason"], [], [], ["path"], ["at", "word"], ["line"], [], ["name"]] : List (List Str)).getD n []
def flds (n : Nat) (a b : V) : List (Str × V) := match fln n with
  | [] => []
  | [f] => [(f, a)]
  | f :: g :: _ => [(g, b), (f, a)]
def dueL (n : Nat) (a b : V) : List V := match (fln n).length with
  | 0 => []
  | 1 => [a]
  | _ => [a, b]
/-- the n-th error is raised -/
def RaiseAt (A : Ad) (n : Nat) (a b : V) (H : Hp) (E : XK) : Prop := if (fln n).length = 0 then E (.ref (A.rz n)) none H else ∀ (H' : Hp) (d : Addr), Same H H' → H' d = some (.xd (flds n a b)) → E (.ref (A.rz n)) (some d) H'
def DictAt (n : Nat) (a b : V) (d : Option Addr) (H : Hp) : Prop := if (fln n).length = 0 then d = none else ∃ dd, d = some dd ∧ H dd = some (.xd (flds n a b))
def Atom : V → Prop
  | .non => True
  | .bl _ => True
  | .int _ => True
  | .str _ => True
  | _ => False
/-- the same at two places, to a depth -/
def SA : Nat → Hp → V → V → Prop
  | 0, _, v, w => v = w ∧ Atom v
  | n + 1, H, v, w => (v = w ∧ Atom v) ∨ ∃ p q xs ys, v = .ref p ∧ w = .ref q ∧ xs.length ≤ 30 ∧ Paired (SA n H) xs ys ∧ ((H p = some (.lst xs) ∧ H q = some (.lst ys)) ∨ (H p = some (.tup xs) ∧ H q = some (.tup ys)))
def FieldV (H : Hp) (v : V) : Prop := Atom v ∨ ∃ p i j, v = .ref p ∧ H p = some (.tup [.int i, .int j])
/-- an own exception with two fields -/
abbrev sp_exc2 (C : Addr) (f g : Str) : Sp := Sp3 fun s v y H Q _ => ∃ a, s = .ref a ∧ H a = some (exo a C none) ∧ ∀ dx, H dx = none → dx ≠ a → Q .non (upd (upd (upd H dx (exd dx [(f, v)])) a (exo a C (some dx))) dx (exd dx [(g, y), (f, v)]))
abbrev sp__law_is_int (K : PySem.W.Frag) (_ : Ad) : Sp := Sp1 fun v H Q _ => ∃ t, VT K H v t ∧ Q (.bl (isI v)) H
abbrev sp__law_same0 (_ : PySem.W.Frag) (_ : Ad) : Sp := Sp2 fun v w H Q _ => SA 0 H v w ∧ Q (.bl true) H
abbrev sp__law_same1 (_ : PySem.W.Frag) (_ : Ad) : Sp := Sp2 fun v w H Q _ => SA 1 H v w ∧ Q (.bl true) H
abbrev sp__law_same2 (_ : PySem.W.Frag) (_ : Ad) : Sp := Sp2 fun v w H Q _ => SA 2 H v w ∧ Q (.bl true) H
abbrev sp__law_same (_ : PySem.W.Frag) (_ : Ad) : Sp := Sp2 fun v w H Q _ => SA 3 H v w ∧ Q (.bl true) H
abbrev sp__law_field (_ : PySem.W.Frag) (_ : Ad) : Sp := Sp1 fun a H Q _ => ∃ d : Dr, a = .ref d.p ∧ Rng d H ∧ ∀ v H', FieldV H' v → Chg d H H' → Rng d H' → Q v H'
abbrev sp__law_raise_first (_ : PySem.W.Frag) (A : Ad) : Sp := Sp3 fun w a b H Q E => ∃ n : Nat, n < 24 ∧ w = .int n ∧ (n < 12 → RaiseAt A n a b H E) ∧ (12 ≤ n → Q .non H)
abbrev sp__law_raise (_ : PySem.W.Frag) (A : Ad) : Sp := Sp3 fun w a b H _ E => ∃ n : Nat, n < 24 ∧ w = .int n ∧ RaiseAt A n a b H E
abbrev spE__law_classes (_ : PySem.W.Frag) (A : Ad) : SpE := fun a cls d => Sp1 fun v H Q _ => ∃ n, n < 24 ∧ cls = .ref (A.rz n) ∧ v = .ref a ∧ (d = none ∨ ∃ dd fs, d = some dd ∧ H dd = some (.xd fs)) ∧ ∀ p H', Same H H' → H' p = some (.lst ((List.range 24).map fun k => .bl (decide (k = n)))) → Q (.ref p) H'
abbrev spE__law_fields (_ : PySem.W.Frag) (A : Ad) : SpE := fun a cls d => Sp2 fun v w H Q _ => ∃ (n : Nat) (x y : V), n < 24 ∧ cls = .ref (A.rz n) ∧ v = .ref a ∧ w = .int n ∧ DictAt n x y d H ∧ ∀ p H', Same H H' → H' p = some (.tup (dueL n x y)) → Q (.ref p) H'
abbrev sp__law_caught (_ : PySem.W.Frag) (A : Ad) : Sp := Sp3 fun w a b H Q _ => ∃ n : Nat, n < 24 ∧ w = .int n ∧ ∀ p q r H', Same H H' → H' q = some (.lst ((List.range 24).map fun k => .bl (decide (k = n)))) → H' r = some (.tup (dueL n a b)) → H' p = some (.tup [.bl true, .ref q, .ref r]) → Q (.ref p) H'
abbrev sp_BadKind___init__ (_ : PySem.W.Frag) (A : Ad) : Sp := sp_exc1 A.c_BadKind "part"
abbrev sp_BadEdition___init__ (_ : PySem.W.Frag) (A : Ad) : Sp := sp_exc1 A.c_BadEdition "part"
abbrev sp_MissingKind___init__ (_ : PySem.W.Frag) (A : Ad) : Sp := sp_exc1 A.c_MissingKind "name"
abbrev sp_RingOfCalls___init__ (_ : PySem.W.Frag) (A : Ad) : Sp := sp_exc1 A.c_RingOfCalls "name"
abbrev sp_LongBody___init__ (_ : PySem.W.Frag) (A : Ad) : Sp := sp_exc2 A.c_LongBody "name" "inner"
abbrev sp_RoomTaken___init__ (_ : PySem.W.Frag) (A : Ad) : Sp := sp_exc2 A.c_RoomTaken "name" "inner"
abbrev sp_BadValue___init__ (_ : PySem.W.Frag) (A : Ad) : Sp := sp_exc1 A.c_BadValue "path"
abbrev sp_BadBits___init__ (_ : PySem.W.Frag) (A : Ad) : Sp := sp_exc1 A.c_BadBits "at"
abbrev sp_TooFew___init__ (_ : PySem.W.Frag) (A : Ad) : Sp := sp_exc1 A.c_TooFew "due"
abbrev sp_Left___init__ (_ : PySem.W.Frag) (A : Ad) : Sp := sp_exc1 A.c_Left "at"
abbrev sp_BadNumber___init__ (_ : PySem.W.Frag) (A : Ad) : Sp := sp_exc1 A.c_BadNumber "part"
abbrev sp_TooMany___init__ (_ : PySem.W.Frag) (A : Ad) : Sp := sp_exc1 A.c_TooMany "most"
abbrev sp_NoStep___init__ (_ : PySem.W.Frag) (A : Ad) : Sp := sp_exc1 A.c_NoStep "reason"
abbrev sp_NoRoom___init__ (_ : PySem.W.Frag) (A : Ad) : Sp := sp_exc1 A.c_NoRoom "path"
abbrev sp_Broken___init__ (_ : PySem.W.Frag) (A : Ad) : Sp := sp_exc2 A.c_Broken "at" "word"
abbrev sp_BadText___init__ (_ : PySem.W.Frag) (A : Ad) : Sp := sp_exc1 A.c_BadText "line"
abbrev sp_NoName___init__ (_ : PySem.W.Frag) (A : Ad) : Sp := sp_exc1 A.c_NoName "name"

theorem pair_lens {α β : Type} {R : α → β → Prop} : ∀ {xs : List α} {ts : List β}, Paired R xs ts → xs.length = ts.length
  | _, _, .nil => rfl
  | _, _, .cons _ t => congrArg Nat.succ (pair_lens t)
theorem pair_get {α β : Type} {R : α → β → Prop} : ∀ {xs : List α} {ys : List β} {j : Nat}, Paired R xs ys → ∀ (h : j < xs.length) (h2 : j < ys.length), R xs[j] ys[j]
  | _, _, 0, .cons h t, _, _ => h
  | _, _, j + 1, .cons h t, h1, h2 => pair_get (j := j) t (Nat.lt_of_succ_lt_succ h1) (Nat.lt_of_succ_lt_succ h2)
  | _, _, _, .nil, h1, _ => absurd h1 (Nat.not_lt_zero _)

theorem atom_field {H : Hp} {v : V} (h : Atom v) : FieldV H v := .inl h
theorem mk_exc2 {C : Addr} {f g : Str} {v y : V} {H : Hp} {R : XK} (k : ∀ d, H d = none → R (.ref C) (some d) (upd H d (.xd [(g, y), (f, v)]))) : ([v, y] : List V).length ≤ 1000 ∧ ∀ a, H a = none →
    sp_exc2 C f g (.ref a :: ([v, y] ++ [])) (upd H a (exo a C none)) (fun u H2 => u = .non ∧ ∃ (d : Addr) (fs : List (Str × V)), H2 a = some (exo a C (some d)) ∧ H2 d = some (exd d fs) ∧ H d = none ∧ R (.ref C) (some d) (upd (L2.del H2 a) d (.xd fs))) (fun _ _ _ => False) := by
  refine ⟨by show 2 ≤ 1000; decide, fun a ha => ⟨_, _, _, rfl, a, rfl, upd_same, fun dx hdx ne => ⟨rfl, dx, [(g, y), (f, v)], ?_, upd_same, ?_, ?_⟩⟩⟩
  · rw [upd_ne ne.symm, upd_same]
  · rw [upd_ne ne] at hdx
    exact hdx
  · rw [upd_ne ne] at hdx
    have e : upd (L2.del (upd (upd (upd (upd H a (exo a C none)) dx (exd dx [(f, v)])) a (exo a C (some dx))) dx (exd dx [(g, y), (f, v)])) a) dx (.xd [(g, y), (f, v)]) = upd H dx (.xd [(g, y), (f, v)]) := by
      funext b
      by_cases h1 : b = dx
      · rw [h1, upd_same, upd_same]
      · rw [upd_ne h1, upd_ne h1]
        by_cases h2 : b = a
        · rw [h2, L2.del_same, ha]
        · rw [L2.del_ne h2, upd_ne h1, upd_ne h2, upd_ne h1, upd_ne h2]
    rw [e]
    exact k dx hdx
theorem raise_1 {A : Ad} {n : Nat} {f : Str} {C : Addr} {a b : V} {H : Hp} {E : XK} (hn : fln n = [f]) (hC : A.rz n = C) (k : RaiseAt A n a b H E) : ([a] : List V).length ≤ 1000 ∧ ∀ x, H x = none →
    sp_exc1 C f (.ref x :: ([a] ++ [])) (upd H x (exo x C none)) (fun u H2 => u = .non ∧ ∃ (d : Addr) (fs : List (Str × V)), H2 x = some (exo x C (some d)) ∧ H2 d = some (exd d fs) ∧ H d = none ∧ E (.ref C) (some d) (upd (L2.del H2 x) d (.xd fs))) (fun _ _ _ => False) := by
  subst hC
  unfold RaiseAt flds at k
  rw [hn] at k
  exact mk_exc1 fun d hd => k _ d (same_new hd) upd_same
theorem raise_2 {A : Ad} {n : Nat} {f g : Str} {C : Addr} {a b : V} {H : Hp} {E : XK} (hn : fln n = [f, g]) (hC : A.rz n = C) (k : RaiseAt A n a b H E) : ([a, b] : List V).length ≤ 1000 ∧ ∀ x, H x = none →
    sp_exc2 C f g (.ref x :: ([a, b] ++ [])) (upd H x (exo x C none)) (fun u H2 => u = .non ∧ ∃ (d : Addr) (fs : List (Str × V)), H2 x = some (exo x C (some d)) ∧ H2 d = some (exd d fs) ∧ H d = none ∧ E (.ref C) (some d) (upd (L2.del H2 x) d (.xd fs))) (fun _ _ _ => False) := by
  subst hC
  unfold RaiseAt flds at k
  rw [hn] at k
  exact mk_exc2 fun d hd => k _ d (same_new hd) upd_same
theorem raise_0 {A : Ad} {n : Nat} {C : Addr} {a b : V} {H : Hp} {E : XK} (hn : fln n = []) (hC : A.rz n = C) (k : RaiseAt A n a b H E) : E (.ref C) none H := by
  subst hC
  unfold RaiseAt at k
  rw [hn] at k
  exact k
theorem nat_eq {n m : Nat} (h : decide (V.int (n : Int) = V.int (m : Int)) = true) : n = m := by
  rw [dI] at h
  have := of_decide_eq_true h
  omega
theorem nat_ne {n m : Nat} (h : decide (V.int (n : Int) = V.int (m : Int)) = false) : n ≠ m := by
  rw [dI] at h
  have := of_decide_eq_false h
  omega

theorem hd_same {H H' : Hp} {d : Option Addr} (h : d = none ∨ ∃ dd fs, d = some dd ∧ H dd = some (.xd fs)) (e : Same H H') : d = none ∨ ∃ dd fs, d = some dd ∧ H' dd = some (.xd fs) := by
  rcases h with h | ⟨dd, fs, h1, h2⟩
  · exact .inl h
  · exact .inr ⟨dd, fs, h1, e _ _ h2⟩

theorem rel_ref {a : Addr} : ∀ u, RelV (.ref a) u → u = .ref a := fun u r => by cases r; rfl
theorem rel_ty {n : String} : ∀ u, RelV (.ty n) u → u = .type n := fun u r => by cases r; rfl

theorem raise_of {A : Ad} {n : Nat} {a b : V} {H : Hp} {E : XK} (k : ∀ (H' : Hp) (d : Option Addr), Same H H' → DictAt n a b d H' → E (.ref (A.rz n)) d H') : RaiseAt A n a b H E := by
  unfold RaiseAt
  by_cases h : (fln n).length = 0
  · rw [if_pos h]
    exact k H none (fun _ _ z => z) (by unfold DictAt; rw [if_pos h])
  · rw [if_neg h]
    exact fun H' d e hd => k H' (some d) e (by unfold DictAt; rw [if_neg h]; exact ⟨d, rfl, hd⟩)
theorem DictAt.hd {n : Nat} {a b : V} {d : Option Addr} {H : Hp} (h : DictAt n a b d H) : d = none ∨ ∃ dd fs, d = some dd ∧ H dd = some (.xd fs) := by
  unfold DictAt at h
  by_cases z : (fln n).length = 0
  · rw [if_pos z] at h
    exact .inl h
  · rw [if_neg z] at h
    obtain ⟨dd, h1, h2⟩ := h
    exact .inr ⟨dd, _, h1, h2⟩
theorem DictAt.same {n : Nat} {a b : V} {d : Option Addr} {H H' : Hp} (h : DictAt n a b d H) (e : Same H H') : DictAt n a b d H' := by
  unfold DictAt at h ⊢
  by_cases z : (fln n).length = 0
  · rw [if_pos z] at h ⊢
    exact h
  · rw [if_neg z] at h ⊢
    obtain ⟨dd, h1, h2⟩ := h
    exact ⟨dd, h1, e _ _ h2⟩

theorem lk1 {f : Str} {v : V} : List.lookup f [(f, v)] = some v := by simp [List.lookup]
theorem lkA {f g : Str} {a b : V} (h : (f == g) = false) : List.lookup f [(g, b), (f, a)] = some a := by simp [List.lookup, h]
theorem lkB {f g : Str} {a b : V} : List.lookup g [(g, b), (f, a)] = some b := by simp [List.lookup]

def in3 (n : Nat) : Bool := inV (.int n) [.int 4, .int 5, .int 20]
def in7 (n : Nat) : Bool := inV (.int n) [.int 6, .int 7, .int 12, .int 15, .int 17, .int 18, .int 22]
theorem fln_len : ∀ n < 24, (fln n).length = if in7 n = true then 0 else if in3 n = true then 2 else 1 := by decide +kernel
theorem FieldV.chg {d : Dr} {H H' : Hp} {v : V} (h : FieldV H v) (r : Rng d H) (e : Chg d H H') : FieldV H' v := by
  rcases h with h | ⟨p, i, j, rfl, h⟩
  · exact .inl h
  · obtain ⟨ys, hp, _⟩ := r.atp
    exact .inr ⟨p, i, j, rfl, e _ _ (ne_lst hp h fun ys z => by cases z) h⟩
theorem FieldV.same {H H' : Hp} {v : V} (h : FieldV H v) (e : Same H H') : FieldV H' v := by
  rcases h with h | ⟨p, i, j, rfl, h⟩
  · exact .inl h
  · exact .inr ⟨p, i, j, rfl, e _ _ h⟩
theorem sa0 {H : Hp} {v : V} (h : Atom v) : SA 0 H v v := ⟨rfl, h⟩
theorem FieldV.sa {H : Hp} {v : V} (h : FieldV H v) : SA 1 H v v := by
  rcases h with h | ⟨p, i, j, rfl, h⟩
  · exact .inl ⟨rfl, h⟩
  · exact .inr ⟨p, p, _, _, rfl, rfl, by show 2 ≤ 30; decide, .cons (sa0 (v := .int i) trivial) (.cons (sa0 (v := .int j) trivial) .nil), .inr ⟨h, h⟩⟩
theorem paired_refl {R : V → V → Prop} : ∀ {xs : List V}, (∀ x ∈ xs, R x x) → Paired R xs xs
  | [], _ => .nil
  | x :: xs, h => .cons (h x (List.mem_cons_self ..)) (paired_refl fun y hy => h y (List.mem_cons_of_mem _ hy))
/-- what was caught is what is due -/
theorem sa_caught {H : Hp} {n : Nat} {a b : V} {p q r p2 q2 r2 : Addr} (ha : FieldV H a) (hb : FieldV H b) (h1 : H q = some (.lst ((List.range 24).map fun k => .bl (decide (k = n))))) (h2 : H r = some (.tup (dueL n a b))) (h3 : H p = some (.tup [.bl true, .ref q, .ref r]))
    (g1 : H q2 = some (.lst ((List.range 24).map fun k => .bl (decide (k = n))))) (g2 : H r2 = some (.tup (dueL n a b))) (g3 : H p2 = some (.tup [.bl true, .ref q2, .ref r2])) : SA 3 H (.ref p) (.ref p2) := by
  refine .inr ⟨p, p2, _, _, rfl, rfl, by show 3 ≤ 30; decide, .cons (.inl (sa0 (H := H) (v := .bl true) trivial)) (.cons (.inr ⟨q, q2, _, _, rfl, rfl, ?_, ?_, .inl ⟨h1, g1⟩⟩) (.cons (.inr ⟨r, r2, _, _, rfl, rfl, ?_, ?_, .inr ⟨h2, g2⟩⟩) .nil)), .inr ⟨h3, g3⟩⟩
  · rw [List.length_map, List.length_range]
    decide
  · refine paired_refl fun x hx => ?_
    obtain ⟨k, _, rfl⟩ := List.mem_map.mp hx
    exact .inl (sa0 (H := H) (v := .bl (decide (k = n))) trivial)
  · unfold dueL
    split <;> (simp; try omega)
  · refine paired_refl fun x hx => ?_
    unfold dueL at hx
    split at hx
    · cases hx
    · rcases List.mem_singleton.mp hx with rfl
      exact ha.sa
    · rcases List.mem_cons.mp hx with rfl | hx
      · exact ha.sa
      · rcases List.mem_singleton.mp hx with rfl
        exact hb.sa

section
variable {P : Program} {w : World} {K : PySem.W.Frag} {mg : Str → Option Value} {base : Heap} {A : Ad}
theorem ok_BadKind___init__ (T : Txt K mg A) : FnOk P w K mg base CX0 1 A.f_BadKind___init__ A.d_BadKind___init__ ["self", "part"] (sp_BadKind___init__ K A) := by
  refine T.F_BadKind___init__.ok sc_BadKind___init__ (fun vs H Q E h => sp2_len h) (fun cdv A0 outer s H vs Q E hr h => ?_)
  have nd := sc_BadKind___init__.nd
  refine ⟨_, (pss_one (ps_ost (pv 0) (pv 1))), ?_⟩
  clear nd hr
  replace h := sp2_of h
  obtain ⟨v_self, v_part, rfl, h⟩ := h

  obtain ⟨a, rfl, ha, k⟩ := h
  exact ⟨_, rfl, _, rfl, a, A.c_BadKind, rfl, T.oex_BadKind, T.nx_BadKind_part, .inl ⟨ha, fun dx h n => k dx h n⟩⟩
theorem ok_BadEdition___init__ (T : Txt K mg A) : FnOk P w K mg base CX0 1 A.f_BadEdition___init__ A.d_BadEdition___init__ ["self", "part"] (sp_BadEdition___init__ K A) := by
  refine T.F_BadEdition___init__.ok sc_BadEdition___init__ (fun vs H Q E h => sp2_len h) (fun cdv A0 outer s H vs Q E hr h => ?_)
  have nd := sc_BadEdition___init__.nd
  refine ⟨_, (pss_one (ps_ost (pv 0) (pv 1))), ?_⟩
  clear nd hr
  replace h := sp2_of h
  obtain ⟨v_self, v_part, rfl, h⟩ := h

  obtain ⟨a, rfl, ha, k⟩ := h
  exact ⟨_, rfl, _, rfl, a, A.c_BadEdition, rfl, T.oex_BadEdition, T.nx_BadEdition_part, .inl ⟨ha, fun dx h n => k dx h n⟩⟩
theorem ok_MissingKind___init__ (T : Txt K mg A) : FnOk P w K mg base CX0 1 A.f_MissingKind___init__ A.d_MissingKind___init__ ["self", "name"] (sp_MissingKind___init__ K A) := by
  refine T.F_MissingKind___init__.ok sc_MissingKind___init__ (fun vs H Q E h => sp2_len h) (fun cdv A0 outer s H vs Q E hr h => ?_)
  have nd := sc_MissingKind___init__.nd
  refine ⟨_, (pss_one (ps_ost (pv 0) (pv 1))), ?_⟩
  clear nd hr
  replace h := sp2_of h
  obtain ⟨v_self, v_name, rfl, h⟩ := h

  obtain ⟨a, rfl, ha, k⟩ := h
  exact ⟨_, rfl, _, rfl, a, A.c_MissingKind, rfl, T.oex_MissingKind, T.nx_MissingKind_name, .inl ⟨ha, fun dx h n => k dx h n⟩⟩
theorem ok_RingOfCalls___init__ (T : Txt K mg A) : FnOk P w K mg base CX0 1 A.f_RingOfCalls___init__ A.d_RingOfCalls___init__ ["self", "name"] (sp_RingOfCalls___init__ K A) := by
  refine T.F_RingOfCalls___init__.ok sc_RingOfCalls___init__ (fun vs H Q E h => sp2_len h) (fun cdv A0 outer s H vs Q E hr h => ?_)
  have nd := sc_RingOfCalls___init__.nd
  refine ⟨_, (pss_one (ps_ost (pv 0) (pv 1))), ?_⟩
  clear nd hr
  replace h := sp2_of h
  obtain ⟨v_self, v_name, rfl, h⟩ := h

  obtain ⟨a, rfl, ha, k⟩ := h
  exact ⟨_, rfl, _, rfl, a, A.c_RingOfCalls, rfl, T.oex_RingOfCalls, T.nx_RingOfCalls_name, .inl ⟨ha, fun dx h n => k dx h n⟩⟩
theorem ok_LongBody___init__ (T : Txt K mg A) : FnOk P w K mg base CX0 1 A.f_LongBody___init__ A.d_LongBody___init__ ["self", "name", "inner"] (sp_LongBody___init__ K A) := by
  refine T.F_LongBody___init__.ok sc_LongBody___init__ (fun vs H Q E h => sp3_len h) (fun cdv A0 outer s H vs Q E hr h => ?_)
  have nd := sc_LongBody___init__.nd
  refine ⟨_, (pss_cons (ps_ost (pv 0) (pv 1))
      (pss_one (ps_ost (pv 0) (pv 2)))), ?_⟩
  clear nd hr
  replace h := sp3_of h
  obtain ⟨v_self, v_name, v_inner, rfl, h⟩ := h

  obtain ⟨a, rfl, ha, k⟩ := h
  exact ⟨_, rfl, _, rfl, a, A.c_LongBody, rfl, T.oex_LongBody, T.nx_LongBody_name, .inl ⟨ha, fun dx h n => ⟨_, rfl, _, rfl, a, A.c_LongBody, rfl, T.oex_LongBody, T.nx_LongBody_inner, .inr ⟨dx, _, upd_same, by rw [upd_ne n, upd_same], (by show 1 ≤ 900; decide), k dx h n⟩⟩⟩⟩
theorem ok_RoomTaken___init__ (T : Txt K mg A) : FnOk P w K mg base CX0 1 A.f_RoomTaken___init__ A.d_RoomTaken___init__ ["self", "name", "inner"] (sp_RoomTaken___init__ K A) := by
  refine T.F_RoomTaken___init__.ok sc_RoomTaken___init__ (fun vs H Q E h => sp3_len h) (fun cdv A0 outer s H vs Q E hr h => ?_)
  have nd := sc_RoomTaken___init__.nd
  refine ⟨_, (pss_cons (ps_ost (pv 0) (pv 1))
      (pss_one (ps_ost (pv 0) (pv 2)))), ?_⟩
  clear nd hr
  replace h := sp3_of h
  obtain ⟨v_self, v_name, v_inner, rfl, h⟩ := h

  obtain ⟨a, rfl, ha, k⟩ := h
  exact ⟨_, rfl, _, rfl, a, A.c_RoomTaken, rfl, T.oex_RoomTaken, T.nx_RoomTaken_name, .inl ⟨ha, fun dx h n => ⟨_, rfl, _, rfl, a, A.c_RoomTaken, rfl, T.oex_RoomTaken, T.nx_RoomTaken_inner, .inr ⟨dx, _, upd_same, by rw [upd_ne n, upd_same], (by show 1 ≤ 900; decide), k dx h n⟩⟩⟩⟩
theorem ok_BadValue___init__ (T : Txt K mg A) : FnOk P w K mg base CX0 1 A.f_BadValue___init__ A.d_BadValue___init__ ["self", "path"] (sp_BadValue___init__ K A) := by
  refine T.F_BadValue___init__.ok sc_BadValue___init__ (fun vs H Q E h => sp2_len h) (fun cdv A0 outer s H vs Q E hr h => ?_)
  have nd := sc_BadValue___init__.nd
  refine ⟨_, (pss_one (ps_ost (pv 0) (pv 1))), ?_⟩
  clear nd hr
  replace h := sp2_of h
  obtain ⟨v_self, v_path, rfl, h⟩ := h

  obtain ⟨a, rfl, ha, k⟩ := h
  exact ⟨_, rfl, _, rfl, a, A.c_BadValue, rfl, T.oex_BadValue, T.nx_BadValue_path, .inl ⟨ha, fun dx h n => k dx h n⟩⟩
theorem ok_BadBits___init__ (T : Txt K mg A) : FnOk P w K mg base CX0 1 A.f_BadBits___init__ A.d_BadBits___init__ ["self", "at"] (sp_BadBits___init__ K A) := by
  refine T.F_BadBits___init__.ok sc_BadBits___init__ (fun vs H Q E h => sp2_len h) (fun cdv A0 outer s H vs Q E hr h => ?_)
  have nd := sc_BadBits___init__.nd
  refine ⟨_, (pss_one (ps_ost (pv 0) (pv 1))), ?_⟩
  clear nd hr
  replace h := sp2_of h
  obtain ⟨v_self, v_at, rfl, h⟩ := h

  obtain ⟨a, rfl, ha, k⟩ := h
  exact ⟨_, rfl, _, rfl, a, A.c_BadBits, rfl, T.oex_BadBits, T.nx_BadBits_at, .inl ⟨ha, fun dx h n => k dx h n⟩⟩
theorem ok_TooFew___init__ (T : Txt K mg A) : FnOk P w K mg base CX0 1 A.f_TooFew___init__ A.d_TooFew___init__ ["self", "due"] (sp_TooFew___init__ K A) := by
  refine T.F_TooFew___init__.ok sc_TooFew___init__ (fun vs H Q E h => sp2_len h) (fun cdv A0 outer s H vs Q E hr h => ?_)
  have nd := sc_TooFew___init__.nd
  refine ⟨_, (pss_one (ps_ost (pv 0) (pv 1))), ?_⟩
  clear nd hr
  replace h := sp2_of h
  obtain ⟨v_self, v_due, rfl, h⟩ := h

  obtain ⟨a, rfl, ha, k⟩ := h
  exact ⟨_, rfl, _, rfl, a, A.c_TooFew, rfl, T.oex_TooFew, T.nx_TooFew_due, .inl ⟨ha, fun dx h n => k dx h n⟩⟩
theorem ok_Left___init__ (T : Txt K mg A) : FnOk P w K mg base CX0 1 A.f_Left___init__ A.d_Left___init__ ["self", "at"] (sp_Left___init__ K A) := by
  refine T.F_Left___init__.ok sc_Left___init__ (fun vs H Q E h => sp2_len h) (fun cdv A0 outer s H vs Q E hr h => ?_)
  have nd := sc_Left___init__.nd
  refine ⟨_, (pss_one (ps_ost (pv 0) (pv 1))), ?_⟩
  clear nd hr
  replace h := sp2_of h
  obtain ⟨v_self, v_at, rfl, h⟩ := h

  obtain ⟨a, rfl, ha, k⟩ := h
  exact ⟨_, rfl, _, rfl, a, A.c_Left, rfl, T.oex_Left, T.nx_Left_at, .inl ⟨ha, fun dx h n => k dx h n⟩⟩
theorem ok_BadNumber___init__ (T : Txt K mg A) : FnOk P w K mg base CX0 1 A.f_BadNumber___init__ A.d_BadNumber___init__ ["self", "part"] (sp_BadNumber___init__ K A) := by
  refine T.F_BadNumber___init__.ok sc_BadNumber___init__ (fun vs H Q E h => sp2_len h) (fun cdv A0 outer s H vs Q E hr h => ?_)
  have nd := sc_BadNumber___init__.nd
  refine ⟨_, (pss_one (ps_ost (pv 0) (pv 1))), ?_⟩
  clear nd hr
  replace h := sp2_of h
  obtain ⟨v_self, v_part, rfl, h⟩ := h

  obtain ⟨a, rfl, ha, k⟩ := h
  exact ⟨_, rfl, _, rfl, a, A.c_BadNumber, rfl, T.oex_BadNumber, T.nx_BadNumber_part, .inl ⟨ha, fun dx h n => k dx h n⟩⟩
theorem ok_TooMany___init__ (T : Txt K mg A) : FnOk P w K mg base CX0 1 A.f_TooMany___init__ A.d_TooMany___init__ ["self", "most"] (sp_TooMany___init__ K A) := by
  refine T.F_TooMany___init__.ok sc_TooMany___init__ (fun vs H Q E h => sp2_len h) (fun cdv A0 outer s H vs Q E hr h => ?_)
  have nd := sc_TooMany___init__.nd
  refine ⟨_, (pss_one (ps_ost (pv 0) (pv 1))), ?_⟩
  clear nd hr
  replace h := sp2_of h
  obtain ⟨v_self, v_most, rfl, h⟩ := h

  obtain ⟨a, rfl, ha, k⟩ := h
  exact ⟨_, rfl, _, rfl, a, A.c_TooMany, rfl, T.oex_TooMany, T.nx_TooMany_most, .inl ⟨ha, fun dx h n => k dx h n⟩⟩
theorem ok_NoStep___init__ (T : Txt K mg A) : FnOk P w K mg base CX0 1 A.f_NoStep___init__ A.d_NoStep___init__ ["self", "reason"] (sp_NoStep___init__ K A) := by
  refine T.F_NoStep___init__.ok sc_NoStep___init__ (fun vs H Q E h => sp2_len h) (fun cdv A0 outer s H vs Q E hr h => ?_)
  have nd := sc_NoStep___init__.nd
  refine ⟨_, (pss_one (ps_ost (pv 0) (pv 1))), ?_⟩
  clear nd hr
  replace h := sp2_of h
  obtain ⟨v_self, v_reason, rfl, h⟩ := h

  obtain ⟨a, rfl, ha, k⟩ := h
  exact ⟨_, rfl, _, rfl, a, A.c_NoStep, rfl, T.oex_NoStep, T.nx_NoStep_reason, .inl ⟨ha, fun dx h n => k dx h n⟩⟩
theorem ok_NoRoom___init__ (T : Txt K mg A) : FnOk P w K mg base CX0 1 A.f_NoRoom___init__ A.d_NoRoom___init__ ["self", "path"] (sp_NoRoom___init__ K A) := by
  refine T.F_NoRoom___init__.ok sc_NoRoom___init__ (fun vs H Q E h => sp2_len h) (fun cdv A0 outer s H vs Q E hr h => ?_)
  have nd := sc_NoRoom___init__.nd
  refine ⟨_, (pss_one (ps_ost (pv 0) (pv 1))), ?_⟩
  clear nd hr
  replace h := sp2_of h
  obtain ⟨v_self, v_path, rfl, h⟩ := h

  obtain ⟨a, rfl, ha, k⟩ := h
  exact ⟨_, rfl, _, rfl, a, A.c_NoRoom, rfl, T.oex_NoRoom, T.nx_NoRoom_path, .inl ⟨ha, fun dx h n => k dx h n⟩⟩
theorem ok_Broken___init__ (T : Txt K mg A) : FnOk P w K mg base CX0 1 A.f_Broken___init__ A.d_Broken___init__ ["self", "at", "word"] (sp_Broken___init__ K A) := by
  refine T.F_Broken___init__.ok sc_Broken___init__ (fun vs H Q E h => sp3_len h) (fun cdv A0 outer s H vs Q E hr h => ?_)
  have nd := sc_Broken___init__.nd
  refine ⟨_, (pss_cons (ps_ost (pv 0) (pv 1))
      (pss_one (ps_ost (pv 0) (pv 2)))), ?_⟩
  clear nd hr
  replace h := sp3_of h
  obtain ⟨v_self, v_at, v_word, rfl, h⟩ := h

  obtain ⟨a, rfl, ha, k⟩ := h
  exact ⟨_, rfl, _, rfl, a, A.c_Broken, rfl, T.oex_Broken, T.nx_Broken_at, .inl ⟨ha, fun dx h n => ⟨_, rfl, _, rfl, a, A.c_Broken, rfl, T.oex_Broken, T.nx_Broken_word, .inr ⟨dx, _, upd_same, by rw [upd_ne n, upd_same], (by show 1 ≤ 900; decide), k dx h n⟩⟩⟩⟩
theorem ok_BadText___init__ (T : Txt K mg A) : FnOk P w K mg base CX0 1 A.f_BadText___init__ A.d_BadText___init__ ["self", "line"] (sp_BadText___init__ K A) := by
  refine T.F_BadText___init__.ok sc_BadText___init__ (fun vs H Q E h => sp2_len h) (fun cdv A0 outer s H vs Q E hr h => ?_)
  have nd := sc_BadText___init__.nd
  refine ⟨_, (pss_one (ps_ost (pv 0) (pv 1))), ?_⟩
  clear nd hr
  replace h := sp2_of h
  obtain ⟨v_self, v_line, rfl, h⟩ := h

  obtain ⟨a, rfl, ha, k⟩ := h
  exact ⟨_, rfl, _, rfl, a, A.c_BadText, rfl, T.oex_BadText, T.nx_BadText_line, .inl ⟨ha, fun dx h n => k dx h n⟩⟩
theorem ok_NoName___init__ (T : Txt K mg A) : FnOk P w K mg base CX0 1 A.f_NoName___init__ A.d_NoName___init__ ["self", "name"] (sp_NoName___init__ K A) := by
  refine T.F_NoName___init__.ok sc_NoName___init__ (fun vs H Q E h => sp2_len h) (fun cdv A0 outer s H vs Q E hr h => ?_)
  have nd := sc_NoName___init__.nd
  refine ⟨_, (pss_one (ps_ost (pv 0) (pv 1))), ?_⟩
  clear nd hr
  replace h := sp2_of h
  obtain ⟨v_self, v_name, rfl, h⟩ := h

  obtain ⟨a, rfl, ha, k⟩ := h
  exact ⟨_, rfl, _, rfl, a, A.c_NoName, rfl, T.oex_NoName, T.nx_NoName_name, .inl ⟨ha, fun dx h n => k dx h n⟩⟩
theorem ok__law_is_int (T : Txt K mg A) : FnOk P w K mg base CX0 1 A.f__law_is_int A.d__law_is_int ["told"] (sp__law_is_int K A) := by
  refine T.F__law_is_int.ok sc__law_is_int (fun vs H Q E h => sp1_len h) (fun cdv A0 outer s H vs Q E hr h => ?_)
  have nd := sc__law_is_int.nd
  refine ⟨_, (pss_one (ps_ret (pe_and (pe_callB call_isi (by rfl) T.b_isinstance (by decide +kernel) (pa_cons (pv 0) (pa_cons (pe_bltn (v := .ty "int") (by rfl) T.b_int (by decide +kernel) rfl) pa_nil))) (pe_one (pe_not (pe_callB call_isi (by rfl) T.b_isinstance (by decide +kernel) (pa_cons (pv 0) (pa_cons (pe_bltn (v := .ty "bool") (by rfl) T.b_bool (by decide +kernel) rfl) pa_nil)))))))), ?_⟩
  clear nd hr
  replace h := sp1_of h
  obtain ⟨v_told, rfl, h⟩ := h

  obtain ⟨t, hv, k⟩ := h
  rw [isI_of hv] at k
  refine ⟨_, rfl, _, _, _, _, _, rfl, .ty _, hv.tyx, kit_isa hv.tag (by decide), _, rfl, iteB (fun h1 => ?_) (fun h1 => ?_)⟩
  · refine ⟨_, rfl, _, _, _, _, _, rfl, .ty _, hv.tyx, kit_isa hv.tag (by decide), _, rfl, ?_⟩
    rw [h1, Bool.true_and] at k
    exact k
  · rw [h1, Bool.false_and] at k
    exact k
theorem ok__law_same0 (T : Txt K mg A) : FnOk P w K mg base CX0 2 A.f__law_same A.d__law_same ["told", "due"] (sp__law_same0 K A) := by
  refine T.F__law_same.ok sc__law_same (fun vs H Q E h => sp2_len h) (fun cdv A0 outer s H vs Q E hr h => ?_)
  have nd := sc__law_same.nd
  refine ⟨_, (pss_cons (ps_if (pt_cmpR op_isN (pv 1) pe_non (nomark _)) (pss_one (ps_ret (pe_cmpR op_isN (pv 0) pe_non (nomark _)))) pss_nil)
      (pss_cons (ps_if (pt_val (pe_callB call_isi (by rfl) T.b_isinstance (by decide +kernel) (pa_cons (pv 1) (pa_cons (pe_bltn (v := .ty "bool") (by rfl) T.b_bool (by decide +kernel) rfl) pa_nil)))) (pss_one (ps_ret (pe_and (pe_callB call_isi (by rfl) T.b_isinstance (by decide +kernel) (pa_cons (pv 0) (pa_cons (pe_bltn (v := .ty "bool") (by rfl) T.b_bool (by decide +kernel) rfl) pa_nil))) (pe_one (pe_cmpR op_eq (pv 0) (pv 1) (nomark _)))))) pss_nil)
      (pss_cons (ps_if (pt_val (pe_callB call_isi (by rfl) T.b_isinstance (by decide +kernel) (pa_cons (pv 1) (pa_cons (pe_bltn (v := .ty "int") (by rfl) T.b_int (by decide +kernel) rfl) pa_nil)))) (pss_one (ps_ret (pe_and (pe_call (ok__law_is_int T) (hr.mono (by decide)) (by rfl) T.mg__law_is_int T.k__law_is_int T.b__law_is_int .nil pass0 (pa_cons (pv 0) pa_nil)) (pe_one (pe_cmpR op_eq (pv 0) (pv 1) (nomark _)))))) pss_nil)
      (pss_cons (ps_if (pt_val (pe_callB call_isi (by rfl) T.b_isinstance (by decide +kernel) (pa_cons (pv 1) (pa_cons (pe_bltn (v := .ty "str") (by rfl) T.b_str (by decide +kernel) rfl) pa_nil)))) (pss_one (ps_ret (pe_and (pe_callB call_isi (by rfl) T.b_isinstance (by decide +kernel) (pa_cons (pv 0) (pa_cons (pe_bltn (v := .ty "str") (by rfl) T.b_str (by decide +kernel) rfl) pa_nil))) (pe_one (pe_cmpR op_eq (pv 0) (pv 1) (nomark _)))))) pss_nil)
      pss_never)))), ?_⟩
  clear nd hr
  replace h := sp2_of h
  obtain ⟨v_told, v_due, rfl, h⟩ := h

  obtain ⟨⟨rfl, ha⟩, k⟩ := h
  cases v_told with
  | non => exact ⟨_, rfl, rfl, _, rfl, iteB (fun _ => ⟨_, rfl, rfl, k⟩) (fun z => nomatch z)⟩
  | bl b =>
    have hv : VT K H (.bl b) (.type "bool") := .bl b
    refine ⟨_, rfl, rfl, _, rfl, iteB (fun z => nomatch z) (fun _ => ?_)⟩
    refine ⟨_, rfl, _, _, _, _, _, rfl, .ty _, hv.tyx, kit_isa hv.tag (by decide), _, rfl, iteB (fun _ => ⟨_, rfl, _, _, _, _, _, rfl, .ty _, hv.tyx, kit_isa hv.tag (by decide), _, rfl, iteB (fun _ => ⟨_, rfl, _, rfl, rfl, by rw [decide_eq_true rfl]; exact k⟩) (fun z => absurd z (by decide))⟩) (fun z => absurd z (by decide))⟩
  | int i =>
    have hv : VT K H (.int i) (.type "int") := .int i
    refine ⟨_, rfl, rfl, _, rfl, iteB (fun z => nomatch z) (fun _ => ?_)⟩
    refine ⟨_, rfl, _, _, _, _, _, rfl, .ty _, hv.tyx, kit_isa hv.tag (by decide), _, rfl, iteB (fun z => absurd z (by decide)) (fun _ => ?_)⟩
    refine ⟨_, rfl, _, _, _, _, _, rfl, .ty _, hv.tyx, kit_isa hv.tag (by decide), _, rfl, iteB (fun _ => ⟨_, rfl, _, rfl, _, hv, _, rfl, iteB (fun _ => ⟨_, rfl, _, rfl, rfl, by rw [decide_eq_true rfl]; exact k⟩) (fun z => nomatch z)⟩) (fun z => absurd z (by decide))⟩
  | str x =>
    have hv : VT K H (.str x) (.type "str") := .str x
    refine ⟨_, rfl, rfl, _, rfl, iteB (fun z => nomatch z) (fun _ => ?_)⟩
    refine ⟨_, rfl, _, _, _, _, _, rfl, .ty _, hv.tyx, kit_isa hv.tag (by decide), _, rfl, iteB (fun z => absurd z (by decide)) (fun _ => ?_)⟩
    refine ⟨_, rfl, _, _, _, _, _, rfl, .ty _, hv.tyx, kit_isa hv.tag (by decide), _, rfl, iteB (fun z => absurd z (by decide)) (fun _ => ?_)⟩
    refine ⟨_, rfl, _, _, _, _, _, rfl, .ty _, hv.tyx, kit_isa hv.tag (by decide), _, rfl, iteB (fun _ => ⟨_, rfl, _, _, _, _, _, rfl, .ty _, hv.tyx, kit_isa hv.tag (by decide), _, rfl, iteB (fun _ => ⟨_, rfl, _, rfl, rfl, by rw [decide_eq_true rfl]; exact k⟩) (fun z => absurd z (by decide))⟩) (fun z => absurd z (by decide))⟩
  | _ => exact ha.elim
theorem ok__law_same1 (T : Txt K mg A) : FnOk P w K mg base CX0 3 A.f__law_same A.d__law_same ["told", "due"] (sp__law_same1 K A) := by
  refine T.F__law_same.ok sc__law_same (fun vs H Q E h => sp2_len h) (fun cdv A0 outer s H vs Q E hr h => ?_)
  have nd := sc__law_same.nd
  refine ⟨_, (pss_cons (ps_if (pt_cmpR op_isN (pv 1) pe_non (nomark _)) (pss_one (ps_ret (pe_cmpR op_isN (pv 0) pe_non (nomark _)))) pss_nil)
      (pss_cons (ps_if (pt_val (pe_callB call_isi (by rfl) T.b_isinstance (by decide +kernel) (pa_cons (pv 1) (pa_cons (pe_bltn (v := .ty "bool") (by rfl) T.b_bool (by decide +kernel) rfl) pa_nil)))) (pss_one (ps_ret (pe_and (pe_callB call_isi (by rfl) T.b_isinstance (by decide +kernel) (pa_cons (pv 0) (pa_cons (pe_bltn (v := .ty "bool") (by rfl) T.b_bool (by decide +kernel) rfl) pa_nil))) (pe_one (pe_cmpR op_eq (pv 0) (pv 1) (nomark _)))))) pss_nil)
      (pss_cons (ps_if (pt_val (pe_callB call_isi (by rfl) T.b_isinstance (by decide +kernel) (pa_cons (pv 1) (pa_cons (pe_bltn (v := .ty "int") (by rfl) T.b_int (by decide +kernel) rfl) pa_nil)))) (pss_one (ps_ret (pe_and (pe_call (ok__law_is_int T) (hr.mono (by decide)) (by rfl) T.mg__law_is_int T.k__law_is_int T.b__law_is_int .nil pass0 (pa_cons (pv 0) pa_nil)) (pe_one (pe_cmpR op_eq (pv 0) (pv 1) (nomark _)))))) pss_nil)
      (pss_cons (ps_if (pt_val (pe_callB call_isi (by rfl) T.b_isinstance (by decide +kernel) (pa_cons (pv 1) (pa_cons (pe_bltn (v := .ty "str") (by rfl) T.b_str (by decide +kernel) rfl) pa_nil)))) (pss_one (ps_ret (pe_and (pe_callB call_isi (by rfl) T.b_isinstance (by decide +kernel) (pa_cons (pv 0) (pa_cons (pe_bltn (v := .ty "str") (by rfl) T.b_str (by decide +kernel) rfl) pa_nil))) (pe_one (pe_cmpR op_eq (pv 0) (pv 1) (nomark _)))))) pss_nil)
      (pss_cons (ps_if (pt_val (pe_callB call_isi (by rfl) T.b_isinstance (by decide +kernel) (pa_cons (pv 1) (pa_cons (pe_bltn (v := .ty "dict") (by rfl) T.b_dict (by decide +kernel) rfl) pa_nil)))) (pss_one ps_never) pss_nil)
      (pss_cons (ps_if (PW.pt (pw_and (pt_val (pe_callB call_isi (by rfl) T.b_isinstance (by decide +kernel) (pa_cons (pv 1) (pa_cons (pe_bltn (v := .ty "list") (by rfl) T.b_list (by decide +kernel) rfl) pa_nil)))) (pw_and1 (pt_not (pt_val (pe_callB call_isi (by rfl) T.b_isinstance (by decide +kernel) (pa_cons (pv 0) (pa_cons (pe_bltn (v := .ty "list") (by rfl) T.b_list (by decide +kernel) rfl) pa_nil)))))))) (pss_one (ps_ret pe_bl)) pss_nil)
      (pss_cons (ps_if (PW.pt (pw_and (pt_val (pe_callB call_isi (by rfl) T.b_isinstance (by decide +kernel) (pa_cons (pv 1) (pa_cons (pe_bltn (v := .ty "tuple") (by rfl) T.b_tuple (by decide +kernel) rfl) pa_nil)))) (pw_and1 (pt_not (pt_val (pe_callB call_isi (by rfl) T.b_isinstance (by decide +kernel) (pa_cons (pv 0) (pa_cons (pe_bltn (v := .ty "tuple") (by rfl) T.b_tuple (by decide +kernel) rfl) pa_nil)))))))) (pss_one (ps_ret pe_bl)) pss_nil)
      (pss_cons (ps_if (pt_cmpR op_ne (pe_callB call_len (by rfl) T.b_len (by decide +kernel) (pa_cons (pv 0) pa_nil)) (pe_callB call_len (by rfl) T.b_len (by decide +kernel) (pa_cons (pv 1) pa_nil)) (nomark _)) (pss_one (ps_ret pe_bl)) pss_nil)
      (pss_cons (ps_for PassesOwn.never rfl (pi_range1 (by rfl) T.b_range (pa_cons (pe_callB call_len (by rfl) T.b_len (by decide +kernel) (pa_cons (pv 1) pa_nil)) pa_nil)) (pg_name (i := 2) nd rfl (by first | exact Or.inl rfl | exact Or.inr rfl)) (pss_one (ps_if (pt_not (pt_val (pe_call (ok__law_same0 T) (hr.mono (by decide)) (by rfl) T.mg__law_same T.k__law_same T.b__law_same .nil pass0 (pa_cons (pe_ix ix_seq (pv 0) (pv 2) (fun _ _ => rfl)) (pa_cons (pe_ix ix_seq (pv 1) (pv 2) (fun _ _ => rfl)) pa_nil))))) (pss_one (ps_ret pe_bl)) pss_nil)))
      (pss_one (ps_ret pe_bl))))))))))), ?_⟩
  clear nd hr
  replace h := sp2_of h
  obtain ⟨v_told, v_due, rfl, h⟩ := h

  obtain ⟨hsa, k⟩ := h
  rcases hsa with ⟨rfl, ha⟩ | ⟨p, q, xs, ys, rfl, rfl, hl, ha, hpq⟩
  · cases v_told with
    | non => exact ⟨_, rfl, rfl, _, rfl, iteB (fun _ => ⟨_, rfl, rfl, k⟩) (fun z => nomatch z)⟩
    | bl b =>
      have hv : VT K H (.bl b) (.type "bool") := .bl b
      refine ⟨_, rfl, rfl, _, rfl, iteB (fun z => nomatch z) (fun _ => ?_)⟩
      refine ⟨_, rfl, _, _, _, _, _, rfl, .ty _, hv.tyx, kit_isa hv.tag (by decide), _, rfl, iteB (fun _ => ⟨_, rfl, _, _, _, _, _, rfl, .ty _, hv.tyx, kit_isa hv.tag (by decide), _, rfl, iteB (fun _ => ⟨_, rfl, _, rfl, rfl, by rw [decide_eq_true rfl]; exact k⟩) (fun z => absurd z (by decide))⟩) (fun z => absurd z (by decide))⟩
    | int i =>
      have hv : VT K H (.int i) (.type "int") := .int i
      refine ⟨_, rfl, rfl, _, rfl, iteB (fun z => nomatch z) (fun _ => ?_)⟩
      refine ⟨_, rfl, _, _, _, _, _, rfl, .ty _, hv.tyx, kit_isa hv.tag (by decide), _, rfl, iteB (fun z => absurd z (by decide)) (fun _ => ?_)⟩
      refine ⟨_, rfl, _, _, _, _, _, rfl, .ty _, hv.tyx, kit_isa hv.tag (by decide), _, rfl, iteB (fun _ => ⟨_, rfl, _, rfl, _, hv, _, rfl, iteB (fun _ => ⟨_, rfl, _, rfl, rfl, by rw [decide_eq_true rfl]; exact k⟩) (fun z => nomatch z)⟩) (fun z => absurd z (by decide))⟩
    | str x =>
      have hv : VT K H (.str x) (.type "str") := .str x
      refine ⟨_, rfl, rfl, _, rfl, iteB (fun z => nomatch z) (fun _ => ?_)⟩
      refine ⟨_, rfl, _, _, _, _, _, rfl, .ty _, hv.tyx, kit_isa hv.tag (by decide), _, rfl, iteB (fun z => absurd z (by decide)) (fun _ => ?_)⟩
      refine ⟨_, rfl, _, _, _, _, _, rfl, .ty _, hv.tyx, kit_isa hv.tag (by decide), _, rfl, iteB (fun z => absurd z (by decide)) (fun _ => ?_)⟩
      refine ⟨_, rfl, _, _, _, _, _, rfl, .ty _, hv.tyx, kit_isa hv.tag (by decide), _, rfl, iteB (fun _ => ⟨_, rfl, _, _, _, _, _, rfl, .ty _, hv.tyx, kit_isa hv.tag (by decide), _, rfl, iteB (fun _ => ⟨_, rfl, _, rfl, rfl, by rw [decide_eq_true rfl]; exact k⟩) (fun z => absurd z (by decide))⟩) (fun z => absurd z (by decide))⟩
    | _ => exact ha.elim

  · have hlen := pair_lens ha
    rcases hpq with ⟨hp, hq0⟩ | ⟨hp, hq0⟩
    · have hq : VT K H (.ref q) (.type "list") := .lst hq0
      have hpt : VT K H (.ref p) (.type "list") := .lst hp
      refine ⟨_, rfl, rfl, _, rfl, iteB (fun z => nomatch z) (fun _ => ?_)⟩
      refine ⟨_, rfl, _, _, _, _, _, rfl, .ty _, hq.tyx, kit_isa hq.tag (by decide), _, rfl, iteB (fun z => absurd z (by decide)) (fun _ => ?_)⟩
      refine ⟨_, rfl, _, _, _, _, _, rfl, .ty _, hq.tyx, kit_isa hq.tag (by decide), _, rfl, iteB (fun z => absurd z (by decide)) (fun _ => ?_)⟩
      refine ⟨_, rfl, _, _, _, _, _, rfl, .ty _, hq.tyx, kit_isa hq.tag (by decide), _, rfl, iteB (fun z => absurd z (by decide)) (fun _ => ?_)⟩
      refine ⟨_, rfl, _, _, _, _, _, rfl, .ty _, hq.tyx, kit_isa hq.tag (by decide), _, rfl, iteB (fun z => absurd z (by decide)) (fun _ => ?_)⟩
      refine ⟨_, rfl, _, _, _, _, _, rfl, .ty _, hq.tyx, kit_isa hq.tag (by decide), _, rfl, iteB (fun _ => ⟨_, rfl, _, _, _, _, _, rfl, .ty _, hpt.tyx, kit_isa hpt.tag (by decide), _, rfl, iteB (fun z => absurd z (by decide)) (fun _ => ?_)⟩) (fun z => absurd z (by decide))⟩
      refine ⟨_, rfl, _, _, _, _, _, rfl, .ty _, hq.tyx, kit_isa hq.tag (by decide), _, rfl, iteB (fun z => absurd z (by decide)) (fun _ => iteF ?_)⟩
      refine ⟨_, rfl, _, _, rfl, .inl ⟨_, SqL.of hp, rfl⟩, _, rfl, _, _, rfl, .inl ⟨_, SqL.of hq0, rfl⟩, rfl, _, rfl, iteB (fun z => ?_) (fun _ => ?_)⟩
      · rw [hlen, decide_eq_true rfl] at z
        cases z
      refine ⟨_, rfl, _, _, rfl, .inl ⟨_, SqL.of hq0, rfl⟩, ys.length, rfl, by omega, by omega, for_range (n := ys.length) (fun i σ' H' => ∃ kv : Option V, σ' = [some (.ref p), some (.ref q), kv] ∧ H' = H) ⟨_, rfl, rfl⟩ ?_ ?_⟩
      · rintro i σ' H' hi ⟨kv, rfl, rfl⟩
        have hix : i < xs.length := by omega
        have hat : atI xs (i : Int) = some xs[i] := atI_nat (by simp [hix])
        have hatq : atI ys (i : Int) = some ys[i] := atI_nat (by simp [hi])
        refine ⟨_, rfl, _, rfl, .inl ⟨_, _, _, _, rfl, rfl, SqL.of hp, (by rw [Int.zero_add]; exact hat), _, rfl, _, rfl, .inl ⟨_, _, _, _, rfl, rfl, SqL.of hq0, (by rw [Int.zero_add]; exact hatq), _, _, rfl, pair_get ha hix hi, _, rfl, iteB (fun z => nomatch z) (fun _ => ⟨_, rfl, rfl⟩)⟩⟩⟩
      · rintro σ' H' ⟨kv, rfl, rfl⟩
        exact k
    · have hq : VT K H (.ref q) (.type "tuple") := .tup hq0
      have hpt : VT K H (.ref p) (.type "tuple") := .tup hp
      refine ⟨_, rfl, rfl, _, rfl, iteB (fun z => nomatch z) (fun _ => ?_)⟩
      refine ⟨_, rfl, _, _, _, _, _, rfl, .ty _, hq.tyx, kit_isa hq.tag (by decide), _, rfl, iteB (fun z => absurd z (by decide)) (fun _ => ?_)⟩
      refine ⟨_, rfl, _, _, _, _, _, rfl, .ty _, hq.tyx, kit_isa hq.tag (by decide), _, rfl, iteB (fun z => absurd z (by decide)) (fun _ => ?_)⟩
      refine ⟨_, rfl, _, _, _, _, _, rfl, .ty _, hq.tyx, kit_isa hq.tag (by decide), _, rfl, iteB (fun z => absurd z (by decide)) (fun _ => ?_)⟩
      refine ⟨_, rfl, _, _, _, _, _, rfl, .ty _, hq.tyx, kit_isa hq.tag (by decide), _, rfl, iteB (fun z => absurd z (by decide)) (fun _ => ?_)⟩
      refine ⟨_, rfl, _, _, _, _, _, rfl, .ty _, hq.tyx, kit_isa hq.tag (by decide), _, rfl, iteB (fun z => absurd z (by decide)) (fun _ => iteF ?_)⟩
      refine ⟨_, rfl, _, _, _, _, _, rfl, .ty _, hq.tyx, kit_isa hq.tag (by decide), _, rfl, iteB (fun _ => ⟨_, rfl, _, _, _, _, _, rfl, .ty _, hpt.tyx, kit_isa hpt.tag (by decide), _, rfl, iteB (fun z => absurd z (by decide)) (fun _ => ?_)⟩) (fun z => absurd z (by decide))⟩
      refine ⟨_, rfl, _, _, rfl, .inr ⟨_, SqT.of hp, rfl⟩, _, rfl, _, _, rfl, .inr ⟨_, SqT.of hq0, rfl⟩, rfl, _, rfl, iteB (fun z => ?_) (fun _ => ?_)⟩
      · rw [hlen, decide_eq_true rfl] at z
        cases z
      refine ⟨_, rfl, _, _, rfl, .inr ⟨_, SqT.of hq0, rfl⟩, ys.length, rfl, by omega, by omega, for_range (n := ys.length) (fun i σ' H' => ∃ kv : Option V, σ' = [some (.ref p), some (.ref q), kv] ∧ H' = H) ⟨_, rfl, rfl⟩ ?_ ?_⟩
      · rintro i σ' H' hi ⟨kv, rfl, rfl⟩
        have hix : i < xs.length := by omega
        have hat : atI xs (i : Int) = some xs[i] := atI_nat (by simp [hix])
        have hatq : atI ys (i : Int) = some ys[i] := atI_nat (by simp [hi])
        refine ⟨_, rfl, _, rfl, .inr (.inl ⟨_, _, _, _, rfl, rfl, SqT.of hp, (by rw [Int.zero_add]; exact hat), _, rfl, _, rfl, .inr (.inl ⟨_, _, _, _, rfl, rfl, SqT.of hq0, (by rw [Int.zero_add]; exact hatq), _, _, rfl, pair_get ha hix hi, _, rfl, iteB (fun z => nomatch z) (fun _ => ⟨_, rfl, rfl⟩)⟩)⟩)⟩
      · rintro σ' H' ⟨kv, rfl, rfl⟩
        exact k
theorem ok__law_same2 (T : Txt K mg A) : FnOk P w K mg base CX0 4 A.f__law_same A.d__law_same ["told", "due"] (sp__law_same2 K A) := by
  refine T.F__law_same.ok sc__law_same (fun vs H Q E h => sp2_len h) (fun cdv A0 outer s H vs Q E hr h => ?_)
  have nd := sc__law_same.nd
  refine ⟨_, (pss_cons (ps_if (pt_cmpR op_isN (pv 1) pe_non (nomark _)) (pss_one (ps_ret (pe_cmpR op_isN (pv 0) pe_non (nomark _)))) pss_nil)
      (pss_cons (ps_if (pt_val (pe_callB call_isi (by rfl) T.b_isinstance (by decide +kernel) (pa_cons (pv 1) (pa_cons (pe_bltn (v := .ty "bool") (by rfl) T.b_bool (by decide +kernel) rfl) pa_nil)))) (pss_one (ps_ret (pe_and (pe_callB call_isi (by rfl) T.b_isinstance (by decide +kernel) (pa_cons (pv 0) (pa_cons (pe_bltn (v := .ty "bool") (by rfl) T.b_bool (by decide +kernel) rfl) pa_nil))) (pe_one (pe_cmpR op_eq (pv 0) (pv 1) (nomark _)))))) pss_nil)
      (pss_cons (ps_if (pt_val (pe_callB call_isi (by rfl) T.b_isinstance (by decide +kernel) (pa_cons (pv 1) (pa_cons (pe_bltn (v := .ty "int") (by rfl) T.b_int (by decide +kernel) rfl) pa_nil)))) (pss_one (ps_ret (pe_and (pe_call (ok__law_is_int T) (hr.mono (by decide)) (by rfl) T.mg__law_is_int T.k__law_is_int T.b__law_is_int .nil pass0 (pa_cons (pv 0) pa_nil)) (pe_one (pe_cmpR op_eq (pv 0) (pv 1) (nomark _)))))) pss_nil)
      (pss_cons (ps_if (pt_val (pe_callB call_isi (by rfl) T.b_isinstance (by decide +kernel) (pa_cons (pv 1) (pa_cons (pe_bltn (v := .ty "str") (by rfl) T.b_str (by decide +kernel) rfl) pa_nil)))) (pss_one (ps_ret (pe_and (pe_callB call_isi (by rfl) T.b_isinstance (by decide +kernel) (pa_cons (pv 0) (pa_cons (pe_bltn (v := .ty "str") (by rfl) T.b_str (by decide +kernel) rfl) pa_nil))) (pe_one (pe_cmpR op_eq (pv 0) (pv 1) (nomark _)))))) pss_nil)
      (pss_cons (ps_if (pt_val (pe_callB call_isi (by rfl) T.b_isinstance (by decide +kernel) (pa_cons (pv 1) (pa_cons (pe_bltn (v := .ty "dict") (by rfl) T.b_dict (by decide +kernel) rfl) pa_nil)))) (pss_one ps_never) pss_nil)
      (pss_cons (ps_if (PW.pt (pw_and (pt_val (pe_callB call_isi (by rfl) T.b_isinstance (by decide +kernel) (pa_cons (pv 1) (pa_cons (pe_bltn (v := .ty "list") (by rfl) T.b_list (by decide +kernel) rfl) pa_nil)))) (pw_and1 (pt_not (pt_val (pe_callB call_isi (by rfl) T.b_isinstance (by decide +kernel) (pa_cons (pv 0) (pa_cons (pe_bltn (v := .ty "list") (by rfl) T.b_list (by decide +kernel) rfl) pa_nil)))))))) (pss_one (ps_ret pe_bl)) pss_nil)
      (pss_cons (ps_if (PW.pt (pw_and (pt_val (pe_callB call_isi (by rfl) T.b_isinstance (by decide +kernel) (pa_cons (pv 1) (pa_cons (pe_bltn (v := .ty "tuple") (by rfl) T.b_tuple (by decide +kernel) rfl) pa_nil)))) (pw_and1 (pt_not (pt_val (pe_callB call_isi (by rfl) T.b_isinstance (by decide +kernel) (pa_cons (pv 0) (pa_cons (pe_bltn (v := .ty "tuple") (by rfl) T.b_tuple (by decide +kernel) rfl) pa_nil)))))))) (pss_one (ps_ret pe_bl)) pss_nil)
      (pss_cons (ps_if (pt_cmpR op_ne (pe_callB call_len (by rfl) T.b_len (by decide +kernel) (pa_cons (pv 0) pa_nil)) (pe_callB call_len (by rfl) T.b_len (by decide +kernel) (pa_cons (pv 1) pa_nil)) (nomark _)) (pss_one (ps_ret pe_bl)) pss_nil)
      (pss_cons (ps_for PassesOwn.never rfl (pi_range1 (by rfl) T.b_range (pa_cons (pe_callB call_len (by rfl) T.b_len (by decide +kernel) (pa_cons (pv 1) pa_nil)) pa_nil)) (pg_name (i := 2) nd rfl (by first | exact Or.inl rfl | exact Or.inr rfl)) (pss_one (ps_if (pt_not (pt_val (pe_call (ok__law_same1 T) (hr.mono (by decide)) (by rfl) T.mg__law_same T.k__law_same T.b__law_same .nil pass0 (pa_cons (pe_ix ix_seq (pv 0) (pv 2) (fun _ _ => rfl)) (pa_cons (pe_ix ix_seq (pv 1) (pv 2) (fun _ _ => rfl)) pa_nil))))) (pss_one (ps_ret pe_bl)) pss_nil)))
      (pss_one (ps_ret pe_bl))))))))))), ?_⟩
  clear nd hr
  replace h := sp2_of h
  obtain ⟨v_told, v_due, rfl, h⟩ := h

  obtain ⟨hsa, k⟩ := h
  rcases hsa with ⟨rfl, ha⟩ | ⟨p, q, xs, ys, rfl, rfl, hl, ha, hpq⟩
  · cases v_told with
    | non => exact ⟨_, rfl, rfl, _, rfl, iteB (fun _ => ⟨_, rfl, rfl, k⟩) (fun z => nomatch z)⟩
    | bl b =>
      have hv : VT K H (.bl b) (.type "bool") := .bl b
      refine ⟨_, rfl, rfl, _, rfl, iteB (fun z => nomatch z) (fun _ => ?_)⟩
      refine ⟨_, rfl, _, _, _, _, _, rfl, .ty _, hv.tyx, kit_isa hv.tag (by decide), _, rfl, iteB (fun _ => ⟨_, rfl, _, _, _, _, _, rfl, .ty _, hv.tyx, kit_isa hv.tag (by decide), _, rfl, iteB (fun _ => ⟨_, rfl, _, rfl, rfl, by rw [decide_eq_true rfl]; exact k⟩) (fun z => absurd z (by decide))⟩) (fun z => absurd z (by decide))⟩
    | int i =>
      have hv : VT K H (.int i) (.type "int") := .int i
      refine ⟨_, rfl, rfl, _, rfl, iteB (fun z => nomatch z) (fun _ => ?_)⟩
      refine ⟨_, rfl, _, _, _, _, _, rfl, .ty _, hv.tyx, kit_isa hv.tag (by decide), _, rfl, iteB (fun z => absurd z (by decide)) (fun _ => ?_)⟩
      refine ⟨_, rfl, _, _, _, _, _, rfl, .ty _, hv.tyx, kit_isa hv.tag (by decide), _, rfl, iteB (fun _ => ⟨_, rfl, _, rfl, _, hv, _, rfl, iteB (fun _ => ⟨_, rfl, _, rfl, rfl, by rw [decide_eq_true rfl]; exact k⟩) (fun z => nomatch z)⟩) (fun z => absurd z (by decide))⟩
    | str x =>
      have hv : VT K H (.str x) (.type "str") := .str x
      refine ⟨_, rfl, rfl, _, rfl, iteB (fun z => nomatch z) (fun _ => ?_)⟩
      refine ⟨_, rfl, _, _, _, _, _, rfl, .ty _, hv.tyx, kit_isa hv.tag (by decide), _, rfl, iteB (fun z => absurd z (by decide)) (fun _ => ?_)⟩
      refine ⟨_, rfl, _, _, _, _, _, rfl, .ty _, hv.tyx, kit_isa hv.tag (by decide), _, rfl, iteB (fun z => absurd z (by decide)) (fun _ => ?_)⟩
      refine ⟨_, rfl, _, _, _, _, _, rfl, .ty _, hv.tyx, kit_isa hv.tag (by decide), _, rfl, iteB (fun _ => ⟨_, rfl, _, _, _, _, _, rfl, .ty _, hv.tyx, kit_isa hv.tag (by decide), _, rfl, iteB (fun _ => ⟨_, rfl, _, rfl, rfl, by rw [decide_eq_true rfl]; exact k⟩) (fun z => absurd z (by decide))⟩) (fun z => absurd z (by decide))⟩
    | _ => exact ha.elim

  · have hlen := pair_lens ha
    rcases hpq with ⟨hp, hq0⟩ | ⟨hp, hq0⟩
    · have hq : VT K H (.ref q) (.type "list") := .lst hq0
      have hpt : VT K H (.ref p) (.type "list") := .lst hp
      refine ⟨_, rfl, rfl, _, rfl, iteB (fun z => nomatch z) (fun _ => ?_)⟩
      refine ⟨_, rfl, _, _, _, _, _, rfl, .ty _, hq.tyx, kit_isa hq.tag (by decide), _, rfl, iteB (fun z => absurd z (by decide)) (fun _ => ?_)⟩
      refine ⟨_, rfl, _, _, _, _, _, rfl, .ty _, hq.tyx, kit_isa hq.tag (by decide), _, rfl, iteB (fun z => absurd z (by decide)) (fun _ => ?_)⟩
      refine ⟨_, rfl, _, _, _, _, _, rfl, .ty _, hq.tyx, kit_isa hq.tag (by decide), _, rfl, iteB (fun z => absurd z (by decide)) (fun _ => ?_)⟩
      refine ⟨_, rfl, _, _, _, _, _, rfl, .ty _, hq.tyx, kit_isa hq.tag (by decide), _, rfl, iteB (fun z => absurd z (by decide)) (fun _ => ?_)⟩
      refine ⟨_, rfl, _, _, _, _, _, rfl, .ty _, hq.tyx, kit_isa hq.tag (by decide), _, rfl, iteB (fun _ => ⟨_, rfl, _, _, _, _, _, rfl, .ty _, hpt.tyx, kit_isa hpt.tag (by decide), _, rfl, iteB (fun z => absurd z (by decide)) (fun _ => ?_)⟩) (fun z => absurd z (by decide))⟩
      refine ⟨_, rfl, _, _, _, _, _, rfl, .ty _, hq.tyx, kit_isa hq.tag (by decide), _, rfl, iteB (fun z => absurd z (by decide)) (fun _ => iteF ?_)⟩
      refine ⟨_, rfl, _, _, rfl, .inl ⟨_, SqL.of hp, rfl⟩, _, rfl, _, _, rfl, .inl ⟨_, SqL.of hq0, rfl⟩, rfl, _, rfl, iteB (fun z => ?_) (fun _ => ?_)⟩
      · rw [hlen, decide_eq_true rfl] at z
        cases z
      refine ⟨_, rfl, _, _, rfl, .inl ⟨_, SqL.of hq0, rfl⟩, ys.length, rfl, by omega, by omega, for_range (n := ys.length) (fun i σ' H' => ∃ kv : Option V, σ' = [some (.ref p), some (.ref q), kv] ∧ H' = H) ⟨_, rfl, rfl⟩ ?_ ?_⟩
      · rintro i σ' H' hi ⟨kv, rfl, rfl⟩
        have hix : i < xs.length := by omega
        have hat : atI xs (i : Int) = some xs[i] := atI_nat (by simp [hix])
        have hatq : atI ys (i : Int) = some ys[i] := atI_nat (by simp [hi])
        refine ⟨_, rfl, _, rfl, .inl ⟨_, _, _, _, rfl, rfl, SqL.of hp, (by rw [Int.zero_add]; exact hat), _, rfl, _, rfl, .inl ⟨_, _, _, _, rfl, rfl, SqL.of hq0, (by rw [Int.zero_add]; exact hatq), _, _, rfl, pair_get ha hix hi, _, rfl, iteB (fun z => nomatch z) (fun _ => ⟨_, rfl, rfl⟩)⟩⟩⟩
      · rintro σ' H' ⟨kv, rfl, rfl⟩
        exact k
    · have hq : VT K H (.ref q) (.type "tuple") := .tup hq0
      have hpt : VT K H (.ref p) (.type "tuple") := .tup hp
      refine ⟨_, rfl, rfl, _, rfl, iteB (fun z => nomatch z) (fun _ => ?_)⟩
      refine ⟨_, rfl, _, _, _, _, _, rfl, .ty _, hq.tyx, kit_isa hq.tag (by decide), _, rfl, iteB (fun z => absurd z (by decide)) (fun _ => ?_)⟩
      refine ⟨_, rfl, _, _, _, _, _, rfl, .ty _, hq.tyx, kit_isa hq.tag (by decide), _, rfl, iteB (fun z => absurd z (by decide)) (fun _ => ?_)⟩
      refine ⟨_, rfl, _, _, _, _, _, rfl, .ty _, hq.tyx, kit_isa hq.tag (by decide), _, rfl, iteB (fun z => absurd z (by decide)) (fun _ => ?_)⟩
      refine ⟨_, rfl, _, _, _, _, _, rfl, .ty _, hq.tyx, kit_isa hq.tag (by decide), _, rfl, iteB (fun z => absurd z (by decide)) (fun _ => ?_)⟩
      refine ⟨_, rfl, _, _, _, _, _, rfl, .ty _, hq.tyx, kit_isa hq.tag (by decide), _, rfl, iteB (fun z => absurd z (by decide)) (fun _ => iteF ?_)⟩
      refine ⟨_, rfl, _, _, _, _, _, rfl, .ty _, hq.tyx, kit_isa hq.tag (by decide), _, rfl, iteB (fun _ => ⟨_, rfl, _, _, _, _, _, rfl, .ty _, hpt.tyx, kit_isa hpt.tag (by decide), _, rfl, iteB (fun z => absurd z (by decide)) (fun _ => ?_)⟩) (fun z => absurd z (by decide))⟩
      refine ⟨_, rfl, _, _, rfl, .inr ⟨_, SqT.of hp, rfl⟩, _, rfl, _, _, rfl, .inr ⟨_, SqT.of hq0, rfl⟩, rfl, _, rfl, iteB (fun z => ?_) (fun _ => ?_)⟩
      · rw [hlen, decide_eq_true rfl] at z
        cases z
      refine ⟨_, rfl, _, _, rfl, .inr ⟨_, SqT.of hq0, rfl⟩, ys.length, rfl, by omega, by omega, for_range (n := ys.length) (fun i σ' H' => ∃ kv : Option V, σ' = [some (.ref p), some (.ref q), kv] ∧ H' = H) ⟨_, rfl, rfl⟩ ?_ ?_⟩
      · rintro i σ' H' hi ⟨kv, rfl, rfl⟩
        have hix : i < xs.length := by omega
        have hat : atI xs (i : Int) = some xs[i] := atI_nat (by simp [hix])
        have hatq : atI ys (i : Int) = some ys[i] := atI_nat (by simp [hi])
        refine ⟨_, rfl, _, rfl, .inr (.inl ⟨_, _, _, _, rfl, rfl, SqT.of hp, (by rw [Int.zero_add]; exact hat), _, rfl, _, rfl, .inr (.inl ⟨_, _, _, _, rfl, rfl, SqT.of hq0, (by rw [Int.zero_add]; exact hatq), _, _, rfl, pair_get ha hix hi, _, rfl, iteB (fun z => nomatch z) (fun _ => ⟨_, rfl, rfl⟩)⟩)⟩)⟩
      · rintro σ' H' ⟨kv, rfl, rfl⟩
        exact k
theorem ok__law_same (T : Txt K mg A) : FnOk P w K mg base CX0 5 A.f__law_same A.d__law_same ["told", "due"] (sp__law_same K A) := by
  refine T.F__law_same.ok sc__law_same (fun vs H Q E h => sp2_len h) (fun cdv A0 outer s H vs Q E hr h => ?_)
  have nd := sc__law_same.nd
  refine ⟨_, (pss_cons (ps_if (pt_cmpR op_isN (pv 1) pe_non (nomark _)) (pss_one (ps_ret (pe_cmpR op_isN (pv 0) pe_non (nomark _)))) pss_nil)
      (pss_cons (ps_if (pt_val (pe_callB call_isi (by rfl) T.b_isinstance (by decide +kernel) (pa_cons (pv 1) (pa_cons (pe_bltn (v := .ty "bool") (by rfl) T.b_bool (by decide +kernel) rfl) pa_nil)))) (pss_one (ps_ret (pe_and (pe_callB call_isi (by rfl) T.b_isinstance (by decide +kernel) (pa_cons (pv 0) (pa_cons (pe_bltn (v := .ty "bool") (by rfl) T.b_bool (by decide +kernel) rfl) pa_nil))) (pe_one (pe_cmpR op_eq (pv 0) (pv 1) (nomark _)))))) pss_nil)
      (pss_cons (ps_if (pt_val (pe_callB call_isi (by rfl) T.b_isinstance (by decide +kernel) (pa_cons (pv 1) (pa_cons (pe_bltn (v := .ty "int") (by rfl) T.b_int (by decide +kernel) rfl) pa_nil)))) (pss_one (ps_ret (pe_and (pe_call (ok__law_is_int T) (hr.mono (by decide)) (by rfl) T.mg__law_is_int T.k__law_is_int T.b__law_is_int .nil pass0 (pa_cons (pv 0) pa_nil)) (pe_one (pe_cmpR op_eq (pv 0) (pv 1) (nomark _)))))) pss_nil)
      (pss_cons (ps_if (pt_val (pe_callB call_isi (by rfl) T.b_isinstance (by decide +kernel) (pa_cons (pv 1) (pa_cons (pe_bltn (v := .ty "str") (by rfl) T.b_str (by decide +kernel) rfl) pa_nil)))) (pss_one (ps_ret (pe_and (pe_callB call_isi (by rfl) T.b_isinstance (by decide +kernel) (pa_cons (pv 0) (pa_cons (pe_bltn (v := .ty "str") (by rfl) T.b_str (by decide +kernel) rfl) pa_nil))) (pe_one (pe_cmpR op_eq (pv 0) (pv 1) (nomark _)))))) pss_nil)
      (pss_cons (ps_if (pt_val (pe_callB call_isi (by rfl) T.b_isinstance (by decide +kernel) (pa_cons (pv 1) (pa_cons (pe_bltn (v := .ty "dict") (by rfl) T.b_dict (by decide +kernel) rfl) pa_nil)))) (pss_one ps_never) pss_nil)
      (pss_cons (ps_if (PW.pt (pw_and (pt_val (pe_callB call_isi (by rfl) T.b_isinstance (by decide +kernel) (pa_cons (pv 1) (pa_cons (pe_bltn (v := .ty "list") (by rfl) T.b_list (by decide +kernel) rfl) pa_nil)))) (pw_and1 (pt_not (pt_val (pe_callB call_isi (by rfl) T.b_isinstance (by decide +kernel) (pa_cons (pv 0) (pa_cons (pe_bltn (v := .ty "list") (by rfl) T.b_list (by decide +kernel) rfl) pa_nil)))))))) (pss_one (ps_ret pe_bl)) pss_nil)
      (pss_cons (ps_if (PW.pt (pw_and (pt_val (pe_callB call_isi (by rfl) T.b_isinstance (by decide +kernel) (pa_cons (pv 1) (pa_cons (pe_bltn (v := .ty "tuple") (by rfl) T.b_tuple (by decide +kernel) rfl) pa_nil)))) (pw_and1 (pt_not (pt_val (pe_callB call_isi (by rfl) T.b_isinstance (by decide +kernel) (pa_cons (pv 0) (pa_cons (pe_bltn (v := .ty "tuple") (by rfl) T.b_tuple (by decide +kernel) rfl) pa_nil)))))))) (pss_one (ps_ret pe_bl)) pss_nil)
      (pss_cons (ps_if (pt_cmpR op_ne (pe_callB call_len (by rfl) T.b_len (by decide +kernel) (pa_cons (pv 0) pa_nil)) (pe_callB call_len (by rfl) T.b_len (by decide +kernel) (pa_cons (pv 1) pa_nil)) (nomark _)) (pss_one (ps_ret pe_bl)) pss_nil)
      (pss_cons (ps_for PassesOwn.never rfl (pi_range1 (by rfl) T.b_range (pa_cons (pe_callB call_len (by rfl) T.b_len (by decide +kernel) (pa_cons (pv 1) pa_nil)) pa_nil)) (pg_name (i := 2) nd rfl (by first | exact Or.inl rfl | exact Or.inr rfl)) (pss_one (ps_if (pt_not (pt_val (pe_call (ok__law_same2 T) (hr.mono (by decide)) (by rfl) T.mg__law_same T.k__law_same T.b__law_same .nil pass0 (pa_cons (pe_ix ix_seq (pv 0) (pv 2) (fun _ _ => rfl)) (pa_cons (pe_ix ix_seq (pv 1) (pv 2) (fun _ _ => rfl)) pa_nil))))) (pss_one (ps_ret pe_bl)) pss_nil)))
      (pss_one (ps_ret pe_bl))))))))))), ?_⟩
  clear nd hr
  replace h := sp2_of h
  obtain ⟨v_told, v_due, rfl, h⟩ := h

  obtain ⟨hsa, k⟩ := h
  rcases hsa with ⟨rfl, ha⟩ | ⟨p, q, xs, ys, rfl, rfl, hl, ha, hpq⟩
  · cases v_told with
    | non => exact ⟨_, rfl, rfl, _, rfl, iteB (fun _ => ⟨_, rfl, rfl, k⟩) (fun z => nomatch z)⟩
    | bl b =>
      have hv : VT K H (.bl b) (.type "bool") := .bl b
      refine ⟨_, rfl, rfl, _, rfl, iteB (fun z => nomatch z) (fun _ => ?_)⟩
      refine ⟨_, rfl, _, _, _, _, _, rfl, .ty _, hv.tyx, kit_isa hv.tag (by decide), _, rfl, iteB (fun _ => ⟨_, rfl, _, _, _, _, _, rfl, .ty _, hv.tyx, kit_isa hv.tag (by decide), _, rfl, iteB (fun _ => ⟨_, rfl, _, rfl, rfl, by rw [decide_eq_true rfl]; exact k⟩) (fun z => absurd z (by decide))⟩) (fun z => absurd z (by decide))⟩
    | int i =>
      have hv : VT K H (.int i) (.type "int") := .int i
      refine ⟨_, rfl, rfl, _, rfl, iteB (fun z => nomatch z) (fun _ => ?_)⟩
      refine ⟨_, rfl, _, _, _, _, _, rfl, .ty _, hv.tyx, kit_isa hv.tag (by decide), _, rfl, iteB (fun z => absurd z (by decide)) (fun _ => ?_)⟩
      refine ⟨_, rfl, _, _, _, _, _, rfl, .ty _, hv.tyx, kit_isa hv.tag (by decide), _, rfl, iteB (fun _ => ⟨_, rfl, _, rfl, _, hv, _, rfl, iteB (fun _ => ⟨_, rfl, _, rfl, rfl, by rw [decide_eq_true rfl]; exact k⟩) (fun z => nomatch z)⟩) (fun z => absurd z (by decide))⟩
    | str x =>
      have hv : VT K H (.str x) (.type "str") := .str x
      refine ⟨_, rfl, rfl, _, rfl, iteB (fun z => nomatch z) (fun _ => ?_)⟩
      refine ⟨_, rfl, _, _, _, _, _, rfl, .ty _, hv.tyx, kit_isa hv.tag (by decide), _, rfl, iteB (fun z => absurd z (by decide)) (fun _ => ?_)⟩
      refine ⟨_, rfl, _, _, _, _, _, rfl, .ty _, hv.tyx, kit_isa hv.tag (by decide), _, rfl, iteB (fun z => absurd z (by decide)) (fun _ => ?_)⟩
      refine ⟨_, rfl, _, _, _, _, _, rfl, .ty _, hv.tyx, kit_isa hv.tag (by decide), _, rfl, iteB (fun _ => ⟨_, rfl, _, _, _, _, _, rfl, .ty _, hv.tyx, kit_isa hv.tag (by decide), _, rfl, iteB (fun _ => ⟨_, rfl, _, rfl, rfl, by rw [decide_eq_true rfl]; exact k⟩) (fun z => absurd z (by decide))⟩) (fun z => absurd z (by decide))⟩
    | _ => exact ha.elim

  · have hlen := pair_lens ha
    rcases hpq with ⟨hp, hq0⟩ | ⟨hp, hq0⟩
    · have hq : VT K H (.ref q) (.type "list") := .lst hq0
      have hpt : VT K H (.ref p) (.type "list") := .lst hp
      refine ⟨_, rfl, rfl, _, rfl, iteB (fun z => nomatch z) (fun _ => ?_)⟩
      refine ⟨_, rfl, _, _, _, _, _, rfl, .ty _, hq.tyx, kit_isa hq.tag (by decide), _, rfl, iteB (fun z => absurd z (by decide)) (fun _ => ?_)⟩
      refine ⟨_, rfl, _, _, _, _, _, rfl, .ty _, hq.tyx, kit_isa hq.tag (by decide), _, rfl, iteB (fun z => absurd z (by decide)) (fun _ => ?_)⟩
      refine ⟨_, rfl, _, _, _, _, _, rfl, .ty _, hq.tyx, kit_isa hq.tag (by decide), _, rfl, iteB (fun z => absurd z (by decide)) (fun _ => ?_)⟩
      refine ⟨_, rfl, _, _, _, _, _, rfl, .ty _, hq.tyx, kit_isa hq.tag (by decide), _, rfl, iteB (fun z => absurd z (by decide)) (fun _ => ?_)⟩
      refine ⟨_, rfl, _, _, _, _, _, rfl, .ty _, hq.tyx, kit_isa hq.tag (by decide), _, rfl, iteB (fun _ => ⟨_, rfl, _, _, _, _, _, rfl, .ty _, hpt.tyx, kit_isa hpt.tag (by decide), _, rfl, iteB (fun z => absurd z (by decide)) (fun _ => ?_)⟩) (fun z => absurd z (by decide))⟩
      refine ⟨_, rfl, _, _, _, _, _, rfl, .ty _, hq.tyx, kit_isa hq.tag (by decide), _, rfl, iteB (fun z => absurd z (by decide)) (fun _ => iteF ?_)⟩
      refine ⟨_, rfl, _, _, rfl, .inl ⟨_, SqL.of hp, rfl⟩, _, rfl, _, _, rfl, .inl ⟨_, SqL.of hq0, rfl⟩, rfl, _, rfl, iteB (fun z => ?_) (fun _ => ?_)⟩
      · rw [hlen, decide_eq_true rfl] at z
        cases z
      refine ⟨_, rfl, _, _, rfl, .inl ⟨_, SqL.of hq0, rfl⟩, ys.length, rfl, by omega, by omega, for_range (n := ys.length) (fun i σ' H' => ∃ kv : Option V, σ' = [some (.ref p), some (.ref q), kv] ∧ H' = H) ⟨_, rfl, rfl⟩ ?_ ?_⟩
      · rintro i σ' H' hi ⟨kv, rfl, rfl⟩
        have hix : i < xs.length := by omega
        have hat : atI xs (i : Int) = some xs[i] := atI_nat (by simp [hix])
        have hatq : atI ys (i : Int) = some ys[i] := atI_nat (by simp [hi])
        refine ⟨_, rfl, _, rfl, .inl ⟨_, _, _, _, rfl, rfl, SqL.of hp, (by rw [Int.zero_add]; exact hat), _, rfl, _, rfl, .inl ⟨_, _, _, _, rfl, rfl, SqL.of hq0, (by rw [Int.zero_add]; exact hatq), _, _, rfl, pair_get ha hix hi, _, rfl, iteB (fun z => nomatch z) (fun _ => ⟨_, rfl, rfl⟩)⟩⟩⟩
      · rintro σ' H' ⟨kv, rfl, rfl⟩
        exact k
    · have hq : VT K H (.ref q) (.type "tuple") := .tup hq0
      have hpt : VT K H (.ref p) (.type "tuple") := .tup hp
      refine ⟨_, rfl, rfl, _, rfl, iteB (fun z => nomatch z) (fun _ => ?_)⟩
      refine ⟨_, rfl, _, _, _, _, _, rfl, .ty _, hq.tyx, kit_isa hq.tag (by decide), _, rfl, iteB (fun z => absurd z (by decide)) (fun _ => ?_)⟩
      refine ⟨_, rfl, _, _, _, _, _, rfl, .ty _, hq.tyx, kit_isa hq.tag (by decide), _, rfl, iteB (fun z => absurd z (by decide)) (fun _ => ?_)⟩
      refine ⟨_, rfl, _, _, _, _, _, rfl, .ty _, hq.tyx, kit_isa hq.tag (by decide), _, rfl, iteB (fun z => absurd z (by decide)) (fun _ => ?_)⟩
      refine ⟨_, rfl, _, _, _, _, _, rfl, .ty _, hq.tyx, kit_isa hq.tag (by decide), _, rfl, iteB (fun z => absurd z (by decide)) (fun _ => ?_)⟩
      refine ⟨_, rfl, _, _, _, _, _, rfl, .ty _, hq.tyx, kit_isa hq.tag (by decide), _, rfl, iteB (fun z => absurd z (by decide)) (fun _ => iteF ?_)⟩
      refine ⟨_, rfl, _, _, _, _, _, rfl, .ty _, hq.tyx, kit_isa hq.tag (by decide), _, rfl, iteB (fun _ => ⟨_, rfl, _, _, _, _, _, rfl, .ty _, hpt.tyx, kit_isa hpt.tag (by decide), _, rfl, iteB (fun z => absurd z (by decide)) (fun _ => ?_)⟩) (fun z => absurd z (by decide))⟩
      refine ⟨_, rfl, _, _, rfl, .inr ⟨_, SqT.of hp, rfl⟩, _, rfl, _, _, rfl, .inr ⟨_, SqT.of hq0, rfl⟩, rfl, _, rfl, iteB (fun z => ?_) (fun _ => ?_)⟩
      · rw [hlen, decide_eq_true rfl] at z
        cases z
      refine ⟨_, rfl, _, _, rfl, .inr ⟨_, SqT.of hq0, rfl⟩, ys.length, rfl, by omega, by omega, for_range (n := ys.length) (fun i σ' H' => ∃ kv : Option V, σ' = [some (.ref p), some (.ref q), kv] ∧ H' = H) ⟨_, rfl, rfl⟩ ?_ ?_⟩
      · rintro i σ' H' hi ⟨kv, rfl, rfl⟩
        have hix : i < xs.length := by omega
        have hat : atI xs (i : Int) = some xs[i] := atI_nat (by simp [hix])
        have hatq : atI ys (i : Int) = some ys[i] := atI_nat (by simp [hi])
        refine ⟨_, rfl, _, rfl, .inr (.inl ⟨_, _, _, _, rfl, rfl, SqT.of hp, (by rw [Int.zero_add]; exact hat), _, rfl, _, rfl, .inr (.inl ⟨_, _, _, _, rfl, rfl, SqT.of hq0, (by rw [Int.zero_add]; exact hatq), _, _, rfl, pair_get ha hix hi, _, rfl, iteB (fun z => nomatch z) (fun _ => ⟨_, rfl, rfl⟩)⟩)⟩)⟩
      · rintro σ' H' ⟨kv, rfl, rfl⟩
        exact k
theorem ok__law_start (T : Txt K mg A) : FnOk P w K mg base CX0 1 A.f__law_start A.d__law_start ["script"] (sp__law_start K A) := by
  refine T.F__law_start.ok sc__law_start (fun vs H Q E h => sp1_len h) (fun cdv A0 outer s H vs Q E hr h => ?_)
  have nd := sc__law_start.nd
  refine ⟨_, (pss_one (ps_ret (pe_lst (pa_cons (pe_callTy call_list_of (by rfl) T.b_list (by decide +kernel) (pa_cons (pv 0) pa_nil)) (pa_cons pe_int (pa_cons pe_int (pa_cons pe_int pa_nil))))))), ?_⟩
  clear nd hr
  replace h := sp1_of h
  obtain ⟨v_script, rfl, h⟩ := h

  obtain ⟨l, ns, rfl, hl, hn, k⟩ := h
  refine ⟨_, rfl, l, _, rfl, .inl hl, fun q hq => ⟨by show 4 ≤ sizeLine; rw [sizeLine_eq]; decide, fun p hp => ?_⟩⟩
  have nqp : q ≠ p := fun z => by rw [← z, upd_same] at hp; cases hp
  have hp0 : H p = none := by rw [upd_ne nqp.symm] at hp; exact hp
  refine k ⟨p, q, ns⟩ _ hp0 hq (fun b u e => ?_) ⟨0, 0, 1234577, nqp, upd_same, ?_, Nat.zero_le _, hn, by decide, by decide, by decide⟩
  · rw [upd_ne (ne_of_none e hp0), upd_ne (ne_of_none e hq)]
    exact e
  · show upd _ p _ q = _
    rw [upd_ne nqp, upd_same]
theorem ok__law_pull (T : Txt K mg A) : FnOk P w K mg base CX0 1 A.f__law_pull A.d__law_pull ["state", "many"] (sp__law_pull K A) := by
  refine T.F__law_pull.ok sc__law_pull (fun vs H Q E h => sp2_len h) (fun cdv A0 outer s H vs Q E hr h => ?_)
  have nd := sc__law_pull.nd
  refine ⟨_, (Evl.pss_cut (ps_if (PW.pt (pw_and (pt_cmpR op_eq (pe_ix ix_list (pv 0) pe_int (fun _ _ => rfl)) pe_int (nomark _)) (pw_and1 (pt_cmpR op_lt (pe_ix ix_list (pv 0) pe_int (fun _ _ => rfl)) (pe_callB call_len (by rfl) T.b_len (by decide +kernel) (pa_cons (pe_ix ix_list (pv 0) pe_int (fun _ _ => rfl)) pa_nil)) (nomark _))))) (pss_cons (ps_set (i := 2) nd rfl (by first | exact Or.inl rfl | exact Or.inr rfl) (pe_ix ix_list (pe_ix ix_list (pv 0) pe_int (fun _ _ => rfl)) (pe_ix ix_list (pv 0) pe_int (fun _ _ => rfl)) (fun _ _ => rfl)))
      (pss_cons (ps_asg (pe_op op_add (pe_ix ix_list (pv 0) pe_int (fun _ _ => rfl)) pe_int) (pg_sub (pv 0) pe_int set_list))
      (pss_one (ps_if (pt_cmpR op_ge (pv 2) (pe_op op_pow pe_int pe_int) (nomark _)) (pss_one (ps_asg (pv 2) (pg_sub (pv 0) pe_int set_list))) (pss_one (ps_asg (pe_op op_mod (pe_callTy call_int1 (by rfl) T.b_int (by decide +kernel) (pa_cons (pe_op op_add (pe_op op_add (pe_op op_mul (pe_ix ix_list (pv 0) pe_int (fun _ _ => rfl)) pe_int) (pe_op op_mod (pe_callTy call_int1 (by rfl) T.b_int (by decide +kernel) (pa_cons (pv 2) pa_nil)) pe_int)) pe_int) pa_nil)) pe_int) (pg_sub (pv 0) pe_int set_list))))))) pss_nil)
      (pss_cons (ps_if (pt_cmpR op_gt (pe_ix ix_list (pv 0) pe_int (fun _ _ => rfl)) pe_int (nomark _)) (pss_cons (ps_set (i := 3) nd rfl (by first | exact Or.inl rfl | exact Or.inr rfl) (pe_op op_mod (pe_callTy call_int1 (by rfl) T.b_int (by decide +kernel) (pa_cons (pe_ix ix_list (pv 0) pe_int (fun _ _ => rfl)) pa_nil)) (pv 1)))
      (pss_cons (ps_asg (pe_op op_fdivW (pe_ix ix_list (pv 0) pe_int (fun _ _ => rfl)) (pv 1)) (pg_sub (pv 0) pe_int set_list))
      (pss_one (ps_ret (pv 3))))) pss_nil)
      (pss_cons (ps_asg (pe_op op_mod (pe_callTy call_int1 (by rfl) T.b_int (by decide +kernel) (pa_cons (pe_op op_add (pe_op op_mul (pe_ix ix_list (pv 0) pe_int (fun _ _ => rfl)) pe_int) pe_int) pa_nil)) pe_int) (pg_sub (pv 0) pe_int set_list))
      (pss_cons (ps_set (i := 3) nd rfl (by first | exact Or.inl rfl | exact Or.inr rfl) (pe_op op_mod (pe_callTy call_int1 (by rfl) T.b_int (by decide +kernel) (pa_cons (pe_op op_add (pe_op op_mul (pe_ix ix_list (pv 0) pe_int (fun _ _ => rfl)) pe_int) (pe_op op_fdivW (pe_ix ix_list (pv 0) pe_int (fun _ _ => rfl)) pe_int)) pa_nil)) pe_int))
      (pss_one (ps_ret (pe_op op_mod (pe_callTy call_int1 (by rfl) T.b_int (by decide +kernel) (pa_cons (pe_op op_fdivW (pv 3) pe_int) pa_nil)) (pv 1)))))))), ?_⟩
  clear nd hr
  replace h := sp2_of h
  obtain ⟨v_state, v_many, rfl, h⟩ := h

  obtain ⟨d, many, rfl, rfl, ⟨i, c, s, R⟩, hm, hlog, k⟩ := h
  refine ⟨fun σ' H' => ∃ (v : Option V) (j : Nat) (x t : Int), σ' = [some (.ref d.p), some (.int many), v, none] ∧ Chg d H H' ∧ RngL H' d j x t, ?_, ?_⟩
  · refine ⟨_, rfl, _, _, _, _, rfl, rfl, SqL.of R.st, rfl, rfl, _, rfl, ?_⟩
    refine ite2 (fun hc0 => ?_) (fun _ => iteF ⟨none, i, c, s, rfl, Chg.refl, R⟩)
    refine ⟨_, rfl, _, _, _, _, rfl, rfl, SqL.of R.st, rfl, _, rfl, _, _, _, _, rfl, rfl, SqL.of R.st, rfl, _, _, rfl, .inl ⟨_, SqL.of R.ls, rfl⟩, _, _, rfl, rfl, _, rfl, ?_⟩
    refine ite2 (fun hlt => ?_) (fun _ => ⟨none, i, c, s, rfl, Chg.refl, R⟩)
    have hi : i < d.ns.length := by
      have q := of_decide_eq_true hlt
      rw [List.length_map] at q
      omega
    have hat : atI (d.ns.map V.int) (i : Int) = some (.int d.ns[i]) := atI_nat (by simp [hi])
    refine ⟨_, rfl, _, _, _, _, rfl, rfl, SqL.of R.st, rfl, _, rfl, _, _, _, _, rfl, rfl, SqL.of R.st, rfl, _, _, _, _, rfl, rfl, SqL.of R.ls, hat, ?_⟩
    refine ⟨_, rfl, _, _, _, _, rfl, rfl, SqL.of R.st, rfl, _, _, rfl, rfl, _, rfl, _, _, _, _, rfl, rfl, R.st, rfl, ?_⟩
    have R1 : RngL (upd H d.p (.lst [.ref d.l, .int ((i + 1 : Nat) : Int), .int c, .int s])) d (i + 1) c s := R.set hi R.hc R.hs R.hs2
    have e1 : Chg d H (upd H d.p (.lst [.ref d.l, .int ((i + 1 : Nat) : Int), .int c, .int s])) := Chg.upd
    refine heap_gen (fun H1 => RngL H1 d (i + 1) c s ∧ Chg d H H1) ⟨R1, e1⟩ fun H1 ⟨R1, e1⟩ => ?_
    refine ⟨_, rfl, _, _, rfl, rfl, ⟨by decide, by decide, by decide⟩, _, _, rfl, rfl, _, rfl, ?_⟩
    refine ite2 (fun hge => ?_) (fun _ => ?_)
    · have h0 : 0 ≤ d.ns[i] := by
        have q := of_decide_eq_true hge
        have e : ((10 : Int) ^ ((18 : Int).toNat)) = 1000000000000000000 := by decide
        rw [e] at q
        omega
      refine ⟨_, rfl, _, rfl, _, _, _, _, rfl, rfl, R1.st, rfl, ?_⟩
      exact ⟨_, i + 1, d.ns[i], s, rfl, e1.trans Chg.upd, R1.set R1.hi h0 R1.hs R1.hs2⟩
    · refine ⟨_, rfl, _, _, _, _, rfl, rfl, SqL.of R1.st, rfl, _, _, rfl, rfl, .inl ⟨by have := R1.hs; omega, by have := R1.hs2; omega⟩, _, rfl, .inl ⟨_, rfl, _, _, rfl, rfl, pos_ (by decide), _, _, rfl, rfl, _, _, rfl, rfl, .inl ⟨_, rfl, _, _, rfl, rfl, pos_ (by decide), ?_⟩⟩⟩
      refine ⟨_, rfl, _, _, _, _, rfl, rfl, R1.st, rfl, ?_⟩
      exact ⟨_, i + 1, c, _, rfl, e1.trans Chg.upd, R1.set R1.hi R1.hc (Int.emod_nonneg _ (by decide)) (Int.emod_lt_of_pos _ (by decide))⟩
  · rintro σ' H' ⟨v, j, x, t, rfl, e1, R1⟩
    refine ⟨_, rfl, _, _, _, _, rfl, rfl, SqL.of R1.st, rfl, _, _, rfl, rfl, _, rfl, ?_⟩
    refine ite2 (fun hd => ?_) (fun _ => ?_)
    · refine ⟨_, rfl, _, _, _, _, rfl, rfl, SqL.of R1.st, rfl, .inl ⟨_, rfl, _, rfl, _, _, rfl, rfl, hm, ?_⟩⟩
      refine ⟨_, rfl, _, _, _, _, rfl, rfl, SqL.of R1.st, rfl, _, rfl, _, _, rfl, rfl, ⟨hm, hlog⟩, _, rfl, _, _, _, _, rfl, rfl, R1.st, rfl, _, rfl, ?_⟩
      exact k _ _ (Int.emod_nonneg _ (by omega)) (Int.emod_lt_of_pos _ hm) (e1.trans Chg.upd) ⟨_, _, _, R1.set R1.hi (Int.ediv_nonneg R1.hc (Int.le_of_lt hm)) R1.hs R1.hs2⟩
    · refine ⟨_, rfl, _, _, _, _, rfl, rfl, SqL.of R1.st, rfl, _, _, rfl, rfl, .inl ⟨by have := R1.hs; omega, by have := R1.hs2; omega⟩, _, _, rfl, rfl, .inl ⟨_, rfl, _, _, rfl, rfl, pos_ (by decide), _, rfl, _, _, _, _, rfl, rfl, R1.st, rfl, ?_⟩⟩
      have R2 := R1.set (j := j) (x := x) R1.hi R1.hc (Int.emod_nonneg ((t * 69621 + 11)) (by decide : (2147483647 : Int) ≠ 0)) (Int.emod_lt_of_pos (t * 69621 + 11) (by decide : (0 : Int) < 2147483647))
      have e2 := e1.trans (Chg.upd (o := .lst [.ref d.l, .int (j : Int), .int x, .int ((t * 69621 + 11) % 2147483647)]))
      refine heap_gen (fun H2 => RngL H2 d j x ((t * 69621 + 11) % 2147483647) ∧ Chg d H H2) ⟨R2, e2⟩ fun H2 ⟨R2, e2⟩ => ?_
      generalize (t * 69621 + 11) % 2147483647 = t2 at R2
      refine ⟨_, rfl, _, _, _, _, rfl, rfl, SqL.of R2.st, rfl, _, _, rfl, rfl, .inl ⟨by have := R2.hs; omega, by have := R2.hs2; omega⟩, _, rfl, _, _, _, _, rfl, rfl, SqL.of R2.st, rfl, _, _, rfl, rfl, ⟨by decide, small_log (by decide) (by decide)⟩, _, _, rfl, rfl, .inl ⟨_, rfl, _, _, rfl, rfl, pos_ (by decide), ?_⟩⟩
      refine ⟨_, rfl, _, _, rfl, rfl, ⟨by decide, small_log (by decide) (by decide)⟩, .inl ⟨_, rfl, _, rfl, _, _, rfl, rfl, hm, ?_⟩⟩
      exact k _ _ (Int.emod_nonneg _ (by omega)) (Int.emod_lt_of_pos _ hm) e2 ⟨_, _, _, R2⟩
theorem ok__law_big (T : Txt K mg A) : FnOk P w K mg base CX0 2 A.f__law_big A.d__law_big ["state", "many"] (sp__law_big K A) := by
  refine T.F__law_big.ok sc__law_big (fun vs H Q E h => sp2_len h) (fun cdv A0 outer s H vs Q E hr h => ?_)
  have nd := sc__law_big.nd
  refine ⟨_, (pss_cons (ps_set (i := 2) nd rfl (by first | exact Or.inl rfl | exact Or.inr rfl) pe_int)
      (pss_cons (ps_for PassesOwn.never rfl (pi_range1 (by rfl) T.b_range (pa_cons pe_int pa_nil)) (pg_name (i := 3) nd rfl (by first | exact Or.inl rfl | exact Or.inr rfl)) (pss_one (ps_set (i := 2) nd rfl (by first | exact Or.inl rfl | exact Or.inr rfl) (pe_op op_add (pe_op op_mul (pv 2) pe_int) (pe_call (ok__law_pull T) (hr.mono (by decide)) (by rfl) T.mg__law_pull T.k__law_pull T.b__law_pull .nil pass0 (pa_cons (pv 0) (pa_cons pe_int pa_nil)))))))
      (pss_one (ps_ret (pe_op op_mod (pe_callTy call_int1 (by rfl) T.b_int (by decide +kernel) (pa_cons (pv 2) pa_nil)) (pv 1)))))), ?_⟩
  clear nd hr
  replace h := sp2_of h
  obtain ⟨v_state, v_many, rfl, h⟩ := h

  obtain ⟨d, many, rfl, rfl, r, hm, hlog, k⟩ := h
  refine ⟨8, rfl, by decide, by decide, for_range (n := 8) (fun i σ' H' => ∃ (num : Int) (kv : Option V), σ' = [some (.ref d.p), some (.int many), some (.int num), kv] ∧ Chg d H H' ∧ Rng d H') ⟨_, _, rfl, Chg.refl, r⟩ ?_ ?_⟩
  · rintro i σ' H' hi ⟨num, kv, rfl, e1, r1⟩
    exact ⟨_, rfl, _, _, rfl, rfl, .inr ⟨by decide, by decide⟩, _, rfl, _, _, rfl, d, _, rfl, rfl, r1, by decide, small_log (by decide) (by decide), fun v H2 h0 h1 e2 r2 => ⟨_, _, rfl, rfl, _, _, rfl, e1.trans e2, r2⟩⟩
  · rintro σ' H' ⟨num, kv, rfl, e1, r1⟩
    exact ⟨_, rfl, .inl ⟨_, rfl, _, rfl, _, _, rfl, rfl, hm, k _ _ (Int.emod_nonneg _ (by omega)) (Int.emod_lt_of_pos _ hm) e1 r1⟩⟩
theorem ok__law_field (T : Txt K mg A) : FnOk P w K mg base CX0 3 A.f__law_field A.d__law_field ["state"] (sp__law_field K A) := by
  refine T.F__law_field.ok sc__law_field (fun vs H Q E h => sp1_len h) (fun cdv A0 outer s H vs Q E hr h => ?_)
  have nd := sc__law_field.nd
  refine ⟨_, (pss_cons (ps_set (i := 1) nd rfl (by first | exact Or.inl rfl | exact Or.inr rfl) (pe_call (ok__law_pull T) (hr.mono (by decide)) (by rfl) T.mg__law_pull T.k__law_pull T.b__law_pull .nil pass0 (pa_cons (pv 0) (pa_cons pe_int pa_nil))))
      (pss_cons (ps_if (pt_cmpR op_eq (pv 1) pe_int (nomark _)) (pss_one (ps_ret (pe_op op_add (pe_op op_sub (pe_call (ok__law_big T) (hr.mono (by decide)) (by rfl) T.mg__law_big T.k__law_big T.b__law_big .nil pass0 (pa_cons (pv 0) (pa_cons (pe_op op_sub (pe_op op_mul pe_int (pe_op op_pow pe_int pe_int)) pe_int) pa_nil))) (pe_op op_pow pe_int pe_int)) pe_int))) pss_nil)
      (pss_cons (ps_if (pt_cmpR op_eq (pv 1) pe_int (nomark _)) (pss_cons (ps_set (i := 2) nd rfl (by first | exact Or.inl rfl | exact Or.inr rfl) pe_str)
      (pss_one (ps_ret (pe_join pe_str (pe_lc (own := [("k", 3)]) (g := gName 3) (tt := tYes) (by rfl) nd (pi_range1 (by rfl) T.b_range (pa_cons (pe_op op_add pe_int (pe_call (ok__law_pull T) (hr.mono (by decide)) (by rfl) T.mg__law_pull T.k__law_pull T.b__law_pull .nil pass0 (pa_cons (pv 0) (pa_cons pe_int pa_nil)))) pa_nil)) (blkOk_by (own := [("k", 3)]) (N := ["state", "turn", "letters", "k"]) (sc := defScope s__law_field) (by decide +kernel)) (fun _ _ _ _ _ => pg_name (i := 3) nd rfl (Or.inl rfl)) (fun _ _ _ _ _ => pts_nil) (fun _ _ _ _ _ => (pe_ix ix_str (pv 2) (pe_call (ok__law_pull T) (hr.mono (by decide)) (by rfl) T.mg__law_pull T.k__law_pull T.b__law_pull .nil pass0 (pa_cons (pv 0) (pa_cons pe_int pa_nil))) (fun _ _ => rfl)))))))) pss_nil)
      (pss_cons (ps_if (pt_cmpR op_eq (pv 1) pe_int (nomark _)) (pss_one (ps_ret pe_non)) pss_nil)
      (pss_one (ps_ret (pe_tup (pa_cons (pe_call (ok__law_pull T) (hr.mono (by decide)) (by rfl) T.mg__law_pull T.k__law_pull T.b__law_pull .nil pass0 (pa_cons (pv 0) (pa_cons pe_int pa_nil))) (pa_cons (pe_op op_sub (pe_call (ok__law_pull T) (hr.mono (by decide)) (by rfl) T.mg__law_pull T.k__law_pull T.b__law_pull .nil pass0 (pa_cons (pv 0) (pa_cons pe_int pa_nil))) pe_int) pa_nil))))))))), ?_⟩
  clear nd hr
  replace h := sp1_of h
  obtain ⟨v_state, rfl, h⟩ := h

  obtain ⟨d, rfl, r, k⟩ := h
  refine ⟨_, rfl, _, _, rfl, d, _, rfl, rfl, r, by decide, small_log (by decide) (by decide), fun v H1 v0 v1 e1 r1 => ?_⟩
  dsimp only [gName]
  refine ⟨_, rfl, rfl, _, rfl, iteB (fun _ => ?_) (fun _ => ?_)⟩
  · refine ⟨_, rfl, _, _, rfl, rfl, ⟨by decide, by decide, by decide⟩, _, _, rfl, rfl, .inl ⟨by decide, by decide⟩, _, _, rfl, rfl, _, _, rfl, d, _, rfl, rfl, r1, by decide, by decide +kernel, fun x H2 x0 x1 e2 r2 => ?_⟩
    exact ⟨_, _, rfl, rfl, ⟨by decide, by decide, by decide⟩, _, _, rfl, rfl, _, _, rfl, rfl, k _ _ (atom_field (v := .int _) trivial) (e1.trans e2) r2⟩
  refine ⟨_, rfl, rfl, _, rfl, iteB (fun _ => ?_) (fun _ => ?_)⟩
  · refine ⟨⟨_, rfl⟩, ?_⟩
    refine lc_draw (d := d) (fun m => m ≤ 8) (Sign letter) (fun _ _ _ _ h => h) (fun x => rfl) (fun m e => by omega) (fun R h => ⟨_, rfl, _, _, rfl, d, _, rfl, rfl, r1, by decide, small_log (by decide) (by decide), fun x H2 x0 x1 e2 r2 => ⟨_, _, rfl, rfl, ?ht⟩⟩) (fun x H1' Q1 r2 e2 h1 => ?he) (fun m D xs H' e nDp nDl hD hl hf hxs e2 r2 => ?hk)
    case ht =>
      have z := h (1 + x).toNat H2 (by omega) e2 r2
      rw [show ((1 + x).toNat : Int) = 1 + x by omega] at z
      exact z
    case he =>
      refine ⟨_, rfl, _, rfl, _, _, rfl, d, _, rfl, rfl, r2, by decide, small_log (by decide) (by decide), fun y H3 y0 y1 e3 r3 => ?_⟩
      obtain ⟨c, hc, ha⟩ := pick_sign abc_eq y0 y1
      exact ⟨_, _, c, rfl, rfl, by show (Str.ofString _).cps.size ≤ sizeLine; rw [sizeLine_eq]; decide +kernel, ha, h1 _ _ ⟨c, abc_letter c hc, rfl⟩ e3 r3⟩
    case hk =>
      obtain ⟨cs, rfl, hcs, hl2⟩ := signs_of hf
      refine ⟨_, D, cs.map fun c => (⟨#[c]⟩ : Str), rfl, rfl, .inl (SqL.of hxs), ?_, ?_⟩
      · rw [sum_signs]
        have : (Str.ofString "").length = 0 := by decide +kernel
        rw [this, List.length_map]
        rw [List.length_map, List.length_map] at hl
        omega
      · exact k _ _ (atom_field (v := .str _) trivial) (e1.trans e2) r2
  refine ⟨_, rfl, rfl, _, rfl, iteB (fun _ => ?_) (fun _ => ?_)⟩
  · exact k _ _ (atom_field (v := .non) trivial) e1 r1
  refine ⟨_, rfl, _, _, rfl, d, _, rfl, rfl, r1, by decide, small_log (by decide) (by decide), fun x H2 x0 x1 e2 r2 => ⟨_, rfl, _, _, rfl, d, _, rfl, rfl, r2, by decide, small_log (by decide) (by decide), fun y H3 y0 y1 e3 r3 => ⟨_, _, rfl, rfl, (by show 2 ≤ sizeLine; rw [sizeLine_eq]; decide), fun p hp => ?_⟩⟩⟩
  exact k _ _ (.inr ⟨p, _, _, rfl, upd_same⟩) (((e1.trans e2).trans e3).trans (Chg.new hp)) (r3.new hp)
theorem ok__law_raise_first (T : Txt K mg A) : FnOk P w K mg base (L2.CX P w) 3 A.f__law_raise_first A.d__law_raise_first ["which", "one", "other"] (sp__law_raise_first K A) := by
  refine T.F__law_raise_first.okX sc__law_raise_first (fun vs H Q E h => sp3_len h) (fun cdv A0 outer s H vs Q E hr h => ?_)
  have nd := sc__law_raise_first.nd
  refine ⟨_, (pss_cons (ps_if (pt_cmpR op_eq (pv 0) pe_int (nomark _)) (pss_one (ps_raise rfl (takes_of rfl rfl rfl rfl) (pmk_oex T.oex_BadKind T.ix_BadKind T.tx_BadKind (ok_BadKind___init__ T) (hr.mono (by decide)) T.b_BadKind___init__ .nil pass0 (by rfl) T.mg_BadKind (pa_cons (pv 1) pa_nil)))) pss_nil)
      (pss_cons (ps_if (pt_cmpR op_eq (pv 0) pe_int (nomark _)) (pss_one (ps_raise rfl (takes_of rfl rfl rfl rfl) (pmk_oex T.oex_BadEdition T.ix_BadEdition T.tx_BadEdition (ok_BadEdition___init__ T) (hr.mono (by decide)) T.b_BadEdition___init__ .nil pass0 (by rfl) T.mg_BadEdition (pa_cons (pv 1) pa_nil)))) pss_nil)
      (pss_cons (ps_if (pt_cmpR op_eq (pv 0) pe_int (nomark _)) (pss_one (ps_raise rfl (takes_of rfl rfl rfl rfl) (pmk_oex T.oex_MissingKind T.ix_MissingKind T.tx_MissingKind (ok_MissingKind___init__ T) (hr.mono (by decide)) T.b_MissingKind___init__ .nil pass0 (by rfl) T.mg_MissingKind (pa_cons (pv 1) pa_nil)))) pss_nil)
      (pss_cons (ps_if (pt_cmpR op_eq (pv 0) pe_int (nomark _)) (pss_one (ps_raise rfl (takes_of rfl rfl rfl rfl) (pmk_oex T.oex_RingOfCalls T.ix_RingOfCalls T.tx_RingOfCalls (ok_RingOfCalls___init__ T) (hr.mono (by decide)) T.b_RingOfCalls___init__ .nil pass0 (by rfl) T.mg_RingOfCalls (pa_cons (pv 1) pa_nil)))) pss_nil)
      (pss_cons (ps_if (pt_cmpR op_eq (pv 0) pe_int (nomark _)) (pss_one (ps_raise rfl (takes_of rfl rfl rfl rfl) (pmk_oex T.oex_LongBody T.ix_LongBody T.tx_LongBody (ok_LongBody___init__ T) (hr.mono (by decide)) T.b_LongBody___init__ .nil pass0 (by rfl) T.mg_LongBody (pa_cons (pv 1) (pa_cons (pv 2) pa_nil))))) pss_nil)
      (pss_cons (ps_if (pt_cmpR op_eq (pv 0) pe_int (nomark _)) (pss_one (ps_raise rfl (takes_of rfl rfl rfl rfl) (pmk_oex T.oex_RoomTaken T.ix_RoomTaken T.tx_RoomTaken (ok_RoomTaken___init__ T) (hr.mono (by decide)) T.b_RoomTaken___init__ .nil pass0 (by rfl) T.mg_RoomTaken (pa_cons (pv 1) (pa_cons (pv 2) pa_nil))))) pss_nil)
      (pss_cons (ps_if (pt_cmpR op_eq (pv 0) pe_int (nomark _)) (pss_one (ps_raise rfl (takes_of rfl rfl rfl rfl) (pmk_own0 PySem.F.excBase_ValueError T.xo_NoKind.1 T.mg_NoKind T.xo_NoKind.2.1 (raises_own T.xo_NoKind.2.2.1 T.xo_NoKind.2.2.2) (by rfl)))) pss_nil)
      (pss_cons (ps_if (pt_cmpR op_eq (pv 0) pe_int (nomark _)) (pss_one (ps_raise rfl (takes_of rfl rfl rfl rfl) (pmk_own0 PySem.F.excBase_ValueError T.xo_NoBits.1 T.mg_NoBits T.xo_NoBits.2.1 (raises_own T.xo_NoBits.2.2.1 T.xo_NoBits.2.2.2) (by rfl)))) pss_nil)
      (pss_cons (ps_if (pt_cmpR op_eq (pv 0) pe_int (nomark _)) (pss_one (ps_raise rfl (takes_of rfl rfl rfl rfl) (pmk_oex T.oex_BadValue T.ix_BadValue T.tx_BadValue (ok_BadValue___init__ T) (hr.mono (by decide)) T.b_BadValue___init__ .nil pass0 (by rfl) T.mg_BadValue (pa_cons (pv 1) pa_nil)))) pss_nil)
      (pss_cons (ps_if (pt_cmpR op_eq (pv 0) pe_int (nomark _)) (pss_one (ps_raise rfl (takes_of rfl rfl rfl rfl) (pmk_oex T.oex_BadBits T.ix_BadBits T.tx_BadBits (ok_BadBits___init__ T) (hr.mono (by decide)) T.b_BadBits___init__ .nil pass0 (by rfl) T.mg_BadBits (pa_cons (pv 1) pa_nil)))) pss_nil)
      (pss_cons (ps_if (pt_cmpR op_eq (pv 0) pe_int (nomark _)) (pss_one (ps_raise rfl (takes_of rfl rfl rfl rfl) (pmk_oex T.oex_TooFew T.ix_TooFew T.tx_TooFew (ok_TooFew___init__ T) (hr.mono (by decide)) T.b_TooFew___init__ .nil pass0 (by rfl) T.mg_TooFew (pa_cons (pv 1) pa_nil)))) pss_nil)
      (pss_one (ps_if (pt_cmpR op_eq (pv 0) pe_int (nomark _)) (pss_one (ps_raise rfl (takes_of rfl rfl rfl rfl) (pmk_oex T.oex_Left T.ix_Left T.tx_Left (ok_Left___init__ T) (hr.mono (by decide)) T.b_Left___init__ .nil pass0 (by rfl) T.mg_Left (pa_cons (pv 1) pa_nil)))) pss_nil))))))))))))), ?_⟩
  clear nd hr
  replace h := sp3_of h
  obtain ⟨v_which, v_one, v_other, rfl, h⟩ := h

  obtain ⟨n, hn, rfl, k1, k2⟩ := h
  refine ⟨_, rfl, rfl, _, rfl, iteB (fun g => ?_) (fun g0 => ?_)⟩
  · have e := nat_eq (m := 0) g
    subst e
    exact ⟨_, rfl, raise_1 (n := 0) (by decide +kernel) T.rz0 (k1 (by decide))⟩
  have n0 := nat_ne (m := 0) g0
  refine ⟨_, rfl, rfl, _, rfl, iteB (fun g => ?_) (fun g1 => ?_)⟩
  · have e := nat_eq (m := 1) g
    subst e
    exact ⟨_, rfl, raise_1 (n := 1) (by decide +kernel) T.rz1 (k1 (by decide))⟩
  have n1 := nat_ne (m := 1) g1
  refine ⟨_, rfl, rfl, _, rfl, iteB (fun g => ?_) (fun g2 => ?_)⟩
  · have e := nat_eq (m := 2) g
    subst e
    exact ⟨_, rfl, raise_1 (n := 2) (by decide +kernel) T.rz2 (k1 (by decide))⟩
  have n2 := nat_ne (m := 2) g2
  refine ⟨_, rfl, rfl, _, rfl, iteB (fun g => ?_) (fun g3 => ?_)⟩
  · have e := nat_eq (m := 3) g
    subst e
    exact ⟨_, rfl, raise_1 (n := 3) (by decide +kernel) T.rz3 (k1 (by decide))⟩
  have n3 := nat_ne (m := 3) g3
  refine ⟨_, rfl, rfl, _, rfl, iteB (fun g => ?_) (fun g4 => ?_)⟩
  · have e := nat_eq (m := 4) g
    subst e
    exact ⟨_, rfl, _, rfl, raise_2 (n := 4) (by decide +kernel) T.rz4 (k1 (by decide))⟩
  have n4 := nat_ne (m := 4) g4
  refine ⟨_, rfl, rfl, _, rfl, iteB (fun g => ?_) (fun g5 => ?_)⟩
  · have e := nat_eq (m := 5) g
    subst e
    exact ⟨_, rfl, _, rfl, raise_2 (n := 5) (by decide +kernel) T.rz5 (k1 (by decide))⟩
  have n5 := nat_ne (m := 5) g5
  refine ⟨_, rfl, rfl, _, rfl, iteB (fun g => ?_) (fun g6 => ?_)⟩
  · have e := nat_eq (m := 6) g
    subst e
    exact raise_0 (n := 6) (by decide +kernel) T.rz6 (k1 (by decide))
  have n6 := nat_ne (m := 6) g6
  refine ⟨_, rfl, rfl, _, rfl, iteB (fun g => ?_) (fun g7 => ?_)⟩
  · have e := nat_eq (m := 7) g
    subst e
    exact raise_0 (n := 7) (by decide +kernel) T.rz7 (k1 (by decide))
  have n7 := nat_ne (m := 7) g7
  refine ⟨_, rfl, rfl, _, rfl, iteB (fun g => ?_) (fun g8 => ?_)⟩
  · have e := nat_eq (m := 8) g
    subst e
    exact ⟨_, rfl, raise_1 (n := 8) (by decide +kernel) T.rz8 (k1 (by decide))⟩
  have n8 := nat_ne (m := 8) g8
  refine ⟨_, rfl, rfl, _, rfl, iteB (fun g => ?_) (fun g9 => ?_)⟩
  · have e := nat_eq (m := 9) g
    subst e
    exact ⟨_, rfl, raise_1 (n := 9) (by decide +kernel) T.rz9 (k1 (by decide))⟩
  have n9 := nat_ne (m := 9) g9
  refine ⟨_, rfl, rfl, _, rfl, iteB (fun g => ?_) (fun g10 => ?_)⟩
  · have e := nat_eq (m := 10) g
    subst e
    exact ⟨_, rfl, raise_1 (n := 10) (by decide +kernel) T.rz10 (k1 (by decide))⟩
  have n10 := nat_ne (m := 10) g10
  refine ⟨_, rfl, rfl, _, rfl, iteB (fun g => ?_) (fun g11 => ?_)⟩
  · have e := nat_eq (m := 11) g
    subst e
    exact ⟨_, rfl, raise_1 (n := 11) (by decide +kernel) T.rz11 (k1 (by decide))⟩
  have n11 := nat_ne (m := 11) g11
  exact k2 (by omega)
theorem ok__law_raise (T : Txt K mg A) : FnOk P w K mg base (L2.CX P w) 4 A.f__law_raise A.d__law_raise ["which", "one", "other"] (sp__law_raise K A) := by
  refine T.F__law_raise.okX sc__law_raise (fun vs H Q E h => sp3_len h) (fun cdv A0 outer s H vs Q E hr h => ?_)
  have nd := sc__law_raise.nd
  refine ⟨_, (pss_cons (ps_expr (by exact (pe_callS (ok__law_raise_first T) (hr.mono (by decide)) (by rfl) T.mg__law_raise_first T.k__law_raise_first T.b__law_raise_first (fun σ => passAt (W := fun cls d _ H => E cls d H) (takes_of rfl rfl rfl rfl) σ) (by exact (pa_cons (pv 0) (pa_cons (pv 1) (pa_cons (pv 2) pa_nil)))))))
      (pss_cons (ps_if (pt_cmpR op_eq (pv 0) pe_int (nomark _)) (pss_one (ps_raise rfl (takes_of rfl rfl rfl rfl) (pmk_own0 PySem.F.excBase_ValueError T.xo_NoOwn.1 T.mg_NoOwn T.xo_NoOwn.2.1 (raises_own T.xo_NoOwn.2.2.1 T.xo_NoOwn.2.2.2) (by rfl)))) pss_nil)
      (pss_cons (ps_if (pt_cmpR op_eq (pv 0) pe_int (nomark _)) (pss_one (ps_raise rfl (takes_of rfl rfl rfl rfl) (pmk_oex T.oex_BadNumber T.ix_BadNumber T.tx_BadNumber (ok_BadNumber___init__ T) (hr.mono (by decide)) T.b_BadNumber___init__ .nil pass0 (by rfl) T.mg_BadNumber (pa_cons (pv 1) pa_nil)))) pss_nil)
      (pss_cons (ps_if (pt_cmpR op_eq (pv 0) pe_int (nomark _)) (pss_one (ps_raise rfl (takes_of rfl rfl rfl rfl) (pmk_oex T.oex_TooMany T.ix_TooMany T.tx_TooMany (ok_TooMany___init__ T) (hr.mono (by decide)) T.b_TooMany___init__ .nil pass0 (by rfl) T.mg_TooMany (pa_cons (pv 1) pa_nil)))) pss_nil)
      (pss_cons (ps_if (pt_cmpR op_eq (pv 0) pe_int (nomark _)) (pss_one (ps_raise rfl (takes_of rfl rfl rfl rfl) (pmk_own0 PySem.F.excBase_ValueError T.xo_NoUndo.1 T.mg_NoUndo T.xo_NoUndo.2.1 (raises_own T.xo_NoUndo.2.2.1 T.xo_NoUndo.2.2.2) (by rfl)))) pss_nil)
      (pss_cons (ps_if (pt_cmpR op_eq (pv 0) pe_int (nomark _)) (pss_one (ps_raise rfl (takes_of rfl rfl rfl rfl) (pmk_oex T.oex_NoStep T.ix_NoStep T.tx_NoStep (ok_NoStep___init__ T) (hr.mono (by decide)) T.b_NoStep___init__ .nil pass0 (by rfl) T.mg_NoStep (pa_cons (pv 1) pa_nil)))) pss_nil)
      (pss_cons (ps_if (pt_cmpR op_eq (pv 0) pe_int (nomark _)) (pss_one (ps_raise rfl (takes_of rfl rfl rfl rfl) (pmk_own0 PySem.F.excBase_ValueError T.xo_BadWeights.1 T.mg_BadWeights T.xo_BadWeights.2.1 (raises_own T.xo_BadWeights.2.2.1 T.xo_BadWeights.2.2.2) (by rfl)))) pss_nil)
      (pss_cons (ps_if (pt_cmpR op_eq (pv 0) pe_int (nomark _)) (pss_one (ps_raise rfl (takes_of rfl rfl rfl rfl) (pmk_own0 PySem.F.excBase_ValueError T.xo_NoPlace.1 T.mg_NoPlace T.xo_NoPlace.2.1 (raises_own T.xo_NoPlace.2.2.1 T.xo_NoPlace.2.2.2) (by rfl)))) pss_nil)
      (pss_cons (ps_if (pt_cmpR op_eq (pv 0) pe_int (nomark _)) (pss_one (ps_raise rfl (takes_of rfl rfl rfl rfl) (pmk_oex T.oex_NoRoom T.ix_NoRoom T.tx_NoRoom (ok_NoRoom___init__ T) (hr.mono (by decide)) T.b_NoRoom___init__ .nil pass0 (by rfl) T.mg_NoRoom (pa_cons (pv 1) pa_nil)))) pss_nil)
      (pss_cons (ps_if (pt_cmpR op_eq (pv 0) pe_int (nomark _)) (pss_one (ps_raise rfl (takes_of rfl rfl rfl rfl) (pmk_oex T.oex_Broken T.ix_Broken T.tx_Broken (ok_Broken___init__ T) (hr.mono (by decide)) T.b_Broken___init__ .nil pass0 (by rfl) T.mg_Broken (pa_cons (pv 1) (pa_cons (pv 2) pa_nil))))) pss_nil)
      (pss_cons (ps_if (pt_cmpR op_eq (pv 0) pe_int (nomark _)) (pss_one (ps_raise rfl (takes_of rfl rfl rfl rfl) (pmk_oex T.oex_BadText T.ix_BadText T.tx_BadText (ok_BadText___init__ T) (hr.mono (by decide)) T.b_BadText___init__ .nil pass0 (by rfl) T.mg_BadText (pa_cons (pv 1) pa_nil)))) pss_nil)
      (pss_cons (ps_if (pt_cmpR op_eq (pv 0) pe_int (nomark _)) (pss_one (ps_raise rfl (takes_of rfl rfl rfl rfl) (pmk_own0 PySem.F.excBase_ValueError T.xo_NoLine.1 T.mg_NoLine T.xo_NoLine.2.1 (raises_own T.xo_NoLine.2.2.1 T.xo_NoLine.2.2.2) (by rfl)))) pss_nil)
      (pss_one (ps_raise rfl (takes_of rfl rfl rfl rfl) (pmk_oex T.oex_NoName T.ix_NoName T.tx_NoName (ok_NoName___init__ T) (hr.mono (by decide)) T.b_NoName___init__ .nil pass0 (by rfl) T.mg_NoName (pa_cons (pv 1) pa_nil)))))))))))))))), ?_⟩
  clear nd hr
  replace h := sp3_of h
  obtain ⟨v_which, v_one, v_other, rfl, h⟩ := h

  obtain ⟨n, hn, rfl, k⟩ := h
  refine ⟨_, rfl, _, rfl, _, rfl, _, _, _, rfl, n, hn, rfl, fun _ => k, fun h12 => ?_⟩
  refine ⟨_, rfl, rfl, _, rfl, iteB (fun g => ?_) (fun g12 => ?_)⟩
  · have e := nat_eq (m := 12) g
    subst e
    exact raise_0 (n := 12) (by decide +kernel) T.rz12 k
  have n12 := nat_ne (m := 12) g12
  refine ⟨_, rfl, rfl, _, rfl, iteB (fun g => ?_) (fun g13 => ?_)⟩
  · have e := nat_eq (m := 13) g
    subst e
    exact ⟨_, rfl, raise_1 (n := 13) (by decide +kernel) T.rz13 k⟩
  have n13 := nat_ne (m := 13) g13
  refine ⟨_, rfl, rfl, _, rfl, iteB (fun g => ?_) (fun g14 => ?_)⟩
  · have e := nat_eq (m := 14) g
    subst e
    exact ⟨_, rfl, raise_1 (n := 14) (by decide +kernel) T.rz14 k⟩
  have n14 := nat_ne (m := 14) g14
  refine ⟨_, rfl, rfl, _, rfl, iteB (fun g => ?_) (fun g15 => ?_)⟩
  · have e := nat_eq (m := 15) g
    subst e
    exact raise_0 (n := 15) (by decide +kernel) T.rz15 k
  have n15 := nat_ne (m := 15) g15
  refine ⟨_, rfl, rfl, _, rfl, iteB (fun g => ?_) (fun g16 => ?_)⟩
  · have e := nat_eq (m := 16) g
    subst e
    exact ⟨_, rfl, raise_1 (n := 16) (by decide +kernel) T.rz16 k⟩
  have n16 := nat_ne (m := 16) g16
  refine ⟨_, rfl, rfl, _, rfl, iteB (fun g => ?_) (fun g17 => ?_)⟩
  · have e := nat_eq (m := 17) g
    subst e
    exact raise_0 (n := 17) (by decide +kernel) T.rz17 k
  have n17 := nat_ne (m := 17) g17
  refine ⟨_, rfl, rfl, _, rfl, iteB (fun g => ?_) (fun g18 => ?_)⟩
  · have e := nat_eq (m := 18) g
    subst e
    exact raise_0 (n := 18) (by decide +kernel) T.rz18 k
  have n18 := nat_ne (m := 18) g18
  refine ⟨_, rfl, rfl, _, rfl, iteB (fun g => ?_) (fun g19 => ?_)⟩
  · have e := nat_eq (m := 19) g
    subst e
    exact ⟨_, rfl, raise_1 (n := 19) (by decide +kernel) T.rz19 k⟩
  have n19 := nat_ne (m := 19) g19
  refine ⟨_, rfl, rfl, _, rfl, iteB (fun g => ?_) (fun g20 => ?_)⟩
  · have e := nat_eq (m := 20) g
    subst e
    exact ⟨_, rfl, _, rfl, raise_2 (n := 20) (by decide +kernel) T.rz20 k⟩
  have n20 := nat_ne (m := 20) g20
  refine ⟨_, rfl, rfl, _, rfl, iteB (fun g => ?_) (fun g21 => ?_)⟩
  · have e := nat_eq (m := 21) g
    subst e
    exact ⟨_, rfl, raise_1 (n := 21) (by decide +kernel) T.rz21 k⟩
  have n21 := nat_ne (m := 21) g21
  refine ⟨_, rfl, rfl, _, rfl, iteB (fun g => ?_) (fun g22 => ?_)⟩
  · have e := nat_eq (m := 22) g
    subst e
    exact raise_0 (n := 22) (by decide +kernel) T.rz22 k
  have n22 := nat_ne (m := 22) g22
  have e : n = 23 := by omega
  subst e
  exact ⟨_, rfl, raise_1 (n := 23) (by decide +kernel) T.rz23 k⟩

theorem okE__law_classes (T : Txt K mg A) : FnE P w K mg base CX0 1 A.f__law_classes A.d__law_classes ["e"] (spE__law_classes K A) := by
  refine Fun.okE T.F__law_classes sc__law_classes (fun a cls d vs H Q E h => sp1_len h) (fun cdv A0 outer s H vs Q E p cls d hr hz hf h => ?_)
  have nd := sc__law_classes.nd
  refine ⟨_, (pss_cons (ps_set (i := 1) nd rfl (by first | exact Or.inl rfl | exact Or.inr rfl) (pe_lst (pa_cons (pe_callB (call_isP (List.mem_cons_self ..) hz hf) (by rfl) T.b_isinstance (by decide +kernel) (pa_cons (pv 0) (pa_cons (pe_glob (v := .ref A.c_BadKind) (by rfl) T.mg_BadKind rfl) pa_nil))) (pa_cons (pe_callB (call_isP (List.mem_cons_self ..) hz hf) (by rfl) T.b_isinstance (by decide +kernel) (pa_cons (pv 0) (pa_cons (pe_glob (v := .ref A.c_BadEdition) (by rfl) T.mg_BadEdition rfl) pa_nil))) (pa_cons (pe_callB (call_isP (List.mem_cons_self ..) hz hf) (by rfl) T.b_isinstance (by decide +kernel) (pa_cons (pv 0) (pa_cons (pe_glob (v := .ref A.c_MissingKind) (by rfl) T.mg_MissingKind rfl) pa_nil))) pa_nil)))))
      (pss_cons (ps_set (i := 1) nd rfl (by first | exact Or.inl rfl | exact Or.inr rfl) (pe_op op_cat (pv 1) (pe_lst (pa_cons (pe_callB (call_isP (List.mem_cons_self ..) hz hf) (by rfl) T.b_isinstance (by decide +kernel) (pa_cons (pv 0) (pa_cons (pe_glob (v := .ref A.c_RingOfCalls) (by rfl) T.mg_RingOfCalls rfl) pa_nil))) (pa_cons (pe_callB (call_isP (List.mem_cons_self ..) hz hf) (by rfl) T.b_isinstance (by decide +kernel) (pa_cons (pv 0) (pa_cons (pe_glob (v := .ref A.c_LongBody) (by rfl) T.mg_LongBody rfl) pa_nil))) (pa_cons (pe_callB (call_isP (List.mem_cons_self ..) hz hf) (by rfl) T.b_isinstance (by decide +kernel) (pa_cons (pv 0) (pa_cons (pe_glob (v := .ref A.c_RoomTaken) (by rfl) T.mg_RoomTaken rfl) pa_nil))) pa_nil))))))
      (pss_cons (ps_set (i := 1) nd rfl (by first | exact Or.inl rfl | exact Or.inr rfl) (pe_op op_cat (pv 1) (pe_lst (pa_cons (pe_callB (call_isP (List.mem_cons_self ..) hz hf) (by rfl) T.b_isinstance (by decide +kernel) (pa_cons (pv 0) (pa_cons (pe_glob (v := .ref A.c_NoKind) (by rfl) T.mg_NoKind rfl) pa_nil))) (pa_cons (pe_callB (call_isP (List.mem_cons_self ..) hz hf) (by rfl) T.b_isinstance (by decide +kernel) (pa_cons (pv 0) (pa_cons (pe_glob (v := .ref A.c_NoBits) (by rfl) T.mg_NoBits rfl) pa_nil))) (pa_cons (pe_callB (call_isP (List.mem_cons_self ..) hz hf) (by rfl) T.b_isinstance (by decide +kernel) (pa_cons (pv 0) (pa_cons (pe_glob (v := .ref A.c_BadValue) (by rfl) T.mg_BadValue rfl) pa_nil))) pa_nil))))))
      (pss_cons (ps_set (i := 1) nd rfl (by first | exact Or.inl rfl | exact Or.inr rfl) (pe_op op_cat (pv 1) (pe_lst (pa_cons (pe_callB (call_isP (List.mem_cons_self ..) hz hf) (by rfl) T.b_isinstance (by decide +kernel) (pa_cons (pv 0) (pa_cons (pe_glob (v := .ref A.c_BadBits) (by rfl) T.mg_BadBits rfl) pa_nil))) (pa_cons (pe_callB (call_isP (List.mem_cons_self ..) hz hf) (by rfl) T.b_isinstance (by decide +kernel) (pa_cons (pv 0) (pa_cons (pe_glob (v := .ref A.c_TooFew) (by rfl) T.mg_TooFew rfl) pa_nil))) (pa_cons (pe_callB (call_isP (List.mem_cons_self ..) hz hf) (by rfl) T.b_isinstance (by decide +kernel) (pa_cons (pv 0) (pa_cons (pe_glob (v := .ref A.c_Left) (by rfl) T.mg_Left rfl) pa_nil))) pa_nil))))))
      (pss_cons (ps_set (i := 1) nd rfl (by first | exact Or.inl rfl | exact Or.inr rfl) (pe_op op_cat (pv 1) (pe_lst (pa_cons (pe_callB (call_isP (List.mem_cons_self ..) hz hf) (by rfl) T.b_isinstance (by decide +kernel) (pa_cons (pv 0) (pa_cons (pe_glob (v := .ref A.c_NoOwn) (by rfl) T.mg_NoOwn rfl) pa_nil))) (pa_cons (pe_callB (call_isP (List.mem_cons_self ..) hz hf) (by rfl) T.b_isinstance (by decide +kernel) (pa_cons (pv 0) (pa_cons (pe_glob (v := .ref A.c_BadNumber) (by rfl) T.mg_BadNumber rfl) pa_nil))) (pa_cons (pe_callB (call_isP (List.mem_cons_self ..) hz hf) (by rfl) T.b_isinstance (by decide +kernel) (pa_cons (pv 0) (pa_cons (pe_glob (v := .ref A.c_TooMany) (by rfl) T.mg_TooMany rfl) pa_nil))) pa_nil))))))
      (pss_cons (ps_set (i := 1) nd rfl (by first | exact Or.inl rfl | exact Or.inr rfl) (pe_op op_cat (pv 1) (pe_lst (pa_cons (pe_callB (call_isP (List.mem_cons_self ..) hz hf) (by rfl) T.b_isinstance (by decide +kernel) (pa_cons (pv 0) (pa_cons (pe_glob (v := .ref A.c_NoUndo) (by rfl) T.mg_NoUndo rfl) pa_nil))) (pa_cons (pe_callB (call_isP (List.mem_cons_self ..) hz hf) (by rfl) T.b_isinstance (by decide +kernel) (pa_cons (pv 0) (pa_cons (pe_glob (v := .ref A.c_NoStep) (by rfl) T.mg_NoStep rfl) pa_nil))) (pa_cons (pe_callB (call_isP (List.mem_cons_self ..) hz hf) (by rfl) T.b_isinstance (by decide +kernel) (pa_cons (pv 0) (pa_cons (pe_glob (v := .ref A.c_BadWeights) (by rfl) T.mg_BadWeights rfl) pa_nil))) pa_nil))))))
      (pss_cons (ps_set (i := 1) nd rfl (by first | exact Or.inl rfl | exact Or.inr rfl) (pe_op op_cat (pv 1) (pe_lst (pa_cons (pe_callB (call_isP (List.mem_cons_self ..) hz hf) (by rfl) T.b_isinstance (by decide +kernel) (pa_cons (pv 0) (pa_cons (pe_glob (v := .ref A.c_NoPlace) (by rfl) T.mg_NoPlace rfl) pa_nil))) (pa_cons (pe_callB (call_isP (List.mem_cons_self ..) hz hf) (by rfl) T.b_isinstance (by decide +kernel) (pa_cons (pv 0) (pa_cons (pe_glob (v := .ref A.c_NoRoom) (by rfl) T.mg_NoRoom rfl) pa_nil))) (pa_cons (pe_callB (call_isP (List.mem_cons_self ..) hz hf) (by rfl) T.b_isinstance (by decide +kernel) (pa_cons (pv 0) (pa_cons (pe_glob (v := .ref A.c_Broken) (by rfl) T.mg_Broken rfl) pa_nil))) pa_nil))))))
      (pss_one (ps_ret (pe_op op_cat (pv 1) (pe_lst (pa_cons (pe_callB (call_isP (List.mem_cons_self ..) hz hf) (by rfl) T.b_isinstance (by decide +kernel) (pa_cons (pv 0) (pa_cons (pe_glob (v := .ref A.c_BadText) (by rfl) T.mg_BadText rfl) pa_nil))) (pa_cons (pe_callB (call_isP (List.mem_cons_self ..) hz hf) (by rfl) T.b_isinstance (by decide +kernel) (pa_cons (pv 0) (pa_cons (pe_glob (v := .ref A.c_NoLine) (by rfl) T.mg_NoLine rfl) pa_nil))) (pa_cons (pe_callB (call_isP (List.mem_cons_self ..) hz hf) (by rfl) T.b_isinstance (by decide +kernel) (pa_cons (pv 0) (pa_cons (pe_glob (v := .ref A.c_NoName) (by rfl) T.mg_NoName rfl) pa_nil))) pa_nil)))))))))))))), ?_⟩
  clear nd hr
  replace h := sp1_of h
  obtain ⟨v_e, rfl, n, hn, rfl, rfl, hd, k⟩ := h
  refine ⟨_, rfl, A.rz n, _, _, _, rfl, T.xd n hn, rfl, rel_ref, (by have z := T.ki n hn 0 (by decide); rw [T.rz0] at z; exact z), hd, _, rfl, A.rz n, _, _, _, rfl, T.xd n hn, rfl, rel_ref, (by have z := T.ki n hn 1 (by decide); rw [T.rz1] at z; exact z), hd, _, rfl, A.rz n, _, _, _, rfl, T.xd n hn, rfl, rel_ref, (by have z := T.ki n hn 2 (by decide); rw [T.rz2] at z; exact z), hd, (by show 3 ≤ sizeLine; rw [sizeLine_eq]; decide), fun q0 h0 => ?_⟩
  dsimp only [gName]
  refine heap_gen (fun h => Same H h ∧ h q0 = some (.lst [.bl (decide (0 = n)), .bl (decide (1 = n)), .bl (decide (2 = n))])) ⟨same_new h0, upd_same⟩ fun H0 ⟨e0, g0⟩ => ?_
  refine ⟨_, rfl, _, rfl, A.rz n, _, _, _, rfl, T.xd n hn, rfl, rel_ref, (by have z := T.ki n hn 3 (by decide); rw [T.rz3] at z; exact z), (hd_same hd e0), _, rfl, A.rz n, _, _, _, rfl, T.xd n hn, rfl, rel_ref, (by have z := T.ki n hn 4 (by decide); rw [T.rz4] at z; exact z), (hd_same hd e0), _, rfl, A.rz n, _, _, _, rfl, T.xd n hn, rfl, rel_ref, (by have z := T.ki n hn 5 (by decide); rw [T.rz5] at z; exact z), (hd_same hd e0), (by show 3 ≤ sizeLine; rw [sizeLine_eq]; decide), fun p1 hp1 => ⟨_, _, _, _, rfl, rfl, same_new hp1 _ _ g0, upd_same, (by show 6 ≤ sizeLine; rw [sizeLine_eq]; decide), fun q1 h1 => ?_⟩⟩
  dsimp only [gName]
  refine heap_gen (fun h => Same H h ∧ h q1 = some (.lst [.bl (decide (0 = n)), .bl (decide (1 = n)), .bl (decide (2 = n)), .bl (decide (3 = n)), .bl (decide (4 = n)), .bl (decide (5 = n))])) ⟨fun b o z => same_new h1 _ _ (same_new hp1 _ _ (e0 b o z)), upd_same⟩ fun H1 ⟨e1, g1⟩ => ?_
  refine ⟨_, rfl, _, rfl, A.rz n, _, _, _, rfl, T.xd n hn, rfl, rel_ref, (by have z := T.ki n hn 6 (by decide); rw [T.rz6] at z; exact z), (hd_same hd e1), _, rfl, A.rz n, _, _, _, rfl, T.xd n hn, rfl, rel_ref, (by have z := T.ki n hn 7 (by decide); rw [T.rz7] at z; exact z), (hd_same hd e1), _, rfl, A.rz n, _, _, _, rfl, T.xd n hn, rfl, rel_ref, (by have z := T.ki n hn 8 (by decide); rw [T.rz8] at z; exact z), (hd_same hd e1), (by show 3 ≤ sizeLine; rw [sizeLine_eq]; decide), fun p2 hp2 => ⟨_, _, _, _, rfl, rfl, same_new hp2 _ _ g1, upd_same, (by show 9 ≤ sizeLine; rw [sizeLine_eq]; decide), fun q2 h2 => ?_⟩⟩
  dsimp only [gName]
  refine heap_gen (fun h => Same H h ∧ h q2 = some (.lst [.bl (decide (0 = n)), .bl (decide (1 = n)), .bl (decide (2 = n)), .bl (decide (3 = n)), .bl (decide (4 = n)), .bl (decide (5 = n)), .bl (decide (6 = n)), .bl (decide (7 = n)), .bl (decide (8 = n))])) ⟨fun b o z => same_new h2 _ _ (same_new hp2 _ _ (e1 b o z)), upd_same⟩ fun H2 ⟨e2, g2⟩ => ?_
  refine ⟨_, rfl, _, rfl, A.rz n, _, _, _, rfl, T.xd n hn, rfl, rel_ref, (by have z := T.ki n hn 9 (by decide); rw [T.rz9] at z; exact z), (hd_same hd e2), _, rfl, A.rz n, _, _, _, rfl, T.xd n hn, rfl, rel_ref, (by have z := T.ki n hn 10 (by decide); rw [T.rz10] at z; exact z), (hd_same hd e2), _, rfl, A.rz n, _, _, _, rfl, T.xd n hn, rfl, rel_ref, (by have z := T.ki n hn 11 (by decide); rw [T.rz11] at z; exact z), (hd_same hd e2), (by show 3 ≤ sizeLine; rw [sizeLine_eq]; decide), fun p3 hp3 => ⟨_, _, _, _, rfl, rfl, same_new hp3 _ _ g2, upd_same, (by show 12 ≤ sizeLine; rw [sizeLine_eq]; decide), fun q3 h3 => ?_⟩⟩
  dsimp only [gName]
  refine heap_gen (fun h => Same H h ∧ h q3 = some (.lst [.bl (decide (0 = n)), .bl (decide (1 = n)), .bl (decide (2 = n)), .bl (decide (3 = n)), .bl (decide (4 = n)), .bl (decide (5 = n)), .bl (decide (6 = n)), .bl (decide (7 = n)), .bl (decide (8 = n)), .bl (decide (9 = n)), .bl (decide (10 = n)), .bl (decide (11 = n))])) ⟨fun b o z => same_new h3 _ _ (same_new hp3 _ _ (e2 b o z)), upd_same⟩ fun H3 ⟨e3, g3⟩ => ?_
  refine ⟨_, rfl, _, rfl, A.rz n, _, _, _, rfl, T.xd n hn, rfl, rel_ref, (by have z := T.ki n hn 12 (by decide); rw [T.rz12] at z; exact z), (hd_same hd e3), _, rfl, A.rz n, _, _, _, rfl, T.xd n hn, rfl, rel_ref, (by have z := T.ki n hn 13 (by decide); rw [T.rz13] at z; exact z), (hd_same hd e3), _, rfl, A.rz n, _, _, _, rfl, T.xd n hn, rfl, rel_ref, (by have z := T.ki n hn 14 (by decide); rw [T.rz14] at z; exact z), (hd_same hd e3), (by show 3 ≤ sizeLine; rw [sizeLine_eq]; decide), fun p4 hp4 => ⟨_, _, _, _, rfl, rfl, same_new hp4 _ _ g3, upd_same, (by show 15 ≤ sizeLine; rw [sizeLine_eq]; decide), fun q4 h4 => ?_⟩⟩
  dsimp only [gName]
  refine heap_gen (fun h => Same H h ∧ h q4 = some (.lst [.bl (decide (0 = n)), .bl (decide (1 = n)), .bl (decide (2 = n)), .bl (decide (3 = n)), .bl (decide (4 = n)), .bl (decide (5 = n)), .bl (decide (6 = n)), .bl (decide (7 = n)), .bl (decide (8 = n)), .bl (decide (9 = n)), .bl (decide (10 = n)), .bl (decide (11 = n)), .bl (decide (12 = n)), .bl (decide (13 = n)), .bl (decide (14 = n))])) ⟨fun b o z => same_new h4 _ _ (same_new hp4 _ _ (e3 b o z)), upd_same⟩ fun H4 ⟨e4, g4⟩ => ?_
  refine ⟨_, rfl, _, rfl, A.rz n, _, _, _, rfl, T.xd n hn, rfl, rel_ref, (by have z := T.ki n hn 15 (by decide); rw [T.rz15] at z; exact z), (hd_same hd e4), _, rfl, A.rz n, _, _, _, rfl, T.xd n hn, rfl, rel_ref, (by have z := T.ki n hn 16 (by decide); rw [T.rz16] at z; exact z), (hd_same hd e4), _, rfl, A.rz n, _, _, _, rfl, T.xd n hn, rfl, rel_ref, (by have z := T.ki n hn 17 (by decide); rw [T.rz17] at z; exact z), (hd_same hd e4), (by show 3 ≤ sizeLine; rw [sizeLine_eq]; decide), fun p5 hp5 => ⟨_, _, _, _, rfl, rfl, same_new hp5 _ _ g4, upd_same, (by show 18 ≤ sizeLine; rw [sizeLine_eq]; decide), fun q5 h5 => ?_⟩⟩
  dsimp only [gName]
  refine heap_gen (fun h => Same H h ∧ h q5 = some (.lst [.bl (decide (0 = n)), .bl (decide (1 = n)), .bl (decide (2 = n)), .bl (decide (3 = n)), .bl (decide (4 = n)), .bl (decide (5 = n)), .bl (decide (6 = n)), .bl (decide (7 = n)), .bl (decide (8 = n)), .bl (decide (9 = n)), .bl (decide (10 = n)), .bl (decide (11 = n)), .bl (decide (12 = n)), .bl (decide (13 = n)), .bl (decide (14 = n)), .bl (decide (15 = n)), .bl (decide (16 = n)), .bl (decide (17 = n))])) ⟨fun b o z => same_new h5 _ _ (same_new hp5 _ _ (e4 b o z)), upd_same⟩ fun H5 ⟨e5, g5⟩ => ?_
  refine ⟨_, rfl, _, rfl, A.rz n, _, _, _, rfl, T.xd n hn, rfl, rel_ref, (by have z := T.ki n hn 18 (by decide); rw [T.rz18] at z; exact z), (hd_same hd e5), _, rfl, A.rz n, _, _, _, rfl, T.xd n hn, rfl, rel_ref, (by have z := T.ki n hn 19 (by decide); rw [T.rz19] at z; exact z), (hd_same hd e5), _, rfl, A.rz n, _, _, _, rfl, T.xd n hn, rfl, rel_ref, (by have z := T.ki n hn 20 (by decide); rw [T.rz20] at z; exact z), (hd_same hd e5), (by show 3 ≤ sizeLine; rw [sizeLine_eq]; decide), fun p6 hp6 => ⟨_, _, _, _, rfl, rfl, same_new hp6 _ _ g5, upd_same, (by show 21 ≤ sizeLine; rw [sizeLine_eq]; decide), fun q6 h6 => ?_⟩⟩
  dsimp only [gName]
  refine heap_gen (fun h => Same H h ∧ h q6 = some (.lst [.bl (decide (0 = n)), .bl (decide (1 = n)), .bl (decide (2 = n)), .bl (decide (3 = n)), .bl (decide (4 = n)), .bl (decide (5 = n)), .bl (decide (6 = n)), .bl (decide (7 = n)), .bl (decide (8 = n)), .bl (decide (9 = n)), .bl (decide (10 = n)), .bl (decide (11 = n)), .bl (decide (12 = n)), .bl (decide (13 = n)), .bl (decide (14 = n)), .bl (decide (15 = n)), .bl (decide (16 = n)), .bl (decide (17 = n)), .bl (decide (18 = n)), .bl (decide (19 = n)), .bl (decide (20 = n))])) ⟨fun b o z => same_new h6 _ _ (same_new hp6 _ _ (e5 b o z)), upd_same⟩ fun H6 ⟨e6, g6⟩ => ?_
  refine ⟨_, rfl, _, rfl, A.rz n, _, _, _, rfl, T.xd n hn, rfl, rel_ref, (by have z := T.ki n hn 21 (by decide); rw [T.rz21] at z; exact z), (hd_same hd e6), _, rfl, A.rz n, _, _, _, rfl, T.xd n hn, rfl, rel_ref, (by have z := T.ki n hn 22 (by decide); rw [T.rz22] at z; exact z), (hd_same hd e6), _, rfl, A.rz n, _, _, _, rfl, T.xd n hn, rfl, rel_ref, (by have z := T.ki n hn 23 (by decide); rw [T.rz23] at z; exact z), (hd_same hd e6), (by show 3 ≤ sizeLine; rw [sizeLine_eq]; decide), fun p7 hp7 => ⟨_, _, _, _, rfl, rfl, same_new hp7 _ _ g6, upd_same, (by show 24 ≤ sizeLine; rw [sizeLine_eq]; decide), fun q7 h7 => ?_⟩⟩
  exact k _ _ (fun b o z => same_new h7 _ _ (same_new hp7 _ _ (e6 b o z))) upd_same


theorem okE__law_fields (T : Txt K mg A) : FnE P w K mg base CX0 1 A.f__law_fields A.d__law_fields ["e", "which"] (spE__law_fields K A) := by
  refine Fun.okE T.F__law_fields sc__law_fields (fun a cls d vs H Q E h => sp2_len h) (fun cdv A0 outer s H vs Q E p cls d hr hz hf h => ?_)
  have nd := sc__law_fields.nd
  refine ⟨_, (pss_cons (ps_if (pt_cmpR op_in_seq (pv 1) (pe_lst (pa_cons pe_int (pa_cons pe_int (pa_cons pe_int pa_nil)))) (by rfl)) (pss_one (ps_ret (pe_tup (pa_cons (pe_xfP (List.mem_cons_self ..) hz hf (pv 0)) pa_nil)))) pss_nil)
      (pss_cons (ps_if (pt_cmpR op_in_seq (pv 1) (pe_lst (pa_cons pe_int (pa_cons pe_int (pa_cons pe_int pa_nil)))) (by rfl)) (pss_one (ps_ret (pe_tup (pa_cons (pe_xfP (List.mem_cons_self ..) hz hf (pv 0)) pa_nil)))) pss_nil)
      (pss_cons (ps_if (pt_cmpR op_in_seq (pv 1) (pe_lst (pa_cons pe_int (pa_cons pe_int pa_nil))) (by rfl)) (pss_one (ps_ret (pe_tup (pa_cons (pe_xfP (List.mem_cons_self ..) hz hf (pv 0)) (pa_cons (pe_xfP (List.mem_cons_self ..) hz hf (pv 0)) pa_nil))))) pss_nil)
      (pss_cons (ps_if (pt_cmpR op_in_seq (pv 1) (pe_lst (pa_cons pe_int (pa_cons pe_int pa_nil))) (by rfl)) (pss_one (ps_ret (pe_tup (pa_cons (pe_xfP (List.mem_cons_self ..) hz hf (pv 0)) pa_nil)))) pss_nil)
      (pss_cons (ps_if (pt_cmpR op_in_seq (pv 1) (pe_lst (pa_cons pe_int (pa_cons pe_int pa_nil))) (by rfl)) (pss_one (ps_ret (pe_tup (pa_cons (pe_xfP (List.mem_cons_self ..) hz hf (pv 0)) pa_nil)))) pss_nil)
      (pss_cons (ps_if (pt_cmpR op_eq (pv 1) pe_int (nomark _)) (pss_one (ps_ret (pe_tup (pa_cons (pe_xfP (List.mem_cons_self ..) hz hf (pv 0)) pa_nil)))) pss_nil)
      (pss_cons (ps_if (pt_cmpR op_eq (pv 1) pe_int (nomark _)) (pss_one (ps_ret (pe_tup (pa_cons (pe_xfP (List.mem_cons_self ..) hz hf (pv 0)) pa_nil)))) pss_nil)
      (pss_cons (ps_if (pt_cmpR op_eq (pv 1) pe_int (nomark _)) (pss_one (ps_ret (pe_tup (pa_cons (pe_xfP (List.mem_cons_self ..) hz hf (pv 0)) pa_nil)))) pss_nil)
      (pss_cons (ps_if (pt_cmpR op_eq (pv 1) pe_int (nomark _)) (pss_one (ps_ret (pe_tup (pa_cons (pe_xfP (List.mem_cons_self ..) hz hf (pv 0)) (pa_cons (pe_xfP (List.mem_cons_self ..) hz hf (pv 0)) pa_nil))))) pss_nil)
      (pss_cons (ps_if (pt_cmpR op_eq (pv 1) pe_int (nomark _)) (pss_one (ps_ret (pe_tup (pa_cons (pe_xfP (List.mem_cons_self ..) hz hf (pv 0)) pa_nil)))) pss_nil)
      (pss_one (ps_ret (pe_tup pa_nil))))))))))))), ?_⟩
  clear nd hr
  replace h := sp2_of h
  obtain ⟨v_e, v_which, rfl, n, x, y, hn, rfl, rfl, rfl, hD, k⟩ := h
  have nn : n = 0 ∨ n = 1 ∨ n = 2 ∨ n = 3 ∨ n = 4 ∨ n = 5 ∨ n = 6 ∨ n = 7 ∨ n = 8 ∨ n = 9 ∨ n = 10 ∨ n = 11 ∨ n = 12 ∨ n = 13 ∨ n = 14 ∨ n = 15 ∨ n = 16 ∨ n = 17 ∨ n = 18 ∨ n = 19 ∨ n = 20 ∨ n = 21 ∨ n = 22 ∨ n = 23 := by omega
  rcases nn with rfl | rfl | rfl | rfl | rfl | rfl | rfl | rfl | rfl | rfl | rfl | rfl | rfl | rfl | rfl | rfl | rfl | rfl | rfl | rfl | rfl | rfl | rfl | rfl
  · have hD0 := hD
    unfold DictAt flds at hD
    rw [if_neg (by decide +kernel), show fln 0 = (["part"] : List Str) from by decide +kernel] at hD
    obtain ⟨dd, rfl, hd⟩ := hD
    have e0 : Same H H := fun _ _ z => z
    refine ⟨_, rfl, (by show 3 ≤ sizeLine; rw [sizeLine_eq]; decide), fun p0 hp0 => ⟨p0, _, rfl, .inl (SqL.of upd_same), rfl, rfl, _, rfl, iteB (fun z => ?_) (fun z => ?_)⟩⟩
    · exact ⟨_, rfl, rfl, A.c_BadKind, dd, _, _, by rw [T.rz0], T.xf_BadKind, T.nx_BadKind_part, rfl, same_new hp0 _ _ (hd), lk1, (by show 1 ≤ sizeLine; rw [sizeLine_eq]; decide), fun q hq => k q _ (fun b o z => same_new hq _ _ (same_new hp0 _ _ (z))) upd_same⟩
    · exact absurd z (by decide +kernel)
  · have hD0 := hD
    unfold DictAt flds at hD
    rw [if_neg (by decide +kernel), show fln 1 = (["part"] : List Str) from by decide +kernel] at hD
    obtain ⟨dd, rfl, hd⟩ := hD
    have e0 : Same H H := fun _ _ z => z
    refine ⟨_, rfl, (by show 3 ≤ sizeLine; rw [sizeLine_eq]; decide), fun p0 hp0 => ⟨p0, _, rfl, .inl (SqL.of upd_same), rfl, rfl, _, rfl, iteB (fun z => ?_) (fun z => ?_)⟩⟩
    · exact ⟨_, rfl, rfl, A.c_BadEdition, dd, _, _, by rw [T.rz1], T.xf_BadEdition, T.nx_BadEdition_part, rfl, same_new hp0 _ _ (hd), lk1, (by show 1 ≤ sizeLine; rw [sizeLine_eq]; decide), fun q hq => k q _ (fun b o z => same_new hq _ _ (same_new hp0 _ _ (z))) upd_same⟩
    · exact absurd z (by decide +kernel)
  · have hD0 := hD
    unfold DictAt flds at hD
    rw [if_neg (by decide +kernel), show fln 2 = (["name"] : List Str) from by decide +kernel] at hD
    obtain ⟨dd, rfl, hd⟩ := hD
    have e0 : Same H H := fun _ _ z => z
    refine ⟨_, rfl, (by show 3 ≤ sizeLine; rw [sizeLine_eq]; decide), fun p0 hp0 => ⟨p0, _, rfl, .inl (SqL.of upd_same), rfl, rfl, _, rfl, iteB (fun z => ?_) (fun z => ?_)⟩⟩
    · exact absurd z (by decide +kernel)
    refine ⟨_, rfl, (by show 3 ≤ sizeLine; rw [sizeLine_eq]; decide), fun p1 hp1 => ⟨p1, _, rfl, .inl (SqL.of upd_same), rfl, rfl, _, rfl, iteB (fun z => ?_) (fun z => ?_)⟩⟩
    · exact ⟨_, rfl, rfl, A.c_MissingKind, dd, _, _, by rw [T.rz2], T.xf_MissingKind, T.nx_MissingKind_name, rfl, same_new hp1 _ _ (same_new hp0 _ _ (hd)), lk1, (by show 1 ≤ sizeLine; rw [sizeLine_eq]; decide), fun q hq => k q _ (fun b o z => same_new hq _ _ (same_new hp1 _ _ (same_new hp0 _ _ (z)))) upd_same⟩
    · exact absurd z (by decide +kernel)
  · have hD0 := hD
    unfold DictAt flds at hD
    rw [if_neg (by decide +kernel), show fln 3 = (["name"] : List Str) from by decide +kernel] at hD
    obtain ⟨dd, rfl, hd⟩ := hD
    have e0 : Same H H := fun _ _ z => z
    refine ⟨_, rfl, (by show 3 ≤ sizeLine; rw [sizeLine_eq]; decide), fun p0 hp0 => ⟨p0, _, rfl, .inl (SqL.of upd_same), rfl, rfl, _, rfl, iteB (fun z => ?_) (fun z => ?_)⟩⟩
    · exact absurd z (by decide +kernel)
    refine ⟨_, rfl, (by show 3 ≤ sizeLine; rw [sizeLine_eq]; decide), fun p1 hp1 => ⟨p1, _, rfl, .inl (SqL.of upd_same), rfl, rfl, _, rfl, iteB (fun z => ?_) (fun z => ?_)⟩⟩
    · exact ⟨_, rfl, rfl, A.c_RingOfCalls, dd, _, _, by rw [T.rz3], T.xf_RingOfCalls, T.nx_RingOfCalls_name, rfl, same_new hp1 _ _ (same_new hp0 _ _ (hd)), lk1, (by show 1 ≤ sizeLine; rw [sizeLine_eq]; decide), fun q hq => k q _ (fun b o z => same_new hq _ _ (same_new hp1 _ _ (same_new hp0 _ _ (z)))) upd_same⟩
    · exact absurd z (by decide +kernel)
  · have hD0 := hD
    unfold DictAt flds at hD
    rw [if_neg (by decide +kernel), show fln 4 = (["name", "inner"] : List Str) from by decide +kernel] at hD
    obtain ⟨dd, rfl, hd⟩ := hD
    have e0 : Same H H := fun _ _ z => z
    refine ⟨_, rfl, (by show 3 ≤ sizeLine; rw [sizeLine_eq]; decide), fun p0 hp0 => ⟨p0, _, rfl, .inl (SqL.of upd_same), rfl, rfl, _, rfl, iteB (fun z => ?_) (fun z => ?_)⟩⟩
    · exact absurd z (by decide +kernel)
    refine ⟨_, rfl, (by show 3 ≤ sizeLine; rw [sizeLine_eq]; decide), fun p1 hp1 => ⟨p1, _, rfl, .inl (SqL.of upd_same), rfl, rfl, _, rfl, iteB (fun z => ?_) (fun z => ?_)⟩⟩
    · exact absurd z (by decide +kernel)
    refine ⟨_, rfl, (by show 2 ≤ sizeLine; rw [sizeLine_eq]; decide), fun p2 hp2 => ⟨p2, _, rfl, .inl (SqL.of upd_same), rfl, rfl, _, rfl, iteB (fun z => ?_) (fun z => ?_)⟩⟩
    · exact ⟨_, rfl, rfl, A.c_LongBody, dd, _, _, by rw [T.rz4], T.xf_LongBody, T.nx_LongBody_name, rfl, same_new hp2 _ _ (same_new hp1 _ _ (same_new hp0 _ _ (hd))), lkA (by decide +kernel), _, rfl, rfl, A.c_LongBody, dd, _, _, by rw [T.rz4], T.xf_LongBody, T.nx_LongBody_inner, rfl, same_new hp2 _ _ (same_new hp1 _ _ (same_new hp0 _ _ (hd))), lkB, (by show 2 ≤ sizeLine; rw [sizeLine_eq]; decide), fun q hq => k q _ (fun b o z => same_new hq _ _ (same_new hp2 _ _ (same_new hp1 _ _ (same_new hp0 _ _ (z))))) upd_same⟩
    · exact absurd z (by decide +kernel)
  · have hD0 := hD
    unfold DictAt flds at hD
    rw [if_neg (by decide +kernel), show fln 5 = (["name", "inner"] : List Str) from by decide +kernel] at hD
    obtain ⟨dd, rfl, hd⟩ := hD
    have e0 : Same H H := fun _ _ z => z
    refine ⟨_, rfl, (by show 3 ≤ sizeLine; rw [sizeLine_eq]; decide), fun p0 hp0 => ⟨p0, _, rfl, .inl (SqL.of upd_same), rfl, rfl, _, rfl, iteB (fun z => ?_) (fun z => ?_)⟩⟩
    · exact absurd z (by decide +kernel)
    refine ⟨_, rfl, (by show 3 ≤ sizeLine; rw [sizeLine_eq]; decide), fun p1 hp1 => ⟨p1, _, rfl, .inl (SqL.of upd_same), rfl, rfl, _, rfl, iteB (fun z => ?_) (fun z => ?_)⟩⟩
    · exact absurd z (by decide +kernel)
    refine ⟨_, rfl, (by show 2 ≤ sizeLine; rw [sizeLine_eq]; decide), fun p2 hp2 => ⟨p2, _, rfl, .inl (SqL.of upd_same), rfl, rfl, _, rfl, iteB (fun z => ?_) (fun z => ?_)⟩⟩
    · exact ⟨_, rfl, rfl, A.c_RoomTaken, dd, _, _, by rw [T.rz5], T.xf_RoomTaken, T.nx_RoomTaken_name, rfl, same_new hp2 _ _ (same_new hp1 _ _ (same_new hp0 _ _ (hd))), lkA (by decide +kernel), _, rfl, rfl, A.c_RoomTaken, dd, _, _, by rw [T.rz5], T.xf_RoomTaken, T.nx_RoomTaken_inner, rfl, same_new hp2 _ _ (same_new hp1 _ _ (same_new hp0 _ _ (hd))), lkB, (by show 2 ≤ sizeLine; rw [sizeLine_eq]; decide), fun q hq => k q _ (fun b o z => same_new hq _ _ (same_new hp2 _ _ (same_new hp1 _ _ (same_new hp0 _ _ (z))))) upd_same⟩
    · exact absurd z (by decide +kernel)
  · have hD0 := hD
    unfold DictAt flds at hD
    clear hD
    have e0 : Same H H := fun _ _ z => z
    refine ⟨_, rfl, (by show 3 ≤ sizeLine; rw [sizeLine_eq]; decide), fun p0 hp0 => ⟨p0, _, rfl, .inl (SqL.of upd_same), rfl, rfl, _, rfl, iteB (fun z => ?_) (fun z => ?_)⟩⟩
    · exact absurd z (by decide +kernel)
    refine ⟨_, rfl, (by show 3 ≤ sizeLine; rw [sizeLine_eq]; decide), fun p1 hp1 => ⟨p1, _, rfl, .inl (SqL.of upd_same), rfl, rfl, _, rfl, iteB (fun z => ?_) (fun z => ?_)⟩⟩
    · exact absurd z (by decide +kernel)
    refine ⟨_, rfl, (by show 2 ≤ sizeLine; rw [sizeLine_eq]; decide), fun p2 hp2 => ⟨p2, _, rfl, .inl (SqL.of upd_same), rfl, rfl, _, rfl, iteB (fun z => ?_) (fun z => ?_)⟩⟩
    · exact absurd z (by decide +kernel)
    refine ⟨_, rfl, (by show 2 ≤ sizeLine; rw [sizeLine_eq]; decide), fun p3 hp3 => ⟨p3, _, rfl, .inl (SqL.of upd_same), rfl, rfl, _, rfl, iteB (fun z => ?_) (fun z => ?_)⟩⟩
    · exact absurd z (by decide +kernel)
    refine ⟨_, rfl, (by show 2 ≤ sizeLine; rw [sizeLine_eq]; decide), fun p4 hp4 => ⟨p4, _, rfl, .inl (SqL.of upd_same), rfl, rfl, _, rfl, iteB (fun z => ?_) (fun z => ?_)⟩⟩
    · exact absurd z (by decide +kernel)
    refine ⟨_, rfl, rfl, _, rfl, iteB (fun z => ?_) (fun z => ?_)⟩
    · exact absurd z (by decide +kernel)
    refine ⟨_, rfl, rfl, _, rfl, iteB (fun z => ?_) (fun z => ?_)⟩
    · exact absurd z (by decide +kernel)
    refine ⟨_, rfl, rfl, _, rfl, iteB (fun z => ?_) (fun z => ?_)⟩
    · exact absurd z (by decide +kernel)
    refine ⟨_, rfl, rfl, _, rfl, iteB (fun z => ?_) (fun z => ?_)⟩
    · exact absurd z (by decide +kernel)
    refine ⟨_, rfl, rfl, _, rfl, iteB (fun z => ?_) (fun z => ?_)⟩
    · exact absurd z (by decide +kernel)
    exact ⟨(by show 0 ≤ sizeLine; rw [sizeLine_eq]; decide), fun q hq => k q _ (fun b o z => same_new hq _ _ (same_new hp4 _ _ (same_new hp3 _ _ (same_new hp2 _ _ (same_new hp1 _ _ (same_new hp0 _ _ (z))))))) upd_same⟩
  · have hD0 := hD
    unfold DictAt flds at hD
    clear hD
    have e0 : Same H H := fun _ _ z => z
    refine ⟨_, rfl, (by show 3 ≤ sizeLine; rw [sizeLine_eq]; decide), fun p0 hp0 => ⟨p0, _, rfl, .inl (SqL.of upd_same), rfl, rfl, _, rfl, iteB (fun z => ?_) (fun z => ?_)⟩⟩
    · exact absurd z (by decide +kernel)
    refine ⟨_, rfl, (by show 3 ≤ sizeLine; rw [sizeLine_eq]; decide), fun p1 hp1 => ⟨p1, _, rfl, .inl (SqL.of upd_same), rfl, rfl, _, rfl, iteB (fun z => ?_) (fun z => ?_)⟩⟩
    · exact absurd z (by decide +kernel)
    refine ⟨_, rfl, (by show 2 ≤ sizeLine; rw [sizeLine_eq]; decide), fun p2 hp2 => ⟨p2, _, rfl, .inl (SqL.of upd_same), rfl, rfl, _, rfl, iteB (fun z => ?_) (fun z => ?_)⟩⟩
    · exact absurd z (by decide +kernel)
    refine ⟨_, rfl, (by show 2 ≤ sizeLine; rw [sizeLine_eq]; decide), fun p3 hp3 => ⟨p3, _, rfl, .inl (SqL.of upd_same), rfl, rfl, _, rfl, iteB (fun z => ?_) (fun z => ?_)⟩⟩
    · exact absurd z (by decide +kernel)
    refine ⟨_, rfl, (by show 2 ≤ sizeLine; rw [sizeLine_eq]; decide), fun p4 hp4 => ⟨p4, _, rfl, .inl (SqL.of upd_same), rfl, rfl, _, rfl, iteB (fun z => ?_) (fun z => ?_)⟩⟩
    · exact absurd z (by decide +kernel)
    refine ⟨_, rfl, rfl, _, rfl, iteB (fun z => ?_) (fun z => ?_)⟩
    · exact absurd z (by decide +kernel)
    refine ⟨_, rfl, rfl, _, rfl, iteB (fun z => ?_) (fun z => ?_)⟩
    · exact absurd z (by decide +kernel)
    refine ⟨_, rfl, rfl, _, rfl, iteB (fun z => ?_) (fun z => ?_)⟩
    · exact absurd z (by decide +kernel)
    refine ⟨_, rfl, rfl, _, rfl, iteB (fun z => ?_) (fun z => ?_)⟩
    · exact absurd z (by decide +kernel)
    refine ⟨_, rfl, rfl, _, rfl, iteB (fun z => ?_) (fun z => ?_)⟩
    · exact absurd z (by decide +kernel)
    exact ⟨(by show 0 ≤ sizeLine; rw [sizeLine_eq]; decide), fun q hq => k q _ (fun b o z => same_new hq _ _ (same_new hp4 _ _ (same_new hp3 _ _ (same_new hp2 _ _ (same_new hp1 _ _ (same_new hp0 _ _ (z))))))) upd_same⟩
  · have hD0 := hD
    unfold DictAt flds at hD
    rw [if_neg (by decide +kernel), show fln 8 = (["path"] : List Str) from by decide +kernel] at hD
    obtain ⟨dd, rfl, hd⟩ := hD
    have e0 : Same H H := fun _ _ z => z
    refine ⟨_, rfl, (by show 3 ≤ sizeLine; rw [sizeLine_eq]; decide), fun p0 hp0 => ⟨p0, _, rfl, .inl (SqL.of upd_same), rfl, rfl, _, rfl, iteB (fun z => ?_) (fun z => ?_)⟩⟩
    · exact absurd z (by decide +kernel)
    refine ⟨_, rfl, (by show 3 ≤ sizeLine; rw [sizeLine_eq]; decide), fun p1 hp1 => ⟨p1, _, rfl, .inl (SqL.of upd_same), rfl, rfl, _, rfl, iteB (fun z => ?_) (fun z => ?_)⟩⟩
    · exact absurd z (by decide +kernel)
    refine ⟨_, rfl, (by show 2 ≤ sizeLine; rw [sizeLine_eq]; decide), fun p2 hp2 => ⟨p2, _, rfl, .inl (SqL.of upd_same), rfl, rfl, _, rfl, iteB (fun z => ?_) (fun z => ?_)⟩⟩
    · exact absurd z (by decide +kernel)
    refine ⟨_, rfl, (by show 2 ≤ sizeLine; rw [sizeLine_eq]; decide), fun p3 hp3 => ⟨p3, _, rfl, .inl (SqL.of upd_same), rfl, rfl, _, rfl, iteB (fun z => ?_) (fun z => ?_)⟩⟩
    · exact ⟨_, rfl, rfl, A.c_BadValue, dd, _, _, by rw [T.rz8], T.xf_BadValue, T.nx_BadValue_path, rfl, same_new hp3 _ _ (same_new hp2 _ _ (same_new hp1 _ _ (same_new hp0 _ _ (hd)))), lk1, (by show 1 ≤ sizeLine; rw [sizeLine_eq]; decide), fun q hq => k q _ (fun b o z => same_new hq _ _ (same_new hp3 _ _ (same_new hp2 _ _ (same_new hp1 _ _ (same_new hp0 _ _ (z)))))) upd_same⟩
    · exact absurd z (by decide +kernel)
  · have hD0 := hD
    unfold DictAt flds at hD
    rw [if_neg (by decide +kernel), show fln 9 = (["at"] : List Str) from by decide +kernel] at hD
    obtain ⟨dd, rfl, hd⟩ := hD
    have e0 : Same H H := fun _ _ z => z
    refine ⟨_, rfl, (by show 3 ≤ sizeLine; rw [sizeLine_eq]; decide), fun p0 hp0 => ⟨p0, _, rfl, .inl (SqL.of upd_same), rfl, rfl, _, rfl, iteB (fun z => ?_) (fun z => ?_)⟩⟩
    · exact absurd z (by decide +kernel)
    refine ⟨_, rfl, (by show 3 ≤ sizeLine; rw [sizeLine_eq]; decide), fun p1 hp1 => ⟨p1, _, rfl, .inl (SqL.of upd_same), rfl, rfl, _, rfl, iteB (fun z => ?_) (fun z => ?_)⟩⟩
    · exact absurd z (by decide +kernel)
    refine ⟨_, rfl, (by show 2 ≤ sizeLine; rw [sizeLine_eq]; decide), fun p2 hp2 => ⟨p2, _, rfl, .inl (SqL.of upd_same), rfl, rfl, _, rfl, iteB (fun z => ?_) (fun z => ?_)⟩⟩
    · exact absurd z (by decide +kernel)
    refine ⟨_, rfl, (by show 2 ≤ sizeLine; rw [sizeLine_eq]; decide), fun p3 hp3 => ⟨p3, _, rfl, .inl (SqL.of upd_same), rfl, rfl, _, rfl, iteB (fun z => ?_) (fun z => ?_)⟩⟩
    · exact absurd z (by decide +kernel)
    refine ⟨_, rfl, (by show 2 ≤ sizeLine; rw [sizeLine_eq]; decide), fun p4 hp4 => ⟨p4, _, rfl, .inl (SqL.of upd_same), rfl, rfl, _, rfl, iteB (fun z => ?_) (fun z => ?_)⟩⟩
    · exact ⟨_, rfl, rfl, A.c_BadBits, dd, _, _, by rw [T.rz9], T.xf_BadBits, T.nx_BadBits_at, rfl, same_new hp4 _ _ (same_new hp3 _ _ (same_new hp2 _ _ (same_new hp1 _ _ (same_new hp0 _ _ (hd))))), lk1, (by show 1 ≤ sizeLine; rw [sizeLine_eq]; decide), fun q hq => k q _ (fun b o z => same_new hq _ _ (same_new hp4 _ _ (same_new hp3 _ _ (same_new hp2 _ _ (same_new hp1 _ _ (same_new hp0 _ _ (z))))))) upd_same⟩
    · exact absurd z (by decide +kernel)
  · have hD0 := hD
    unfold DictAt flds at hD
    rw [if_neg (by decide +kernel), show fln 10 = (["due"] : List Str) from by decide +kernel] at hD
    obtain ⟨dd, rfl, hd⟩ := hD
    have e0 : Same H H := fun _ _ z => z
    refine ⟨_, rfl, (by show 3 ≤ sizeLine; rw [sizeLine_eq]; decide), fun p0 hp0 => ⟨p0, _, rfl, .inl (SqL.of upd_same), rfl, rfl, _, rfl, iteB (fun z => ?_) (fun z => ?_)⟩⟩
    · exact absurd z (by decide +kernel)
    refine ⟨_, rfl, (by show 3 ≤ sizeLine; rw [sizeLine_eq]; decide), fun p1 hp1 => ⟨p1, _, rfl, .inl (SqL.of upd_same), rfl, rfl, _, rfl, iteB (fun z => ?_) (fun z => ?_)⟩⟩
    · exact absurd z (by decide +kernel)
    refine ⟨_, rfl, (by show 2 ≤ sizeLine; rw [sizeLine_eq]; decide), fun p2 hp2 => ⟨p2, _, rfl, .inl (SqL.of upd_same), rfl, rfl, _, rfl, iteB (fun z => ?_) (fun z => ?_)⟩⟩
    · exact absurd z (by decide +kernel)
    refine ⟨_, rfl, (by show 2 ≤ sizeLine; rw [sizeLine_eq]; decide), fun p3 hp3 => ⟨p3, _, rfl, .inl (SqL.of upd_same), rfl, rfl, _, rfl, iteB (fun z => ?_) (fun z => ?_)⟩⟩
    · exact absurd z (by decide +kernel)
    refine ⟨_, rfl, (by show 2 ≤ sizeLine; rw [sizeLine_eq]; decide), fun p4 hp4 => ⟨p4, _, rfl, .inl (SqL.of upd_same), rfl, rfl, _, rfl, iteB (fun z => ?_) (fun z => ?_)⟩⟩
    · exact absurd z (by decide +kernel)
    refine ⟨_, rfl, rfl, _, rfl, iteB (fun z => ?_) (fun z => ?_)⟩
    · exact ⟨_, rfl, rfl, A.c_TooFew, dd, _, _, by rw [T.rz10], T.xf_TooFew, T.nx_TooFew_due, rfl, same_new hp4 _ _ (same_new hp3 _ _ (same_new hp2 _ _ (same_new hp1 _ _ (same_new hp0 _ _ (hd))))), lk1, (by show 1 ≤ sizeLine; rw [sizeLine_eq]; decide), fun q hq => k q _ (fun b o z => same_new hq _ _ (same_new hp4 _ _ (same_new hp3 _ _ (same_new hp2 _ _ (same_new hp1 _ _ (same_new hp0 _ _ (z))))))) upd_same⟩
    · exact absurd z (by decide +kernel)
  · have hD0 := hD
    unfold DictAt flds at hD
    rw [if_neg (by decide +kernel), show fln 11 = (["at"] : List Str) from by decide +kernel] at hD
    obtain ⟨dd, rfl, hd⟩ := hD
    have e0 : Same H H := fun _ _ z => z
    refine ⟨_, rfl, (by show 3 ≤ sizeLine; rw [sizeLine_eq]; decide), fun p0 hp0 => ⟨p0, _, rfl, .inl (SqL.of upd_same), rfl, rfl, _, rfl, iteB (fun z => ?_) (fun z => ?_)⟩⟩
    · exact absurd z (by decide +kernel)
    refine ⟨_, rfl, (by show 3 ≤ sizeLine; rw [sizeLine_eq]; decide), fun p1 hp1 => ⟨p1, _, rfl, .inl (SqL.of upd_same), rfl, rfl, _, rfl, iteB (fun z => ?_) (fun z => ?_)⟩⟩
    · exact absurd z (by decide +kernel)
    refine ⟨_, rfl, (by show 2 ≤ sizeLine; rw [sizeLine_eq]; decide), fun p2 hp2 => ⟨p2, _, rfl, .inl (SqL.of upd_same), rfl, rfl, _, rfl, iteB (fun z => ?_) (fun z => ?_)⟩⟩
    · exact absurd z (by decide +kernel)
    refine ⟨_, rfl, (by show 2 ≤ sizeLine; rw [sizeLine_eq]; decide), fun p3 hp3 => ⟨p3, _, rfl, .inl (SqL.of upd_same), rfl, rfl, _, rfl, iteB (fun z => ?_) (fun z => ?_)⟩⟩
    · exact absurd z (by decide +kernel)
    refine ⟨_, rfl, (by show 2 ≤ sizeLine; rw [sizeLine_eq]; decide), fun p4 hp4 => ⟨p4, _, rfl, .inl (SqL.of upd_same), rfl, rfl, _, rfl, iteB (fun z => ?_) (fun z => ?_)⟩⟩
    · exact ⟨_, rfl, rfl, A.c_Left, dd, _, _, by rw [T.rz11], T.xf_Left, T.nx_Left_at, rfl, same_new hp4 _ _ (same_new hp3 _ _ (same_new hp2 _ _ (same_new hp1 _ _ (same_new hp0 _ _ (hd))))), lk1, (by show 1 ≤ sizeLine; rw [sizeLine_eq]; decide), fun q hq => k q _ (fun b o z => same_new hq _ _ (same_new hp4 _ _ (same_new hp3 _ _ (same_new hp2 _ _ (same_new hp1 _ _ (same_new hp0 _ _ (z))))))) upd_same⟩
    · exact absurd z (by decide +kernel)
  · have hD0 := hD
    unfold DictAt flds at hD
    clear hD
    have e0 : Same H H := fun _ _ z => z
    refine ⟨_, rfl, (by show 3 ≤ sizeLine; rw [sizeLine_eq]; decide), fun p0 hp0 => ⟨p0, _, rfl, .inl (SqL.of upd_same), rfl, rfl, _, rfl, iteB (fun z => ?_) (fun z => ?_)⟩⟩
    · exact absurd z (by decide +kernel)
    refine ⟨_, rfl, (by show 3 ≤ sizeLine; rw [sizeLine_eq]; decide), fun p1 hp1 => ⟨p1, _, rfl, .inl (SqL.of upd_same), rfl, rfl, _, rfl, iteB (fun z => ?_) (fun z => ?_)⟩⟩
    · exact absurd z (by decide +kernel)
    refine ⟨_, rfl, (by show 2 ≤ sizeLine; rw [sizeLine_eq]; decide), fun p2 hp2 => ⟨p2, _, rfl, .inl (SqL.of upd_same), rfl, rfl, _, rfl, iteB (fun z => ?_) (fun z => ?_)⟩⟩
    · exact absurd z (by decide +kernel)
    refine ⟨_, rfl, (by show 2 ≤ sizeLine; rw [sizeLine_eq]; decide), fun p3 hp3 => ⟨p3, _, rfl, .inl (SqL.of upd_same), rfl, rfl, _, rfl, iteB (fun z => ?_) (fun z => ?_)⟩⟩
    · exact absurd z (by decide +kernel)
    refine ⟨_, rfl, (by show 2 ≤ sizeLine; rw [sizeLine_eq]; decide), fun p4 hp4 => ⟨p4, _, rfl, .inl (SqL.of upd_same), rfl, rfl, _, rfl, iteB (fun z => ?_) (fun z => ?_)⟩⟩
    · exact absurd z (by decide +kernel)
    refine ⟨_, rfl, rfl, _, rfl, iteB (fun z => ?_) (fun z => ?_)⟩
    · exact absurd z (by decide +kernel)
    refine ⟨_, rfl, rfl, _, rfl, iteB (fun z => ?_) (fun z => ?_)⟩
    · exact absurd z (by decide +kernel)
    refine ⟨_, rfl, rfl, _, rfl, iteB (fun z => ?_) (fun z => ?_)⟩
    · exact absurd z (by decide +kernel)
    refine ⟨_, rfl, rfl, _, rfl, iteB (fun z => ?_) (fun z => ?_)⟩
    · exact absurd z (by decide +kernel)
    refine ⟨_, rfl, rfl, _, rfl, iteB (fun z => ?_) (fun z => ?_)⟩
    · exact absurd z (by decide +kernel)
    exact ⟨(by show 0 ≤ sizeLine; rw [sizeLine_eq]; decide), fun q hq => k q _ (fun b o z => same_new hq _ _ (same_new hp4 _ _ (same_new hp3 _ _ (same_new hp2 _ _ (same_new hp1 _ _ (same_new hp0 _ _ (z))))))) upd_same⟩
  · have hD0 := hD
    unfold DictAt flds at hD
    rw [if_neg (by decide +kernel), show fln 13 = (["part"] : List Str) from by decide +kernel] at hD
    obtain ⟨dd, rfl, hd⟩ := hD
    have e0 : Same H H := fun _ _ z => z
    refine ⟨_, rfl, (by show 3 ≤ sizeLine; rw [sizeLine_eq]; decide), fun p0 hp0 => ⟨p0, _, rfl, .inl (SqL.of upd_same), rfl, rfl, _, rfl, iteB (fun z => ?_) (fun z => ?_)⟩⟩
    · exact ⟨_, rfl, rfl, A.c_BadNumber, dd, _, _, by rw [T.rz13], T.xf_BadNumber, T.nx_BadNumber_part, rfl, same_new hp0 _ _ (hd), lk1, (by show 1 ≤ sizeLine; rw [sizeLine_eq]; decide), fun q hq => k q _ (fun b o z => same_new hq _ _ (same_new hp0 _ _ (z))) upd_same⟩
    · exact absurd z (by decide +kernel)
  · have hD0 := hD
    unfold DictAt flds at hD
    rw [if_neg (by decide +kernel), show fln 14 = (["most"] : List Str) from by decide +kernel] at hD
    obtain ⟨dd, rfl, hd⟩ := hD
    have e0 : Same H H := fun _ _ z => z
    refine ⟨_, rfl, (by show 3 ≤ sizeLine; rw [sizeLine_eq]; decide), fun p0 hp0 => ⟨p0, _, rfl, .inl (SqL.of upd_same), rfl, rfl, _, rfl, iteB (fun z => ?_) (fun z => ?_)⟩⟩
    · exact absurd z (by decide +kernel)
    refine ⟨_, rfl, (by show 3 ≤ sizeLine; rw [sizeLine_eq]; decide), fun p1 hp1 => ⟨p1, _, rfl, .inl (SqL.of upd_same), rfl, rfl, _, rfl, iteB (fun z => ?_) (fun z => ?_)⟩⟩
    · exact absurd z (by decide +kernel)
    refine ⟨_, rfl, (by show 2 ≤ sizeLine; rw [sizeLine_eq]; decide), fun p2 hp2 => ⟨p2, _, rfl, .inl (SqL.of upd_same), rfl, rfl, _, rfl, iteB (fun z => ?_) (fun z => ?_)⟩⟩
    · exact absurd z (by decide +kernel)
    refine ⟨_, rfl, (by show 2 ≤ sizeLine; rw [sizeLine_eq]; decide), fun p3 hp3 => ⟨p3, _, rfl, .inl (SqL.of upd_same), rfl, rfl, _, rfl, iteB (fun z => ?_) (fun z => ?_)⟩⟩
    · exact absurd z (by decide +kernel)
    refine ⟨_, rfl, (by show 2 ≤ sizeLine; rw [sizeLine_eq]; decide), fun p4 hp4 => ⟨p4, _, rfl, .inl (SqL.of upd_same), rfl, rfl, _, rfl, iteB (fun z => ?_) (fun z => ?_)⟩⟩
    · exact absurd z (by decide +kernel)
    refine ⟨_, rfl, rfl, _, rfl, iteB (fun z => ?_) (fun z => ?_)⟩
    · exact absurd z (by decide +kernel)
    refine ⟨_, rfl, rfl, _, rfl, iteB (fun z => ?_) (fun z => ?_)⟩
    · exact ⟨_, rfl, rfl, A.c_TooMany, dd, _, _, by rw [T.rz14], T.xf_TooMany, T.nx_TooMany_most, rfl, same_new hp4 _ _ (same_new hp3 _ _ (same_new hp2 _ _ (same_new hp1 _ _ (same_new hp0 _ _ (hd))))), lk1, (by show 1 ≤ sizeLine; rw [sizeLine_eq]; decide), fun q hq => k q _ (fun b o z => same_new hq _ _ (same_new hp4 _ _ (same_new hp3 _ _ (same_new hp2 _ _ (same_new hp1 _ _ (same_new hp0 _ _ (z))))))) upd_same⟩
    · exact absurd z (by decide +kernel)
  · have hD0 := hD
    unfold DictAt flds at hD
    clear hD
    have e0 : Same H H := fun _ _ z => z
    refine ⟨_, rfl, (by show 3 ≤ sizeLine; rw [sizeLine_eq]; decide), fun p0 hp0 => ⟨p0, _, rfl, .inl (SqL.of upd_same), rfl, rfl, _, rfl, iteB (fun z => ?_) (fun z => ?_)⟩⟩
    · exact absurd z (by decide +kernel)
    refine ⟨_, rfl, (by show 3 ≤ sizeLine; rw [sizeLine_eq]; decide), fun p1 hp1 => ⟨p1, _, rfl, .inl (SqL.of upd_same), rfl, rfl, _, rfl, iteB (fun z => ?_) (fun z => ?_)⟩⟩
    · exact absurd z (by decide +kernel)
    refine ⟨_, rfl, (by show 2 ≤ sizeLine; rw [sizeLine_eq]; decide), fun p2 hp2 => ⟨p2, _, rfl, .inl (SqL.of upd_same), rfl, rfl, _, rfl, iteB (fun z => ?_) (fun z => ?_)⟩⟩
    · exact absurd z (by decide +kernel)
    refine ⟨_, rfl, (by show 2 ≤ sizeLine; rw [sizeLine_eq]; decide), fun p3 hp3 => ⟨p3, _, rfl, .inl (SqL.of upd_same), rfl, rfl, _, rfl, iteB (fun z => ?_) (fun z => ?_)⟩⟩
    · exact absurd z (by decide +kernel)
    refine ⟨_, rfl, (by show 2 ≤ sizeLine; rw [sizeLine_eq]; decide), fun p4 hp4 => ⟨p4, _, rfl, .inl (SqL.of upd_same), rfl, rfl, _, rfl, iteB (fun z => ?_) (fun z => ?_)⟩⟩
    · exact absurd z (by decide +kernel)
    refine ⟨_, rfl, rfl, _, rfl, iteB (fun z => ?_) (fun z => ?_)⟩
    · exact absurd z (by decide +kernel)
    refine ⟨_, rfl, rfl, _, rfl, iteB (fun z => ?_) (fun z => ?_)⟩
    · exact absurd z (by decide +kernel)
    refine ⟨_, rfl, rfl, _, rfl, iteB (fun z => ?_) (fun z => ?_)⟩
    · exact absurd z (by decide +kernel)
    refine ⟨_, rfl, rfl, _, rfl, iteB (fun z => ?_) (fun z => ?_)⟩
    · exact absurd z (by decide +kernel)
    refine ⟨_, rfl, rfl, _, rfl, iteB (fun z => ?_) (fun z => ?_)⟩
    · exact absurd z (by decide +kernel)
    exact ⟨(by show 0 ≤ sizeLine; rw [sizeLine_eq]; decide), fun q hq => k q _ (fun b o z => same_new hq _ _ (same_new hp4 _ _ (same_new hp3 _ _ (same_new hp2 _ _ (same_new hp1 _ _ (same_new hp0 _ _ (z))))))) upd_same⟩
  · have hD0 := hD
    unfold DictAt flds at hD
    rw [if_neg (by decide +kernel), show fln 16 = (["reason"] : List Str) from by decide +kernel] at hD
    obtain ⟨dd, rfl, hd⟩ := hD
    have e0 : Same H H := fun _ _ z => z
    refine ⟨_, rfl, (by show 3 ≤ sizeLine; rw [sizeLine_eq]; decide), fun p0 hp0 => ⟨p0, _, rfl, .inl (SqL.of upd_same), rfl, rfl, _, rfl, iteB (fun z => ?_) (fun z => ?_)⟩⟩
    · exact absurd z (by decide +kernel)
    refine ⟨_, rfl, (by show 3 ≤ sizeLine; rw [sizeLine_eq]; decide), fun p1 hp1 => ⟨p1, _, rfl, .inl (SqL.of upd_same), rfl, rfl, _, rfl, iteB (fun z => ?_) (fun z => ?_)⟩⟩
    · exact absurd z (by decide +kernel)
    refine ⟨_, rfl, (by show 2 ≤ sizeLine; rw [sizeLine_eq]; decide), fun p2 hp2 => ⟨p2, _, rfl, .inl (SqL.of upd_same), rfl, rfl, _, rfl, iteB (fun z => ?_) (fun z => ?_)⟩⟩
    · exact absurd z (by decide +kernel)
    refine ⟨_, rfl, (by show 2 ≤ sizeLine; rw [sizeLine_eq]; decide), fun p3 hp3 => ⟨p3, _, rfl, .inl (SqL.of upd_same), rfl, rfl, _, rfl, iteB (fun z => ?_) (fun z => ?_)⟩⟩
    · exact absurd z (by decide +kernel)
    refine ⟨_, rfl, (by show 2 ≤ sizeLine; rw [sizeLine_eq]; decide), fun p4 hp4 => ⟨p4, _, rfl, .inl (SqL.of upd_same), rfl, rfl, _, rfl, iteB (fun z => ?_) (fun z => ?_)⟩⟩
    · exact absurd z (by decide +kernel)
    refine ⟨_, rfl, rfl, _, rfl, iteB (fun z => ?_) (fun z => ?_)⟩
    · exact absurd z (by decide +kernel)
    refine ⟨_, rfl, rfl, _, rfl, iteB (fun z => ?_) (fun z => ?_)⟩
    · exact absurd z (by decide +kernel)
    refine ⟨_, rfl, rfl, _, rfl, iteB (fun z => ?_) (fun z => ?_)⟩
    · exact ⟨_, rfl, rfl, A.c_NoStep, dd, _, _, by rw [T.rz16], T.xf_NoStep, T.nx_NoStep_reason, rfl, same_new hp4 _ _ (same_new hp3 _ _ (same_new hp2 _ _ (same_new hp1 _ _ (same_new hp0 _ _ (hd))))), lk1, (by show 1 ≤ sizeLine; rw [sizeLine_eq]; decide), fun q hq => k q _ (fun b o z => same_new hq _ _ (same_new hp4 _ _ (same_new hp3 _ _ (same_new hp2 _ _ (same_new hp1 _ _ (same_new hp0 _ _ (z))))))) upd_same⟩
    · exact absurd z (by decide +kernel)
  · have hD0 := hD
    unfold DictAt flds at hD
    clear hD
    have e0 : Same H H := fun _ _ z => z
    refine ⟨_, rfl, (by show 3 ≤ sizeLine; rw [sizeLine_eq]; decide), fun p0 hp0 => ⟨p0, _, rfl, .inl (SqL.of upd_same), rfl, rfl, _, rfl, iteB (fun z => ?_) (fun z => ?_)⟩⟩
    · exact absurd z (by decide +kernel)
    refine ⟨_, rfl, (by show 3 ≤ sizeLine; rw [sizeLine_eq]; decide), fun p1 hp1 => ⟨p1, _, rfl, .inl (SqL.of upd_same), rfl, rfl, _, rfl, iteB (fun z => ?_) (fun z => ?_)⟩⟩
    · exact absurd z (by decide +kernel)
    refine ⟨_, rfl, (by show 2 ≤ sizeLine; rw [sizeLine_eq]; decide), fun p2 hp2 => ⟨p2, _, rfl, .inl (SqL.of upd_same), rfl, rfl, _, rfl, iteB (fun z => ?_) (fun z => ?_)⟩⟩
    · exact absurd z (by decide +kernel)
    refine ⟨_, rfl, (by show 2 ≤ sizeLine; rw [sizeLine_eq]; decide), fun p3 hp3 => ⟨p3, _, rfl, .inl (SqL.of upd_same), rfl, rfl, _, rfl, iteB (fun z => ?_) (fun z => ?_)⟩⟩
    · exact absurd z (by decide +kernel)
    refine ⟨_, rfl, (by show 2 ≤ sizeLine; rw [sizeLine_eq]; decide), fun p4 hp4 => ⟨p4, _, rfl, .inl (SqL.of upd_same), rfl, rfl, _, rfl, iteB (fun z => ?_) (fun z => ?_)⟩⟩
    · exact absurd z (by decide +kernel)
    refine ⟨_, rfl, rfl, _, rfl, iteB (fun z => ?_) (fun z => ?_)⟩
    · exact absurd z (by decide +kernel)
    refine ⟨_, rfl, rfl, _, rfl, iteB (fun z => ?_) (fun z => ?_)⟩
    · exact absurd z (by decide +kernel)
    refine ⟨_, rfl, rfl, _, rfl, iteB (fun z => ?_) (fun z => ?_)⟩
    · exact absurd z (by decide +kernel)
    refine ⟨_, rfl, rfl, _, rfl, iteB (fun z => ?_) (fun z => ?_)⟩
    · exact absurd z (by decide +kernel)
    refine ⟨_, rfl, rfl, _, rfl, iteB (fun z => ?_) (fun z => ?_)⟩
    · exact absurd z (by decide +kernel)
    exact ⟨(by show 0 ≤ sizeLine; rw [sizeLine_eq]; decide), fun q hq => k q _ (fun b o z => same_new hq _ _ (same_new hp4 _ _ (same_new hp3 _ _ (same_new hp2 _ _ (same_new hp1 _ _ (same_new hp0 _ _ (z))))))) upd_same⟩
  · have hD0 := hD
    unfold DictAt flds at hD
    clear hD
    have e0 : Same H H := fun _ _ z => z
    refine ⟨_, rfl, (by show 3 ≤ sizeLine; rw [sizeLine_eq]; decide), fun p0 hp0 => ⟨p0, _, rfl, .inl (SqL.of upd_same), rfl, rfl, _, rfl, iteB (fun z => ?_) (fun z => ?_)⟩⟩
    · exact absurd z (by decide +kernel)
    refine ⟨_, rfl, (by show 3 ≤ sizeLine; rw [sizeLine_eq]; decide), fun p1 hp1 => ⟨p1, _, rfl, .inl (SqL.of upd_same), rfl, rfl, _, rfl, iteB (fun z => ?_) (fun z => ?_)⟩⟩
    · exact absurd z (by decide +kernel)
    refine ⟨_, rfl, (by show 2 ≤ sizeLine; rw [sizeLine_eq]; decide), fun p2 hp2 => ⟨p2, _, rfl, .inl (SqL.of upd_same), rfl, rfl, _, rfl, iteB (fun z => ?_) (fun z => ?_)⟩⟩
    · exact absurd z (by decide +kernel)
    refine ⟨_, rfl, (by show 2 ≤ sizeLine; rw [sizeLine_eq]; decide), fun p3 hp3 => ⟨p3, _, rfl, .inl (SqL.of upd_same), rfl, rfl, _, rfl, iteB (fun z => ?_) (fun z => ?_)⟩⟩
    · exact absurd z (by decide +kernel)
    refine ⟨_, rfl, (by show 2 ≤ sizeLine; rw [sizeLine_eq]; decide), fun p4 hp4 => ⟨p4, _, rfl, .inl (SqL.of upd_same), rfl, rfl, _, rfl, iteB (fun z => ?_) (fun z => ?_)⟩⟩
    · exact absurd z (by decide +kernel)
    refine ⟨_, rfl, rfl, _, rfl, iteB (fun z => ?_) (fun z => ?_)⟩
    · exact absurd z (by decide +kernel)
    refine ⟨_, rfl, rfl, _, rfl, iteB (fun z => ?_) (fun z => ?_)⟩
    · exact absurd z (by decide +kernel)
    refine ⟨_, rfl, rfl, _, rfl, iteB (fun z => ?_) (fun z => ?_)⟩
    · exact absurd z (by decide +kernel)
    refine ⟨_, rfl, rfl, _, rfl, iteB (fun z => ?_) (fun z => ?_)⟩
    · exact absurd z (by decide +kernel)
    refine ⟨_, rfl, rfl, _, rfl, iteB (fun z => ?_) (fun z => ?_)⟩
    · exact absurd z (by decide +kernel)
    exact ⟨(by show 0 ≤ sizeLine; rw [sizeLine_eq]; decide), fun q hq => k q _ (fun b o z => same_new hq _ _ (same_new hp4 _ _ (same_new hp3 _ _ (same_new hp2 _ _ (same_new hp1 _ _ (same_new hp0 _ _ (z))))))) upd_same⟩
  · have hD0 := hD
    unfold DictAt flds at hD
    rw [if_neg (by decide +kernel), show fln 19 = (["path"] : List Str) from by decide +kernel] at hD
    obtain ⟨dd, rfl, hd⟩ := hD
    have e0 : Same H H := fun _ _ z => z
    refine ⟨_, rfl, (by show 3 ≤ sizeLine; rw [sizeLine_eq]; decide), fun p0 hp0 => ⟨p0, _, rfl, .inl (SqL.of upd_same), rfl, rfl, _, rfl, iteB (fun z => ?_) (fun z => ?_)⟩⟩
    · exact absurd z (by decide +kernel)
    refine ⟨_, rfl, (by show 3 ≤ sizeLine; rw [sizeLine_eq]; decide), fun p1 hp1 => ⟨p1, _, rfl, .inl (SqL.of upd_same), rfl, rfl, _, rfl, iteB (fun z => ?_) (fun z => ?_)⟩⟩
    · exact absurd z (by decide +kernel)
    refine ⟨_, rfl, (by show 2 ≤ sizeLine; rw [sizeLine_eq]; decide), fun p2 hp2 => ⟨p2, _, rfl, .inl (SqL.of upd_same), rfl, rfl, _, rfl, iteB (fun z => ?_) (fun z => ?_)⟩⟩
    · exact absurd z (by decide +kernel)
    refine ⟨_, rfl, (by show 2 ≤ sizeLine; rw [sizeLine_eq]; decide), fun p3 hp3 => ⟨p3, _, rfl, .inl (SqL.of upd_same), rfl, rfl, _, rfl, iteB (fun z => ?_) (fun z => ?_)⟩⟩
    · exact ⟨_, rfl, rfl, A.c_NoRoom, dd, _, _, by rw [T.rz19], T.xf_NoRoom, T.nx_NoRoom_path, rfl, same_new hp3 _ _ (same_new hp2 _ _ (same_new hp1 _ _ (same_new hp0 _ _ (hd)))), lk1, (by show 1 ≤ sizeLine; rw [sizeLine_eq]; decide), fun q hq => k q _ (fun b o z => same_new hq _ _ (same_new hp3 _ _ (same_new hp2 _ _ (same_new hp1 _ _ (same_new hp0 _ _ (z)))))) upd_same⟩
    · exact absurd z (by decide +kernel)
  · have hD0 := hD
    unfold DictAt flds at hD
    rw [if_neg (by decide +kernel), show fln 20 = (["at", "word"] : List Str) from by decide +kernel] at hD
    obtain ⟨dd, rfl, hd⟩ := hD
    have e0 : Same H H := fun _ _ z => z
    refine ⟨_, rfl, (by show 3 ≤ sizeLine; rw [sizeLine_eq]; decide), fun p0 hp0 => ⟨p0, _, rfl, .inl (SqL.of upd_same), rfl, rfl, _, rfl, iteB (fun z => ?_) (fun z => ?_)⟩⟩
    · exact absurd z (by decide +kernel)
    refine ⟨_, rfl, (by show 3 ≤ sizeLine; rw [sizeLine_eq]; decide), fun p1 hp1 => ⟨p1, _, rfl, .inl (SqL.of upd_same), rfl, rfl, _, rfl, iteB (fun z => ?_) (fun z => ?_)⟩⟩
    · exact absurd z (by decide +kernel)
    refine ⟨_, rfl, (by show 2 ≤ sizeLine; rw [sizeLine_eq]; decide), fun p2 hp2 => ⟨p2, _, rfl, .inl (SqL.of upd_same), rfl, rfl, _, rfl, iteB (fun z => ?_) (fun z => ?_)⟩⟩
    · exact absurd z (by decide +kernel)
    refine ⟨_, rfl, (by show 2 ≤ sizeLine; rw [sizeLine_eq]; decide), fun p3 hp3 => ⟨p3, _, rfl, .inl (SqL.of upd_same), rfl, rfl, _, rfl, iteB (fun z => ?_) (fun z => ?_)⟩⟩
    · exact absurd z (by decide +kernel)
    refine ⟨_, rfl, (by show 2 ≤ sizeLine; rw [sizeLine_eq]; decide), fun p4 hp4 => ⟨p4, _, rfl, .inl (SqL.of upd_same), rfl, rfl, _, rfl, iteB (fun z => ?_) (fun z => ?_)⟩⟩
    · exact absurd z (by decide +kernel)
    refine ⟨_, rfl, rfl, _, rfl, iteB (fun z => ?_) (fun z => ?_)⟩
    · exact absurd z (by decide +kernel)
    refine ⟨_, rfl, rfl, _, rfl, iteB (fun z => ?_) (fun z => ?_)⟩
    · exact absurd z (by decide +kernel)
    refine ⟨_, rfl, rfl, _, rfl, iteB (fun z => ?_) (fun z => ?_)⟩
    · exact absurd z (by decide +kernel)
    refine ⟨_, rfl, rfl, _, rfl, iteB (fun z => ?_) (fun z => ?_)⟩
    · exact ⟨_, rfl, rfl, A.c_Broken, dd, _, _, by rw [T.rz20], T.xf_Broken, T.nx_Broken_at, rfl, same_new hp4 _ _ (same_new hp3 _ _ (same_new hp2 _ _ (same_new hp1 _ _ (same_new hp0 _ _ (hd))))), lkA (by decide +kernel), _, rfl, rfl, A.c_Broken, dd, _, _, by rw [T.rz20], T.xf_Broken, T.nx_Broken_word, rfl, same_new hp4 _ _ (same_new hp3 _ _ (same_new hp2 _ _ (same_new hp1 _ _ (same_new hp0 _ _ (hd))))), lkB, (by show 2 ≤ sizeLine; rw [sizeLine_eq]; decide), fun q hq => k q _ (fun b o z => same_new hq _ _ (same_new hp4 _ _ (same_new hp3 _ _ (same_new hp2 _ _ (same_new hp1 _ _ (same_new hp0 _ _ (z))))))) upd_same⟩
    · exact absurd z (by decide +kernel)
  · have hD0 := hD
    unfold DictAt flds at hD
    rw [if_neg (by decide +kernel), show fln 21 = (["line"] : List Str) from by decide +kernel] at hD
    obtain ⟨dd, rfl, hd⟩ := hD
    have e0 : Same H H := fun _ _ z => z
    refine ⟨_, rfl, (by show 3 ≤ sizeLine; rw [sizeLine_eq]; decide), fun p0 hp0 => ⟨p0, _, rfl, .inl (SqL.of upd_same), rfl, rfl, _, rfl, iteB (fun z => ?_) (fun z => ?_)⟩⟩
    · exact absurd z (by decide +kernel)
    refine ⟨_, rfl, (by show 3 ≤ sizeLine; rw [sizeLine_eq]; decide), fun p1 hp1 => ⟨p1, _, rfl, .inl (SqL.of upd_same), rfl, rfl, _, rfl, iteB (fun z => ?_) (fun z => ?_)⟩⟩
    · exact absurd z (by decide +kernel)
    refine ⟨_, rfl, (by show 2 ≤ sizeLine; rw [sizeLine_eq]; decide), fun p2 hp2 => ⟨p2, _, rfl, .inl (SqL.of upd_same), rfl, rfl, _, rfl, iteB (fun z => ?_) (fun z => ?_)⟩⟩
    · exact absurd z (by decide +kernel)
    refine ⟨_, rfl, (by show 2 ≤ sizeLine; rw [sizeLine_eq]; decide), fun p3 hp3 => ⟨p3, _, rfl, .inl (SqL.of upd_same), rfl, rfl, _, rfl, iteB (fun z => ?_) (fun z => ?_)⟩⟩
    · exact absurd z (by decide +kernel)
    refine ⟨_, rfl, (by show 2 ≤ sizeLine; rw [sizeLine_eq]; decide), fun p4 hp4 => ⟨p4, _, rfl, .inl (SqL.of upd_same), rfl, rfl, _, rfl, iteB (fun z => ?_) (fun z => ?_)⟩⟩
    · exact absurd z (by decide +kernel)
    refine ⟨_, rfl, rfl, _, rfl, iteB (fun z => ?_) (fun z => ?_)⟩
    · exact absurd z (by decide +kernel)
    refine ⟨_, rfl, rfl, _, rfl, iteB (fun z => ?_) (fun z => ?_)⟩
    · exact absurd z (by decide +kernel)
    refine ⟨_, rfl, rfl, _, rfl, iteB (fun z => ?_) (fun z => ?_)⟩
    · exact absurd z (by decide +kernel)
    refine ⟨_, rfl, rfl, _, rfl, iteB (fun z => ?_) (fun z => ?_)⟩
    · exact absurd z (by decide +kernel)
    refine ⟨_, rfl, rfl, _, rfl, iteB (fun z => ?_) (fun z => ?_)⟩
    · exact ⟨_, rfl, rfl, A.c_BadText, dd, _, _, by rw [T.rz21], T.xf_BadText, T.nx_BadText_line, rfl, same_new hp4 _ _ (same_new hp3 _ _ (same_new hp2 _ _ (same_new hp1 _ _ (same_new hp0 _ _ (hd))))), lk1, (by show 1 ≤ sizeLine; rw [sizeLine_eq]; decide), fun q hq => k q _ (fun b o z => same_new hq _ _ (same_new hp4 _ _ (same_new hp3 _ _ (same_new hp2 _ _ (same_new hp1 _ _ (same_new hp0 _ _ (z))))))) upd_same⟩
    · exact absurd z (by decide +kernel)
  · have hD0 := hD
    unfold DictAt flds at hD
    clear hD
    have e0 : Same H H := fun _ _ z => z
    refine ⟨_, rfl, (by show 3 ≤ sizeLine; rw [sizeLine_eq]; decide), fun p0 hp0 => ⟨p0, _, rfl, .inl (SqL.of upd_same), rfl, rfl, _, rfl, iteB (fun z => ?_) (fun z => ?_)⟩⟩
    · exact absurd z (by decide +kernel)
    refine ⟨_, rfl, (by show 3 ≤ sizeLine; rw [sizeLine_eq]; decide), fun p1 hp1 => ⟨p1, _, rfl, .inl (SqL.of upd_same), rfl, rfl, _, rfl, iteB (fun z => ?_) (fun z => ?_)⟩⟩
    · exact absurd z (by decide +kernel)
    refine ⟨_, rfl, (by show 2 ≤ sizeLine; rw [sizeLine_eq]; decide), fun p2 hp2 => ⟨p2, _, rfl, .inl (SqL.of upd_same), rfl, rfl, _, rfl, iteB (fun z => ?_) (fun z => ?_)⟩⟩
    · exact absurd z (by decide +kernel)
    refine ⟨_, rfl, (by show 2 ≤ sizeLine; rw [sizeLine_eq]; decide), fun p3 hp3 => ⟨p3, _, rfl, .inl (SqL.of upd_same), rfl, rfl, _, rfl, iteB (fun z => ?_) (fun z => ?_)⟩⟩
    · exact absurd z (by decide +kernel)
    refine ⟨_, rfl, (by show 2 ≤ sizeLine; rw [sizeLine_eq]; decide), fun p4 hp4 => ⟨p4, _, rfl, .inl (SqL.of upd_same), rfl, rfl, _, rfl, iteB (fun z => ?_) (fun z => ?_)⟩⟩
    · exact absurd z (by decide +kernel)
    refine ⟨_, rfl, rfl, _, rfl, iteB (fun z => ?_) (fun z => ?_)⟩
    · exact absurd z (by decide +kernel)
    refine ⟨_, rfl, rfl, _, rfl, iteB (fun z => ?_) (fun z => ?_)⟩
    · exact absurd z (by decide +kernel)
    refine ⟨_, rfl, rfl, _, rfl, iteB (fun z => ?_) (fun z => ?_)⟩
    · exact absurd z (by decide +kernel)
    refine ⟨_, rfl, rfl, _, rfl, iteB (fun z => ?_) (fun z => ?_)⟩
    · exact absurd z (by decide +kernel)
    refine ⟨_, rfl, rfl, _, rfl, iteB (fun z => ?_) (fun z => ?_)⟩
    · exact absurd z (by decide +kernel)
    exact ⟨(by show 0 ≤ sizeLine; rw [sizeLine_eq]; decide), fun q hq => k q _ (fun b o z => same_new hq _ _ (same_new hp4 _ _ (same_new hp3 _ _ (same_new hp2 _ _ (same_new hp1 _ _ (same_new hp0 _ _ (z))))))) upd_same⟩
  · have hD0 := hD
    unfold DictAt flds at hD
    rw [if_neg (by decide +kernel), show fln 23 = (["name"] : List Str) from by decide +kernel] at hD
    obtain ⟨dd, rfl, hd⟩ := hD
    have e0 : Same H H := fun _ _ z => z
    refine ⟨_, rfl, (by show 3 ≤ sizeLine; rw [sizeLine_eq]; decide), fun p0 hp0 => ⟨p0, _, rfl, .inl (SqL.of upd_same), rfl, rfl, _, rfl, iteB (fun z => ?_) (fun z => ?_)⟩⟩
    · exact absurd z (by decide +kernel)
    refine ⟨_, rfl, (by show 3 ≤ sizeLine; rw [sizeLine_eq]; decide), fun p1 hp1 => ⟨p1, _, rfl, .inl (SqL.of upd_same), rfl, rfl, _, rfl, iteB (fun z => ?_) (fun z => ?_)⟩⟩
    · exact ⟨_, rfl, rfl, A.c_NoName, dd, _, _, by rw [T.rz23], T.xf_NoName, T.nx_NoName_name, rfl, same_new hp1 _ _ (same_new hp0 _ _ (hd)), lk1, (by show 1 ≤ sizeLine; rw [sizeLine_eq]; decide), fun q hq => k q _ (fun b o z => same_new hq _ _ (same_new hp1 _ _ (same_new hp0 _ _ (z)))) upd_same⟩
    · exact absurd z (by decide +kernel)

theorem ok__law_caught (T : Txt K mg A) : FnOk P w K mg base CX0 5 A.f__law_caught A.d__law_caught ["which", "one", "other"] (sp__law_caught K A) := by
  refine T.F__law_caught.ok sc__law_caught (fun vs H Q E h => sp3_len h) (fun cdv A0 outer s H vs Q E hr h => ?_)
  have nd := sc__law_caught.nd
  have hr1 := L2.Room.mono (j := 1) hr (by decide)
  refine ⟨_, (pss_cons (ps_try_as (i := 3) rfl rfl nd rfl rfl ⟨rfl, by decide, Or.inl T.mg_RoomError⟩ takes0 (fun W pn xe tk pw => (pss_one (ps_expr (by exact (pe_callS (ok__law_raise T) (hr.mono (by decide)) (by rfl) T.mg__law_raise T.k__law_raise T.b__law_raise (fun σ => passAt tk σ) (by exact (pa_cons (pv 0) (pa_cons (pv 1) (pa_cons (pv 2) pa_nil))))))))) (fun a oe cls d pn hz hf => (pss_one (ps_ret (pe_tup (pa_cons (pe_callB (call_isD hz hf) (by rfl) T.b_isinstance (by decide +kernel) (pa_cons (pv 3) (pa_cons (pe_bltn (v := .ty "ValueError") (by rfl) T.b_ValueError (by decide +kernel) rfl) pa_nil))) (pa_cons (by exact (pe_callE (E := fun _ => E0) (okE__law_classes T) (L2H.RoomH.mk (k := 1) hr1.dp hr1.un) (List.mem_cons_self ..) hz hf (by rfl) T.mg__law_classes T.k__law_classes T.b__law_classes (fun z pins H s e s' I c => False.elim c) (by exact (pa_cons (pv 3) pa_nil)))) (pa_cons (by exact (pe_callE (E := fun _ => E0) (okE__law_fields T) (L2H.RoomH.mk (k := 1) hr1.dp hr1.un) (List.mem_cons_self ..) hz hf (by rfl) T.mg__law_fields T.k__law_fields T.b__law_fields (fun z pins H s e s' I c => False.elim c) (by exact (pa_cons (pv 3) (pa_cons (pv 0) pa_nil))))) pa_nil))))))))
      (pss_one (ps_ret pe_non))), ?_⟩
  clear nd hr
  replace h := sp3_of h
  obtain ⟨v_which, v_one, v_other, rfl, h⟩ := h

  obtain ⟨n, hn, rfl, k⟩ := h
  refine ⟨_, rfl, _, rfl, _, rfl, _, _, _, rfl, n, hn, rfl, raise_of fun H' d e hD => ⟨true, T.em n hn, fun _ a ha => ?_, fun z => nomatch z⟩⟩
  refine ⟨_, rfl, A.rz n, _, _, _, rfl, T.xd n hn, rfl, rel_ty, T.kv n hn, hD.hd, _, rfl, _, rfl, n, hn, rfl, rfl, hD.hd, fun q H1 e1 h1 => ⟨_, rfl, _, rfl, _, _, rfl, n, v_one, v_other, hn, rfl, rfl, rfl, hD.same e1, fun r H2 e2 h2 => ⟨(by show 3 ≤ sizeLine; rw [sizeLine_eq]; decide), fun p hp => ?_⟩⟩⟩
  exact k p q r _ (fun b o z => same_new hp _ _ (e2 _ _ (e1 _ _ (e _ _ z)))) (same_new hp _ _ (e2 _ _ h1)) (same_new hp _ _ h2) upd_same
theorem ok_law (T : Txt K mg A) : FnOk P w K mg base CX0 6 A.f_law A.d_law ["script"] (sp_law K A) := by
  refine T.F_law.ok sc_law (fun vs H Q E h => sp1_len h) (fun cdv A0 outer s H vs Q E hr h => ?_)
  have nd := sc_law.nd
  refine ⟨_, (pss_cons (ps_set (i := 1) nd rfl (by first | exact Or.inl rfl | exact Or.inr rfl) (pe_call (ok__law_start T) (hr.mono (by decide)) (by rfl) T.mg__law_start T.k__law_start T.b__law_start .nil pass0 (pa_cons (pv 0) pa_nil)))
      (pss_cons (ps_for PassesOwn.never rfl (pi_range1 (by rfl) T.b_range (pa_cons pe_int pa_nil)) (pg_name (i := 2) nd rfl (by first | exact Or.inl rfl | exact Or.inr rfl)) (pss_cons (ps_set (i := 3) nd rfl (by first | exact Or.inl rfl | exact Or.inr rfl) (pe_call (ok__law_field T) (hr.mono (by decide)) (by rfl) T.mg__law_field T.k__law_field T.b__law_field .nil pass0 (pa_cons (pv 1) pa_nil)))
      (pss_cons (ps_set (i := 4) nd rfl (by first | exact Or.inl rfl | exact Or.inr rfl) (pe_call (ok__law_field T) (hr.mono (by decide)) (by rfl) T.mg__law_field T.k__law_field T.b__law_field .nil pass0 (pa_cons (pv 1) pa_nil)))
      (pss_cons (ps_set (i := 5) nd rfl (by first | exact Or.inl rfl | exact Or.inr rfl) (pe_tup (pa_cons (pv 3) pa_nil)))
      (Evl.pss_cut (ps_if (pt_cmpR op_in_seq (pv 2) (pe_lst (pa_cons pe_int (pa_cons pe_int (pa_cons pe_int pa_nil)))) (by rfl)) (pss_one (ps_set (i := 5) nd rfl (by first | exact Or.inl rfl | exact Or.inr rfl) (pe_tup (pa_cons (pv 3) (pa_cons (pv 4) pa_nil))))) pss_nil)
      (Evl.pss_cut (ps_if (pt_cmpR op_in_seq (pv 2) (pe_lst (pa_cons pe_int (pa_cons pe_int (pa_cons pe_int (pa_cons pe_int (pa_cons pe_int (pa_cons pe_int (pa_cons pe_int pa_nil)))))))) (by rfl)) (pss_one (ps_set (i := 5) nd rfl (by first | exact Or.inl rfl | exact Or.inr rfl) (pe_tup pa_nil))) pss_nil)
      (pss_cons (ps_set (i := 6) nd rfl (by first | exact Or.inl rfl | exact Or.inr rfl) (pe_call (ok__law_caught T) (hr.mono (by decide)) (by rfl) T.mg__law_caught T.k__law_caught T.b__law_caught .nil pass0 (pa_cons (pv 2) (pa_cons (pv 3) (pa_cons (pv 4) pa_nil)))))
      (pss_one (ps_if (pt_not (pt_val (pe_call (ok__law_same T) (hr.mono (by decide)) (by rfl) T.mg__law_same T.k__law_same T.b__law_same .nil pass0 (pa_cons (pv 6) (pa_cons (pe_tup (pa_cons pe_bl (pa_cons (pe_lc (own := [("k", 7)]) (g := gName 7) (tt := tYes) (by rfl) nd (pi_range1 (by rfl) T.b_range (pa_cons pe_int pa_nil)) (blkOk_by (own := [("k", 7)]) (N := ["script", "state", "which", "one", "other", "due", "caught", "k"]) (sc := defScope s_law) (by decide +kernel)) (fun _ _ _ _ _ => pg_name (i := 7) nd rfl (Or.inl rfl)) (fun _ _ _ _ _ => pts_nil) (fun _ _ _ _ _ => (pe_cmpR op_eq (pv 7) (pv 2) (nomark _)))) (pa_cons (pv 5) pa_nil)))) pa_nil))))) (pss_one (ps_ret pe_bl)) pss_nil)))))))))
      (pss_one (ps_ret pe_bl)))), ?_⟩
  clear nd hr
  replace h := sp1_of h
  obtain ⟨v_script, rfl, h⟩ := h

  obtain ⟨l, ns, rfl, hl, hn, k⟩ := h
  refine ⟨_, rfl, _, rfl, l, ns, rfl, hl, hn, fun d H1 hp hl0 e1 r1 => ?_⟩
  dsimp only [gName]
  refine ⟨24, rfl, by decide, by decide, for_range (n := 24) (fun i σ' H' => ∃ a2 a3 a4 a5 a6 a7, σ' = [some (.ref l), some (.ref d.p), a2, a3, a4, a5, a6, a7] ∧ Rng d H') ⟨_, _, _, _, _, _, rfl, r1⟩ ?_ ?_⟩
  · clear e1 hp hl0 hl r1
    rintro i σ' H2 hi ⟨a2, a3, a4, a5, a6, a7, rfl, r2⟩
    rw [Int.zero_add]
    refine ⟨_, rfl, _, rfl, d, rfl, r2, fun x H3 hx e3 r3 => ?_⟩
    dsimp only [gName]
    refine ⟨_, rfl, _, rfl, d, rfl, r3, fun y H4 hy e4 r4 => ?_⟩
    replace hx := hx.chg r3 e4
    clear e3 e4 r2 r3
    dsimp only [gName]
    refine ⟨_, rfl, (by show 1 ≤ sizeLine; rw [sizeLine_eq]; decide), fun q1 hq1 => ?_⟩
    have S5 : Rng d (upd H4 q1 (.tup [x])) ∧ FieldV (upd H4 q1 (.tup [x])) x ∧ FieldV (upd H4 q1 (.tup [x])) y := ⟨r4.new hq1, hx.same (same_new hq1), hy.same (same_new hq1)⟩
    dsimp only [gName]
    refine ⟨fun z h' => ∃ q, z = [some (.ref l), some (.ref d.p), some (.int i), some x, some y, some (.ref q), a6, a7] ∧ Rng d h' ∧ FieldV h' x ∧ FieldV h' y ∧ h' q = some (.tup (if in3 i = true then [x, y] else [x])), ?_, ?_⟩
    · refine ⟨_, rfl, (by show 3 ≤ sizeLine; rw [sizeLine_eq]; decide), fun p hp => ⟨p, _, rfl, .inl (SqL.of upd_same), rfl, rfl, _, rfl, iteB (fun g => ?_) (fun g => ?_)⟩⟩
      · have g : in3 i = true := g
        refine ⟨_, rfl, _, rfl, (by show 2 ≤ sizeLine; rw [sizeLine_eq]; decide), fun q2 hq2 => ⟨q2, rfl, (S5.1.new hp).new hq2, (S5.2.1.same (same_new hp)).same (same_new hq2), (S5.2.2.same (same_new hp)).same (same_new hq2), ?_⟩⟩
        rw [if_pos g]
        exact upd_same
      · have g : ¬ in3 i = true := by rw [show in3 i = false from g]; decide
        refine ⟨q1, rfl, S5.1.new hp, S5.2.1.same (same_new hp), S5.2.2.same (same_new hp), ?_⟩
        rw [if_neg g]
        exact same_new hp _ _ upd_same
    clear S5 hq1 hx hy r4
    rintro z H5 ⟨q, rfl, r5, hx, hy, hq⟩
    refine ⟨fun z h' => ∃ q, z = [some (.ref l), some (.ref d.p), some (.int i), some x, some y, some (.ref q), a6, a7] ∧ Rng d h' ∧ FieldV h' x ∧ FieldV h' y ∧ h' q = some (.tup (dueL i x y)), ?_, ?_⟩
    · have hl := fln_len i hi
      refine ⟨_, rfl, (by show 7 ≤ sizeLine; rw [sizeLine_eq]; decide), fun p hp => ⟨p, _, rfl, .inl (SqL.of upd_same), rfl, rfl, _, rfl, iteB (fun g => ?_) (fun g => ?_)⟩⟩
      · have g : in7 i = true := g
        rw [if_pos g] at hl
        refine ⟨(by show 0 ≤ sizeLine; rw [sizeLine_eq]; decide), fun q2 hq2 => ⟨q2, rfl, (r5.new hp).new hq2, (hx.same (same_new hp)).same (same_new hq2), (hy.same (same_new hp)).same (same_new hq2), ?_⟩⟩
        unfold dueL
        rw [hl]
        exact upd_same
      · have g : ¬ in7 i = true := by rw [show in7 i = false from g]; decide
        rw [if_neg g] at hl
        refine ⟨q, rfl, r5.new hp, hx.same (same_new hp), hy.same (same_new hp), ?_⟩
        refine (same_new hp _ _ hq).trans ?_
        unfold dueL
        rw [hl]
        split <;> rfl
    rintro z H6 ⟨q, rfl, r6, hx, hy, hq⟩
    refine ⟨_, rfl, _, rfl, _, rfl, _, _, _, rfl, i, hi, rfl, fun cp cq cr H7 e7 h1 h2 h3 => ?_⟩
    have hx7 := hx.same e7
    have hy7 := hy.same e7
    have hq7 := e7 _ _ hq
    have r7 := r6.same e7
    dsimp only [gName]
    clear hx hy hq r6 r5 e7
    refine ⟨_, rfl, 24, rfl, by decide, by decide, fun D hD => ?_⟩
    refine lc_range (lo := 0) (n := 24) (fun j h => h D = some (.lst ((List.range j).map fun k => .bl (decide (k = i)))) ∧ Same H7 h) ⟨upd_same, same_new hD⟩ ?_ ?_
    · rintro j H8 hj ⟨hl, e8⟩
      refine ⟨rfl, _, rfl, _, rfl, rfl, _, hl, by rw [List.length_map, List.length_range, sizeLine_eq]; omega, ?_, same_put hD e8⟩
      rw [upd_same, List.range_succ, List.map_append]
      congr 3
      show [V.bl (decide (V.int (0 + (j : Int)) = V.int (i : Int)))] = [V.bl (decide (j = i))]
      rw [dI]
      congr 2
      exact decide_eq_decide.mpr (by omega)
    · rintro H8 ⟨hl, e8⟩
      refine ⟨_, rfl, (by show 3 ≤ sizeLine; rw [sizeLine_eq]; decide), fun p2 hp2 => ?_⟩
      have e9 : Same H7 (upd H8 p2 (.tup [.bl true, .ref D, .ref q])) := fun b o z => same_new hp2 _ _ (e8 b o z)
      refine ⟨_, _, rfl, sa_caught (hx7.same e9) (hy7.same e9) (e9 _ _ h1) (e9 _ _ h2) (e9 _ _ h3) (same_new hp2 _ _ hl) (e9 _ _ hq7) upd_same, _, rfl, iteB (fun z => nomatch z) (fun _ => ⟨_, _, _, _, _, _, rfl, r7.same e9⟩)⟩
  · rintro σ' H3 ⟨a2, a3, a4, a5, a6, a7, rfl, r3⟩
    exact k _
end
def dd_BadKind___init__ : He.DefD := ⟨("BadKind", some "__init__"), "__init__", "BadKind.__init__", defArgs s_BadKind___init__, defBody s_BadKind___init__, defScope s_BadKind___init__, [], []⟩
def dd_BadEdition___init__ : He.DefD := ⟨("BadEdition", some "__init__"), "__init__", "BadEdition.__init__", defArgs s_BadEdition___init__, defBody s_BadEdition___init__, defScope s_BadEdition___init__, [], []⟩
def dd_MissingKind___init__ : He.DefD := ⟨("MissingKind", some "__init__"), "__init__", "MissingKind.__init__", defArgs s_MissingKind___init__, defBody s_MissingKind___init__, defScope s_MissingKind___init__, [], []⟩
def dd_RingOfCalls___init__ : He.DefD := ⟨("RingOfCalls", some "__init__"), "__init__", "RingOfCalls.__init__", defArgs s_RingOfCalls___init__, defBody s_RingOfCalls___init__, defScope s_RingOfCalls___init__, [], []⟩
def dd_LongBody___init__ : He.DefD := ⟨("LongBody", some "__init__"), "__init__", "LongBody.__init__", defArgs s_LongBody___init__, defBody s_LongBody___init__, defScope s_LongBody___init__, [], []⟩
def dd_RoomTaken___init__ : He.DefD := ⟨("RoomTaken", some "__init__"), "__init__", "RoomTaken.__init__", defArgs s_RoomTaken___init__, defBody s_RoomTaken___init__, defScope s_RoomTaken___init__, [], []⟩
def dd_BadValue___init__ : He.DefD := ⟨("BadValue", some "__init__"), "__init__", "BadValue.__init__", defArgs s_BadValue___init__, defBody s_BadValue___init__, defScope s_BadValue___init__, [], []⟩
def dd_BadBits___init__ : He.DefD := ⟨("BadBits", some "__init__"), "__init__", "BadBits.__init__", defArgs s_BadBits___init__, defBody s_BadBits___init__, defScope s_BadBits___init__, [], []⟩
def dd_TooFew___init__ : He.DefD := ⟨("TooFew", some "__init__"), "__init__", "TooFew.__init__", defArgs s_TooFew___init__, defBody s_TooFew___init__, defScope s_TooFew___init__, [], []⟩
def dd_Left___init__ : He.DefD := ⟨("Left", some "__init__"), "__init__", "Left.__init__", defArgs s_Left___init__, defBody s_Left___init__, defScope s_Left___init__, [], []⟩
def dd_BadNumber___init__ : He.DefD := ⟨("BadNumber", some "__init__"), "__init__", "BadNumber.__init__", defArgs s_BadNumber___init__, defBody s_BadNumber___init__, defScope s_BadNumber___init__, [], []⟩
def dd_TooMany___init__ : He.DefD := ⟨("TooMany", some "__init__"), "__init__", "TooMany.__init__", defArgs s_TooMany___init__, defBody s_TooMany___init__, defScope s_TooMany___init__, [], []⟩
def dd_NoStep___init__ : He.DefD := ⟨("NoStep", some "__init__"), "__init__", "NoStep.__init__", defArgs s_NoStep___init__, defBody s_NoStep___init__, defScope s_NoStep___init__, [], []⟩
def dd_NoRoom___init__ : He.DefD := ⟨("NoRoom", some "__init__"), "__init__", "NoRoom.__init__", defArgs s_NoRoom___init__, defBody s_NoRoom___init__, defScope s_NoRoom___init__, [], []⟩
def dd_Broken___init__ : He.DefD := ⟨("Broken", some "__init__"), "__init__", "Broken.__init__", defArgs s_Broken___init__, defBody s_Broken___init__, defScope s_Broken___init__, [], []⟩
def dd_BadText___init__ : He.DefD := ⟨("BadText", some "__init__"), "__init__", "BadText.__init__", defArgs s_BadText___init__, defBody s_BadText___init__, defScope s_BadText___init__, [], []⟩
def dd_NoName___init__ : He.DefD := ⟨("NoName", some "__init__"), "__init__", "NoName.__init__", defArgs s_NoName___init__, defBody s_NoName___init__, defScope s_NoName___init__, [], []⟩
def dd__law_is_int : He.DefD := ⟨("_law_is_int", none), "_law_is_int", "_law_is_int", defArgs s__law_is_int, defBody s__law_is_int, defScope s__law_is_int, [], []⟩
def dd__law_same_dict : He.DefD := ⟨("_law_same_dict", none), "_law_same_dict", "_law_same_dict", defArgs s__law_same_dict, defBody s__law_same_dict, defScope s__law_same_dict, [], []⟩
def dd__law_same : He.DefD := ⟨("_law_same", none), "_law_same", "_law_same", defArgs s__law_same, defBody s__law_same, defScope s__law_same, [], []⟩
def dd__law_start : He.DefD := ⟨("_law_start", none), "_law_start", "_law_start", defArgs s__law_start, defBody s__law_start, defScope s__law_start, [], []⟩
def dd__law_pull : He.DefD := ⟨("_law_pull", none), "_law_pull", "_law_pull", defArgs s__law_pull, defBody s__law_pull, defScope s__law_pull, [], []⟩
def dd__law_big : He.DefD := ⟨("_law_big", none), "_law_big", "_law_big", defArgs s__law_big, defBody s__law_big, defScope s__law_big, [], []⟩
def dd__law_field : He.DefD := ⟨("_law_field", none), "_law_field", "_law_field", defArgs s__law_field, defBody s__law_field, defScope s__law_field, [], []⟩
def dd__law_raise_first : He.DefD := ⟨("_law_raise_first", none), "_law_raise_first", "_law_raise_first", defArgs s__law_raise_first, defBody s__law_raise_first, defScope s__law_raise_first, [], []⟩
def dd__law_raise : He.DefD := ⟨("_law_raise", none), "_law_raise", "_law_raise", defArgs s__law_raise, defBody s__law_raise, defScope s__law_raise, [], []⟩
def dd__law_classes : He.DefD := ⟨("_law_classes", none), "_law_classes", "_law_classes", defArgs s__law_classes, defBody s__law_classes, defScope s__law_classes, [], []⟩
def dd__law_fields : He.DefD := ⟨("_law_fields", none), "_law_fields", "_law_fields", defArgs s__law_fields, defBody s__law_fields, defScope s__law_fields, [], []⟩
def dd__law_caught : He.DefD := ⟨("_law_caught", none), "_law_caught", "_law_caught", defArgs s__law_caught, defBody s__law_caught, defScope s__law_caught, [], []⟩
def dd_law : He.DefD := ⟨("law", none), "law", "law", defArgs s_law, defBody s_law, defScope s_law, [], []⟩
def fn_0 : List He.DefD := [dd_BadKind___init__,
  dd_BadEdition___init__,
  dd_MissingKind___init__,
  dd_RingOfCalls___init__,
  dd_LongBody___init__,
  dd_RoomTaken___init__,
  dd_BadValue___init__,
  dd_BadBits___init__,
  dd_TooFew___init__,
  dd_Left___init__,
  dd_BadNumber___init__,
  dd_TooMany___init__,
  dd_NoStep___init__,
  dd_NoRoom___init__,
  dd_Broken___init__,
  dd_BadText___init__,
  dd_NoName___init__,
  dd__law_is_int,
  dd__law_same_dict,
  dd__law_same,
  dd__law_start,
  dd__law_pull,
  dd__law_big,
  dd__law_field,
  dd__law_raise_first,
  dd__law_raise,
  dd__law_classes,
  dd__law_fields,
  dd__law_caught,
  dd_law]
def fn : List He.DefD := fn_0
def fa_0 : List He.Fa := [.glo "_law_is_int",
  .glo "_law_same_dict",
  .glo "_law_same",
  .glo "_law_start",
  .glo "_law_pull",
  .glo "_law_big",
  .glo "_law_field",
  .glo "_law_raise_first",
  .glo "_law_raise",
  .glo "_law_classes",
  .glo "_law_fields",
  .glo "_law_caught",
  .glo "law",
  .glo "RoomError",
  .exm "RoomError" "RoomError" true,
  .exc "RoomError",
  .glo "BadKind",
  .exm "BadKind" "BadKind" true,
  .noat "BadKind" "part",
  .glo "BadEdition",
  .exm "BadEdition" "BadEdition" true,
  .noat "BadEdition" "part",
  .glo "MissingKind",
  .exm "MissingKind" "MissingKind" true,
  .noat "MissingKind" "name",
  .glo "RingOfCalls",
  .exm "RingOfCalls" "RingOfCalls" true,
  .noat "RingOfCalls" "name",
  .glo "LongBody",
  .exm "LongBody" "LongBody" true]
def fa_1 : List He.Fa := [.noat "LongBody" "name",
  .noat "LongBody" "inner",
  .glo "RoomTaken",
  .exm "RoomTaken" "RoomTaken" true,
  .noat "RoomTaken" "name",
  .noat "RoomTaken" "inner",
  .glo "NoKind",
  .exm "NoKind" "NoKind" true,
  .exc "NoKind",
  .glo "NoBits",
  .exm "NoBits" "NoBits" true,
  .exc "NoBits",
  .glo "BadValue",
  .exm "BadValue" "BadValue" true,
  .noat "BadValue" "path",
  .glo "BadBits",
  .exm "BadBits" "BadBits" true,
  .noat "BadBits" "at",
  .glo "TooFew",
  .exm "TooFew" "TooFew" true,
  .noat "TooFew" "due",
  .glo "Left",
  .exm "Left" "Left" true,
  .noat "Left" "at",
  .glo "NoOwn",
  .exm "NoOwn" "NoOwn" true,
  .exc "NoOwn",
  .glo "BadNumber",
  .exm "BadNumber" "BadNumber" true,
  .noat "BadNumber" "part"]
def fa_2 : List He.Fa := [.glo "TooMany",
  .exm "TooMany" "TooMany" true,
  .noat "TooMany" "most",
  .glo "NoUndo",
  .exm "NoUndo" "NoUndo" true,
  .exc "NoUndo",
  .glo "NoStep",
  .exm "NoStep" "NoStep" true,
  .noat "NoStep" "reason",
  .glo "BadWeights",
  .exm "BadWeights" "BadWeights" true,
  .exc "BadWeights",
  .glo "NoPlace",
  .exm "NoPlace" "NoPlace" true,
  .exc "NoPlace",
  .glo "NoRoom",
  .exm "NoRoom" "NoRoom" true,
  .noat "NoRoom" "path",
  .glo "Broken",
  .exm "Broken" "Broken" true,
  .noat "Broken" "at",
  .noat "Broken" "word",
  .glo "BadText",
  .exm "BadText" "BadText" true,
  .noat "BadText" "line",
  .glo "NoLine",
  .exm "NoLine" "NoLine" true,
  .exc "NoLine",
  .glo "NoName",
  .exm "NoName" "NoName" true]
def fa_3 : List He.Fa := [.noat "NoName" "name",
  .free "ValueError",
  .free "bool",
  .free "dict",
  .free "int",
  .free "isinstance",
  .free "len",
  .free "list",
  .free "range",
  .free "str",
  .free "tuple"]
def fa : List He.Fa := fa_0 ++ (fa_1 ++ (fa_2 ++ (fa_3)))
def fx_0 : List (PySem.W.Frag → Bool) := [fun K => oexB K (He.ga K "BadKind") [He.ga K "RoomError"],
  fun K => xfB K (He.ga K "BadKind"),
  fun K => He.eqO (PySem.W.findIn K (.ref (He.ga K "BadKind")) "__init__") (some (some (.ref (He.ma K (He.ga K "BadKind") "__init__")))),
  fun K => decide (PySem.W.typeIn K (.ref (He.ma K (He.ga K "BadKind") "__init__")) = some (.type "function")),
  fun K => oexB K (He.ga K "BadEdition") [He.ga K "RoomError"],
  fun K => xfB K (He.ga K "BadEdition"),
  fun K => He.eqO (PySem.W.findIn K (.ref (He.ga K "BadEdition")) "__init__") (some (some (.ref (He.ma K (He.ga K "BadEdition") "__init__")))),
  fun K => decide (PySem.W.typeIn K (.ref (He.ma K (He.ga K "BadEdition") "__init__")) = some (.type "function")),
  fun K => oexB K (He.ga K "MissingKind") [He.ga K "RoomError"],
  fun K => xfB K (He.ga K "MissingKind"),
  fun K => He.eqO (PySem.W.findIn K (.ref (He.ga K "MissingKind")) "__init__") (some (some (.ref (He.ma K (He.ga K "MissingKind") "__init__")))),
  fun K => decide (PySem.W.typeIn K (.ref (He.ma K (He.ga K "MissingKind") "__init__")) = some (.type "function")),
  fun K => oexB K (He.ga K "RingOfCalls") [He.ga K "RoomError"],
  fun K => xfB K (He.ga K "RingOfCalls"),
  fun K => He.eqO (PySem.W.findIn K (.ref (He.ga K "RingOfCalls")) "__init__") (some (some (.ref (He.ma K (He.ga K "RingOfCalls") "__init__")))),
  fun K => decide (PySem.W.typeIn K (.ref (He.ma K (He.ga K "RingOfCalls") "__init__")) = some (.type "function")),
  fun K => oexB K (He.ga K "LongBody") [He.ga K "RoomError"],
  fun K => xfB K (He.ga K "LongBody"),
  fun K => He.eqO (PySem.W.findIn K (.ref (He.ga K "LongBody")) "__init__") (some (some (.ref (He.ma K (He.ga K "LongBody") "__init__")))),
  fun K => decide (PySem.W.typeIn K (.ref (He.ma K (He.ga K "LongBody") "__init__")) = some (.type "function"))]
def fx_1 : List (PySem.W.Frag → Bool) := [fun K => oexB K (He.ga K "RoomTaken") [He.ga K "RoomError"],
  fun K => xfB K (He.ga K "RoomTaken"),
  fun K => He.eqO (PySem.W.findIn K (.ref (He.ga K "RoomTaken")) "__init__") (some (some (.ref (He.ma K (He.ga K "RoomTaken") "__init__")))),
  fun K => decide (PySem.W.typeIn K (.ref (He.ma K (He.ga K "RoomTaken") "__init__")) = some (.type "function")),
  fun K => oexB K (He.ga K "BadValue") [He.ga K "RoomError"],
  fun K => xfB K (He.ga K "BadValue"),
  fun K => He.eqO (PySem.W.findIn K (.ref (He.ga K "BadValue")) "__init__") (some (some (.ref (He.ma K (He.ga K "BadValue") "__init__")))),
  fun K => decide (PySem.W.typeIn K (.ref (He.ma K (He.ga K "BadValue") "__init__")) = some (.type "function")),
  fun K => oexB K (He.ga K "BadBits") [He.ga K "RoomError"],
  fun K => xfB K (He.ga K "BadBits"),
  fun K => He.eqO (PySem.W.findIn K (.ref (He.ga K "BadBits")) "__init__") (some (some (.ref (He.ma K (He.ga K "BadBits") "__init__")))),
  fun K => decide (PySem.W.typeIn K (.ref (He.ma K (He.ga K "BadBits") "__init__")) = some (.type "function")),
  fun K => oexB K (He.ga K "TooFew") [He.ga K "RoomError"],
  fun K => xfB K (He.ga K "TooFew"),
  fun K => He.eqO (PySem.W.findIn K (.ref (He.ga K "TooFew")) "__init__") (some (some (.ref (He.ma K (He.ga K "TooFew") "__init__")))),
  fun K => decide (PySem.W.typeIn K (.ref (He.ma K (He.ga K "TooFew") "__init__")) = some (.type "function")),
  fun K => oexB K (He.ga K "Left") [He.ga K "RoomError"],
  fun K => xfB K (He.ga K "Left"),
  fun K => He.eqO (PySem.W.findIn K (.ref (He.ga K "Left")) "__init__") (some (some (.ref (He.ma K (He.ga K "Left") "__init__")))),
  fun K => decide (PySem.W.typeIn K (.ref (He.ma K (He.ga K "Left") "__init__")) = some (.type "function"))]
def fx_2 : List (PySem.W.Frag → Bool) := [fun K => oexB K (He.ga K "BadNumber") [He.ga K "RoomError"],
  fun K => xfB K (He.ga K "BadNumber"),
  fun K => He.eqO (PySem.W.findIn K (.ref (He.ga K "BadNumber")) "__init__") (some (some (.ref (He.ma K (He.ga K "BadNumber") "__init__")))),
  fun K => decide (PySem.W.typeIn K (.ref (He.ma K (He.ga K "BadNumber") "__init__")) = some (.type "function")),
  fun K => oexB K (He.ga K "TooMany") [He.ga K "RoomError"],
  fun K => xfB K (He.ga K "TooMany"),
  fun K => He.eqO (PySem.W.findIn K (.ref (He.ga K "TooMany")) "__init__") (some (some (.ref (He.ma K (He.ga K "TooMany") "__init__")))),
  fun K => decide (PySem.W.typeIn K (.ref (He.ma K (He.ga K "TooMany") "__init__")) = some (.type "function")),
  fun K => oexB K (He.ga K "NoStep") [He.ga K "RoomError"],
  fun K => xfB K (He.ga K "NoStep"),
  fun K => He.eqO (PySem.W.findIn K (.ref (He.ga K "NoStep")) "__init__") (some (some (.ref (He.ma K (He.ga K "NoStep") "__init__")))),
  fun K => decide (PySem.W.typeIn K (.ref (He.ma K (He.ga K "NoStep") "__init__")) = some (.type "function")),
  fun K => oexB K (He.ga K "NoRoom") [He.ga K "RoomError"],
  fun K => xfB K (He.ga K "NoRoom"),
  fun K => He.eqO (PySem.W.findIn K (.ref (He.ga K "NoRoom")) "__init__") (some (some (.ref (He.ma K (He.ga K "NoRoom") "__init__")))),
  fun K => decide (PySem.W.typeIn K (.ref (He.ma K (He.ga K "NoRoom") "__init__")) = some (.type "function")),
  fun K => oexB K (He.ga K "Broken") [He.ga K "RoomError"],
  fun K => xfB K (He.ga K "Broken"),
  fun K => He.eqO (PySem.W.findIn K (.ref (He.ga K "Broken")) "__init__") (some (some (.ref (He.ma K (He.ga K "Broken") "__init__")))),
  fun K => decide (PySem.W.typeIn K (.ref (He.ma K (He.ga K "Broken") "__init__")) = some (.type "function"))]
def fx_3 : List (PySem.W.Frag → Bool) := [fun K => oexB K (He.ga K "BadText") [He.ga K "RoomError"],
  fun K => xfB K (He.ga K "BadText"),
  fun K => He.eqO (PySem.W.findIn K (.ref (He.ga K "BadText")) "__init__") (some (some (.ref (He.ma K (He.ga K "BadText") "__init__")))),
  fun K => decide (PySem.W.typeIn K (.ref (He.ma K (He.ga K "BadText") "__init__")) = some (.type "function")),
  fun K => oexB K (He.ga K "NoName") [He.ga K "RoomError"],
  fun K => xfB K (He.ga K "NoName"),
  fun K => He.eqO (PySem.W.findIn K (.ref (He.ga K "NoName")) "__init__") (some (some (.ref (He.ma K (He.ga K "NoName") "__init__")))),
  fun K => decide (PySem.W.typeIn K (.ref (He.ma K (He.ga K "NoName") "__init__")) = some (.type "function")),
  fun K => (List.range 24).all fun i => decide (PySem.W.exmOne K (.ref (He.ga K (rnm i))) (.ref (He.ga K "RoomError")) = some true),
  fun K => (List.range 24).all fun i => decide (PySem.W.kitOne K (.ref (He.ga K (rnm i))) (.type "ValueError") = some true),
  fun K => (List.range 24).all fun i => exdB K (He.ga K (rnm i)),
  fun K => (List.range 24).all fun i => (List.range 24).all fun j => decide (PySem.W.kitOne K (.ref (He.ga K (rnm i))) (.ref (He.ga K (rnm j))) = some (decide (j = i)))]
def fx : List (PySem.W.Frag → Bool) := fx_0 ++ (fx_1 ++ (fx_2 ++ (fx_3)))
def tf : List He.Defn := []
def names_0 : List PySem.Str := ["RoomError",
  "BadKind",
  "BadEdition",
  "MissingKind",
  "RingOfCalls",
  "LongBody",
  "RoomTaken",
  "NoKind",
  "NoBits",
  "BadValue",
  "BadBits",
  "TooFew",
  "Left",
  "NoOwn",
  "BadNumber",
  "TooMany",
  "NoUndo",
  "NoStep",
  "BadWeights",
  "NoPlace",
  "NoRoom",
  "Broken",
  "BadText",
  "NoLine",
  "NoName",
  "_law_is_int",
  "_law_same_dict",
  "_law_same",
  "_law_start",
  "_law_pull"]
def names_1 : List PySem.Str := ["_law_big",
  "_law_field",
  "_law_raise_first",
  "_law_raise",
  "_law_classes",
  "_law_fields",
  "_law_caught"]
def names : List PySem.Str := names_0 ++ (names_1)
def ads : List Addr := mainGlobals :: List.range 3000
theorem txt_of {K : PySem.W.Frag} {h : Heap} {mg : Str → Option Value} (X : K.In h) (G : h.Ns mainGlobals mg) (c : SaysA fa fn tf fx h K) :
    ∃ A : Ad, Txt K mg A ∧ mg "law" = some (.ref A.f_law) ∧ (∀ (s : Shared) (v : Value), BindsTo s A.d_law ⟨[v], []⟩ [("script", v)]) ∧ A.rz = (fun n => He.ga K (rnm n)) := by
  obtain ⟨e_BadKind___init__, F_BadKind___init__⟩ := c.d.def_ 0 (d := dd_BadKind___init__) rfl
  obtain ⟨e_BadEdition___init__, F_BadEdition___init__⟩ := c.d.def_ 1 (d := dd_BadEdition___init__) rfl
  obtain ⟨e_MissingKind___init__, F_MissingKind___init__⟩ := c.d.def_ 2 (d := dd_MissingKind___init__) rfl
  obtain ⟨e_RingOfCalls___init__, F_RingOfCalls___init__⟩ := c.d.def_ 3 (d := dd_RingOfCalls___init__) rfl
  obtain ⟨e_LongBody___init__, F_LongBody___init__⟩ := c.d.def_ 4 (d := dd_LongBody___init__) rfl
  obtain ⟨e_RoomTaken___init__, F_RoomTaken___init__⟩ := c.d.def_ 5 (d := dd_RoomTaken___init__) rfl
  obtain ⟨e_BadValue___init__, F_BadValue___init__⟩ := c.d.def_ 6 (d := dd_BadValue___init__) rfl
  obtain ⟨e_BadBits___init__, F_BadBits___init__⟩ := c.d.def_ 7 (d := dd_BadBits___init__) rfl
  obtain ⟨e_TooFew___init__, F_TooFew___init__⟩ := c.d.def_ 8 (d := dd_TooFew___init__) rfl
  obtain ⟨e_Left___init__, F_Left___init__⟩ := c.d.def_ 9 (d := dd_Left___init__) rfl
  obtain ⟨e_BadNumber___init__, F_BadNumber___init__⟩ := c.d.def_ 10 (d := dd_BadNumber___init__) rfl
  obtain ⟨e_TooMany___init__, F_TooMany___init__⟩ := c.d.def_ 11 (d := dd_TooMany___init__) rfl
  obtain ⟨e_NoStep___init__, F_NoStep___init__⟩ := c.d.def_ 12 (d := dd_NoStep___init__) rfl
  obtain ⟨e_NoRoom___init__, F_NoRoom___init__⟩ := c.d.def_ 13 (d := dd_NoRoom___init__) rfl
  obtain ⟨e_Broken___init__, F_Broken___init__⟩ := c.d.def_ 14 (d := dd_Broken___init__) rfl
  obtain ⟨e_BadText___init__, F_BadText___init__⟩ := c.d.def_ 15 (d := dd_BadText___init__) rfl
  obtain ⟨e_NoName___init__, F_NoName___init__⟩ := c.d.def_ 16 (d := dd_NoName___init__) rfl
  obtain ⟨e__law_is_int, F__law_is_int⟩ := c.d.def_ 17 (d := dd__law_is_int) rfl
  obtain ⟨e__law_same_dict, F__law_same_dict⟩ := c.d.def_ 18 (d := dd__law_same_dict) rfl
  obtain ⟨e__law_same, F__law_same⟩ := c.d.def_ 19 (d := dd__law_same) rfl
  obtain ⟨e__law_start, F__law_start⟩ := c.d.def_ 20 (d := dd__law_start) rfl
  obtain ⟨e__law_pull, F__law_pull⟩ := c.d.def_ 21 (d := dd__law_pull) rfl
  obtain ⟨e__law_big, F__law_big⟩ := c.d.def_ 22 (d := dd__law_big) rfl
  obtain ⟨e__law_field, F__law_field⟩ := c.d.def_ 23 (d := dd__law_field) rfl
  obtain ⟨e__law_raise_first, F__law_raise_first⟩ := c.d.def_ 24 (d := dd__law_raise_first) rfl
  obtain ⟨e__law_raise, F__law_raise⟩ := c.d.def_ 25 (d := dd__law_raise) rfl
  obtain ⟨e__law_classes, F__law_classes⟩ := c.d.def_ 26 (d := dd__law_classes) rfl
  obtain ⟨e__law_fields, F__law_fields⟩ := c.d.def_ 27 (d := dd__law_fields) rfl
  obtain ⟨e__law_caught, F__law_caught⟩ := c.d.def_ 28 (d := dd__law_caught) rfl
  obtain ⟨e_law, F_law⟩ := c.d.def_ 29 (d := dd_law) rfl
  exact ⟨{ f_BadKind___init__ := (He.ma K (He.ga K "BadKind") "__init__"), d_BadKind___init__ := e_BadKind___init__, f_BadEdition___init__ := (He.ma K (He.ga K "BadEdition") "__init__"), d_BadEdition___init__ := e_BadEdition___init__, f_MissingKind___init__ := (He.ma K (He.ga K "MissingKind") "__init__"), d_MissingKind___init__ := e_MissingKind___init__, f_RingOfCalls___init__ := (He.ma K (He.ga K "RingOfCalls") "__init__"), d_RingOfCalls___init__ := e_RingOfCalls___init__, f_LongBody___init__ := (He.ma K (He.ga K "LongBody") "__init__"), d_LongBody___init__ := e_LongBody___init__, f_RoomTaken___init__ := (He.ma K (He.ga K "RoomTaken") "__init__"), d_RoomTaken___init__ := e_RoomTaken___init__, f_BadValue___init__ := (He.ma K (He.ga K "BadValue") "__init__"), d_BadValue___init__ := e_BadValue___init__, f_BadBits___init__ := (He.ma K (He.ga K "BadBits") "__init__"), d_BadBits___init__ := e_BadBits___init__, f_TooFew___init__ := (He.ma K (He.ga K "TooFew") "__init__"), d_TooFew___init__ := e_TooFew___init__, f_Left___init__ := (He.ma K (He.ga K "Left") "__init__"), d_Left___init__ := e_Left___init__, f_BadNumber___init__ := (He.ma K (He.ga K "BadNumber") "__init__"), d_BadNumber___init__ := e_BadNumber___init__, f_TooMany___init__ := (He.ma K (He.ga K "TooMany") "__init__"), d_TooMany___init__ := e_TooMany___init__, f_NoStep___init__ := (He.ma K (He.ga K "NoStep") "__init__"), d_NoStep___init__ := e_NoStep___init__, f_NoRoom___init__ := (He.ma K (He.ga K "NoRoom") "__init__"), d_NoRoom___init__ := e_NoRoom___init__, f_Broken___init__ := (He.ma K (He.ga K "Broken") "__init__"), d_Broken___init__ := e_Broken___init__, f_BadText___init__ := (He.ma K (He.ga K "BadText") "__init__"), d_BadText___init__ := e_BadText___init__, f_NoName___init__ := (He.ma K (He.ga K "NoName") "__init__"), d_NoName___init__ := e_NoName___init__, f__law_is_int := (He.ga K "_law_is_int"), d__law_is_int := e__law_is_int, f__law_same_dict := (He.ga K "_law_same_dict"), d__law_same_dict := e__law_same_dict, f__law_same := (He.ga K "_law_same"), d__law_same := e__law_same, f__law_start := (He.ga K "_law_start"), d__law_start := e__law_start, f__law_pull := (He.ga K "_law_pull"), d__law_pull := e__law_pull, f__law_big := (He.ga K "_law_big"), d__law_big := e__law_big, f__law_field := (He.ga K "_law_field"), d__law_field := e__law_field, f__law_raise_first := (He.ga K "_law_raise_first"), d__law_raise_first := e__law_raise_first, f__law_raise := (He.ga K "_law_raise"), d__law_raise := e__law_raise, f__law_classes := (He.ga K "_law_classes"), d__law_classes := e__law_classes, f__law_fields := (He.ga K "_law_fields"), d__law_fields := e__law_fields, f__law_caught := (He.ga K "_law_caught"), d__law_caught := e__law_caught, f_law := (He.ga K "law"), d_law := e_law, c_RoomError := (He.ga K "RoomError"), c_BadKind := (He.ga K "BadKind"), c_BadEdition := (He.ga K "BadEdition"), c_MissingKind := (He.ga K "MissingKind"), c_RingOfCalls := (He.ga K "RingOfCalls"), c_LongBody := (He.ga K "LongBody"), c_RoomTaken := (He.ga K "RoomTaken"), c_NoKind := (He.ga K "NoKind"), c_NoBits := (He.ga K "NoBits"), c_BadValue := (He.ga K "BadValue"), c_BadBits := (He.ga K "BadBits"), c_TooFew := (He.ga K "TooFew"), c_Left := (He.ga K "Left"), c_NoOwn := (He.ga K "NoOwn"), c_BadNumber := (He.ga K "BadNumber"), c_TooMany := (He.ga K "TooMany"), c_NoUndo := (He.ga K "NoUndo"), c_NoStep := (He.ga K "NoStep"), c_BadWeights := (He.ga K "BadWeights"), c_NoPlace := (He.ga K "NoPlace"), c_NoRoom := (He.ga K "NoRoom"), c_Broken := (He.ga K "Broken"), c_BadText := (He.ga K "BadText"), c_NoLine := (He.ga K "NoLine"), c_NoName := (He.ga K "NoName"), rz := (fun n => He.ga K (rnm n)) }, { k_BadKind___init__ := F_BadKind___init__.kp, F_BadKind___init__ := He5.fun_of F_BadKind___init__, b_BadKind___init__ := (He5.fun_of (st := s_BadKind___init__) F_BadKind___init__).binds (ps := ["self", "part"]) fun _ _ _ _ _ _ us hl => match us, hl with | [_, _], _ => rfl, k_BadEdition___init__ := F_BadEdition___init__.kp, F_BadEdition___init__ := He5.fun_of F_BadEdition___init__, b_BadEdition___init__ := (He5.fun_of (st := s_BadEdition___init__) F_BadEdition___init__).binds (ps := ["self", "part"]) fun _ _ _ _ _ _ us hl => match us, hl with | [_, _], _ => rfl, k_MissingKind___init__ := F_MissingKind___init__.kp, F_MissingKind___init__ := He5.fun_of F_MissingKind___init__, b_MissingKind___init__ := (He5.fun_of (st := s_MissingKind___init__) F_MissingKind___init__).binds (ps := ["self", "name"]) fun _ _ _ _ _ _ us hl => match us, hl with | [_, _], _ => rfl, k_RingOfCalls___init__ := F_RingOfCalls___init__.kp, F_RingOfCalls___init__ := He5.fun_of F_RingOfCalls___init__, b_RingOfCalls___init__ := (He5.fun_of (st := s_RingOfCalls___init__) F_RingOfCalls___init__).binds (ps := ["self", "name"]) fun _ _ _ _ _ _ us hl => match us, hl with | [_, _], _ => rfl, k_LongBody___init__ := F_LongBody___init__.kp, F_LongBody___init__ := He5.fun_of F_LongBody___init__, b_LongBody___init__ := (He5.fun_of (st := s_LongBody___init__) F_LongBody___init__).binds (ps := ["self", "name", "inner"]) fun _ _ _ _ _ _ us hl => match us, hl with | [_, _, _], _ => rfl, k_RoomTaken___init__ := F_RoomTaken___init__.kp, F_RoomTaken___init__ := He5.fun_of F_RoomTaken___init__, b_RoomTaken___init__ := (He5.fun_of (st := s_RoomTaken___init__) F_RoomTaken___init__).binds (ps := ["self", "name", "inner"]) fun _ _ _ _ _ _ us hl => match us, hl with | [_, _, _], _ => rfl, k_BadValue___init__ := F_BadValue___init__.kp, F_BadValue___init__ := He5.fun_of F_BadValue___init__, b_BadValue___init__ := (He5.fun_of (st := s_BadValue___init__) F_BadValue___init__).binds (ps := ["self", "path"]) fun _ _ _ _ _ _ us hl => match us, hl with | [_, _], _ => rfl, k_BadBits___init__ := F_BadBits___init__.kp, F_BadBits___init__ := He5.fun_of F_BadBits___init__, b_BadBits___init__ := (He5.fun_of (st := s_BadBits___init__) F_BadBits___init__).binds (ps := ["self", "at"]) fun _ _ _ _ _ _ us hl => match us, hl with | [_, _], _ => rfl, k_TooFew___init__ := F_TooFew___init__.kp, F_TooFew___init__ := He5.fun_of F_TooFew___init__, b_TooFew___init__ := (He5.fun_of (st := s_TooFew___init__) F_TooFew___init__).binds (ps := ["self", "due"]) fun _ _ _ _ _ _ us hl => match us, hl with | [_, _], _ => rfl, k_Left___init__ := F_Left___init__.kp, F_Left___init__ := He5.fun_of F_Left___init__, b_Left___init__ := (He5.fun_of (st := s_Left___init__) F_Left___init__).binds (ps := ["self", "at"]) fun _ _ _ _ _ _ us hl => match us, hl with | [_, _], _ => rfl, k_BadNumber___init__ := F_BadNumber___init__.kp, F_BadNumber___init__ := He5.fun_of F_BadNumber___init__, b_BadNumber___init__ := (He5.fun_of (st := s_BadNumber___init__) F_BadNumber___init__).binds (ps := ["self", "part"]) fun _ _ _ _ _ _ us hl => match us, hl with | [_, _], _ => rfl, k_TooMany___init__ := F_TooMany___init__.kp, F_TooMany___init__ := He5.fun_of F_TooMany___init__, b_TooMany___init__ := (He5.fun_of (st := s_TooMany___init__) F_TooMany___init__).binds (ps := ["self", "most"]) fun _ _ _ _ _ _ us hl => match us, hl with | [_, _], _ => rfl, k_NoStep___init__ := F_NoStep___init__.kp, F_NoStep___init__ := He5.fun_of F_NoStep___init__, b_NoStep___init__ := (He5.fun_of (st := s_NoStep___init__) F_NoStep___init__).binds (ps := ["self", "reason"]) fun _ _ _ _ _ _ us hl => match us, hl with | [_, _], _ => rfl, k_NoRoom___init__ := F_NoRoom___init__.kp, F_NoRoom___init__ := He5.fun_of F_NoRoom___init__, b_NoRoom___init__ := (He5.fun_of (st := s_NoRoom___init__) F_NoRoom___init__).binds (ps := ["self", "path"]) fun _ _ _ _ _ _ us hl => match us, hl with | [_, _], _ => rfl, k_Broken___init__ := F_Broken___init__.kp, F_Broken___init__ := He5.fun_of F_Broken___init__, b_Broken___init__ := (He5.fun_of (st := s_Broken___init__) F_Broken___init__).binds (ps := ["self", "at", "word"]) fun _ _ _ _ _ _ us hl => match us, hl with | [_, _, _], _ => rfl, k_BadText___init__ := F_BadText___init__.kp, F_BadText___init__ := He5.fun_of F_BadText___init__, b_BadText___init__ := (He5.fun_of (st := s_BadText___init__) F_BadText___init__).binds (ps := ["self", "line"]) fun _ _ _ _ _ _ us hl => match us, hl with | [_, _], _ => rfl, k_NoName___init__ := F_NoName___init__.kp, F_NoName___init__ := He5.fun_of F_NoName___init__, b_NoName___init__ := (He5.fun_of (st := s_NoName___init__) F_NoName___init__).binds (ps := ["self", "name"]) fun _ _ _ _ _ _ us hl => match us, hl with | [_, _], _ => rfl, k__law_is_int := F__law_is_int.kp, F__law_is_int := He5.fun_of F__law_is_int, b__law_is_int := (He5.fun_of (st := s__law_is_int) F__law_is_int).binds (ps := ["told"]) fun _ _ _ _ _ _ us hl => match us, hl with | [_], _ => rfl, mg__law_is_int := He.glo_ok X G (c.d.fact 0 (f := .glo "_law_is_int") rfl), k__law_same_dict := F__law_same_dict.kp, F__law_same_dict := He5.fun_of F__law_same_dict, b__law_same_dict := (He5.fun_of (st := s__law_same_dict) F__law_same_dict).binds (ps := ["told", "due"]) fun _ _ _ _ _ _ us hl => match us, hl with | [_, _], _ => rfl, mg__law_same_dict := He.glo_ok X G (c.d.fact 1 (f := .glo "_law_same_dict") rfl), k__law_same := F__law_same.kp, F__law_same := He5.fun_of F__law_same, b__law_same := (He5.fun_of (st := s__law_same) F__law_same).binds (ps := ["told", "due"]) fun _ _ _ _ _ _ us hl => match us, hl with | [_, _], _ => rfl, mg__law_same := He.glo_ok X G (c.d.fact 2 (f := .glo "_law_same") rfl), k__law_start := F__law_start.kp, F__law_start := He5.fun_of F__law_start, b__law_start := (He5.fun_of (st := s__law_start) F__law_start).binds (ps := ["script"]) fun _ _ _ _ _ _ us hl => match us, hl with | [_], _ => rfl, mg__law_start := He.glo_ok X G (c.d.fact 3 (f := .glo "_law_start") rfl), k__law_pull := F__law_pull.kp, F__law_pull := He5.fun_of F__law_pull, b__law_pull := (He5.fun_of (st := s__law_pull) F__law_pull).binds (ps := ["state", "many"]) fun _ _ _ _ _ _ us hl => match us, hl with | [_, _], _ => rfl, mg__law_pull := He.glo_ok X G (c.d.fact 4 (f := .glo "_law_pull") rfl), k__law_big := F__law_big.kp, F__law_big := He5.fun_of F__law_big, b__law_big := (He5.fun_of (st := s__law_big) F__law_big).binds (ps := ["state", "many"]) fun _ _ _ _ _ _ us hl => match us, hl with | [_, _], _ => rfl, mg__law_big := He.glo_ok X G (c.d.fact 5 (f := .glo "_law_big") rfl), k__law_field := F__law_field.kp, F__law_field := He5.fun_of F__law_field, b__law_field := (He5.fun_of (st := s__law_field) F__law_field).binds (ps := ["state"]) fun _ _ _ _ _ _ us hl => match us, hl with | [_], _ => rfl, mg__law_field := He.glo_ok X G (c.d.fact 6 (f := .glo "_law_field") rfl), k__law_raise_first := F__law_raise_first.kp, F__law_raise_first := He5.fun_of F__law_raise_first, b__law_raise_first := (He5.fun_of (st := s__law_raise_first) F__law_raise_first).binds (ps := ["which", "one", "other"]) fun _ _ _ _ _ _ us hl => match us, hl with | [_, _, _], _ => rfl, mg__law_raise_first := He.glo_ok X G (c.d.fact 7 (f := .glo "_law_raise_first") rfl), k__law_raise := F__law_raise.kp, F__law_raise := He5.fun_of F__law_raise, b__law_raise := (He5.fun_of (st := s__law_raise) F__law_raise).binds (ps := ["which", "one", "other"]) fun _ _ _ _ _ _ us hl => match us, hl with | [_, _, _], _ => rfl, mg__law_raise := He.glo_ok X G (c.d.fact 8 (f := .glo "_law_raise") rfl), k__law_classes := F__law_classes.kp, F__law_classes := He5.fun_of F__law_classes, b__law_classes := (He5.fun_of (st := s__law_classes) F__law_classes).binds (ps := ["e"]) fun _ _ _ _ _ _ us hl => match us, hl with | [_], _ => rfl, mg__law_classes := He.glo_ok X G (c.d.fact 9 (f := .glo "_law_classes") rfl), k__law_fields := F__law_fields.kp, F__law_fields := He5.fun_of F__law_fields, b__law_fields := (He5.fun_of (st := s__law_fields) F__law_fields).binds (ps := ["e", "which"]) fun _ _ _ _ _ _ us hl => match us, hl with | [_, _], _ => rfl, mg__law_fields := He.glo_ok X G (c.d.fact 10 (f := .glo "_law_fields") rfl), k__law_caught := F__law_caught.kp, F__law_caught := He5.fun_of F__law_caught, b__law_caught := (He5.fun_of (st := s__law_caught) F__law_caught).binds (ps := ["which", "one", "other"]) fun _ _ _ _ _ _ us hl => match us, hl with | [_, _, _], _ => rfl, mg__law_caught := He.glo_ok X G (c.d.fact 11 (f := .glo "_law_caught") rfl), k_law := F_law.kp, F_law := He5.fun_of F_law, b_law := (He5.fun_of (st := s_law) F_law).binds (ps := ["script"]) fun _ _ _ _ _ _ us hl => match us, hl with | [_], _ => rfl, mg_law := He.glo_ok X G (c.d.fact 12 (f := .glo "law") rfl), mg_RoomError := He.glo_ok X G (c.d.fact 13 (f := .glo "RoomError") rfl), te_RoomError := He.exm_ok (c.d.fact 14 (f := .exm "RoomError" "RoomError" true) rfl), xo_RoomError := He.exc_ok (c.d.fact 15 (f := .exc "RoomError") rfl), mg_BadKind := He.glo_ok X G (c.d.fact 16 (f := .glo "BadKind") rfl), te_BadKind := He.exm_ok (c.d.fact 17 (f := .exm "BadKind" "BadKind" true) rfl), oex_BadKind := oexB_ok (c.at 0 (f := fun K => oexB K (He.ga K "BadKind") [He.ga K "RoomError"]) rfl), xf_BadKind := xfB_ok (c.at 1 (f := fun K => xfB K (He.ga K "BadKind")) rfl), ix_BadKind := He.eqO_ok (c.at 2 (f := fun K => He.eqO (PySem.W.findIn K (.ref (He.ga K "BadKind")) "__init__") (some (some (.ref (He.ma K (He.ga K "BadKind") "__init__"))))) rfl), tx_BadKind := of_decide_eq_true (c.at 3 (f := fun K => decide (PySem.W.typeIn K (.ref (He.ma K (He.ga K "BadKind") "__init__")) = some (.type "function"))) rfl), nx_BadKind_part := He.noat_ok (c.d.fact 18 (f := .noat "BadKind" "part") rfl), mg_BadEdition := He.glo_ok X G (c.d.fact 19 (f := .glo "BadEdition") rfl), te_BadEdition := He.exm_ok (c.d.fact 20 (f := .exm "BadEdition" "BadEdition" true) rfl), oex_BadEdition := oexB_ok (c.at 4 (f := fun K => oexB K (He.ga K "BadEdition") [He.ga K "RoomError"]) rfl), xf_BadEdition := xfB_ok (c.at 5 (f := fun K => xfB K (He.ga K "BadEdition")) rfl), ix_BadEdition := He.eqO_ok (c.at 6 (f := fun K => He.eqO (PySem.W.findIn K (.ref (He.ga K "BadEdition")) "__init__") (some (some (.ref (He.ma K (He.ga K "BadEdition") "__init__"))))) rfl), tx_BadEdition := of_decide_eq_true (c.at 7 (f := fun K => decide (PySem.W.typeIn K (.ref (He.ma K (He.ga K "BadEdition") "__init__")) = some (.type "function"))) rfl), nx_BadEdition_part := He.noat_ok (c.d.fact 21 (f := .noat "BadEdition" "part") rfl), mg_MissingKind := He.glo_ok X G (c.d.fact 22 (f := .glo "MissingKind") rfl), te_MissingKind := He.exm_ok (c.d.fact 23 (f := .exm "MissingKind" "MissingKind" true) rfl), oex_MissingKind := oexB_ok (c.at 8 (f := fun K => oexB K (He.ga K "MissingKind") [He.ga K "RoomError"]) rfl), xf_MissingKind := xfB_ok (c.at 9 (f := fun K => xfB K (He.ga K "MissingKind")) rfl), ix_MissingKind := He.eqO_ok (c.at 10 (f := fun K => He.eqO (PySem.W.findIn K (.ref (He.ga K "MissingKind")) "__init__") (some (some (.ref (He.ma K (He.ga K "MissingKind") "__init__"))))) rfl), tx_MissingKind := of_decide_eq_true (c.at 11 (f := fun K => decide (PySem.W.typeIn K (.ref (He.ma K (He.ga K "MissingKind") "__init__")) = some (.type "function"))) rfl), nx_MissingKind_name := He.noat_ok (c.d.fact 24 (f := .noat "MissingKind" "name") rfl), mg_RingOfCalls := He.glo_ok X G (c.d.fact 25 (f := .glo "RingOfCalls") rfl), te_RingOfCalls := He.exm_ok (c.d.fact 26 (f := .exm "RingOfCalls" "RingOfCalls" true) rfl), oex_RingOfCalls := oexB_ok (c.at 12 (f := fun K => oexB K (He.ga K "RingOfCalls") [He.ga K "RoomError"]) rfl), xf_RingOfCalls := xfB_ok (c.at 13 (f := fun K => xfB K (He.ga K "RingOfCalls")) rfl), ix_RingOfCalls := He.eqO_ok (c.at 14 (f := fun K => He.eqO (PySem.W.findIn K (.ref (He.ga K "RingOfCalls")) "__init__") (some (some (.ref (He.ma K (He.ga K "RingOfCalls") "__init__"))))) rfl), tx_RingOfCalls := of_decide_eq_true (c.at 15 (f := fun K => decide (PySem.W.typeIn K (.ref (He.ma K (He.ga K "RingOfCalls") "__init__")) = some (.type "function"))) rfl), nx_RingOfCalls_name := He.noat_ok (c.d.fact 27 (f := .noat "RingOfCalls" "name") rfl), mg_LongBody := He.glo_ok X G (c.d.fact 28 (f := .glo "LongBody") rfl), te_LongBody := He.exm_ok (c.d.fact 29 (f := .exm "LongBody" "LongBody" true) rfl), oex_LongBody := oexB_ok (c.at 16 (f := fun K => oexB K (He.ga K "LongBody") [He.ga K "RoomError"]) rfl), xf_LongBody := xfB_ok (c.at 17 (f := fun K => xfB K (He.ga K "LongBody")) rfl), ix_LongBody := He.eqO_ok (c.at 18 (f := fun K => He.eqO (PySem.W.findIn K (.ref (He.ga K "LongBody")) "__init__") (some (some (.ref (He.ma K (He.ga K "LongBody") "__init__"))))) rfl), tx_LongBody := of_decide_eq_true (c.at 19 (f := fun K => decide (PySem.W.typeIn K (.ref (He.ma K (He.ga K "LongBody") "__init__")) = some (.type "function"))) rfl), nx_LongBody_name := He.noat_ok (c.d.fact 30 (f := .noat "LongBody" "name") rfl), nx_LongBody_inner := He.noat_ok (c.d.fact 31 (f := .noat "LongBody" "inner") rfl), mg_RoomTaken := He.glo_ok X G (c.d.fact 32 (f := .glo "RoomTaken") rfl), te_RoomTaken := He.exm_ok (c.d.fact 33 (f := .exm "RoomTaken" "RoomTaken" true) rfl), oex_RoomTaken := oexB_ok (c.at 20 (f := fun K => oexB K (He.ga K "RoomTaken") [He.ga K "RoomError"]) rfl), xf_RoomTaken := xfB_ok (c.at 21 (f := fun K => xfB K (He.ga K "RoomTaken")) rfl), ix_RoomTaken := He.eqO_ok (c.at 22 (f := fun K => He.eqO (PySem.W.findIn K (.ref (He.ga K "RoomTaken")) "__init__") (some (some (.ref (He.ma K (He.ga K "RoomTaken") "__init__"))))) rfl), tx_RoomTaken := of_decide_eq_true (c.at 23 (f := fun K => decide (PySem.W.typeIn K (.ref (He.ma K (He.ga K "RoomTaken") "__init__")) = some (.type "function"))) rfl), nx_RoomTaken_name := He.noat_ok (c.d.fact 34 (f := .noat "RoomTaken" "name") rfl), nx_RoomTaken_inner := He.noat_ok (c.d.fact 35 (f := .noat "RoomTaken" "inner") rfl), mg_NoKind := He.glo_ok X G (c.d.fact 36 (f := .glo "NoKind") rfl), te_NoKind := He.exm_ok (c.d.fact 37 (f := .exm "NoKind" "NoKind" true) rfl), xo_NoKind := He.exc_ok (c.d.fact 38 (f := .exc "NoKind") rfl), mg_NoBits := He.glo_ok X G (c.d.fact 39 (f := .glo "NoBits") rfl), te_NoBits := He.exm_ok (c.d.fact 40 (f := .exm "NoBits" "NoBits" true) rfl), xo_NoBits := He.exc_ok (c.d.fact 41 (f := .exc "NoBits") rfl), mg_BadValue := He.glo_ok X G (c.d.fact 42 (f := .glo "BadValue") rfl), te_BadValue := He.exm_ok (c.d.fact 43 (f := .exm "BadValue" "BadValue" true) rfl), oex_BadValue := oexB_ok (c.at 24 (f := fun K => oexB K (He.ga K "BadValue") [He.ga K "RoomError"]) rfl), xf_BadValue := xfB_ok (c.at 25 (f := fun K => xfB K (He.ga K "BadValue")) rfl), ix_BadValue := He.eqO_ok (c.at 26 (f := fun K => He.eqO (PySem.W.findIn K (.ref (He.ga K "BadValue")) "__init__") (some (some (.ref (He.ma K (He.ga K "BadValue") "__init__"))))) rfl), tx_BadValue := of_decide_eq_true (c.at 27 (f := fun K => decide (PySem.W.typeIn K (.ref (He.ma K (He.ga K "BadValue") "__init__")) = some (.type "function"))) rfl), nx_BadValue_path := He.noat_ok (c.d.fact 44 (f := .noat "BadValue" "path") rfl), mg_BadBits := He.glo_ok X G (c.d.fact 45 (f := .glo "BadBits") rfl), te_BadBits := He.exm_ok (c.d.fact 46 (f := .exm "BadBits" "BadBits" true) rfl), oex_BadBits := oexB_ok (c.at 28 (f := fun K => oexB K (He.ga K "BadBits") [He.ga K "RoomError"]) rfl), xf_BadBits := xfB_ok (c.at 29 (f := fun K => xfB K (He.ga K "BadBits")) rfl), ix_BadBits := He.eqO_ok (c.at 30 (f := fun K => He.eqO (PySem.W.findIn K (.ref (He.ga K "BadBits")) "__init__") (some (some (.ref (He.ma K (He.ga K "BadBits") "__init__"))))) rfl), tx_BadBits := of_decide_eq_true (c.at 31 (f := fun K => decide (PySem.W.typeIn K (.ref (He.ma K (He.ga K "BadBits") "__init__")) = some (.type "function"))) rfl), nx_BadBits_at := He.noat_ok (c.d.fact 47 (f := .noat "BadBits" "at") rfl), mg_TooFew := He.glo_ok X G (c.d.fact 48 (f := .glo "TooFew") rfl), te_TooFew := He.exm_ok (c.d.fact 49 (f := .exm "TooFew" "TooFew" true) rfl), oex_TooFew := oexB_ok (c.at 32 (f := fun K => oexB K (He.ga K "TooFew") [He.ga K "RoomError"]) rfl), xf_TooFew := xfB_ok (c.at 33 (f := fun K => xfB K (He.ga K "TooFew")) rfl), ix_TooFew := He.eqO_ok (c.at 34 (f := fun K => He.eqO (PySem.W.findIn K (.ref (He.ga K "TooFew")) "__init__") (some (some (.ref (He.ma K (He.ga K "TooFew") "__init__"))))) rfl), tx_TooFew := of_decide_eq_true (c.at 35 (f := fun K => decide (PySem.W.typeIn K (.ref (He.ma K (He.ga K "TooFew") "__init__")) = some (.type "function"))) rfl), nx_TooFew_due := He.noat_ok (c.d.fact 50 (f := .noat "TooFew" "due") rfl), mg_Left := He.glo_ok X G (c.d.fact 51 (f := .glo "Left") rfl), te_Left := He.exm_ok (c.d.fact 52 (f := .exm "Left" "Left" true) rfl), oex_Left := oexB_ok (c.at 36 (f := fun K => oexB K (He.ga K "Left") [He.ga K "RoomError"]) rfl), xf_Left := xfB_ok (c.at 37 (f := fun K => xfB K (He.ga K "Left")) rfl), ix_Left := He.eqO_ok (c.at 38 (f := fun K => He.eqO (PySem.W.findIn K (.ref (He.ga K "Left")) "__init__") (some (some (.ref (He.ma K (He.ga K "Left") "__init__"))))) rfl), tx_Left := of_decide_eq_true (c.at 39 (f := fun K => decide (PySem.W.typeIn K (.ref (He.ma K (He.ga K "Left") "__init__")) = some (.type "function"))) rfl), nx_Left_at := He.noat_ok (c.d.fact 53 (f := .noat "Left" "at") rfl), mg_NoOwn := He.glo_ok X G (c.d.fact 54 (f := .glo "NoOwn") rfl), te_NoOwn := He.exm_ok (c.d.fact 55 (f := .exm "NoOwn" "NoOwn" true) rfl), xo_NoOwn := He.exc_ok (c.d.fact 56 (f := .exc "NoOwn") rfl), mg_BadNumber := He.glo_ok X G (c.d.fact 57 (f := .glo "BadNumber") rfl), te_BadNumber := He.exm_ok (c.d.fact 58 (f := .exm "BadNumber" "BadNumber" true) rfl), oex_BadNumber := oexB_ok (c.at 40 (f := fun K => oexB K (He.ga K "BadNumber") [He.ga K "RoomError"]) rfl), xf_BadNumber := xfB_ok (c.at 41 (f := fun K => xfB K (He.ga K "BadNumber")) rfl), ix_BadNumber := He.eqO_ok (c.at 42 (f := fun K => He.eqO (PySem.W.findIn K (.ref (He.ga K "BadNumber")) "__init__") (some (some (.ref (He.ma K (He.ga K "BadNumber") "__init__"))))) rfl), tx_BadNumber := of_decide_eq_true (c.at 43 (f := fun K => decide (PySem.W.typeIn K (.ref (He.ma K (He.ga K "BadNumber") "__init__")) = some (.type "function"))) rfl), nx_BadNumber_part := He.noat_ok (c.d.fact 59 (f := .noat "BadNumber" "part") rfl), mg_TooMany := He.glo_ok X G (c.d.fact 60 (f := .glo "TooMany") rfl), te_TooMany := He.exm_ok (c.d.fact 61 (f := .exm "TooMany" "TooMany" true) rfl), oex_TooMany := oexB_ok (c.at 44 (f := fun K => oexB K (He.ga K "TooMany") [He.ga K "RoomError"]) rfl), xf_TooMany := xfB_ok (c.at 45 (f := fun K => xfB K (He.ga K "TooMany")) rfl), ix_TooMany := He.eqO_ok (c.at 46 (f := fun K => He.eqO (PySem.W.findIn K (.ref (He.ga K "TooMany")) "__init__") (some (some (.ref (He.ma K (He.ga K "TooMany") "__init__"))))) rfl), tx_TooMany := of_decide_eq_true (c.at 47 (f := fun K => decide (PySem.W.typeIn K (.ref (He.ma K (He.ga K "TooMany") "__init__")) = some (.type "function"))) rfl), nx_TooMany_most := He.noat_ok (c.d.fact 62 (f := .noat "TooMany" "most") rfl), mg_NoUndo := He.glo_ok X G (c.d.fact 63 (f := .glo "NoUndo") rfl), te_NoUndo := He.exm_ok (c.d.fact 64 (f := .exm "NoUndo" "NoUndo" true) rfl), xo_NoUndo := He.exc_ok (c.d.fact 65 (f := .exc "NoUndo") rfl), mg_NoStep := He.glo_ok X G (c.d.fact 66 (f := .glo "NoStep") rfl), te_NoStep := He.exm_ok (c.d.fact 67 (f := .exm "NoStep" "NoStep" true) rfl), oex_NoStep := oexB_ok (c.at 48 (f := fun K => oexB K (He.ga K "NoStep") [He.ga K "RoomError"]) rfl), xf_NoStep := xfB_ok (c.at 49 (f := fun K => xfB K (He.ga K "NoStep")) rfl), ix_NoStep := He.eqO_ok (c.at 50 (f := fun K => He.eqO (PySem.W.findIn K (.ref (He.ga K "NoStep")) "__init__") (some (some (.ref (He.ma K (He.ga K "NoStep") "__init__"))))) rfl), tx_NoStep := of_decide_eq_true (c.at 51 (f := fun K => decide (PySem.W.typeIn K (.ref (He.ma K (He.ga K "NoStep") "__init__")) = some (.type "function"))) rfl), nx_NoStep_reason := He.noat_ok (c.d.fact 68 (f := .noat "NoStep" "reason") rfl), mg_BadWeights := He.glo_ok X G (c.d.fact 69 (f := .glo "BadWeights") rfl), te_BadWeights := He.exm_ok (c.d.fact 70 (f := .exm "BadWeights" "BadWeights" true) rfl), xo_BadWeights := He.exc_ok (c.d.fact 71 (f := .exc "BadWeights") rfl), mg_NoPlace := He.glo_ok X G (c.d.fact 72 (f := .glo "NoPlace") rfl), te_NoPlace := He.exm_ok (c.d.fact 73 (f := .exm "NoPlace" "NoPlace" true) rfl), xo_NoPlace := He.exc_ok (c.d.fact 74 (f := .exc "NoPlace") rfl), mg_NoRoom := He.glo_ok X G (c.d.fact 75 (f := .glo "NoRoom") rfl), te_NoRoom := He.exm_ok (c.d.fact 76 (f := .exm "NoRoom" "NoRoom" true) rfl), oex_NoRoom := oexB_ok (c.at 52 (f := fun K => oexB K (He.ga K "NoRoom") [He.ga K "RoomError"]) rfl), xf_NoRoom := xfB_ok (c.at 53 (f := fun K => xfB K (He.ga K "NoRoom")) rfl), ix_NoRoom := He.eqO_ok (c.at 54 (f := fun K => He.eqO (PySem.W.findIn K (.ref (He.ga K "NoRoom")) "__init__") (some (some (.ref (He.ma K (He.ga K "NoRoom") "__init__"))))) rfl), tx_NoRoom := of_decide_eq_true (c.at 55 (f := fun K => decide (PySem.W.typeIn K (.ref (He.ma K (He.ga K "NoRoom") "__init__")) = some (.type "function"))) rfl), nx_NoRoom_path := He.noat_ok (c.d.fact 77 (f := .noat "NoRoom" "path") rfl), mg_Broken := He.glo_ok X G (c.d.fact 78 (f := .glo "Broken") rfl), te_Broken := He.exm_ok (c.d.fact 79 (f := .exm "Broken" "Broken" true) rfl), oex_Broken := oexB_ok (c.at 56 (f := fun K => oexB K (He.ga K "Broken") [He.ga K "RoomError"]) rfl), xf_Broken := xfB_ok (c.at 57 (f := fun K => xfB K (He.ga K "Broken")) rfl), ix_Broken := He.eqO_ok (c.at 58 (f := fun K => He.eqO (PySem.W.findIn K (.ref (He.ga K "Broken")) "__init__") (some (some (.ref (He.ma K (He.ga K "Broken") "__init__"))))) rfl), tx_Broken := of_decide_eq_true (c.at 59 (f := fun K => decide (PySem.W.typeIn K (.ref (He.ma K (He.ga K "Broken") "__init__")) = some (.type "function"))) rfl), nx_Broken_at := He.noat_ok (c.d.fact 80 (f := .noat "Broken" "at") rfl), nx_Broken_word := He.noat_ok (c.d.fact 81 (f := .noat "Broken" "word") rfl), mg_BadText := He.glo_ok X G (c.d.fact 82 (f := .glo "BadText") rfl), te_BadText := He.exm_ok (c.d.fact 83 (f := .exm "BadText" "BadText" true) rfl), oex_BadText := oexB_ok (c.at 60 (f := fun K => oexB K (He.ga K "BadText") [He.ga K "RoomError"]) rfl), xf_BadText := xfB_ok (c.at 61 (f := fun K => xfB K (He.ga K "BadText")) rfl), ix_BadText := He.eqO_ok (c.at 62 (f := fun K => He.eqO (PySem.W.findIn K (.ref (He.ga K "BadText")) "__init__") (some (some (.ref (He.ma K (He.ga K "BadText") "__init__"))))) rfl), tx_BadText := of_decide_eq_true (c.at 63 (f := fun K => decide (PySem.W.typeIn K (.ref (He.ma K (He.ga K "BadText") "__init__")) = some (.type "function"))) rfl), nx_BadText_line := He.noat_ok (c.d.fact 84 (f := .noat "BadText" "line") rfl), mg_NoLine := He.glo_ok X G (c.d.fact 85 (f := .glo "NoLine") rfl), te_NoLine := He.exm_ok (c.d.fact 86 (f := .exm "NoLine" "NoLine" true) rfl), xo_NoLine := He.exc_ok (c.d.fact 87 (f := .exc "NoLine") rfl), mg_NoName := He.glo_ok X G (c.d.fact 88 (f := .glo "NoName") rfl), te_NoName := He.exm_ok (c.d.fact 89 (f := .exm "NoName" "NoName" true) rfl), oex_NoName := oexB_ok (c.at 64 (f := fun K => oexB K (He.ga K "NoName") [He.ga K "RoomError"]) rfl), xf_NoName := xfB_ok (c.at 65 (f := fun K => xfB K (He.ga K "NoName")) rfl), ix_NoName := He.eqO_ok (c.at 66 (f := fun K => He.eqO (PySem.W.findIn K (.ref (He.ga K "NoName")) "__init__") (some (some (.ref (He.ma K (He.ga K "NoName") "__init__"))))) rfl), tx_NoName := of_decide_eq_true (c.at 67 (f := fun K => decide (PySem.W.typeIn K (.ref (He.ma K (He.ga K "NoName") "__init__")) = some (.type "function"))) rfl), nx_NoName_name := He.noat_ok (c.d.fact 90 (f := .noat "NoName" "name") rfl), b_ValueError := He.free_ok X G (c.d.fact 91 (f := .free "ValueError") rfl), b_bool := He.free_ok X G (c.d.fact 92 (f := .free "bool") rfl), b_dict := He.free_ok X G (c.d.fact 93 (f := .free "dict") rfl), b_int := He.free_ok X G (c.d.fact 94 (f := .free "int") rfl), b_isinstance := He.free_ok X G (c.d.fact 95 (f := .free "isinstance") rfl), b_len := He.free_ok X G (c.d.fact 96 (f := .free "len") rfl), b_list := He.free_ok X G (c.d.fact 97 (f := .free "list") rfl), b_range := He.free_ok X G (c.d.fact 98 (f := .free "range") rfl), b_str := He.free_ok X G (c.d.fact 99 (f := .free "str") rfl), b_tuple := He.free_ok X G (c.d.fact 100 (f := .free "tuple") rfl), em := fun n hn => of_decide_eq_true (List.all_eq_true.mp (c.at 68 (f := fun K => (List.range 24).all fun i => decide (PySem.W.exmOne K (.ref (He.ga K (rnm i))) (.ref (He.ga K "RoomError")) = some true)) rfl) n (List.mem_range.mpr hn)), kv := fun n hn => of_decide_eq_true (List.all_eq_true.mp (c.at 69 (f := fun K => (List.range 24).all fun i => decide (PySem.W.kitOne K (.ref (He.ga K (rnm i))) (.type "ValueError") = some true)) rfl) n (List.mem_range.mpr hn)), xd := fun n hn => exdB_ok (List.all_eq_true.mp (c.at 70 (f := fun K => (List.range 24).all fun i => exdB K (He.ga K (rnm i))) rfl) n (List.mem_range.mpr hn)), ki := fun n hn j hj => of_decide_eq_true (List.all_eq_true.mp (List.all_eq_true.mp (c.at 71 (f := fun K => (List.range 24).all fun i => (List.range 24).all fun j => decide (PySem.W.kitOne K (.ref (He.ga K (rnm i))) (.ref (He.ga K (rnm j))) = some (decide (j = i)))) rfl) n (List.mem_range.mpr hn)) j (List.mem_range.mpr hj)), rz0 := rfl, rz1 := rfl, rz2 := rfl, rz3 := rfl, rz4 := rfl, rz5 := rfl, rz6 := rfl, rz7 := rfl, rz8 := rfl, rz9 := rfl, rz10 := rfl, rz11 := rfl, rz12 := rfl, rz13 := rfl, rz14 := rfl, rz15 := rfl, rz16 := rfl, rz17 := rfl, rz18 := rfl, rz19 := rfl, rz20 := rfl, rz21 := rfl, rz22 := rfl, rz23 := rfl }, He.glo_ok X G (c.d.fact 12 (f := .glo "law") rfl), fun s v => (FunD.bindsA (ps := ["script"]) F_law fun _ _ _ _ _ _ us hl => match us, hl with | [_], _ => rfl) s [v] rfl, rfl⟩
abbrev hk : PySem.W.Hook := hookA ads fa fn tf fx
def ob (s : PySem.W.SharedT) : He.AlD × Bool := obsA ads fa fn tf fx (HandSHeadRun.getT s)
theorem ob_eq (s : PySem.W.SharedT) : ob s = hk.obs s.abs := obsA_eq (HandSHeadRun.getT_eq s)
theorem run (w : World) : HandSHeadRun.RunEq (PySem.W.OpenLaw.row PySem.Challenge.rw_roomleft_k01_errors_and_their_fields) (PySem.W.view (PySem.W.OpenLaw.row PySem.Challenge.rw_roomleft_k01_errors_and_their_fields).prog [39]) hk ob 20000 names w := by
  intro os
  kernel_rfl
end My

open PySem PySem.W PySem.Calls PyProof.Rows in
set_option maxRecDepth 100000 in
set_option maxHeartbeats 0 in
theorem PySem.Challenge.cw_roomleft_k01_errors_and_their_fields_holds : PySem.Challenge.rw_roomleft_k01_errors_and_their_fields.Holds := by
  w_on; o_law
  refine HandSHeadRun.head_any (r := OpenLaw.row PySem.Challenge.rw_roomleft_k01_errors_and_their_fields) (q := view (OpenLaw.row PySem.Challenge.rw_roomleft_k01_errors_and_their_fields).prog [39]) (H := My.hk) (ob := My.ob) (M := 20000) (loose := My.names) (d := HandSHeadRun.topDef (OpenLaw.row PySem.Challenge.rw_roomleft_k01_errors_and_their_fields).prog 39) (kwd := []) My.ob_eq (by kernel_rfl) (fun s => by kernel_rfl) My.run (by kernel_rfl) (by kernel_rfl) (by kernel_rfl) (by rfl) (by first | assumption | decide +kernel) (by decide +kernel) ⟨rfl, rfl, rfl, rfl, rfl, by decide +kernel⟩ ?hw ?hc
  case hw => w_witness2
  case hc =>
    refine L2.walk_ofE (l := PySem.Challenge.rw_roomleft_k01_errors_and_their_fields) (n := 63) (k := 6) (x := "script") (CX := L2.CX0) rfl (by decide) (by kernel_rfl) ⟨rfl, by decide, by decide⟩ ?F (fun _ _ _ _ z => z)
    intro w mg fa h Y G hm0
    obtain ⟨K, KX, c⟩ := Y
    have hm : mg ("law" : PySem.Str) = some (.ref fa) := by
      rw [← show (HandSHeadRun.topDef (OpenLaw.row PySem.Challenge.rw_roomleft_k01_errors_and_their_fields).prog 39).name = ("law" : PySem.Str) from by kernel_rfl]
      exact hm0
    obtain ⟨A, T, e, b, _⟩ := My.txt_of KX G c
    have e2 := hm.symm.trans e
    cases e2
    exact ⟨K, A.d_law, My.sp_law0 K, KX, b, fun H a ns hl _ hS => ⟨_, rfl, a, ns, rfl, hS, hl, fun _ => rfl⟩, fun base _ _ => My.ok_law T⟩
#print axioms PySem.Challenge.cw_roomleft_k01_errors_and_their_fields_holds
