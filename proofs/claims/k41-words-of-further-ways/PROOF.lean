import PyProof.Rows.All
import Wide.All
import OpenK.AllK
import Wide.FinOn
import HandS.ForMost
import HandS.Wide
import HandS.TupAny
import HandS.IsInst
import HandS.OwnEq
import HandS.MakeKwOnly
import HandS.Evl
import HandS.Codes
import PyProof.InstNe
import KE.DataEq
import HandS.ExcInit
import HandS.ExcField
import HandS.ExcOwn
import HandS.Exc
import HandS.Defaults
import HandS.WordsExc
import HandS.CallSlots
import HandS.TryOnly
import HandS.WideBits
import HandS.Text
import HandS.Walk
import HandS.Iter
import HandS.Zip
import KE.GoesMore
import PyProof.EnumMake
import PyProof.Draws
import HandS.SetFor
import HandS.SetBool
import HandS.Strs
import HandS.DictComp
import HandS.Property
import KE.KSuper
import KE.DataMinMax
import HandS.SortKw
import HandS.Sort
import HandS.More
import HandS.Small
import KE.KDictDisplayH
import HandS.TupLe
import HandS.Star
import HandS.TryMany
import KE.SortData
import HandS.SortRule
import HandS.Head2
import HandS.HeadHook4
import HandS.HeadNt
import HandS.HeadWalk
import HandS.HeadEnd
import KE.KStateDown
import PySem.Challenge.RW_roomleft_k41_words_of_further_ways
set_option Elab.async false
set_option linter.all false
set_option maxRecDepth 100000
set_option maxHeartbeats 4000000
set_option autoImplicit false
namespace My
open PySem L2
/-! promises by the number of arguments -/
def Sp0 (f : Hp → VK → XK → Prop) : Sp := fun vs H Q E => vs = [] ∧ f H Q E
def Sp1 (f : V → Hp → VK → XK → Prop) : Sp := fun vs H Q E => ∃ a, vs = [a] ∧ f a H Q E
def Sp2 (f : V → V → Hp → VK → XK → Prop) : Sp := fun vs H Q E => ∃ a b, vs = [a, b] ∧ f a b H Q E
def Sp3 (f : V → V → V → Hp → VK → XK → Prop) : Sp := fun vs H Q E => ∃ a b c, vs = [a, b, c] ∧ f a b c H Q E
def Sp4 (f : V → V → V → V → Hp → VK → XK → Prop) : Sp := fun vs H Q E => ∃ a b c d, vs = [a, b, c, d] ∧ f a b c d H Q E
def Sp5 (f : V → V → V → V → V → Hp → VK → XK → Prop) : Sp := fun vs H Q E => ∃ a b c d e, vs = [a, b, c, d, e] ∧ f a b c d e H Q E
def Sp6 (f : V → V → V → V → V → V → Hp → VK → XK → Prop) : Sp := fun vs H Q E => ∃ a b c d e g, vs = [a, b, c, d, e, g] ∧ f a b c d e g H Q E
section
variable {vs : List V} {H : Hp} {Q : VK} {E : XK}
theorem sp1_len {f : V → Hp → VK → XK → Prop} (h : Sp1 f vs H Q E) : vs.length = 1 := by obtain ⟨_, rfl, _⟩ := h; rfl
theorem sp2_len {f : V → V → Hp → VK → XK → Prop} (h : Sp2 f vs H Q E) : vs.length = 2 := by obtain ⟨_, _, rfl, _⟩ := h; rfl
theorem sp3_len {f : V → V → V → Hp → VK → XK → Prop} (h : Sp3 f vs H Q E) : vs.length = 3 := by obtain ⟨_, _, _, rfl, _⟩ := h; rfl
theorem sp4_len {f : V → V → V → V → Hp → VK → XK → Prop} (h : Sp4 f vs H Q E) : vs.length = 4 := by obtain ⟨_, _, _, _, rfl, _⟩ := h; rfl
theorem sp5_len {f : V → V → V → V → V → Hp → VK → XK → Prop} (h : Sp5 f vs H Q E) : vs.length = 5 := by obtain ⟨_, _, _, _, _, rfl, _⟩ := h; rfl
theorem sp6_len {f : V → V → V → V → V → V → Hp → VK → XK → Prop} (h : Sp6 f vs H Q E) : vs.length = 6 := by obtain ⟨_, _, _, _, _, _, rfl, _⟩ := h; rfl
theorem sp1_of {f : V → Hp → VK → XK → Prop} (h : Sp1 f vs H Q E) : ∃ a, vs = [a] ∧ f a H Q E := h
theorem sp2_of {f : V → V → Hp → VK → XK → Prop} (h : Sp2 f vs H Q E) : ∃ a b, vs = [a, b] ∧ f a b H Q E := h
theorem sp3_of {f : V → V → V → Hp → VK → XK → Prop} (h : Sp3 f vs H Q E) : ∃ a b c, vs = [a, b, c] ∧ f a b c H Q E := h
theorem sp4_of {f : V → V → V → V → Hp → VK → XK → Prop} (h : Sp4 f vs H Q E) : ∃ a b c d, vs = [a, b, c, d] ∧ f a b c d H Q E := h
theorem sp5_of {f : V → V → V → V → V → Hp → VK → XK → Prop} (h : Sp5 f vs H Q E) : ∃ a b c d e, vs = [a, b, c, d, e] ∧ f a b c d e H Q E := h
theorem sp6_of {f : V → V → V → V → V → V → Hp → VK → XK → Prop} (h : Sp6 f vs H Q E) : ∃ a b c d e g, vs = [a, b, c, d, e, g] ∧ f a b c d e g H Q E := h
end
/-! the drawing state: the list at p, the script's copy at l, its numbers -/
structure Dr where
  p : Addr
  l : Addr
  ns : List Int
/-- all that is tracked stands, but the state itself -/
def Chg (d : Dr) (H H' : Hp) : Prop := ∀ b o, b ≠ d.p → H b = some o → H' b = some o
section
variable {d : Dr} {H H1 H2 H' : Hp} {q : Addr} {o : HO}
theorem Chg.refl : Chg d H H := fun _ _ _ e => e
theorem Chg.trans (a : Chg d H H1) (b : Chg d H1 H2) : Chg d H H2 := fun c o n e => b c o n (a c o n e)
theorem Chg.upd : Chg d H (upd H d.p o) := fun b u n e => by rw [upd_ne n]; exact e
theorem Chg.new (h : H q = none) : Chg d H (L2.upd H q o) := fun b u n e => by rw [upd_ne (ne_of_none e h)]; exact e
theorem Chg.same (h : Same H H') : Chg d H H' := fun b u _ e => h b u e
/-- a thing that was new, changed -/
theorem Chg.mut (e : Chg d H H') (h : H q = none) : Chg d H (L2.upd H' q o) := fun b u n k => by rw [upd_ne (ne_of_none k h)]; exact e b u n k
end
structure RngL (H : Hp) (d : Dr) (i : Nat) (c s : Int) : Prop where
  pl : d.l ≠ d.p
  st : H d.p = some (.lst [.ref d.l, .int i, .int c, .int s])
  ls : H d.l = some (.lst (d.ns.map V.int))
  hi : i ≤ d.ns.length
  hn : d.ns.length ≤ 63
  hc : 0 ≤ c
  hs : 0 ≤ s
  hs2 : s < 2147483647
def Rng (d : Dr) (H : Hp) : Prop := ∃ i c s, RngL H d i c s
theorem RngL.set {H : Hp} {d : Dr} {i : Nat} {c s : Int} (r : RngL H d i c s) {j : Nat} {x t : Int} (hj : j ≤ d.ns.length) (hx : 0 ≤ x) (ht : 0 ≤ t) (ht2 : t < 2147483647) :
    RngL (upd H d.p (.lst [.ref d.l, .int j, .int x, .int t])) d j x t := ⟨r.pl, upd_same, by rw [upd_ne r.pl]; exact r.ls, hj, r.hn, hx, ht, ht2⟩
section
variable {d : Dr} {H H' : Hp} {q : Addr} {o : HO}
theorem Rng.atp (r : Rng d H) : ∃ xs, H d.p = some (.lst xs) ∧ xs.length = 4 := by
  obtain ⟨i, c, s, r⟩ := r
  exact ⟨_, r.st, rfl⟩
theorem Rng.atl (r : Rng d H) : H d.l = some (.lst (d.ns.map V.int)) := by
  obtain ⟨i, c, s, r⟩ := r
  exact r.ls
/-- something else is changed -/
theorem Rng.put (r : Rng d H) (h1 : q ≠ d.p) (h2 : q ≠ d.l) : Rng d (upd H q o) := by
  obtain ⟨i, c, s, r⟩ := r
  exact ⟨i, c, s, r.pl, by rw [upd_ne h1.symm]; exact r.st, by rw [upd_ne h2.symm]; exact r.ls, r.hi, r.hn, r.hc, r.hs, r.hs2⟩
theorem Rng.nep (r : Rng d H) (h : H q = none) : q ≠ d.p := fun z => by
  obtain ⟨xs, e, _⟩ := r.atp
  rw [← z, h] at e
  cases e
theorem Rng.nel (r : Rng d H) (h : H q = none) : q ≠ d.l := fun z => by
  have e := r.atl
  rw [← z, h] at e
  cases e
theorem Rng.new (r : Rng d H) (h : H q = none) : Rng d (upd H q o) := r.put (r.nep h) (r.nel h)
theorem Rng.same (r : Rng d H) (e : Same H H') : Rng d H' := by
  obtain ⟨i, c, s, r⟩ := r
  exact ⟨i, c, s, r.pl, e _ _ r.st, e _ _ r.ls, r.hi, r.hn, r.hc, r.hs, r.hs2⟩
/-- what was free stays apart from the state -/
theorem Chg.free (e : Chg d H H') (n : q ≠ d.p) (h : H' q = none) : H q = none := by
  cases z : H q with
  | none => rfl
  | some o => rw [e q o n z] at h; cases h
end
theorem ne_lst {H : Hp} {p q : Addr} {xs : List V} {o : HO} (h : H p = some (.lst xs)) (h2 : H q = some o) (d : ∀ ys, o ≠ .lst ys) : q ≠ p := fun z => by
  rw [z, h] at h2
  exact d xs (Option.some.inj h2).symm
theorem pos_ {n : Int} (h : 0 < n) : 0 < n := h
theorem heap_gen {G : Hp → Prop} {H0 : Hp} (C : Hp → Prop) (h : C H0) (k : ∀ H1, C H1 → G H1) : G H0 := k _ h
/-! the script -/
theorem start_seq {K : PySem.W.Frag} {H : Hp} {a : Addr} {xs : List V} (h : SqL K H a xs) : SqL K H a xs := h
def sp_law0 (K : PySem.W.Frag) : Sp := Sp1 fun a H Q _ => ∃ (l : Addr) (ns : List Int), a = .ref l ∧ SqL K H l (ns.map V.int) ∧ ns.length ≤ 63 ∧ ∀ H', Q (.bl true) H'
def sp_start (K : PySem.W.Frag) : Sp := Sp1 fun a H Q _ => ∃ (l : Addr) (ns : List Int), a = .ref l ∧ SqL K H l (ns.map V.int) ∧ ns.length ≤ 63 ∧
  ∀ (d : Dr) H', H d.p = none → H d.l = none → Same H H' → Rng d H' → Q (.ref d.p) H'
def sp_pull : Sp := Sp2 fun a b H Q _ => ∃ (d : Dr) (many : Int), a = .ref d.p ∧ b = .int many ∧ Rng d H ∧ 0 < many ∧ many.natAbs.log2 < 9000 ∧
  ∀ (v : Int) H', 0 ≤ v → v < many → Chg d H H' → Rng d H' → Q (.int v) H'
theorem kit_self {K : PySem.W.Frag} {C : Addr} : PySem.W.kitOne K (.ref C) (.ref C) = some true := by
  unfold PySem.W.kitOne
  rw [if_pos (by simp)]
theorem small_log {n : Int} (h0 : 0 < n) (h : n < 1000000000) : n.natAbs.log2 < 9000 := by
  have e : n.natAbs < 2 ^ 30 := by omega
  have := (Nat.log2_lt (by omega)).mpr e
  omega
end My
namespace My
open PySem L2
theorem sp0_len {vs : List V} {H : Hp} {Q : VK} {E : XK} {f : Hp → VK → XK → Prop} (h : Sp0 f vs H Q E) : vs.length = 0 := by obtain ⟨rfl, _⟩ := h; rfl
theorem sp0_of {vs : List V} {H : Hp} {Q : VK} {E : XK} {f : Hp → VK → XK → Prop} (h : Sp0 f vs H Q E) : vs = [] ∧ f H Q E := h
end My

namespace My
open PySem L2
/-- every tracked tuple stands -/
def TupKeep (H H' : Hp) : Prop := ∀ b xs, H b = some (.tup xs) → H' b = some (.tup xs)
theorem TupKeep.refl {H : Hp} : TupKeep H H := fun _ _ e => e
theorem TupKeep.trans {H H1 H2 : Hp} (a : TupKeep H H1) (b : TupKeep H1 H2) : TupKeep H H2 := fun c xs e => b c xs (a c xs e)
theorem TupKeep.chg {d : Dr} {H H' : Hp} (r : Rng d H) (e : Chg d H H') : TupKeep H H' := fun b xs k => by
  obtain ⟨ys, hp, _⟩ := r.atp
  exact e b _ (ne_lst hp k fun ys => by intro z; cases z) k
theorem TupKeep.set {D : Addr} {H : Hp} {xs : List V} {o : HO} (h : H D = some (.lst xs)) : TupKeep H (upd H D o) := fun b ys k => by
  rw [upd_ne (ne_lst h k fun ys => by intro z; cases z)]
  exact k
theorem TupKeep.new {D : Addr} {H : Hp} {o : HO} (h : H D = none) : TupKeep H (upd H D o) := fun b ys k => by
  rw [upd_ne (ne_of_none k h)]
  exact k
/-- [e for k in range(..)], e (and the range's end) drawing from the state -/
theorem lc_draw {σ : St} {H : Hp} {te : TE} {ta : TA} {j : Nat} {vs : List Nat} {d : Dr} (Pn : Nat → Prop) (Φ : V → Hp → Prop) (hΦ : ∀ v H1 H2, TupKeep H1 H2 → Φ v H1 → Φ v H2)
    (hw : ∀ x, wipe ((wipe σ vs).set j (some x)) vs = wipe σ vs) (hn : ∀ n, Pn n → n ≤ 100000)
    (hta : ∀ R : List V → Hp → Prop, (∀ (n : Nat) H1, Pn n → Chg d H H1 → Rng d H1 → R [.int (n : Int)] H1) → ta σ H R)
    (ht : ∀ (x : V) H1 (Q : VK), Rng d H1 → Chg d H H1 → (∀ v H2, Φ v H2 → Chg d H1 H2 → Rng d H2 → Q v H2) → te ((wipe σ vs).set j (some x)) H1 Q) {Q : VK}
    (k : ∀ (n : Nat) D (xs : List V) H', Pn n → D ≠ d.p → D ≠ d.l → H D = none → xs.length = n → (∀ x ∈ xs, Φ x H') → H' D = some (.lst xs) → Chg d H H' → Rng d H' → Q (.ref D) H') :
    tLc (iRng1 ta) (gName j) tYes te vs σ H Q := by
  refine hta _ fun n H1 pn e1 r1 => ?_
  have hn' := hn n pn
  refine ⟨(n : Int), rfl, by omega, by omega, fun D hD => ?_⟩
  have nDp := r1.nep hD
  have nDl := r1.nel hD
  have hD0 := e1.free nDp hD
  refine lc_range (lo := 0) (n := n) (fun i H' => ∃ xs : List V, H' D = some (.lst xs) ∧ xs.length = i ∧ (∀ x ∈ xs, Φ x H') ∧ Chg d H H' ∧ Rng d H')
    ⟨[], upd_same, rfl, fun x hx => by simp at hx, e1.trans (Chg.new hD), r1.new hD⟩ ?_ ?_
  · rintro i H' hi ⟨xs, hxs, hl, hf, e2, r2⟩
    refine ⟨hw _, ?_⟩
    refine ht _ H' _ r2 e2 fun v H3 hv e3 r3 => ?_
    have hD3 : H3 D = some (.lst xs) := e3 D _ nDp hxs
    refine ⟨xs, hD3, ?_, xs ++ [v], upd_same, by rw [List.length_append, hl]; rfl, fun x hx => ?_, (e2.trans e3).mut hD0, r3.put nDp nDl⟩
    · rw [hl, sizeLine_eq]; omega
    · have tk : TupKeep H3 (upd H3 D (.lst (xs ++ [v]))) := TupKeep.set hD3
      rcases List.mem_append.mp hx with hx | hx
      · exact hΦ x _ _ ((TupKeep.chg r2 e3).trans tk) (hf x hx)
      · rw [List.mem_singleton.mp hx]
        exact hΦ v _ _ tk hv
  · rintro H' ⟨xs, hxs, hl, hf, e2, r2⟩
    exact k n D xs H' pn nDp nDl hD0 hl hf hxs e2 r2
theorem q_setLc {wi : TI} {g : TG} {tt : TT} {te : TE} {vs : List Nat} {i : Nat} {tz : TS} {D : Ends} {σ : St} {H : Hp} (h : tLc wi g tt te vs σ H fun x H1 => tz D (σ.set i (some x)) H1) : tSeq (tAsg (tLc wi g tt te vs) (gName i)) tz D σ H := h
/-! texts of drawn signs -/
def Sign (ok : Nat → Prop) (v : V) (_ : Hp) : Prop := ∃ c, ok c ∧ v = .str ⟨#[c]⟩
theorem signs_of {ok : Nat → Prop} {H : Hp} : ∀ {xs : List V}, (∀ x ∈ xs, Sign ok x H) → ∃ cs : List Nat, xs = (cs.map fun c => (⟨#[c]⟩ : Str)).map V.str ∧ (∀ c ∈ cs, ok c) ∧ cs.length = xs.length
  | [], _ => ⟨[], rfl, fun c h => by simp at h, rfl⟩
  | x :: xs, h => by
    obtain ⟨c, hc, rfl⟩ := h x (List.mem_cons_self ..)
    obtain ⟨cs, e, hcs, hl⟩ := signs_of (xs := xs) fun y hy => h y (List.mem_cons_of_mem _ hy)
    refine ⟨c :: cs, by rw [e]; rfl, fun y hy => ?_, by rw [List.length_cons, List.length_cons, hl]⟩
    rcases List.mem_cons.mp hy with rfl | hy
    · exact hc
    · exact hcs y hy
theorem joinL_signs : ∀ cs : List Nat, TL.joinL [] ((cs.map fun c => (⟨#[c]⟩ : Str)).map TL.tl) = cs
  | [] => rfl
  | [c] => rfl
  | c :: e :: r => by
    have ih := joinL_signs (e :: r)
    show [c] ++ ([] ++ TL.joinL [] (((e :: r).map fun c => (⟨#[c]⟩ : Str)).map TL.tl)) = c :: e :: r
    rw [ih]
    rfl
theorem join_signs (z : Str) (hz : TL.tl z = []) (cs : List Nat) : Txt.join z (cs.map fun c => (⟨#[c]⟩ : Str)) = ⟨cs.toArray⟩ := by
  refine TL.ext_tl ?_
  rw [TL.join_eq, TL.tl_join, hz, joinL_signs]
theorem sum_signs (cs : List Nat) : ((cs.map fun c => (⟨#[c]⟩ : Str)).map (·.length)).sum = cs.length := by
  induction cs with
  | nil => rfl
  | cons c r ih => rw [List.map_cons, List.map_cons, List.sum_cons, ih, List.length_cons]; show 1 + r.length = r.length + 1; omega
/-- a sign of a written text, at a drawn place -/
theorem pick_sign {z : Str} {l : List Nat} (e : z.cps.toList = l) {v : Int} (h0 : 0 ≤ v) (h1 : v < (l.length : Int)) : ∃ c, c ∈ l ∧ atI z.cps.toList v = some c := by
  obtain ⟨n, rfl⟩ := Int.eq_ofNat_of_zero_le h0
  have hn : n < l.length := by omega
  refine ⟨l[n], List.getElem_mem hn, ?_⟩
  rw [e]
  exact atI_nat (by simp [hn])
/-- what a def that draws a text promises -/
def sp_text (ok : Nat → Prop) : Sp := Sp2 fun a b H Q _ => ∃ (d : Dr) (n : Nat), a = .ref d.p ∧ b = .int (n : Int) ∧ n ≤ 100000 ∧ Rng d H ∧
  ∀ (cs : List Nat) H', cs.length = n → (∀ c ∈ cs, ok c) → Chg d H H' → Rng d H' → Q (.str ⟨cs.toArray⟩) H'
def letter (c : Nat) : Prop := 97 ≤ c ∧ c ≤ 122
def bit (c : Nat) : Prop := c = 48 ∨ c = 49
theorem abc_eq : (Str.ofString "abcdefghijklmnopqrstuvwxyz").cps.toList = [97, 98, 99, 100, 101, 102, 103, 104, 105, 106, 107, 108, 109, 110, 111, 112, 113, 114, 115, 116, 117, 118, 119, 120, 121, 122] := by decide +kernel
theorem abc_letter : ∀ c ∈ [97, 98, 99, 100, 101, 102, 103, 104, 105, 106, 107, 108, 109, 110, 111, 112, 113, 114, 115, 116, 117, 118, 119, 120, 121, 122], letter c := by
  unfold letter
  decide
theorem bits_eq : (Str.ofString "01").cps.toList = [48, 49] := by decide +kernel
theorem bits_bit : ∀ c ∈ [48, 49], bit c := by
  unfold bit
  decide
theorem tl_empty : TL.tl (Str.ofString "") = [] := by decide +kernel
end My

namespace My
open PySem PySem.Spec PyProof.Rows L2
/-- a class over object alone with an own __eq__ at f and no own __ne__ -/
structure EqC (K : PySem.W.Frag) (C f : Addr) : Prop where
  eq : PySem.W.findIn K (.ref C) "__eq__" = some (some (.ref f))
  fn : PySem.W.isFn K (.ref f) = true
  cls : ∃ nm q N bs hd sn sub ab col dd k0 k1 k2 k3 k5 newId, K.lookup C = some (excClassObj nm q C N bs [.type "object"] hd sn sub ab col dd k0 k1 k2 k3 k5 newId) ∧
    PySem.W.nsOkIn K N = true ∧ PySem.W.nsIn K N "__eq__" = some (some (.ref f)) ∧ PySem.W.nsIn K N "__ne__" = some none
def rEqO (C : Addr) (sp : Sp) : R2 := fun x y H Q => ∃ a b dx dy fs gs, x = .ref a ∧ y = .ref b ∧ H a = some (.ins C dx fs) ∧ H b = some (.ins C dy gs) ∧ sp [.ref a, .ref b] H Q E0
def rNeO (C : Addr) (sp : Sp) : R2 := fun x y H Q => ∃ a b dx dy fs gs, x = .ref a ∧ y = .ref b ∧ H a = some (.ins C dx fs) ∧ H b = some (.ins C dy gs) ∧
  sp [.ref a, .ref b] H (fun v H' => ∃ r, v = .bl r ∧ Q (.bl (!r)) H') E0
/-- one call deeper in the interpreter's own stack -/
abbrev in1X (X : Cx) : Cx := { X with A := X.A.in1 }
theorem inv_in1 {X : Cx} {pins : List (Addr × Obj)} {σ : L2.St} {H : Hp} {s : Shared} (I : L2.Inv X pins σ H s) : Inv (in1X X) pins σ H s :=
  ⟨⟨I.ok.mod, I.ok.kind, I.ok.glob, I.ok.blt, I.ok.above, I.ok.inj, I.ok.has, I.ok.cab, I.ok.hd, I.ok.frames, I.ok.stk, I.ok.exf, I.ok.bs, I.ok.bsz, I.ok.noex, I.ok.exfs, I.ok.funs, I.ok.frf⟩, I.os, I.bare, I.base, I.loc, I.cell, I.free, I.freeC, I.pin, I.hok, I.len⟩
theorem inv_out1 {X : Cx} {pins : List (Addr × Obj)} {σ : L2.St} {H : Hp} {s : Shared} (I : L2.Inv (in1X X) pins σ H s) : Inv X pins σ H s :=
  ⟨⟨I.ok.mod, I.ok.kind, I.ok.glob, I.ok.blt, I.ok.above, I.ok.inj, I.ok.has, I.ok.cab, I.ok.hd, I.ok.frames, I.ok.stk, I.ok.exf, I.ok.bs, I.ok.bsz, I.ok.noex, I.ok.exfs, I.ok.funs, I.ok.frf⟩, I.os, I.bare, I.base, I.loc, I.cell, I.free, I.freeC, I.pin, I.hok, I.len⟩
theorem rel_notni {v : V} {u : Value} (r : RelV v u) : u ≠ .notImplemented := by
  cases v with
  | non => cases r; exact fun z => nomatch z
  | bl _ => cases r; exact fun z => nomatch z
  | int _ => obtain ⟨t, rfl⟩ := r; exact fun z => nomatch z
  | str _ => obtain ⟨t, rfl⟩ := r; exact fun z => nomatch z
  | byt _ => obtain ⟨t, rfl⟩ := r; exact fun z => nomatch z
  | flt _ => obtain ⟨t, rfl⟩ := r; exact fun z => nomatch z
  | ref _ => cases r; exact fun z => nomatch z
  | ty _ => cases r; exact fun z => nomatch z
theorem cmpBack_of {Q : Value → Shared → Prop} {u : Value} {s : Shared} (h : u ≠ .notImplemented) (q : Q u s) : PySem.W.CmpBack Q u s := by
  unfold PySem.W.CmpBack
  cases u <;> first | exact q | exact absurd rfl h
/-- what a class's own dict holds, out of the written part -/
theorem ns_at {K : PySem.W.Frag} {h : Heap} {N : Addr} {m : Str → Option Value} {n : Str} {v : Value} (kin : K.In h) (G : h.Ns N m) (e : PySem.W.nsIn K N n = some (some v)) : m n = some v := by
  obtain ⟨ob, es, ep, gN, dat, _, look⟩ := G
  unfold PySem.W.nsIn at e
  cases q : K.lookup N with
  | none => simp [q] at e
  | some o2 =>
    have z := (kin _ _ q).symm.trans gN
    injection z with z
    subst z
    obtain ⟨cl, di, da, sl⟩ := o2
    simp only at dat
    subst dat
    simp only [q] at e
    cases r : es.toList.find? (·.key.isStr n) with
    | none => simp only [r] at e; split at e <;> simp at e
    | some en =>
      simp only [r, Option.some.injEq] at e
      rw [← look]
      show (es.find? _).map _ = some v
      rw [← Array.find?_toList]
      simp only [r, Option.map_some, e]
section
variable {X : Cx} {C f : Addr} {fd : FuncData} {ps : List Str} {sp : Sp} {n : Nat}
theorem op_eqO (F : FnOk X.prog X.w X.K X.mg X.base CX0 n f fd ps sp) (c : EqC X.K C f) (hb : Binds X.K fd ps []) (hr : Room n X.A) : OpR X (compareOp .Eq) (rEqO C sp) := by
  intro pins s σ H x y u v Q I rx ry h
  obtain ⟨a, b, dx, dy, fs, gs, rfl, rfl, ha, hb', hs⟩ := h
  cases rx
  cases ry
  obtain ⟨mA, J, _⟩ := ins_get I.hok ha
  obtain ⟨mB, J', _⟩ := ins_get I.hok hb'
  obtain ⟨od, J, _⟩ := J.look
  obtain ⟨od', J', _⟩ := J'.look
  obtain ⟨m, hF⟩ := I.fr
  show wpAny (model X.prog X.w) X.A (richCompare .Eq _ _) (EP X pins σ Q) X.xe s
  refine PySem.W.cmp_K (op := .Eq) (tb := .ref C) hr.units0 hF I.ok.mod.kin J J'.type (by simp [PySem.W.notFirst]) c.eq c.fn ?_
  refine thn (run_fn (us := [.ref a, .ref b]) (vs := [.ref a, .ref b]) F hr hb .nil pass0 I (.cons rfl (.cons rfl .nil)) (show sp ([.ref a, .ref b] ++ []) H _ E0 from hs)) fun w s' hw => ?_
  obtain ⟨v, H', I', r, q⟩ := hw
  exact cmpBack_of (rel_notni r) ⟨v, H', I', r, q⟩
theorem op_neO (F : FnOk X.prog X.w X.K X.mg X.base CX0 n f fd ps sp) (c : EqC X.K C f) (hb : Binds X.K fd ps []) (hr : Room (n + 1) X.A) : OpR X (compareOp .NotEq) (rNeO C sp) := by
  intro pins s σ H x y u v Q I rx ry h
  obtain ⟨a, b, dx, dy, fs, gs, rfl, rfl, ha, hb', hs⟩ := h
  cases rx
  cases ry
  have KX := I.kIn
  obtain ⟨mA, J, _⟩ := ins_get I.hok ha
  obtain ⟨mB, J', _⟩ := ins_get I.hok hb'
  obtain ⟨nm, q, N, bs, hd, sn, sub, ab, col, dd, k0, k1, k2, k3, k5, newId, lC, okN, nE, nN⟩ := c.cls
  obtain ⟨of, lf, ef⟩ := Option.map_eq_some_iff.mp (show (X.K.lookup f).map (·.cls) = some (.type "function") from beq_iff_eq.mp c.fn)
  have NN := Heap.Ns.of_isNs (PySem.W.isNs_of_in KX okN)
  have OE : s.heap.OwnEqNoNe a C f "object" [.type "object"] :=
    ⟨_, of, nm, q, N, bs, hd, sn, sub, ab, col, dd, k0, k1, k2, k3, k5, newId, _, _, J.obj, rfl, KX _ _ lC, NN, ns_at KX NN nE, KX _ _ lf, ef, PySem.F.cmp_object.mro, PySem.F.cmp_object.eq.lookup, PySem.W.ns_none_of KX NN nN⟩
  obtain ⟨hp, g, d, tk, os⟩ := s
  refine compareOp_ne_ownEq PySem.F.cmp_object OE J'.obj rfl (by have := hr.un; omega) ?_
  have I1 := inv_in1 I
  refine thn (run_fn (X := in1X X) (us := [.ref a, .ref b]) (vs := [.ref a, .ref b]) F hr.in1 hb .nil pass0 I1 (.cons rfl (.cons rfl .nil)) (show sp ([.ref a, .ref b] ++ []) H _ E0 from hs)) fun w s' hw => ?_
  obtain ⟨v, H', I', r, z, rfl, q⟩ := hw
  cases r
  exact ⟨_, rfl, .bl _, H', inv_out1 I', rfl, q⟩
/-- == of an instance and one of any own class that does not come first -/
def rEqD (K : PySem.W.Frag) (C : Addr) (sp : Sp) : R2 := fun x y H Q => ∃ a b dx fs D dy gs, x = .ref a ∧ y = .ref b ∧ H a = some (.ins C dx fs) ∧ H b = some (.ins D dy gs) ∧ PySem.W.notFirst K C (.ref D) = true ∧ sp [.ref a, .ref b] H Q E0
theorem op_eqD (F : FnOk X.prog X.w X.K X.mg X.base CX0 n f fd ps sp) (he : PySem.W.findIn X.K (.ref C) "__eq__" = some (some (.ref f))) (hfn : PySem.W.isFn X.K (.ref f) = true) (hb : Binds X.K fd ps []) (hr : Room n X.A) : OpR X (compareOp .Eq) (rEqD X.K C sp) := by
  intro pins s σ H x y u v Q I rx ry h
  obtain ⟨a, b, dx, fs, D, dy, gs, rfl, rfl, ha, hb', hn, hs⟩ := h
  cases rx
  cases ry
  obtain ⟨mA, J, _⟩ := ins_get I.hok ha
  obtain ⟨mB, J', _⟩ := ins_get I.hok hb'
  obtain ⟨od, J, _⟩ := J.look
  obtain ⟨od', J', _⟩ := J'.look
  obtain ⟨m, hF⟩ := I.fr
  show wpAny (model X.prog X.w) X.A (richCompare .Eq _ _) (EP X pins σ Q) X.xe s
  refine PySem.W.cmp_K (op := .Eq) (tb := .ref D) hr.units0 hF I.ok.mod.kin J J'.type hn he hfn ?_
  refine thn (run_fn (us := [.ref a, .ref b]) (vs := [.ref a, .ref b]) F hr hb .nil pass0 I (.cons rfl (.cons rfl .nil)) (show sp ([.ref a, .ref b] ++ []) H _ E0 from hs)) fun w s' hw => ?_
  obtain ⟨v, H', I', r, q⟩ := hw
  exact cmpBack_of (rel_notni r) ⟨v, H', I', r, q⟩
end
end My

namespace My
open PySem PySem.Spec PyProof.Rows L2
/-! == and != of data without dicts, at any texts -/
def rEqP (K : PySem.W.Frag) : R2 := fun x y H Q => ∃ d e, Dp K H x d ∧ Dp K H y e ∧ d.plain = true ∧ e.plain = true ∧ d.depth ≤ 60 ∧ Q (.bl (PyData.eqv d e)) H
def rNeP (K : PySem.W.Frag) : R2 := fun x y H Q => ∃ d e, Dp K H x d ∧ Dp K H y e ∧ d.plain = true ∧ e.plain = true ∧ d.depth ≤ 60 ∧ Q (.bl (!PyData.eqv d e)) H
section
variable {X : Cx}
theorem op_eqP (hu : X.A.units + 64 < cLine) : OpR X (compareOp .Eq) (rEqP X.K) := by
  intro pins s σ H x y v u Q I rx ry h
  obtain ⟨d, e, hd, he, pd, pe, dp, q⟩ := h
  obtain ⟨as, r1⟩ := Dp.reads I d x v hd rx
  obtain ⟨bs, r2⟩ := Dp.reads I e y u he ry
  exact SeqAt.eq_plain r1 r2 pd pe (by have := Nat.min_le_left d.depth e.depth; omega) ⟨.bl _, H, I, rfl, q⟩
theorem op_neP (hu : X.A.units + 64 < cLine) : OpR X (compareOp .NotEq) (rNeP X.K) := by
  intro pins s σ H x y v u Q I rx ry h
  obtain ⟨d, e, hd, he, pd, pe, dp, q⟩ := h
  obtain ⟨as, r1⟩ := Dp.reads I d x v hd rx
  obtain ⟨bs, r2⟩ := Dp.reads I e y u he ry
  exact SeqAt.ne_plain r1 r2 pd pe (by have := Nat.min_le_left d.depth e.depth; omega) ⟨.bl _, H, I, rfl, q⟩
end
mutual
theorem Dp.keep {K : PySem.W.Frag} {H H' : Hp} (e : Same H H') : ∀ {d : PyData} {v : V}, Dp K H v d → Dp K H' v d
  | _, _, .non => .non
  | _, _, .bl b => .bl b
  | _, _, .int i => .int i
  | _, _, .str x => .str x
  | _, _, .lst h a => .lst (e.seq h) (DpAll.keep e a)
  | _, _, .tup h a => .tup (h.elim (fun h => .inl (h.elim (fun h => .inl (e _ _ h)) fun ⟨o, h⟩ => .inr ⟨o, e _ _ h⟩)) fun h => .inr h) (DpAll.keep e a)
theorem DpAll.keep {K : PySem.W.Frag} {H H' : Hp} (e : Same H H') : ∀ {ds : List PyData} {vs : List V}, DpAll K H vs ds → DpAll K H' vs ds
  | _, _, .nil => .nil
  | _, _, .cons h a => .cons (Dp.keep e h) (DpAll.keep e a)
end
theorem DpAll.length {K : PySem.W.Frag} {H : Hp} : ∀ {vs : List V} {ds : List PyData}, DpAll K H vs ds → vs.length = ds.length
  | _, _, .nil => rfl
  | _, _, .cons _ a => congrArg Nat.succ (DpAll.length a)
theorem eqv_list (xs ys : List PyData) : PyData.eqv (.list xs) (.list ys) = PyData.eqvAll xs ys := by rw [PyData.eqv]
theorem eqv_tuple (xs ys : List PyData) : PyData.eqv (.tuple xs) (.tuple ys) = PyData.eqvAll xs ys := by rw [PyData.eqv]
/-! keywords: the values by their places -/
def pick {α : Type} (ix : List Nat) (l : List α) : List α := ix.filterMap fun i => l[i]?
theorem pick_rel : ∀ (ix : List Nat) {vs : List V} {us : List Value}, Vals vs us → Vals (pick ix vs) (pick ix us)
  | [], _, _, _ => .nil
  | i :: ix, vs, us, r => by
    have ih := pick_rel ix r
    unfold pick at ih ⊢
    rw [List.filterMap_cons, List.filterMap_cons]
    cases e : vs[i]? with
    | none =>
      rw [r.none_of e]
      exact ih
    | some x =>
      obtain ⟨u, hu, ru⟩ := r.get e
      rw [hu]
      exact .cons ru ih
theorem fun_kbn {K : PySem.W.Frag} {x qual : Str} {st : Stmt} {f : Addr} {fd : FuncData} {ps ks : List Str} {n : Nat} (ix : List Nat) (F : Fun K x qual st f fd)
    (h : ∀ (kV doc pm : Value) (an : Option Addr) (cdv ct : Value) (us ws : List Value), us.length = n → ws.length = ks.length →
      bindArgs (PySem.W.fnOf x qual (defArgs st) (defBody st) (defScope st) .none kV doc pm an cdv ct) ⟨us, ks.zip ws⟩ = pure (ps.zip (pick ix (us ++ ws)))) :
    KBn K fd ps n ks (fun us ws => pick ix (us ++ ws)) (fun vs zs => pick ix (vs ++ zs)) := by
  obtain ⟨oc, od, kV, doc, pm, an, cdv, ct, osl, rfl, lk, hcd⟩ := F.ex
  exact ⟨fun s us ws _ l1 l2 => .of_eq (h kV doc pm an cdv ct us ws l1 l2), fun r1 r2 => pick_rel ix (r1.append r2)⟩
end My

namespace My
open PySem L2
/-! the classes of the program that stand over object alone -/
structure ClsO (K : PySem.W.Frag) (C : Addr) (nm : Str) : Prop where
  ex : ∃ q N bs hd sn sub ab col dd k0 k1 k2 k3 k5 newId, K.lookup C = some (excClassObj nm q C N bs [.type "object"] hd sn sub ab col dd k0 k1 k2 k3 k5 newId)
theorem ClsO.cls {K : PySem.W.Frag} {C : Addr} {nm : Str} (h : ClsO K C nm) : ∃ cd, PySem.W.clsIn K C = some cd ∧ cd.mro = [.ref C, .type "object"] ∧ cd.name = nm := by
  obtain ⟨q, N, bs, hd, sn, sub, ab, col, dd, k0, k1, k2, k3, k5, newId, e⟩ := h.ex
  refine ⟨_, by unfold PySem.W.clsIn; rw [e], rfl, rfl⟩
theorem ClsO.ne {K : PySem.W.Frag} {C D : Addr} {nm nm' : Str} (h : ClsO K C nm) (h' : ClsO K D nm') (n : ¬ nm = nm') : C ≠ D := fun z => by
  subst z
  obtain ⟨cd, e, _, q⟩ := h.cls
  obtain ⟨cd', e', _, q'⟩ := h'.cls
  rw [e] at e'
  cases e'
  exact n (q.symm.trans q')
theorem ClsO.sub {K : PySem.W.Frag} {C : Addr} {nm : Str} (h : ClsO K C nm) (b : Value) : PySem.W.subIn K (.ref C) b = some (decide (b = .ref C ∨ b = .type "object")) := by
  obtain ⟨cd, e, m, _⟩ := h.cls
  show PySem.W.mroIn K C b = _
  unfold PySem.W.mroIn
  rw [e, Option.bind_some, m, if_neg (by simp)]
  congr 1
  simp only [List.contains_cons, List.contains_nil, Bool.or_false]
  rw [Bool.decide_or]
  rfl
theorem ClsO.type {K : PySem.W.Frag} {C : Addr} {nm : Str} (h : ClsO K C nm) : PySem.W.typeIn K (.ref C) = some (.type "type") := by
  obtain ⟨q, N, bs, hd, sn, sub, ab, col, dd, k0, k1, k2, k3, k5, newId, e⟩ := h.ex
  show (K.lookup C).map (·.cls) = _
  rw [e]
  rfl
/-- the built-in types that our values have -/
def tags : List String := ["NoneType", "bool", "int", "str", "list", "tuple", "dict"]
def asks : List String := ["bool", "int", "str", "list", "tuple", "dict"]
inductive TagOk (K : PySem.W.Frag) : Value → Prop where
  | ty {n : String} (h : n ∈ tags) : TagOk K (.type n)
  | own {C : Addr} {nm : Str} (h : ClsO K C nm) : TagOk K (.ref C)
/-- is a thing of type t an instance of c -/
def isa (t c : Value) : Bool := decide (t = c) || (decide (t = .type "bool") && decide (c = .type "int"))
theorem kitB_table : ∀ n ∈ tags, ∀ m ∈ asks, kitB n m = some (decide (n = m) || (decide (n = "bool") && decide (m = "int"))) := by decide +kernel
theorem kitMeta_asks : ∀ m ∈ asks, PySem.W.kitMeta m = true := by decide +kernel
theorem asks_obj : ∀ m ∈ asks, m ≠ "object" := by decide
theorem isa_ty {n m : String} : isa (.type n) (.type m) = (decide (n = m) || (decide (n = "bool") && decide (m = "int"))) := by
  unfold isa
  have h : ∀ a b : String, decide (Value.type a = Value.type b) = decide (a = b) := fun a b => by
    by_cases e : a = b
    · subst e; simp
    · rw [decide_eq_false e, decide_eq_false (fun z => e (by injection z))]
  rw [h, h, h]
theorem kit_isa {K : PySem.W.Frag} {t : Value} (h : TagOk K t) {m : String} (hm : m ∈ asks) : PySem.W.kitOne K t (.type m) = some (isa t (.type m)) := by
  cases h with
  | ty hn => rw [isa_ty]; exact kit_ty (kitB_table _ hn _ hm)
  | own o =>
    unfold PySem.W.kitOne
    rw [if_neg (by simp)]
    show (if PySem.W.kitMeta m = true then PySem.W.subIn K _ (.type m) else none) = _
    rw [if_pos (kitMeta_asks m hm), o.sub]
    congr 1
    unfold isa
    rw [decide_eq_false (by intro z; rcases z with z | z <;> first | (injection z with z; exact asks_obj m hm z) | cases z), decide_eq_false (by intro z; cases z), decide_eq_false (by intro z; cases z)]
    rfl
def allTypes (l : List Value) : Bool := l.all fun v => match v with | .type _ => true | _ => false
theorem tags_mro0 : ∀ n ∈ tags, (fastBuiltinMro n).map allTypes = some true := by decide +kernel
theorem tags_mro (n : String) (h : n ∈ tags) : ∃ l, fastBuiltinMro n = some l ∧ ∀ v ∈ l, ∃ s, v = Value.type s := by
  obtain ⟨l, e, q⟩ := Option.map_eq_some_iff.mp (tags_mro0 n h)
  refine ⟨l, e, fun v hv => ?_⟩
  have z := List.all_eq_true.mp q v hv
  cases v <;> first | exact ⟨_, rfl⟩ | cases z
theorem kit_isaO {K : PySem.W.Frag} {t : Value} (h : TagOk K t) {D : Addr} {nm : Str} (d : ClsO K D nm) : PySem.W.kitOne K t (.ref D) = some (isa t (.ref D)) := by
  have two : ((PySem.W.clsIn K D).isSome && PySem.W.typeIn K (.ref D) == some (.type "type")) = true := by
    obtain ⟨cd, e, _⟩ := d.cls
    rw [e, d.type]
    rfl
  cases h with
  | @ty n hn =>
    unfold PySem.W.kitOne
    rw [if_neg (by simp)]
    show (if _ then PySem.W.subIn K _ (.ref D) else none) = _
    rw [if_pos two]
    obtain ⟨l, e, hl⟩ := tags_mro n hn
    show (fastBuiltinMro n).map _ = _
    rw [e]
    show some _ = some _
    have i1 : isa (.type n) (.ref D) = false := by
      have n1 : ¬ Value.type n = Value.ref D := fun z => by cases z
      have n2 : ¬ Value.ref D = Value.type "int" := fun z => by cases z
      unfold isa
      rw [decide_eq_false n1, decide_eq_false n2, Bool.and_false]
      rfl
    rw [i1]
    congr 1
    rw [Bool.eq_false_iff]
    intro z
    obtain ⟨s, e⟩ := hl _ (List.contains_iff_mem.mp z)
    cases e
  | @own C nm' o =>
    by_cases e : C = D
    · subst e
      unfold isa
      rw [kit_self, decide_eq_true rfl]
      rfl
    · unfold PySem.W.kitOne
      rw [if_neg (by simp; exact e)]
      show (if _ then PySem.W.subIn K _ (.ref D) else none) = _
      rw [if_pos two, o.sub]
      congr 1
      unfold isa
      have n1 : ¬ Value.ref C = Value.ref D := fun z => e (by injection z)
      have n2 : ¬ Value.ref D = Value.ref C := fun z => e (by injection z with z; exact z.symm)
      rw [decide_eq_false n1, decide_eq_false (by intro z; rcases z with z | z; exact n2 z; cases z), decide_eq_false (by intro z; cases z)]
      rfl
theorem kitAny_isa {K : PySem.W.Frag} {t : Value} : ∀ {us : List Value}, (∀ u ∈ us, PySem.W.kitOne K t u = some (isa t u)) → PySem.W.kitAny K t us = some (us.any (isa t))
  | [], _ => rfl
  | u :: us, h => kitAny_cons (h u (List.mem_cons_self ..)) (fun e => by rw [kitAny_isa fun v hv => h v (List.mem_cons_of_mem _ hv), List.any_cons, e]; rfl) (fun e => by rw [List.any_cons, e]; rfl)
/-! typed values: what a value is, as far as isinstance goes -/
inductive VT (K : PySem.W.Frag) (H : Hp) : V → Value → Prop where
  | non : VT K H .non (.type "NoneType")
  | bl (b : Bool) : VT K H (.bl b) (.type "bool")
  | int (i : Int) : VT K H (.int i) (.type "int")
  | str (x : Str) : VT K H (.str x) (.type "str")
  | lst {a : Addr} {xs : List V} (e : H a = some (.lst xs)) : VT K H (.ref a) (.type "list")
  | tup {a : Addr} {xs : List V} (e : H a = some (.tup xs)) : VT K H (.ref a) (.type "tuple")
  | dK {a : Addr} {kvs : List (Key × V)} (e : H a = some (.dK kvs)) : VT K H (.ref a) (.type "dict")
  | ins {a C dx : Addr} {fs : List (Str × V)} {nm : Str} (e : H a = some (.ins C dx fs)) (c : C8.InsC K C) (o : ClsO K C nm) : VT K H (.ref a) (.ref C)
theorem VT.tyx {K : PySem.W.Frag} {H : Hp} {v : V} {t : Value} (h : VT K H v t) : TyX K H v t := by
  cases h with
  | non => exact .base .non
  | bl b => exact .base (.bl b)
  | int i => exact .base (.int i)
  | str x => exact .base (.str x)
  | lst e => exact .base (.lst e)
  | tup e => exact .base (.tup e)
  | dK e => exact .base (.dK e)
  | ins e c o => exact .base (.ins e c.cl c.ha c.hn c.htk c.hm)
theorem VT.tag {K : PySem.W.Frag} {H : Hp} {v : V} {t : Value} (h : VT K H v t) : TagOk K t := by
  cases h <;> first | exact .ty (by decide) | exact .own (by assumption)
/-- each thing keeps its sort -/
def KK (H H' : Hp) : Prop := ∀ a o, H a = some o → ∃ o', H' a = some o' ∧ match o, o' with
  | .lst _, .lst _ => True
  | .tup xs, .tup ys => xs = ys
  | .dK _, .dK _ => True
  | .ins C _ _, .ins C' _ _ => C = C'
  | .lst _, _ => False
  | .tup _, _ => False
  | .dK _, _ => False
  | .ins _ _ _, _ => False
  | _, _ => True
theorem KK.refl {H : Hp} : KK H H := fun a o e => ⟨o, e, by cases o <;> trivial⟩
theorem KK.same {H H' : Hp} (h : Same H H') : KK H H' := fun a o e => ⟨o, h a o e, by cases o <;> trivial⟩
theorem KK.trans {H H1 H2 : Hp} (h : KK H H1) (k : KK H1 H2) : KK H H2 := fun a o e => by
  obtain ⟨o1, e1, r1⟩ := h a o e
  obtain ⟨o2, e2, r2⟩ := k a o1 e1
  refine ⟨o2, e2, ?_⟩
  cases o <;> cases o1 <;> first | (exact r1.elim) | skip
  all_goals (cases o2 <;> first | trivial | exact r2.elim | (exact Eq.trans r1 r2) | skip)
theorem KK.chg {d : Dr} {H H' : Hp} (r : Rng d H) (r' : Rng d H') (e : Chg d H H') : KK H H' := fun a o h => by
  by_cases n : a = d.p
  · obtain ⟨xs, e1, _⟩ := r.atp
    obtain ⟨ys, e2, _⟩ := r'.atp
    rw [n] at h ⊢
    rw [e1] at h
    cases h
    exact ⟨_, e2, trivial⟩
  · exact ⟨o, e a o n h, by cases o <;> trivial⟩
theorem KK.setL {H : Hp} {D : Addr} {xs ys : List V} (h : H D = some (.lst xs)) : KK H (upd H D (.lst ys)) := fun a o e => by
  by_cases n : a = D
  · rw [n] at e ⊢
    rw [h] at e
    cases e
    exact ⟨_, upd_same, trivial⟩
  · exact ⟨o, by rw [upd_ne n]; exact e, by cases o <;> trivial⟩
theorem KK.new {H : Hp} {D : Addr} {o : HO} (h : H D = none) : KK H (upd H D o) := KK.same fun b u e => by rw [upd_ne (ne_of_none e h)]; exact e
theorem VT.keep {K : PySem.W.Frag} {H H' : Hp} (e : KK H H') {v : V} {t : Value} (h : VT K H v t) : VT K H' v t := by
  cases h with
  | non => exact .non
  | bl b => exact .bl b
  | int i => exact .int i
  | str x => exact .str x
  | lst h =>
    obtain ⟨o, e1, r⟩ := e _ _ h
    cases o <;> first | exact .lst e1 | exact r.elim
  | tup h =>
    obtain ⟨o, e1, r⟩ := e _ _ h
    cases o <;> first | exact .tup e1 | exact r.elim
  | dK h =>
    obtain ⟨o, e1, r⟩ := e _ _ h
    cases o <;> first | exact .dK e1 | exact r.elim
  | ins h c o2 =>
    obtain ⟨o, e1, r⟩ := e _ _ h
    cases o with
    | ins C' dx' fs' =>
      have z : _ = C' := r
      subst z
      exact .ins e1 c o2
    | _ => exact r.elim
/-- an integer and no bool -/
def isI : V → Bool
  | .int _ => true
  | _ => false
theorem isI_of {K : PySem.W.Frag} {H : Hp} {v : V} {t : Value} (h : VT K H v t) : isI v = (isa t (.type "int") && !isa t (.type "bool")) := by
  cases h <;> first | rfl | (simp only [isI, isa]; simp)
def isS : V → Bool
  | .str _ => true
  | _ => false
theorem isS_of {K : PySem.W.Frag} {H : Hp} {v : V} {t : Value} (h : VT K H v t) : isS v = isa t (.type "str") := by
  cases h <;> first | rfl | (simp only [isS, isa]; simp)
/-- isinstance(x, T), T built in: the reading -/
theorem isi_ty {K : PySem.W.Frag} {H : Hp} {v : V} {t : Value} {Q : VK} {m : String} (h : VT K H v t) (hm : m ∈ asks) (q : Q (.bl (isa t (.type m))) H) : rIsi K [v, .ty m] H Q :=
  ⟨v, .ty m, t, .type m, _, rfl, .ty m, h.tyx, kit_isa h.tag hm, q⟩
theorem isi_own {K : PySem.W.Frag} {H : Hp} {v : V} {t : Value} {Q : VK} {D : Addr} {nm : Str} (h : VT K H v t) (d : ClsO K D nm) (q : Q (.bl (isa t (.ref D))) H) : rIsi K [v, .ref D] H Q :=
  ⟨v, .ref D, t, .ref D, _, rfl, .own D, h.tyx, kit_isaO h.tag d, q⟩
end My

namespace My
open PySem PySem.Spec PyProof.Rows L2
section
variable {X : Cx} {CX : CXT} {k n : Nat} {f C : Addr} {fd : FuncData} {ps ks : List Str} {sp : Sp} {dvs : List V} {ds : List Value} {E : L2.St → XK} {x : Str} {p pos : Pos} {e : Expr} {es : List Expr} {kws : List Keyword} {t tk : TA}
  {g : List Value → List Value → List Value} {gV : List V → List V → List V}
/-- what a call ends in, where what it raises is wished for at the caller's slots -/
theorem ends_at {pins : List (Addr × Obj)} {σ : L2.St} {H : Hp} {s s' : Shared} {Q : VK} {r : Result} (I : L2.Inv X pins σ H s) (hx : PassesAt CX X σ (E σ)) (hq : CR CX X.stack X.prog X.w H s Q (E σ) r s') {R : Value → Shared → Prop}
    (hr : ∀ u, EP X pins σ Q u s' → R u s') : wants R X.xe r s' := by
  cases r with
  | error er => exact hx pins H s er s' I hq
  | ok fl => cases fl <;> first | exact hr _ (I.after hq) | exact False.elim hq
/-- C(..) where C's __init__ may raise -/
def tMakeS (C : Addr) (sp : Sp) (dvs : List V) (E : L2.St → XK) (t : TA) : TE := fun σ H Q => t σ H fun vs H1 => ∀ x dx, H1 x = none → H1 dx = none → dx ≠ x →
  sp (.ref x :: (vs ++ dvs)) (upd (upd H1 dx (.own x)) x (.ins C dx [])) (fun v H2 => v = .non ∧ Q (.ref x) H2) (E σ)
theorem made_ends {pins : List (Addr × Obj)} {σ : L2.St} {H : Hp} {s : Shared} {Q : VK} {us : List Value} {kw : List (Str × Value)} (M : Mk X.K C f) (I : L2.Inv X pins σ H s) (hx : PassesAt CX X σ (E σ))
    (h : codeAny (model X.prog X.w) (X.A.under (.builtin "type.__call__" ⟨.ref C :: us, kw⟩)) (.call (.ref f) ⟨.ref (s.heap.objs.size + 1) :: us, kw⟩)
      (CR CX X.stack X.prog X.w (upd (upd H s.heap.objs.size (.own (s.heap.objs.size + 1))) (s.heap.objs.size + 1) (.ins C s.heap.objs.size [])) { s with heap := (s.heap.push PySem.W.emptyDict).push (PySem.W.instObj C s.heap.objs.size) }
        (fun v H2 => v = .non ∧ Q (.ref (s.heap.objs.size + 1)) H2) (E σ)) { s with heap := (s.heap.push PySem.W.emptyDict).push (PySem.W.instObj C s.heap.objs.size) }) :
    wpAny (model X.prog X.w) X.A (call (.ref C) us kw) (EP X pins σ Q) X.xe s := by
  have J := Inv.made (C := C) I
  refine wpAny_call (make_map (f := f) I.kIn M.makes M.init (beq_iff_eq.mp M.fn) (codeAny_mono h fun r s' q => ?_))
  cases r with
  | error er => exact hx pins _ _ er s' J q
  | ok fl =>
    cases fl with
    | ret u =>
      obtain ⟨v, H', J', rv, ev, q2⟩ := J.after q
      subst ev
      exact ⟨rv, ⟨V.ref (s.heap.objs.size + 1), H', J', rfl, q2⟩⟩
    | next => exact False.elim q
    | brk => exact False.elim q
    | cont => exact False.elim q
theorem pe_makeS (M : Mk X.K C f) (F : FnOk X.prog X.w X.K X.mg X.base CX k f fd ps sp) (hr : Room (k + 1) X.A) (hg : Gl X x) (hm : X.mg x = some (.ref C)) (hb : L2.Binds X.K fd ps ds) (hd : Vals dvs ds) (hx : ∀ σ, PassesAt CX X σ (E σ))
    (ha : PA X (e :: es) t) (hdb : (x == ("__debug__" : Str)) = false := by decide) (he : starEach (e :: es) X.env = (false, eval e X.env) :: starEach es X.env := by rfl) (hpl : (backTo pos (starEach es X.env)).any (·.1) = false := by rfl) :
    PE X (.Call (.Name x p) (e :: es) [] pos) (tMakeS C sp dvs E t) := by
  refine ⟨fun pins s σ H Q I h => ?_⟩
  refine wpAny_Call_Name_kw (ld_glob I hg hm ?_ hdb)
  refine PySem.W.callWith_K (h₀ := X.base) I.ok.mod.kin M.kp (thn (ha.run pos pins s σ H _ I h) fun us s1 hh => ?_) he hpl
  obtain ⟨vs, H1, I1, r, q⟩ := hh
  refine ⟨I1.kIn, made_ends M I1 (hx σ) ?_⟩
  have q1 := q (s1.heap.objs.size + 1) s1.heap.objs.size (I1.hok.fresh (Nat.le_succ _)) (I1.hok.fresh (Nat.le_refl _)) (Nat.ne_of_lt (Nat.lt_succ_self _))
  have J := Inv.made (C := C) I1
  have r2 : Vals (V.ref (s1.heap.objs.size + 1) :: (vs ++ dvs)) (Value.ref (s1.heap.objs.size + 1) :: (us ++ ds)) := .cons rfl (r.append hd)
  exact F.run _ X.stack _ _ _ _ _ _ (E σ) (hr.make C us []) (J.env0.make C us []) (hb _ (Value.ref (s1.heap.objs.size + 1) :: us) J.kIn (r2.length.symm.trans (F.len _ _ _ _ q1))) r2 q1
/-- C(k = v, ..) where C's __init__ may raise -/
def tMakeKS (C : Addr) (m : Nat) (sp : Sp) (gV : List V → List V → List V) (E : L2.St → XK) (tk : TA) : TE := fun σ H Q => tk σ H fun zs H1 => zs.length = m ∧ ∀ x dx, H1 x = none → H1 dx = none → dx ≠ x →
  sp (gV [.ref x] zs) (upd (upd H1 dx (.own x)) x (.ins C dx [])) (fun v H2 => v = .non ∧ Q (.ref x) H2) (E σ)
theorem pe_makeKS (M : Mk X.K C f) (F : FnOk X.prog X.w X.K X.mg X.base CX k f fd ps sp) (hr : Room (k + 1) X.A) (hg : Gl X x) (hm : X.mg x = some (.ref C)) (hb : KBn X.K fd ps 1 ks g gV) (hx : ∀ σ, PassesAt CX X σ (E σ)) (hkw : PK X kws tk)
    (hall : (backToKw pos (keywordEach kws X.env)).all (·.1.isSome) = true := by rfl) (hks : (backToKw pos (keywordEach kws X.env)).filterMap (·.1) = ks := by rfl) (hdb : (x == ("__debug__" : Str)) = false := by decide)
    (hpl : ((backTo pos (starEach [] X.env)).any (·.1) || (backToKw pos (keywordEach kws X.env)).any (·.1.isNone)) = false := by rfl) :
    PE X (.Call (.Name x p) [] kws pos) (tMakeKS C ks.length sp gV E tk) := by
  refine ⟨fun pins s σ H Q I h => ?_⟩
  refine wpAny_Call_Name_kw (ld_glob I hg hm ?_ hdb)
  refine PySem.W.callWith_KW0 (h₀ := X.base) I.ok.mod.kin M.kp hall ?_ hpl
  refine thn (hkw.run pos pins s σ H _ I h) fun ws s1 hh => ?_
  obtain ⟨zs, H1, I1, r, l2, q⟩ := hh
  refine ⟨I1.kIn, ?_⟩
  rw [hks]
  refine made_ends M I1 (hx σ) ?_
  have q1 := q (s1.heap.objs.size + 1) s1.heap.objs.size (I1.hok.fresh (Nat.le_succ _)) (I1.hok.fresh (Nat.le_refl _)) (Nat.ne_of_lt (Nat.lt_succ_self _))
  have J := Inv.made (C := C) I1
  have r1 : Vals [V.ref (s1.heap.objs.size + 1)] [Value.ref (s1.heap.objs.size + 1)] := .cons rfl .nil
  exact F.run _ X.stack _ _ _ _ _ _ (E σ) (hr.make C [] (ks.zip ws)) (J.env0.make C [] (ks.zip ws)) (hb.to _ _ ws J.kIn rfl (r.length.symm.trans l2)) (hb.rel r1 r) q1
/-- C() of a class without an __init__ of its own -/
def tMakeO (C : Addr) : TE := fun _ H Q => ∀ x dx, H x = none → H dx = none → dx ≠ x → Q (.ref x) (upd (upd H dx (.own x)) x (.ins C dx []))
theorem pe_makeO (mk : PySem.W.makesIn X.K C = true) (hi : PySem.W.findIn X.K (.ref C) "__init__" = some (some (.builtin "object.__init__"))) (kp : PySem.W.keepIn X.K (.ref C) = true) (hg : Gl X x) (hm : X.mg x = some (.ref C))
    (hdb : (x == ("__debug__" : Str)) = false := by decide) : PE X (.Call (.Name x p) [] [] pos) (tMakeO C) := by
  refine ⟨fun pins s σ H Q I h => ?_⟩
  refine wpAny_Call_Name_kw (ld_glob I hg hm ?_ hdb)
  refine PySem.W.callWith_K0 I.kIn kp (wpAny_call ?_)
  have J := Inv.made (C := C) I
  have q1 := h (s.heap.objs.size + 1) s.heap.objs.size (I.hok.fresh (Nat.le_succ _)) (I.hok.fresh (Nat.le_refl _)) (Nat.ne_of_lt (Nat.lt_succ_self _))
  have Y := PySem.W.makes_of (M := model X.prog X.w) I.kIn mk
  show codeAny _ _ (.call (.ref C) ⟨[], []⟩) _ _
  refine make_map0 I.kIn mk hi (fun self => .of_pure (PySem.W.oi_bind self)) ?_
  obtain ⟨hp, gs, dr, tks, os⟩ := s
  have t1 : PySem.W.Looks (model X.prog X.w) ((hp.push PySem.W.emptyDict).push (PySem.W.instObj C hp.objs.size)) (typeOf (.ref (hp.objs.size + 1))) (.ref C) :=
    (PySem.W.Looks.ld (part := none) (by heap_get)).andThen .now
  have t2 : PySem.W.Looks (model X.prog X.w) ((hp.push PySem.W.emptyDict).push (PySem.W.instObj C hp.objs.size)) (isInstance (.ref (hp.objs.size + 1)) (.type "object")) true :=
    t1.andThen (Y.top.keeps fun b o z => Heap.get?_push_of_some (PySem.W.instObj C hp.objs.size) (Heap.get?_push_of_some PySem.W.emptyDict z))
  refine codeAny_call_builtin PySem.W.oi_plain PySem.W.entry_oi (PySem.W.check_slot (M := model X.prog X.w) (s := ⟨(hp.push PySem.W.emptyDict).push (PySem.W.instObj C hp.objs.size), gs, dr, tks, os⟩) (rest := []) (kw := []) PySem.W.oi_kind PySem.W.oi_split t2 (PySem.W.oi_args _) ?_)
  rw [PySem.W.oi_run]
  exact wpAny_pure (And.intro rfl ⟨V.ref (hp.objs.size + 1), _, J, rfl, q1⟩)
end
end My

namespace My
open PySem PySem.Spec PyProof.Rows L2
/-! an own exception with one field -/
/-- what its __init__ promises -/
abbrev sp_exc1 (C : Addr) (f : Str) : Sp := Sp2 fun s v H Q _ => ∃ a, s = .ref a ∧ H a = some (exo a C none) ∧ ∀ dx, H dx = none → dx ≠ a → Q .non (upd (upd H dx (exd dx [(f, v)])) a (exo a C (some dx)))
/-- C(v), as it is raised: its own new dict holds the field -/
theorem mk_exc1 {C : Addr} {f : Str} {v : V} {H : Hp} {R : XK} (k : ∀ d, H d = none → R (.ref C) (some d) (upd H d (.xd [(f, v)]))) : ([v] : List V).length ≤ 1000 ∧ ∀ a, H a = none →
    sp_exc1 C f (.ref a :: ([v] ++ [])) (upd H a (exo a C none)) (fun u H2 => u = .non ∧ ∃ (d : Addr) (fs : List (Str × V)), H2 a = some (exo a C (some d)) ∧ H2 d = some (exd d fs) ∧ H d = none ∧ R (.ref C) (some d) (upd (L2.del H2 a) d (.xd fs))) (fun _ _ _ => False) := by
  refine ⟨by show 1 ≤ 1000; decide, fun a ha => ⟨_, _, rfl, a, rfl, upd_same, fun dx hdx ne => ⟨rfl, dx, [(f, v)], upd_same, ?_, ?_, ?_⟩⟩⟩
  · rw [upd_ne ne, upd_same]
  · rw [upd_ne ne] at hdx
    exact hdx
  · rw [upd_ne ne] at hdx
    have e : upd (L2.del (upd (upd (upd H a (exo a C none)) dx (exd dx [(f, v)])) a (exo a C (some dx))) a) dx (.xd [(f, v)]) = upd H dx (.xd [(f, v)]) := by
      funext b
      by_cases h1 : b = dx
      · rw [h1, upd_same, upd_same]
      · rw [upd_ne h1, upd_ne h1]
        by_cases h2 : b = a
        · rw [h2, L2.del_same, ha]
        · rw [L2.del_ne h2, upd_ne h2, upd_ne h1, upd_ne h2]
    rw [e]
    exact k dx hdx
theorem exm_own {K : PySem.W.Frag} {C D : Addr} {b : Bool} (h1 : PySem.W.subIn K (.ref D) (.type "BaseException") = some true) (h2 : PySem.W.isClsIn K D = true) (h3 : PySem.W.typeIn K (.ref D) = some (.type "type")) (h4 : PySem.W.subIn K (.ref C) (.ref D) = some b) :
    PySem.W.exmOne K (.ref C) (.ref D) = some b := by
  have e2 : (PySem.W.clsIn K D).isSome = true := h2
  simp only [PySem.W.exmOne, PySem.W.kitCls, h1, e2, h3, h4, beq_self_eq_true, Bool.and_self, if_true]
/-! defaults -/
theorem binds_nil {K : PySem.W.Frag} {fd : FuncData} {ps : List Str} {dvs : List V} (h0 : dvs = []) (h : ∃ ds, Vals dvs ds ∧ L2.Binds K fd ps ds) : L2.Binds K fd ps [] := by
  subst h0
  obtain ⟨ds, v, b⟩ := h
  cases v
  exact b
theorem binds_non {K : PySem.W.Frag} {fd : FuncData} {ps : List Str} {dvs : List V} (h0 : dvs = [.non]) (h : ∃ ds, Vals dvs ds ∧ L2.Binds K fd ps ds) : L2.Binds K fd ps [.none] := by
  subst h0
  obtain ⟨ds, v, b⟩ := h
  cases v with
  | cons r t =>
    cases t
    cases r
    exact b
theorem fun_kbnD {K : PySem.W.Frag} {x qual : Str} {params : Arguments} {body : List Stmt} {scope : Scope} {dvs : List V} {kws : List (Str × V)} {f : Addr} {fd : FuncData} {ps ks : List Str} {n : Nat} (ix : List Nat) (F : FunD K x qual params body scope dvs kws f fd) (hd : dvs ≠ [])
    (h : ∀ (T : Addr) (kV doc pm : Value) (an : Option Addr) (cdv ct : Value) (us its ws : List Value), us.length = n → its.length = dvs.length → ws.length = ks.length →
      ∃ k, bindArgs (PySem.W.fnOf x qual params body scope (.ref T) kV doc pm an cdv ct) ⟨us, ks.zip ws⟩ = seqItems? (.ref T) >>= k ∧ k (some its.toArray) = pure (ps.zip (pick ix (us ++ ws ++ its)))) :
    ∃ g, KBn K fd ps n ks g (fun vs zs => pick ix (vs ++ zs ++ dvs)) := by
  obtain ⟨oc, od, dV, kV, doc, pm, an, cdv, ct, osl, rfl, lk, hcd, hD, hK⟩ := F.ex
  rcases hD with ⟨e, _⟩ | ⟨_, T, o, its, m, rfl, lT, oT, rT⟩
  · exact absurd e hd
  · refine ⟨fun us ws => pick ix (us ++ ws ++ its), ⟨fun s us ws kin l1 l2 => ?_, fun r1 r2 => pick_rel ix ((r1.append r2).append rT)⟩⟩
    obtain ⟨k, e1, e2⟩ := h T kV doc pm an cdv ct us its ws l1 rT.length.symm l2
    refine BindsTo.of_looks fun M => ?_
    rw [e1]
    exact looks_items kin lT oT (.of_pure e2)
/-! a text, sign by sign -/
theorem for_str {x : Str} {g : TG} {tb : TS} {D : Ends} {σ : L2.St} {H : Hp} (Pv : Nat → L2.St → Hp → Prop) (h0 : Pv 0 σ H)
    (hs : ∀ i c σ H, x.cps.toList[i]? = some c → Pv i σ H → g (.str ⟨#[c]⟩) σ H fun σ2 H2 => tb { D with nx := Pv (i + 1), ct := Pv (i + 1), bk := D.nx } σ2 H2) (hd : ∀ σ H, Pv x.cps.size σ H → D.nx σ H) :
    ∃ W : Nat → Nat → L2.St → Hp → Prop, (∃ m, W 0 m σ H) ∧ ∀ i m σ H, W i m σ H →
      ((Its x).stop i H ∧ D.nx σ H) ∨ ((Its x).go i H ∧ ∃ N : L2.St → Hp → Prop, (∀ σ' H', N σ' H' → ∃ m', m' < m ∧ W (i + 1) m' σ' H') ∧ ∀ y H', (Its x).yld i H y H' → g y σ H' fun σ2 H2 => tb { D with nx := N, ct := N, bk := D.nx } σ2 H2) := by
  refine ⟨fun i m σ H => m + i = x.cps.size ∧ Pv i σ H, ⟨x.cps.size, by simp, h0⟩, ?_⟩
  rintro i m σ H ⟨hm, p⟩
  by_cases hlt : i < x.cps.size
  · refine .inr ⟨hlt, Pv (i + 1), fun σ' H' p' => ⟨m - 1, by omega, by omega, p'⟩, fun y H' hy => ?_⟩
    obtain ⟨e, c, hc, ey⟩ := hy
    subst e ey
    refine hs i c σ _ ?_ p
    rw [Array.getElem?_toList]
    exact hc
  · have e : i = x.cps.size := by omega
    subst e
    exact .inl ⟨Nat.le_refl _, hd σ H p⟩
end My
namespace My
open PySem PySem.Spec PyProof.Rows L2
/-- a call that raises nothing where it stands -/
theorem passL0 {X : Cx} (σ : L2.St) : PassesAt (L2.CX X.prog X.w) X σ E0 := fun _ _ _ _ _ _ h => by
  obtain ⟨_, _, _, _, _, _, _, _, _, _, _, _, z⟩ := h
  exact z.elim
end My
namespace My
open PySem PySem.Spec PyProof.Rows L2
/-! rules with the written part named, for the bodies of a try -/
theorem ix_listK {X : Cx} {K : PySem.W.Frag} (h : X.K = K) : IxR X (rIxL K) := by subst h; exact ix_list
theorem ix_tupK {X : Cx} {K : PySem.W.Frag} (h : X.K = K) : IxR X (rIxT K) := by subst h; exact ix_tup
theorem pe_fldK {X : Cx} {K : PySem.W.Frag} {e : Expr} {te : TE} {f : Str} {pos : Pos} (hk : X.K = K) (h : PE X e te) (hb : attributeBase e f X.env (eval e X.env) = eval e X.env) : PE X (.Attribute e f pos) (tFld K te f) := by subst hk; exact pe_fld h hb
theorem call_isiK2 {X : Cx} {K : PySem.W.Frag} (h : X.K = K) : CallR X (.builtin "isinstance") (rIsi K) := by subst h; exact call_isi
theorem call_isiTK {X : Cx} {K : PySem.W.Frag} (h : X.K = K) : CallR X (.builtin "isinstance") (rIsiT K) := by subst h; exact call_isiT
theorem call_lenK {X : Cx} {K : PySem.W.Frag} (h : X.K = K) : CallR X (.builtin "len") (fun xs H Q => ∃ x n, xs = [x] ∧ LenV K x H n ∧ Q (.int n) H) := by subst h; exact call_len
theorem call_list_ofK {X : Cx} {K : PySem.W.Frag} (h : X.K = K) : CallR X (.type "list") (fun xs H Q => ∃ p ys, xs = [.ref p] ∧ (SqL K H p ys ∨ SqT K H p ys) ∧ ∀ l, H l = none → Q (.ref l) (upd H l (.lst ys))) := by subst h; exact call_list_of
theorem call_tuple_ofK {X : Cx} {K : PySem.W.Frag} (h : X.K = K) : CallR X (.type "tuple") (fun xs H Q => ∃ p ys, xs = [.ref p] ∧ ((SqL K H p ys ∧ ∀ l, H l = none → Q (.ref l) (upd H l (.tup ys))) ∨ (SqT K H p ys ∧ Q (.ref p) H))) := by subst h; exact call_tuple_of
theorem op_in_seqK {X : Cx} {K : PySem.W.Frag} (h : X.K = K) : OpR X (compareOp .In) (rIn K false) := by subst h; exact op_in_seq
theorem op_notIn_seqK {X : Cx} {K : PySem.W.Frag} (h : X.K = K) : OpR X (compareOp .NotIn) (rIn K true) := by subst h; exact op_notIn_seq
end My

namespace My
open PySem PySem.Spec PyProof.Rows L2 AutoSeq1
/-! enumerate of a tuple -/
theorem new_enum_tup (t : Addr) (its : Array Value) (n : Nat) (dct : Option Addr) (sl : Array (Option Value)) :
    Meets (Builtin.«enumerate.__new__» ⟨[.type "enumerate", .ref t], []⟩) (fun _ R s => s.heap.get? t = some { cls := .type "tuple", dict := dct, data := .seq its n, slots := sl } ∧ R (.ok (.ret (.ref (s.heap.push { cls := .type "tuple_iterator", data := .fields #[.ref t, .int 0 0] }).objs.size)))
      { s with heap := (s.heap.push { cls := .type "tuple_iterator", data := .fields #[.ref t, .int 0 0] }).push { cls := .type "enumerate", data := .fields #[.none, .bool false, .ref s.heap.objs.size, rawInt 0, .none, .none] } }) :=
  .of_wp fun prog w A R s h => by
    obtain ⟨hp, gs, dr, tk, os⟩ := s
    obtain ⟨hl, h⟩ := h
    have sub := sub_enumerate
    have tT : Heap.IsTuple (Shared.heap ⟨hp, gs, dr, tk, os⟩) t its := ⟨_, hl, rfl, n, rfl⟩
    wp_walk using wpAny_loadPart' hl
    refine wpAny_stack_any fun st => wpAny_pure ?_
    split
    · rename_i c _ _ _ _ _
      cases c == Value.type "enumerate" <;> (wp_walk using wpAny_loadPart' hl, wpAny_pyIter_tuple tT; exact ⟨_, rfl, h⟩)
    · (wp_walk using wpAny_loadPart' hl, wpAny_pyIter_tuple tT); exact ⟨_, rfl, h⟩
section
variable {prog : Program} {w : World} {A : Around} {E : Value → Shared → Prop} {s : Shared}
theorem call_enum_tup {t : Addr} {its : Array Value} {Q : Value → Shared → Prop} (tT : s.heap.IsTuple t its)
    (h : ∀ h', IsEnum h' (s.heap.objs.size + 1) s.heap.objs.size 0 .none → h'.IsTupleIter s.heap.objs.size t 0 → (∀ b o, s.heap.get? b = some o → h'.get? b = some o) → Q (.ref (s.heap.objs.size + 1)) { s with heap := h' }) :
    wpAny (model prog w) A (call (.type "enumerate") [.ref t]) Q E s := by
  obtain ⟨⟨c, dct, dt, sl⟩, hl, hc, n, hd⟩ := tT
  obtain rfl : c = .type "tuple" := hc
  obtain rfl : dt = .seq its n := hd
  refine callType_new F.called_enumerate (by decide) (F.typeCall_enumerate_1 _) (F.newCall_enumerate_1 _) (fun obj => F.args_object_init_2 obj _) F.entry_enumerate_new (new_enum_tup t its n dct sl) ⟨hl, ?_⟩
  generalize hi : ({ cls := .type "tuple_iterator", data := .fields #[.ref t, .int 0 0] } : Obj) = io
  have sz : (s.heap.push io).objs.size = s.heap.objs.size + 1 := Heap.size_push ..
  show _ ∧ _
  rw [sz]
  generalize hj : ({ cls := .type "enumerate", data := .fields #[.none, .bool false, .ref s.heap.objs.size, rawInt 0, .none, .none] } : Obj) = eo
  have ge : ((s.heap.push io).push eo).get? (s.heap.objs.size + 1) = some eo := by
    have q := Heap.get?_push_size (s.heap.push io) (o := eo) (by rw [← hj]; rfl)
    rw [sz] at q
    exact q
  have he : IsEnum ((s.heap.push io).push eo) (s.heap.objs.size + 1) s.heap.objs.size 0 .none := by rw [← hj] at ge ⊢; exact ge
  exact ⟨⟨eo, ge, by rw [← hj]⟩, h _ he ⟨io, Heap.get?_push_of_some _ (Heap.get?_push_size _ (by rw [← hi]; rfl)), by rw [← hi], by rw [← hi]; rfl⟩ fun b o x => Heap.get?_push_of_some _ (Heap.get?_push_of_some _ x)⟩
end
/-- the tuple at a, each item in a new pair -/
def IteT (K : PySem.W.Frag) (a : Addr) : It :=
  ⟨fun i H => ∃ (xs : List V) (x : V), SqT K H a xs ∧ xs[i]? = some x, fun i H v H' => ∃ T x, v = .ref T ∧ H T = none ∧ H' = upd H T (.tup [.int (i : Nat), x]) ∧ ∀ xs, SqT K H a xs → xs[i]? = some x, fun i H => ∃ xs : List V, SqT K H a xs ∧ xs.length ≤ i⟩
theorem turn_enumT {P : Program} {w : World} {K : PySem.W.Frag} {elts : List Expr} {kk : Nat} {tpos : Pos} (a e it : Addr) (hat : a ≠ it) :
    Turn P w K (.Tuple elts kk tpos) (IteT K a) [e, it] e (fun i h => (∃ old, IsEnum h e it ((i : Nat) : Int) old) ∧ h.IsTupleIter it a i ∧ e ≠ it ∧ e ≠ a) where
  mem := List.mem_cons_self ..
  obj := fun i h st b hb => by
    obtain ⟨⟨old, he⟩, ⟨o, ho, hc, hd⟩, _⟩ := st
    rcases List.mem_cons.mp hb with z | hb
    · rw [z]; exact ⟨_, he, fun v q => nomatch q⟩
    · rw [List.mem_singleton.mp hb]; exact ⟨o, ho, fun v q => by rw [hd] at q; cases q⟩
  keep := fun i h h' st k => by
    obtain ⟨⟨old, he⟩, hi, ne⟩ := st
    exact ⟨⟨old, k e (List.mem_cons_self ..) _ he⟩, hi.at fun o q => k it (by simp) o q, ne⟩
  item := by
    intro X hP hw hK hc i pins s σ H E I hf st hg
    subst hP hw hK
    obtain ⟨⟨old, he⟩, hit, hne, hea⟩ := st
    obtain ⟨xs, x, hq, hx⟩ := hg
    obtain ⟨its, rv, p, hz⟩ := I.tuple hq
    have pT : s.heap.IsTuple a its.toArray := p
    obtain ⟨u, hu, ru⟩ := rv.get hx
    have hil : i < its.toArray.size := by
      rw [List.size_toArray]
      exact (List.getElem?_eq_some_iff.mp hu).1
    have lte : e < s.heap.objs.size := Heap.lt_size he
    have lti : it < s.heap.objs.size := by obtain ⟨_, q, _⟩ := hit; exact Heap.lt_size q
    have D := Draws.tuple (prog := X.prog) (w := X.w) (A := X.A.in1) (I.ok.hd hc) it a hat its.toArray
    refine wpAny_pyNext_enum_itemD D he ⟨hit, pT⟩ hil hne (by simp [hne, hea]) fun y h' tk hy ho hst hT hsz hk => ?_
    have ey : y = u := by
      have hy2 : its.toArray[i]? = some y := hy
      rw [List.getElem?_toArray, hu] at hy2
      exact (Option.some.inj hy2).symm
    subst ey
    refine ⟨_, rfl, wpAny_letOwnedTupleGo_enum (s := { s with heap := h', toks := tk + 1 }) ho fun h'' he' sb => ?_⟩
    have T2 : h''.get? s.heap.objs.size = some { cls := .type "tuple", data := .seq #[.int i tk, y] } := (sb.2 _ (Nat.ne_of_gt lte)).trans hT
    have I1 : Inv X pins σ (upd H s.heap.objs.size (.tup [.int (i : Nat), x])) { s with heap := h'', toks := tk + 1 } :=
      I.turnedNew (ch := [e, it]) (fun b ob hb q => (sb.2 b (fun z => hb (by simp [z]))).trans (hk b ob (fun z => hb (by simp [z])) (fun z => hb (by simp [z])) q)) hf (Nat.le_refl _)
        ⟨by show 2 ≤ sizeLine; decide, [.int i tk, y], .cons ⟨_, rfl⟩ (.cons ru .nil), ⟨_, T2, rfl, _, rfl⟩⟩
    refine ⟨.ref s.heap.objs.size, _, I1, rfl, ⟨_, x, rfl, I.hok.fresh (Nat.le_refl _), rfl, fun ys hy => by rw [I.tuple_inj hy hq]; exact hx⟩, ⟨⟨y, ?_⟩, hst.1.at fun o q => (sb.2 it (Ne.symm hne)).trans q, hne, hea⟩, fun b hb => ?_⟩
    · rw [show ((i + 1 : Nat) : Int) = (i : Int) + 1 by omega]
      exact he'
    · have lt : b < s.heap.objs.size := by
        rcases List.mem_cons.mp hb with z | hb
        · rw [z]; exact lte
        · rw [List.mem_singleton.mp hb]; exact lti
      rw [upd_ne (Nat.ne_of_lt lt)]
      exact (hf b hb).1
  done := by
    intro X hP hw hK hc i pins s σ H E I hf st hg
    subst hP hw hK
    obtain ⟨⟨old, he⟩, hit, hne, hea⟩ := st
    obtain ⟨xs, hq, hx⟩ := hg
    obtain ⟨its, rv, p, hz⟩ := I.tuple hq
    have pT : s.heap.IsTuple a its.toArray := p
    obtain ⟨f0, f1, f2, f3, f4, f5⟩ := hf it (by simp)
    have hA : X.A.handled = none := I.ok.hd hc
    have hT : s.TypeIs (.ref e) "enumerate" := ⟨_, he, rfl⟩
    unfold pyNext
    refine wpAny_bind (wpAny_attempt (wpAny_callSpecial?_slot (name := Str.ofString "__next__") hT F.slot_enumerate_next (wpAny_call_entry F.slot_enumerate_next hT F.entry_enumerate_next ?_ (F.args_enumerate_next_1 _))))
    show wpAny _ _ (field (.ref e) 2 >>= _) _ _ _
    refine wpAny_bind (wpAny_field he rfl (x := .ref it) rfl ?_)
    have hn : its.toArray[i]? = none := by
      have l := rv.length
      rw [List.getElem?_toArray]
      exact List.getElem?_eq_none (by omega)
    refine wpAny_bind (wpAny_nextOf_tuple_end (A := X.A.in1) hA hit pT hn fun h' x ex hx' => ?_)
    obtain ⟨o, ho, hc⟩ := hx'
    refine wpAny_bind (wpAny_isInstance (T := "StopIteration") (b := true) ⟨o, ho, hc⟩ isSubtype_stop ?_)
    exact wpAny_pure ⟨rfl, I.turned (t' := s.toks) (fun b o hb q => ex b o hb q) f0 f1 f3 f4 f5⟩
  self := fun A i s Q E st h => by
    obtain ⟨⟨_, he⟩, _⟩ := st
    exact wpAny_pyIter_enum he h
/-- enumerate of a list or of a tuple -/
def iEnumA (K : PySem.W.Frag) (ta : TA) : TI := fun σ H R => ta σ H fun vs H1 => ∃ a xs, vs = [.ref a] ∧ ((SqL K H1 a xs ∧ R (Ite K a) H1) ∨ (SqT K H1 a xs ∧ R (IteT K a) H1))
theorem pi_enumA {X : Cx} {e : Expr} {ta : TA} {p pos tpos : Pos} {elts : List Expr} {kk : Nat} (hg : Gl X "enumerate") (hm : X.mg "enumerate" = none) (ha : PA X [e] ta) (hs : starEach [e] X.env = [(false, eval e X.env)] := by rfl) :
    PI X (.Tuple elts kk tpos) (.Call (.Name "enumerate" p) [e] [] pos) (iEnumA X.K ta) := by
  refine ⟨fun pins s σ H R I h => ?_⟩
  refine Call_ (ld_blt I hg hm boot_enumerate (PyProof.Rows.callWith_type1 (thn (ha.run pos pins s σ H _ I h) fun us s1 ⟨vs, H1, I1, r1, q1⟩ => ?_) hs rfl))
  obtain ⟨a, xs, ex, q1⟩ := q1
  subst ex
  cases r1 with
  | cons r rr =>
    cases rr
    cases r
    have fr2 : ∀ b ∈ [s1.heap.objs.size + 1, s1.heap.objs.size], FpOk X pins H1 b := fun b hb => by
      have hle : s1.heap.objs.size ≤ b := by
        rcases List.mem_cons.mp hb with z | hb
        · rw [z]; exact Nat.le_add_right _ _
        · rw [List.mem_singleton.mp hb]; exact Nat.le_refl _
      exact I1.fpOk hle (I1.hok.fresh hle)
    rcases q1 with ⟨hq, q⟩ | ⟨hq, q⟩
    · obtain ⟨its, rv, p', hz⟩ := I1.list hq
      refine call_enumerate_list p'.isList fun h' he hit hsz hk => wpAny_pyIter_enum he ?_
      have I2 : Inv X pins σ H1 { s1 with heap := h' } := I1.kept (t' := s1.toks) hk
      exact ⟨s1.heap.objs.size + 1, [s1.heap.objs.size + 1, s1.heap.objs.size], _, _, H1, rfl, I2, turn_enum a (s1.heap.objs.size + 1) s1.heap.objs.size, ⟨⟨.none, he⟩, hit, Nat.succ_ne_self _⟩, fr2, q⟩
    · obtain ⟨its, rv, p', hz⟩ := I1.tuple hq
      have pT : s1.heap.IsTuple a its.toArray := p'
      have lta : a < s1.heap.objs.size := by obtain ⟨_, z, _⟩ := pT; exact Heap.lt_size z
      refine call_enum_tup pT fun h' he hit hk => wpAny_pyIter_enum he ?_
      have I2 : Inv X pins σ H1 { s1 with heap := h' } := I1.kept (t' := s1.toks) hk
      exact ⟨s1.heap.objs.size + 1, [s1.heap.objs.size + 1, s1.heap.objs.size], _, _, H1, rfl, I2, turn_enumT a (s1.heap.objs.size + 1) s1.heap.objs.size (Nat.ne_of_lt lta), ⟨⟨.none, he⟩, hit, Nat.succ_ne_self _, Nat.ne_of_gt (Nat.lt_succ_of_lt lta)⟩, fr2, q⟩
theorem walk_enumT {K : PySem.W.Frag} {a : Addr} {xs : List V} : Walk (IteT K a) xs.length (fun H => SqT K H a xs) (YPair (fun i => some (.int (i : Nat))) (fun i => xs[i]?)) := by
  refine ⟨fun i _ hi q => ⟨xs, xs[i], q, by simp [hi]⟩, fun _ q => ⟨xs, q, Nat.le_refl _⟩, fun i H v H' _ q y => ?_⟩
  obtain ⟨T, x, h1, h2, h3, h4⟩ := y
  exact ⟨T, .int (i : Nat), x, h1, h2, h3, rfl, h4 xs q⟩
/-- a walk of one of two kinds -/
theorem pi_or {X : Cx} {tg e : Expr} {w1 w2 : TI} (h1 : PI X tg e w1) (h2 : PI X tg e w2) : PI X tg e (fun σ H R => w1 σ H R ∨ w2 σ H R) :=
  ⟨fun pins s σ H R I h => h.elim (h1.run pins s σ H R I) (h2.run pins s σ H R I)⟩
end My

namespace My
open PySem PySem.Spec PyProof.Rows L2
/-! set comprehensions over ints, of one and of two clauses: one theorem for a clause's loop, used at both depths -/
section
variable {prog : Program} {w : World} {A : Around} {R : Result → Shared → Prop} {s : Shared} {e : Expr} {k : Nat} {tg iter : Expr} {ifs : List Expr} {it acc : Value} {env : Env} {body : Value → Env → Sem Unit}
def testsIn (ifs : List Expr) (env : Env) : Sem Bool := forIn ifs true fun c r => if r = true then do let ok ← isTrue c env (eval c env); pure (ForInStep.yield ok) else pure (ForInStep.yield r)
/-- one turn of a clause, as a program -/
def turnOf (e : Expr) (k : Nat) (tg iter : Expr) (ifs : List Expr) (body : Value → Env → Sem Unit) (it acc : Value) (env : Env) := (do
  standAt iter.pos
  match ← pyNext it with
  | none => pure (.done .next)
  | some v =>
    letOwnedTupleGo tg it v
    assign tg env v
    let ok ← testsIn ifs env
    if ok then
      body acc env
    again (.compLoop e k it acc env) : Sem Fin)
/-- what is asked of a turn -/
def TurnR (prog : Program) (w : World) (A : Around) (R : Result → Shared → Prop) (tg : Expr) (ifs : List Expr) (it : Value) (env : Env) (bd : Sem Unit) (I : Nat → Shared → Prop) : Prop :=
  ∀ n s, I n s →
    let M := model prog w
    let B := notedBy M A env fun x s' => R (.error x) s'
    wpAny M A (pyNext it) (fun r s₁ => match r with
      | none => R (.ok .next) s₁
      | some v => wpAny M A (letOwnedTupleGo tg it v) (fun _ s₂ => wpAny M A (assign tg env v) (fun _ s₃ => wpAny M A (testsIn ifs env)
          (fun ok s₄ => if ok = true then wpAny M A bd (fun _ s₅ => ∃ m, m < n ∧ I m s₅) B s₄ else ∃ m, m < n ∧ I m s₄) B s₃) B s₂) B s₁) B s
theorem loopR (hU : A.under (.compLoop e k it acc env) = A) (hD : (model prog w).den (.compLoop e k it acc env) = (compTurn e k it acc env).onRaise (fun x => do noteFrame x env; theTreesLotGoes x)) (hT : compTurn e k it acc env = turnOf e k tg iter ifs body it acc env) (I : Nat → Shared → Prop) (turn : TurnR prog w A R tg ifs it env (body acc env) I) (n : Nat) (h : I n s) :
    codeAny (model prog w) A (.compLoop e k it acc env) R s := by
  refine codeAny_loop rfl I (fun n s hI => ?_) n h
  rw [hD, hU, hT]
  refine wpAny_noted (wpAny_bind (wpAny_standAt (wpAny_bind (wpAny_mono (turn n s hI) (fun r s₁ h₁ => ?_) fun _ _ q => q))))
  cases r with
  | none => exact wpAny_pure h₁
  | some v =>
    refine wpAny_bind (wpAny_mono h₁ (fun _ s₂ h₂ => wpAny_bind (wpAny_mono h₂ (fun _ s₃ h₃ => wpAny_bind (wpAny_mono h₃ (fun ok s₄ h₄ => ?_) fun _ _ q => q)) fun _ _ q => q)) fun _ _ q => q)
    cases ok with
    | false => exact wpAny_pure ⟨rfl, h₄⟩
    | true => exact wpAny_bind (wpAny_mono h₄ (fun _ s₅ h₅ => wpAny_pure ⟨rfl, h₅⟩) fun _ _ q => q)
end

/-! a clause's loop within a comprehension's block -/
def SlotsKept (σ σ' : L2.St) : Prop := σ.length = σ'.length ∧ ∀ (j : Nat) (v : V), σ[j]? = some (some v) → σ'[j]? = some (some v)
theorem SlotsKept.refl (σ : L2.St) : SlotsKept σ σ := ⟨rfl, fun _ _ q => q⟩
theorem SlotsKept.trans {a b c : L2.St} (h : SlotsKept a b) (g : SlotsKept b c) : SlotsKept a c := ⟨h.1.trans g.1, fun j v q => g.2 j v (h.2 j v q)⟩
theorem kept_wipe {σ σ2 : L2.St} {vs : List Nat} (h : wipe σ2 vs = wipe σ vs) : SlotsKept (wipe σ vs) σ2 := ⟨by rw [← h, wipe_length], fun j v q => by rw [← h] at q; exact (wipe_some q).1⟩
/-- the invariant's side of a turn: Tr what the reading says once the item is stored and the tests are passed -/
def ClauseW (J : It) (W : Nat → Nat → Hp → Prop) (σ : L2.St) (g : TG) (tt : TT) (Tr : (Hp → Prop) → L2.St → Hp → Prop) (Qd : Hp → Prop) : Prop := ∀ i m H, W i m H →
  (J.stop i H ∧ Qd H) ∨ (J.go i H ∧ ∃ Nx : Hp → Prop, (∀ H', Nx H' → ∃ m', m' < m ∧ W (i + 1) m' H') ∧ ∀ x H', J.yld i H x H' → g x σ H' fun σ2 H2 => SlotsKept σ σ2 ∧ tt σ2 H2 fun b H3 => if b = true then Tr Nx σ2 H3 else Nx H3)
section
variable {X : Cx} {sB : Shared} {HB : Hp} {scope : Scope} {ce : Env} {fpB : List Addr}
theorem clause_loop {pins : List (Addr × Obj)} {s : Shared} {σ : L2.St} {H : Hp} {R : Result → Shared → Prop} {e : Expr} {k : Nat} {tg iter : Expr} {ifs : List Expr} {acc : Value} {body : Value → Env → Sem Unit} {it : Addr} {fp : List Addr} {tn : Nat → Heap → Prop} {J : It} {g : TG} {tt : TT}
    {W : Nat → Nat → Hp → Prop} {Tr : (Hp → Prop) → L2.St → Hp → Prop} {Qd : Hp → Prop} {m0 : Nat} (hc : X.calm = true) (hU : X.A.under (.compLoop e k (.ref it) acc ce) = X.A) (hD : (model X.prog X.w).den (.compLoop e k (.ref it) acc ce) = (compTurn e k (.ref it) acc ce).onRaise (fun x => do noteFrame x ce; theTreesLotGoes x)) (hT : compTurn e k (.ref it) acc ce = turnOf e k tg iter ifs body (.ref it) acc ce) (T : Turn X.prog X.w X.K tg J fp it tn)
    (pg : PG (X.blk sB HB scope ce fpB) tg g) (pt : PTs (X.blk sB HB scope ce fpB) ifs tt) (I : Inv (X.blk sB HB scope ce fpB) pins σ H s) (st : tn 0 s.heap) (f : ∀ b ∈ fp, FpOk (X.blk sB HB scope ce fpB) pins H b)
    (w0 : W 0 m0 H) (cw : ClauseW J W σ g tt Tr Qd)
    (hbody : ∀ (pp : List (Addr × Obj)) (σ2 : L2.St) (H3 : Hp) (s3 : Shared) (Nx : Hp → Prop), Inv (X.blk sB HB scope ce fpB) pp σ2 H3 s3 → SlotsKept σ σ2 → Tr Nx σ2 H3 →
      wpAny (model X.prog X.w) X.A (body acc ce) (fun _ s4 => ∃ σ4 H4, Inv (X.blk sB HB scope ce fpB) pp σ4 H4 s4 ∧ SlotsKept σ σ4 ∧ Nx H4) (fun _ _ => False) s3)
    (done : ∀ H' s', Inv (X.blk sB HB scope ce fpB) pins σ H' s' → Qd H' → R (.ok .next) s') :
    codeAny (model X.prog X.w) X.A (.compLoop e k (.ref it) acc ce) R s := by
  have stat : ∀ {H' : Hp}, (∀ b ∈ fp, H' b = none) → ∀ b ∈ fp, FpOk (X.blk sB HB scope ce fpB) pins H' b := fun hn b hb => ⟨hn b hb, (f b hb).2⟩
  refine loopR hU hD hT (fun n s' => ∃ i H', Inv (X.blk sB HB scope ce fpB) pins σ H' s' ∧ tn i s'.heap ∧ (∀ b ∈ fp, H' b = none) ∧ W i n H') ?_ m0 ⟨0, H, I, st, fun b hb => (f b hb).1, w0⟩
  rintro n s5 ⟨i, H5, I5, st5, n5, w5⟩
  rcases cw i n H5 w5 with ⟨stop, qd⟩ | ⟨go, Nx, hNx, step⟩
  · refine thnF (T.done (X.blk sB HB scope ce fpB) rfl rfl rfl hc i pins s5 σ H5 (fun _ _ => False) I5 (stat n5) st5 stop) fun r s6 ⟨hr, I6⟩ => ?_
    subst hr
    exact done _ _ I6 qd
  · refine thnF (T.item (X.blk sB HB scope ce fpB) rfl rfl rfl hc i pins s5 σ H5 (fun _ _ => False) I5 (stat n5) st5 go) fun r s6 ⟨u, hr, h6⟩ => ?_
    subst hr
    refine thnF h6 fun _ s7 ⟨x, H7, I7, r7, y7, st7, n7⟩ => ?_
    refine thnF (pg.run _ s7 σ H7 x u _ (I7.pinned (stat n7) (T.obj _ _ st7)) r7 (step x H7 y7)) fun _ s8 ⟨σ8, H8, I8, kept8, q8⟩ => ?_
    refine thnF (pt.run _ s8 σ8 H8 _ I8 q8) fun b s9 ⟨H9, I9, q9⟩ => ?_
    have back : ∀ (σ9 : L2.St) (s' : Shared) (H' : Hp), Inv (X.blk sB HB scope ce fpB) (pins ++ pinsAt fp s7.heap) σ9 H' s' → SlotsKept σ σ9 → Nx H' → ∃ m, m < n ∧ ∃ i H', Inv (X.blk sB HB scope ce fpB) pins σ H' s' ∧ tn i s'.heap ∧ (∀ b ∈ fp, H' b = none) ∧ W i m H' := by
      intro σ9 s' H' I' kp nx
      obtain ⟨m', lt, w'⟩ := hNx H' nx
      have at7 : ∀ b ∈ fp, ∀ o, s7.heap.get? b = some o → s'.heap.get? b = some o ∧ H' b = none := by
        intro b hb o q
        have z := I'.pin (b, o) (List.mem_append_right _ (List.mem_append_right _ (mem_pinsAt hb q)))
        exact ⟨z.1, z.2.1⟩
      refine ⟨m', lt, i + 1, H', I'.unpinned.weak kp.1 kp.2, T.keep _ _ _ st7 (fun b hb o q => (at7 b hb o q).1), ?_, w'⟩
      intro b hb
      obtain ⟨o, q, _⟩ := T.obj _ _ st7 b hb
      exact (at7 b hb o q).2
    cases b with
    | false => exact back σ8 s9 H9 I9 kept8 q9
    | true => exact thnF (hbody _ σ8 H9 s9 Nx I9 kept8 q9) fun _ s10 ⟨σ10, H10, I10, kept10, nx⟩ => back σ10 s10 H10 I10 kept10 nx
end

/-! the block's start, for any maker of the new thing -/
section
variable {X : Cx}
/-- the frame of a comprehension: the first source is walked, the new thing laid at D, the block entered -/
theorem comp_frame {e : Expr} {newAcc : Sem Value} {init : Addr → HO} {pins : List (Addr × Obj)} {s : Shared} {σ : L2.St} {H : Hp} {Q : VK} {tg iter : Expr} {ifs : List Expr} {rest : List Comprehension} {scope : Scope} {own : List (PySem.Str × Nat)} {pos' : Pos} {wi : TI} {g : TG} {tt : TT}
    {body : Value → Env → Sem Unit} {Tr : Addr → (Hp → Prop) → L2.St → Hp → Prop} {Qf : Value → Shared → Prop}
    (hcl : clausesOf e = ⟨tg, iter, ifs, 0⟩ :: rest)
    (hnew : ∀ (s2 : Shared) (σ : L2.St) (H2 : Hp) (Q : Value → Shared → Prop), Inv X pins σ H2 s2 → (∀ (s3 : Shared) (D : Addr), D = s2.heap.objs.size → (∀ b o, s2.heap.get? b = some o → s3.heap.get? b = some o) → s2.heap.objs.size < s3.heap.objs.size → Inv X pins σ (upd H2 D (init D)) s3 → Q (.ref D) s3) → wpAny (model X.prog X.w) X.A newAcc Q X.xe s2)
    (hstart : ∀ (it D : Addr) (ce : Env) (R : Result → Shared → Prop) (s : Shared), codeAny (model X.prog X.w) X.A (.compLoop e 0 (.ref it) (.ref D) ce) R s → (∀ E : Value → Shared → Prop, wpAny (model X.prog X.w) X.A (pyIter (.ref it)) (fun it' s' => codeAny (model X.prog X.w) X.A (.compLoop e 0 it' (.ref D) ce) R s') E s) → codeAny (model X.prog X.w) X.A (.compStart e 0 (.ref it) (.ref D) ce) R s)
    (hU : ∀ (it D : Addr) (ce : Env), X.A.under (.compLoop e 0 (.ref it) (.ref D) ce) = X.A) (hD : ∀ (it D : Addr) (ce : Env), (model X.prog X.w).den (.compLoop e 0 (.ref it) (.ref D) ce) = (compTurn e 0 (.ref it) (.ref D) ce).onRaise (fun x => do noteFrame x ce; theTreesLotGoes x))
    (hT : ∀ (it D : Addr) (ce : Env), compTurn e 0 (.ref it) (.ref D) ce = turnOf e 0 tg iter ifs body (.ref it) (.ref D) ce)
    (hc : X.calm = true) (hN : X.N.Nodup) (I : Inv X pins σ H s) (hi : PI X tg iter wi) (ok : BlkOk X.N X.env.scope scope own) (hs : ∀ x, foldedSetIterable iter X.env x = pure x)
    (hg : ∀ (s : Shared) (H : Hp) (C : Addr) (cl : List (PySem.Str × Addr)) (fp : List Addr), PG (X.blk s H scope (compEnvC scope cl C X.env) fp) tg g) (ht : ∀ (s : Shared) (H : Hp) (C : Addr) (cl : List (PySem.Str × Addr)) (fp : List Addr), PTs (X.blk s H scope (compEnvC scope cl C X.env) fp) ifs tt)
    (hb : ∀ (s0 : Shared) (H0 : Hp) (C : Addr) (cl : List (PySem.Str × Addr)) (fp : List Addr) (D : Addr) (pp : List (Addr × Obj)) (σ2 : L2.St) (H3 : Hp) (s3 : Shared) (Nx : Hp → Prop), Inv (X.blk s0 H0 scope (compEnvC scope cl C X.env) fp) pp σ2 H3 s3 → SlotsKept (wipe σ (own.map (·.2))) σ2 → Tr D Nx σ2 H3 →
      wpAny (model X.prog X.w) X.A (body (.ref D) (compEnvC scope cl C X.env)) (fun _ s4 => ∃ σ4 H4, Inv (X.blk s0 H0 scope (compEnvC scope cl C X.env) fp) pp σ4 H4 s4 ∧ SlotsKept (wipe σ (own.map (·.2))) σ4 ∧ Nx H4) (fun _ _ => False) s3)
    (h : wi σ H fun J H1 => ∀ D, H1 D = none → ∃ W : Nat → Nat → Hp → Prop, (∃ m, W 0 m (upd H1 D (init D))) ∧ ClauseW J W (wipe σ (own.map (·.2))) g tt (Tr D) (fun H2 => Q (.ref D) H2))
    (hQ : ∀ D H' s', Inv X pins σ H' s' → Q (.ref D) H' → Qf (.ref D) s') :
    wpAny (model X.prog X.w) X.A (comprehension e scope X.env pos' newAcc false (eval iter X.env) none) Qf X.xe s := by
  have hfree : ∀ y ∈ scope.names, y.2 = .free → ∃ c, X.env.cells.lookup y.1 = some c := by
    intro y hy q
    rcases ok.free y hy q with k | k
    · exact I.ok.has _ (.inl k)
    · exact I.ok.has _ (.inr k)
  refine wpAny_comprehension_free (use := none) hcl hs (closure_ok hfree) ok.kind (fun y hy q => by rw [ok.uniq y hy, q]) ?_
  refine thn (hi.run pins s σ H _ I h) fun xv s1 hx => thn hx fun itv s2 h2 => ?_
  obtain ⟨it, fp, tn, J, H2, rfl, I2, T, st2, f2, q⟩ := h2
  refine hnew s2 σ H2 _ I2 fun s3 D eD kp grown I3 => newEnv_comp ?_
  have hDn : H2 D = none := I2.hok.fresh (Nat.le_of_eq eD.symm)
  obtain ⟨W, ⟨m0, w0⟩, cw⟩ := q D hDn
  have f3 : ∀ b ∈ fp, FpOk X pins (upd H2 D (init D)) b ∧ b < s3.heap.objs.size := by
    intro b hb
    obtain ⟨o, q, _⟩ := T.obj _ _ st2 b hb
    have lt := Heap.lt_size q
    refine ⟨⟨?_, (f2 b hb).2⟩, Nat.lt_trans lt grown⟩
    rw [upd_ne (by rw [eD]; exact Nat.ne_of_lt lt)]
    exact (f2 b hb).1
  have st3 : tn 0 s3.heap := T.keep _ _ _ st2 fun b _ o q => kp b o q
  have I4 := block_start I3 ok hN f3
  have pg := fun fp' => hg s3 (upd H2 D (init D)) s3.heap.objs.size (cellsFrom (s3.heap.objs.size + 1) scope.names (cloFrom X.env.cells scope.names [])) fp'
  have pt := fun fp' => ht s3 (upd H2 D (init D)) s3.heap.objs.size (cellsFrom (s3.heap.objs.size + 1) scope.names (cloFrom X.env.cells scope.names [])) fp'
  have pb := fun fp' => hb s3 (upd H2 D (init D)) s3.heap.objs.size (cellsFrom (s3.heap.objs.size + 1) scope.names (cloFrom X.env.cells scope.names [])) fp' D
  have nfp : ∀ b ∈ fp, (upd H2 D (init D)) b = none := fun b hb => (f3 b hb).1.1
  have cL : (compEnvC scope (cellsFrom (s3.heap.objs.size + 1) scope.names (cloFrom X.env.cells scope.names [])) s3.heap.objs.size X.env).locals = s3.heap.objs.size := rfl
  show codeAny _ _ (.compStart e 0 (.ref it) (.ref D) (compEnvC scope (cellsFrom (s3.heap.objs.size + 1) scope.names (cloFrom X.env.cells scope.names [])) s3.heap.objs.size X.env)) (compPost (model X.prog X.w) X.A X.xe none Qf (.ref D) s3.heap.objs.size) { s3 with heap := pushCells (s3.heap.push { cls := .type "dict", data := .dict #[] }) scope.names }
  generalize compEnvC scope (cellsFrom (s3.heap.objs.size + 1) scope.names (cloFrom X.env.cells scope.names [])) s3.heap.objs.size X.env = ce at I4 pg pt pb cL ⊢
  generalize upd H2 D (init D) = H3 at I3 I4 pg pt pb w0 nfp f3
  have st4 : tn 0 (pushCells (s3.heap.push { cls := .type "dict", data := .dict #[] }) scope.names) := T.keep _ _ _ st3 fun b _ o q => pushCells_keeps _ _ _ _ (Heap.get?_push_of_some _ q)
  generalize hs4 : ({ s3 with heap := pushCells (s3.heap.push { cls := .type "dict", data := .dict #[] }) scope.names } : Shared) = s4 at I4 ⊢
  have st4 : tn 0 s4.heap := by rw [← hs4]; exact st4
  have f4 : ∀ b ∈ fp, FpOk (X.blk s3 H3 scope ce fp) [] H3 b := by
    intro b hb
    refine ⟨nfp b hb, (I4.ok.exf b hb).1, I4.ok.exfs b hb, .inl hb, fun x c q => (I4.ok.exf b hb).2 x c q, fun p hp => ?_⟩
    exact absurd (show p ∈ ([] : List (Addr × Obj)) ++ [] from hp) (by simp)
  have run : codeAny (model X.prog X.w) X.A (.compLoop e 0 (.ref it) (.ref D) ce) (compPost (model X.prog X.w) X.A X.xe none Qf (.ref D) s3.heap.objs.size) s4 := by
    refine clause_loop hc (hU it D ce) (hD it D ce) (hT it D ce) T (pg fp) (pt fp) I4 st4 f4 w0 cw (pb fp) fun H' s' I6 qq => ?_
    have I7 : Inv X pins σ H' s' := I3.call' (ch := fp) I6.os I6.base I6.hok I6.bare fun b hb => ⟨(f3 b hb).1.2.2.2.1, (f3 b hb).1.2.1, (f3 b hb).1.2.2.2.2.1, (f3 b hb).1.2.2.2.2.2⟩
    have nC : H' s3.heap.objs.size = none := by
      have z : H' ce.locals = none := I6.free
      rw [cL] at z
      exact z
    obtain ⟨m, hn, _⟩ := I6.loc
    have hn : s'.heap.Ns ce.locals m := hn
    rw [cL] at hn
    obtain ⟨f0, f1, f2', f3', f4', f5'⟩ := I3.fpOk (Nat.le_refl _) nC
    exact ⟨m, hn, fun h'' sb => hQ D H' _ (I7.turned (t' := s'.toks) (fun b o hb q => (sb.2 b hb).trans q) f0 f1 f3' f4' f5') qq⟩
  exact hstart it D ce _ s4 run fun E => T.self X.A 0 s4 _ E st4 run
end

/-! sets of ints -/
section
variable {X : Cx}
def noInts : Int → Bool := fun _ => false
theorem new_set {pins : List (Addr × Obj)} (s2 : Shared) (σ : L2.St) (H2 : Hp) (Q : Value → Shared → Prop) (I : Inv X pins σ H2 s2)
    (k : ∀ (s3 : Shared) (D : Addr), D = s2.heap.objs.size → (∀ b o, s2.heap.get? b = some o → s3.heap.get? b = some o) → s2.heap.objs.size < s3.heap.objs.size → Inv X pins σ (upd H2 D (SetO X.w D noInts 0)) s3 → Q (.ref D) s3) :
    wpAny (model X.prog X.w) X.A (newSet (.type "set")) Q X.xe s2 := by
  refine PpSet.newSet_ok (k _ _ rfl (fun b o q => Heap.get?_push_of_some _ q) (by rw [Heap.size_push]; exact Nat.lt_succ_self _) ?_)
  exact I.laid (t' := s2.toks) (fun b o q => Heap.get?_push_of_some _ q) (Nat.le_refl _) (setO_new (setR_fresh X.w))
theorem add_int {pins : List (Addr × Obj)} {σ : L2.St} {H : Hp} {s : Shared} {E : Value → Shared → Prop} {D : Addr} {S : Int → Bool} {n : Nat} {y : Int} {tk : Tok} {Q : Value → Shared → Prop} (I : Inv X pins σ H s) (hD : H D = some (SetO X.w D S n)) (room : n + 1 < scanBound)
    (k : ∀ s', Inv X pins σ (upd H D (SetO X.w D (fun j => S j || decide (j = y)) (if S y = true then n else n + 1))) s' → Q .none s') : wpAny (model X.prog X.w) X.A (call (.builtin "set.add") [.ref D, .int y tk]) Q E s := by
  refine setR_add (setO_get I hD) room fun h' sb new => ?_
  refine k _ (I.write (e := D) (t' := s.toks + 1) (by rw [hD]; trivial) (.inl rfl) (fun b u hb hu => (sb.2 b hb).trans hu) ?_ (setO_new new))
  obtain ⟨o, _, _, _, ho, _⟩ := new
  exact ⟨o, ho⟩
/-- an item for the set at D -/
def trAdd (w : World) (te : TE) (D : Addr) (Nx : Hp → Prop) (σ2 : L2.St) (H3 : Hp) : Prop := te σ2 H3 fun y H4 => ∃ (c : Int) (S : Int → Bool) (n : Nat), y = .int c ∧ H4 D = some (SetO w D S n) ∧ n + 1 < scanBound ∧ Nx (upd H4 D (SetO w D (fun j => S j || decide (j = c)) (if S c = true then n else n + 1)))
def bodyAdd (elt : Expr) (acc : Value) (env : Env) : Sem Unit := do
  let v ← eval elt env
  standAt elt.pos
  let _ ← call (.builtin "set.add") [acc, v]
theorem body_add {elt : Expr} {te : TE} {D : Addr} {Nx : Hp → Prop} {pp : List (Addr × Obj)} {σ σ2 : L2.St} {H3 : Hp} {s3 : Shared} (pe : PE X elt te) (hx : X.xe = fun _ _ => False) (I : Inv X pp σ2 H3 s3) (kp : SlotsKept σ σ2) (h : trAdd X.w te D Nx σ2 H3) :
    wpAny (model X.prog X.w) X.A (bodyAdd elt (.ref D) X.env) (fun _ s4 => ∃ σ4 H4, Inv X pp σ4 H4 s4 ∧ SlotsKept σ σ4 ∧ Nx H4) (fun _ _ => False) s3 := by
  unfold bodyAdd
  have r := pe.run pp s3 σ2 H3 _ I h
  rw [hx] at r
  refine wpAny_bind (thnF r fun z s5 ⟨y, H5, I5, r5, c, S, n, ey, hD, hn, nx⟩ => ?_)
  subst ey
  obtain ⟨tk, rfl⟩ := r5
  refine wpAny_bind (wpAny_standAt (wpAny_bind (add_int I5 hD hn fun s6 I6 => wpAny_pure ⟨σ2, _, I6, kp, nx⟩)))
/-- {elt for tg in iter if ..} -/
def tSc1 (w : World) (wi : TI) (g : TG) (tt : TT) (te : TE) (vs : List Nat) : TE := fun σ H Q => wi σ H fun J H1 => ∀ D, H1 D = none → ∃ W : Nat → Nat → Hp → Prop, (∃ m, W 0 m (upd H1 D (SetO w D noInts 0))) ∧ ClauseW J W (wipe σ vs) g tt (trAdd w te D) (fun H2 => Q (.ref D) H2)
theorem pe_sc1 {elt tg iter : Expr} {ifs : List Expr} {scope : Scope} {own : List (PySem.Str × Nat)} {pos : Pos} {wi : TI} {g : TG} {tt : TT} {te : TE} (hc : X.calm = true) (hN : X.N.Nodup) (hi : PI X tg iter wi) (ok : BlkOk X.N X.env.scope scope own)
    (hg : ∀ (s : Shared) (H : Hp) (C : Addr) (cl : List (PySem.Str × Addr)) (fp : List Addr), PG (X.blk s H scope (compEnvC scope cl C X.env) fp) tg g) (ht : ∀ (s : Shared) (H : Hp) (C : Addr) (cl : List (PySem.Str × Addr)) (fp : List Addr), PTs (X.blk s H scope (compEnvC scope cl C X.env) fp) ifs tt)
    (he : ∀ (s : Shared) (H : Hp) (C : Addr) (cl : List (PySem.Str × Addr)) (fp : List Addr), PE (X.blk s H scope (compEnvC scope cl C X.env) fp) elt te) (hs : ∀ x, foldedSetIterable iter X.env x = pure x := by intro _; rfl) :
    PE X (.SetComp elt [⟨tg, iter, ifs, 0⟩] scope pos) (tSc1 X.w wi g tt te (own.map (·.2))) := by
  refine ⟨fun pins s σ H Q I h => ?_⟩
  rw [PpSet.eval_SetComp]
  exact comp_frame (init := fun D => SetO X.w D noInts 0) (body := bodyAdd elt) (Tr := trAdd X.w te) rfl new_set (fun it D ce R s h0 h1 => PpSet.codeAny_compStart_set h0 (h1 _)) (fun _ _ _ => rfl) (fun _ _ _ => rfl) (fun _ _ _ => rfl) hc hN I hi ok hs hg ht
    (fun s0 H0 C cl fp D pp σ2 H3 s3 Nx I3 kp tr => body_add (he s0 H0 C cl fp) rfl I3 kp tr) h fun D H' s' I' q => ⟨.ref D, H', I', rfl, q⟩
end
section
variable {prog : Program} {w : World} {A : Around} {R : Result → Shared → Prop} {s : Shared} {elt t0 i0 t1 i1 : Expr} {f0 f1 : List Expr} {scope : Scope} {pos : Pos} {it acc : Value} {env : Env}
/-- the second clause, walked within a turn of the first -/
def bodyIn (e i1 : Expr) (acc : Value) (env : Env) : Sem Unit := do
  let x ← eval i1 env
  standAt i1.pos
  let x ← foldedSetIterable i1 env x
  let _ ← runOwn (.compStart e 1 (← holding [x] (pyIter x)) acc env) env
theorem turn_out : compTurn (.SetComp elt [⟨t0, i0, f0, 0⟩, ⟨t1, i1, f1, 0⟩] scope pos) 0 it acc env = turnOf (.SetComp elt [⟨t0, i0, f0, 0⟩, ⟨t1, i1, f1, 0⟩] scope pos) 0 t0 i0 f0 (bodyIn (.SetComp elt [⟨t0, i0, f0, 0⟩, ⟨t1, i1, f1, 0⟩] scope pos) i1) it acc env := by
  unfold turnOf bodyIn
  simp only [bind_assoc]
  rfl
theorem turn_in : compTurn (.SetComp elt [⟨t0, i0, f0, 0⟩, ⟨t1, i1, f1, 0⟩] scope pos) 1 it acc env = turnOf (.SetComp elt [⟨t0, i0, f0, 0⟩, ⟨t1, i1, f1, 0⟩] scope pos) 1 t1 i1 f1 (bodyAdd elt) it acc env := by rfl
theorem start_in (h0 : codeAny (model prog w) A (.compLoop (.SetComp elt [⟨t0, i0, f0, 0⟩, ⟨t1, i1, f1, 0⟩] scope pos) 1 it acc env) R s)
    (h : wpAny (model prog w) A (pyIter it) (fun it' s' => codeAny (model prog w) A (.compLoop (.SetComp elt [⟨t0, i0, f0, 0⟩, ⟨t1, i1, f1, 0⟩] scope pos) 1 it' acc env) R s') (notedBy (model prog w) A env fun x s' => R (.error x) s') s) :
    codeAny (model prog w) A (.compStart (.SetComp elt [⟨t0, i0, f0, 0⟩, ⟨t1, i1, f1, 0⟩] scope pos) 1 it acc env) R s := by
  refine codeAny_of_tree ?_
  show wpAny _ _ ((compStart (.SetComp elt [⟨t0, i0, f0, 0⟩, ⟨t1, i1, f1, 0⟩] scope pos) 1 it acc env).onRaise _) _ _ s
  refine wpAny_notedAt ?_
  unfold compStart
  refine wpAny_bind (wpAny_askSetting (wpAny_ite ?_))
  split
  · first
      | exact wpAny_bind (wpAny_pure (wpAny_pure ⟨rfl, h0⟩))
      | exact wpAny_pure ⟨rfl, h0⟩
  · refine wpAny_bind (wpAny_rule (wpAny_bind (wpAny_standAt (wpAny_bind (wpAny_mono h (fun it' s' h' => wpAny_pure ⟨rfl, h'⟩) fun _ _ x => x)))))
end
section
variable {X : Cx}
/-- a turn of the first clause: the second source's own walk, from whose end Nx is reached -/
def trIn (w : World) (wi1 : TI) (g1 : TG) (tt1 : TT) (te : TE) (vs1 : List Nat) (D : Addr) (Nx : Hp → Prop) (σ2 : L2.St) (H3 : Hp) : Prop :=
  wi1 σ2 H3 fun J1 H4 => ∃ W1 : Nat → Nat → Hp → Prop, (∃ m, W1 0 m H4) ∧ ClauseW J1 W1 (wipe σ2 vs1) g1 tt1 (trAdd w te D) Nx
theorem body_in {sB : Shared} {HB : Hp} {scope : Scope} {ce : Env} {fpB : List Addr} {elt t0 i0 tg1 iter1 : Expr} {f0 ifs1 : List Expr} {pos : Pos} {wi1 : TI} {g1 : TG} {tt1 : TT} {te : TE} {vs vs1 : List Nat} {D : Addr} {Nx : Hp → Prop} {pp : List (Addr × Obj)} {σ0 σ2 : L2.St} {H3 : Hp} {s3 : Shared}
    (hc : X.calm = true) (hv : ∀ i ∈ vs1, i ∈ vs) (hi1 : PI (X.blk sB HB scope ce fpB) tg1 iter1 wi1) (hg1 : PG (X.blk sB HB scope ce fpB) tg1 g1) (ht1 : PTs (X.blk sB HB scope ce fpB) ifs1 tt1) (he : PE (X.blk sB HB scope ce fpB) elt te) (hs1 : ∀ env x, foldedSetIterable iter1 env x = pure x)
    (I : Inv (X.blk sB HB scope ce fpB) pp σ2 H3 s3) (kp : SlotsKept (wipe σ0 vs) σ2) (h : trIn X.w wi1 g1 tt1 te vs1 D Nx σ2 H3) :
    wpAny (model X.prog X.w) X.A (bodyIn (.SetComp elt [⟨t0, i0, f0, 0⟩, ⟨tg1, iter1, ifs1, 0⟩] scope pos) iter1 (.ref D) ce) (fun _ s4 => ∃ σ4 H4, Inv (X.blk sB HB scope ce fpB) pp σ4 H4 s4 ∧ SlotsKept (wipe σ0 vs) σ4 ∧ Nx H4) (fun _ _ => False) s3 := by
  unfold bodyIn
  refine wpAny_bind (thnF (hi1.run pp s3 σ2 H3 _ I h) fun x s4 hx => wpAny_bind (wpAny_standAt (wpAny_bind (wpAny_of_eq (hs1 ce x) (wpAny_bind (wpAny_holding (thnF hx fun itv s5 h5 => ?_)))))))
  obtain ⟨it1, fp1, tn1, J1, H5, rfl, I5, T1, st1, f5, W1, ⟨m1, w1⟩, cw1⟩ := h5
  have kept : SlotsKept (wipe σ0 vs) (wipe σ2 vs1) := by
    refine ⟨kp.1.trans (wipe_length _ _).symm, fun j v q => ?_⟩
    rw [wipe_out fun z => (wipe_some q).2 (hv j z)]
    exact kp.2 j v q
  have run : codeAny (model X.prog X.w) X.A (.compLoop (.SetComp elt [⟨t0, i0, f0, 0⟩, ⟨tg1, iter1, ifs1, 0⟩] scope pos) 1 (.ref it1) (.ref D) ce) (fun r s' => match r with
      | .ok _ => ∃ σ4 H4, Inv (X.blk sB HB scope ce fpB) pp σ4 H4 s' ∧ SlotsKept (wipe σ0 vs) σ4 ∧ Nx H4
      | .error _ => False) s5 := by
    refine clause_loop (W := W1) (body := bodyAdd elt) (Tr := trAdd X.w te D) hc rfl rfl turn_in T1 hg1 ht1 (I5.weak (wipe_length _ _) fun j v q => (wipe_some q).1) st1 f5 w1 cw1 (fun pp' σ6 H6 s6 Nx6 I6 kp6 tr => body_add he rfl I6 kp6 tr) fun H' s' I' nx => ?_
    exact ⟨_, H', I', kept, nx⟩
  refine wpAny_bind (wpAny_runOwn ?_)
  rw [Around.mark_none]
  refine codeAny_mono (start_in run (T1.self X.A 0 s5 _ _ st1 run)) fun r s' hr => ?_
  cases r with
  | ok f => exact wpAny_pure hr
  | error x => exact hr.elim
/-- {elt for tg in iter if .. for tg1 in iter1 if ..} -/
def tSc2 (w : World) (wi : TI) (g : TG) (tt : TT) (wi1 : TI) (g1 : TG) (tt1 : TT) (te : TE) (vs vs1 : List Nat) : TE := fun σ H Q => wi σ H fun J H1 => ∀ D, H1 D = none → ∃ W : Nat → Nat → Hp → Prop, (∃ m, W 0 m (upd H1 D (SetO w D noInts 0))) ∧ ClauseW J W (wipe σ vs) g tt (trIn w wi1 g1 tt1 te vs1 D) (fun H2 => Q (.ref D) H2)
theorem pe_sc2 {elt tg iter tg1 iter1 : Expr} {ifs ifs1 : List Expr} {scope : Scope} {own : List (PySem.Str × Nat)} {vs1 : List Nat} {pos : Pos} {wi wi1 : TI} {g g1 : TG} {tt tt1 : TT} {te : TE} (hc : X.calm = true) (hN : X.N.Nodup) (hi : PI X tg iter wi) (ok : BlkOk X.N X.env.scope scope own) (hv : ∀ i ∈ vs1, i ∈ own.map (·.2))
    (hg : ∀ (s : Shared) (H : Hp) (C : Addr) (cl : List (PySem.Str × Addr)) (fp : List Addr), PG (X.blk s H scope (compEnvC scope cl C X.env) fp) tg g) (ht : ∀ (s : Shared) (H : Hp) (C : Addr) (cl : List (PySem.Str × Addr)) (fp : List Addr), PTs (X.blk s H scope (compEnvC scope cl C X.env) fp) ifs tt)
    (hi1 : ∀ (s : Shared) (H : Hp) (C : Addr) (cl : List (PySem.Str × Addr)) (fp : List Addr), PI (X.blk s H scope (compEnvC scope cl C X.env) fp) tg1 iter1 wi1)
    (hg1 : ∀ (s : Shared) (H : Hp) (C : Addr) (cl : List (PySem.Str × Addr)) (fp : List Addr), PG (X.blk s H scope (compEnvC scope cl C X.env) fp) tg1 g1) (ht1 : ∀ (s : Shared) (H : Hp) (C : Addr) (cl : List (PySem.Str × Addr)) (fp : List Addr), PTs (X.blk s H scope (compEnvC scope cl C X.env) fp) ifs1 tt1)
    (he : ∀ (s : Shared) (H : Hp) (C : Addr) (cl : List (PySem.Str × Addr)) (fp : List Addr), PE (X.blk s H scope (compEnvC scope cl C X.env) fp) elt te) (hs : ∀ x, foldedSetIterable iter X.env x = pure x := by intro _; rfl) (hs1 : ∀ env x, foldedSetIterable iter1 env x = pure x := by intro _ _; rfl) :
    PE X (.SetComp elt [⟨tg, iter, ifs, 0⟩, ⟨tg1, iter1, ifs1, 0⟩] scope pos) (tSc2 X.w wi g tt wi1 g1 tt1 te (own.map (·.2)) vs1) := by
  refine ⟨fun pins s σ H Q I h => ?_⟩
  rw [PpSet.eval_SetComp]
  exact comp_frame (init := fun D => SetO X.w D noInts 0) (body := bodyIn (.SetComp elt [⟨tg, iter, ifs, 0⟩, ⟨tg1, iter1, ifs1, 0⟩] scope pos) iter1) (Tr := trIn X.w wi1 g1 tt1 te vs1) rfl new_set (fun it D ce R s h0 h1 => PpSet.codeAny_compStart_set h0 (h1 _)) (fun _ _ _ => rfl) (fun _ _ _ => rfl) (fun _ _ _ => turn_out) hc hN I hi ok hs hg ht
    (fun s0 H0 C cl fp D pp σ2 H3 s3 Nx I3 kp tr => body_in hc hv (hi1 s0 H0 C cl fp) (hg1 s0 H0 C cl fp) (ht1 s0 H0 C cl fp) (he s0 H0 C cl fp) hs1 I3 kp tr) h fun D H' s' I' q => ⟨.ref D, H', I', rfl, q⟩
end
/-! walks of set comprehensions -/
theorem clause_it {J : It} {n : Nat} {G : Hp → Prop} {Y : Nat → Hp → V → Hp → Prop} (w : Walk J n G Y) {σ : L2.St} {g : TG} {tt : TT} {Tr : (Hp → Prop) → L2.St → Hp → Prop} {Qd : Hp → Prop} {H0 : Hp} (Pv : Nat → Hp → Prop) (h0 : Pv 0 H0) (hG : ∀ i H, i ≤ n → Pv i H → G H)
    (hs : ∀ i x H H', i < n → Pv i H → Y i H x H' → g x σ H' fun σ2 H2 => SlotsKept σ σ2 ∧ tt σ2 H2 fun b H3 => if b = true then Tr (Pv (i + 1)) σ2 H3 else Pv (i + 1) H3) (hd : ∀ H, Pv n H → Qd H) :
    ∃ W : Nat → Nat → Hp → Prop, (∃ m, W 0 m H0) ∧ ClauseW J W σ g tt Tr Qd := by
  refine ⟨fun i m H => m = n - i ∧ i ≤ n ∧ Pv i H, ⟨n, by simp, Nat.zero_le _, h0⟩, ?_⟩
  rintro i m H ⟨rfl, hi, p⟩
  have q := hG i H hi p
  by_cases lt : i < n
  · refine .inr ⟨w.goes i H lt q, Pv (i + 1), fun H' p' => ⟨n - (i + 1), by omega, rfl, lt, p'⟩, fun x H' y => hs i x H H' lt p (w.yields i H x H' lt q y)⟩
  · have e : i = n := by omega
    subst e
    exact .inl ⟨w.stops H q, hd H p⟩
/-! sets of ints as lists -/
def insU (x : Int) : List Int → List Int
  | [] => [x]
  | y :: l => if x < y then x :: y :: l else if x = y then y :: l else y :: insU x l
/-- the members, from low to high, each once -/
def sortU (l : List Int) : List Int := l.foldl (fun acc x => insU x acc) []
theorem insU_mem (x a : Int) : ∀ l : List Int, a ∈ insU x l ↔ a = x ∨ a ∈ l
  | [] => by simp [insU]
  | y :: l => by
    unfold insU
    by_cases h : x < y
    · rw [if_pos h, List.mem_cons]
    · rw [if_neg h]
      by_cases e : x = y
      · subst e
        rw [if_pos rfl]
        simp
      · rw [if_neg e, List.mem_cons, insU_mem x a l, List.mem_cons]
        exact ⟨fun z => z.elim (fun q => .inr (.inl q)) fun q => q.elim .inl fun q => .inr (.inr q), fun z => z.elim (fun q => .inr (.inl q)) fun q => q.elim .inl fun q => .inr (.inr q)⟩
theorem insU_asc (x : Int) : ∀ l : List Int, l.Pairwise (· < ·) → (insU x l).Pairwise (· < ·)
  | [], _ => List.pairwise_singleton _ _
  | y :: l, h => by
    obtain ⟨h1, h2⟩ := List.pairwise_cons.mp h
    unfold insU
    by_cases c : x < y
    · rw [if_pos c]
      refine List.pairwise_cons.mpr ⟨fun a ha => ?_, h⟩
      rcases List.mem_cons.mp ha with e | e
      · rw [e]; exact c
      · exact Int.lt_trans c (h1 a e)
    · rw [if_neg c]
      by_cases e : x = y
      · rw [if_pos e]; exact h
      · rw [if_neg e]
        refine List.pairwise_cons.mpr ⟨fun a ha => ?_, insU_asc x l h2⟩
        rcases (insU_mem x a l).mp ha with q | q
        · rw [q]; omega
        · exact h1 a q
theorem insU_len (x : Int) : ∀ l : List Int, l.Pairwise (· < ·) → (insU x l).length = if x ∈ l then l.length else l.length + 1
  | [], _ => by simp [insU]
  | y :: l, h => by
    obtain ⟨h1, h2⟩ := List.pairwise_cons.mp h
    unfold insU
    by_cases c : x < y
    · have n : x ∉ y :: l := fun z => by
        rcases List.mem_cons.mp z with e | e
        · omega
        · have := h1 x e; omega
      rw [if_pos c, if_neg n]
      rfl
    · rw [if_neg c]
      by_cases e : x = y
      · rw [if_pos e, if_pos (by rw [e]; exact List.mem_cons_self ..)]
      · rw [if_neg e, List.length_cons, insU_len x l h2]
        by_cases m : x ∈ l
        · rw [if_pos m, if_pos (List.mem_cons_of_mem _ m)]; rfl
        · rw [if_neg m, if_neg (fun z => (List.mem_cons.mp z).elim e m)]; rfl
theorem sortU_snoc (l : List Int) (x : Int) : sortU (l ++ [x]) = insU x (sortU l) := by
  unfold sortU
  rw [List.foldl_append]
  rfl
theorem fold_mem (a : Int) : ∀ (l acc : List Int), a ∈ l.foldl (fun acc x => insU x acc) acc ↔ a ∈ l ∨ a ∈ acc
  | [], acc => by simp
  | x :: l, acc => by
    rw [List.foldl_cons, fold_mem a l, insU_mem, List.mem_cons]
    exact ⟨fun z => z.elim (fun q => .inl (.inr q)) fun q => q.elim (fun q => .inl (.inl q)) .inr, fun z => z.elim (fun q => q.elim (fun q => .inr (.inl q)) .inl) fun q => .inr (.inr q)⟩
theorem sortU_mem (a : Int) (l : List Int) : a ∈ sortU l ↔ a ∈ l := by
  unfold sortU
  rw [fold_mem]
  simp
theorem fold_asc : ∀ (l acc : List Int), acc.Pairwise (· < ·) → (l.foldl (fun acc x => insU x acc) acc).Pairwise (· < ·)
  | [], _, h => h
  | x :: l, acc, h => fold_asc l _ (insU_asc x acc h)
theorem sortU_asc (l : List Int) : (sortU l).Pairwise (· < ·) := fold_asc l [] .nil
/-- two rising lists with the same members are one -/
theorem asc_eq : ∀ {l m : List Int}, l.Pairwise (· < ·) → m.Pairwise (· < ·) → (∀ a, a ∈ l ↔ a ∈ m) → l = m
  | [], [], _, _, _ => rfl
  | [], y :: m, _, _, h => nomatch (h y).mpr (List.mem_cons_self ..)
  | x :: l, [], _, _, h => nomatch (h x).mp (List.mem_cons_self ..)
  | x :: l, y :: m, h1, h2, h => by
    obtain ⟨a1, a2⟩ := List.pairwise_cons.mp h1
    obtain ⟨b1, b2⟩ := List.pairwise_cons.mp h2
    have e : x = y := by
      rcases List.mem_cons.mp ((h x).mp (List.mem_cons_self ..)) with q | q
      · exact q
      · rcases List.mem_cons.mp ((h y).mpr (List.mem_cons_self ..)) with q2 | q2
        · exact q2.symm
        · have := b1 x q
          have := a1 y q2
          omega
    subst e
    rw [asc_eq a2 b2 fun a => ⟨fun q => ?_, fun q => ?_⟩]
    · rcases List.mem_cons.mp ((h a).mp (List.mem_cons_of_mem _ q)) with z | z
      · have := a1 a q; omega
      · exact z
    · rcases List.mem_cons.mp ((h a).mpr (List.mem_cons_of_mem _ q)) with z | z
      · have := b1 a q; omega
      · exact z
theorem asc_len : ∀ {l : List Int} {lo hi : Int}, l.Pairwise (· < ·) → (∀ a ∈ l, lo ≤ a ∧ a ≤ hi) → (l.length : Int) ≤ max 0 (hi - lo + 1)
  | [], lo, hi, _, _ => by simp; omega
  | x :: l, lo, hi, h, b => by
    obtain ⟨h1, h2⟩ := List.pairwise_cons.mp h
    obtain ⟨b1, b2⟩ := b x (List.mem_cons_self ..)
    have ih := asc_len (l := l) (lo := x + 1) (hi := hi) h2 fun a ha => ⟨by have := h1 a ha; omega, (b a (List.mem_cons_of_mem _ ha)).2⟩
    rw [List.length_cons]
    omega
theorem sortU_len {l : List Int} {t : Int} (ht : 0 ≤ t) (b : ∀ a ∈ l, 0 ≤ a ∧ a ≤ t) : ((sortU l).length : Int) ≤ t + 1 := by
  have := asc_len (sortU_asc l) (lo := 0) (hi := t) fun a ha => b a ((sortU_mem a l).mp ha)
  omega
/-- the set at D of the ints in l -/
def setO (w : World) (D : Addr) (l : List Int) : HO := SetO w D (fun j => decide (j ∈ l)) (sortU l).length
theorem setO_nil {w : World} {D : Addr} : setO w D [] = SetO w D noInts 0 := by
  unfold setO
  congr 1
theorem setO_snoc {w : World} {D : Addr} {l : List Int} {c : Int} : SetO w D (fun j => decide (j ∈ l) || decide (j = c)) (if decide (c ∈ l) = true then (sortU l).length else (sortU l).length + 1) = setO w D (l ++ [c]) := by
  unfold setO
  congr 1
  · funext j
    rw [← Bool.decide_or]
    exact decide_eq_decide.mpr ⟨fun z => z.elim (fun q => List.mem_append_left _ q) fun q => List.mem_append_right _ (List.mem_singleton.mpr q), fun z => (List.mem_append.mp z).elim .inl fun q => .inr (List.mem_singleton.mp q)⟩
  · rw [sortU_snoc, insU_len _ _ (sortU_asc l)]
    by_cases h : c ∈ l
    · rw [if_pos (decide_eq_true h), if_pos ((sortU_mem c l).mpr h)]
    · rw [if_neg (by simpa using h), if_neg (fun z => h ((sortU_mem c l).mp z))]
theorem kept_set {σ : L2.St} {j : Nat} {x : V} (h : σ[j]? = some none) : SlotsKept σ (σ.set j (some x)) := by
  refine ⟨(List.length_set ..).symm, fun i v q => ?_⟩
  by_cases e : j = i
  · subst e
    rw [h] at q
    cases q
  · rw [List.getElem?_set_ne e]
    exact q
theorem pi_listK {X : Cx} {K : PySem.W.Frag} {tg e : Expr} {te : TE} (h : X.K = K) (he : PE X e te) : PI X tg e (iList K te) := by subst h; exact pi_list he
theorem pi_tupK {X : Cx} {K : PySem.W.Frag} {tg e : Expr} {te : TE} (h : X.K = K) (he : PE X e te) : PI X tg e (iTup K te) := by subst h; exact pi_tup he
end My

namespace My
open PySem PySem.Spec PyProof.Rows L2
/-! super().__init__(e, ..) as a def's first statement -/
/-- what is asked of the program: no name `super` of its own at the top -/
class SupP (P : Program) : Prop where
  top : (P.main.scope.names.lookup ("super" : Str)).isSome = false
/-- a def's names: no cells of its own, __class__ alone from without -/
structure SupScope (N ps : List Str) (sc : Scope) : Prop where
  kind : sc.kind = .function
  co : sc.isCoroutine = false
  gen : sc.isGenerator = false
  nd : N.Nodup
  pre : N.take ps.length = ps
  par : ∀ x ∈ ps, sc.names.lookup x = some .local
  nocell : ∀ y ∈ sc.names, y.2 ≠ .cell
  free : ∀ y ∈ sc.names, y.2 = .free → y.1 = "__class__"
  sup : sc.names.lookup ("super" : Str) = some .globalImplicit
  cls : sc.names.lookup ("__class__" : Str) = some .free
/-- what the written part says of the def: its cell __class__ (at cc) holds the class at D, its code names the main file -/
structure SupK (P : Program) (K : PySem.W.Frag) (cda cc D : Addr) : Prop where
  cell : ∃ (cl : Value) (cld : Option Addr) (csl : Array (Option Value)), K.lookup cc = some ⟨cl, cld, .cell (some (.ref D)), csl⟩
  code : ∃ (cl : Value) (cld : Option Addr) (vs : Array Value) (csl : Array (Option Value)) (file : Str) (tf : Tok), K.lookup cda = some ⟨cl, cld, .fields vs, csl⟩ ∧ vs[2]? = some (.str file tf) ∧ ((P.main.file : Str) == file) = true
  cls : ∃ cd, PySem.W.clsIn K D = some cd
  glo : PySem.W.nsIn K mainGlobals "super" = some none
  op : PySem.W.nsIn K cStatics "thirdparty.any" = some none
/-- the class at C below D: what super() finds -/
structure SupC (K : PySem.W.Frag) (C D f2 : Addr) : Prop where
  sub : PySem.W.mroIn K C (.ref D) = some true
  at_ : PySem.W.ks_superIn K C D "__init__" = some (some (.ref f2))
abbrev supEnv (qual : Str) (scope : Scope) (L f cda cc : Addr) : Env := PySem.W.ksEnv qual scope L f (.ref cda) cc
/-- the context of such a def's body -/
def cxSup (CX : CXT) (P : Program) (w : World) (K : PySem.W.Frag) (mg : Str → Option Value) (base : Heap) (N : List Str) (qual : Str) (scope : Scope) (f cda cc : Addr) (A : Around) (outer : List Env) (s : Shared) (H : Hp) (E : XK) : Cx where
  prog := P
  w := w
  K := K
  mg := mg
  base := base
  A := A.deeper (supEnv qual scope s.heap.objs.size f cda cc)
  N := N
  s_0 := s
  H_0 := H
  env := supEnv qual scope s.heap.objs.size f cda cc
  outer := outer
  stack := supEnv qual scope s.heap.objs.size f cda cc :: outer
  ex := []
  calm := true
  fn := fun _ => false
  pn := []
  xe := fun e s' => wpAny (model P w) (A.deeper (supEnv qual scope s.heap.objs.size f cda cc)) (leaving (supEnv qual scope s.heap.objs.size f cda cc) e) (fun _ s'' => CX outer H s E e s'') (fun e' s'' => CX outer H s E e' s'') s'
theorem zip_get {x : Str} : ∀ {ps : List Str} {us : List Value} {i : Nat} {u : Value}, ps.Nodup → ps[i]? = some x → us[i]? = some u → (ps.zip us).reverse.lookup x = some u := by
  intro ps us i u nd h1 h2
  have hm : (x, u) ∈ (ps.zip us).reverse := by
    rw [List.mem_reverse]
    refine List.mem_of_getElem? (i := i) ?_
    rw [List.getElem?_zip_eq_some]
    exact ⟨h1, h2⟩
  have one : ∀ v, (x, v) ∈ (ps.zip us).reverse → v = u := by
    intro v hv
    rw [List.mem_reverse] at hv
    obtain ⟨j, hj⟩ := List.getElem?_of_mem hv
    rw [List.getElem?_zip_eq_some] at hj
    have e : j = i := by
      obtain ⟨a1, a2⟩ := List.getElem?_eq_some_iff.mp hj.1
      obtain ⟨b1, b2⟩ := List.getElem?_eq_some_iff.mp h1
      exact (List.getElem_inj nd).mp (a2.trans b2.symm)
    subst e
    exact Option.some.inj (hj.2.symm.trans h2)
  generalize (ps.zip us).reverse = l at hm one
  induction l with
  | nil => cases hm
  | cons y l ih =>
    obtain ⟨a, b⟩ := y
    rw [List.lookup_cons]
    by_cases e : x = a
    · subst e
      rw [one b (List.mem_cons_self ..)]
      simp
    · have e2 : (x == a) = false := by simpa using e
      rw [e2]
      refine ih ?_ fun v hv => one v (List.mem_cons_of_mem _ hv)
      rcases List.mem_cons.mp hm with z | z
      · injection z with z1 z2
        exact absurd z1 e
      · exact z
section
variable {CX : CXT} {P : Program} {w : World} {K : PySem.W.Frag} {mg : Str → Option Value} {base : Heap} {N ps : List Str} {qual : Str} {scope : Scope} {f cda cc D : Addr} {A : Around} {outer : List Env} {s : Shared} {H : Hp} {E : XK} {us : List Value} {vs : List V}
theorem sup_start {h0 : Heap} {t' : Nat} (S : SupScope N ps scope) (hd : A.handled = none) (e0 : Env0 P w K mg base A outer s H) (hl : vs.length = ps.length) (r : Vals vs us) (F : SupK P K cda cc D) (hns : h0.Ns s.heap.objs.size (fun x => (ps.zip us).reverse.lookup x)) (hk : ∀ b o, s.heap.get? b = some o → h0.get? b = some o) :
    Inv (cxSup CX P w K mg base N qual scope f cda cc A outer s H E) [] (L2.start N vs) H { s with heap := h0, toks := t' } := by
  have hpl : ps.length ≤ N.length := by have := congrArg List.length S.pre; rw [List.length_take] at this; omega
  obtain ⟨cl, cld, csl, hc⟩ := F.cell
  have hcb := e0.mod.kin _ _ hc
  obtain ⟨hcs, hcn⟩ := e0.bs _ _ hcb
  have one : ∀ {x : Str} {c : Addr}, (cxSup CX P w K mg base N qual scope f cda cc A outer s H E).env.cells.lookup x = some c → x = "__class__" ∧ c = cc := by
    intro x c h
    have h : ([("__class__", cc)] : List (Str × Addr)).lookup x = some c := h
    rw [List.lookup_cons] at h
    by_cases e : x = "__class__"
    · subst e
      have z : (("__class__" : Str) == "__class__") = true := by simp
      rw [z] at h
      exact ⟨rfl, (Option.some.inj h).symm⟩
    · have z : (x == ("__class__" : Str)) = false := by simpa using e
      rw [z] at h
      cases h
  have noA : ∀ b : Addr, b ∉ (cxSup CX P w K mg base N qual scope f cda cc A outer s H E).ex := fun b z => absurd (show b ∈ ([] : List Addr) from z) (by simp)
  refine ⟨⟨e0.mod, S.kind, rfl, rfl, Nat.le_refl _, fun y z c h1 h2 => (one h1).1.trans (one h2).1.symm, fun y hy => ?_, fun y c z => (nomatch z), fun _ => hd, Around.frames_deeper e0.frames, .inr ⟨rfl, rfl⟩, fun b z => absurd z (noA b), e0.bs, e0.bsz, fun b _ _ => noA b, fun b z => absurd z (noA b), e0.funs, e0.frf⟩,
    rfl, e0.bare, Un.kept hk, ⟨_, hns, fun i y v h1 h2 h3 => ?_⟩, fun y c h => ?_, e0.hok.fresh (Nat.le_refl _), fun y c h => ?_, fun p hp => absurd (show p ∈ ([] : List (Addr × Obj)) from hp) (by simp), e0.hok.kept hk, ?_⟩
  · have hy : scope.names.lookup y = some .cell ∨ scope.names.lookup y = some .free := hy
    rcases hy with hy | hy
    · exact absurd rfl (S.nocell _ (PySem.mem_of_lookup hy))
    · have e := S.free _ (PySem.mem_of_lookup hy) rfl
      have e : y = "__class__" := e
      subst e
      exact ⟨cc, by show ([(("__class__" : Str), cc)] : List (Str × Addr)).lookup ("__class__" : Str) = some cc; simp [List.lookup]⟩
  · have hi : i < vs.length := by
      unfold L2.start at h2
      by_cases hi : i < vs.length
      · exact hi
      · rw [List.getElem?_append_right (by simpa using hi), List.getElem?_replicate] at h2
        split at h2 <;> cases h2
    have ha : vs[i]? = some v := by
      unfold L2.start at h2
      rw [List.getElem?_append_left (by simpa using hi), List.getElem?_map] at h2
      cases e : vs[i]? with
      | none => rw [e] at h2; cases h2
      | some a => rw [e] at h2; cases h2; rfl
    obtain ⟨u, hu, rv⟩ := r.get ha
    have hp : ps[i]? = some y := by
      rw [← S.pre, List.getElem?_take_of_lt (by omega)]
      exact h1
    have ndP : ps.Nodup := by rw [← S.pre]; exact S.nd.sublist (List.take_sublist _ _)
    exact ⟨u, rv, .inl ⟨S.par y (List.mem_of_getElem? hp), zip_get ndP hp hu⟩⟩
  · obtain ⟨rfl, rfl⟩ := one h
    exact ⟨_, ⟨_, hk _ _ hcs, rfl⟩⟩
  · obtain ⟨rfl, rfl⟩ := one h
    exact hcn
  · unfold L2.start
    show _ = N.length
    rw [List.length_append, List.length_map, List.length_replicate]
    omega
end
section
variable {CX : CXT} {P : Program} {w : World} {K : PySem.W.Frag} {mg : Str → Option Value} {base : Heap}
/-- a def whose body is super().__init__(e, ..) and rest -/
theorem fn_sup [SP0 : SupP P] {CX2 : CXT} {k : Nat} {f cda cc D f2 : Addr} {fd2 : FuncData} {name qual : Str} {params : Arguments} {e : Expr} {es : List Expr} {rest : List Stmt} {p0 p1 p2 p3 p4 : Pos} {scope : Scope} {dV kV doc pm ct oc : Value} {an od : Option Addr} {osl : Array (Option Value)} {N ps ps2 : List Str} {ar : Arg} {sp sp2 : Sp} {ds2 : List Value} {dvs2 : List V} {E2 : XK}
    (lk : K.lookup f = some ⟨oc, od, .func (PySem.W.ksFn name qual params (.Expr (.Call (.Attribute (.Call (.Name "super" p0) [] [] p1) "__init__" p2) (e :: es) [] p3) p4 :: rest) scope dV kV doc pm an (.ref cda) ct cc), osl⟩)
    (hcd : PySem.W.codeIn K (.ref cda) qual = true) (S : SupScope N ps scope) (len : ∀ vs H Q E, sp vs H Q E → vs.length = ps.length) (F : SupK P K cda cc D) (hp : (params.posonlyargs ++ params.args).head? = some ar) (h0 : ps[0]? = some ar.arg)
    (F2 : FnOk P w K mg base CX2 k f2 fd2 ps2 sp2) (fi : PySem.W.fnIn K f2 = true) (ty : PySem.W.typeIn K (.ref f2) = some (.type "function")) (hb2 : Binds K fd2 ps2 ds2) (hd2 : Vals dvs2 ds2)
    (hx : ∀ A outer s H E, Passes CX2 (cxSup CX P w K mg base N qual scope f cda cc A outer s H E) E2)
    (hbody : ∀ (A : Around) (outer : List Env) (s : Shared) (H : Hp) (vs : List V) (Q : VK) (E : XK), Room k (A.deeper (supEnv qual scope s.heap.objs.size f cda cc)) → sp vs H Q E →
      ∃ ta t, PA (cxSup CX P w K mg base N qual scope f cda cc A outer s H E) (e :: es) ta ∧ PSs (cxSup CX P w K mg base N qual scope f cda cc A outer s H E) rest t ∧ ∃ (x C dx : Addr) (fs : List (Str × V)), vs[0]? = some (.ref x) ∧ H x = some (.ins C dx fs) ∧ SupC K C D f2 ∧
        ∀ q, H q = none → ta (L2.start N vs) (upd H q (.met f2 x)) fun us H1 => H1 q = some (.met f2 x) ∧ sp2 (.ref x :: (us ++ dvs2)) H1 (fun _ H2 => t { nx := fun _ H' => Q .non H', rt := Q } (L2.start N vs) H2) E2)
    (hev : ∀ L : Addr, ∃ pl : Sem Bool, eval (.Call (.Attribute (.Call (.Name "super" p0) [] [] p1) "__init__" p2) (e :: es) [] p3) (supEnv qual scope L f cda cc) = (do
      let ov ← attributeBase (.Call (.Name "super" p0) [] [] p1) "__init__" (supEnv qual scope L f cda cc) (eval (.Call (.Name "super" p0) [] [] p1) (supEnv qual scope L f cda cc))
      standAt p2.atName
      let (g, first) ← holding [ov] (getMethod ov "__init__" pl)
      callWith p3 g first (backTo p3 (starEach (e :: es) (supEnv qual scope L f cda cc))) []))
    (hpl : ∀ L : Addr, (backTo p3 (starEach (e :: es) (supEnv qual scope L f cda cc))).any (·.1) = false) :
    FnOk P w K mg base CX (k + 1) f (PySem.W.ksFn name qual params (.Expr (.Call (.Attribute (.Call (.Name "super" p0) [] [] p1) "__init__" p2) (e :: es) [] p3) p4 :: rest) scope dV kV doc pm an (.ref cda) ct cc) ps sp := by
  refine ⟨len, fun A outer s H args us vs Q E hr e0 hb r hsp => ?_⟩
  have hl := len _ _ _ _ hsp
  have KX : K.In s.heap := e0.mod.kin.keeps fun b o e => (e0.bs b o e).1
  have lim : s.heap.NoLimit := e0.mod.nolimit.keeps fun b o e => (e0.bs b o e).1
  refine PySem.ks_codeAny_call_defAt hr.depth (KX _ _ lk) rfl lim (PySem.W.codeRec_of KX hcd) rfl hb S.nocell (fun ⟨n, v⟩ hy => S.par n (List.of_mem_zip hy).1) (fun h₀ hns hk => ?_) S.co S.gen S.kind
  have I0 : Inv (cxSup CX P w K mg base N qual scope f cda cc A outer s H E) [] (L2.start N vs) H { s with heap := h₀, toks := s.toks + (ps.zip us).length } := sup_start S hr.hd e0 hl r F hns hk
  obtain ⟨ta, t, hta, ht, x, C, dx, fs, hvx, hx0, sc, go⟩ := hbody A outer s H vs Q E (hr.deeper _) hsp
  show _root_.PySem.wpAt _ _ (.func _ (supEnv qual scope s.heap.objs.size f cda cc)) (execs _ (supEnv qual scope s.heap.objs.size f cda cc)) _ _ _
  have hux : us[0]? = some (.ref x) := by
    obtain ⟨u, hu, ru⟩ := r.get hvx
    rw [hu]
    exact congrArg some ru
  have ndP : ps.Nodup := by rw [← S.pre]; exact S.nd.sublist (List.take_sublist _ _)
  have hself : (fun y : Str => (ps.zip us).reverse.lookup y) ar.arg = some (.ref x) := zip_get ndP h0 hux
  obtain ⟨pl, hev⟩ := hev s.heap.objs.size
  refine PySem.ks_wpAt_execs_cons (PySem.ks_wpAt_Expr_any (hi := by unfold interactive; simp [S.kind]) (PySem.ks_wpAt_MethodCall (pl := pl) (he := hev) ?_))
  have hD := F.cls
  obtain ⟨cdD, hD⟩ := hD
  obtain ⟨cl, cld, csl, hcc⟩ := F.cell
  obtain ⟨ocl, ocd, vs0, ocs, file, tf, hco, hvs, hfile⟩ := F.code
  have KX0 : K.In h₀ := KX.keeps hk
  obtain ⟨oD, hD1, hD2⟩ : ∃ oD, h₀.get? D = some oD ∧ oD.data = .cls cdD := by
    unfold PySem.W.clsIn at hD
    split at hD
    · rename_i c d cd' sl ho
      cases hD
      exact ⟨_, KX0 _ _ ho, rfl⟩
    · cases hD
  obtain ⟨mb, hb0, hb1⟩ := e0.mod.blt
  have up : ∀ b o, base.get? b = some o → h₀.get? b = some o := fun b o q => hk _ _ (e0.bs b o q).1
  refine PySem.ks_wpAt_super_base (env := supEnv qual scope s.heap.objs.size f cda cc) S.sup S.cls rfl rfl (KX0 _ _ lk) rfl hp rfl (KX0 _ _ hco) rfl hvs hfile SP0.top ?_
  refine PySem.W.ks_loadName_global S.kind S.sup (PySem.Calls.loadGlobal_builtin (env := supEnv qual scope s.heap.objs.size f cda cc) (e0.mod.glob.keeps up) (PySem.W.mg_none_of e0.mod.kin e0.mod.glob F.glo) (hb0.keeps up) ((hb1 _ (by decide +kernel)).trans (by decide +kernel : bootBuiltins "super" = some (.type "super"))) ⟨rfl, ?_⟩)
  refine wpAny_loadName_free S.kind S.cls rfl ⟨_, KX0 _ _ hcc, rfl⟩ ?_
  refine wpAny_loadName_local S.kind (S.par _ (List.mem_of_getElem? h0)) hns hself ?_
  refine PySem.ks_wpAny_isType_cls hD1 hD2 ⟨rfl, ?_⟩
  obtain ⟨mA, hM, _⟩ := ins_get I0.hok hx0
  obtain ⟨od1, IA, _⟩ := hM.look
  refine PySem.ks_wpAny_call_super hD1 hD2 IA.at_ IA.cls (fun c q => ?_) (PySem.W.looks_mroIn KX0 sc.sub) (fun h1 so1 up1 => ?_)
  · have no := IA.no
    unfold PySem.W.notCls at no
    rw [q] at no
    exact Bool.noConfusion no
  have KX1 : K.In h1 := KX0.keeps up1
  have IA1 : PySem.W.InstAt h1 x (PySem.W.instObj C dx) C (some od1) := by
    obtain ⟨a1, a2, a3, a4⟩ := IA
    refine ⟨up1 _ _ a1, a2, a3, ?_⟩
    exact up1 _ _ a4
  obtain ⟨cdC, hC⟩ : ∃ cd, PySem.W.clsIn K C = some cd := by
    have q := sc.at_
    unfold PySem.W.ks_superIn at q
    cases z : PySem.W.clsIn K C with
    | none => rw [z] at q; cases q
    | some cd => exact ⟨cd, rfl⟩
  have hal : PySem.W.alongIn K "__init__" ((cdC.mro.dropWhile (· != .ref D)).drop 1) = some (some (.ref f2)) := by
    have q := sc.at_
    unfold PySem.W.ks_superIn at q
    rw [hC] at q
    exact q
  obtain ⟨of, hof, hofc⟩ : ∃ of, h1.get? f2 = some of ∧ of.cls = .type "function" := by
    have ty' : (K.lookup f2).map (·.cls) = some (.type "function") := ty
    cases z : K.lookup f2 with
    | none => rw [z] at ty'; cases ty'
    | some of => rw [z] at ty'; exact ⟨of, KX1 _ _ z, Option.some.inj ty'⟩
  refine PySem.ks_wpAny_getMethod_super so1 (PySem.W.looks_opaque KX1 F.op) (l₀ := cdC.mro) (fun A Q E s k q => wpAny_bind ((PySem.W.looks_clsIn KX1 hC) A _ E s k (wpAny_pure q))) rfl KX1 hal hof hofc (PySem.W.ks_ne KX1 IA1 hC) rfl ?_
  -- the bound method as a thing of its own
  have grown : h₀.objs.size ≤ h1.objs.size := Nat.le_of_lt (Heap.lt_size so1)
  have new := I0.hok.fresh grown
  have I2 := I0.laid (a := h1.objs.size) (o := .met f2 x) (h' := h1.push (PySem.W.methodObj (.ref f2) (.ref x))) (t' := s.toks + (ps.zip us).length + 1) (fun b u q => Heap.get?_push_of_some _ (up1 _ _ q)) grown (Heap.get?_push_size _ rfl)
  refine callwith_met (X := cxSup CX P w K mg base N qual scope f cda cc A outer s H E) (g := f2) (a := x) (by rw [hpl]; rfl) fi (L2.FK.evalArgs_any (hpl _) (thn (hta.run p3 [] _ _ _ _ I2 (go _ new)) fun us3 s3 h3 => ?_))
  obtain ⟨vs3, H3, I3, r3, hm3, sp3⟩ := h3
  refine ⟨met_P I3 hm3, ?_⟩
  have r2 : Vals ((.ref x :: vs3) ++ dvs2) ((.ref x :: us3) ++ ds2) := Vals.append (Paired.cons (show RelV (V.ref x) (Value.ref x) from rfl) r3) hd2
  have hl2 : ((.ref x :: us3) ++ ds2).length = ps2.length := by rw [← r2.length]; exact F2.len _ _ _ _ sp3
  refine wpAny_call (call_met I3 hm3 (codeAny_mono (F2.run _ _ s3 H3 ⟨.ref x :: us3, []⟩ ((.ref x :: us3) ++ ds2) ((.ref x :: vs3) ++ dvs2) _ E2 (hr.deeper _) I3.env0 (hb2 s3 _ I3.kIn hl2) r2 sp3) fun r s4 hq => ?_))
  cases r with
  | error ev => exact hx A outer s H E [] _ H3 s3 ev s4 I3 hq
  | ok fl =>
    cases fl with
    | next => exact False.elim hq
    | brk => exact False.elim hq
    | cont => exact False.elim hq
    | ret u =>
      obtain ⟨v4, H4, I4, r4, q4⟩ := I3.after hq
      refine wpAt_of_wpAny (wpAny_mono (ht.run [] s4 _ H4 _ I4 q4) (fun fl s' hs => ?_) fun ev s' hs => hs)
      have fin : ∀ {σ' : L2.St} {H' : Hp} {v : V} {u : Value}, Inv (cxSup CX P w K mg base N qual scope f cda cc A outer s H E) [] σ' H' s' → RelV v u → Q v H' → CE outer P w H s Q u s' :=
        fun {σ' H' v u} J rv q => ⟨v, H', J.os, J.bare, J.base, J.hok, rv, q⟩
      cases fl with
      | ret u =>
        obtain ⟨v, σ', H', J, rv, q⟩ := hs
        exact fin J rv q
      | next =>
        obtain ⟨σ', H', J, q⟩ := hs
        exact fin (v := V.non) (u := Value.none) J rfl q
      | brk =>
        obtain ⟨_, _, _, q⟩ := hs
        exact False.elim q
      | cont =>
        obtain ⟨_, _, _, q⟩ := hs
        exact False.elim q
end
end My

namespace My
open PySem PySem.Spec PyProof.Rows L2 SrtR
/-! min(texts, default=d) -/
def strLt (a b : Str) : Bool := decide (a.cps.toList < b.cps.toList)
/-- the first of the least texts -/
def minS (x : Str) (xs : List Str) : Str := xs.foldl (fun a y => if strLt y a then y else a) x
theorem minS_mem : ∀ (xs : List Str) (x : Str), minS x xs = x ∨ minS x xs ∈ xs
  | [], _ => .inl rfl
  | y :: xs, x => by
    show minS (if strLt y x then y else x) xs = x ∨ minS (if strLt y x then y else x) xs ∈ y :: xs
    rcases minS_mem xs (if strLt y x then y else x) with e | e
    · rw [e]
      by_cases h : strLt y x = true
      · rw [if_pos h]; exact .inr (List.mem_cons_self ..)
      · rw [if_neg h]; exact .inl rfl
    · exact .inr (List.mem_cons_of_mem _ e)
theorem minD_texts : ∀ (xs : List Str) (x : Str), PySem.W.minD (.str x) (xs.map .str) = .str (minS x xs)
  | [], _ => rfl
  | y :: xs, x => by
    show PySem.W.minD (if PySem.W.dataLt (.str y) (.str x) = true then PyData.str y else PyData.str x) (xs.map .str) = .str (minS (if strLt y x then y else x) xs)
    have e : (if PySem.W.dataLt (.str y) (.str x) = true then PyData.str y else PyData.str x) = .str (if strLt y x then y else x) := by
      rw [PySem.W.dataLt_str]
      show (if strLt y x = true then _ else _) = _
      by_cases h : strLt y x = true
      · rw [if_pos h, if_pos h]
      · rw [if_neg h, if_neg h]
    rw [e]
    exact minD_texts xs _
theorem reads_texts {h : Heap} : ∀ {ws : List Str} {us : List Value}, Vals (ws.map V.str) us → ReadsAll h us (ws.map PyData.str) []
  | [], _, .nil => .nil
  | w :: ws, _, .cons r t => by
    obtain ⟨tk, rfl⟩ := r
    exact ReadsAll.cons (as := []) (bs := []) (.str w tk) (reads_texts t)
theorem depth_texts : ∀ ws : List Str, PyData.depthAll (ws.map PyData.str) = 0
  | [] => by simp [PyData.depthAll]
  | w :: ws => by simp [PyData.depthAll, PyData.depth, depth_texts ws]
theorem alike_texts (ws : List Str) : PySem.W.AlikeAll (ws.map PyData.str) := by
  refine ⟨fun x hx y hy => ?_, fun x hx => ?_⟩
  · obtain ⟨a, _, rfl⟩ := List.mem_map.mp hx
    obtain ⟨b, _, rfl⟩ := List.mem_map.mp hy
    simp [PySem.W.alike]
  · obtain ⟨a, _, rfl⟩ := List.mem_map.mp hx
    exact fun z => nomatch z
def rMinT (K : PySem.W.Frag) : List V → List V → Hp → VK → Prop := fun vs zs H Q => ∃ (a : Addr) (ws : List Str) (d : V), vs = [.ref a] ∧ zs = [d] ∧ SqL K H a (ws.map V.str) ∧ (ws = [] → Q d H) ∧ ∀ y ys, ws = y :: ys → Q (.str (minS y ys)) H
theorem cr_minT {X : Cx} (hc : X.calm = true) (hr : X.A.units + 1 < cLine) : CallRK X (.builtin "min") ["default"] (rMinT X.K) := by
  intro pins s σ H xs zs us us2 Q I r r2 h
  obtain ⟨a, ws, d, rfl, rfl, hs, h0, h1⟩ := h
  obtain ⟨its, rv, hl, _⟩ := I.list hs
  rw [Vals.ref1 r]
  obtain ⟨du, rfl, rd⟩ := vals1 r2
  show wpAny _ _ (call (.builtin "min") [.ref a] [(Str.ofString "default", du)]) _ _ _
  refine PySem.W.min_list_default (xs := ws.map PyData.str) (I.ok.hd hc) hl.isList (reads_texts (by simpa using rv)) (alike_texts ws) (by rw [depth_texts]; exact hr) (fun e h' tk hk => ?_) fun y ys i v h' tk bs e hv hr hk => ?_
  · have e : ws = [] := List.map_eq_nil_iff.mp e
    exact ⟨d, H, I.kept hk, rd, h0 e⟩
  · cases ws with
    | nil => cases e
    | cons w ws =>
      injection e with e1 e2
      subst e1
      subst e2
      rw [minD_texts] at hr
      cases hr with
      | str z t => exact ⟨.str _, H, I.kept hk, ⟨_, rfl⟩, h1 _ _ rfl⟩
end My

namespace My
open PySem PySem.Spec PyProof.Rows L2
/-! {k: v}, k a tuple -/
def tDisp1T (tk tv : TE) : TE := fun σ H Q => ∀ p, H p = none → tk σ (upd H p (.dT [])) fun x H1 => tv σ H1 fun y H2 => H2 p = some (.dT []) ∧ ∃ (b : Addr) (ks : List Key), x = .ref b ∧ H2 b = some (.tup (ks.map kV)) ∧ Q (.ref p) (upd H2 p (.dT [(ks, y)]))
def onePair (Q : V → V → Hp → Prop) : List (V × V) → Hp → Prop
  | [(x, y)], H => Q x y H
  | _, _ => False
theorem pe_disp1T {X : Cx} {k v : Expr} {pos : Pos} {tk tv : TE} (hu : X.A.units + 1 < cLine) (hk : PE X k tk) (hv : PE X v tv) : PE X (.Dict [some k] [v] pos) (tDisp1T tk tv) := by
  refine ⟨fun pins s σ H Q I q => ?_⟩
  have hn := I.hok.fresh (Nat.le_refl s.heap.objs.size)
  have I1 := I.laid (a := s.heap.objs.size) (o := .dT []) (h' := s.heap.push { cls := .type "dict", data := .dict #[] }) (t' := s.toks) (fun _ _ q => Heap.get?_push_of_some _ q) (Nat.le_refl _) (dt_empty s.heap I.big)
  have shape := zip_pairTrees [some k] [v] X.env pos rfl rfl
  have ln := pairTrees_length [some k] [v] X.env pos rfl rfl
  have h0 : pairTrees [some k] [v] X.env pos ≠ [] := fun e => by
    rw [e] at ln
    cases ln
  have h1 : (pairTrees [some k] [v] X.env pos).length ≤ 15 := by rw [ln]; exact (by decide : 1 ≤ 15)
  rw [arm_eval_Dict, shape, dictDisplay_pairs (pairTrees [some k] [v] X.env pos) h0 (by omega)]
  refine wpAny_bind (wpAny_standAt (wpAny_bind (wpAny_subDictH (knd := tupleKind (mixKind X.prog X.w)) (show X.A.units < cLine by omega) h1 ?_)))
  refine thn ((pps_cons hk hv pps_nil).run pins _ σ _ (onePair fun x y H2 => H2 s.heap.objs.size = some (.dT []) ∧ ∃ (b : Addr) (ks : List Key), x = .ref b ∧ H2 b = some (.tup (ks.map kV)) ∧ Q (.ref s.heap.objs.size) (upd H2 s.heap.objs.size (.dT [(ks, y)]))) I1 (q _ hn)) ?_
  rintro ws s2 ⟨ps, H2, I2, rel, hp⟩
  match ps, hp with
  | [(x, y)], hp =>
    obtain ⟨e, b, ks, rfl, eb, hq⟩ := hp
    cases rel with
    | cons r t =>
      cases t
      rename_i w0
      obtain ⟨u, r0⟩ := w0
      obtain ⟨ru, rv⟩ := r
      obtain rfl : u = Value.ref b := ru
      obtain ⟨z, hd, xs, rk, dd⟩ := dt_of I2.hok e
      cases rk
      refine ⟨[(ks, b, r0)], ⟨rfl, rfl, key_of I2.hok eb, True.intro⟩, dd, fun h' tk dd' hs => wpAny_pure ⟨.ref s.heap.objs.size, _, ?_, rfl, hq⟩⟩
      obtain ⟨q, es, ep, hq2, h2, h3, h4, h5, h6⟩ := dd'
      refine d_write I2 (by rw [e]; exact True.intro) hs ⟨q, hq2⟩ ⟨(by rw [sizeLine_eq]; exact (by decide : 1 ≤ 16777216)), hd, _, (KT.put (show KT H2 [] [] from Paired.nil) ks eb rv).keeps fun c ys ec => ?_, q, es, ep, hq2, h2, h3, h4, h6⟩
      rw [upd_ne (ne_of ec e (fun z => nomatch z))]
      exact ec
end My

namespace My
open PySem PySem.Spec PyProof.Rows L2
/-! name = {k: v for .. in ..} -/
section
variable {X : Cx}
theorem ps_setDc {i : Nat} {y : Str} {py : Pos} {kx vx tg iter : Expr} {ifs : List Expr} {scope : Scope} {own : List (Str × Nat)} {pos spos : Pos} {wi : TI} {g : TG} {tt : TT} {tk tv : TE} (hc : X.calm = true) (hN : X.N.Nodup) (hy : X.N[i]? = some y) (hyl : X.env.scope.names.lookup y = some .local)
    (hsw : swapsWith (.DictComp kx vx [⟨tg, iter, ifs, 0⟩] scope pos) (some (.Name y py)) spos.line X.env = pure true) (hi : PI X tg iter wi) (ok : BlkOk X.N X.env.scope scope own)
    (hg : ∀ (s : Shared) (H : Hp) (C : Addr) (cl : List (Str × Addr)) (fp : List Addr), PG (X.blk s H scope (compEnvC scope cl C X.env) fp) tg g) (ht : ∀ (s : Shared) (H : Hp) (C : Addr) (cl : List (Str × Addr)) (fp : List Addr), PTs (X.blk s H scope (compEnvC scope cl C X.env) fp) ifs tt)
    (hk : ∀ (s : Shared) (H : Hp) (C : Addr) (cl : List (Str × Addr)) (fp : List Addr), PE (X.blk s H scope (compEnvC scope cl C X.env) fp) kx tk)
    (he : ∀ (s : Shared) (H : Hp) (C : Addr) (cl : List (Str × Addr)) (fp : List Addr), PE (X.blk s H scope (compEnvC scope cl C X.env) fp) vx tv) (hs : ∀ x, foldedSetIterable iter X.env x = pure x := by intro _; rfl) :
    PS X (.Assign [.Name y py] (.DictComp kx vx [⟨tg, iter, ifs, 0⟩] scope pos) spos) (tAsg (tDc wi g tt tk tv (own.map (·.2))) (gName i)) := by
  refine ⟨fun pins s σ H D I h => ?_⟩
  rw [exec_Assign_Name_used _ _ _ _ hsw]
  refine wpAny_bind (wpAny_standAt (wpAny_bind ?_))
  show wpAny _ X.A (do let _ ← comprehension (.DictComp kx vx [⟨tg, iter, ifs, 0⟩] scope pos) scope X.env (firstIterPos [⟨tg, iter, ifs, 0⟩] pos) newDict false (eval iter X.env) (some (assign (.Name y py) X.env))) _ _ s
  have h : tDc wi g tt tk tv (own.map (·.2)) σ H (fun x H1 => gName i x σ H1 D.nx) := h
  refine wpAny_bind (thn (dc_core (Qf := fun _ s' => SP X pins D .next s') hc hN I hi ok hg ht hk he hs h fun L C s' m H' I' q hn f => ?_) fun _ s' hq => wpAny_pure (wpAny_pure hq))
  show wpAny _ _ (assign (.Name y py) X.env (.ref L)) _ _ _
  refine wpAny_assign_Name (store_ok2 (v := V.ref L) I' hN hy (.inl hyl) rfl (fun s2 I2 ⟨a, sb, ha⟩ => ?_) (.inr hyl))
  obtain ⟨f0, f1, f2, f3, f4, f5⟩ := f
  have haC : C ≠ a := by
    rcases ha with z | z
    · rw [z]; exact f1
    · exact fun e => f4 y a z e.symm
  refine ⟨m, hn.sameBut sb haC, fun h3 sb3 => ?_⟩
  exact ⟨_, H', I2.turned (t' := s2.toks) (fun b o hb e => (sb3.2 b hb).trans e) f0 f1 f3 f4 f5, q⟩
theorem sw_trueD {kx vx : Expr} {gs : List Comprehension} {scope : Scope} {pos py : Pos} {y : Str} {l : Nat} {env : Env} (hk : env.scope.kind = .function) (hy : env.scope.names.lookup y = some .local) (hl : (py.line == pos.line) = true)
    (ha : (scope.names.any fun (n, k) => n == y && (k == .local || k == .cell)) = false) : swapsWith (.DictComp kx vx gs scope pos) (some (.Name y py)) l env = pure true := by
  have ky : env.kindOf y = some .local := hy
  have hb : env.blockKind = .function := by unfold Env.blockKind; rw [hk]; rfl
  unfold swapsWith
  simp only [hb, ky, ha, Expr.pos, hl]
  rfl
end
/-! the error that an own exception class without __init__ makes is in lib_head's own facts -/
end My

namespace My
open PySem PySem.Spec PyProof.Rows L2
section
variable {X : Cx} {CX : CXT} {k : Nat} {f C : Addr} {fd : FuncData} {ps ks : List Str} {sp : Sp} {E : L2.St → XK} {x : Str} {p pos : Pos} {kws : List Keyword} {tk : TA} {g : List Value → List Value → List Value} {gV : List V → List V → List V} {bmB : List Value} {B newId initId : String}
/-- X(), X an own exception class without __init__ -/
theorem pmk_own0 (F : ExcBaseFacts B newId initId bmB) (q : PySem.W.excIn X.K C bmB newId = true) (gC : X.mg x = some (.ref C)) (kC : PySem.W.keepIn X.K (.ref C) = true) (r : Raises X (.ref C)) (hg : Gl X x) (hdb : (x == ("__debug__" : Str)) = false := by decide) :
    PMk X (.Call (.Name x p) [] [] pos) (fun _ H Q => Q (.ref C) none H) := by
  intro pins s z H Q I h
  refine wpAny_Call_Name_kw (ld_glob I hg gC ?_ hdb)
  refine PySem.W.callWith_K0 (first := []) I.kIn kC ?_
  show wpAny _ _ (call (.ref C) []) _ _ _
  obtain ⟨bm, N, nm, qn, bs, hdct, sn, sub, ab, col, dd, k0, k1, k2, k3, k5, mN, hC, hN, hni, T⟩ := exc_obj I.kIn q
  exact wpAny_call_exc_subT F T hC hN hni (fun h' e hm => mk_of I hm r h (I.hok.gone hm.new)) (by show 0 ≤ sizeLine; omega)
/-- f(k = v, ..), f may raise -/
def tCallK0 (m : Nat) (sp : Sp) (gV : List V → List V → List V) (E : L2.St → XK) (tk : TA) : TE := fun z H Q => tk z H fun zs H2 => zs.length = m ∧ sp (gV [] zs) H2 Q (E z)
theorem pe_callK0 (F : FnOk X.prog X.w X.K X.mg X.base CX k f fd ps sp) (hr : Room k X.A) (hg : Gl X x) (hm : X.mg x = some (.ref f)) (hk : PySem.W.keepIn X.K (.ref f) = true) (hb : KBn X.K fd ps 0 ks g gV) (hx : ∀ z, PassesAt CX X z (E z)) (hkw : PK X kws tk)
    (hall : (backToKw pos (keywordEach kws X.env)).all (·.1.isSome) = true := by rfl) (hks : (backToKw pos (keywordEach kws X.env)).filterMap (·.1) = ks := by rfl) (hdb : (x == ("__debug__" : Str)) = false := by decide)
    (hpl : ((backTo pos (starEach [] X.env)).any (·.1) || (backToKw pos (keywordEach kws X.env)).any (·.1.isNone)) = false := by rfl) : PE X (.Call (.Name x p) [] kws pos) (tCallK0 ks.length sp gV E tk) := by
  refine ⟨fun pins s z H Q I h => wpAny_Call_Name_kw (ld_glob I hg hm (PySem.W.callWith_KW0 (h₀ := X.base) I.ok.mod.kin hk hall (thn (hkw.run pos pins s z H _ I h) fun ws s1 hh => ?_) hpl) hdb)⟩
  obtain ⟨zs, H1, J, r, l2, q⟩ := hh
  refine ⟨J.kIn, ?_⟩
  rw [hks]
  have r2 := hb.rel (.nil : Vals [] []) r
  refine wpAny_call (codeAny_mono (F.run X.A X.stack s1 H1 ⟨[], ks.zip ws⟩ (g [] ws) (gV [] zs) Q (E z) hr J.env0 (hb.to s1 [] ws J.kIn rfl (r.length.symm.trans l2)) r2 q) fun o s' hq => ?_)
  cases o with
  | error e => exact hx z pins H1 s1 e s' J hq
  | ok fl =>
    cases fl with
    | ret u => exact J.after hq
    | next => exact False.elim hq
    | brk => exact False.elim hq
    | cont => exact False.elim hq
end
end My

namespace My
open PySem L2
/-! a list comprehension with two clauses and no tests -/
theorem lc2_it {J J1 : It} {n n1 : Nat} {G G1 : Hp → Prop} {Y Y1 : Nat → Hp → V → Hp → Prop} (w : Walk J n G Y) (w1 : Walk J1 n1 G1 Y1) {g g1 : TG} {te : TE} {vs vs1 : List Nat} {σ : L2.St} {H1 : Hp} {D : Addr} {Qd : Hp → Prop} {wi1 : TI}
    (hwi : ∀ (σ2 : L2.St) (H : Hp) (R : It → Hp → Prop), R J1 H → wi1 σ2 H R) (Pv : Nat → Nat → Hp → Prop) (h0 : Pv 0 0 (upd H1 D (.lst []))) (hG : ∀ i j H, Pv i j H → G H ∧ G1 H)
    (hs : ∀ i x H H', i < n → Pv i 0 H → Y i H x H' → g x (wipe σ vs) H' fun σ2 H2 => wipe σ2 vs = wipe σ vs ∧ Pv i 0 H2 ∧ ∀ j y H3 H4, j < n1 → Pv i j H3 → Y1 j H3 y H4 → g1 y (wipe σ2 vs1) H4 fun σ3 H5 => wipe σ3 vs1 = wipe σ2 vs1 ∧ te σ3 H5 fun z H6 =>
      ∃ acc, H6 D = some (.lst acc) ∧ acc.length < sizeLine ∧ Pv i (j + 1) (upd H6 D (.lst (acc ++ [z])))) (hn : ∀ i H, i < n → Pv i n1 H → Pv (i + 1) 0 H) (hd : ∀ H, Pv n 0 H → Qd H)
    (hg : ∀ (x : V) (H : Hp) (P Q : L2.St → Hp → Prop), (∀ σ2 H2, P σ2 H2 → Q σ2 H2) → g x (wipe σ vs) H P → g x (wipe σ vs) H Q)
    (hg1 : ∀ (x : V) (σ2 : L2.St) (H : Hp) (P Q : L2.St → Hp → Prop), (∀ σ3 H2, P σ3 H2 → Q σ3 H2) → g1 x σ2 H P → g1 x σ2 H Q) :
    ∃ W : Nat → Nat → Hp → Prop, (∃ m, W 0 m (upd H1 D (.lst []))) ∧ ∀ i m H, W i m H →
      (J.stop i H ∧ Qd H) ∨ (J.go i H ∧ ∃ Nx : Hp → Prop, (∀ H', Nx H' → ∃ m', m' < m ∧ W (i + 1) m' H') ∧ ∀ x H', J.yld i H x H' → g x (wipe σ vs) H' fun σ2 H2 => wipe σ2 vs = wipe σ vs ∧ tYes σ2 H2 fun b H3 =>
        if b = true then wi1 σ2 H3 fun J1 H4 => ∃ W1 : Nat → Nat → Hp → Prop, (∃ m, W1 0 m H4) ∧ ∀ j k H, W1 j k H → (J1.stop j H ∧ Nx H) ∨ (J1.go j H ∧ ∃ Nx1 : Hp → Prop, (∀ H', Nx1 H' → ∃ k', k' < k ∧ W1 (j + 1) k' H') ∧ ∀ x H', J1.yld j H x H' → g1 x (wipe σ2 vs1) H' fun σ3 H5 => wipe σ3 vs1 = wipe σ2 vs1 ∧ tYes σ3 H5 fun b H6 =>
          if b = true then te σ3 H6 fun y H7 => ∃ acc, H7 D = some (.lst acc) ∧ acc.length < sizeLine ∧ Nx1 (upd H7 D (.lst (acc ++ [y]))) else Nx1 H6) else Nx H3) := by
  refine ⟨fun i m H => m = n - i ∧ i ≤ n ∧ Pv i 0 H, ⟨n, by simp, Nat.zero_le _, h0⟩, ?_⟩
  rintro i m H ⟨rfl, hi, p⟩
  by_cases hlt : i < n
  · refine .inr ⟨w.goes i H hlt (hG _ _ _ p).1, fun H => Pv (i + 1) 0 H, fun H' p' => ⟨n - (i + 1), by omega, rfl, hlt, p'⟩, fun x H' y => ?_⟩
    refine hg _ _ _ _ (fun σ2 H2 z => ?_) (hs i x H H' hlt p (w.yields i H x H' hlt (hG _ _ _ p).1 y))
    obtain ⟨z1, z2, z3⟩ := z
    refine ⟨z1, ?_⟩
    dsimp only [tYes]
    rw [if_pos rfl]
    refine hwi _ _ _ ⟨fun j k H => k = n1 - j ∧ j ≤ n1 ∧ Pv i j H, ⟨n1, by simp, Nat.zero_le _, z2⟩, ?_⟩
    rintro j k H3 ⟨rfl, hj, p3⟩
    by_cases hlt2 : j < n1
    · refine .inr ⟨w1.goes j H3 hlt2 (hG _ _ _ p3).2, fun H => Pv i (j + 1) H, fun H' p' => ⟨n1 - (j + 1), by omega, rfl, hlt2, p'⟩, fun x2 H4 y2 => ?_⟩
      refine hg1 _ _ _ _ _ (fun σ3 H5 u => ?_) (z3 j x2 H3 H4 hlt2 p3 (w1.yields j H3 x2 H4 hlt2 (hG _ _ _ p3).2 y2))
      refine ⟨u.1, ?_⟩
      rw [if_pos rfl]
      exact u.2
    · have e : j = n1 := by omega
      subst e
      exact .inl ⟨w1.stops H3 (hG _ _ _ p3).2, hn i H3 hlt p3⟩
  · have e : i = n := by omega
    subst e
    exact .inl ⟨w.stops H (hG _ _ _ p).1, hd H p⟩
end My

namespace My
open PySem PySem.Spec PyProof.Rows L2 PySem.W
/-! sorted(..) of a list of pairs of an int and a text -/
def leIS (x y : Int × Str) : Prop := x.1 < y.1 ∨ (x.1 = y.1 ∧ x.2.cps.toList ≤ y.2.cps.toList)
def encIS (p : Addr × Int × Str) : PyData := .tuple [.int p.2.1, .str p.2.2]
theorem encIS_lt (p q : Addr × Int × Str) : dataLt (encIS p) (encIS q) = true ↔ (p.2.1 < q.2.1 ∨ (p.2.1 = q.2.1 ∧ p.2.2.cps.toList < q.2.2.cps.toList)) := by
  unfold encIS
  rw [dataLt_pair (by simp [alike]) (by simp [alike]), dataLt_int, dataLt_str]
  simp only [PyData.eqv, beq_iff_eq]
  by_cases h1 : p.2.1 = q.2.1
  · by_cases h2 : p.2.2 = q.2.2
    · simp [h1, h2, List.lt_irrefl]
    · simp [h1, h2]
  · simp [h1]
theorem not_lt_lists (a b : List Nat) : ¬ a < b ↔ b ≤ a := List.not_lt
theorem encIS_le (p q : Addr × Int × Str) : dataLe false encIS p q = true ↔ leIS p.2 q.2 := by
  have e : dataLe false encIS p q = !dataLt (encIS q) (encIS p) := rfl
  rw [e]
  have h := encIS_lt q p
  unfold leIS
  by_cases g : dataLt (encIS q) (encIS p) = true
  · rw [g]
    have := h.mp g
    constructor
    · intro z; cases z
    · rintro (z | ⟨z1, z2⟩)
      · omega
      · rcases this with w | ⟨_, w⟩
        · omega
        · exact absurd w (List.not_lt.mpr z2)
  · have g2 : dataLt (encIS q) (encIS p) = false := by simpa using g
    rw [g2]
    refine ⟨fun _ => ?_, fun _ => rfl⟩
    have n := fun z => g (h.mpr z)
    rcases Int.lt_trichotomy p.2.1 q.2.1 with l | l | l
    · exact .inl l
    · exact .inr ⟨l, List.not_lt.mp fun z => n (.inr ⟨l.symm, z⟩)⟩
    · exact absurd (.inl l) n
theorem leIS_trans {a b c : Int × Str} (h1 : leIS a b) (h2 : leIS b c) : leIS a c := by
  unfold leIS at *
  rcases h1 with h1 | ⟨h1, k1⟩ <;> rcases h2 with h2 | ⟨h2, k2⟩
  · exact .inl (by omega)
  · exact .inl (by omega)
  · exact .inl (by omega)
  · exact .inr ⟨by omega, List.le_trans k1 k2⟩
theorem leIS_total (a b : Int × Str) : leIS a b ∨ leIS b a := by
  unfold leIS
  rcases Int.lt_trichotomy a.1 b.1 with l | l | l
  · exact .inl (.inl l)
  · rcases List.le_total a.2.cps.toList b.2.cps.toList with k | k
    · exact .inl (.inr ⟨l, k⟩)
    · exact .inr (.inr ⟨l.symm, k⟩)
  · exact .inr (.inl l)
def rSortedIS (K : PySem.W.Frag) : List V → Hp → VK → Prop := fun vs H Q => ∃ (a : Addr) (ps : List (Addr × Int × Str)), vs = [.ref a] ∧ SqL K H a (ps.map fun p => .ref p.1) ∧ (∀ p ∈ ps, H p.1 = some (.tup [.int p.2.1, .str p.2.2])) ∧
  ∀ (q : Addr) (ys : List (Addr × Int × Str)), ys.Perm ps → ys.Pairwise (fun p r => leIS p.2 r.2) → H q = none → Q (.ref q) (upd H q (.lst (ys.map fun p => .ref p.1)))
section
variable {X : Cx}
theorem each_ref : ∀ {out : List Value} {ps : List (Addr × Int × Str)}, EachIs (fun u (p : Addr × Int × Str) => u = .ref p.1) out ps → out = ps.map fun p => .ref p.1
  | _, _, .nil => rfl
  | _, _, .cons h t => by rw [h, each_ref t]; rfl
theorem vals_ref : ∀ {us : List Value} {ps : List (Addr × Int × Str)}, Vals (ps.map fun p => V.ref p.1) us → EachIs (fun u (p : Addr × Int × Str) => u = .ref p.1) us ps
  | _, [], r => by cases r; exact .nil
  | _, p :: ps, r => by
    cases r with
    | cons a t => exact .cons a (vals_ref t)
theorem ref_vals : ∀ ps : List (Addr × Int × Str), Vals (ps.map fun p => V.ref p.1) (ps.map fun p => Value.ref p.1)
  | [] => .nil
  | p :: ps => .cons rfl (ref_vals ps)
theorem each_imp {R S : Value → (Addr × Int × Str) → Prop} : ∀ {us : List Value} {ps : List (Addr × Int × Str)}, (∀ u p, p ∈ ps → R u p → S u p) → EachIs R us ps → EachIs S us ps
  | _, _, _, .nil => .nil
  | _, _, f, .cons h t => .cons (f _ _ (List.mem_cons_self ..) h) (each_imp (fun u p m => f u p (List.mem_cons_of_mem _ m)) t)
theorem cr_sortedIS (hu : X.A.units + 64 < cLine) : CallR X (.builtin "sorted") (rSortedIS X.K) := by
  intro pins s σ H vs us Q I r h
  obtain ⟨a, ps, rfl, hs, hx, q⟩ := h
  obtain ⟨its, rv, hl, hz⟩ := I.list hs
  obtain ⟨u, rfl, ru⟩ := vals1 r
  obtain rfl : u = Value.ref a := ru
  have e := vals_ref rv
  have er : EachIs (fun v (b : Addr × Int × Str) => ∃ as, Reads s.heap v (encIS b) as) its ps := each_imp (fun u p m hu => by
    subst hu
    exact Dp.reads I (encIS p) (.ref p.1) _ (.tup (SqT.of (hx p m)) (.cons (.int _) (.cons (.str _) .nil))) rfl) e
  refine sorted_data (R := fun u (p : Addr × Int × Str) => u = .ref p.1) (bs := ps) (enc := encIS) hl.isList e er (AllAlike.of fun b b' => by simp [encIS, alike, alikeAll]) (Sortable.tuples fun b => ⟨_, _, rfl⟩) (by rw [List.length_map] at hz; exact hz) (fun b _ => by simp [encIS, PyData.depth, PyData.depthAll]; omega) fun out hlen ho => ?_
  have eo := each_ref ho
  subst eo
  have hd : s.heap.objs.size ≤ s.heap.objs.size + 1 := Nat.le_succ _
  refine ⟨.ref (s.heap.objs.size + 1), upd H (s.heap.objs.size + 1) (.lst ((ps.mergeSort (dataLe false encIS)).map fun p => .ref p.1)), I.laid (t' := s.toks) (fun b o e => sortedAll_old e) hd ?_, rfl, q _ _ (List.mergeSort_perm _ _) ?_ (I.hok.fresh hd)⟩
  · obtain ⟨n, hn⟩ := sortedAll_at s.heap its (((ps.mergeSort (dataLe false encIS)).map fun p => Value.ref p.1).toArray)
    refine ⟨?_, _, n, ref_vals _, ?_⟩
    · rw [List.length_map, List.length_mergeSort]
      rw [List.length_map] at hz
      exact hz
    · exact hn
  · have s := List.pairwise_mergeSort (le := dataLe false encIS) (fun a b c h1 h2 => (encIS_le a c).mpr (leIS_trans ((encIS_le a b).mp h1) ((encIS_le b c).mp h2))) (fun a b => by
      rcases leIS_total a.2 b.2 with h | h
      · rw [(encIS_le a b).mpr h]; rfl
      · rw [(encIS_le b a).mpr h, Bool.or_true]) ps
    exact s.imp fun h => (encIS_le _ _).mp h
end
end My

namespace My
open PySem PySem.Spec PyProof.Rows L2
/-! the head's facts, over all objects that the top has made -/
def propO : Value → Bool
  | .type n => decide (n = "property")
  | _ => false
def keepO (o : Obj) : Bool := match o.data with
  | .func _ => true
  | .cls _ => true
  | .dict _ _ => true
  | .cell _ => true
  | .fields vs => Nat.beq vs.size 19 || (Nat.beq vs.size 6 && propO o.cls)
  | .seq vs _ => match vs.size with
    | 0 => false
    | _ + 1 => true
  | _ => false
def pickO (g : Addr → Option Obj) (a : Addr) : Option (Addr × Obj) := match g a with
  | some o => match keepO o with
    | true => some (a, o)
    | false => none
  | none => none
def frA (g : Addr → Option Obj) (as : List Addr) : PySem.W.Frag := as.filterMap (pickO g)
theorem pickO_of {g : Addr → Option Obj} {a b : Addr} {o : Obj} (h : pickO g b = some (a, o)) : g a = some o ∧ keepO o = true := by
  unfold pickO at h
  cases e : g b with
  | none => rw [e] at h; cases h
  | some u =>
    rw [e] at h
    cases k : keepO u with
    | false => simp only [k] at h; cases h
    | true =>
      simp only [k] at h
      have z := Option.some.inj h
      injection z with z1 z2
      subst z1
      subst z2
      exact ⟨e, k⟩
theorem frA_at {g : Addr → Option Obj} {as : List Addr} {a : Addr} {o : Obj} (h : (frA g as).lookup a = some o) : g a = some o ∧ keepO o = true := by
  obtain ⟨b, _, e⟩ := List.mem_filterMap.mp (He.lookup_mem h)
  exact pickO_of e
theorem frA_in {as : List Addr} {h : Heap} : (frA h.get? as).In h := fun _ _ e => (frA_at e).1
theorem frA_out {g : Addr → Option Obj} {as : List Addr} {a : Addr} {o : Obj} (h : g a = some o) (ht : He.emptyTab o = true) : (frA g as).lookup a = none := by
  cases e : (frA g as).lookup a with
  | none => rfl
  | some u =>
    obtain ⟨h1, h2⟩ := frA_at e
    rw [h] at h1
    rw [← Option.some.inj h1, He.emptyTab_eq ht] at h2
    cases h2
structure SaysA (fa : List He.Fa) (fn : List He.DefD) (tf : List He.Defn) (fx : List (PySem.W.Frag → Bool)) (h : Heap) (K : PySem.W.Frag) : Prop where
  d : He.SaysD fa fn K
  x : fx.all (fun f => f K) = true
  hd : ∀ p ∈ tf, PySem.W.codeHdIn K (He.cT K p).1 (He.cT K p).2 = true
  out : ∀ p ∈ tf, K.lookup (He.cT K p).2 = none
  empty : ∀ p ∈ tf, h.get? (He.cT K p).2 = some { cls := .none, data := .fields #[] }
theorem SaysA.at {fa : List He.Fa} {fn : List He.DefD} {tf : List He.Defn} {fx : List (PySem.W.Frag → Bool)} {h : Heap} {K : PySem.W.Frag} (c : SaysA fa fn tf fx h K) (i : Nat) {f : PySem.W.Frag → Bool} (e : fx[i]? = some f := by rfl) : f K = true :=
  List.all_eq_true.mp c.x f (List.mem_of_getElem? e)
def obsA (as : List Addr) (fa : List He.Fa) (fn : List He.DefD) (tf : List He.Defn) (fx : List (PySem.W.Frag → Bool)) (g : Addr → Option Obj) : He.AlD × Bool := (He.obsD fa fn (frA g as), (fx.all fun f => f (frA g as)) && He.tabsB g tf (frA g as))
theorem saysA_of {as : List Addr} {fa : List He.Fa} {fn : List He.DefD} {tf : List He.Defn} {fx : List (PySem.W.Frag → Bool)} {h : Heap} (e : obsA as fa fn tf fx h.get? = (He.valD fn, true)) : SaysA fa fn tf fx h (frA h.get? as) := by
  have e1 : He.obsD fa fn (frA h.get? as) = He.valD fn := congrArg Prod.fst e
  obtain ⟨h1, h2⟩ := Bool.and_eq_true_iff.mp (show ((fx.all fun f => f (frA h.get? as)) && He.tabsB h.get? tf (frA h.get? as)) = true from congrArg Prod.snd e)
  have key : ∀ p ∈ tf, PySem.W.codeHdIn (frA h.get? as) (He.cT (frA h.get? as) p).1 (He.cT (frA h.get? as) p).2 = true ∧ ∃ o, h.get? (He.cT (frA h.get? as) p).2 = some o ∧ He.emptyTab o = true := fun p hp => by
    obtain ⟨h3, h4⟩ := Bool.and_eq_true_iff.mp (List.all_eq_true.mp h2 p hp)
    refine ⟨h3, ?_⟩
    cases q : h.get? (He.cT (frA h.get? as) p).2 with
    | none => rw [q] at h4; cases h4
    | some o => rw [q] at h4; exact ⟨o, rfl, h4⟩
  refine ⟨e1, h1, fun p hp => (key p hp).1, fun p hp => ?_, fun p hp => ?_⟩
  · obtain ⟨_, o, q, z⟩ := key p hp
    exact frA_out q z
  · obtain ⟨_, o, q, z⟩ := key p hp
    rw [q, He.emptyTab_eq z]
def hookA (as : List Addr) (fa : List He.Fa) (fn : List He.DefD) (tf : List He.Defn) (fx : List (PySem.W.Frag → Bool)) : PySem.W.Hook where
  α := He.AlD × Bool
  obs := fun s => obsA as fa fn tf fx s.heap.get?
  val := fun _ => (He.valD fn, true)
  says := fun _ h => ∃ K : PySem.W.Frag, K.In h ∧ SaysA fa fn tf fx h K
  of := fun _ _ e => ⟨_, frA_in, saysA_of e⟩
  keeps := fun _ _ _ ⟨K, hK, c⟩ k => ⟨K, PySem.W.Frag.In.keeps hK k, ⟨c.d, c.x, c.hd, c.out, fun p hp => k _ _ (c.empty p hp)⟩⟩
theorem obsA_eq {as : List Addr} {fa : List He.Fa} {fn : List He.DefD} {tf : List He.Defn} {fx : List (PySem.W.Frag → Bool)} {g : Addr → Option Obj} {s : Shared} (h : ∀ a, g a = s.heap.get? a) : obsA as fa fn tf fx g = (hookA as fa fn tf fx).obs s := by
  have e : g = s.heap.get? := funext h
  rw [e] <;> rfl
/-! own classes by Bools -/
def slB (sl : Array (Option Value)) (n : String) : Bool := match sl.toList with
  | [_, _, _, _, some (.builtin m), _] => decide (m = n)
  | _ => false
theorem slB_ok {sl : Array (Option Value)} {n : String} (h : slB sl n = true) : ∃ k0 k1 k2 k3 k5, sl = #[k0, k1, k2, k3, some (.builtin n), k5] := by
  unfold slB at h
  split at h
  · rename_i k0 k1 k2 k3 m k5 e
    have z := of_decide_eq_true h
    subst z
    refine ⟨k0, k1, k2, k3, k5, ?_⟩
    obtain ⟨l⟩ := sl
    simp only at e
    rw [e]
  · cases h
/-- the class object at C: its line of classes, its maker -/
def objB (K : PySem.W.Frag) (C : Addr) (tail : List Value) (n : String) (p : ClassData → Bool) : Bool := match K.lookup C with
  | some ⟨.type t, _, .cls cd, sl⟩ => decide (t = "type") && (slB sl n && (decide (cd.mro = .ref C :: tail) && (!cd.hasDel && p cd)))
  | _ => false
theorem objB_ok {K : PySem.W.Frag} {C : Addr} {tail : List Value} {n : String} {p : ClassData → Bool} (h : objB K C tail n p = true) :
    ∃ nm q N bs hd sn sub ab col dd k0 k1 k2 k3 k5, K.lookup C = some (excClassObj nm q C N bs tail hd sn sub ab col dd k0 k1 k2 k3 k5 n) ∧ p { name := nm, bases := bs, mro := .ref C :: tail, ns := N, qualname := q, hasDict := hd, slotNames := sn, subclasses := sub, abstract := ab, collection := col, hasDel := false } = true := by
  unfold objB at h
  split at h
  · rename_i t dd cd sl ho
    obtain ⟨h1, h⟩ := Bool.and_eq_true_iff.mp h
    obtain ⟨h2, h⟩ := Bool.and_eq_true_iff.mp h
    obtain ⟨h3, h⟩ := Bool.and_eq_true_iff.mp h
    obtain ⟨h4, h5⟩ := Bool.and_eq_true_iff.mp h
    have e1 := of_decide_eq_true h1
    subst e1
    obtain ⟨k0, k1, k2, k3, k5, rfl⟩ := slB_ok h2
    obtain ⟨nm, bs, mro, ns, qn, hd, sn, sub, ab, col, del⟩ := cd
    have e3 : mro = .ref C :: tail := of_decide_eq_true h3
    have e4 : del = false := by cases del <;> first | rfl | cases h4
    subst e3
    subst e4
    exact ⟨nm, qn, ns, bs, hd, sn, sub, ab, col, dd, k0, k1, k2, k3, k5, ho, h5⟩
  · cases h
def clsB (K : PySem.W.Frag) (C : Addr) (nm : Str) : Bool := objB K C [.type "object"] "object.__new__" fun cd => decide (cd.name = nm)
theorem clsB_ok {K : PySem.W.Frag} {C : Addr} {nm : Str} (h : clsB K C nm = true) : ClsO K C nm := by
  obtain ⟨nm', q, N, bs, hd, sn, sub, ab, col, dd, k0, k1, k2, k3, k5, e, h2⟩ := objB_ok h
  have z : nm' = nm := of_decide_eq_true h2
  subst z
  exact ⟨q, N, bs, hd, sn, sub, ab, col, dd, k0, k1, k2, k3, k5, _, e⟩
def eqB (K : PySem.W.Frag) (C f : Addr) : Bool := He.eqO (PySem.W.findIn K (.ref C) "__eq__") (some (some (.ref f))) && (PySem.W.isFn K (.ref f) &&
  objB K C [.type "object"] "object.__new__" fun cd => PySem.W.nsOkIn K cd.ns && (He.eqO (PySem.W.nsIn K cd.ns "__eq__") (some (some (.ref f))) && He.eqO (PySem.W.nsIn K cd.ns "__ne__") (some none)))
theorem eqB_ok {K : PySem.W.Frag} {C f : Addr} (h : eqB K C f = true) : EqC K C f := by
  obtain ⟨h1, h⟩ := Bool.and_eq_true_iff.mp h
  obtain ⟨h2, h⟩ := Bool.and_eq_true_iff.mp h
  obtain ⟨nm', q, N, bs, hd, sn, sub, ab, col, dd, k0, k1, k2, k3, k5, e, h3⟩ := objB_ok h
  obtain ⟨h3, h⟩ := Bool.and_eq_true_iff.mp h3
  obtain ⟨h4, h5⟩ := Bool.and_eq_true_iff.mp h
  exact ⟨He.eqO_ok h1, h2, nm', q, N, bs, hd, sn, sub, ab, col, dd, k0, k1, k2, k3, k5, _, e, h3, He.eqO_ok h4, He.eqO_ok h5⟩
def iscB (K : PySem.W.Frag) (C : Addr) : Bool := He.eqO (PySem.W.findIn K (.ref C) "__class__") (some (some (.builtin "object.__class__"))) && decide (PySem.W.mroIn K C (.type "object") = some true)
def gnB (K : PySem.W.Frag) : Bool := He.eqO (PySem.W.specialIn K (.builtin "object.__class__") "__get__") (some (some (.builtin "getset_descriptor.__get__"))) && decide (PySem.W.takesIn K (.builtin "object.__class__") = some true)
theorem iscB_ok {K : PySem.W.Frag} {C : Addr} (h : iscB K C = true) (c : Cls K C) (g : gnB K = true) : C8.InsC K C := by
  obtain ⟨h1, h2⟩ := Bool.and_eq_true_iff.mp h
  obtain ⟨g1, g2⟩ := Bool.and_eq_true_iff.mp g
  exact ⟨c, He.eqO_ok h1, He.eqO_ok g1, of_decide_eq_true g2, of_decide_eq_true h2, kit_self⟩
def veL (up : List Addr) : List Value := up.map Value.ref ++ [.type "ValueError", .type "Exception", .type "BaseException", .type "object"]
theorem veL_ok (up : List Addr) : PySem.HandSPX.refsVE (veL up) = true := by
  unfold veL
  induction up with
  | nil => rfl
  | cons a r ih => exact ih
def oexB (K : PySem.W.Frag) (C : Addr) (up : List Addr) : Bool := objB K C (veL up) "ValueError.__new__" (fun cd => cd.hasDict) && (He.eqO (PySem.W.findIn K (.ref C) "__setattr__") (some (some (.builtin "object.__setattr__"))) &&
  (decide (PySem.W.subIn K (.ref C) (.type "BaseException") = some true) && (decide (PySem.W.typeIn K (.ref C) = some (.type "type")) && PySem.W.keepIn K (.ref C))))
theorem oexB_ok {K : PySem.W.Frag} {C : Addr} {up : List Addr} (h : oexB K C up = true) : OexC K C := by
  obtain ⟨h1, h⟩ := Bool.and_eq_true_iff.mp h
  obtain ⟨h2, h⟩ := Bool.and_eq_true_iff.mp h
  obtain ⟨h3, h⟩ := Bool.and_eq_true_iff.mp h
  obtain ⟨h4, h5⟩ := Bool.and_eq_true_iff.mp h
  obtain ⟨nm', q, N, bs, hd, sn, sub, ab, col, dd, k0, k1, k2, k3, k5, e, h6⟩ := objB_ok h1
  have z : hd = true := h6
  subst z
  exact ⟨⟨nm', q, N, bs, _, sn, sub, ab, col, dd, k0, k1, k2, k3, k5, e, veL_ok up⟩, He.eqO_ok h2, of_decide_eq_true h3, of_decide_eq_true h4, h5⟩
end My

namespace My
open PySem PySem.Spec PyProof.Rows L2
/-! defs that hold a cell __class__: what the top has made of them -/
/-- a def with the one cell __class__ (at cc), its code at cda -/
structure SupD (K : PySem.W.Frag) (x qual : Str) (params : Arguments) (body : List Stmt) (scope : Scope) (dvs : List V) (f : Addr) (fd : FuncData) (cda cc : Addr) : Prop where
  ex : ∃ (oc : Value) (od : Option Addr) (dV kV doc pm : Value) (an : Option Addr) (ct : Value) (osl : Array (Option Value)),
    fd = PySem.W.ksFn x qual params body scope dV kV doc pm an (.ref cda) ct cc ∧ K.lookup f = some ⟨oc, od, .func fd, osl⟩ ∧ PySem.W.codeIn K (.ref cda) qual = true ∧ DflV K dV dvs
  kp : PySem.W.keepIn K (.ref f) = true
section
variable {K : PySem.W.Frag} {x qual : Str} {params : Arguments} {body : List Stmt} {scope : Scope} {dvs : List V} {f cda cc : Addr} {fd : FuncData} {ps ks : List Str}
theorem SupD.binds1 (F : SupD K x qual params body scope dvs f fd cda cc) (n j : Nat) (hd : dvs ≠ []) (hn : n + (dvs.length - j) = ps.length)
    (h : ∀ (T : Addr) (kV doc pm : Value) (an : Option Addr) (ct : Value) (us its : List Value), us.length = n → its.length = dvs.length →
      ∃ k, bindArgs (PySem.W.ksFn x qual params body scope (.ref T) kV doc pm an (.ref cda) ct cc) ⟨us, []⟩ = seqItems? (.ref T) >>= k ∧ k (some its.toArray) = pure (ps.zip (us ++ its.drop j))) : ∃ ds, Vals (dvs.drop j) ds ∧ Binds K fd ps ds := by
  obtain ⟨oc, od, dV, kV, doc, pm, an, ct, osl, rfl, lk, hcd, hD⟩ := F.ex
  rcases hD with ⟨e, _⟩ | ⟨_, T, o, its, m, rfl, lT, oT, rT⟩
  · exact absurd e hd
  · refine ⟨its.drop j, rT.drop j, fun s us X hlen => ?_⟩
    have l1 : its.length = dvs.length := rT.length.symm
    have l2 : us.length = n := by
      rw [List.length_append, List.length_drop, l1] at hlen
      omega
    obtain ⟨k, e1, e2⟩ := h T kV doc pm an ct us its l2 l1
    refine BindsTo.of_looks fun M => ?_
    rw [e1]
    exact looks_items X lT oT (.of_pure e2)
theorem SupD.kbn {n : Nat} (ix : List Nat) (F : SupD K x qual params body scope dvs f fd cda cc) (hd : dvs ≠ [])
    (h : ∀ (T : Addr) (kV doc pm : Value) (an : Option Addr) (ct : Value) (us its ws : List Value), us.length = n → its.length = dvs.length → ws.length = ks.length →
      ∃ k, bindArgs (PySem.W.ksFn x qual params body scope (.ref T) kV doc pm an (.ref cda) ct cc) ⟨us, ks.zip ws⟩ = seqItems? (.ref T) >>= k ∧ k (some its.toArray) = pure (ps.zip (pick ix (us ++ ws ++ its)))) :
    ∃ g, KBn K fd ps n ks g (fun vs zs => pick ix (vs ++ zs ++ dvs)) := by
  obtain ⟨oc, od, dV, kV, doc, pm, an, ct, osl, rfl, lk, hcd, hD⟩ := F.ex
  rcases hD with ⟨e, _⟩ | ⟨_, T, o, its, m, rfl, lT, oT, rT⟩
  · exact absurd e hd
  · refine ⟨fun us ws => pick ix (us ++ ws ++ its), ⟨fun s us ws kin l1 l2 => ?_, fun r1 r2 => pick_rel ix ((r1.append r2).append rT)⟩⟩
    obtain ⟨k, e1, e2⟩ := h T kV doc pm an ct us its ws l1 rT.length.symm l2
    refine BindsTo.of_looks fun M => ?_
    rw [e1]
    exact looks_items kin lT oT (.of_pure e2)
end
theorem binds_bl {K : PySem.W.Frag} {fd : FuncData} {ps : List Str} {dvs : List V} {b : Bool} (h0 : dvs = [.bl b]) (h : ∃ ds, Vals dvs ds ∧ L2.Binds K fd ps ds) : L2.Binds K fd ps [.bool b] := by
  subst h0
  obtain ⟨ds, v, q⟩ := h
  cases v with
  | cons r t =>
    cases t
    cases r
    exact q
/-- what the written part says of such a def, its class at D, its file -/
structure SupN (K : PySem.W.Frag) (cda cc D : Addr) (file : Str) : Prop where
  cell : ∃ (cl : Value) (cld : Option Addr) (csl : Array (Option Value)), K.lookup cc = some ⟨cl, cld, .cell (some (.ref D)), csl⟩
  code : ∃ (cl : Value) (cld : Option Addr) (vs : Array Value) (csl : Array (Option Value)) (tf : Tok), K.lookup cda = some ⟨cl, cld, .fields vs, csl⟩ ∧ vs[2]? = some (.str file tf)
  cls : ∃ cd, PySem.W.clsIn K D = some cd
  glo : PySem.W.nsIn K mainGlobals "super" = some none
  op : PySem.W.nsIn K cStatics "thirdparty.any" = some none
theorem SupN.k {P : Program} {K : PySem.W.Frag} {cda cc D : Addr} {file : Str} (n : SupN K cda cc D file) (e : P.main.file = file) : SupK P K cda cc D := by
  obtain ⟨cl, cld, vs, csl, tf, h1, h2⟩ := n.code
  exact ⟨n.cell, ⟨cl, cld, vs, csl, file, tf, h1, h2, by rw [e]; simp⟩, n.cls, n.glo, n.op⟩
/-- one such def, as it is looked for: where, its name, qualified name, parameters, body, scope, defaults -/
structure CloD where
  at_ : Str × Option Str
  name : Str
  qual : Str
  params : Arguments
  body : List Stmt
  scope : Scope
  dfl : List He.Dv := []
abbrev ClW : Type := Option (Str × Str × Arguments × FuncBody × Scope × Addr × List Str × Addr)
def clW (K : PySem.W.Frag) (p : Str × Option Str) : ClW := match K.lookup (He.fAd K p) with
  | some ⟨_, _, .func fd, _⟩ => some (fd.name, fd.qualname, fd.params, fd.body, fd.scope, fd.globals, fd.closure.map (·.1), fd.builtins)
  | _ => none
def CloD.val (d : CloD) : ClW := some (d.name, d.qual, d.params, .stmts d.body, d.scope, mainGlobals, ["__class__"], builtinsNs)
def CloD.dvs (K : PySem.W.Frag) (d : CloD) : List V := d.dfl.map (He.Dv.v K)
def ccA (K : PySem.W.Frag) (p : Str × Option Str) : Addr := match K.lookup (He.fAd K p) with
  | some ⟨_, _, .func fd, _⟩ => match fd.closure with
    | [(_, c)] => c
    | _ => 0
  | _ => 0
def cdA (K : PySem.W.Frag) (p : Str × Option Str) : Addr := match K.lookup (He.fAd K p) with
  | some ⟨_, _, .func fd, _⟩ => match fd.code with
    | .ref a => a
    | _ => 0
  | _ => 0
def CloD.ok (K : PySem.W.Frag) (d : CloD) : Bool := PySem.W.keepIn K (.ref (He.fAd K d.at_)) && (match K.lookup (He.fAd K d.at_) with
  | some ⟨_, _, .func fd, _⟩ => match fd.code with
    | .ref a => PySem.W.codeIn K (.ref a) d.qual && He.dflB K fd.defaults (d.dvs K)
    | _ => false
  | _ => false)
theorem CloD.supD {K : PySem.W.Frag} {d : CloD} (e : clW K d.at_ = d.val) (c : d.ok K = true) : ∃ fd, SupD K d.name d.qual d.params d.body d.scope (d.dvs K) (He.fAd K d.at_) fd (cdA K d.at_) (ccA K d.at_) := by
  obtain ⟨kp, c2⟩ := Bool.and_eq_true_iff.mp c
  unfold clW at e
  unfold cdA ccA
  cases q : K.lookup (He.fAd K d.at_) with
  | none =>
    rw [q] at c2
    cases c2
  | some o =>
    obtain ⟨oc, od, dt, osl⟩ := o
    rw [q] at c2 e
    cases dt with
    | func fd =>
      obtain ⟨n1, n2, n3, n4, n5, n6, n7, n8, n9, n10, n11, n12, n13, n14, n15⟩ := fd
      have e2 : (some (n1, n2, n3, n4, n5, n6, n7.map (·.1), n15) : ClW) = (some (d.name, d.qual, d.params, FuncBody.stmts d.body, d.scope, mainGlobals, [("__class__" : Str)], builtinsNs) : ClW) := e
      simp only [Option.some.injEq, Prod.mk.injEq] at e2
      obtain ⟨h1, h2, h3, h4, h5, h6, h7, h8⟩ := e2
      subst h1 h2 h3 h4 h5 h6 h8
      obtain ⟨cc, rfl⟩ : ∃ cc : Addr, n7 = [(("__class__" : Str), cc)] := by
        match n7, h7 with
        | [(a, b)], h7 =>
          have h7 := (List.cons_eq_cons.mp h7).1
          exact ⟨b, by rw [show a = _ from h7]⟩
      cases n13 with
      | ref a =>
        have c3 : (PySem.W.codeIn K (.ref a) d.qual && He.dflB K n8 (d.dvs K)) = true := c2
        obtain ⟨k1, k2⟩ := Bool.and_eq_true_iff.mp c3
        exact ⟨_, ⟨oc, od, n8, n9, n10, n11, n12, n14, osl, rfl, q, k1, He.dflB_ok k2⟩, kp⟩
      | _ => cases c2
    | _ => cases c2
def cellB (K : PySem.W.Frag) (cc D : Addr) : Bool := match K.lookup cc with
  | some ⟨_, _, .cell (some (.ref a)), _⟩ => Nat.beq a D
  | _ => false
def codeFB (K : PySem.W.Frag) (cda : Addr) (file : Str) : Bool := match K.lookup cda with
  | some ⟨_, _, .fields vs, _⟩ => match (vs[2]? : Option Value) with
    | some (Value.str f _) => decide (f = file)
    | _ => false
  | _ => false
def supNB (K : PySem.W.Frag) (cda cc D : Addr) (file : Str) : Bool := cellB K cc D && (codeFB K cda file && ((PySem.W.clsIn K D).isSome && (He.eqO (PySem.W.nsIn K mainGlobals "super") (some none) && He.eqO (PySem.W.nsIn K cStatics "thirdparty.any") (some none))))
theorem supNB_ok {K : PySem.W.Frag} {cda cc D : Addr} {file : Str} (h : supNB K cda cc D file = true) : SupN K cda cc D file := by
  obtain ⟨h1, h⟩ := Bool.and_eq_true_iff.mp h
  obtain ⟨h2, h⟩ := Bool.and_eq_true_iff.mp h
  obtain ⟨h3, h⟩ := Bool.and_eq_true_iff.mp h
  obtain ⟨h4, h5⟩ := Bool.and_eq_true_iff.mp h
  refine ⟨?_, ?_, ?_, He.eqO_ok h4, He.eqO_ok h5⟩
  · unfold cellB at h1
    split at h1
    · rename_i cl cld a csl ho
      obtain rfl := Nat.eq_of_beq_eq_true h1
      exact ⟨cl, cld, csl, ho⟩
    · cases h1
  · unfold codeFB at h2
    split at h2
    · rename_i cl cld vs csl ho
      split at h2
      · rename_i f tf hv
        obtain rfl := of_decide_eq_true h2
        exact ⟨cl, cld, vs, csl, tf, ho, hv⟩
      · cases h2
    · cases h2
  · cases q : PySem.W.clsIn K D with
    | none => rw [q] at h3; cases h3
    | some cd => exact ⟨cd, rfl⟩
def supCB (K : PySem.W.Frag) (C D f2 : Addr) : Bool := decide (PySem.W.mroIn K C (.ref D) = some true) && He.eqO (PySem.W.ks_superIn K C D "__init__") (some (some (.ref f2)))
theorem supCB_ok {K : PySem.W.Frag} {C D f2 : Addr} (h : supCB K C D f2 = true) : SupC K C D f2 := by
  obtain ⟨h1, h2⟩ := Bool.and_eq_true_iff.mp h
  exact ⟨of_decide_eq_true h1, He.eqO_ok h2⟩
/-! the head's facts with such defs -/
structure SaysB (fa : List He.Fa) (fn : List He.DefD) (fc : List CloD) (tf : List He.Defn) (fx : List (PySem.W.Frag → Bool)) (h : Heap) (K : PySem.W.Frag) : Prop extends SaysA fa fn tf fx h K where
  k : fc.map (fun d => clW K d.at_) = fc.map CloD.val
  ko : fc.all (fun d => d.ok K) = true
theorem SaysB.clo {fa : List He.Fa} {fn : List He.DefD} {fc : List CloD} {tf : List He.Defn} {fx : List (PySem.W.Frag → Bool)} {h : Heap} {K : PySem.W.Frag} (c : SaysB fa fn fc tf fx h K) (i : Nat) {d : CloD} (e : fc[i]? = some d := by rfl) :
    ∃ fd, SupD K d.name d.qual d.params d.body d.scope (d.dvs K) (He.fAd K d.at_) fd (cdA K d.at_) (ccA K d.at_) := by
  have e2 : (fc.map fun d => clW K d.at_)[i]? = (fc.map CloD.val)[i]? := by rw [c.k]
  rw [List.getElem?_map, List.getElem?_map, e] at e2
  exact CloD.supD (Option.some.inj e2) (List.all_eq_true.mp c.ko d (List.mem_of_getElem? e))
def obsB (as : List Addr) (fa : List He.Fa) (fn : List He.DefD) (fc : List CloD) (tf : List He.Defn) (fx : List (PySem.W.Frag → Bool)) (g : Addr → Option Obj) : (He.AlD × Bool) × (List ClW × Bool) := (obsA as fa fn tf fx g, (fc.map fun d => clW (frA g as) d.at_, fc.all fun d => d.ok (frA g as)))
theorem saysB_of {as : List Addr} {fa : List He.Fa} {fn : List He.DefD} {fc : List CloD} {tf : List He.Defn} {fx : List (PySem.W.Frag → Bool)} {h : Heap} (e : obsB as fa fn fc tf fx h.get? = ((He.valD fn, true), (fc.map CloD.val, true))) : SaysB fa fn fc tf fx h (frA h.get? as) :=
  ⟨saysA_of (congrArg (fun z => z.1) e), congrArg (fun z => z.2.1) e, congrArg (fun z => z.2.2) e⟩
def hookB (as : List Addr) (fa : List He.Fa) (fn : List He.DefD) (fc : List CloD) (tf : List He.Defn) (fx : List (PySem.W.Frag → Bool)) : PySem.W.Hook where
  α := (He.AlD × Bool) × (List ClW × Bool)
  obs := fun s => obsB as fa fn fc tf fx s.heap.get?
  val := fun _ => ((He.valD fn, true), (fc.map CloD.val, true))
  says := fun _ h => ∃ K : PySem.W.Frag, K.In h ∧ SaysB fa fn fc tf fx h K
  of := fun _ _ e => ⟨_, frA_in, saysB_of e⟩
  keeps := fun _ _ _ ⟨K, hK, c⟩ k => ⟨K, PySem.W.Frag.In.keeps hK k, ⟨⟨c.d, c.x, c.hd, c.out, fun p hp => k _ _ (c.empty p hp)⟩, c.k, c.ko⟩⟩
theorem obsB_eq {as : List Addr} {fa : List He.Fa} {fn : List He.DefD} {fc : List CloD} {tf : List He.Defn} {fx : List (PySem.W.Frag → Bool)} {g : Addr → Option Obj} {s : Shared} (h : ∀ a, g a = s.heap.get? a) : obsB as fa fn fc tf fx g = (hookB as fa fn fc tf fx).obs s := by
  have e : g = s.heap.get? := funext h
  rw [e] <;> rfl
end My

namespace My
open PySem PySem.Spec PyProof.Rows L2
/-! defs behind a property: what the top has made of them -/
def pgA (K : PySem.W.Frag) (p : Addr) : Addr := match PySem.W.recIn K p "property" with
  | some (.ref g :: _) => g
  | _ => 0
def getB (K : PySem.W.Frag) (p g : Addr) : Bool := match PySem.W.recIn K p "property" with
  | some (.ref a :: _) => Nat.beq a g
  | _ => false
def propB (K : PySem.W.Frag) (C : Addr) (f : Str) (p g : Addr) : Bool := He.eqO (PySem.W.findIn K (.ref C) f) (some (some (.ref p))) &&
  (He.eqO (PySem.W.specialIn K (.ref p) "__get__") (some (some (.builtin "property.__get__"))) && (decide (PySem.W.takesIn K (.ref p) = some true) && getB K p g))
theorem propB_ok {K : PySem.W.Frag} {C : Addr} {f : Str} {p g : Addr} (h : propB K C f p g = true) : PropOf K C f p g := by
  obtain ⟨h1, h⟩ := Bool.and_eq_true_iff.mp h
  obtain ⟨h2, h⟩ := Bool.and_eq_true_iff.mp h
  obtain ⟨h3, h4⟩ := Bool.and_eq_true_iff.mp h
  refine ⟨He.eqO_ok h1, He.eqO_ok h2, of_decide_eq_true h3, ?_⟩
  unfold getB at h4
  split at h4
  · rename_i a rest e
    obtain rfl := Nat.eq_of_beq_eq_true h4
    exact ⟨rest, e⟩
  · cases h4
/-! the head's facts with such defs (and with defs that hold a cell) -/
structure SaysP (fa : List He.Fa) (fn : List He.DefD) (fc : List CloD) (fp : List He5.DefA) (tf : List He.Defn) (fx : List (PySem.W.Frag → Bool)) (h : Heap) (K : PySem.W.Frag) : Prop extends SaysB fa fn fc tf fx h K where
  kp : fp.map (fun d => He5.fnA K (d.at_ K)) = fp.map He5.DefA.val
  kpo : fp.all (fun d => d.ok K) = true
theorem SaysP.pro {fa : List He.Fa} {fn : List He.DefD} {fc : List CloD} {fp : List He5.DefA} {tf : List He.Defn} {fx : List (PySem.W.Frag → Bool)} {h : Heap} {K : PySem.W.Frag} (c : SaysP fa fn fc fp tf fx h K) (i : Nat) {d : He5.DefA} (e : fp[i]? = some d := by rfl) :
    ∃ fd, FunD K d.name d.qual d.params d.body d.scope (d.dvs K) (d.kws K) (d.at_ K) fd := by
  have e2 : (fp.map fun d => He5.fnA K (d.at_ K))[i]? = (fp.map He5.DefA.val)[i]? := by rw [c.kp]
  rw [List.getElem?_map, List.getElem?_map, e] at e2
  exact He5.DefA.funD (Option.some.inj e2) (List.all_eq_true.mp c.kpo d (List.mem_of_getElem? e))
abbrev AlP : Type := ((He.AlD × Bool) × (List ClW × Bool)) × (List He5.FnW × Bool)
def obsP (as : List Addr) (fa : List He.Fa) (fn : List He.DefD) (fc : List CloD) (fp : List He5.DefA) (tf : List He.Defn) (fx : List (PySem.W.Frag → Bool)) (g : Addr → Option Obj) : AlP := (obsB as fa fn fc tf fx g, (fp.map fun d => He5.fnA (frA g as) (d.at_ (frA g as)), fp.all fun d => d.ok (frA g as)))
theorem saysP_of {as : List Addr} {fa : List He.Fa} {fn : List He.DefD} {fc : List CloD} {fp : List He5.DefA} {tf : List He.Defn} {fx : List (PySem.W.Frag → Bool)} {h : Heap} (e : obsP as fa fn fc fp tf fx h.get? = (((He.valD fn, true), (fc.map CloD.val, true)), (fp.map He5.DefA.val, true))) : SaysP fa fn fc fp tf fx h (frA h.get? as) :=
  ⟨saysB_of (congrArg (fun z => z.1) e), congrArg (fun z => z.2.1) e, congrArg (fun z => z.2.2) e⟩
def hookP (as : List Addr) (fa : List He.Fa) (fn : List He.DefD) (fc : List CloD) (fp : List He5.DefA) (tf : List He.Defn) (fx : List (PySem.W.Frag → Bool)) : PySem.W.Hook where
  α := AlP
  obs := fun s => obsP as fa fn fc fp tf fx s.heap.get?
  val := fun _ => (((He.valD fn, true), (fc.map CloD.val, true)), (fp.map He5.DefA.val, true))
  says := fun _ h => ∃ K : PySem.W.Frag, K.In h ∧ SaysP fa fn fc fp tf fx h K
  of := fun _ _ e => ⟨_, frA_in, saysP_of e⟩
  keeps := fun _ _ _ ⟨K, hK, c⟩ k => ⟨K, PySem.W.Frag.In.keeps hK k, ⟨⟨⟨c.d, c.x, c.hd, c.out, fun p hp => k _ _ (c.empty p hp)⟩, c.k, c.ko⟩, c.kp, c.kpo⟩⟩
theorem obsP_eq {as : List Addr} {fa : List He.Fa} {fn : List He.DefD} {fc : List CloD} {fp : List He5.DefA} {tf : List He.Defn} {fx : List (PySem.W.Frag → Bool)} {g : Addr → Option Obj} {s : Shared} (h : ∀ a, g a = s.heap.get? a) : obsP as fa fn fc fp tf fx g = (hookP as fa fn fc fp tf fx).obs s := by
  have e : g = s.heap.get? := funext h
  rw [e] <;> rfl
end My
namespace My
open PySem PySem.W PySem.Calls PyProof.Rows HandSHeadRun
/-! the run in parts: what the views look at, and each part of what is observed, by a kernel run of its own (each run's memory is free before the next) -/
def RunA (r : OpenRow) (q : Program) (M : Nat) (loose : List PySem.Str) (w : World) : Prop :=
  ∀ os : OsState, (endF (stepQ (denQ tabQ) r.prog w) M r.prog w os).map (fun s => (looksF r.prog (boot_heap w.params) s.abs, seenQ q loose (importedModules r.prog.main.body) (fun s => xlAt q [] s && recOk r.toRowW.records s) s.abs)) = some (true, openGood q loose)
def RunO {α : Type} (r : OpenRow) (M : Nat) (w : World) (o : SharedT → α) (v : α) : Prop :=
  ∀ os : OsState, (endF (stepQ (denQ tabQ) r.prog w) M r.prog w os).map o = some v
theorem run_join {r : OpenRow} {q : Program} {H : Hook} {ob : SharedT → H.α} {M : Nat} {loose : List PySem.Str} {w : World} {α β : Type} {oB : SharedT → α} {oC : SharedT → β} {vB : α} {vC : β}
    (a : RunA r q M loose w) (b : RunO r M w oB vB) (c : RunO r M w oC vC) (j : ∀ s, oB s = vB → oC s = vC → ob s = H.val w) : RunEq r q H ob M loose w := by
  intro os
  obtain ⟨s, hs, e1⟩ := Option.map_eq_some_iff.mp (a os)
  have e2 := b os
  have e3 := c os
  rw [hs] at e2 e3 ⊢
  have e2 := Option.some.inj e2
  have e3 := Option.some.inj e3
  have e4 := j s e2 e3
  injection e1 with e5 e6
  show some (_, _, ob s) = _
  rw [e5, e6, e4]
theorem obsP_join {as : List Addr} {fa : List He.Fa} {fn : List He.DefD} {fc : List CloD} {fp : List He5.DefA} {tf : List He.Defn} {fx : List (PySem.W.Frag → Bool)} {g : Addr → Option Obj}
    (b : obsP as fa [] [] [] tf fx g = (((He.valD [], true), ([], true)), ([], true))) (c : obsP as [] fn fc fp [] [] g = (((He.valD fn, true), (fc.map CloD.val, true)), (fp.map He5.DefA.val, true))) :
    obsP as fa fn fc fp tf fx g = (((He.valD fn, true), (fc.map CloD.val, true)), (fp.map He5.DefA.val, true)) := by
  have b1 : (fa.all (fun f => f.ok (frA g as)) && true) = true := congrArg (fun z : AlP => z.1.1.1.1) b
  have b2 : ((fx.all fun f => f (frA g as)) && He.tabsB g tf (frA g as)) = true := congrArg (fun z : AlP => z.1.1.2) b
  have c1 : (true && fn.all fun d => d.ok (frA g as)) = true := congrArg (fun z : AlP => z.1.1.1.1) c
  have c2 : fn.map (fun d => He.fnW (frA g as) d.at_) = fn.map He.DefD.val := congrArg (fun z : AlP => z.1.1.1.2) c
  have c3 : (fc.map fun d => clW (frA g as) d.at_, fc.all fun d => d.ok (frA g as)) = (fc.map CloD.val, true) := congrArg (fun z : AlP => z.1.2) c
  have c4 : (fp.map fun d => He5.fnA (frA g as) (d.at_ (frA g as)), fp.all fun d => d.ok (frA g as)) = (fp.map He5.DefA.val, true) := congrArg (fun z : AlP => z.2) c
  rw [Bool.and_true] at b1
  rw [Bool.true_and] at c1
  have d1 : He.obsD fa fn (frA g as) = He.valD fn := by
    show (fa.all (fun f => f.ok (frA g as)) && fn.all (fun d => d.ok (frA g as)), fn.map fun d => He.fnW (frA g as) d.at_) = (true, fn.map He.DefD.val)
    rw [b1, c1, c2]
    rfl
  show (((He.obsD fa fn (frA g as), ((fx.all fun f => f (frA g as)) && He.tabsB g tf (frA g as))), (fc.map fun d => clW (frA g as) d.at_, fc.all fun d => d.ok (frA g as))), (fp.map fun d => He5.fnA (frA g as) (d.at_ (frA g as)), fp.all fun d => d.ok (frA g as))) = _
  rw [d1, b2, c3, c4]
end My
namespace My
open PySem L2

def top (i : Nat) : Stmt := PySem.Challenge.pw_roomleft_k41_words_of_further_ways.main.body.getD i (.Pass ⟨0, 0, 0, 0⟩)
abbrev s__wall : Stmt := top 0
abbrev s_BadKind___init__ : Stmt := inClass (top 3) 0
abbrev s_BadEdition___init__ : Stmt := inClass (top 4) 0
abbrev s_MissingKind___init__ : Stmt := inClass (top 5) 0
abbrev s_RingOfCalls___init__ : Stmt := inClass (top 6) 0
abbrev s_LongBody___init__ : Stmt := inClass (top 7) 0
abbrev s_RoomTaken___init__ : Stmt := inClass (top 8) 0
abbrev s_BadNumber___init__ : Stmt := inClass (top 10) 0
abbrev s_NoStep___init__ : Stmt := inClass (top 11) 0
abbrev s_is_integer : Stmt := top 14
abbrev s_is_bits : Stmt := top 15
abbrev s_is_name : Stmt := top 16
abbrev s_is_word : Stmt := top 17
abbrev s_begins : Stmt := top 18
abbrev s_Nothing___eq__ : Stmt := inClass (top 19) 0
abbrev s_is_width : Stmt := top 20
abbrev s_Number___init__ : Stmt := inClass (top 21) 0
abbrev s_Number___eq__ : Stmt := inClass (top 21) 1
abbrev s_Bits___init__ : Stmt := inClass (top 22) 0
abbrev s_Bits___eq__ : Stmt := inClass (top 22) 1
abbrev s_Call___init__ : Stmt := inClass (top 23) 0
abbrev s_Call___eq__ : Stmt := inClass (top 23) 1
abbrev s_Items___init__ : Stmt := inClass (top 24) 0
abbrev s_Items___eq__ : Stmt := inClass (top 24) 1
abbrev s_is_simple : Stmt := top 25
abbrev s_check_inner : Stmt := top 26
abbrev s_Way___init__ : Stmt := inClass (top 27) 0
abbrev s_Way___eq__ : Stmt := inClass (top 27) 1
abbrev s_Door___init__ : Stmt := inClass (top 28) 0
abbrev s_Door___eq__ : Stmt := inClass (top 28) 1
abbrev s_are_ways : Stmt := top 29
abbrev s_Choice___init__ : Stmt := inClass (top 30) 0
abbrev s_Choice___eq__ : Stmt := inClass (top 30) 1
abbrev s_Part___init__ : Stmt := inClass (top 31) 0
abbrev s_Part___eq__ : Stmt := inClass (top 31) 1
abbrev s_Room___init__ : Stmt := inClass (top 32) 0
abbrev s_Room___eq__ : Stmt := inClass (top 32) 1
abbrev s_are_parts : Stmt := top 33
abbrev s_Row___init__ : Stmt := inClass (top 34) 0
abbrev s_Row___eq__ : Stmt := inClass (top 34) 1
abbrev s_inner_kinds : Stmt := top 36
abbrev s_called : Stmt := top 37
abbrev s_reached : Stmt := top 38
abbrev s_missing_name : Stmt := top 39
abbrev s_ring_name : Stmt := top 40
abbrev s_call_order : Stmt := top 41
abbrev s_number_lengths : Stmt := top 43
abbrev s_Lengths___init__ : Stmt := inClass (top 44) 0
abbrev s_Lengths_sums : Stmt := inClass (top 44) 1
abbrev s_Lengths_of_kind : Stmt := inClass (top 44) 2
abbrev s_Lengths_of_items : Stmt := inClass (top 44) 3
abbrev s_Lengths_of_body : Stmt := inClass (top 44) 4
abbrev s_Lengths_of_named : Stmt := inClass (top 44) 5
abbrev s_Lengths_of_row : Stmt := inClass (top 44) 6
abbrev s_Lengths_is_long : Stmt := inClass (top 44) 7
abbrev s_long_body : Stmt := top 45
abbrev s_number_form : Stmt := top 47
abbrev s_Plan___init__ : Stmt := inClass (top 48) 0
abbrev s_Plan_form_named : Stmt := inClass (top 48) 1
abbrev s_Plan_form_of : Stmt := inClass (top 48) 2
abbrev s_Plan_kept : Stmt := inClass (top 48) 3
abbrev s_Plan_body_of : Stmt := inClass (top 48) 4
abbrev s_Plan_branch_of : Stmt := inClass (top 48) 5
abbrev s_Plan_part_of : Stmt := inClass (top 48) 6
abbrev s_Plan_thread : Stmt := inClass (top 48) 7
abbrev s_Plan_begin : Stmt := inClass (top 48) 8
abbrev s_Plan_begin_row : Stmt := inClass (top 48) 9
abbrev s_Plan_inside : Stmt := inClass (top 48) 10
abbrev s_single : Stmt := top 50
abbrev s_shifted : Stmt := top 51
abbrev s_plus : Stmt := top 52
abbrev s_times : Stmt := top 53
abbrev s_rounds : Stmt := top 54
abbrev s_Counter___init__ : Stmt := inClass (top 55) 0
abbrev s_Counter_counts : Stmt := inClass (top 55) 1
abbrev s_Counter_counts_from : Stmt := inClass (top 55) 2
abbrev s_Counter_counts_row : Stmt := inClass (top 55) 3
abbrev s_Counter_counts_ahead : Stmt := inClass (top 55) 4
abbrev s_Counter_counts_of : Stmt := inClass (top 55) 5
abbrev s_Counter_counts_simple : Stmt := inClass (top 55) 6
abbrev s_Counter_counts_items : Stmt := inClass (top 55) 7
abbrev s_Counter_repeats : Stmt := inClass (top 55) 8
abbrev s_Counter_ends : Stmt := inClass (top 55) 9
abbrev s_Counter_ends_from : Stmt := inClass (top 55) 10
abbrev s_Counter_counts_body : Stmt := inClass (top 55) 11
abbrev s_Counter_least : Stmt := inClass (top 55) 12
abbrev s_Counter_least_from : Stmt := inClass (top 55) 13
abbrev s_Counter_least_of : Stmt := inClass (top 55) 14
abbrev s_Counter_least_simple : Stmt := inClass (top 55) 15
abbrev s_Machine___init__ : Stmt := inClass (top 57) 0
abbrev s_Machine_state : Stmt := inClass (top 57) 1
abbrev s_Machine_threads : Stmt := inClass (top 57) 2
abbrev s_Machine_start : Stmt := inClass (top 57) 3
abbrev s_Machine_start_row : Stmt := inClass (top 57) 4
abbrev s_Machine_move : Stmt := inClass (top 57) 5
abbrev s_Machine_lack : Stmt := inClass (top 57) 6
abbrev s_Machine_go : Stmt := inClass (top 57) 7
abbrev s_Machine_go_of : Stmt := inClass (top 57) 8
abbrev s_Machine_wrap : Stmt := inClass (top 57) 9
abbrev s_Machine_go_simple : Stmt := inClass (top 57) 10
abbrev s_Machine_go_items : Stmt := inClass (top 57) 11
abbrev s_Machine_begin_rounds : Stmt := inClass (top 57) 12
abbrev s_Machine_go_word : Stmt := inClass (top 57) 13
abbrev s_Machine_go_size : Stmt := inClass (top 57) 14
abbrev s_Machine_begin_body : Stmt := inClass (top 57) 15
abbrev s_Machine_in_body : Stmt := inClass (top 57) 16
abbrev s_Machine_go_body : Stmt := inClass (top 57) 17
abbrev s_Machine_go_room : Stmt := inClass (top 57) 18
abbrev s_Machine_go_part : Stmt := inClass (top 57) 19
abbrev s_Machine_in_rest : Stmt := inClass (top 57) 20
abbrev s_within : Stmt := top 58
abbrev s_are_kinds : Stmt := top 60
abbrev s_check_parts : Stmt := top 61
abbrev s_is_taken : Stmt := top 62
abbrev s_last_taken : Stmt := top 63
abbrev s_check_rooms : Stmt := top 64
abbrev s_Edition___init__ : Stmt := inClass (top 65) 0
abbrev s_Edition_kinds : Stmt := inClass (top 65) 1
abbrev s_Edition___eq__ : Stmt := inClass (top 65) 2
abbrev s_check_most : Stmt := top 67
abbrev s_way_words : Stmt := top 68
abbrev s_AddKind___init__ : Stmt := inClass (top 70) 0
abbrev s_AddKind___eq__ : Stmt := inClass (top 70) 1
abbrev s_AddWay___init__ : Stmt := inClass (top 71) 0
abbrev s_AddWay___eq__ : Stmt := inClass (top 71) 1
abbrev s_AddRoom___init__ : Stmt := inClass (top 72) 0
abbrev s_AddRoom___eq__ : Stmt := inClass (top 72) 1
abbrev s_TellBody___init__ : Stmt := inClass (top 73) 0
abbrev s_TellBody___eq__ : Stmt := inClass (top 73) 1
abbrev s_Widen___init__ : Stmt := inClass (top 74) 0
abbrev s_Widen___eq__ : Stmt := inClass (top 74) 1
abbrev s_named : Stmt := top 75
abbrev s_inner_rows : Stmt := top 76
abbrev s_inner_index : Stmt := top 77
abbrev s_with_kind : Stmt := top 78
abbrev s_exchanged : Stmt := top 79
abbrev s_kind_added : Stmt := top 80
abbrev s_way_added : Stmt := top 81
abbrev s_room_added : Stmt := top 82
abbrev s_body_told : Stmt := top 83
abbrev s_wider : Stmt := top 84
abbrev s_number_widened : Stmt := top 85
abbrev s_changed_kind : Stmt := top 86
abbrev s_taken : Stmt := top 87
abbrev s__law_start : Stmt := top 89
abbrev s__law_pull : Stmt := top 90
abbrev s__law_is_int : Stmt := top 91
abbrev s__law_same : Stmt := top 92
abbrev s__law_name : Stmt := top 93
abbrev s__law_draw_bits : Stmt := top 94
abbrev s__law_place : Stmt := top 95
abbrev s__law_object : Stmt := top 96
abbrev s__law_ordered : Stmt := top 97
abbrev s__law_taken : Stmt := top 98
abbrev s__law_flip : Stmt := top 99
abbrev s__law_gaps : Stmt := top 100
abbrev s__law_draw_many_words : Stmt := top 101
abbrev s__law_draw_way : Stmt := top 102
abbrev s__law_way_reason : Stmt := top 103
abbrev s__law_words_right : Stmt := top 104
abbrev s__law_later_right : Stmt := top 105
abbrev s_law : Stmt := top 106
def supFile : Str := PySem.Challenge.pw_roomleft_k41_words_of_further_ways.main.file
/-- the program of the row -/
def P : PySem.Program := (PySem.W.OpenLaw.row PySem.Challenge.rw_roomleft_k41_words_of_further_ways).prog
theorem supP : SupP P := ⟨by kernel_rfl⟩
theorem supF : P.main.file = supFile := by kernel_rfl
def dd_BadKind___init__ : He.DefD := ⟨("BadKind", some "__init__"), "__init__", "BadKind.__init__", defArgs s_BadKind___init__, defBody s_BadKind___init__, defScope s_BadKind___init__, [], []⟩
def dd_NoStep___init__ : He.DefD := ⟨("NoStep", some "__init__"), "__init__", "NoStep.__init__", defArgs s_NoStep___init__, defBody s_NoStep___init__, defScope s_NoStep___init__, [], []⟩
def dd_is_integer : He.DefD := ⟨("is_integer", none), "is_integer", "is_integer", defArgs s_is_integer, defBody s_is_integer, defScope s_is_integer, [], []⟩
def dd_is_bits : He.DefD := ⟨("is_bits", none), "is_bits", "is_bits", defArgs s_is_bits, defBody s_is_bits, defScope s_is_bits, [], []⟩
def dd_is_name : He.DefD := ⟨("is_name", none), "is_name", "is_name", defArgs s_is_name, defBody s_is_name, defScope s_is_name, [], []⟩
def dd_is_word : He.DefD := ⟨("is_word", none), "is_word", "is_word", defArgs s_is_word, defBody s_is_word, defScope s_is_word, [], []⟩
def dd_begins : He.DefD := ⟨("begins", none), "begins", "begins", defArgs s_begins, defBody s_begins, defScope s_begins, [], []⟩
def dd_Nothing___eq__ : He.DefD := ⟨("Nothing", some "__eq__"), "__eq__", "Nothing.__eq__", defArgs s_Nothing___eq__, defBody s_Nothing___eq__, defScope s_Nothing___eq__, [], []⟩
def dd_is_width : He.DefD := ⟨("is_width", none), "is_width", "is_width", defArgs s_is_width, defBody s_is_width, defScope s_is_width, [], []⟩
def dd_Number___init__ : He.DefD := ⟨("Number", some "__init__"), "__init__", "Number.__init__", defArgs s_Number___init__, defBody s_Number___init__, defScope s_Number___init__, [.non], []⟩
def dd_Number___eq__ : He.DefD := ⟨("Number", some "__eq__"), "__eq__", "Number.__eq__", defArgs s_Number___eq__, defBody s_Number___eq__, defScope s_Number___eq__, [], []⟩
def dd_Bits___init__ : He.DefD := ⟨("Bits", some "__init__"), "__init__", "Bits.__init__", defArgs s_Bits___init__, defBody s_Bits___init__, defScope s_Bits___init__, [], []⟩
def dd_Bits___eq__ : He.DefD := ⟨("Bits", some "__eq__"), "__eq__", "Bits.__eq__", defArgs s_Bits___eq__, defBody s_Bits___eq__, defScope s_Bits___eq__, [], []⟩
def dd_Call___init__ : He.DefD := ⟨("Call", some "__init__"), "__init__", "Call.__init__", defArgs s_Call___init__, defBody s_Call___init__, defScope s_Call___init__, [], []⟩
def dd_Call___eq__ : He.DefD := ⟨("Call", some "__eq__"), "__eq__", "Call.__eq__", defArgs s_Call___eq__, defBody s_Call___eq__, defScope s_Call___eq__, [], []⟩
def dd_Items___init__ : He.DefD := ⟨("Items", some "__init__"), "__init__", "Items.__init__", defArgs s_Items___init__, defBody s_Items___init__, defScope s_Items___init__, [.non], []⟩
def dd_Items___eq__ : He.DefD := ⟨("Items", some "__eq__"), "__eq__", "Items.__eq__", defArgs s_Items___eq__, defBody s_Items___eq__, defScope s_Items___eq__, [], []⟩
def dd_is_simple : He.DefD := ⟨("is_simple", none), "is_simple", "is_simple", defArgs s_is_simple, defBody s_is_simple, defScope s_is_simple, [], []⟩
def dd_check_inner : He.DefD := ⟨("check_inner", none), "check_inner", "check_inner", defArgs s_check_inner, defBody s_check_inner, defScope s_check_inner, [], []⟩
def dd_Way___init__ : He.DefD := ⟨("Way", some "__init__"), "__init__", "Way.__init__", defArgs s_Way___init__, defBody s_Way___init__, defScope s_Way___init__, [], []⟩
def dd_Way___eq__ : He.DefD := ⟨("Way", some "__eq__"), "__eq__", "Way.__eq__", defArgs s_Way___eq__, defBody s_Way___eq__, defScope s_Way___eq__, [], []⟩
def dd_Door___init__ : He.DefD := ⟨("Door", some "__init__"), "__init__", "Door.__init__", defArgs s_Door___init__, defBody s_Door___init__, defScope s_Door___init__, [], []⟩
def dd_Door___eq__ : He.DefD := ⟨("Door", some "__eq__"), "__eq__", "Door.__eq__", defArgs s_Door___eq__, defBody s_Door___eq__, defScope s_Door___eq__, [], []⟩
def dd_are_ways : He.DefD := ⟨("are_ways", none), "are_ways", "are_ways", defArgs s_are_ways, defBody s_are_ways, defScope s_are_ways, [], []⟩
def dd_Choice___init__ : He.DefD := ⟨("Choice", some "__init__"), "__init__", "Choice.__init__", defArgs s_Choice___init__, defBody s_Choice___init__, defScope s_Choice___init__, [], []⟩
def dd_Part___init__ : He.DefD := ⟨("Part", some "__init__"), "__init__", "Part.__init__", defArgs s_Part___init__, defBody s_Part___init__, defScope s_Part___init__, [], []⟩
def dd_Room___init__ : He.DefD := ⟨("Room", some "__init__"), "__init__", "Room.__init__", defArgs s_Room___init__, defBody s_Room___init__, defScope s_Room___init__, [], []⟩
def dd_are_parts : He.DefD := ⟨("are_parts", none), "are_parts", "are_parts", defArgs s_are_parts, defBody s_are_parts, defScope s_are_parts, [], []⟩
def dd_Row___init__ : He.DefD := ⟨("Row", some "__init__"), "__init__", "Row.__init__", defArgs s_Row___init__, defBody s_Row___init__, defScope s_Row___init__, [], []⟩
def dd_inner_kinds : He.DefD := ⟨("inner_kinds", none), "inner_kinds", "inner_kinds", defArgs s_inner_kinds, defBody s_inner_kinds, defScope s_inner_kinds, [], []⟩
def dd_called : He.DefD := ⟨("called", none), "called", "called", defArgs s_called, defBody s_called, defScope s_called, [], []⟩
def dd_reached : He.DefD := ⟨("reached", none), "reached", "reached", defArgs s_reached, defBody s_reached, defScope s_reached, [], []⟩
def dd_missing_name : He.DefD := ⟨("missing_name", none), "missing_name", "missing_name", defArgs s_missing_name, defBody s_missing_name, defScope s_missing_name, [], []⟩
def dd_ring_name : He.DefD := ⟨("ring_name", none), "ring_name", "ring_name", defArgs s_ring_name, defBody s_ring_name, defScope s_ring_name, [], []⟩
def dd_call_order : He.DefD := ⟨("call_order", none), "call_order", "call_order", defArgs s_call_order, defBody s_call_order, defScope s_call_order, [], []⟩
def dd_number_lengths : He.DefD := ⟨("number_lengths", none), "number_lengths", "number_lengths", defArgs s_number_lengths, defBody s_number_lengths, defScope s_number_lengths, [], []⟩
def dd_Lengths___init__ : He.DefD := ⟨("Lengths", some "__init__"), "__init__", "Lengths.__init__", defArgs s_Lengths___init__, defBody s_Lengths___init__, defScope s_Lengths___init__, [], []⟩
def dd_Lengths_sums : He.DefD := ⟨("Lengths", some "sums"), "sums", "Lengths.sums", defArgs s_Lengths_sums, defBody s_Lengths_sums, defScope s_Lengths_sums, [], []⟩
def dd_Lengths_of_kind : He.DefD := ⟨("Lengths", some "of_kind"), "of_kind", "Lengths.of_kind", defArgs s_Lengths_of_kind, defBody s_Lengths_of_kind, defScope s_Lengths_of_kind, [], []⟩
def dd_Lengths_of_body : He.DefD := ⟨("Lengths", some "of_body"), "of_body", "Lengths.of_body", defArgs s_Lengths_of_body, defBody s_Lengths_of_body, defScope s_Lengths_of_body, [], []⟩
def dd_Lengths_of_named : He.DefD := ⟨("Lengths", some "of_named"), "of_named", "Lengths.of_named", defArgs s_Lengths_of_named, defBody s_Lengths_of_named, defScope s_Lengths_of_named, [], []⟩
def dd_Lengths_of_row : He.DefD := ⟨("Lengths", some "of_row"), "of_row", "Lengths.of_row", defArgs s_Lengths_of_row, defBody s_Lengths_of_row, defScope s_Lengths_of_row, [], []⟩
def dd_Lengths_is_long : He.DefD := ⟨("Lengths", some "is_long"), "is_long", "Lengths.is_long", defArgs s_Lengths_is_long, defBody s_Lengths_is_long, defScope s_Lengths_is_long, [], []⟩
def dd_long_body : He.DefD := ⟨("long_body", none), "long_body", "long_body", defArgs s_long_body, defBody s_long_body, defScope s_long_body, [], []⟩
def dd_Plan___init__ : He.DefD := ⟨("Plan", some "__init__"), "__init__", "Plan.__init__", defArgs s_Plan___init__, defBody s_Plan___init__, defScope s_Plan___init__, [.bl false], []⟩
def dd_are_kinds : He.DefD := ⟨("are_kinds", none), "are_kinds", "are_kinds", defArgs s_are_kinds, defBody s_are_kinds, defScope s_are_kinds, [], []⟩
def dd_check_parts : He.DefD := ⟨("check_parts", none), "check_parts", "check_parts", defArgs s_check_parts, defBody s_check_parts, defScope s_check_parts, [], []⟩
def dd_is_taken : He.DefD := ⟨("is_taken", none), "is_taken", "is_taken", defArgs s_is_taken, defBody s_is_taken, defScope s_is_taken, [], []⟩
def dd_last_taken : He.DefD := ⟨("last_taken", none), "last_taken", "last_taken", defArgs s_last_taken, defBody s_last_taken, defScope s_last_taken, [], []⟩
def dd_check_rooms : He.DefD := ⟨("check_rooms", none), "check_rooms", "check_rooms", defArgs s_check_rooms, defBody s_check_rooms, defScope s_check_rooms, [], []⟩
def dd_Edition___init__ : He.DefD := ⟨("Edition", some "__init__"), "__init__", "Edition.__init__", defArgs s_Edition___init__, defBody s_Edition___init__, defScope s_Edition___init__, [], []⟩
def dd_check_most : He.DefD := ⟨("check_most", none), "check_most", "check_most", defArgs s_check_most, defBody s_check_most, defScope s_check_most, [], []⟩
def dd_way_words : He.DefD := ⟨("way_words", none), "way_words", "way_words", defArgs s_way_words, defBody s_way_words, defScope s_way_words, [], []⟩
def dd_AddWay___init__ : He.DefD := ⟨("AddWay", some "__init__"), "__init__", "AddWay.__init__", defArgs s_AddWay___init__, defBody s_AddWay___init__, defScope s_AddWay___init__, [], []⟩
def dd_named : He.DefD := ⟨("named", none), "named", "named", defArgs s_named, defBody s_named, defScope s_named, [], []⟩
def dd_way_added : He.DefD := ⟨("way_added", none), "way_added", "way_added", defArgs s_way_added, defBody s_way_added, defScope s_way_added, [], []⟩
def dd_changed_kind : He.DefD := ⟨("changed_kind", none), "changed_kind", "changed_kind", defArgs s_changed_kind, defBody s_changed_kind, defScope s_changed_kind, [], []⟩
def dd_taken : He.DefD := ⟨("taken", none), "taken", "taken", defArgs s_taken, defBody s_taken, defScope s_taken, [], []⟩
def dd__law_start : He.DefD := ⟨("_law_start", none), "_law_start", "_law_start", defArgs s__law_start, defBody s__law_start, defScope s__law_start, [], []⟩
def dd__law_pull : He.DefD := ⟨("_law_pull", none), "_law_pull", "_law_pull", defArgs s__law_pull, defBody s__law_pull, defScope s__law_pull, [], []⟩
def dd__law_is_int : He.DefD := ⟨("_law_is_int", none), "_law_is_int", "_law_is_int", defArgs s__law_is_int, defBody s__law_is_int, defScope s__law_is_int, [], []⟩
def dd__law_same : He.DefD := ⟨("_law_same", none), "_law_same", "_law_same", defArgs s__law_same, defBody s__law_same, defScope s__law_same, [], []⟩
def dd__law_name : He.DefD := ⟨("_law_name", none), "_law_name", "_law_name", defArgs s__law_name, defBody s__law_name, defScope s__law_name, [], []⟩
def dd__law_draw_bits : He.DefD := ⟨("_law_draw_bits", none), "_law_draw_bits", "_law_draw_bits", defArgs s__law_draw_bits, defBody s__law_draw_bits, defScope s__law_draw_bits, [], []⟩
def dd__law_place : He.DefD := ⟨("_law_place", none), "_law_place", "_law_place", defArgs s__law_place, defBody s__law_place, defScope s__law_place, [], []⟩
def dd__law_object : He.DefD := ⟨("_law_object", none), "_law_object", "_law_object", defArgs s__law_object, defBody s__law_object, defScope s__law_object, [], []⟩
def dd__law_ordered : He.DefD := ⟨("_law_ordered", none), "_law_ordered", "_law_ordered", defArgs s__law_ordered, defBody s__law_ordered, defScope s__law_ordered, [], []⟩
def dd__law_taken : He.DefD := ⟨("_law_taken", none), "_law_taken", "_law_taken", defArgs s__law_taken, defBody s__law_taken, defScope s__law_taken, [], []⟩
def dd__law_flip : He.DefD := ⟨("_law_flip", none), "_law_flip", "_law_flip", defArgs s__law_flip, defBody s__law_flip, defScope s__law_flip, [], []⟩
def dd__law_gaps : He.DefD := ⟨("_law_gaps", none), "_law_gaps", "_law_gaps", defArgs s__law_gaps, defBody s__law_gaps, defScope s__law_gaps, [], []⟩
def dd__law_draw_many_words : He.DefD := ⟨("_law_draw_many_words", none), "_law_draw_many_words", "_law_draw_many_words", defArgs s__law_draw_many_words, defBody s__law_draw_many_words, defScope s__law_draw_many_words, [], []⟩
def dd__law_draw_way : He.DefD := ⟨("_law_draw_way", none), "_law_draw_way", "_law_draw_way", defArgs s__law_draw_way, defBody s__law_draw_way, defScope s__law_draw_way, [], []⟩
def dd__law_way_reason : He.DefD := ⟨("_law_way_reason", none), "_law_way_reason", "_law_way_reason", defArgs s__law_way_reason, defBody s__law_way_reason, defScope s__law_way_reason, [], []⟩
def dd__law_words_right : He.DefD := ⟨("_law_words_right", none), "_law_words_right", "_law_words_right", defArgs s__law_words_right, defBody s__law_words_right, defScope s__law_words_right, [], []⟩
def dd__law_later_right : He.DefD := ⟨("_law_later_right", none), "_law_later_right", "_law_later_right", defArgs s__law_later_right, defBody s__law_later_right, defScope s__law_later_right, [], []⟩
def dd_law : He.DefD := ⟨("law", none), "law", "law", defArgs s_law, defBody s_law, defScope s_law, [], []⟩
def dp_Edition_kinds : He5.DefA := ⟨fun K => pgA K (He.ma K (He.ga K "Edition") "kinds"), "kinds", "Edition.kinds", defArgs s_Edition_kinds, defBody s_Edition_kinds, defScope s_Edition_kinds, [], []⟩
def fp : List He5.DefA := [dp_Edition_kinds]
def dc_Counter___init__ : CloD := ⟨("Counter", some "__init__"), "__init__", "Counter.__init__", defArgs s_Counter___init__, defBody s_Counter___init__, defScope s_Counter___init__, [.bl false]⟩
def dc_Machine___init__ : CloD := ⟨("Machine", some "__init__"), "__init__", "Machine.__init__", defArgs s_Machine___init__, defBody s_Machine___init__, defScope s_Machine___init__, [.bl false]⟩
def fn_0 : List He.DefD := [dd_BadKind___init__,
  dd_NoStep___init__,
  dd_is_integer,
  dd_is_bits,
  dd_is_name,
  dd_is_word,
  dd_begins,
  dd_Nothing___eq__,
  dd_is_width,
  dd_Number___init__,
  dd_Number___eq__,
  dd_Bits___init__,
  dd_Bits___eq__,
  dd_Call___init__,
  dd_Call___eq__,
  dd_Items___init__,
  dd_Items___eq__,
  dd_is_simple,
  dd_check_inner,
  dd_Way___init__,
  dd_Way___eq__,
  dd_Door___init__,
  dd_Door___eq__,
  dd_are_ways,
  dd_Choice___init__,
  dd_Part___init__,
  dd_Room___init__,
  dd_are_parts,
  dd_Row___init__,
  dd_inner_kinds]
def fn_1 : List He.DefD := [dd_called,
  dd_reached,
  dd_missing_name,
  dd_ring_name,
  dd_call_order,
  dd_number_lengths,
  dd_Lengths___init__,
  dd_Lengths_sums,
  dd_Lengths_of_kind,
  dd_Lengths_of_body,
  dd_Lengths_of_named,
  dd_Lengths_of_row,
  dd_Lengths_is_long,
  dd_long_body,
  dd_Plan___init__,
  dd_are_kinds,
  dd_check_parts,
  dd_is_taken,
  dd_last_taken,
  dd_check_rooms,
  dd_Edition___init__,
  dd_check_most,
  dd_way_words,
  dd_AddWay___init__,
  dd_named,
  dd_way_added,
  dd_changed_kind,
  dd_taken,
  dd__law_start,
  dd__law_pull]
def fn_2 : List He.DefD := [dd__law_is_int,
  dd__law_same,
  dd__law_name,
  dd__law_draw_bits,
  dd__law_place,
  dd__law_object,
  dd__law_ordered,
  dd__law_taken,
  dd__law_flip,
  dd__law_gaps,
  dd__law_draw_many_words,
  dd__law_draw_way,
  dd__law_way_reason,
  dd__law_words_right,
  dd__law_later_right,
  dd_law]
def fn : List He.DefD := fn_0 ++ (fn_1 ++ (fn_2))
def fa_0 : List He.Fa := [.glo "is_integer",
  .glo "is_bits",
  .glo "is_name",
  .glo "is_word",
  .glo "begins",
  .meth "Nothing" "__eq__",
  .glo "is_width",
  .meth "Number" "__eq__",
  .meth "Bits" "__eq__",
  .meth "Call" "__eq__",
  .meth "Items" "__eq__",
  .glo "is_simple",
  .glo "check_inner",
  .glo "are_ways",
  .glo "are_parts",
  .glo "inner_kinds",
  .glo "called",
  .glo "reached",
  .glo "missing_name",
  .glo "ring_name",
  .glo "call_order",
  .glo "number_lengths",
  .meth "Lengths" "sums",
  .meth "Lengths" "of_kind",
  .meth "Lengths" "of_body",
  .meth "Lengths" "of_named",
  .meth "Lengths" "of_row",
  .meth "Lengths" "is_long",
  .glo "long_body",
  .glo "are_kinds"]
def fa_1 : List He.Fa := [.glo "check_parts",
  .glo "is_taken",
  .glo "last_taken",
  .glo "check_rooms",
  .glo "check_most",
  .glo "way_words",
  .glo "named",
  .glo "way_added",
  .glo "changed_kind",
  .glo "taken",
  .glo "_law_start",
  .glo "_law_pull",
  .glo "_law_is_int",
  .glo "_law_same",
  .glo "_law_name",
  .glo "_law_draw_bits",
  .glo "_law_place",
  .glo "_law_object",
  .glo "_law_ordered",
  .glo "_law_taken",
  .glo "_law_flip",
  .glo "_law_gaps",
  .glo "_law_draw_many_words",
  .glo "_law_draw_way",
  .glo "_law_way_reason",
  .glo "_law_words_right",
  .glo "_law_later_right",
  .glo "Nothing",
  .keep "Nothing",
  .cls "Nothing"]
def fa_2 : List He.Fa := [.glo "Number",
  .cls "Number",
  .mkr "Number",
  .noat "Number" "low",
  .noat "Number" "high",
  .noat "Number" "width",
  .glo "Bits",
  .cls "Bits",
  .mkr "Bits",
  .noat "Bits" "many",
  .glo "Call",
  .cls "Call",
  .mkr "Call",
  .noat "Call" "name",
  .glo "Items",
  .cls "Items",
  .noat "Items" "item",
  .noat "Items" "width",
  .glo "Way",
  .cls "Way",
  .mkr "Way",
  .noat "Way" "word",
  .noat "Way" "name",
  .noat "Way" "kind",
  .glo "Door",
  .cls "Door",
  .mkr "Door",
  .noat "Door" "word",
  .noat "Door" "name",
  .noat "Door" "kind"]
def fa_3 : List He.Fa := [.glo "Choice",
  .cls "Choice",
  .mkr "Choice",
  .noat "Choice" "ways",
  .glo "Part",
  .cls "Part",
  .mkr "Part",
  .noat "Part" "name",
  .noat "Part" "kind",
  .glo "Room",
  .cls "Room",
  .noat "Room" "word",
  .noat "Room" "name",
  .noat "Room" "kind",
  .glo "Row",
  .cls "Row",
  .mkr "Row",
  .noat "Row" "parts",
  .glo "Lengths",
  .cls "Lengths",
  .mkr "Lengths",
  .noat "Lengths" "count",
  .noat "Lengths" "top",
  .noat "Lengths" "known",
  .glo "Machine",
  .cls "Machine",
  .mkr "Machine",
  .noat "Machine" "named",
  .noat "Machine" "count",
  .noat "Machine" "own"]
def fa_4 : List He.Fa := [.noat "Machine" "most",
  .noat "Machine" "forms",
  .noat "Machine" "places",
  .noat "Machine" "nodes",
  .noat "Machine" "numbers",
  .noat "Machine" "counted",
  .noat "Machine" "rows",
  .noat "Machine" "repeated",
  .noat "Machine" "lacks",
  .noat "Machine" "gone",
  .noat "Machine" "moved",
  .noat "Machine" "tuples",
  .noat "Machine" "states",
  .glo "Edition",
  .cls "Edition",
  .mkr "Edition",
  .noat "Edition" "table",
  .noat "Edition" "root",
  .noat "Edition" "count",
  .noat "Edition" "machine",
  .noat "Edition" "own_machine",
  .glo "AddKind",
  .glo "AddWay",
  .cls "AddWay",
  .mkr "AddWay",
  .noat "AddWay" "name",
  .noat "AddWay" "way",
  .glo "BadKind",
  .noat "BadKind" "part",
  .glo "MissingKind"]
def fa_5 : List He.Fa := [.glo "RingOfCalls",
  .glo "LongBody",
  .glo "RoomTaken",
  .glo "NoStep",
  .exm "NoStep" "NoStep" true,
  .noat "NoStep" "reason",
  .free "all",
  .free "any",
  .free "bool",
  .free "dict",
  .free "enumerate",
  .free "int",
  .free "isinstance",
  .free "len",
  .free "list",
  .free "min",
  .free "range",
  .free "sorted",
  .free "str",
  .free "tuple",
  .str "LETTERS" "abcdefghijklmnopqrstuvwxyz",
  .glo "law"]
def fa : List He.Fa := fa_0 ++ (fa_1 ++ (fa_2 ++ (fa_3 ++ (fa_4 ++ (fa_5)))))
def fx_0 : List (PySem.W.Frag → Bool) := [fun K => propB K (He.ga K "Edition") "kinds" (He.ma K (He.ga K "Edition") "kinds") (pgA K (He.ma K (He.ga K "Edition") "kinds")),
  fun K => supNB K (cdA K ("Counter", some "__init__")) (ccA K ("Counter", some "__init__")) (He.ga K "Counter") supFile,
  fun K => supNB K (cdA K ("Machine", some "__init__")) (ccA K ("Machine", some "__init__")) (He.ga K "Machine") supFile,
  fun K => supCB K (He.ga K "Machine") (He.ga K "Counter") (He.ma K (He.ga K "Plan") "__init__"),
  fun K => PySem.W.fnIn K (He.ma K (He.ga K "Plan") "__init__"),
  fun K => decide (PySem.W.typeIn K (.ref (He.ma K (He.ga K "Plan") "__init__")) = some (.type "function")),
  fun K => supCB K (He.ga K "Machine") (He.ga K "Machine") (He.ma K (He.ga K "Counter") "__init__"),
  fun K => PySem.W.fnIn K (He.ma K (He.ga K "Counter") "__init__"),
  fun K => decide (PySem.W.typeIn K (.ref (He.ma K (He.ga K "Counter") "__init__")) = some (.type "function")),
  fun K => PySem.W.makesIn K (He.ga K "Nothing"),
  fun K => He.eqO (PySem.W.findIn K (.ref (He.ga K "Nothing")) "__init__") (some (some (.builtin "object.__init__"))),
  fun K => clsB K (He.ga K "Nothing") "Nothing",
  fun K => iscB K (He.ga K "Nothing"),
  fun K => gnB K,
  fun K => clsB K (He.ga K "Number") "Number",
  fun K => iscB K (He.ga K "Number"),
  fun K => clsB K (He.ga K "Bits") "Bits",
  fun K => iscB K (He.ga K "Bits"),
  fun K => clsB K (He.ga K "Call") "Call",
  fun K => iscB K (He.ga K "Call")]
def fx_1 : List (PySem.W.Frag → Bool) := [fun K => clsB K (He.ga K "Items") "Items",
  fun K => iscB K (He.ga K "Items"),
  fun K => clsB K (He.ga K "Way") "Way",
  fun K => iscB K (He.ga K "Way"),
  fun K => eqB K (He.ga K "Way") (He.ma K (He.ga K "Way") "__eq__"),
  fun K => clsB K (He.ga K "Door") "Door",
  fun K => iscB K (He.ga K "Door"),
  fun K => eqB K (He.ga K "Door") (He.ma K (He.ga K "Door") "__eq__"),
  fun K => clsB K (He.ga K "Choice") "Choice",
  fun K => iscB K (He.ga K "Choice"),
  fun K => clsB K (He.ga K "Part") "Part",
  fun K => iscB K (He.ga K "Part"),
  fun K => clsB K (He.ga K "Room") "Room",
  fun K => iscB K (He.ga K "Room"),
  fun K => clsB K (He.ga K "Row") "Row",
  fun K => iscB K (He.ga K "Row"),
  fun K => clsB K (He.ga K "AddKind") "AddKind",
  fun K => clsB K (He.ga K "AddWay") "AddWay",
  fun K => iscB K (He.ga K "AddWay"),
  fun K => oexB K (He.ga K "BadKind") [He.ga K "RoomError"]]
def fx_2 : List (PySem.W.Frag → Bool) := [fun K => He.eqO (PySem.W.findIn K (.ref (He.ga K "BadKind")) "__init__") (some (some (.ref (He.ma K (He.ga K "BadKind") "__init__")))),
  fun K => decide (PySem.W.typeIn K (.ref (He.ma K (He.ga K "BadKind") "__init__")) = some (.type "function")),
  fun K => oexB K (He.ga K "NoStep") [He.ga K "RoomError"],
  fun K => xfB K (He.ga K "NoStep"),
  fun K => He.eqO (PySem.W.findIn K (.ref (He.ga K "NoStep")) "__init__") (some (some (.ref (He.ma K (He.ga K "NoStep") "__init__")))),
  fun K => decide (PySem.W.typeIn K (.ref (He.ma K (He.ga K "NoStep") "__init__")) = some (.type "function"))]
def fx : List (PySem.W.Frag → Bool) := fx_0 ++ (fx_1 ++ (fx_2))
def tf : List He.Defn := []
def names_0 : List PySem.Str := ["_wall",
  "RoomError",
  "BadKind",
  "BadEdition",
  "MissingKind",
  "RingOfCalls",
  "LongBody",
  "RoomTaken",
  "NoKind",
  "BadNumber",
  "NoStep",
  "LETTERS",
  "is_integer",
  "is_bits",
  "is_name",
  "is_word",
  "begins",
  "Nothing",
  "is_width",
  "Number",
  "Bits",
  "Call",
  "Items",
  "is_simple",
  "check_inner",
  "Way",
  "Door",
  "are_ways",
  "Choice",
  "Part"]
def names_1 : List PySem.Str := ["Room",
  "are_parts",
  "Row",
  "inner_kinds",
  "called",
  "reached",
  "missing_name",
  "ring_name",
  "call_order",
  "number_lengths",
  "Lengths",
  "long_body",
  "number_form",
  "Plan",
  "single",
  "shifted",
  "plus",
  "times",
  "rounds",
  "Counter",
  "Machine",
  "within",
  "are_kinds",
  "check_parts",
  "is_taken",
  "last_taken",
  "check_rooms",
  "Edition",
  "check_most",
  "way_words"]
def names_2 : List PySem.Str := ["AddKind",
  "AddWay",
  "AddRoom",
  "TellBody",
  "Widen",
  "named",
  "inner_rows",
  "inner_index",
  "with_kind",
  "exchanged",
  "kind_added",
  "way_added",
  "room_added",
  "body_told",
  "wider",
  "number_widened",
  "changed_kind",
  "taken",
  "_law_start",
  "_law_pull",
  "_law_is_int",
  "_law_same",
  "_law_name",
  "_law_draw_bits",
  "_law_place",
  "_law_object",
  "_law_ordered",
  "_law_taken",
  "_law_flip",
  "_law_gaps"]
def names_3 : List PySem.Str := ["_law_draw_many_words",
  "_law_draw_way",
  "_law_way_reason",
  "_law_words_right",
  "_law_later_right"]
def names : List PySem.Str := names_0 ++ (names_1 ++ (names_2 ++ (names_3)))
def ads : List Addr := mainGlobals :: [0, 1, 2, 3, 4, 5, 6, 7, 8, 9, 10, 11, 12, 13, 14, 15, 16, 17, 18, 19, 20, 21, 22, 23, 24, 25, 26, 27, 28, 29, 30, 31, 47, 48, 50, 51, 69, 70, 88, 89, 107, 108, 126, 127, 145, 146, 157, 158, 176, 177, 192, 193, 195, 196, 204, 205, 211, 212, 218, 219, 225, 226, 232, 233, 246, 247, 249, 250, 260, 261, 269, 275, 276, 282, 283, 285, 286, 303, 304, 310, 311, 313, 314, 331, 332, 338, 339, 341, 342, 354, 360, 361, 367, 368, 370, 371, 381, 382, 388, 389, 402, 403, 409, 410, 412, 413, 430, 431, 437, 438, 440, 441, 451, 452, 465, 466, 475, 476, 493, 494, 503, 504, 521, 522, 531, 532, 542, 543, 556, 557, 566, 567, 575, 576, 582, 583, 589, 590, 594, 595, 601, 602, 606, 607, 613, 614, 627, 628, 632, 633, 637, 638, 649, 650, 654, 655, 661, 662, 668, 669, 671, 672, 680, 681, 696, 702, 703, 771, 772, 813, 818, 825, 826, 925, 926, 932, 937, 944, 945, 1071, 1072, 1087, 1088, 1094, 1095, 1101, 1102, 1108, 1109, 1113, 1114, 1125, 1126, 1130, 1131, 1132, 1141, 1142, 1152, 1153, 1157, 1158, 1181, 1182, 1199, 1200, 1209, 1210, 1237, 1238, 1265, 1266, 1293, 1294, 1304, 1305, 1344, 1345, 1377, 1378, 1384, 1385, 1391, 1392, 1398, 1399, 1405, 1406, 1412, 1413, 1419, 1420, 1426, 1427, 1433, 1434, 1438, 1439, 1443, 1444, 1450, 1451, 1457, 1458, 1462, 1463, 1469, 1470, 1476, 1477, 1481, 1482, 1486, 1487, 1493, 1494, 1498, 1499]
def fc : List CloD := [dc_Counter___init__, dc_Machine___init__]
abbrev hk : PySem.W.Hook := hookP ads fa fn fc fp tf fx
def ob (s : PySem.W.SharedT) : AlP := obsP ads fa fn fc fp tf fx (HandSHeadRun.getT s)
theorem ob_eq (s : PySem.W.SharedT) : ob s = hk.obs s.abs := obsP_eq (HandSHeadRun.getT_eq s)
def obB (s : PySem.W.SharedT) : AlP := obsP ads fa [] [] [] tf fx (HandSHeadRun.getT s)
def obC (s : PySem.W.SharedT) : AlP := obsP ads [] fn fc fp [] [] (HandSHeadRun.getT s)
theorem runA (w : World) : RunA (PySem.W.OpenLaw.row PySem.Challenge.rw_roomleft_k41_words_of_further_ways) (PySem.W.view (PySem.W.OpenLaw.row PySem.Challenge.rw_roomleft_k41_words_of_further_ways).prog [106]) 20000 names w := by
  intro os
  kernel_rfl
theorem runB (w : World) : RunO (PySem.W.OpenLaw.row PySem.Challenge.rw_roomleft_k41_words_of_further_ways) 20000 w obB (((He.valD [], true), ([], true)), ([], true)) := by
  intro os
  kernel_rfl
theorem runC (w : World) : RunO (PySem.W.OpenLaw.row PySem.Challenge.rw_roomleft_k41_words_of_further_ways) 20000 w obC (((He.valD fn, true), (fc.map CloD.val, true)), (fp.map He5.DefA.val, true)) := by
  intro os
  kernel_rfl
theorem run (w : World) : HandSHeadRun.RunEq (PySem.W.OpenLaw.row PySem.Challenge.rw_roomleft_k41_words_of_further_ways) (PySem.W.view (PySem.W.OpenLaw.row PySem.Challenge.rw_roomleft_k41_words_of_further_ways).prog [106]) hk ob 20000 names w := run_join (runA w) (runB w) (runC w) fun s b c => obsP_join b c
structure Ad where
  f_BadKind___init__ : Addr
  d_BadKind___init__ : FuncData
  f_NoStep___init__ : Addr
  d_NoStep___init__ : FuncData
  f_is_integer : Addr
  d_is_integer : FuncData
  f_is_bits : Addr
  d_is_bits : FuncData
  f_is_name : Addr
  d_is_name : FuncData
  f_is_word : Addr
  d_is_word : FuncData
  f_begins : Addr
  d_begins : FuncData
  f_Nothing___eq__ : Addr
  d_Nothing___eq__ : FuncData
  f_is_width : Addr
  d_is_width : FuncData
  f_Number___init__ : Addr
  d_Number___init__ : FuncData
  f_Number___eq__ : Addr
  d_Number___eq__ : FuncData
  f_Bits___init__ : Addr
  d_Bits___init__ : FuncData
  f_Bits___eq__ : Addr
  d_Bits___eq__ : FuncData
  f_Call___init__ : Addr
  d_Call___init__ : FuncData
  f_Call___eq__ : Addr
  d_Call___eq__ : FuncData
  f_Items___init__ : Addr
  d_Items___init__ : FuncData
  f_Items___eq__ : Addr
  d_Items___eq__ : FuncData
  f_is_simple : Addr
  d_is_simple : FuncData
  f_check_inner : Addr
  d_check_inner : FuncData
  f_Way___init__ : Addr
  d_Way___init__ : FuncData
  f_Way___eq__ : Addr
  d_Way___eq__ : FuncData
  f_Door___init__ : Addr
  d_Door___init__ : FuncData
  f_Door___eq__ : Addr
  d_Door___eq__ : FuncData
  f_are_ways : Addr
  d_are_ways : FuncData
  f_Choice___init__ : Addr
  d_Choice___init__ : FuncData
  f_Part___init__ : Addr
  d_Part___init__ : FuncData
  f_Room___init__ : Addr
  d_Room___init__ : FuncData
  f_are_parts : Addr
  d_are_parts : FuncData
  f_Row___init__ : Addr
  d_Row___init__ : FuncData
  f_inner_kinds : Addr
  d_inner_kinds : FuncData
  f_called : Addr
  d_called : FuncData
  f_reached : Addr
  d_reached : FuncData
  f_missing_name : Addr
  d_missing_name : FuncData
  f_ring_name : Addr
  d_ring_name : FuncData
  f_call_order : Addr
  d_call_order : FuncData
  f_number_lengths : Addr
  d_number_lengths : FuncData
  f_Lengths___init__ : Addr
  d_Lengths___init__ : FuncData
  f_Lengths_sums : Addr
  d_Lengths_sums : FuncData
  f_Lengths_of_kind : Addr
  d_Lengths_of_kind : FuncData
  f_Lengths_of_body : Addr
  d_Lengths_of_body : FuncData
  f_Lengths_of_named : Addr
  d_Lengths_of_named : FuncData
  f_Lengths_of_row : Addr
  d_Lengths_of_row : FuncData
  f_Lengths_is_long : Addr
  d_Lengths_is_long : FuncData
  f_long_body : Addr
  d_long_body : FuncData
  f_Plan___init__ : Addr
  d_Plan___init__ : FuncData
  f_Counter___init__ : Addr
  d_Counter___init__ : FuncData
  cd_Counter___init__ : Addr
  cc_Counter___init__ : Addr
  f_Machine___init__ : Addr
  d_Machine___init__ : FuncData
  cd_Machine___init__ : Addr
  cc_Machine___init__ : Addr
  f_are_kinds : Addr
  d_are_kinds : FuncData
  f_check_parts : Addr
  d_check_parts : FuncData
  f_is_taken : Addr
  d_is_taken : FuncData
  f_last_taken : Addr
  d_last_taken : FuncData
  f_check_rooms : Addr
  d_check_rooms : FuncData
  f_Edition___init__ : Addr
  d_Edition___init__ : FuncData
  f_Edition_kinds : Addr
  d_Edition_kinds : FuncData
  p_Edition_kinds : Addr
  f_check_most : Addr
  d_check_most : FuncData
  f_way_words : Addr
  d_way_words : FuncData
  f_AddWay___init__ : Addr
  d_AddWay___init__ : FuncData
  f_named : Addr
  d_named : FuncData
  f_way_added : Addr
  d_way_added : FuncData
  f_changed_kind : Addr
  d_changed_kind : FuncData
  f_taken : Addr
  d_taken : FuncData
  f__law_start : Addr
  d__law_start : FuncData
  f__law_pull : Addr
  d__law_pull : FuncData
  f__law_is_int : Addr
  d__law_is_int : FuncData
  f__law_same : Addr
  d__law_same : FuncData
  f__law_name : Addr
  d__law_name : FuncData
  f__law_draw_bits : Addr
  d__law_draw_bits : FuncData
  f__law_place : Addr
  d__law_place : FuncData
  f__law_object : Addr
  d__law_object : FuncData
  f__law_ordered : Addr
  d__law_ordered : FuncData
  f__law_taken : Addr
  d__law_taken : FuncData
  f__law_flip : Addr
  d__law_flip : FuncData
  f__law_gaps : Addr
  d__law_gaps : FuncData
  f__law_draw_many_words : Addr
  d__law_draw_many_words : FuncData
  f__law_draw_way : Addr
  d__law_draw_way : FuncData
  f__law_way_reason : Addr
  d__law_way_reason : FuncData
  f__law_words_right : Addr
  d__law_words_right : FuncData
  f__law_later_right : Addr
  d__law_later_right : FuncData
  f_law : Addr
  d_law : FuncData
  c_Nothing : Addr
  c_Number : Addr
  c_Bits : Addr
  c_Call : Addr
  c_Items : Addr
  c_Way : Addr
  c_Door : Addr
  c_Choice : Addr
  c_Part : Addr
  c_Room : Addr
  c_Row : Addr
  c_Lengths : Addr
  c_Counter : Addr
  c_Machine : Addr
  c_Edition : Addr
  c_AddKind : Addr
  c_AddWay : Addr
  c_BadKind : Addr
  c_MissingKind : Addr
  c_RingOfCalls : Addr
  c_LongBody : Addr
  c_RoomTaken : Addr
  c_NoKind : Addr
  c_NoStep : Addr

structure Txt (K : PySem.W.Frag) (mg : Str → Option Value) (A : Ad) : Prop where
  F_BadKind___init__ : Fun K "__init__" "BadKind.__init__" s_BadKind___init__ A.f_BadKind___init__ A.d_BadKind___init__
  b_BadKind___init__ : Binds K A.d_BadKind___init__ ["self", "part"] []
  F_NoStep___init__ : Fun K "__init__" "NoStep.__init__" s_NoStep___init__ A.f_NoStep___init__ A.d_NoStep___init__
  b_NoStep___init__ : Binds K A.d_NoStep___init__ ["self", "reason"] []
  F_is_integer : Fun K "is_integer" "is_integer" s_is_integer A.f_is_integer A.d_is_integer
  k_is_integer : PySem.W.keepIn K (.ref A.f_is_integer) = true
  b_is_integer : Binds K A.d_is_integer ["thing"] []
  mg_is_integer : mg "is_integer" = some (.ref A.f_is_integer)
  F_is_bits : Fun K "is_bits" "is_bits" s_is_bits A.f_is_bits A.d_is_bits
  k_is_bits : PySem.W.keepIn K (.ref A.f_is_bits) = true
  b_is_bits : Binds K A.d_is_bits ["thing"] []
  mg_is_bits : mg "is_bits" = some (.ref A.f_is_bits)
  F_is_name : Fun K "is_name" "is_name" s_is_name A.f_is_name A.d_is_name
  k_is_name : PySem.W.keepIn K (.ref A.f_is_name) = true
  b_is_name : Binds K A.d_is_name ["thing"] []
  mg_is_name : mg "is_name" = some (.ref A.f_is_name)
  F_is_word : Fun K "is_word" "is_word" s_is_word A.f_is_word A.d_is_word
  k_is_word : PySem.W.keepIn K (.ref A.f_is_word) = true
  b_is_word : Binds K A.d_is_word ["thing"] []
  mg_is_word : mg "is_word" = some (.ref A.f_is_word)
  F_begins : Fun K "begins" "begins" s_begins A.f_begins A.d_begins
  k_begins : PySem.W.keepIn K (.ref A.f_begins) = true
  b_begins : Binds K A.d_begins ["one", "other"] []
  mg_begins : mg "begins" = some (.ref A.f_begins)
  F_Nothing___eq__ : Fun K "__eq__" "Nothing.__eq__" s_Nothing___eq__ A.f_Nothing___eq__ A.d_Nothing___eq__
  b_Nothing___eq__ : Binds K A.d_Nothing___eq__ ["self", "other"] []
  m_Nothing___eq__ : PySem.W.findIn K (.ref A.c_Nothing) "__eq__" = some (some (.ref A.f_Nothing___eq__))
  i_Nothing___eq__ : PySem.W.isFn K (.ref A.f_Nothing___eq__) = true
  F_is_width : Fun K "is_width" "is_width" s_is_width A.f_is_width A.d_is_width
  k_is_width : PySem.W.keepIn K (.ref A.f_is_width) = true
  b_is_width : Binds K A.d_is_width ["width", "many"] []
  mg_is_width : mg "is_width" = some (.ref A.f_is_width)
  F_Number___init__ : FunD K "__init__" "Number.__init__" (defArgs s_Number___init__) (defBody s_Number___init__) (defScope s_Number___init__) [.non] [] A.f_Number___init__ A.d_Number___init__
  b1_Number___init__ : Binds K A.d_Number___init__ ["self", "low", "high", "width"] [Value.none]
  b_Number___init__ : Binds K A.d_Number___init__ ["self", "low", "high", "width"] []
  F_Number___eq__ : Fun K "__eq__" "Number.__eq__" s_Number___eq__ A.f_Number___eq__ A.d_Number___eq__
  b_Number___eq__ : Binds K A.d_Number___eq__ ["self", "other"] []
  m_Number___eq__ : PySem.W.findIn K (.ref A.c_Number) "__eq__" = some (some (.ref A.f_Number___eq__))
  i_Number___eq__ : PySem.W.isFn K (.ref A.f_Number___eq__) = true
  F_Bits___init__ : Fun K "__init__" "Bits.__init__" s_Bits___init__ A.f_Bits___init__ A.d_Bits___init__
  b_Bits___init__ : Binds K A.d_Bits___init__ ["self", "many"] []
  F_Bits___eq__ : Fun K "__eq__" "Bits.__eq__" s_Bits___eq__ A.f_Bits___eq__ A.d_Bits___eq__
  b_Bits___eq__ : Binds K A.d_Bits___eq__ ["self", "other"] []
  m_Bits___eq__ : PySem.W.findIn K (.ref A.c_Bits) "__eq__" = some (some (.ref A.f_Bits___eq__))
  i_Bits___eq__ : PySem.W.isFn K (.ref A.f_Bits___eq__) = true
  F_Call___init__ : Fun K "__init__" "Call.__init__" s_Call___init__ A.f_Call___init__ A.d_Call___init__
  b_Call___init__ : Binds K A.d_Call___init__ ["self", "name"] []
  F_Call___eq__ : Fun K "__eq__" "Call.__eq__" s_Call___eq__ A.f_Call___eq__ A.d_Call___eq__
  b_Call___eq__ : Binds K A.d_Call___eq__ ["self", "other"] []
  m_Call___eq__ : PySem.W.findIn K (.ref A.c_Call) "__eq__" = some (some (.ref A.f_Call___eq__))
  i_Call___eq__ : PySem.W.isFn K (.ref A.f_Call___eq__) = true
  F_Items___init__ : FunD K "__init__" "Items.__init__" (defArgs s_Items___init__) (defBody s_Items___init__) (defScope s_Items___init__) [.non] [] A.f_Items___init__ A.d_Items___init__
  F_Items___eq__ : Fun K "__eq__" "Items.__eq__" s_Items___eq__ A.f_Items___eq__ A.d_Items___eq__
  b_Items___eq__ : Binds K A.d_Items___eq__ ["self", "other"] []
  m_Items___eq__ : PySem.W.findIn K (.ref A.c_Items) "__eq__" = some (some (.ref A.f_Items___eq__))
  i_Items___eq__ : PySem.W.isFn K (.ref A.f_Items___eq__) = true
  F_is_simple : Fun K "is_simple" "is_simple" s_is_simple A.f_is_simple A.d_is_simple
  k_is_simple : PySem.W.keepIn K (.ref A.f_is_simple) = true
  b_is_simple : Binds K A.d_is_simple ["thing"] []
  mg_is_simple : mg "is_simple" = some (.ref A.f_is_simple)
  F_check_inner : Fun K "check_inner" "check_inner" s_check_inner A.f_check_inner A.d_check_inner
  k_check_inner : PySem.W.keepIn K (.ref A.f_check_inner) = true
  b_check_inner : Binds K A.d_check_inner ["word", "name", "is_kind"] []
  mg_check_inner : mg "check_inner" = some (.ref A.f_check_inner)
  F_Way___init__ : Fun K "__init__" "Way.__init__" s_Way___init__ A.f_Way___init__ A.d_Way___init__
  b_Way___init__ : Binds K A.d_Way___init__ ["self", "word", "name", "kind"] []
  F_Way___eq__ : Fun K "__eq__" "Way.__eq__" s_Way___eq__ A.f_Way___eq__ A.d_Way___eq__
  b_Way___eq__ : Binds K A.d_Way___eq__ ["self", "other"] []
  F_Door___init__ : Fun K "__init__" "Door.__init__" s_Door___init__ A.f_Door___init__ A.d_Door___init__
  b_Door___init__ : Binds K A.d_Door___init__ ["self", "word", "name", "kind"] []
  F_Door___eq__ : Fun K "__eq__" "Door.__eq__" s_Door___eq__ A.f_Door___eq__ A.d_Door___eq__
  b_Door___eq__ : Binds K A.d_Door___eq__ ["self", "other"] []
  F_are_ways : Fun K "are_ways" "are_ways" s_are_ways A.f_are_ways A.d_are_ways
  k_are_ways : PySem.W.keepIn K (.ref A.f_are_ways) = true
  b_are_ways : Binds K A.d_are_ways ["ways"] []
  mg_are_ways : mg "are_ways" = some (.ref A.f_are_ways)
  F_Choice___init__ : Fun K "__init__" "Choice.__init__" s_Choice___init__ A.f_Choice___init__ A.d_Choice___init__
  b_Choice___init__ : Binds K A.d_Choice___init__ ["self", "ways"] []
  F_Part___init__ : Fun K "__init__" "Part.__init__" s_Part___init__ A.f_Part___init__ A.d_Part___init__
  b_Part___init__ : Binds K A.d_Part___init__ ["self", "name", "kind"] []
  F_Room___init__ : Fun K "__init__" "Room.__init__" s_Room___init__ A.f_Room___init__ A.d_Room___init__
  F_are_parts : Fun K "are_parts" "are_parts" s_are_parts A.f_are_parts A.d_are_parts
  k_are_parts : PySem.W.keepIn K (.ref A.f_are_parts) = true
  b_are_parts : Binds K A.d_are_parts ["parts"] []
  mg_are_parts : mg "are_parts" = some (.ref A.f_are_parts)
  F_Row___init__ : Fun K "__init__" "Row.__init__" s_Row___init__ A.f_Row___init__ A.d_Row___init__
  b_Row___init__ : Binds K A.d_Row___init__ ["self", "parts"] []
  F_inner_kinds : Fun K "inner_kinds" "inner_kinds" s_inner_kinds A.f_inner_kinds A.d_inner_kinds
  k_inner_kinds : PySem.W.keepIn K (.ref A.f_inner_kinds) = true
  b_inner_kinds : Binds K A.d_inner_kinds ["kind"] []
  mg_inner_kinds : mg "inner_kinds" = some (.ref A.f_inner_kinds)
  F_called : Fun K "called" "called" s_called A.f_called A.d_called
  k_called : PySem.W.keepIn K (.ref A.f_called) = true
  b_called : Binds K A.d_called ["kind"] []
  mg_called : mg "called" = some (.ref A.f_called)
  F_reached : Fun K "reached" "reached" s_reached A.f_reached A.d_reached
  k_reached : PySem.W.keepIn K (.ref A.f_reached) = true
  b_reached : Binds K A.d_reached ["table", "name"] []
  mg_reached : mg "reached" = some (.ref A.f_reached)
  F_missing_name : Fun K "missing_name" "missing_name" s_missing_name A.f_missing_name A.d_missing_name
  k_missing_name : PySem.W.keepIn K (.ref A.f_missing_name) = true
  b_missing_name : Binds K A.d_missing_name ["table"] []
  mg_missing_name : mg "missing_name" = some (.ref A.f_missing_name)
  F_ring_name : Fun K "ring_name" "ring_name" s_ring_name A.f_ring_name A.d_ring_name
  k_ring_name : PySem.W.keepIn K (.ref A.f_ring_name) = true
  b_ring_name : Binds K A.d_ring_name ["table"] []
  mg_ring_name : mg "ring_name" = some (.ref A.f_ring_name)
  F_call_order : Fun K "call_order" "call_order" s_call_order A.f_call_order A.d_call_order
  k_call_order : PySem.W.keepIn K (.ref A.f_call_order) = true
  b_call_order : Binds K A.d_call_order ["table"] []
  mg_call_order : mg "call_order" = some (.ref A.f_call_order)
  F_number_lengths : Fun K "number_lengths" "number_lengths" s_number_lengths A.f_number_lengths A.d_number_lengths
  k_number_lengths : PySem.W.keepIn K (.ref A.f_number_lengths) = true
  b_number_lengths : Binds K A.d_number_lengths ["kind"] []
  mg_number_lengths : mg "number_lengths" = some (.ref A.f_number_lengths)
  F_Lengths___init__ : Fun K "__init__" "Lengths.__init__" s_Lengths___init__ A.f_Lengths___init__ A.d_Lengths___init__
  b_Lengths___init__ : Binds K A.d_Lengths___init__ ["self", "table", "count"] []
  F_Lengths_sums : Fun K "sums" "Lengths.sums" s_Lengths_sums A.f_Lengths_sums A.d_Lengths_sums
  k_Lengths_sums : PySem.W.keepIn K (.ref A.f_Lengths_sums) = true
  b_Lengths_sums : Binds K A.d_Lengths_sums ["self", "ones", "others"] []
  m_Lengths_sums : PySem.W.findIn K (.ref A.c_Lengths) "sums" = some (some (.ref A.f_Lengths_sums))
  i_Lengths_sums : PySem.W.isFn K (.ref A.f_Lengths_sums) = true
  F_Lengths_of_kind : Fun K "of_kind" "Lengths.of_kind" s_Lengths_of_kind A.f_Lengths_of_kind A.d_Lengths_of_kind
  k_Lengths_of_kind : PySem.W.keepIn K (.ref A.f_Lengths_of_kind) = true
  b_Lengths_of_kind : Binds K A.d_Lengths_of_kind ["self", "kind"] []
  m_Lengths_of_kind : PySem.W.findIn K (.ref A.c_Lengths) "of_kind" = some (some (.ref A.f_Lengths_of_kind))
  i_Lengths_of_kind : PySem.W.isFn K (.ref A.f_Lengths_of_kind) = true
  F_Lengths_of_body : Fun K "of_body" "Lengths.of_body" s_Lengths_of_body A.f_Lengths_of_body A.d_Lengths_of_body
  k_Lengths_of_body : PySem.W.keepIn K (.ref A.f_Lengths_of_body) = true
  b_Lengths_of_body : Binds K A.d_Lengths_of_body ["self", "word", "kind"] []
  m_Lengths_of_body : PySem.W.findIn K (.ref A.c_Lengths) "of_body" = some (some (.ref A.f_Lengths_of_body))
  i_Lengths_of_body : PySem.W.isFn K (.ref A.f_Lengths_of_body) = true
  F_Lengths_of_named : Fun K "of_named" "Lengths.of_named" s_Lengths_of_named A.f_Lengths_of_named A.d_Lengths_of_named
  k_Lengths_of_named : PySem.W.keepIn K (.ref A.f_Lengths_of_named) = true
  b_Lengths_of_named : Binds K A.d_Lengths_of_named ["self", "kind"] []
  m_Lengths_of_named : PySem.W.findIn K (.ref A.c_Lengths) "of_named" = some (some (.ref A.f_Lengths_of_named))
  i_Lengths_of_named : PySem.W.isFn K (.ref A.f_Lengths_of_named) = true
  F_Lengths_of_row : Fun K "of_row" "Lengths.of_row" s_Lengths_of_row A.f_Lengths_of_row A.d_Lengths_of_row
  k_Lengths_of_row : PySem.W.keepIn K (.ref A.f_Lengths_of_row) = true
  b_Lengths_of_row : Binds K A.d_Lengths_of_row ["self", "kind"] []
  m_Lengths_of_row : PySem.W.findIn K (.ref A.c_Lengths) "of_row" = some (some (.ref A.f_Lengths_of_row))
  i_Lengths_of_row : PySem.W.isFn K (.ref A.f_Lengths_of_row) = true
  F_Lengths_is_long : Fun K "is_long" "Lengths.is_long" s_Lengths_is_long A.f_Lengths_is_long A.d_Lengths_is_long
  k_Lengths_is_long : PySem.W.keepIn K (.ref A.f_Lengths_is_long) = true
  b_Lengths_is_long : Binds K A.d_Lengths_is_long ["self", "kind"] []
  m_Lengths_is_long : PySem.W.findIn K (.ref A.c_Lengths) "is_long" = some (some (.ref A.f_Lengths_is_long))
  i_Lengths_is_long : PySem.W.isFn K (.ref A.f_Lengths_is_long) = true
  F_long_body : Fun K "long_body" "long_body" s_long_body A.f_long_body A.d_long_body
  k_long_body : PySem.W.keepIn K (.ref A.f_long_body) = true
  b_long_body : Binds K A.d_long_body ["table", "count"] []
  mg_long_body : mg "long_body" = some (.ref A.f_long_body)
  F_Plan___init__ : FunD K "__init__" "Plan.__init__" (defArgs s_Plan___init__) (defBody s_Plan___init__) (defScope s_Plan___init__) [.bl false] [] A.f_Plan___init__ A.d_Plan___init__
  b_Plan___init__ : Binds K A.d_Plan___init__ ["self", "named", "count", "own"] []
  F_Counter___init__ : SupD K "__init__" "Counter.__init__" (defArgs s_Counter___init__) (defBody s_Counter___init__) (defScope s_Counter___init__) [.bl false] A.f_Counter___init__ A.d_Counter___init__ A.cd_Counter___init__ A.cc_Counter___init__
  sn_Counter___init__ : SupN K A.cd_Counter___init__ A.cc_Counter___init__ A.c_Counter supFile
  su_Counter___init___Machine : SupC K A.c_Machine A.c_Counter A.f_Plan___init__
  sf_Counter___init__ : PySem.W.fnIn K A.f_Plan___init__ = true
  st_Counter___init__ : PySem.W.typeIn K (.ref A.f_Plan___init__) = some (.type "function")
  b_Counter___init__ : Binds K A.d_Counter___init__ ["self", "named", "count", "own"] []
  F_Machine___init__ : SupD K "__init__" "Machine.__init__" (defArgs s_Machine___init__) (defBody s_Machine___init__) (defScope s_Machine___init__) [.bl false] A.f_Machine___init__ A.d_Machine___init__ A.cd_Machine___init__ A.cc_Machine___init__
  sn_Machine___init__ : SupN K A.cd_Machine___init__ A.cc_Machine___init__ A.c_Machine supFile
  b1_Machine___init__ : Binds K A.d_Machine___init__ ["self", "named", "count", "own"] [Value.bool false]
  su_Machine___init___Machine : SupC K A.c_Machine A.c_Machine A.f_Counter___init__
  sf_Machine___init__ : PySem.W.fnIn K A.f_Counter___init__ = true
  st_Machine___init__ : PySem.W.typeIn K (.ref A.f_Counter___init__) = some (.type "function")
  F_are_kinds : Fun K "are_kinds" "are_kinds" s_are_kinds A.f_are_kinds A.d_are_kinds
  k_are_kinds : PySem.W.keepIn K (.ref A.f_are_kinds) = true
  b_are_kinds : Binds K A.d_are_kinds ["kinds"] []
  mg_are_kinds : mg "are_kinds" = some (.ref A.f_are_kinds)
  F_check_parts : Fun K "check_parts" "check_parts" s_check_parts A.f_check_parts A.d_check_parts
  k_check_parts : PySem.W.keepIn K (.ref A.f_check_parts) = true
  b_check_parts : Binds K A.d_check_parts ["kinds", "root", "count"] []
  mg_check_parts : mg "check_parts" = some (.ref A.f_check_parts)
  k_is_taken : PySem.W.keepIn K (.ref A.f_is_taken) = true
  b_is_taken : Binds K A.d_is_taken ["machine", "name", "index"] []
  mg_is_taken : mg "is_taken" = some (.ref A.f_is_taken)
  F_last_taken : Fun K "last_taken" "last_taken" s_last_taken A.f_last_taken A.d_last_taken
  k_last_taken : PySem.W.keepIn K (.ref A.f_last_taken) = true
  b_last_taken : Binds K A.d_last_taken ["machine", "name"] []
  mg_last_taken : mg "last_taken" = some (.ref A.f_last_taken)
  F_check_rooms : Fun K "check_rooms" "check_rooms" s_check_rooms A.f_check_rooms A.d_check_rooms
  k_check_rooms : PySem.W.keepIn K (.ref A.f_check_rooms) = true
  b_check_rooms : Binds K A.d_check_rooms ["machine"] []
  mg_check_rooms : mg "check_rooms" = some (.ref A.f_check_rooms)
  F_Edition___init__ : Fun K "__init__" "Edition.__init__" s_Edition___init__ A.f_Edition___init__ A.d_Edition___init__
  b_Edition___init__ : Binds K A.d_Edition___init__ ["self", "kinds", "root", "count"] []
  F_Edition_kinds : Fun K "kinds" "Edition.kinds" s_Edition_kinds A.f_Edition_kinds A.d_Edition_kinds
  b_Edition_kinds : Binds K A.d_Edition_kinds ["self"] []
  pr_Edition_kinds : PropOf K A.c_Edition "kinds" A.p_Edition_kinds A.f_Edition_kinds
  F_check_most : Fun K "check_most" "check_most" s_check_most A.f_check_most A.d_check_most
  k_check_most : PySem.W.keepIn K (.ref A.f_check_most) = true
  b_check_most : Binds K A.d_check_most ["most"] []
  mg_check_most : mg "check_most" = some (.ref A.f_check_most)
  F_way_words : Fun K "way_words" "way_words" s_way_words A.f_way_words A.d_way_words
  k_way_words : PySem.W.keepIn K (.ref A.f_way_words) = true
  b_way_words : Binds K A.d_way_words ["edition", "name", "most"] []
  mg_way_words : mg "way_words" = some (.ref A.f_way_words)
  F_AddWay___init__ : Fun K "__init__" "AddWay.__init__" s_AddWay___init__ A.f_AddWay___init__ A.d_AddWay___init__
  b_AddWay___init__ : Binds K A.d_AddWay___init__ ["self", "name", "way"] []
  F_named : Fun K "named" "named" s_named A.f_named A.d_named
  k_named : PySem.W.keepIn K (.ref A.f_named) = true
  b_named : Binds K A.d_named ["table", "name"] []
  mg_named : mg "named" = some (.ref A.f_named)
  F_way_added : Fun K "way_added" "way_added" s_way_added A.f_way_added A.d_way_added
  k_way_added : PySem.W.keepIn K (.ref A.f_way_added) = true
  b_way_added : Binds K A.d_way_added ["table", "step"] []
  mg_way_added : mg "way_added" = some (.ref A.f_way_added)
  F_changed_kind : Fun K "changed_kind" "changed_kind" s_changed_kind A.f_changed_kind A.d_changed_kind
  k_changed_kind : PySem.W.keepIn K (.ref A.f_changed_kind) = true
  b_changed_kind : Binds K A.d_changed_kind ["table", "step"] []
  mg_changed_kind : mg "changed_kind" = some (.ref A.f_changed_kind)
  F_taken : Fun K "taken" "taken" s_taken A.f_taken A.d_taken
  k_taken : PySem.W.keepIn K (.ref A.f_taken) = true
  b_taken : Binds K A.d_taken ["edition", "step"] []
  mg_taken : mg "taken" = some (.ref A.f_taken)
  F__law_start : Fun K "_law_start" "_law_start" s__law_start A.f__law_start A.d__law_start
  k__law_start : PySem.W.keepIn K (.ref A.f__law_start) = true
  b__law_start : Binds K A.d__law_start ["script"] []
  mg__law_start : mg "_law_start" = some (.ref A.f__law_start)
  F__law_pull : Fun K "_law_pull" "_law_pull" s__law_pull A.f__law_pull A.d__law_pull
  k__law_pull : PySem.W.keepIn K (.ref A.f__law_pull) = true
  b__law_pull : Binds K A.d__law_pull ["state", "many"] []
  mg__law_pull : mg "_law_pull" = some (.ref A.f__law_pull)
  F__law_is_int : Fun K "_law_is_int" "_law_is_int" s__law_is_int A.f__law_is_int A.d__law_is_int
  k__law_is_int : PySem.W.keepIn K (.ref A.f__law_is_int) = true
  b__law_is_int : Binds K A.d__law_is_int ["told"] []
  mg__law_is_int : mg "_law_is_int" = some (.ref A.f__law_is_int)
  F__law_same : Fun K "_law_same" "_law_same" s__law_same A.f__law_same A.d__law_same
  k__law_same : PySem.W.keepIn K (.ref A.f__law_same) = true
  b__law_same : Binds K A.d__law_same ["told", "due"] []
  mg__law_same : mg "_law_same" = some (.ref A.f__law_same)
  F__law_name : Fun K "_law_name" "_law_name" s__law_name A.f__law_name A.d__law_name
  k__law_name : PySem.W.keepIn K (.ref A.f__law_name) = true
  b__law_name : Binds K A.d__law_name ["state", "used"] []
  mg__law_name : mg "_law_name" = some (.ref A.f__law_name)
  F__law_draw_bits : Fun K "_law_draw_bits" "_law_draw_bits" s__law_draw_bits A.f__law_draw_bits A.d__law_draw_bits
  k__law_draw_bits : PySem.W.keepIn K (.ref A.f__law_draw_bits) = true
  b__law_draw_bits : Binds K A.d__law_draw_bits ["state", "many"] []
  mg__law_draw_bits : mg "_law_draw_bits" = some (.ref A.f__law_draw_bits)
  F__law_place : Fun K "_law_place" "_law_place" s__law_place A.f__law_place A.d__law_place
  k__law_place : PySem.W.keepIn K (.ref A.f__law_place) = true
  b__law_place : Binds K A.d__law_place ["place"] []
  mg__law_place : mg "_law_place" = some (.ref A.f__law_place)
  F__law_object : Fun K "_law_object" "_law_object" s__law_object A.f__law_object A.d__law_object
  k__law_object : PySem.W.keepIn K (.ref A.f__law_object) = true
  b__law_object : Binds K A.d__law_object ["kind"] []
  mg__law_object : mg "_law_object" = some (.ref A.f__law_object)
  F__law_ordered : Fun K "_law_ordered" "_law_ordered" s__law_ordered A.f__law_ordered A.d__law_ordered
  k__law_ordered : PySem.W.keepIn K (.ref A.f__law_ordered) = true
  b__law_ordered : Binds K A.d__law_ordered ["rows"] []
  mg__law_ordered : mg "_law_ordered" = some (.ref A.f__law_ordered)
  F__law_taken : Fun K "_law_taken" "_law_taken" s__law_taken A.f__law_taken A.d__law_taken
  k__law_taken : PySem.W.keepIn K (.ref A.f__law_taken) = true
  b__law_taken : Binds K A.d__law_taken ["edition", "step"] []
  mg__law_taken : mg "_law_taken" = some (.ref A.f__law_taken)
  F__law_flip : Fun K "_law_flip" "_law_flip" s__law_flip A.f__law_flip A.d__law_flip
  k__law_flip : PySem.W.keepIn K (.ref A.f__law_flip) = true
  b__law_flip : Binds K A.d__law_flip ["bit"] []
  mg__law_flip : mg "_law_flip" = some (.ref A.f__law_flip)
  F__law_gaps : Fun K "_law_gaps" "_law_gaps" s__law_gaps A.f__law_gaps A.d__law_gaps
  k__law_gaps : PySem.W.keepIn K (.ref A.f__law_gaps) = true
  b__law_gaps : Binds K A.d__law_gaps ["words"] []
  mg__law_gaps : mg "_law_gaps" = some (.ref A.f__law_gaps)
  F__law_draw_many_words : Fun K "_law_draw_many_words" "_law_draw_many_words" s__law_draw_many_words A.f__law_draw_many_words A.d__law_draw_many_words
  k__law_draw_many_words : PySem.W.keepIn K (.ref A.f__law_draw_many_words) = true
  b__law_draw_many_words : Binds K A.d__law_draw_many_words ["state"] []
  mg__law_draw_many_words : mg "_law_draw_many_words" = some (.ref A.f__law_draw_many_words)
  F__law_draw_way : Fun K "_law_draw_way" "_law_draw_way" s__law_draw_way A.f__law_draw_way A.d__law_draw_way
  k__law_draw_way : PySem.W.keepIn K (.ref A.f__law_draw_way) = true
  b__law_draw_way : Binds K A.d__law_draw_way ["state", "words", "used"] []
  mg__law_draw_way : mg "_law_draw_way" = some (.ref A.f__law_draw_way)
  F__law_way_reason : Fun K "_law_way_reason" "_law_way_reason" s__law_way_reason A.f__law_way_reason A.d__law_way_reason
  k__law_way_reason : PySem.W.keepIn K (.ref A.f__law_way_reason) = true
  b__law_way_reason : Binds K A.d__law_way_reason ["ways", "way"] []
  mg__law_way_reason : mg "_law_way_reason" = some (.ref A.f__law_way_reason)
  F__law_words_right : Fun K "_law_words_right" "_law_words_right" s__law_words_right A.f__law_words_right A.d__law_words_right
  k__law_words_right : PySem.W.keepIn K (.ref A.f__law_words_right) = true
  b__law_words_right : Binds K A.d__law_words_right ["edition", "name", "ways", "most"] []
  mg__law_words_right : mg "_law_words_right" = some (.ref A.f__law_words_right)
  F__law_later_right : Fun K "_law_later_right" "_law_later_right" s__law_later_right A.f__law_later_right A.d__law_later_right
  k__law_later_right : PySem.W.keepIn K (.ref A.f__law_later_right) = true
  b__law_later_right : Binds K A.d__law_later_right ["edition", "later", "name", "ways"] []
  mg__law_later_right : mg "_law_later_right" = some (.ref A.f__law_later_right)
  F_law : Fun K "law" "law" s_law A.f_law A.d_law
  k_law : PySem.W.keepIn K (.ref A.f_law) = true
  b_law : Binds K A.d_law ["script"] []
  mg_Nothing : mg "Nothing" = some (.ref A.c_Nothing)
  mo_Nothing : PySem.W.makesIn K A.c_Nothing = true
  io_Nothing : PySem.W.findIn K (.ref A.c_Nothing) "__init__" = some (some (.builtin "object.__init__"))
  kc_Nothing : PySem.W.keepIn K (.ref A.c_Nothing) = true
  o_Nothing : ClsO K A.c_Nothing "Nothing"
  isc_Nothing : C8.InsC K A.c_Nothing
  mg_Number : mg "Number" = some (.ref A.c_Number)
  cl_Number : Cls K A.c_Number
  mk_Number : Mk K A.c_Number A.f_Number___init__
  o_Number : ClsO K A.c_Number "Number"
  n_Number_low : NoAttr K A.c_Number "low"
  n_Number_high : NoAttr K A.c_Number "high"
  n_Number_width : NoAttr K A.c_Number "width"
  isc_Number : C8.InsC K A.c_Number
  mg_Bits : mg "Bits" = some (.ref A.c_Bits)
  cl_Bits : Cls K A.c_Bits
  mk_Bits : Mk K A.c_Bits A.f_Bits___init__
  o_Bits : ClsO K A.c_Bits "Bits"
  n_Bits_many : NoAttr K A.c_Bits "many"
  isc_Bits : C8.InsC K A.c_Bits
  mg_Call : mg "Call" = some (.ref A.c_Call)
  cl_Call : Cls K A.c_Call
  mk_Call : Mk K A.c_Call A.f_Call___init__
  o_Call : ClsO K A.c_Call "Call"
  n_Call_name : NoAttr K A.c_Call "name"
  isc_Call : C8.InsC K A.c_Call
  mg_Items : mg "Items" = some (.ref A.c_Items)
  cl_Items : Cls K A.c_Items
  o_Items : ClsO K A.c_Items "Items"
  n_Items_item : NoAttr K A.c_Items "item"
  n_Items_width : NoAttr K A.c_Items "width"
  isc_Items : C8.InsC K A.c_Items
  mg_Way : mg "Way" = some (.ref A.c_Way)
  cl_Way : Cls K A.c_Way
  mk_Way : Mk K A.c_Way A.f_Way___init__
  o_Way : ClsO K A.c_Way "Way"
  n_Way_word : NoAttr K A.c_Way "word"
  n_Way_name : NoAttr K A.c_Way "name"
  n_Way_kind : NoAttr K A.c_Way "kind"
  isc_Way : C8.InsC K A.c_Way
  eq_Way : EqC K A.c_Way A.f_Way___eq__
  mg_Door : mg "Door" = some (.ref A.c_Door)
  cl_Door : Cls K A.c_Door
  mk_Door : Mk K A.c_Door A.f_Door___init__
  o_Door : ClsO K A.c_Door "Door"
  n_Door_word : NoAttr K A.c_Door "word"
  n_Door_name : NoAttr K A.c_Door "name"
  n_Door_kind : NoAttr K A.c_Door "kind"
  isc_Door : C8.InsC K A.c_Door
  eq_Door : EqC K A.c_Door A.f_Door___eq__
  mg_Choice : mg "Choice" = some (.ref A.c_Choice)
  cl_Choice : Cls K A.c_Choice
  mk_Choice : Mk K A.c_Choice A.f_Choice___init__
  o_Choice : ClsO K A.c_Choice "Choice"
  n_Choice_ways : NoAttr K A.c_Choice "ways"
  isc_Choice : C8.InsC K A.c_Choice
  mg_Part : mg "Part" = some (.ref A.c_Part)
  cl_Part : Cls K A.c_Part
  mk_Part : Mk K A.c_Part A.f_Part___init__
  o_Part : ClsO K A.c_Part "Part"
  n_Part_name : NoAttr K A.c_Part "name"
  n_Part_kind : NoAttr K A.c_Part "kind"
  isc_Part : C8.InsC K A.c_Part
  mg_Room : mg "Room" = some (.ref A.c_Room)
  cl_Room : Cls K A.c_Room
  o_Room : ClsO K A.c_Room "Room"
  n_Room_word : NoAttr K A.c_Room "word"
  n_Room_name : NoAttr K A.c_Room "name"
  n_Room_kind : NoAttr K A.c_Room "kind"
  isc_Room : C8.InsC K A.c_Room
  mg_Row : mg "Row" = some (.ref A.c_Row)
  cl_Row : Cls K A.c_Row
  mk_Row : Mk K A.c_Row A.f_Row___init__
  o_Row : ClsO K A.c_Row "Row"
  n_Row_parts : NoAttr K A.c_Row "parts"
  isc_Row : C8.InsC K A.c_Row
  mg_Lengths : mg "Lengths" = some (.ref A.c_Lengths)
  cl_Lengths : Cls K A.c_Lengths
  mk_Lengths : Mk K A.c_Lengths A.f_Lengths___init__
  n_Lengths_count : NoAttr K A.c_Lengths "count"
  n_Lengths_top : NoAttr K A.c_Lengths "top"
  n_Lengths_known : NoAttr K A.c_Lengths "known"
  mg_Machine : mg "Machine" = some (.ref A.c_Machine)
  cl_Machine : Cls K A.c_Machine
  mk_Machine : Mk K A.c_Machine A.f_Machine___init__
  n_Machine_named : NoAttr K A.c_Machine "named"
  n_Machine_count : NoAttr K A.c_Machine "count"
  n_Machine_own : NoAttr K A.c_Machine "own"
  n_Machine_most : NoAttr K A.c_Machine "most"
  n_Machine_forms : NoAttr K A.c_Machine "forms"
  n_Machine_places : NoAttr K A.c_Machine "places"
  n_Machine_nodes : NoAttr K A.c_Machine "nodes"
  n_Machine_numbers : NoAttr K A.c_Machine "numbers"
  n_Machine_counted : NoAttr K A.c_Machine "counted"
  n_Machine_rows : NoAttr K A.c_Machine "rows"
  n_Machine_repeated : NoAttr K A.c_Machine "repeated"
  n_Machine_lacks : NoAttr K A.c_Machine "lacks"
  n_Machine_gone : NoAttr K A.c_Machine "gone"
  n_Machine_moved : NoAttr K A.c_Machine "moved"
  n_Machine_tuples : NoAttr K A.c_Machine "tuples"
  n_Machine_states : NoAttr K A.c_Machine "states"
  mg_Edition : mg "Edition" = some (.ref A.c_Edition)
  cl_Edition : Cls K A.c_Edition
  mk_Edition : Mk K A.c_Edition A.f_Edition___init__
  n_Edition_table : NoAttr K A.c_Edition "table"
  n_Edition_root : NoAttr K A.c_Edition "root"
  n_Edition_count : NoAttr K A.c_Edition "count"
  n_Edition_machine : NoAttr K A.c_Edition "machine"
  n_Edition_own_machine : NoAttr K A.c_Edition "own_machine"
  mg_AddKind : mg "AddKind" = some (.ref A.c_AddKind)
  o_AddKind : ClsO K A.c_AddKind "AddKind"
  mg_AddWay : mg "AddWay" = some (.ref A.c_AddWay)
  cl_AddWay : Cls K A.c_AddWay
  mk_AddWay : Mk K A.c_AddWay A.f_AddWay___init__
  o_AddWay : ClsO K A.c_AddWay "AddWay"
  n_AddWay_name : NoAttr K A.c_AddWay "name"
  n_AddWay_way : NoAttr K A.c_AddWay "way"
  isc_AddWay : C8.InsC K A.c_AddWay
  mg_BadKind : mg "BadKind" = some (.ref A.c_BadKind)
  oex_BadKind : OexC K A.c_BadKind
  ix_BadKind : PySem.W.findIn K (.ref A.c_BadKind) "__init__" = some (some (.ref A.f_BadKind___init__))
  tx_BadKind : PySem.W.typeIn K (.ref A.f_BadKind___init__) = some (.type "function")
  nx_BadKind_part : PySem.W.findIn K (.ref A.c_BadKind) "part" = some none
  mg_MissingKind : mg "MissingKind" = some (.ref A.c_MissingKind)
  mg_RingOfCalls : mg "RingOfCalls" = some (.ref A.c_RingOfCalls)
  mg_LongBody : mg "LongBody" = some (.ref A.c_LongBody)
  mg_RoomTaken : mg "RoomTaken" = some (.ref A.c_RoomTaken)
  mg_NoStep : mg "NoStep" = some (.ref A.c_NoStep)
  te_NoStep : PySem.W.exmOne K (.ref A.c_NoStep) (.ref A.c_NoStep) = some true
  oex_NoStep : OexC K A.c_NoStep
  xf_NoStep : XfC K A.c_NoStep
  ix_NoStep : PySem.W.findIn K (.ref A.c_NoStep) "__init__" = some (some (.ref A.f_NoStep___init__))
  tx_NoStep : PySem.W.typeIn K (.ref A.f_NoStep___init__) = some (.type "function")
  nx_NoStep_reason : PySem.W.findIn K (.ref A.c_NoStep) "reason" = some none
  b_all : mg "all" = none
  b_any : mg "any" = none
  b_bool : mg "bool" = none
  b_dict : mg "dict" = none
  b_enumerate : mg "enumerate" = none
  b_int : mg "int" = none
  b_isinstance : mg "isinstance" = none
  b_len : mg "len" = none
  b_list : mg "list" = none
  b_min : mg "min" = none
  b_range : mg "range" = none
  b_sorted : mg "sorted" = none
  b_str : mg "str" = none
  b_tuple : mg "tuple" = none
  mg_LETTERS : ∃ u, mg "LETTERS" = some u ∧ RelV (.str "abcdefghijklmnopqrstuvwxyz") u
abbrev N_BadKind___init__ : List Str := ["self", "part"]
theorem sc_BadKind___init__ : FnScope ["self", "part"] ["self", "part"] (defScope s_BadKind___init__) := ⟨rfl, rfl, rfl, by decide +kernel, rfl, by decide +kernel, by decide +kernel⟩
abbrev N_NoStep___init__ : List Str := ["self", "reason"]
theorem sc_NoStep___init__ : FnScope ["self", "reason"] ["self", "reason"] (defScope s_NoStep___init__) := ⟨rfl, rfl, rfl, by decide +kernel, rfl, by decide +kernel, by decide +kernel⟩
abbrev N_is_integer : List Str := ["thing"]
theorem sc_is_integer : FnScope ["thing"] ["thing"] (defScope s_is_integer) := ⟨rfl, rfl, rfl, by decide +kernel, rfl, by decide +kernel, by decide +kernel⟩
abbrev N_is_bits : List Str := ["thing", "sign"]
theorem sc_is_bits : FnScope ["thing", "sign"] ["thing"] (defScope s_is_bits) := ⟨rfl, rfl, rfl, by decide +kernel, rfl, by decide +kernel, by decide +kernel⟩
abbrev N_is_name : List Str := ["thing", "sign"]
theorem sc_is_name : FnScope ["thing", "sign"] ["thing"] (defScope s_is_name) := ⟨rfl, rfl, rfl, by decide +kernel, rfl, by decide +kernel, by decide +kernel⟩
abbrev N_is_word : List Str := ["thing"]
theorem sc_is_word : FnScope ["thing"] ["thing"] (defScope s_is_word) := ⟨rfl, rfl, rfl, by decide +kernel, rfl, by decide +kernel, by decide +kernel⟩
abbrev N_begins : List Str := ["one", "other"]
theorem sc_begins : FnScope ["one", "other"] ["one", "other"] (defScope s_begins) := ⟨rfl, rfl, rfl, by decide +kernel, rfl, by decide +kernel, by decide +kernel⟩
abbrev N_Nothing___eq__ : List Str := ["self", "other"]
theorem sc_Nothing___eq__ : FnScope ["self", "other"] ["self", "other"] (defScope s_Nothing___eq__) := ⟨rfl, rfl, rfl, by decide +kernel, rfl, by decide +kernel, by decide +kernel⟩
abbrev N_is_width : List Str := ["width", "many"]
theorem sc_is_width : FnScope ["width", "many"] ["width", "many"] (defScope s_is_width) := ⟨rfl, rfl, rfl, by decide +kernel, rfl, by decide +kernel, by decide +kernel⟩
abbrev N_Number___init__ : List Str := ["self", "low", "high", "width"]
theorem sc_Number___init__ : FnScope ["self", "low", "high", "width"] ["self", "low", "high", "width"] (defScope s_Number___init__) := ⟨rfl, rfl, rfl, by decide +kernel, rfl, by decide +kernel, by decide +kernel⟩
abbrev N_Number___eq__ : List Str := ["self", "other"]
theorem sc_Number___eq__ : FnScope ["self", "other"] ["self", "other"] (defScope s_Number___eq__) := ⟨rfl, rfl, rfl, by decide +kernel, rfl, by decide +kernel, by decide +kernel⟩
abbrev N_Bits___init__ : List Str := ["self", "many"]
theorem sc_Bits___init__ : FnScope ["self", "many"] ["self", "many"] (defScope s_Bits___init__) := ⟨rfl, rfl, rfl, by decide +kernel, rfl, by decide +kernel, by decide +kernel⟩
abbrev N_Bits___eq__ : List Str := ["self", "other"]
theorem sc_Bits___eq__ : FnScope ["self", "other"] ["self", "other"] (defScope s_Bits___eq__) := ⟨rfl, rfl, rfl, by decide +kernel, rfl, by decide +kernel, by decide +kernel⟩
abbrev N_Call___init__ : List Str := ["self", "name"]
theorem sc_Call___init__ : FnScope ["self", "name"] ["self", "name"] (defScope s_Call___init__) := ⟨rfl, rfl, rfl, by decide +kernel, rfl, by decide +kernel, by decide +kernel⟩
abbrev N_Call___eq__ : List Str := ["self", "other"]
theorem sc_Call___eq__ : FnScope ["self", "other"] ["self", "other"] (defScope s_Call___eq__) := ⟨rfl, rfl, rfl, by decide +kernel, rfl, by decide +kernel, by decide +kernel⟩
abbrev N_Items___init__ : List Str := ["self", "item", "width"]
theorem sc_Items___init__ : FnScope ["self", "item", "width"] ["self", "item", "width"] (defScope s_Items___init__) := ⟨rfl, rfl, rfl, by decide +kernel, rfl, by decide +kernel, by decide +kernel⟩
abbrev N_Items___eq__ : List Str := ["self", "other"]
theorem sc_Items___eq__ : FnScope ["self", "other"] ["self", "other"] (defScope s_Items___eq__) := ⟨rfl, rfl, rfl, by decide +kernel, rfl, by decide +kernel, by decide +kernel⟩
abbrev N_is_simple : List Str := ["thing"]
theorem sc_is_simple : FnScope ["thing"] ["thing"] (defScope s_is_simple) := ⟨rfl, rfl, rfl, by decide +kernel, rfl, by decide +kernel, by decide +kernel⟩
abbrev N_check_inner : List Str := ["word", "name", "is_kind"]
theorem sc_check_inner : FnScope ["word", "name", "is_kind"] ["word", "name", "is_kind"] (defScope s_check_inner) := ⟨rfl, rfl, rfl, by decide +kernel, rfl, by decide +kernel, by decide +kernel⟩
abbrev N_Way___init__ : List Str := ["self", "word", "name", "kind"]
theorem sc_Way___init__ : FnScope ["self", "word", "name", "kind"] ["self", "word", "name", "kind"] (defScope s_Way___init__) := ⟨rfl, rfl, rfl, by decide +kernel, rfl, by decide +kernel, by decide +kernel⟩
abbrev N_Way___eq__ : List Str := ["self", "other"]
theorem sc_Way___eq__ : FnScope ["self", "other"] ["self", "other"] (defScope s_Way___eq__) := ⟨rfl, rfl, rfl, by decide +kernel, rfl, by decide +kernel, by decide +kernel⟩
abbrev N_Door___init__ : List Str := ["self", "word", "name", "kind"]
theorem sc_Door___init__ : FnScope ["self", "word", "name", "kind"] ["self", "word", "name", "kind"] (defScope s_Door___init__) := ⟨rfl, rfl, rfl, by decide +kernel, rfl, by decide +kernel, by decide +kernel⟩
abbrev N_Door___eq__ : List Str := ["self", "other"]
theorem sc_Door___eq__ : FnScope ["self", "other"] ["self", "other"] (defScope s_Door___eq__) := ⟨rfl, rfl, rfl, by decide +kernel, rfl, by decide +kernel, by decide +kernel⟩
abbrev N_are_ways : List Str := ["ways", "plain", "at", "way", "other"]
theorem sc_are_ways : FnScope ["ways", "plain", "at", "way", "other"] ["ways"] (defScope s_are_ways) := ⟨rfl, rfl, rfl, by decide +kernel, rfl, by decide +kernel, by decide +kernel⟩
abbrev N_Choice___init__ : List Str := ["self", "ways"]
theorem sc_Choice___init__ : FnScope ["self", "ways"] ["self", "ways"] (defScope s_Choice___init__) := ⟨rfl, rfl, rfl, by decide +kernel, rfl, by decide +kernel, by decide +kernel⟩
abbrev N_Part___init__ : List Str := ["self", "name", "kind"]
theorem sc_Part___init__ : FnScope ["self", "name", "kind"] ["self", "name", "kind"] (defScope s_Part___init__) := ⟨rfl, rfl, rfl, by decide +kernel, rfl, by decide +kernel, by decide +kernel⟩
abbrev N_Room___init__ : List Str := ["self", "word", "name", "kind"]
theorem sc_Room___init__ : FnScope ["self", "word", "name", "kind"] ["self", "word", "name", "kind"] (defScope s_Room___init__) := ⟨rfl, rfl, rfl, by decide +kernel, rfl, by decide +kernel, by decide +kernel⟩
abbrev N_are_parts : List Str := ["parts", "at", "part", "other"]
theorem sc_are_parts : FnScope ["parts", "at", "part", "other"] ["parts"] (defScope s_are_parts) := ⟨rfl, rfl, rfl, by decide +kernel, rfl, by decide +kernel, by decide +kernel⟩
abbrev N_Row___init__ : List Str := ["self", "parts"]
theorem sc_Row___init__ : FnScope ["self", "parts"] ["self", "parts"] (defScope s_Row___init__) := ⟨rfl, rfl, rfl, by decide +kernel, rfl, by decide +kernel, by decide +kernel⟩
abbrev N_inner_kinds : List Str := ["kind", "way", "part"]
theorem sc_inner_kinds : FnScope ["kind", "way", "part"] ["kind"] (defScope s_inner_kinds) := ⟨rfl, rfl, rfl, by decide +kernel, rfl, by decide +kernel, by decide +kernel⟩
abbrev N_called : List Str := ["kind", "names", "inner"]
theorem sc_called : FnScope ["kind", "names", "inner"] ["kind"] (defScope s_called) := ⟨rfl, rfl, rfl, by decide +kernel, rfl, by decide +kernel, by decide +kernel⟩
abbrev N_reached : List Str := ["table", "name", "found", "waiting", "one"]
theorem sc_reached : FnScope ["table", "name", "found", "waiting", "one"] ["table", "name"] (defScope s_reached) := ⟨rfl, rfl, rfl, by decide +kernel, rfl, by decide +kernel, by decide +kernel⟩
abbrev N_missing_name : List Str := ["table", "missing", "name", "one"]
theorem sc_missing_name : FnScope ["table", "missing", "name", "one"] ["table"] (defScope s_missing_name) := ⟨rfl, rfl, rfl, by decide +kernel, rfl, by decide +kernel, by decide +kernel⟩
abbrev N_ring_name : List Str := ["table", "name"]
theorem sc_ring_name : FnScope ["table", "name"] ["table"] (defScope s_ring_name) := ⟨rfl, rfl, rfl, by decide +kernel, rfl, by decide +kernel, by decide +kernel⟩
abbrev N_call_order : List Str := ["table", "done", "name", "one"]
theorem sc_call_order : FnScope ["table", "done", "name", "one"] ["table"] (defScope s_call_order) := ⟨rfl, rfl, rfl, by decide +kernel, rfl, by decide +kernel, by decide +kernel⟩
abbrev N_number_lengths : List Str := ["kind", "many", "least"]
theorem sc_number_lengths : FnScope ["kind", "many", "least"] ["kind"] (defScope s_number_lengths) := ⟨rfl, rfl, rfl, by decide +kernel, rfl, by decide +kernel, by decide +kernel⟩
abbrev N_Lengths___init__ : List Str := ["self", "table", "count", "name"]
theorem sc_Lengths___init__ : FnScope ["self", "table", "count", "name"] ["self", "table", "count"] (defScope s_Lengths___init__) := ⟨rfl, rfl, rfl, by decide +kernel, rfl, by decide +kernel, by decide +kernel⟩
abbrev N_Lengths_sums : List Str := ["self", "ones", "others", "one", "other"]
theorem sc_Lengths_sums : FnScope ["self", "ones", "others", "one", "other"] ["self", "ones", "others"] (defScope s_Lengths_sums) := ⟨rfl, rfl, rfl, by decide +kernel, rfl, by decide +kernel, by decide +kernel⟩
abbrev N_Lengths_of_kind : List Str := ["self", "kind", "one"]
theorem sc_Lengths_of_kind : FnScope ["self", "kind", "one"] ["self", "kind"] (defScope s_Lengths_of_kind) := ⟨rfl, rfl, rfl, by decide +kernel, rfl, by decide +kernel, by decide +kernel⟩
abbrev N_Lengths_of_body : List Str := ["self", "word", "kind", "inner", "one"]
theorem sc_Lengths_of_body : FnScope ["self", "word", "kind", "inner", "one"] ["self", "word", "kind"] (defScope s_Lengths_of_body) := ⟨rfl, rfl, rfl, by decide +kernel, rfl, by decide +kernel, by decide +kernel⟩
abbrev N_Lengths_of_named : List Str := ["self", "kind", "found", "way", "one"]
theorem sc_Lengths_of_named : FnScope ["self", "kind", "found", "way", "one"] ["self", "kind"] (defScope s_Lengths_of_named) := ⟨rfl, rfl, rfl, by decide +kernel, rfl, by decide +kernel, by decide +kernel⟩
abbrev N_Lengths_of_row : List Str := ["self", "kind", "found", "part"]
theorem sc_Lengths_of_row : FnScope ["self", "kind", "found", "part"] ["self", "kind"] (defScope s_Lengths_of_row) := ⟨rfl, rfl, rfl, by decide +kernel, rfl, by decide +kernel, by decide +kernel⟩
abbrev N_Lengths_is_long : List Str := ["self", "kind"]
theorem sc_Lengths_is_long : FnScope ["self", "kind"] ["self", "kind"] (defScope s_Lengths_is_long) := ⟨rfl, rfl, rfl, by decide +kernel, rfl, by decide +kernel, by decide +kernel⟩
abbrev N_long_body : List Str := ["table", "count", "lengths", "name", "inner", "way", "part", "one"]
theorem sc_long_body : FnScope ["table", "count", "lengths", "name", "inner", "way", "part", "one"] ["table", "count"] (defScope s_long_body) := ⟨rfl, rfl, rfl, by decide +kernel, rfl, by decide +kernel, by decide +kernel⟩
abbrev N_Plan___init__ : List Str := ["self", "named", "count", "own"]
theorem sc_Plan___init__ : FnScope ["self", "named", "count", "own"] ["self", "named", "count", "own"] (defScope s_Plan___init__) := ⟨rfl, rfl, rfl, by decide +kernel, rfl, by decide +kernel, by decide +kernel⟩
abbrev N_are_kinds : List Str := ["kinds", "name"]
theorem sc_are_kinds : FnScope ["kinds", "name"] ["kinds"] (defScope s_are_kinds) := ⟨rfl, rfl, rfl, by decide +kernel, rfl, by decide +kernel, by decide +kernel⟩
abbrev N_check_parts : List Str := ["kinds", "root", "count"]
theorem sc_check_parts : FnScope ["kinds", "root", "count"] ["kinds", "root", "count"] (defScope s_check_parts) := ⟨rfl, rfl, rfl, by decide +kernel, rfl, by decide +kernel, by decide +kernel⟩
abbrev N_last_taken : List Str := ["machine", "name", "kind", "index"]
theorem sc_last_taken : FnScope ["machine", "name", "kind", "index"] ["machine", "name"] (defScope s_last_taken) := ⟨rfl, rfl, rfl, by decide +kernel, rfl, by decide +kernel, by decide +kernel⟩
abbrev N_check_rooms : List Str := ["machine", "wrong", "left_out", "name", "one", "inner"]
theorem sc_check_rooms : FnScope ["machine", "wrong", "left_out", "name", "one", "inner"] ["machine"] (defScope s_check_rooms) := ⟨rfl, rfl, rfl, by decide +kernel, rfl, by decide +kernel, by decide +kernel⟩
abbrev N_Edition___init__ : List Str := ["self", "kinds", "root", "count", "table", "name", "missing", "ring", "too_long", "machine"]
theorem sc_Edition___init__ : FnScope ["self", "kinds", "root", "count", "table", "name", "missing", "ring", "too_long", "machine"] ["self", "kinds", "root", "count"] (defScope s_Edition___init__) := ⟨rfl, rfl, rfl, by decide +kernel, rfl, by decide +kernel, by decide +kernel⟩
abbrev N_Edition_kinds : List Str := ["self", "name"]
theorem sc_Edition_kinds : FnScope ["self", "name"] ["self"] (defScope s_Edition_kinds) := ⟨rfl, rfl, rfl, by decide +kernel, rfl, by decide +kernel, by decide +kernel⟩
abbrev N_check_most : List Str := ["most"]
theorem sc_check_most : FnScope ["most"] ["most"] (defScope s_check_most) := ⟨rfl, rfl, rfl, by decide +kernel, rfl, by decide +kernel, by decide +kernel⟩
abbrev N_way_words : List Str := ["edition", "name", "most", "words", "way", "found", "heads", "length", "behind", "word", "head", "bit", "one"]
theorem sc_way_words : FnScope ["edition", "name", "most", "words", "way", "found", "heads", "length", "behind", "word", "head", "bit", "one"] ["edition", "name", "most"] (defScope s_way_words) := ⟨rfl, rfl, rfl, by decide +kernel, rfl, by decide +kernel, by decide +kernel⟩
abbrev N_AddWay___init__ : List Str := ["self", "name", "way"]
theorem sc_AddWay___init__ : FnScope ["self", "name", "way"] ["self", "name", "way"] (defScope s_AddWay___init__) := ⟨rfl, rfl, rfl, by decide +kernel, rfl, by decide +kernel, by decide +kernel⟩
abbrev N_named : List Str := ["table", "name"]
theorem sc_named : FnScope ["table", "name"] ["table", "name"] (defScope s_named) := ⟨rfl, rfl, rfl, by decide +kernel, rfl, by decide +kernel, by decide +kernel⟩
abbrev N_way_added : List Str := ["table", "step", "kind", "way"]
theorem sc_way_added : FnScope ["table", "step", "kind", "way"] ["table", "step"] (defScope s_way_added) := ⟨rfl, rfl, rfl, by decide +kernel, rfl, by decide +kernel, by decide +kernel⟩
abbrev N_changed_kind : List Str := ["table", "step"]
theorem sc_changed_kind : FnScope ["table", "step"] ["table", "step"] (defScope s_changed_kind) := ⟨rfl, rfl, rfl, by decide +kernel, rfl, by decide +kernel, by decide +kernel⟩
abbrev N_taken : List Str := ["edition", "step", "table", "kind"]
theorem sc_taken : FnScope ["edition", "step", "table", "kind"] ["edition", "step"] (defScope s_taken) := ⟨rfl, rfl, rfl, by decide +kernel, rfl, by decide +kernel, by decide +kernel⟩
abbrev N__law_start : List Str := ["script"]
theorem sc__law_start : FnScope ["script"] ["script"] (defScope s__law_start) := ⟨rfl, rfl, rfl, by decide +kernel, rfl, by decide +kernel, by decide +kernel⟩
abbrev N__law_pull : List Str := ["state", "many", "cell", "number"]
theorem sc__law_pull : FnScope ["state", "many", "cell", "number"] ["state", "many"] (defScope s__law_pull) := ⟨rfl, rfl, rfl, by decide +kernel, rfl, by decide +kernel, by decide +kernel⟩
abbrev N__law_is_int : List Str := ["told"]
theorem sc__law_is_int : FnScope ["told"] ["told"] (defScope s__law_is_int) := ⟨rfl, rfl, rfl, by decide +kernel, rfl, by decide +kernel, by decide +kernel⟩
abbrev N__law_same : List Str := ["told", "due", "k"]
theorem sc__law_same : FnScope ["told", "due", "k"] ["told", "due"] (defScope s__law_same) := ⟨rfl, rfl, rfl, by decide +kernel, rfl, by decide +kernel, by decide +kernel⟩
abbrev N__law_name : List Str := ["state", "used", "letters", "base", "k", "place", "first", "name"]
theorem sc__law_name : FnScope ["state", "used", "letters", "base", "k", "place", "first", "name"] ["state", "used"] (defScope s__law_name) := ⟨rfl, rfl, rfl, by decide +kernel, rfl, by decide +kernel, by decide +kernel⟩
abbrev N__law_draw_bits : List Str := ["state", "many", "bits", "k"]
theorem sc__law_draw_bits : FnScope ["state", "many", "bits", "k"] ["state", "many"] (defScope s__law_draw_bits) := ⟨rfl, rfl, rfl, by decide +kernel, rfl, by decide +kernel, by decide +kernel⟩
abbrev N__law_place : List Str := ["place", "inner"]
theorem sc__law_place : FnScope ["place", "inner"] ["place"] (defScope s__law_place) := ⟨rfl, rfl, rfl, by decide +kernel, rfl, by decide +kernel, by decide +kernel⟩
abbrev N__law_object : List Str := ["kind", "place"]
theorem sc__law_object : FnScope ["kind", "place"] ["kind"] (defScope s__law_object) := ⟨rfl, rfl, rfl, by decide +kernel, rfl, by decide +kernel, by decide +kernel⟩
abbrev N__law_ordered : List Str := ["rows", "row", "bits"]
theorem sc__law_ordered : FnScope ["rows", "row", "bits"] ["rows"] (defScope s__law_ordered) := ⟨rfl, rfl, rfl, by decide +kernel, rfl, by decide +kernel, by decide +kernel⟩
abbrev N__law_taken : List Str := ["edition", "step", "told", "error"]
theorem sc__law_taken : FnScope ["edition", "step", "told", "error"] ["edition", "step"] (defScope s__law_taken) := ⟨rfl, rfl, rfl, by decide +kernel, rfl, by decide +kernel, by decide +kernel⟩
abbrev N__law_flip : List Str := ["bit"]
theorem sc__law_flip : FnScope ["bit"] ["bit"] (defScope s__law_flip) := ⟨rfl, rfl, rfl, by decide +kernel, rfl, by decide +kernel, by decide +kernel⟩
abbrev N__law_gaps : List Str := ["words", "gaps", "word", "k", "gap", "one"]
theorem sc__law_gaps : FnScope ["words", "gaps", "word", "k", "gap", "one"] ["words"] (defScope s__law_gaps) := ⟨rfl, rfl, rfl, by decide +kernel, rfl, by decide +kernel, by decide +kernel⟩
abbrev N__law_draw_many_words : List Str := ["state", "leaves", "k", "word", "words"]
theorem sc__law_draw_many_words : FnScope ["state", "leaves", "k", "word", "words"] ["state"] (defScope s__law_draw_many_words) := ⟨rfl, rfl, rfl, by decide +kernel, rfl, by decide +kernel, by decide +kernel⟩
abbrev N__law_draw_way : List Str := ["state", "words", "used", "gaps", "turn", "word", "mark", "inner", "name"]
theorem sc__law_draw_way : FnScope ["state", "words", "used", "gaps", "turn", "word", "mark", "inner", "name"] ["state", "words", "used"] (defScope s__law_draw_way) := ⟨rfl, rfl, rfl, by decide +kernel, rfl, by decide +kernel, by decide +kernel⟩
abbrev N__law_way_reason : List Str := ["ways", "way", "one"]
theorem sc__law_way_reason : FnScope ["ways", "way", "one"] ["ways", "way"] (defScope s__law_way_reason) := ⟨rfl, rfl, rfl, by decide +kernel, rfl, by decide +kernel, by decide +kernel⟩
abbrev N__law_words_right : List Str := ["edition", "name", "ways", "most", "words", "way", "size", "due", "word", "told"]
theorem sc__law_words_right : FnScope ["edition", "name", "ways", "most", "words", "way", "size", "due", "word", "told"] ["edition", "name", "ways", "most"] (defScope s__law_words_right) := ⟨rfl, rfl, rfl, by decide +kernel, rfl, by decide +kernel, by decide +kernel⟩
abbrev N__law_later_right : List Str := ["edition", "later", "name", "ways", "rows", "k"]
theorem sc__law_later_right : FnScope ["edition", "later", "name", "ways", "rows", "k"] ["edition", "later", "name", "ways"] (defScope s__law_later_right) := ⟨rfl, rfl, rfl, by decide +kernel, rfl, by decide +kernel, by decide +kernel⟩
abbrev N_law : List Str := ["script", "state", "most", "names", "name", "other", "used", "ways", "word", "k", "table", "way", "edition", "turn", "one", "reason", "told"]
theorem sc_law : FnScope ["script", "state", "most", "names", "name", "other", "used", "ways", "word", "k", "table", "way", "edition", "turn", "one", "reason", "told"] ["script"] (defScope s_law) := ⟨rfl, rfl, rfl, by decide +kernel, rfl, by decide +kernel, by decide +kernel⟩
/-! the kinds, told as plain data -/
inductive Kd where
  | num (lo hi : Int) (w : Option Int)
  | bits (n : Int)
  | call (s : Str)
  | items (i : Kd) (w : Option Int)
  | nothing
  | none
  | way (word name : Str) (k : Kd)
  | door (word name : Str) (k : Kd)
  | part (name : Str) (k : Kd)
  | room (word name : Str) (k : Kd)
  | choice (ks : List Kd)
  | row (ks : List Kd)
inductive Kc where
  | num | bits | call | items | nothing | way | door | part | room | choice | row
  deriving DecidableEq
def Kd.cls : Kd → Option Kc
  | .num _ _ _ => some .num
  | .bits _ => some .bits
  | .call _ => some .call
  | .items _ _ => some .items
  | .nothing => some .nothing
  | .none => Option.none
  | .way _ _ _ => some .way
  | .door _ _ _ => some .door
  | .part _ _ => some .part
  | .room _ _ _ => some .room
  | .choice _ => some .choice
  | .row _ => some .row
def Ad.kc (A : Ad) : Kc → Addr
  | .num => A.c_Number
  | .bits => A.c_Bits
  | .call => A.c_Call
  | .items => A.c_Items
  | .nothing => A.c_Nothing
  | .way => A.c_Way
  | .door => A.c_Door
  | .part => A.c_Part
  | .room => A.c_Room
  | .choice => A.c_Choice
  | .row => A.c_Row
def kcName : Kc → Str
  | .num => "Number"
  | .bits => "Bits"
  | .call => "Call"
  | .items => "Items"
  | .nothing => "Nothing"
  | .way => "Way"
  | .door => "Door"
  | .part => "Part"
  | .room => "Room"
  | .choice => "Choice"
  | .row => "Row"
theorem kcName_ne (c d : Kc) (n : c ≠ d) : ¬ kcName c = kcName d := by
  cases c <;> cases d <;> first | exact absurd rfl n | (show ¬ Str.ofString _ = Str.ofString _; decide +kernel)
mutual
def Kd.eqk : Kd → Kd → Bool
  | .num a b w, .num a' b' w' => decide (a = a') && (decide (b = b') && decide (w = w'))
  | .bits n, .bits m => decide (n = m)
  | .call s, .call t => decide (s = t)
  | .items i w, .items j x => i.eqk j && decide (w = x)
  | .nothing, .nothing => true
  | .none, .none => true
  | .way w n k, .way w' n' k' => decide (w = w') && (decide (n = n') && k.eqk k')
  | .door w n k, .door w' n' k' => decide (w = w') && (decide (n = n') && k.eqk k')
  | .part n k, .part n' k' => decide (n = n') && k.eqk k'
  | .room w n k, .room w' n' k' => decide (w = w') && (decide (n = n') && k.eqk k')
  | .choice ks, .choice js => Kd.eqAll ks js
  | .row ks, .row js => Kd.eqAll ks js
  | _, _ => false
def Kd.eqAll : List Kd → List Kd → Bool
  | [], [] => true
  | k :: ks, j :: js => k.eqk j && Kd.eqAll ks js
  | _, _ => false
end
mutual
/-- nowhere None meets an instance -/
def Kd.nn : Kd → Kd → Bool
  | .door _ _ k, .door _ _ k' => decide (k.cls = Option.none) == decide (k'.cls = Option.none)
  | .room _ _ k, .room _ _ k' => decide (k.cls = Option.none) == decide (k'.cls = Option.none)
  | .choice ks, .choice js => Kd.nnAll ks js
  | .row ks, .row js => Kd.nnAll ks js
  | _, _ => true
def Kd.nnAll : List Kd → List Kd → Bool
  | k :: ks, j :: js => k.nn j && Kd.nnAll ks js
  | _, _ => true
end
def oi : Option Int → V
  | some i => .int i
  | none => .non
def oiOf : V → Option Int
  | .int i => some i
  | _ => none
def intOf : V → Int
  | .int i => i
  | _ => 0
def strOf : V → Str
  | .str x => x
  | _ => Str.empty
/-- an instance of C with these fields -/
def Ob (C : Addr) (H : Hp) (x : Addr) (l : List (Str × V)) : Prop := ∃ dx fs, H x = some (.ins C dx fs) ∧ ∀ p ∈ l, fs.lookup p.1 = some p.2
/-- each instance and each tuple stands, each thing keeps its sort -/
structure KI (H H' : Hp) : Prop where
  k : KK H H'
  i : ∀ b C dx fs, H b = some (.ins C dx fs) → H' b = some (.ins C dx fs)
  t : TupKeep H H'
theorem KI.same {H H' : Hp} (e : Same H H') : KI H H' := ⟨KK.same e, fun b C dx fs h => e _ _ h, fun b xs h => e _ _ h⟩
theorem KI.refl {H : Hp} : KI H H := KI.same fun _ _ h => h
theorem KI.trans {H H1 H2 : Hp} (a : KI H H1) (b : KI H1 H2) : KI H H2 := ⟨a.k.trans b.k, fun c C dx fs h => b.i _ _ _ _ (a.i _ _ _ _ h), a.t.trans b.t⟩
theorem KI.chg {d : Dr} {H H' : Hp} (r : Rng d H) (r' : Rng d H') (e : Chg d H H') : KI H H' := by
  obtain ⟨ys, hp, _⟩ := r.atp
  exact ⟨KK.chg r r' e, fun b C dx fs h => e _ _ (ne_lst hp h fun ys => by intro z; cases z) h, TupKeep.chg r e⟩
theorem KI.setL {H : Hp} {D : Addr} {xs ys : List V} (h : H D = some (.lst xs)) : KI H (upd H D (.lst ys)) :=
  ⟨KK.setL h, fun b C dx fs h2 => by rw [upd_ne (ne_lst h h2 fun ys => by intro z; cases z)]; exact h2, TupKeep.set h⟩
theorem KI.new {H : Hp} {D : Addr} {o : HO} (h : H D = none) : KI H (upd H D o) := KI.same fun b u e => by rw [upd_ne (ne_of_none e h)]; exact e
theorem Ob.keep {C : Addr} {H H' : Hp} {x : Addr} {l : List (Str × V)} (e : KI H H') (h : Ob C H x l) : Ob C H' x l := by
  obtain ⟨dx, fs, h1, h2⟩ := h
  exact ⟨dx, fs, e.i _ _ _ _ h1, h2⟩
/-- what a thing is: a kind (None among them), or of another built-in type -/
inductive Td where
  | k (d : Kd)
  | raw (n : String)
def Td.cls : Td → Option Kc
  | .k d => d.cls
  | .raw _ => none
def Td.kd : Td → Kd
  | .k d => d
  | .raw _ => .none
def Td.tag (A : Ad) : Td → Value
  | .k d => match d.cls with
    | some c => .ref (A.kc c)
    | none => .type "NoneType"
  | .raw n => .type n
def Td.item (t : Td) : Bool := [Kc.num, .bits, .call].any fun c => decide (t.cls = some c)
def Td.simple (t : Td) : Bool := [Kc.num, .bits, .items, .call].any fun c => decide (t.cls = some c)
def Td.way (t : Td) : Bool := t.simple || decide (t.cls = some .nothing)
def Td.isNone : Td → Bool
  | .k .none => true
  | _ => false
def Td.door (t : Td) : Bool := t.isNone || (t.simple || decide (t.cls = some .nothing))
def Td.room (t : Td) : Bool := t.isNone || t.simple
def Td.wd (t : Td) : Bool := [Kc.way, .door].any fun c => decide (t.cls = some c)
def Td.pr (t : Td) : Bool := [Kc.part, .room].any fun c => decide (t.cls = some c)
mutual
inductive KAt (A : Ad) (H : Hp) : V → Kd → Prop where
  | num {x : Addr} {lo hi : Int} {w : Option Int} (h : Ob A.c_Number H x [("low", .int lo), ("high", .int hi), ("width", oi w)]) : KAt A H (.ref x) (.num lo hi w)
  | bits {x : Addr} {n : Int} (h : Ob A.c_Bits H x [("many", .int n)]) : KAt A H (.ref x) (.bits n)
  | call {x : Addr} {s : Str} (h : Ob A.c_Call H x [("name", .str s)]) : KAt A H (.ref x) (.call s)
  | items {x : Addr} {v : V} {i : Kd} {w : Option Int} (h : Ob A.c_Items H x [("item", v), ("width", oi w)]) (k : KAt A H v i) (o : (Td.k i).item = true) : KAt A H (.ref x) (.items i w)
  | nothing {x : Addr} (h : Ob A.c_Nothing H x []) : KAt A H (.ref x) .nothing
  | none : KAt A H .non .none
  | way {x : Addr} {v : V} {i : Kd} {w n : Str} (h : Ob A.c_Way H x [("word", .str w), ("name", .str n), ("kind", v)]) (k : KAt A H v i) (o : (Td.k i).way = true) : KAt A H (.ref x) (.way w n i)
  | door {x : Addr} {v : V} {i : Kd} {w n : Str} (h : Ob A.c_Door H x [("word", .str w), ("name", .str n), ("kind", v)]) (k : KAt A H v i) (o : (Td.k i).door = true) : KAt A H (.ref x) (.door w n i)
  | part {x : Addr} {v : V} {i : Kd} {n : Str} (h : Ob A.c_Part H x [("name", .str n), ("kind", v)]) (k : KAt A H v i) (o : (Td.k i).simple = true) : KAt A H (.ref x) (.part n i)
  | room {x : Addr} {v : V} {i : Kd} {w n : Str} (h : Ob A.c_Room H x [("word", .str w), ("name", .str n), ("kind", v)]) (k : KAt A H v i) (o : (Td.k i).room = true) : KAt A H (.ref x) (.room w n i)
  | choice {x t : Addr} {vs : List V} {ks : List Kd} (h : Ob A.c_Choice H x [("ways", .ref t)]) (e : H t = some (.tup vs)) (k : KAts A H vs ks) (o : ∀ z ∈ ks, (Td.k z).wd = true) : KAt A H (.ref x) (.choice ks)
  | row {x t : Addr} {vs : List V} {ks : List Kd} (h : Ob A.c_Row H x [("parts", .ref t)]) (e : H t = some (.tup vs)) (k : KAts A H vs ks) (o : ∀ z ∈ ks, (Td.k z).pr = true) : KAt A H (.ref x) (.row ks)
inductive KAts (A : Ad) (H : Hp) : List V → List Kd → Prop where
  | nil : KAts A H [] []
  | cons {v : V} {k : Kd} {vs : List V} {ks : List Kd} (h : KAt A H v k) (t : KAts A H vs ks) : KAts A H (v :: vs) (k :: ks)
end
mutual
theorem KAt.keep {A : Ad} {H H' : Hp} (e : KI H H') : ∀ {v : V} {d : Kd}, KAt A H v d → KAt A H' v d
  | _, _, .num h => .num (h.keep e)
  | _, _, .bits h => .bits (h.keep e)
  | _, _, .call h => .call (h.keep e)
  | _, _, .items h k o => .items (h.keep e) (k.keep e) o
  | _, _, .nothing h => .nothing (h.keep e)
  | _, _, .none => .none
  | _, _, .way h k o => .way (h.keep e) (k.keep e) o
  | _, _, .door h k o => .door (h.keep e) (k.keep e) o
  | _, _, .part h k o => .part (h.keep e) (k.keep e) o
  | _, _, .room h k o => .room (h.keep e) (k.keep e) o
  | _, _, .choice h t k o => .choice (h.keep e) (e.t _ _ t) (KAts.keep e k) o
  | _, _, .row h t k o => .row (h.keep e) (e.t _ _ t) (KAts.keep e k) o
theorem KAts.keep {A : Ad} {H H' : Hp} (e : KI H H') : ∀ {vs : List V} {ds : List Kd}, KAts A H vs ds → KAts A H' vs ds
  | _, _, .nil => .nil
  | _, _, .cons h t => .cons (h.keep e) (KAts.keep e t)
end
def Th (A : Ad) (K : PySem.W.Frag) (H : Hp) (v : V) : Td → Prop
  | .k d => KAt A H v d
  | .raw n => n ∈ asks ∧ VT K H v (.type n)
section
variable {K : PySem.W.Frag} {mg : Str → Option Value} {A : Ad} {H H' : Hp} {v : V} {t : Td} {d : Kd}
theorem Th.keep (e : KI H H') (h : Th A K H v t) : Th A K H' v t := by
  cases t with
  | k d => exact KAt.keep e h
  | raw n => exact ⟨h.1, h.2.keep e.k⟩
theorem Txt.kco (T : Txt K mg A) (c : Kc) : ClsO K (A.kc c) (kcName c) := by
  cases c
  · exact T.o_Number
  · exact T.o_Bits
  · exact T.o_Call
  · exact T.o_Items
  · exact T.o_Nothing
  · exact T.o_Way
  · exact T.o_Door
  · exact T.o_Part
  · exact T.o_Room
  · exact T.o_Choice
  · exact T.o_Row
theorem Txt.kci (T : Txt K mg A) (c : Kc) : C8.InsC K (A.kc c) := by
  cases c
  · exact T.isc_Number
  · exact T.isc_Bits
  · exact T.isc_Call
  · exact T.isc_Items
  · exact T.isc_Nothing
  · exact T.isc_Way
  · exact T.isc_Door
  · exact T.isc_Part
  · exact T.isc_Room
  · exact T.isc_Choice
  · exact T.isc_Row
theorem Txt.kcne (T : Txt K mg A) {c d : Kc} (n : c ≠ d) : A.kc c ≠ A.kc d := (T.kco c).ne (T.kco d) (kcName_ne c d n)
theorem Ob.vt (T : Txt K mg A) (c : Kc) {x : Addr} {l : List (Str × V)} (h : Ob (A.kc c) H x l) : VT K H (.ref x) (.ref (A.kc c)) := by
  obtain ⟨dx, fs, h1, _⟩ := h
  exact .ins h1 (T.kci c) (T.kco c)
theorem KAt.vt (T : Txt K mg A) (h : KAt A H v d) : VT K H v (Td.tag A (.k d)) := by
  cases h with
  | num h => exact h.vt T .num
  | bits h => exact h.vt T .bits
  | call h => exact h.vt T .call
  | items h _ _ => exact h.vt T .items
  | nothing h => exact h.vt T .nothing
  | none => exact .non
  | way h _ _ => exact h.vt T .way
  | door h _ _ => exact h.vt T .door
  | part h _ _ => exact h.vt T .part
  | room h _ _ => exact h.vt T .room
  | choice h _ _ _ => exact h.vt T .choice
  | row h _ _ _ => exact h.vt T .row
theorem Th.vt (T : Txt K mg A) (h : Th A K H v t) : VT K H v (t.tag A) := by
  cases t with
  | k d => exact KAt.vt T h
  | raw n => exact h.2
theorem isa_raw {n : String} {C : Addr} : isa (.type n) (.ref C) = false := by
  have n1 : ¬ Value.type n = Value.ref C := fun z => by cases z
  have n2 : ¬ Value.ref C = Value.type "int" := fun z => by cases z
  unfold isa
  rw [decide_eq_false n1, decide_eq_false n2, Bool.and_false]
  rfl
theorem isa_own (T : Txt K mg A) (c d : Kc) : isa (.ref (A.kc c)) (.ref (A.kc d)) = decide (c = d) := by
  unfold isa
  rw [decide_eq_false (show ¬ Value.ref (A.kc c) = Value.type "bool" from fun z => by cases z), Bool.false_and, Bool.or_false]
  by_cases e : c = d
  · subst e; simp
  · rw [decide_eq_false e, decide_eq_false fun z => T.kcne e (by injection z)]
/-- isinstance(thing, C) -/
theorem isa_kc (T : Txt K mg A) (t : Td) (c : Kc) : isa (t.tag A) (.ref (A.kc c)) = decide (t.cls = some c) := by
  cases t with
  | raw n => rw [show Td.tag A (.raw n) = .type n from rfl, isa_raw]; rfl
  | k d =>
    show isa (match d.cls with | some c => Value.ref (A.kc c) | none => .type "NoneType") _ = decide (d.cls = some c)
    cases d.cls with
    | none => rw [isa_raw]; rfl
    | some e =>
      rw [isa_own T]
      by_cases z : e = c
      · subst z; simp
      · rw [decide_eq_false z, decide_eq_false fun q => z (by injection q)]
end
/-! what is a name, a word, a width -/
def okBits : V → Bool
  | .str x => x.cps.toList.all fun c => decide (c = 48) || decide (c = 49)
  | _ => false
def okName : V → Bool
  | .str x => decide (1 ≤ x.length) && (decide (x.length ≤ 8) && x.cps.toList.all fun c => decide (97 ≤ c) && decide (c ≤ 122))
  | _ => false
def okWord (v : V) : Bool := okBits v && (decide (1 ≤ (strOf v).length) && decide ((strOf v).length ≤ 8))
def okW : V → Int → Bool
  | .non, _ => true
  | .int i, n => decide (1 ≤ i) && (decide (i ≤ 60) && decide (n ≤ 2 ^ i.toNat))
  | _, _ => false
theorem iteB {c : Bool} {P Q : Prop} (h1 : c = true → P) (h2 : c = false → Q) : if c = true then P else Q := by
  cases c
  · exact h2 rfl
  · exact h1 rfl
theorem not_t {b : Bool} (h : (!b) = true) : b = false := by cases b <;> first | rfl | cases h
theorem not_f {b : Bool} (h : (!b) = false) : b = true := by cases b <;> first | rfl | cases h
theorem sign_dec {c n : Nat} {s : Str} (h : s = ⟨#[n]⟩) : decide (V.str ⟨#[c]⟩ = V.str s) = decide (c = n) := by
  subst h
  by_cases e : c = n
  · subst e; simp
  · rw [decide_eq_false e, decide_eq_false]
    intro z
    injection z with z
    injection z with z
    exact e (by simpa using z)
theorem sgn0 : (Str.ofString "0") = ⟨#[48]⟩ := by decide +kernel
theorem sgn1 : (Str.ofString "1") = ⟨#[49]⟩ := by decide +kernel
/-- a text that is not too long for len -/
def Short (v : V) : Prop := (strOf v).length ≤ 1000000
theorem short_le {x : Str} (h : Short (.str x)) : x.length ≤ sizeLine := by
  rw [sizeLine_eq]
  have : x.length ≤ 1000000 := h
  omega
theorem str_of {K : PySem.W.Frag} {H : Hp} {v : V} {t : Value} (h : VT K H v t) (e : isa t (.type "str") = true) : ∃ x, v = .str x := by
  rw [← isS_of h] at e
  cases v <;> first | exact ⟨_, rfl⟩ | cases e
theorem nstr_of {K : PySem.W.Frag} {H : Hp} {v : V} {t : Value} (h : VT K H v t) (e : isa t (.type "str") = false) : okBits v = false ∧ okName v = false := by
  rw [← isS_of h] at e
  cases v <;> first | exact ⟨rfl, rfl⟩ | cases e
theorem take_all {l : List Nat} {f : Nat → Bool} {i c : Nat} (h : (l.take i).all f = true) (hc : l[i]? = some c) (hf : f c = true) : (l.take (i + 1)).all f = true := by
  rw [List.take_succ, hc, List.all_append, h]
  simp [hf]
theorem not_all {l : List Nat} {f : Nat → Bool} {i c : Nat} (hc : l[i]? = some c) (hf : f c = false) : l.all f = false := by
  rw [Bool.eq_false_iff]
  intro z
  have := List.all_eq_true.mp z c (List.mem_of_getElem? hc)
  rw [hf] at this
  cases this
theorem full_all {x : Str} {f : Nat → Bool} (h : (x.cps.toList.take x.cps.size).all f = true) : x.cps.toList.all f = true := by
  rw [← Array.length_toList, List.take_length] at h
  exact h
theorem abc_mem (c : Nat) : decide (c ∈ (Str.ofString "abcdefghijklmnopqrstuvwxyz").cps.toList) = (decide (97 ≤ c) && decide (c ≤ 122)) := by
  rw [abc_eq]
  by_cases h : 97 ≤ c ∧ c ≤ 122
  · obtain ⟨h1, h2⟩ := h
    rw [decide_eq_true h1, decide_eq_true h2]
    have : c = 97 ∨ c = 98 ∨ c = 99 ∨ c = 100 ∨ c = 101 ∨ c = 102 ∨ c = 103 ∨ c = 104 ∨ c = 105 ∨ c = 106 ∨ c = 107 ∨ c = 108 ∨ c = 109 ∨ c = 110 ∨ c = 111 ∨ c = 112 ∨ c = 113 ∨ c = 114 ∨ c = 115 ∨ c = 116 ∨ c = 117 ∨ c = 118 ∨ c = 119 ∨ c = 120 ∨ c = 121 ∨ c = 122 := by omega
    rw [decide_eq_true (by simpa using this)]
    rfl
  · rw [decide_eq_false]
    · by_cases h1 : 97 ≤ c
      · rw [decide_eq_true h1, decide_eq_false fun h2 => h ⟨h1, h2⟩]; rfl
      · rw [decide_eq_false h1]; rfl
    · intro z
      have := abc_letter c z
      exact h this
theorem intOf_isI {v : V} (h : isI v = true) : v = .int (intOf v) := by
  cases v <;> first | rfl | cases h
/-! what each class makes of its arguments -/
def mkNum (a b w : V) : Except Str Kd :=
  if isI a = false then .error "low" else if isI b = false ∨ intOf b ≤ intOf a ∨ 2 ^ 60 ≤ intOf b - intOf a then .error "high" else
  if okW w (intOf b - intOf a + 1) = false then .error "width" else .ok (.num (intOf a) (intOf b) (oiOf w))
def mkBits (v : V) : Except Str Kd := if isI v = false ∨ intOf v < 1 ∨ 16 < intOf v then .error "many" else .ok (.bits (intOf v))
def mkCall (v : V) : Except Str Kd := if okName v = false then .error "name" else .ok (.call (strOf v))
def mkItems (t : Td) (w : V) : Except Str Kd :=
  if t.item = false then .error "item" else if w ≠ .non ∧ (isI w = false ∨ intOf w < 1 ∨ 3 < intOf w) then .error "width" else .ok (.items t.kd (oiOf w))
def chk (w n : V) (b : Bool) : Option Str := if okWord w = false then some "word" else if okName n = false then some "name" else if b = false then some "kind" else none
def mkInner (f : Str → Str → Kd → Kd) (w n : V) (t : Td) (b : Bool) : Except Str Kd := match chk w n b with
  | some p => .error p
  | none => .ok (f (strOf w) (strOf n) t.kd)
def mkPart (n : V) (t : Td) : Except Str Kd := if okName n = false then .error "name" else if t.simple = false then .error "kind" else .ok (.part (strOf n) t.kd)
/-- what a making ends in: an own error with the first part that is not as told, or the made thing -/
def Made (A : Ad) (x : Addr) (r : Except Str Kd) (H : Hp) (Q : VK) (E : XK) : Prop := match r with
  | .error p => ∀ (H' : Hp) (d : Addr), Same H H' → H' d = some (.xd [("part", .str p)]) → E (.ref A.c_BadKind) (some d) H'
  | .ok k => ∀ H', Same H H' → KAt A H' (.ref x) k → Q .non H'
/-- the fresh thing at x in H, H0 ahead of it -/
structure Fresh (C : Addr) (x : Addr) (H0 H : Hp) : Prop where
  no : H0 x = none
  s : Same H0 H
  at' : ∃ dx, H x = some (.ins C dx [])
theorem Fresh.mk' {C x dx : Addr} {H : Hp} (h1 : H x = none) (h2 : H dx = none) (ne : dx ≠ x) : Fresh C x H (upd (upd H dx (.own x)) x (.ins C dx [])) :=
  ⟨h1, fun b o e => by rw [upd_ne (ne_of_none e h1), upd_ne (ne_of_none e h2)]; exact e, dx, upd_same⟩
abbrev sp_BadKind___init__ (_ : PySem.W.Frag) (A : Ad) : Sp := sp_exc1 A.c_BadKind "part"
abbrev sp_is_integer (K : PySem.W.Frag) (_ : Ad) : Sp := Sp1 fun v H Q _ => ∃ t, VT K H v t ∧ Q (.bl (isI v)) H
abbrev sp_is_bits (K : PySem.W.Frag) (_ : Ad) : Sp := Sp1 fun v H Q _ => ∃ t, VT K H v t ∧ Q (.bl (okBits v)) H
abbrev sp_is_name (K : PySem.W.Frag) (_ : Ad) : Sp := Sp1 fun v H Q _ => ∃ t, VT K H v t ∧ Short v ∧ Q (.bl (okName v)) H
abbrev sp_is_word (K : PySem.W.Frag) (_ : Ad) : Sp := Sp1 fun v H Q _ => ∃ t, VT K H v t ∧ Short v ∧ Q (.bl (okWord v)) H
def pre2 (x y : Str) : Bool := PySem.Txt.startswith x y || PySem.Txt.startswith y x
abbrev sp_begins (_ : PySem.W.Frag) (_ : Ad) : Sp := Sp2 fun v w H Q _ => ∃ x y, v = .str x ∧ w = .str y ∧ Q (.bl (pre2 x y)) H
abbrev sp_is_width (K : PySem.W.Frag) (_ : Ad) : Sp := Sp2 fun v w H Q _ => ∃ t n, VT K H v t ∧ w = .int n ∧ Q (.bl (okW v n)) H
abbrev sp_is_simple (K : PySem.W.Frag) (A : Ad) : Sp := Sp1 fun v H Q _ => ∃ t, Th A K H v t ∧ ∀ H', Same H H' → Q (.bl t.simple) H'
abbrev sp_check_inner (K : PySem.W.Frag) (A : Ad) : Sp := Sp3 fun w n b H Q E => ∃ t1 t2 c, VT K H w t1 ∧ VT K H n t2 ∧ Short w ∧ Short n ∧ b = .bl c ∧ (match chk w n c with
  | some p => ∀ (H' : Hp) (d : Addr), Same H H' → H' d = some (.xd [("part", .str p)]) → E (.ref A.c_BadKind) (some d) H'
  | none => Q .non H)
abbrev sp_Number___init__ (K : PySem.W.Frag) (A : Ad) : Sp := Sp4 fun s a b w H Q E => ∃ (H0 : Hp) (x : Addr) (ta tb tw : Value), s = .ref x ∧ Fresh A.c_Number x H0 H ∧ VT K H0 a ta ∧ VT K H0 b tb ∧ VT K H0 w tw ∧ Made A x (mkNum a b w) H0 Q E
abbrev sp_Bits___init__ (K : PySem.W.Frag) (A : Ad) : Sp := Sp2 fun s a H Q E => ∃ (H0 : Hp) (x : Addr) (ta : Value), s = .ref x ∧ Fresh A.c_Bits x H0 H ∧ VT K H0 a ta ∧ Made A x (mkBits a) H0 Q E
abbrev sp_Call___init__ (K : PySem.W.Frag) (A : Ad) : Sp := Sp2 fun s a H Q E => ∃ (H0 : Hp) (x : Addr) (ta : Value), s = .ref x ∧ Fresh A.c_Call x H0 H ∧ VT K H0 a ta ∧ Short a ∧ Made A x (mkCall a) H0 Q E
abbrev sp_Items___init__ (K : PySem.W.Frag) (A : Ad) : Sp := Sp3 fun s a w H Q E => ∃ (H0 : Hp) (x : Addr) (t : Td) (tw : Value), s = .ref x ∧ Fresh A.c_Items x H0 H ∧ Th A K H0 a t ∧ VT K H0 w tw ∧ Made A x (mkItems t w) H0 Q E
abbrev sp_inner (C : Addr) (f : Str → Str → Kd → Kd) (ok : Td → Bool) (K : PySem.W.Frag) (A : Ad) : Sp := Sp4 fun s w n k H Q E => ∃ (H0 : Hp) (x : Addr) (tw tn : Value) (t : Td), s = .ref x ∧ Fresh C x H0 H ∧ VT K H0 w tw ∧ VT K H0 n tn ∧ Short w ∧ Short n ∧ Th A K H0 k t ∧ Made A x (mkInner f w n t (ok t)) H0 Q E
abbrev sp_Way___init__ (K : PySem.W.Frag) (A : Ad) : Sp := sp_inner A.c_Way .way Td.way K A
abbrev sp_Door___init__ (K : PySem.W.Frag) (A : Ad) : Sp := sp_inner A.c_Door .door Td.door K A
abbrev sp_Room___init__ (K : PySem.W.Frag) (A : Ad) : Sp := sp_inner A.c_Room .room Td.room K A
abbrev sp_Part___init__ (K : PySem.W.Frag) (A : Ad) : Sp := Sp3 fun s n k H Q E => ∃ (H0 : Hp) (x : Addr) (tn : Value) (t : Td), s = .ref x ∧ Fresh A.c_Part x H0 H ∧ VT K H0 n tn ∧ Short n ∧ Th A K H0 k t ∧ Made A x (mkPart n t) H0 Q E
/-- C.__eq__ -/
abbrev spEq (c : Kc) (A : Ad) : Sp := Sp2 fun v w H Q _ => ∃ d e, KAt A H v d ∧ d.cls = some c ∧ KAt A H w e ∧ d.nn e = true ∧ Q (.bl (d.eqk e)) H
abbrev sp_Number___eq__ (_ : PySem.W.Frag) (A : Ad) : Sp := spEq .num A
abbrev sp_Bits___eq__ (_ : PySem.W.Frag) (A : Ad) : Sp := spEq .bits A
abbrev sp_Call___eq__ (_ : PySem.W.Frag) (A : Ad) : Sp := spEq .call A
abbrev sp_Items___eq__ (_ : PySem.W.Frag) (A : Ad) : Sp := spEq .items A
abbrev sp_Nothing___eq__ (_ : PySem.W.Frag) (A : Ad) : Sp := spEq .nothing A
abbrev sp_Way___eq__ (_ : PySem.W.Frag) (A : Ad) : Sp := spEq .way A
abbrev sp_Door___eq__ (_ : PySem.W.Frag) (A : Ad) : Sp := spEq .door A
abbrev sp_Part___eq__ (_ : PySem.W.Frag) (A : Ad) : Sp := spEq .part A
abbrev sp_Room___eq__ (_ : PySem.W.Frag) (A : Ad) : Sp := spEq .room A
abbrev sp_Choice___eq__ (_ : PySem.W.Frag) (A : Ad) : Sp := spEq .choice A
abbrev sp_Row___eq__ (_ : PySem.W.Frag) (A : Ad) : Sp := spEq .row A
/-! a choice's ways, a row's parts -/
def Td.word : Td → Str
  | .k (.way w _ _) => w
  | .k (.door w _ _) => w
  | .k (.room w _ _) => w
  | _ => Str.empty
def Td.name : Td → Str
  | .k (.way _ n _) => n
  | .k (.door _ n _) => n
  | .k (.part n _) => n
  | .k (.room _ n _) => n
  | _ => Str.empty
/-- the one behind the others: it clashes with none of them -/
def clearW (seen : List Td) (t : Td) : Bool := seen.all fun o => !(pre2 t.word o.word) && !decide (t.name = o.name)
def clearP (seen : List Td) (t : Td) : Bool := seen.all fun o => !decide (t.name = o.name)
def goodW : List Td → List Td → Bool
  | _, [] => true
  | seen, t :: ts => t.wd && (clearW seen t && goodW (seen ++ [t]) ts)
def goodP : List Td → List Td → Bool
  | _, [] => true
  | seen, t :: ts => t.pr && (clearP seen t && goodP (seen ++ [t]) ts)
def okWays (ts : List Td) : Bool := decide (1 ≤ ts.length) && (decide (ts.length ≤ 12) && (goodW [] ts && ts.any fun t => decide (t.cls = some .way)))
def okParts (ts : List Td) : Bool := decide (1 ≤ ts.length) && (decide (ts.length ≤ 8) && (goodP [] ts && match ts.getLast? with
  | some t => decide (t.cls = some .part)
  | none => false))
/-- a list or a tuple of things, or another thing -/
inductive Seqs (A : Ad) (K : PySem.W.Frag) (H : Hp) : V → Option (List Td) → Prop where
  | lst {a : Addr} {vs : List V} {ts : List Td} (e : H a = some (.lst vs)) (h : Paired (Th A K H) vs ts) (n : vs.length ≤ 100) : Seqs A K H (.ref a) (some ts)
  | tup {a : Addr} {vs : List V} {ts : List Td} (e : H a = some (.tup vs)) (h : Paired (Th A K H) vs ts) (n : vs.length ≤ 100) : Seqs A K H (.ref a) (some ts)
  | no {v : V} {t : Value} (h : VT K H v t) (n1 : t ≠ .type "list") (n2 : t ≠ .type "tuple") : Seqs A K H v none
def mkSeq (f : List Kd → Kd) (ok : List Td → Bool) (p : Str) : Option (List Td) → Except Str Kd
  | some ts => if ok ts = false then .error p else .ok (f (ts.map Td.kd))
  | none => .error p
def okSeq (ok : List Td → Bool) : Option (List Td) → Bool
  | some ts => ok ts
  | none => false
abbrev sp_are_ways (K : PySem.W.Frag) (A : Ad) : Sp := Sp1 fun v H Q _ => ∃ o, Seqs A K H v o ∧ ∀ H', Same H H' → Q (.bl (okSeq okWays o)) H'
abbrev sp_are_parts (K : PySem.W.Frag) (A : Ad) : Sp := Sp1 fun v H Q _ => ∃ o, Seqs A K H v o ∧ ∀ H', Same H H' → Q (.bl (okSeq okParts o)) H'
abbrev sp_Choice___init__ (K : PySem.W.Frag) (A : Ad) : Sp := Sp2 fun s v H Q E => ∃ (H0 : Hp) (x : Addr) (o : Option (List Td)), s = .ref x ∧ Fresh A.c_Choice x H0 H ∧ Seqs A K H0 v o ∧ Made A x (mkSeq .choice okWays "ways" o) H0 Q E
abbrev sp_Row___init__ (K : PySem.W.Frag) (A : Ad) : Sp := Sp2 fun s v H Q E => ∃ (H0 : Hp) (x : Addr) (o : Option (List Td)), s = .ref x ∧ Fresh A.c_Row x H0 H ∧ Seqs A K H0 v o ∧ Made A x (mkSeq .row okParts "parts" o) H0 Q E

theorem same_new {H : Hp} {p : Addr} {o : HO} (h : H p = none) : Same H (upd H p o) := fun b u e => by rw [upd_ne (ne_of_none e h)]; exact e
theorem same_put {H0 H : Hp} {x : Addr} {o : HO} (no : H0 x = none) (s : Same H0 H) : Same H0 (upd H x o) := fun b u e => by rw [upd_ne (ne_of_none e no)]; exact s b u e
theorem Fresh.go {C x : Addr} {H0 H H' : Hp} (f : Fresh C x H0 H) (e : Same H H') : Fresh C x H0 H' := ⟨f.no, f.s.trans e, by obtain ⟨dx, h⟩ := f.at'; exact ⟨dx, e _ _ h⟩⟩
theorem raise_bad {A : Ad} {H0 H : Hp} {p : Str} {E : XK} (sm : Same H0 H) (k : ∀ (H' : Hp) (d : Addr), Same H0 H' → H' d = some (.xd [("part", .str p)]) → E (.ref A.c_BadKind) (some d) H') : ([V.str p] : List V).length ≤ 1000 ∧ ∀ a, H a = none →
    sp_exc1 A.c_BadKind "part" (.ref a :: ([V.str p] ++ [])) (upd H a (exo a A.c_BadKind none)) (fun u H2 => u = .non ∧ ∃ (d : Addr) (fs : List (Str × V)), H2 a = some (exo a A.c_BadKind (some d)) ∧ H2 d = some (exd d fs) ∧ H d = none ∧ E (.ref A.c_BadKind) (some d) (upd (L2.del H2 a) d (.xd fs))) (fun _ _ _ => False) :=
  mk_exc1 fun d hd => k _ d (sm.trans (same_new hd)) upd_same
theorem nI {i : Int} : ¬ isI (.int i) = false := fun z => nomatch z
theorem int_ex {v : V} (h : isI v = true) : ∃ i, v = .int i := by cases v <;> first | exact ⟨_, rfl⟩ | cases h
theorem iteY {P Q : Prop} (h : P) : if true = true then P else Q := by rw [if_pos rfl]; exact h
theorem okW_oi {v : V} {n : Int} (h : okW v n = true) : v = oi (oiOf v) := by cases v <;> first | rfl | cases h
theorem put1 {f : Str} {a : V} : ∀ p ∈ [(f, a)], (putF f a []).lookup p.1 = some p.2 := by
  intro p hp
  rw [List.mem_singleton.mp hp, lookup_putF, if_pos rfl]
theorem put2 {f g : Str} {a b : V} (n : ¬ f = g) : ∀ p ∈ [(f, a), (g, b)], (putF g b (putF f a [])).lookup p.1 = some p.2 := by
  intro p hp
  rcases List.mem_cons.mp hp with e | hp
  · rw [e, lookup_putF, if_neg n, lookup_putF, if_pos rfl]
  · rw [List.mem_singleton.mp hp, lookup_putF, if_pos rfl]
theorem put3 {f g h : Str} {a b c : V} (n1 : ¬ f = g) (n2 : ¬ f = h) (n3 : ¬ g = h) : ∀ p ∈ [(f, a), (g, b), (h, c)], (putF h c (putF g b (putF f a []))).lookup p.1 = some p.2 := by
  intro p hp
  rcases List.mem_cons.mp hp with e | hp
  · rw [e, lookup_putF, if_neg n2, lookup_putF, if_neg n1, lookup_putF, if_pos rfl]
  · rcases List.mem_cons.mp hp with e | hp
    · rw [e, lookup_putF, if_neg n3, lookup_putF, if_pos rfl]
    · rw [List.mem_singleton.mp hp, lookup_putF, if_pos rfl]
theorem put_len {fs : List (Str × V)} {f : Str} {v : V} {n : Nat} (h : fs.length ≤ n) : (putF f v fs).length ≤ n + 1 := Nat.le_trans (length_putF _ _ _) (Nat.succ_le_succ h)
theorem any_kc {K : PySem.W.Frag} {mg : Str → Option Value} {A : Ad} {H : Hp} {v : V} {t : Td} (T : Txt K mg A) (h : Th A K H v t) (cs : List Kc) : PySem.W.kitAny K (t.tag A) (cs.map fun c => Value.ref (A.kc c)) = some (cs.any fun c => decide (t.cls = some c)) := by
  rw [kitAny_isa]
  · rw [List.any_map]
    congr 1
    congr 1
    funext c
    exact isa_kc T t c
  · intro u hu
    obtain ⟨c, _, rfl⟩ := List.mem_map.mp hu
    exact kit_isaO (h.vt T).tag (T.kco c)
theorem eqk_ne {d e : Kd} (h : d.cls ≠ e.cls) : d.eqk e = false := by
  cases d <;> cases e <;> first | rfl | exact absurd rfl h
theorem dI {a b : Int} : decide (V.int a = V.int b) = decide (a = b) := decide_eq_decide.mpr ⟨fun h => by injection h, fun h => by rw [h]⟩
theorem dS {a b : Str} : decide (V.str a = V.str b) = decide (a = b) := decide_eq_decide.mpr ⟨fun h => by injection h, fun h => by rw [h]⟩
theorem dO {a b : Option Int} : decide (oi a = oi b) = decide (a = b) := by
  cases a <;> cases b
  · rfl
  · rfl
  · rfl
  · show decide (V.int _ = V.int _) = _
    rw [dI]
    exact decide_eq_decide.mpr ⟨fun h => by rw [h], fun h => by injection h⟩
theorem scal_oi {a b : Option Int} : scal (oi a) (oi b) = true := by cases a <;> cases b <;> rfl
theorem kat_ins {A : Ad} {H : Hp} {v : V} {d : Kd} {c : Kc} (h : KAt A H v d) (e : d.cls = some c) : ∃ x dx fs, v = .ref x ∧ H x = some (.ins (A.kc c) dx fs) := by
  have go : ∀ {C x : Addr} {l : List (Str × V)}, Ob C H x l → A.kc c = C → ∃ x' dx fs, V.ref x = .ref x' ∧ H x' = some (.ins (A.kc c) dx fs) := fun {C x l} h q => by
    obtain ⟨dx, fs, h1, _⟩ := h
    exact ⟨x, dx, fs, rfl, by rw [q]; exact h1⟩
  cases h <;> first | (cases e; done) | skip
  all_goals (have q := Option.some.inj e; subst q; exact go (by assumption) rfl)
theorem kat_non {A : Ad} {H : Hp} {v : V} {d : Kd} (h : KAt A H v d) (e : d.cls = none) : v = .non ∧ d = .none := by
  cases h <;> first | exact ⟨rfl, rfl⟩ | cases e
theorem kc_first {K : PySem.W.Frag} {mg : Str → Option Value} {A : Ad} (T : Txt K mg A) (c d : Kc) : PySem.W.notFirst K (A.kc c) (.ref (A.kc d)) = true := by
  unfold PySem.W.notFirst
  by_cases e : c = d
  · subst e; simp
  · rw [(T.kco d).sub, decide_eq_false]
    · simp
    · rintro (z | z)
      · exact T.kcne e (by injection z)
      · cases z
/-- == of kinds: the classes' own __eq__ at hand -/
inductive EqFs (X : Cx) (A : Ad) : List Kc → Prop where
  | nil : EqFs X A []
  | cons {c : Kc} {cs : List Kc} {f : Addr} {fd : FuncData} {n : Nat} (F : FnOk X.prog X.w X.K X.mg X.base CX0 n f fd ["self", "other"] (spEq c A)) (m : PySem.W.findIn X.K (.ref (A.kc c)) "__eq__" = some (some (.ref f))) (i : PySem.W.isFn X.K (.ref f) = true)
      (b : Binds X.K fd ["self", "other"] []) (r : Room n X.A) (t : EqFs X A cs) : EqFs X A (c :: cs)
def rEqKd (A : Ad) (L : List Kc) : R2 := fun x y H Q => ∃ d e, KAt A H x d ∧ KAt A H y e ∧ (d.cls = none ↔ e.cls = none) ∧ (∀ c, d.cls = some c → c ∈ L) ∧ d.nn e = true ∧ Q (.bl (d.eqk e)) H
theorem EqFs.op {X : Cx} {A : Ad} {c : Kc} : ∀ {L : List Kc}, EqFs X A L → c ∈ L → OpR X (compareOp .Eq) (rEqD X.K (A.kc c) (spEq c A))
  | _, .cons F m i b r t, h => by
    rcases List.mem_cons.mp h with e | h
    · subst e; exact op_eqD F m i b r
    · exact EqFs.op t h
theorem op_eqKd {X : Cx} {A : Ad} {L : List Kc} (T : Txt X.K X.mg A) (F : EqFs X A L) : OpR X (compareOp .Eq) (rEqKd A L) := by
  intro pins s σ H x y u v Q I rx ry h
  obtain ⟨d, e, hd, he, nn, hc, hn, q⟩ := h
  cases z : d.cls with
  | none =>
    obtain ⟨rfl, rfl⟩ := kat_non hd z
    obtain ⟨rfl, rfl⟩ := kat_non he (nn.mp z)
    exact op_eq pins s σ H _ _ u v Q I rx ry ⟨rfl, q⟩
  | some c =>
    obtain ⟨a, dx, fs, rfl, ha⟩ := kat_ins hd z
    cases z2 : e.cls with
    | none => rw [nn.mpr z2] at z; cases z
    | some c2 =>
      obtain ⟨b, dy, gs, rfl, hb⟩ := kat_ins he z2
      exact F.op (hc c z) pins s σ H _ _ u v Q I rx ry ⟨a, b, dx, fs, _, dy, gs, rfl, rfl, ha, hb, kc_first T c c2, _, _, rfl, d, e, hd, z, he, hn, q⟩

theorem chk_none {w n : V} {b : Bool} (h : chk w n b = none) : w = .str (strOf w) ∧ n = .str (strOf n) ∧ b = true := by
  unfold chk at h
  by_cases h1 : okWord w = false
  · rw [if_pos h1] at h; cases h
  rw [if_neg h1] at h
  by_cases h2 : okName n = false
  · rw [if_pos h2] at h; cases h
  rw [if_neg h2] at h
  by_cases h3 : b = false
  · rw [if_pos h3] at h; cases h
  refine ⟨?_, ?_, by simpa using h3⟩
  · cases w <;> first | rfl | exact absurd rfl h1
  · cases n <;> first | rfl | exact absurd rfl h2
theorem inner_go {A : Ad} {x : Addr} {f : Str → Str → Kd → Kd} {w n : V} {t : Td} {b : Bool} {H0 H : Hp} {Q : VK} {E : XK} {G : Prop} (sm : Same H0 H) (k : Made A x (mkInner f w n t b) H0 Q E)
    (g : chk w n b = none → (∀ H', Same H0 H' → KAt A H' (.ref x) (f (strOf w) (strOf n) t.kd) → Q .non H') → G) : (match chk w n b with
      | some p => ∀ (H' : Hp) (d : Addr), Same H H' → H' d = some (.xd [("part", .str p)]) → E (.ref A.c_BadKind) (some d) H'
      | none => G) := by
  unfold mkInner at k
  cases e : chk w n b with
  | some p =>
    rw [e] at k
    exact fun H' d s h => k H' d (sm.trans s) h
  | none =>
    rw [e] at k
    exact g e k
theorem th_non {K : PySem.W.Frag} {A : Ad} {H : Hp} {v : V} {t : Td} (h : Th A K H v t) : decide (v = V.non) = t.isNone := by
  cases t with
  | k d => cases h <;> rfl
  | raw n =>
    obtain ⟨h1, h2⟩ := h
    show _ = false
    rw [decide_eq_false]
    intro z
    subst z
    cases h2
    exact absurd h1 (by decide)
theorem kd_of {t : Td} {c : Kc} (h : t.cls = some c) : t = .k t.kd := by cases t <;> first | rfl | cases h
theorem any_of {t : Td} {L : List Kc} (h : (L.any fun c => decide (t.cls = some c)) = true) : ∃ c, c ∈ L ∧ t.cls = some c := by
  obtain ⟨c, h1, h2⟩ := List.any_eq_true.mp h
  exact ⟨c, h1, of_decide_eq_true h2⟩
theorem any_kd {t : Td} {L : List Kc} (h : (L.any fun c => decide (t.cls = some c)) = true) : t = .k t.kd := by
  obtain ⟨c, _, e⟩ := any_of h
  exact kd_of e
theorem any_mem {d : Kd} {L : List Kc} (h : (L.any fun c => decide ((Td.k d).cls = some c)) = true) : (∀ c, d.cls = some c → c ∈ L) ∧ d.cls ≠ none := by
  obtain ⟨c, h1, e⟩ := any_of h
  have e' : d.cls = some c := e
  exact ⟨fun c' e2 => by rw [e'] at e2; injection e2 with e2; rw [← e2]; exact h1, by rw [e']; exact fun z => nomatch z⟩
abbrev wayL : List Kc := [.num, .bits, .items, .call, .nothing]
theorem way_any {t : Td} (h : t.way = true) : (wayL.any fun c => decide (t.cls = some c)) = true := by
  unfold Td.way Td.simple at h
  simp only [wayL, List.any_cons, List.any_nil, Bool.or_false, Bool.or_eq_true] at h ⊢
  rcases h with (h | h | h | h) | h <;> simp only [h, true_or, or_true]
theorem simple_way {t : Td} (h : t.simple = true) : t.way = true := by unfold Td.way; rw [h]; rfl
theorem door_way {d : Kd} (h : (Td.k d).door = true) (n : d.cls ≠ none) : (Td.k d).way = true := by
  cases d <;> first | exact absurd rfl n | exact h
theorem room_simple {d : Kd} (h : (Td.k d).room = true) (n : d.cls ≠ none) : (Td.k d).simple = true := by
  cases d <;> first | exact absurd rfl n | exact h
theorem nn_flat {d e : Kd} (h : d.cls ≠ none → (Td.k d).way = true) : d.nn e = true := by
  cases d <;> first | rfl | exact nomatch (show false = true from h (fun z => nomatch z))
theorem iff_no {d e : Kd} (h1 : d.cls ≠ none) (h2 : e.cls ≠ none) : d.cls = none ↔ e.cls = none := ⟨fun z => absurd z h1, fun z => absurd z h2⟩
theorem iff_of {d e : Kd} (h : (decide (d.cls = none) == decide (e.cls = none)) = true) : d.cls = none ↔ e.cls = none := by
  rw [beq_iff_eq, decide_eq_decide] at h
  exact h
theorem isa_cls {K : PySem.W.Frag} {mg : Str → Option Value} {A : Ad} (T : Txt K mg A) {t : Td} {c : Kc} {b : Bool} (h : isa (t.tag A) (.ref (A.kc c)) = b) : decide (t.cls = some c) = b := (isa_kc T t c).symm.trans h

theorem any_lt {K : PySem.W.Frag} {H : Hp} {v : V} {t : Value} (h : VT K H v t) : PySem.W.kitAny K t [.type "list", .type "tuple"] = some (isa t (.type "list") || (isa t (.type "tuple") || false)) :=
  kitAny_isa fun u hu => by
    rcases List.mem_cons.mp hu with e | hu
    · rw [e]; exact kit_isa h.tag (by decide)
    · rw [List.mem_singleton.mp hu]; exact kit_isa h.tag (by decide)
theorem isa_not {t : Value} {n : String} (h : t ≠ .type n) (hb : n ≠ "int") : isa t (.type n) = false := by
  unfold isa
  rw [decide_eq_false h, decide_eq_false (show ¬ Value.type n = Value.type "int" from fun z => hb (by injection z)), Bool.and_false]
  rfl
theorem isa_self {t : Value} : isa t t = true := by
  unfold isa
  rw [decide_eq_true rfl]
  rfl
theorem paired_at {R : V → Td → Prop} : ∀ {xs : List V} {ts : List Td} {j : Nat} {y : V}, Paired R xs ts → xs[j]? = some y → ∃ t, ts[j]? = some t ∧ R y t
  | _, _, _, _, .nil, h => by simp at h
  | _, _, 0, _, .cons h t, e => by
    have q := Option.some.inj e
    subst q
    exact ⟨_, rfl, h⟩
  | _, _, j + 1, _, .cons h t, e => paired_at (j := j) t e
theorem paired_len {R : V → Td → Prop} : ∀ {xs : List V} {ts : List Td}, Paired R xs ts → xs.length = ts.length
  | _, _, .nil => rfl
  | _, _, .cons _ t => congrArg Nat.succ (paired_len t)
theorem ths_keep {A : Ad} {K : PySem.W.Frag} {H H' : Hp} (e : KI H H') : ∀ {xs : List V} {ts : List Td}, Paired (Th A K H) xs ts → Paired (Th A K H') xs ts
  | _, _, .nil => .nil
  | _, _, .cons h t => .cons (h.keep e) (ths_keep e t)
theorem Seqs.keep {A : Ad} {K : PySem.W.Frag} {H H' : Hp} {v : V} {o : Option (List Td)} (e : Same H H') (h : Seqs A K H v o) : Seqs A K H' v o := by
  cases h with
  | lst h1 h2 n => exact .lst (e _ _ h1) (ths_keep (KI.same e) h2) n
  | tup h1 h2 n => exact .tup (e _ _ h1) (ths_keep (KI.same e) h2) n
  | no h1 n1 n2 => exact .no (h1.keep (KK.same e)) n1 n2
theorem goodW_app (l r : List Td) : ∀ s, goodW s (l ++ r) = (goodW s l && goodW (s ++ l) r) := by
  induction l with
  | nil => intro s; simp [goodW]
  | cons t l ih =>
    intro s
    show (t.wd && (clearW s t && goodW (s ++ [t]) (l ++ r))) = ((t.wd && (clearW s t && goodW (s ++ [t]) l)) && goodW (s ++ t :: l) r)
    rw [ih, List.append_assoc, Bool.and_assoc, Bool.and_assoc]
    rfl
theorem goodP_app (l r : List Td) : ∀ s, goodP s (l ++ r) = (goodP s l && goodP (s ++ l) r) := by
  induction l with
  | nil => intro s; simp [goodP]
  | cons t l ih =>
    intro s
    show (t.pr && (clearP s t && goodP (s ++ [t]) (l ++ r))) = ((t.pr && (clearP s t && goodP (s ++ [t]) l)) && goodP (s ++ t :: l) r)
    rw [ih, List.append_assoc, Bool.and_assoc, Bool.and_assoc]
    rfl
theorem split_at {ts : List Td} {i : Nat} {t : Td} (h : ts[i]? = some t) : ts = ts.take i ++ t :: ts.drop (i + 1) := by
  obtain ⟨h1, h2⟩ := List.getElem?_eq_some_iff.mp h
  rw [← h2, List.getElem_cons_drop, List.take_append_drop]
theorem take_one {ts : List Td} {i : Nat} {t : Td} (h : ts[i]? = some t) : ts.take (i + 1) = ts.take i ++ [t] := by
  rw [List.take_succ, h]
  rfl
theorem goodW_bad {ts : List Td} {i : Nat} {t : Td} (h : ts[i]? = some t) (w : t.wd = false) : goodW [] ts = false := by
  rw [split_at h, goodW_app]
  simp [goodW, w]
theorem goodW_bad2 {ts : List Td} {i : Nat} {t : Td} (h : ts[i]? = some t) (w : clearW (ts.take i) t = false) : goodW [] ts = false := by
  rw [split_at h, goodW_app]
  simp [goodW, w]
theorem goodW_step {ts : List Td} {i : Nat} {t : Td} (h : ts[i]? = some t) (g : goodW [] (ts.take i) = true) (w : t.wd = true) (c : clearW (ts.take i) t = true) : goodW [] (ts.take (i + 1)) = true := by
  rw [take_one h, goodW_app, g]
  simp [goodW, w, c]
theorem goodP_bad {ts : List Td} {i : Nat} {t : Td} (h : ts[i]? = some t) (w : t.pr = false) : goodP [] ts = false := by
  rw [split_at h, goodP_app]
  simp [goodP, w]
theorem goodP_bad2 {ts : List Td} {i : Nat} {t : Td} (h : ts[i]? = some t) (w : clearP (ts.take i) t = false) : goodP [] ts = false := by
  rw [split_at h, goodP_app]
  simp [goodP, w]
theorem goodP_step {ts : List Td} {i : Nat} {t : Td} (h : ts[i]? = some t) (g : goodP [] (ts.take i) = true) (w : t.pr = true) (c : clearP (ts.take i) t = true) : goodP [] (ts.take (i + 1)) = true := by
  rw [take_one h, goodP_app, g]
  simp [goodP, w, c]
theorem goodW_wd : ∀ {l s : List Td}, goodW s l = true → ∀ o ∈ l, o.wd = true
  | [], _, _, o, h => by simp at h
  | t :: l, s, g, o, h => by
    simp only [goodW, Bool.and_eq_true] at g
    rcases List.mem_cons.mp h with e | h
    · rw [e]; exact g.1
    · exact goodW_wd g.2.2 o h
theorem goodP_pr : ∀ {l s : List Td}, goodP s l = true → ∀ o ∈ l, o.pr = true
  | [], _, _, o, h => by simp at h
  | t :: l, s, g, o, h => by
    simp only [goodP, Bool.and_eq_true] at g
    rcases List.mem_cons.mp h with e | h
    · rw [e]; exact g.1
    · exact goodP_pr g.2.2 o h
theorem all_step {l : List Td} {f : Td → Bool} {j : Nat} {t : Td} (h : (l.take j).all f = true) (hc : l[j]? = some t) (hf : f t = true) : (l.take (j + 1)).all f = true := by
  rw [List.take_succ, hc, List.all_append, h]
  simp [hf]
theorem all_bad {l : List Td} {f : Td → Bool} {j : Nat} {t : Td} (hc : l[j]? = some t) (hf : f t = false) : l.all f = false := by
  rw [Bool.eq_false_iff]
  intro z
  have := List.all_eq_true.mp z t (List.mem_of_getElem? hc)
  rw [hf] at this
  cases this
theorem cut_to {xs : List V} {i : Nat} : cutV xs none (some (i : Int)) = xs.take i := by
  unfold cutV
  rw [HT.sIx_none, HT.sIx_nat, List.drop_zero, Nat.sub_zero]
  by_cases h : i ≤ xs.length
  · rw [Nat.min_eq_left h]
  · rw [Nat.min_eq_right (by omega), List.take_length, List.take_of_length_le (by omega)]
theorem seql_same {K : PySem.W.Frag} {H H' : Hp} {a : Addr} {xs : List V} (e : Same H H') (h : SqL K H a xs) : SqL K H' a xs := e.seq h
/-- a way's or a door's word and name -/
theorem wd_fld {K : PySem.W.Frag} {mg : Str → Option Value} {A : Ad} {H : Hp} {v : V} {t : Td} (T : Txt K mg A) (h : Th A K H v t) (w : t.wd = true) : ∃ x C dx fs, v = .ref x ∧ H x = some (.ins C dx fs) ∧ Cls K C ∧ NoAttr K C "word" ∧ NoAttr K C "name" ∧
    fs.lookup ("word" : Str) = some (.str t.word) ∧ fs.lookup ("name" : Str) = some (.str t.name) := by
  have q := any_kd w
  rw [q] at h w ⊢
  generalize t.kd = d at h w
  have h2 : KAt A H v d := h
  cases h2 with
  | way ob _ _ =>
    obtain ⟨dx, fs, h1, lk⟩ := ob
    exact ⟨_, _, dx, fs, rfl, h1, T.cl_Way, T.n_Way_word, T.n_Way_name, lk _ (List.mem_cons_self ..), lk _ (List.mem_cons_of_mem _ (List.mem_cons_self ..))⟩
  | door ob _ _ =>
    obtain ⟨dx, fs, h1, lk⟩ := ob
    exact ⟨_, _, dx, fs, rfl, h1, T.cl_Door, T.n_Door_word, T.n_Door_name, lk _ (List.mem_cons_self ..), lk _ (List.mem_cons_of_mem _ (List.mem_cons_self ..))⟩
  | _ => exact nomatch (show false = true from w)
theorem pr_fld {K : PySem.W.Frag} {mg : Str → Option Value} {A : Ad} {H : Hp} {v : V} {t : Td} (T : Txt K mg A) (h : Th A K H v t) (w : t.pr = true) : ∃ x C dx fs, v = .ref x ∧ H x = some (.ins C dx fs) ∧ Cls K C ∧ NoAttr K C "name" ∧
    fs.lookup ("name" : Str) = some (.str t.name) := by
  have q := any_kd w
  rw [q] at h w ⊢
  generalize t.kd = d at h w
  have h2 : KAt A H v d := h
  cases h2 with
  | part ob _ _ =>
    obtain ⟨dx, fs, h1, lk⟩ := ob
    exact ⟨_, _, dx, fs, rfl, h1, T.cl_Part, T.n_Part_name, lk _ (List.mem_cons_self ..)⟩
  | room ob _ _ =>
    obtain ⟨dx, fs, h1, lk⟩ := ob
    exact ⟨_, _, dx, fs, rfl, h1, T.cl_Room, T.n_Room_name, lk _ (List.mem_cons_of_mem _ (List.mem_cons_self ..))⟩
  | _ => exact nomatch (show false = true from w)
theorem kats_of {A : Ad} {K : PySem.W.Frag} {H : Hp} : ∀ {xs : List V} {ts : List Td}, Paired (Th A K H) xs ts → (∀ t ∈ ts, t = .k t.kd) → KAts A H xs (ts.map Td.kd)
  | _, _, .nil, _ => .nil
  | _, _, .cons h t, w => .cons (by
      have h2 := h
      rw [w _ (List.mem_cons_self ..)] at h2
      exact h2) (kats_of t fun o ho => w o (List.mem_cons_of_mem _ ho))
theorem okWays_good {ts : List Td} (h : okWays ts = true) : goodW [] ts = true := by
  simp only [okWays, Bool.and_eq_true] at h
  exact h.2.2.1
theorem okParts_good {ts : List Td} (h : okParts ts = true) : goodP [] ts = true := by
  simp only [okParts, Bool.and_eq_true] at h
  exact h.2.2.1
theorem heap_gen2 {α : Type} {G : Hp → α → Prop} {H0 : Hp} {q : α} (C : Hp → Prop) (h : C H0) (k : ∀ H1, C H1 → G H1 q) : G H0 q := k _ h
theorem item_way {t : Td} (h : t.item = true) : t.way = true := by
  unfold Td.way Td.simple
  unfold Td.item at h
  simp only [List.any_cons, List.any_nil, Bool.or_false, Bool.or_eq_true] at h ⊢
  rcases h with h | h | h <;> simp only [h, true_or, or_true]
theorem eqk_cls {d e : Kd} {c : Kc} (dc : d.cls = some c) (q : decide ((Td.k e).cls = some c) = false) : d.eqk e = false :=
  eqk_ne (by rw [dc]; exact fun w => of_decide_eq_false q w.symm)
theorem made_cases {A : Ad} {x : Addr} {r : Except Str Kd} {H : Hp} {Q : VK} {E : XK} (he : ∀ p, r = .error p → ∀ (H' : Hp) (d : Addr), Same H H' → H' d = some (.xd [("part", .str p)]) → E (.ref A.c_BadKind) (some d) H') (hk : ∀ k, r = .ok k → ∀ H', Same H H' → KAt A H' (.ref x) k → Q .non H') : Made A x r H Q E := by
  cases r with
  | error p => exact he p rfl
  | ok k => exact hk k rfl
theorem made_ok {A : Ad} {x : Addr} {r : Except Str Kd} {kd : Kd} {H : Hp} {Q : VK} {E : XK} (e : r = .ok kd) (hk : ∀ H', Same H H' → KAt A H' (.ref x) kd → Q .non H') : Made A x r H Q E := by
  subst e
  exact hk
mutual
theorem eqk_refl : ∀ k : Kd, k.eqk k = true
  | .num a b w => by simp [Kd.eqk]
  | .bits n => by simp [Kd.eqk]
  | .call s => by simp [Kd.eqk]
  | .items i w => by simp [Kd.eqk, eqk_refl i]
  | .nothing => rfl
  | .none => rfl
  | .way w n k => by simp [Kd.eqk, eqk_refl k]
  | .door w n k => by simp [Kd.eqk, eqk_refl k]
  | .part n k => by simp [Kd.eqk, eqk_refl k]
  | .room w n k => by simp [Kd.eqk, eqk_refl k]
  | .choice ks => by simp [Kd.eqk, eqAll_refl ks]
  | .row ks => by simp [Kd.eqk, eqAll_refl ks]
theorem eqAll_refl : ∀ ks : List Kd, Kd.eqAll ks ks = true
  | [] => rfl
  | k :: ks => by simp [Kd.eqAll, eqk_refl k, eqAll_refl ks]
end
mutual
theorem nn_refl : ∀ k : Kd, k.nn k = true
  | .num _ _ _ => rfl
  | .bits _ => rfl
  | .call _ => rfl
  | .items _ _ => rfl
  | .nothing => rfl
  | .none => rfl
  | .way _ _ _ => rfl
  | .door _ _ _ => by simp [Kd.nn]
  | .part _ _ => rfl
  | .room _ _ _ => by simp [Kd.nn]
  | .choice ks => by simp [Kd.nn, nnAll_refl ks]
  | .row ks => by simp [Kd.nn, nnAll_refl ks]
theorem nnAll_refl : ∀ ks : List Kd, Kd.nnAll ks ks = true
  | [] => rfl
  | k :: ks => by simp [Kd.nnAll, nn_refl k, nnAll_refl ks]
end
/-- two like kinds: the reading of == -/
theorem eqkd_same {A : Ad} {L : List Kc} {x y : V} {H : Hp} {Q : VK} {d : Kd} {c : Kc} (hx : KAt A H x d) (hy : KAt A H y d) (hc : d.cls = some c) (hl : c ∈ L) (q : Q (.bl true) H) : rEqKd A L x y H Q :=
  ⟨d, d, hx, hy, Iff.rfl, fun c' e => by rw [hc] at e; injection e with e; rw [← e]; exact hl, nn_refl d, by rw [eqk_refl]; exact q⟩
theorem ite_err {c : Prop} [Decidable c] {p : Str} {r : Except Str Kd} {k : Kd} (h : (if c then Except.error p else r) = .ok k) : ¬ c ∧ r = .ok k := by
  by_cases hc : c
  · rw [if_pos hc] at h; cases h
  · rw [if_neg hc] at h; exact ⟨hc, h⟩
theorem mkNum_ok {a b w : V} {k : Kd} (h : mkNum a b w = .ok k) : a = .int (intOf a) ∧ b = .int (intOf b) ∧ w = oi (oiOf w) ∧ k = .num (intOf a) (intOf b) (oiOf w) := by
  obtain ⟨h1, h⟩ := ite_err h
  obtain ⟨h2, h⟩ := ite_err h
  obtain ⟨h3, h⟩ := ite_err h
  have e := Except.ok.inj h
  exact ⟨intOf_isI (by simpa using h1), intOf_isI (by cases z : isI b with | true => rfl | false => exact absurd (.inl z) h2), okW_oi (by simpa using h3), e.symm⟩
theorem mkBits_ok {v : V} {k : Kd} (h : mkBits v = .ok k) : v = .int (intOf v) ∧ k = .bits (intOf v) := by
  obtain ⟨h1, h⟩ := ite_err h
  have e := Except.ok.inj h
  exact ⟨intOf_isI (by cases z : isI v with | true => rfl | false => exact absurd (.inl z) h1), e.symm⟩
theorem mkCall_ok {v : V} {k : Kd} (h : mkCall v = .ok k) : v = .str (strOf v) ∧ k = .call (strOf v) := by
  obtain ⟨h1, h⟩ := ite_err h
  have e := Except.ok.inj h
  exact ⟨by cases v <;> first | rfl | exact absurd rfl h1, e.symm⟩
theorem mkItems_ok {t : Td} {w : V} {k : Kd} (h : mkItems t w = .ok k) : t.item = true ∧ w = oi (oiOf w) ∧ k = .items t.kd (oiOf w) := by
  obtain ⟨h1, h⟩ := ite_err h
  obtain ⟨h2, h⟩ := ite_err h
  have e := Except.ok.inj h
  refine ⟨by simpa using h1, ?_, e.symm⟩
  by_cases z : w = .non
  · rw [z]; rfl
  · cases w <;> first | rfl | exact absurd ⟨z, .inl rfl⟩ h2
theorem KI.new2 {H : Hp} {D : Addr} {o o2 : HO} (h : H D = none) : KI H (upd (upd H D o) D o2) := KI.same fun b u e => by rw [upd_ne (ne_of_none e h), upd_ne (ne_of_none e h)]; exact e
theorem Chg.new2 {d : Dr} {H : Hp} {D : Addr} {o o2 : HO} (h : H D = none) : Chg d H (L2.upd (L2.upd H D o) D o2) := fun b u n e => by rw [upd_ne (ne_of_none e h), upd_ne (ne_of_none e h)]; exact e
theorem Rng.new2 {d : Dr} {H : Hp} {D : Addr} {o o2 : HO} (r : Rng d H) (h : H D = none) : Rng d (upd (upd H D o) D o2) := (r.new h).put (r.nep h) (r.nel h)
theorem pick_at {xs : List V} {v : Int} (h0 : 0 ≤ v) (h1 : v < (xs.length : Int)) : ∃ x, x ∈ xs ∧ atI xs v = some x := by
  obtain ⟨n, rfl⟩ := Int.eq_ofNat_of_zero_le h0
  have hn : n < xs.length := by omega
  exact ⟨xs[n], List.getElem_mem hn, atI_nat (by simp [hn])⟩
theorem cut_tup {xs : List V} {i : Nat} (h : i < xs.length) : ¬ (HT.sIx xs.length 0 none = 0 ∧ HT.sIx xs.length xs.length (some (i : Int)) = xs.length) := by
  rintro ⟨_, w⟩
  rw [HT.sIx_nat] at w
  omega

/-! ================= tables of kinds ================= -/
mutual
theorem KAt.keepIT {A : Ad} {H H' : Hp} (i : ∀ b C dx fs, H b = some (.ins C dx fs) → H' b = some (.ins C dx fs)) (t : ∀ b xs, H b = some (.tup xs) → H' b = some (.tup xs)) : ∀ {v : V} {d : Kd}, KAt A H v d → KAt A H' v d
  | _, _, .num ⟨dx, fs, h1, h2⟩ => .num ⟨dx, fs, i _ _ _ _ h1, h2⟩
  | _, _, .bits ⟨dx, fs, h1, h2⟩ => .bits ⟨dx, fs, i _ _ _ _ h1, h2⟩
  | _, _, .call ⟨dx, fs, h1, h2⟩ => .call ⟨dx, fs, i _ _ _ _ h1, h2⟩
  | _, _, .items ⟨dx, fs, h1, h2⟩ k o => .items ⟨dx, fs, i _ _ _ _ h1, h2⟩ (k.keepIT i t) o
  | _, _, .nothing ⟨dx, fs, h1, h2⟩ => .nothing ⟨dx, fs, i _ _ _ _ h1, h2⟩
  | _, _, .none => .none
  | _, _, .way ⟨dx, fs, h1, h2⟩ k o => .way ⟨dx, fs, i _ _ _ _ h1, h2⟩ (k.keepIT i t) o
  | _, _, .door ⟨dx, fs, h1, h2⟩ k o => .door ⟨dx, fs, i _ _ _ _ h1, h2⟩ (k.keepIT i t) o
  | _, _, .part ⟨dx, fs, h1, h2⟩ k o => .part ⟨dx, fs, i _ _ _ _ h1, h2⟩ (k.keepIT i t) o
  | _, _, .room ⟨dx, fs, h1, h2⟩ k o => .room ⟨dx, fs, i _ _ _ _ h1, h2⟩ (k.keepIT i t) o
  | _, _, .choice ⟨dx, fs, h1, h2⟩ e k o => .choice ⟨dx, fs, i _ _ _ _ h1, h2⟩ (t _ _ e) (KAts.keepIT i t k) o
  | _, _, .row ⟨dx, fs, h1, h2⟩ e k o => .row ⟨dx, fs, i _ _ _ _ h1, h2⟩ (t _ _ e) (KAts.keepIT i t k) o
theorem KAts.keepIT {A : Ad} {H H' : Hp} (i : ∀ b C dx fs, H b = some (.ins C dx fs) → H' b = some (.ins C dx fs)) (t : ∀ b xs, H b = some (.tup xs) → H' b = some (.tup xs)) : ∀ {vs : List V} {ds : List Kd}, KAts A H vs ds → KAts A H' vs ds
  | _, _, .nil => .nil
  | _, _, .cons h r => .cons (h.keepIT i t) (KAts.keepIT i t r)
end
abbrev Tb := List (Str × Kd)
def Tb.names (tb : Tb) : List Str := tb.map (·.1)
/-- an entry of the dict, an entry of the table -/
def EntAt (A : Ad) (H : Hp) (kv : Key × V) (x : Str × Kd) : Prop := kv.1 = .inr x.1 ∧ KAt A H kv.2 x.2
structure TbAt (A : Ad) (H : Hp) (p : Addr) (tb : Tb) (kvs : List (Key × V)) : Prop where
  rd : Rd H p (.dK kvs)
  en : Paired (EntAt A H) kvs tb
theorem paired_impE {α β : Type} {R S : α → β → Prop} (f : ∀ a b, R a b → S a b) : ∀ {xs : List α} {ys : List β}, Paired R xs ys → Paired S xs ys
  | _, _, .nil => .nil
  | _, _, .cons h t => .cons (f _ _ h) (paired_impE f t)
theorem pair_lenE {α β : Type} {R : α → β → Prop} : ∀ {xs : List α} {ts : List β}, Paired R xs ts → xs.length = ts.length
  | _, _, .nil => rfl
  | _, _, .cons _ t => congrArg Nat.succ (pair_lenE t)
theorem pair_getE {α β : Type} {R : α → β → Prop} : ∀ {xs : List α} {ys : List β} {j : Nat}, Paired R xs ys → ∀ (h : j < xs.length) (h2 : j < ys.length), R xs[j] ys[j]
  | _, _, 0, .cons h t, _, _ => h
  | _, _, j + 1, .cons h t, h1, h2 => pair_getE (j := j) t (Nat.lt_of_succ_lt_succ h1) (Nat.lt_of_succ_lt_succ h2)
  | _, _, _, .nil, h1, _ => absurd h1 (Nat.not_lt_zero _)
theorem paired_snocE {α β : Type} {R : α → β → Prop} {v : α} {t : β} (h : R v t) : ∀ {xs : List α} {ys : List β}, Paired R xs ys → Paired R (xs ++ [v]) (ys ++ [t])
  | _, _, .nil => .cons h .nil
  | _, _, .cons a t => .cons a (paired_snocE h t)
theorem Rd.same {H H' : Hp} {p : Addr} {u : HO} (e : Same H H') (h : Rd H p u) : Rd H' p u := by
  rcases h with h | ⟨o, h⟩
  · exact .inl (e _ _ h)
  · exact .inr ⟨o, e _ _ h⟩
theorem TbAt.same {A : Ad} {H H' : Hp} {p : Addr} {tb : Tb} {kvs : List (Key × V)} (e : Same H H') (h : TbAt A H p tb kvs) : TbAt A H' p tb kvs :=
  ⟨Rd.same e h.rd, paired_impE (fun _ _ q => ⟨q.1, q.2.keep (KI.same e)⟩) h.en⟩
theorem TbAt.len {A : Ad} {H : Hp} {p : Addr} {tb : Tb} {kvs : List (Key × V)} (h : TbAt A H p tb kvs) : kvs.length = tb.length := pair_lenE h.en
theorem TbAt.keys {A : Ad} {H : Hp} {p : Addr} {tb : Tb} {kvs : List (Key × V)} (h : TbAt A H p tb kvs) : kvs.map (·.1) = tb.names.map Sum.inr := by
  have e := h.en
  clear h
  induction e with
  | nil => rfl
  | cons a t ih => exact List.cons_eq_cons.mpr ⟨a.1, ih⟩
theorem ents_val {A : Ad} {H : Hp} {n : Str} : ∀ {kvs : List (Key × V)} {tb : Tb}, Paired (EntAt A H) kvs tb → (∃ k v, tb.lookup n = some k ∧ valV kvs (.inr n : Key) = some v ∧ KAt A H v k) ∨ (n ∉ tb.names ∧ tb.lookup n = none ∧ valV kvs (.inr n : Key) = none)
  | _, _, .nil => .inr ⟨(fun z => nomatch z), rfl, rfl⟩
  | kv :: kvs, x :: tb, .cons a t => by
    obtain ⟨m, k⟩ := x
    obtain ⟨a1, a2⟩ := a
    by_cases e : n = m
    · subst e
      exact .inl ⟨k, kv.2, by simp [List.lookup], valV_pos a1, a2⟩
    · have e2 : (n == m) = false := by simpa using e
      have e3 : ¬ kv.1 = (.inr n : Key) := by
        rw [a1]
        intro z
        injection z with z
        exact e z.symm
      rw [valV_neg e3, List.lookup_cons, e2]
      rcases ents_val t with q | ⟨q1, q2, q3⟩
      · exact .inl q
      · exact .inr ⟨fun z => by rcases List.mem_cons.mp z with z | z; exact e z; exact q1 z, q2, q3⟩
theorem look_mem {tb : Tb} {n : Str} {k : Kd} (h : tb.lookup n = some k) : (n, k) ∈ tb := PySem.mem_of_lookup h
theorem look_has {tb : Tb} {n : Str} (h : n ∈ tb.names) : ∃ k, tb.lookup n = some k := by
  induction tb with
  | nil => cases h
  | cons x tb ih =>
    obtain ⟨m, k⟩ := x
    by_cases e : n = m
    · subst e
      exact ⟨k, by simp [List.lookup]⟩
    · have e2 : (n == m) = false := by simpa using e
      rw [List.lookup_cons, e2]
      refine ih ?_
      rcases List.mem_cons.mp h with z | z
      · exact absurd z e
      · exact z
/-- table[name] -/
theorem TbAt.get {A : Ad} {H : Hp} {p : Addr} {tb : Tb} {kvs : List (Key × V)} {n : Str} (h : TbAt A H p tb kvs) (hn : n ∈ tb.names) : ∃ k v, tb.lookup n = some k ∧ KAt A H v k ∧ DGet H p (.str n) (some v) := by
  obtain ⟨k0, e0⟩ := look_has hn
  rcases ents_val (n := n) h.en with ⟨k, v, h1, h2, h3⟩ | ⟨q, _⟩
  · exact ⟨k, v, h1, h3, .inl ⟨kvs, .inr n, h.rd, rfl, h2.symm⟩⟩
  · exact absurd hn q
/-- name in table -/
theorem TbAt.has {A : Ad} {H : Hp} {p : Addr} {tb : Tb} {kvs : List (Key × V)} (n : Str) (h : TbAt A H p tb kvs) : ∃ o : Option V, DGet H p (.str n) o ∧ o.isSome = decide (n ∈ tb.names) := by
  rcases ents_val (n := n) h.en with ⟨k, v, h1, h2, h3⟩ | ⟨q, _, q3⟩
  · refine ⟨some v, .inl ⟨kvs, .inr n, h.rd, rfl, h2.symm⟩, ?_⟩
    have m : n ∈ tb.names := List.mem_map.mpr ⟨_, look_mem h1, rfl⟩
    rw [decide_eq_true m]
    rfl
  · refine ⟨none, .inl ⟨kvs, .inr n, h.rd, rfl, q3.symm⟩, ?_⟩
    rw [decide_eq_false q]
    rfl
/-- kinds that can stand under a name -/
def Kd.top (k : Kd) : Bool := match k with
  | .choice ks => decide (ks.length ≤ 12)
  | .row ks => decide (ks.length ≤ 8)
  | .num _ _ _ => true
  | .bits _ => true
  | .items _ _ => true
  | .call _ => true
  | _ => false
/-- the kind in a place -/
def inK : Kd → Kd
  | .way _ _ k => k
  | .door _ _ k => k
  | .part _ k => k
  | .room _ _ k => k
  | z => z
def notNon : Kd → Bool
  | .none => false
  | _ => true
/-- the kinds within a kind that stands under a name -/
def innersK : Kd → List Kd
  | .choice ks => (ks.map inK).filter notNon
  | .row ks => (ks.map inK).filter notNon
  | k => [k]
def callOf : Kd → List Str
  | .call n => [n]
  | .items (.call n) _ => [n]
  | _ => []
def callsK (k : Kd) : List Str := (innersK k).flatMap callOf
/-- the called names that are not there, in the table's order -/
def missK (tb : Tb) : List Str := tb.flatMap fun x => (callsK x.2).filter fun n => decide (n ∉ tb.names)
/-- the table's names from low to high -/
def Sorts (ns ys : List Str) : Prop := ys.Perm ns ∧ PyProof.Rows.sortedS ys = true
inductive Reach (tb : Tb) : Str → Str → Prop where
  | one {a b : Str} {k : Kd} (h : tb.lookup a = some k) (m : b ∈ callsK k) : Reach tb a b
  | more {a b c : Str} {k : Kd} (r : Reach tb a b) (h : tb.lookup b = some k) (m : c ∈ callsK k) : Reach tb a c
/-- each name calls names of lower rank alone, which are there -/
structure Ranked (tb : Tb) (rk : Str → Nat) : Prop where
  nd : tb.names.Nodup
  lo : ∀ n k, tb.lookup n = some k → ∀ c ∈ callsK k, c ∈ tb.names ∧ rk c < rk n
theorem Ranked.reach {tb : Tb} {rk : Str → Nat} (R : Ranked tb rk) {a b : Str} (h : Reach tb a b) : rk b < rk a := by
  induction h with
  | one h m => exact (R.lo _ _ h _ m).2
  | more _ h m ih => exact Nat.lt_trans (R.lo _ _ h _ m).2 ih
theorem Ranked.miss {tb : Tb} {rk : Str → Nat} (R : Ranked tb rk) : missK tb = [] := by
  refine List.flatMap_eq_nil_iff.mpr fun x hx => ?_
  refine List.filter_eq_nil_iff.mpr fun n hn => ?_
  obtain ⟨m, k⟩ := x
  have hm : m ∈ tb.names := List.mem_map.mpr ⟨_, hx, rfl⟩
  have hl : tb.lookup m = some k := by
    have nd := R.nd
    revert hx nd
    clear hm hn R
    induction tb with
    | nil => intro h; cases h
    | cons y tb ih =>
      intro hx nd
      obtain ⟨m', k'⟩ := y
      rcases List.mem_cons.mp hx with e | hx
      · injection e with e1 e2
        subst e1
        subst e2
        simp [List.lookup]
      · obtain ⟨n1, n2⟩ := List.nodup_cons.mp (show (m' :: Tb.names tb).Nodup from nd)
        have ne : ¬ m = m' := fun e => n1 (e ▸ List.mem_map.mpr ⟨_, hx, rfl⟩)
        have e2 : (m == m') = false := by simpa using ne
        rw [List.lookup_cons, e2]
        exact ih hx n2
  have := (R.lo _ _ hl n hn).1
  simp [this]
abbrev Called (A : Ad) (k : Kd) : Prop := k.top = true
abbrev sp_inner_kinds (_ : PySem.W.Frag) (A : Ad) : Sp := Sp1 fun v H Q _ => ∃ k, KAt A H v k ∧ k.top = true ∧ ∀ p us H', H' p = some (.lst us) → H p = none → Same H H' → KAts A H' us (innersK k) → Q (.ref p) H'
abbrev sp_called (_ : PySem.W.Frag) (A : Ad) : Sp := Sp1 fun v H Q _ => ∃ k, KAt A H v k ∧ k.top = true ∧ ∀ p H', H' p = some (.lst ((callsK k).map V.str)) → H p = none → Same H H' → Q (.ref p) H'
/-- a table all of whose kinds can stand there -/
def TbTop (tb : Tb) : Prop := ∀ x ∈ tb, x.2.top = true
abbrev sp_reached (_ : PySem.W.Frag) (A : Ad) : Sp := Sp2 fun v n H Q _ => ∃ (p : Addr) (tb : Tb) (kvs : List (Key × V)) (x : Str), v = .ref p ∧ n = .str x ∧ TbAt A H p tb kvs ∧ TbTop tb ∧ tb.names.Nodup ∧ tb.length ≤ 20 ∧ missK tb = [] ∧ x ∈ tb.names ∧
  ∀ (q : Addr) (ws : List Str) (H' : Hp), H' q = some (.lst (ws.map V.str)) → Same H H' → (∀ y, y ∈ ws ↔ Reach tb x y) → Q (.ref q) H'
abbrev sp_missing_name (_ : PySem.W.Frag) (A : Ad) : Sp := Sp1 fun v H Q _ => ∃ (p : Addr) (tb : Tb) (kvs : List (Key × V)), v = .ref p ∧ TbAt A H p tb kvs ∧ H p = some (.dK kvs) ∧ TbTop tb ∧ tb.names.Nodup ∧ tb.length ≤ 20 ∧
  ∀ H', Same H H' → Q (match missK tb with | [] => .non | y :: ys => .str (minS y ys)) H'
abbrev sp_ring_name (_ : PySem.W.Frag) (A : Ad) : Sp := Sp1 fun v H Q _ => ∃ (p : Addr) (tb : Tb) (kvs : List (Key × V)), v = .ref p ∧ TbAt A H p tb kvs ∧ TbTop tb ∧ tb.names.Nodup ∧ tb.length ≤ 20 ∧ missK tb = [] ∧
  ∀ H', Same H H' → ((∀ n ∈ tb.names, ¬ Reach tb n n) → Q .non H') ∧ (∀ n ys i, Sorts tb.names ys → ys[i]? = some n → Reach tb n n → (∀ m ∈ ys.take i, ¬ Reach tb m m) → Q (.str n) H')
/-- each name behind those that its kind calls -/
def Topo (tb : Tb) (ds : List Str) : Prop := ∀ i n, ds[i]? = some n → ∀ k, tb.lookup n = some k → ∀ c ∈ callsK k, c ∈ ds.take i
abbrev sp_call_order (_ : PySem.W.Frag) (A : Ad) : Sp := Sp1 fun v H Q _ => ∃ (p : Addr) (tb : Tb) (kvs : List (Key × V)) (rk : Str → Nat), v = .ref p ∧ TbAt A H p tb kvs ∧ H p = some (.dK kvs) ∧ TbTop tb ∧ tb.length ≤ 20 ∧ Ranked tb rk ∧
  ∀ q ds H', H' q = some (.lst (ds.map V.str)) → H q = none → Same H H' → ds.Perm tb.names → Topo tb ds → Q (.ref q) H'
theorem pair_atE {α β : Type} {R : α → β → Prop} : ∀ {xs : List α} {ys : List β} {j : Nat} {x : α}, Paired R xs ys → xs[j]? = some x → ∃ y, ys[j]? = some y ∧ R x y
  | _, _, 0, _, .cons h t, e => by
    have e := Option.some.inj e
    subst e
    exact ⟨_, rfl, h⟩
  | _, _, j + 1, _, .cons h t, e => pair_atE (j := j) t e
  | _, _, _, _, .nil, e => nomatch e
theorem inV_strE {y : Str} : ∀ ws : List Str, inV (.str y) (ws.map V.str) = decide (y ∈ ws)
  | [] => rfl
  | w :: ws => by
    have ih := inV_strE (y := y) ws
    show (eqV (.str w) (.str y) || inV (.str y) (ws.map V.str)) = _
    rw [ih]
    show ((w == y) || decide (y ∈ ws)) = _
    by_cases e : w = y
    · subst e; simp
    · have : (w == y) = false := by simpa using e
      rw [this, Bool.false_or]
      exact decide_eq_decide.mpr ⟨fun h => List.mem_cons_of_mem _ h, fun h => (List.mem_cons.mp h).elim (fun z => absurd z.symm e) id⟩
theorem flat_strsE : ∀ ws : List Str, (ws.map V.str).all flatV = true
  | [] => rfl
  | _ :: ws => flat_strsE ws
theorem nodup_le : ∀ {l m : List Str}, l.Nodup → (∀ x ∈ l, x ∈ m) → l.length ≤ m.length
  | [], _, _, _ => Nat.zero_le _
  | a :: l, m, nd, h => by
    have ha := h a (List.mem_cons_self ..)
    obtain ⟨n1, n2⟩ := List.nodup_cons.mp nd
    have ih := nodup_le (l := l) (m := m.erase a) n2 fun b hb => (List.mem_erase_of_ne (fun (z : b = a) => n1 (z ▸ hb))).mpr (h b (List.mem_cons_of_mem _ hb))
    rw [List.length_erase_of_mem ha] at ih
    have := List.length_pos_of_mem ha
    rw [List.length_cons]
    omega
theorem nodup_snocE {l : List Str} {x : Str} (h : l.Nodup) (n : x ∉ l) : (l ++ [x]).Nodup := by
  refine List.nodup_append.mpr ⟨h, List.nodup_cons.mpr ⟨(fun z => nomatch z), List.nodup_nil⟩, fun a ha b hb e => ?_⟩
  rw [List.mem_singleton.mp hb] at e
  exact n (e ▸ ha)
/-- the dict at p is walked -/
structure Frz (H H' : Hp) (p : Addr) (od : Obj) (u : HO) : Prop where
  at_ : H' p = some (.frz od u)
  kp : ∀ b o, b ≠ p → H b = some o → H' b = some o
theorem Frz.start {H : Hp} {p : Addr} {od : Obj} {u : HO} : Frz H (upd H p (.frz od u)) p od u := ⟨upd_same, fun b o n h => by rw [upd_ne n]; exact h⟩
theorem Frz.go {H H1 H2 : Hp} {p : Addr} {od : Obj} {u : HO} (f : Frz H H1 p od u) (e : Same H1 H2) : Frz H H2 p od u := ⟨e _ _ f.at_, fun b o n h => e _ _ (f.kp b o n h)⟩
theorem Frz.put {H H1 : Hp} {p q : Addr} {od : Obj} {u o : HO} (f : Frz H H1 p od u) (n : H q = none) (nq : q ≠ p) : Frz H (upd H1 q o) p od u := ⟨by rw [upd_ne nq.symm]; exact f.at_, fun b v nb h => by rw [upd_ne (ne_of_none h n)]; exact f.kp b v nb h⟩
theorem Frz.back {H H1 : Hp} {p : Addr} {od : Obj} {u : HO} (f : Frz H H1 p od u) (h : H p = some u) : Same H (upd H1 p u) := fun b o q => by
  by_cases e : b = p
  · subst e
    rw [upd_same, ← h, q]
  · rw [upd_ne e]
    exact f.kp b o e q
theorem Frz.kat {A : Ad} {H H1 : Hp} {p : Addr} {od : Obj} {kvs : List (Key × V)} {v : V} {k : Kd} (f : Frz H H1 p od (.dK kvs)) (h : H p = some (.dK kvs)) (hk : KAt A H v k) : KAt A H1 v k :=
  hk.keepIT (fun b C dx fs q => f.kp b _ (fun z => by rw [z, h] at q; cases q) q) (fun b xs q => f.kp b _ (fun z => by rw [z, h] at q; cases q) q)
theorem Frz.tb {A : Ad} {H H1 : Hp} {p : Addr} {od : Obj} {kvs : List (Key × V)} {tb : Tb} (f : Frz H H1 p od (.dK kvs)) (h : H p = some (.dK kvs)) (t : TbAt A H p tb kvs) : TbAt A H1 p tb kvs :=
  ⟨.inr ⟨od, f.at_⟩, paired_impE (fun _ _ q => ⟨q.1, f.kat h q.2⟩) t.en⟩
theorem TbTop.look {tb : Tb} (h : TbTop tb) {n : Str} {k : Kd} (e : tb.lookup n = some k) : k.top = true := h _ (look_mem e)
theorem miss_calls {tb : Tb} (h : missK tb = []) {n : Str} {k : Kd} (e : tb.lookup n = some k) : ∀ c ∈ callsK k, c ∈ tb.names := by
  intro c hc
  have q := List.flatMap_eq_nil_iff.mp h _ (look_mem e)
  have q2 := List.filter_eq_nil_iff.mp q c hc
  simpa using q2
theorem ents_at {A : Ad} {H : Hp} {kvs : List (Key × V)} {tb : Tb} {i : Nat} {k : Key} {v : V} (h : Paired (EntAt A H) kvs tb) (e : kvs[i]? = some (k, v)) : ∃ x, tb[i]? = some x ∧ k = .inr x.1 ∧ KAt A H v x.2 := by
  obtain ⟨x, hx, a, b⟩ := pair_atE h e
  exact ⟨x, hx, a, b⟩
theorem names_at {tb : Tb} {i : Nat} {x : Str × Kd} (h : tb[i]? = some x) : x.1 ∈ tb.names := List.mem_map.mpr ⟨x, List.mem_of_getElem? h, rfl⟩
theorem look_nd : ∀ {tb : Tb} {x : Str × Kd}, tb.names.Nodup → x ∈ tb → tb.lookup x.1 = some x.2
  | y :: tb, x, nd, h => by
    obtain ⟨m, k⟩ := y
    obtain ⟨n1, n2⟩ := List.nodup_cons.mp (show (m :: Tb.names tb).Nodup from nd)
    rcases List.mem_cons.mp h with e | h
    · subst e
      simp [List.lookup]
    · have ne : ¬ x.1 = m := fun e => n1 (e ▸ List.mem_map.mpr ⟨_, h, rfl⟩)
      have e2 : (x.1 == m) = false := by simpa using ne
      rw [List.lookup_cons, e2]
      exact look_nd n2 h
/-- [f(x) for x in e if p(x)] over a tuple -/
theorem lc_tupF {α β : Type} {K : PySem.W.Frag} {σ : L2.St} {H : Hp} {t0 te : TE} {tt : TT} {j : Nat} {vs : List Nat} {a : Addr} {xs : List V} {es : List α} {Q : VK} (S : Hp → V → β → Prop) (hS : ∀ H1 H2 v b, Same H1 H2 → S H1 v b → S H2 v b) (hset : ∀ D H1 ws v v' b, H1 D = some (.lst ws) → S H1 v b → S (upd H1 D (.lst (ws ++ [v']))) v b) (p : α → Bool) (f : α → β) (R : V → α → Prop)
    (hg : ∀ Q', Q' (.ref a) H → t0 σ H Q') (hxs : H a = some (.tup xs)) (hp : Paired R xs es) (hl : xs.length ≤ 100000) (hw : ∀ x, wipe ((wipe σ vs).set j (some x)) vs = wipe σ vs)
    (htt : ∀ (x : V) (e : α) H1 (Q : Bool → Hp → Prop), R x e → e ∈ es → Same H H1 → Q (p e) H1 → tt ((wipe σ vs).set j (some x)) H1 Q)
    (ht : ∀ (x : V) (e : α) H1 (Q : VK), R x e → e ∈ es → p e = true → Same H H1 → (∀ v H2, Same H1 H2 → S H2 v (f e) → Q v H2) → te ((wipe σ vs).set j (some x)) H1 Q)
    (k : ∀ D (ws : List V) H', H' D = some (.lst ws) → H D = none → Same H H' → Paired (S H') ws ((es.filter p).map f) → Q (.ref D) H') : tLc (iTup K t0) (gName j) tt te vs σ H Q := by
  refine hg _ ⟨a, rfl, ⟨_, SqT.of hxs⟩, fun D hD => ?_⟩
  have hlen := pair_lenE hp
  refine lc_it (walk_tup (xs := xs)) (fun i H' => ∃ ws : List V, H' D = some (.lst ws) ∧ ws.length ≤ i ∧ Paired (S H') ws (((es.take i).filter p).map f) ∧ Same H H') ⟨[], upd_same, Nat.le_refl 0, .nil, same_new hD⟩ (fun i H' _ ⟨_, _, _, _, e⟩ => SqT.of (e _ _ hxs)) ?_ ?_
  · rintro i x H1 H2 hi ⟨ws, hws, lw, hpw, e1⟩ ⟨rfl, hx⟩
    obtain ⟨e, he, hr⟩ := pair_atE hp hx
    have me := List.mem_of_getElem? he
    refine ⟨hw _, htt x e _ _ hr me e1 ?_⟩
    have tk : es.take (i + 1) = es.take i ++ [e] := by rw [List.take_succ, he]; rfl
    cases hpe : p e with
    | false =>
      refine iteF ⟨ws, hws, by omega, ?_, e1⟩
      rw [tk, List.filter_append, List.map_append]
      simp only [List.filter_cons, hpe, List.filter_nil, Bool.false_eq_true, if_false, List.map_nil, List.append_nil]
      exact hpw
    | true =>
      refine iteY (ht x e _ _ hr me hpe e1 fun v H3 e3 hs => ?_)
      refine ⟨ws, e3 _ _ hws, by rw [sizeLine_eq]; omega, ws ++ [v], upd_same, by rw [List.length_append]; show ws.length + 1 ≤ i + 1; omega, ?_, same_put hD (e1.trans e3)⟩
      rw [tk, List.filter_append, List.map_append]
      simp only [List.filter_cons, hpe, List.filter_nil, if_true, List.map_cons, List.map_nil]
      have p3 := paired_impE (fun v b => hS _ _ v b e3) hpw
      exact paired_snocE (hset D H3 ws v v _ (e3 _ _ hws) hs) (paired_impE (fun u b q => hset D H3 ws u v b (e3 _ _ hws) q) p3)
  · rintro H1 ⟨ws, hws, lw, hpw, e1⟩
    rw [hlen, List.take_length] at hpw
    exact k D ws H1 hws hD e1 hpw
/-- the same over a list that has come already -/
theorem lc_lstG {α β : Type} {K : PySem.W.Frag} {σ : L2.St} {H : Hp} {te : TE} {tt : TT} {j : Nat} {vs : List Nat} {a : Addr} {xs : List V} {es : List α} {Qd : Addr → Hp → Prop} (S : Hp → V → β → Prop) (hS : ∀ H1 H2 v b, Same H1 H2 → S H1 v b → S H2 v b) (hset : ∀ D H1 ws v v' b, H1 D = some (.lst ws) → S H1 v b → S (upd H1 D (.lst (ws ++ [v']))) v b) (p : α → Bool) (f : α → β) (R : V → α → Prop)
    (hxs : H a = some (.lst xs)) (hp : Paired R xs es) (hl : xs.length ≤ 100000) (hw : ∀ x, wipe ((wipe σ vs).set j (some x)) vs = wipe σ vs)
    (htt : ∀ (x : V) (e : α) H1 (Q : Bool → Hp → Prop), R x e → e ∈ es → Same H H1 → Q (p e) H1 → tt ((wipe σ vs).set j (some x)) H1 Q)
    (ht : ∀ (x : V) (e : α) H1 (Q : VK), R x e → e ∈ es → p e = true → Same H H1 → (∀ v H2, Same H1 H2 → S H2 v (f e) → Q v H2) → te ((wipe σ vs).set j (some x)) H1 Q)
    (k : ∀ D (ws : List V) H', H' D = some (.lst ws) → H D = none → Same H H' → Paired (S H') ws ((es.filter p).map f) → Qd D H') :
    ∃ a', V.ref a = V.ref a' ∧ (∃ xs, SqL K H a' xs) ∧ ∀ D, H D = none → ∃ W : Nat → Nat → Hp → Prop, (∃ m, W 0 m (upd H D (.lst []))) ∧ ∀ i m H, W i m H →
      ((Itl K a').stop i H ∧ Qd D H) ∨ ((Itl K a').go i H ∧ ∃ Nx : Hp → Prop, (∀ H', Nx H' → ∃ m', m' < m ∧ W (i + 1) m' H') ∧ ∀ x H', (Itl K a').yld i H x H' → gName j x (wipe σ vs) H' fun σ2 H2 => wipe σ2 vs = wipe σ vs ∧ tt σ2 H2 fun b H3 =>
        if b = true then te σ2 H3 fun y H4 => ∃ acc, H4 D = some (.lst acc) ∧ acc.length < sizeLine ∧ Nx (upd H4 D (.lst (acc ++ [y]))) else Nx H3) := by
  refine ⟨a, rfl, ⟨_, SqL.of hxs⟩, fun D hD => ?_⟩
  have hlen := pair_lenE hp
  refine lc_it (walk_list (xs := xs)) (fun i H' => ∃ ws : List V, H' D = some (.lst ws) ∧ ws.length ≤ i ∧ Paired (S H') ws (((es.take i).filter p).map f) ∧ Same H H') ⟨[], upd_same, Nat.le_refl 0, .nil, same_new hD⟩ (fun i H' _ ⟨_, _, _, _, e⟩ => SqL.of (e _ _ hxs)) ?_ ?_
  · rintro i x H1 H2 hi ⟨ws, hws, lw, hpw, e1⟩ ⟨rfl, hx⟩
    obtain ⟨e, he, hr⟩ := pair_atE hp hx
    have me := List.mem_of_getElem? he
    refine ⟨hw _, htt x e _ _ hr me e1 ?_⟩
    have tk : es.take (i + 1) = es.take i ++ [e] := by rw [List.take_succ, he]; rfl
    cases hpe : p e with
    | false =>
      refine iteF ⟨ws, hws, by omega, ?_, e1⟩
      rw [tk, List.filter_append, List.map_append]
      simp only [List.filter_cons, hpe, List.filter_nil, Bool.false_eq_true, if_false, List.map_nil, List.append_nil]
      exact hpw
    | true =>
      refine iteY (ht x e _ _ hr me hpe e1 fun v H3 e3 hs => ?_)
      refine ⟨ws, e3 _ _ hws, by rw [sizeLine_eq]; omega, ws ++ [v], upd_same, by rw [List.length_append]; show ws.length + 1 ≤ i + 1; omega, ?_, same_put hD (e1.trans e3)⟩
      rw [tk, List.filter_append, List.map_append]
      simp only [List.filter_cons, hpe, List.filter_nil, if_true, List.map_cons, List.map_nil]
      have p3 := paired_impE (fun v b => hS _ _ v b e3) hpw
      exact paired_snocE (hset D H3 ws v v _ (e3 _ _ hws) hs) (paired_impE (fun u b q => hset D H3 ws u v b (e3 _ _ hws) q) p3)
  · rintro H1 ⟨ws, hws, lw, hpw, e1⟩
    rw [hlen, List.take_length] at hpw
    exact k D ws H1 hws hD e1 hpw
/-- the same over a tuple that has come already -/
theorem lc_tupG {α β : Type} {K : PySem.W.Frag} {σ : L2.St} {H : Hp} {te : TE} {tt : TT} {j : Nat} {vs : List Nat} {a : Addr} {xs : List V} {es : List α} {Qd : Addr → Hp → Prop} (S : Hp → V → β → Prop) (hS : ∀ H1 H2 v b, Same H1 H2 → S H1 v b → S H2 v b) (hset : ∀ D H1 ws v v' b, H1 D = some (.lst ws) → S H1 v b → S (upd H1 D (.lst (ws ++ [v']))) v b) (p : α → Bool) (f : α → β) (R : V → α → Prop)
    (hxs : H a = some (.tup xs)) (hp : Paired R xs es) (hl : xs.length ≤ 100000) (hw : ∀ x, wipe ((wipe σ vs).set j (some x)) vs = wipe σ vs)
    (htt : ∀ (x : V) (e : α) H1 (Q : Bool → Hp → Prop), R x e → e ∈ es → Same H H1 → Q (p e) H1 → tt ((wipe σ vs).set j (some x)) H1 Q)
    (ht : ∀ (x : V) (e : α) H1 (Q : VK), R x e → e ∈ es → p e = true → Same H H1 → (∀ v H2, Same H1 H2 → S H2 v (f e) → Q v H2) → te ((wipe σ vs).set j (some x)) H1 Q)
    (k : ∀ D (ws : List V) H', H' D = some (.lst ws) → H D = none → Same H H' → Paired (S H') ws ((es.filter p).map f) → Qd D H') :
    ∃ a', V.ref a = V.ref a' ∧ (∃ xs, SqT K H a' xs) ∧ ∀ D, H D = none → ∃ W : Nat → Nat → Hp → Prop, (∃ m, W 0 m (upd H D (.lst []))) ∧ ∀ i m H, W i m H →
      ((Itt K a').stop i H ∧ Qd D H) ∨ ((Itt K a').go i H ∧ ∃ Nx : Hp → Prop, (∀ H', Nx H' → ∃ m', m' < m ∧ W (i + 1) m' H') ∧ ∀ x H', (Itt K a').yld i H x H' → gName j x (wipe σ vs) H' fun σ2 H2 => wipe σ2 vs = wipe σ vs ∧ tt σ2 H2 fun b H3 =>
        if b = true then te σ2 H3 fun y H4 => ∃ acc, H4 D = some (.lst acc) ∧ acc.length < sizeLine ∧ Nx (upd H4 D (.lst (acc ++ [y]))) else Nx H3) := by
  refine ⟨a, rfl, ⟨_, SqT.of hxs⟩, fun D hD => ?_⟩
  have hlen := pair_lenE hp
  refine lc_it (walk_tup (xs := xs)) (fun i H' => ∃ ws : List V, H' D = some (.lst ws) ∧ ws.length ≤ i ∧ Paired (S H') ws (((es.take i).filter p).map f) ∧ Same H H') ⟨[], upd_same, Nat.le_refl 0, .nil, same_new hD⟩ (fun i H' _ ⟨_, _, _, _, e⟩ => SqT.of (e _ _ hxs)) ?_ ?_
  · rintro i x H1 H2 hi ⟨ws, hws, lw, hpw, e1⟩ ⟨rfl, hx⟩
    obtain ⟨e, he, hr⟩ := pair_atE hp hx
    have me := List.mem_of_getElem? he
    refine ⟨hw _, htt x e _ _ hr me e1 ?_⟩
    have tk : es.take (i + 1) = es.take i ++ [e] := by rw [List.take_succ, he]; rfl
    cases hpe : p e with
    | false =>
      refine iteF ⟨ws, hws, by omega, ?_, e1⟩
      rw [tk, List.filter_append, List.map_append]
      simp only [List.filter_cons, hpe, List.filter_nil, Bool.false_eq_true, if_false, List.map_nil, List.append_nil]
      exact hpw
    | true =>
      refine iteY (ht x e _ _ hr me hpe e1 fun v H3 e3 hs => ?_)
      refine ⟨ws, e3 _ _ hws, by rw [sizeLine_eq]; omega, ws ++ [v], upd_same, by rw [List.length_append]; show ws.length + 1 ≤ i + 1; omega, ?_, same_put hD (e1.trans e3)⟩
      rw [tk, List.filter_append, List.map_append]
      simp only [List.filter_cons, hpe, List.filter_nil, if_true, List.map_cons, List.map_nil]
      have p3 := paired_impE (fun v b => hS _ _ v b e3) hpw
      exact paired_snocE (hset D H3 ws v v _ (e3 _ _ hws) hs) (paired_impE (fun u b q => hset D H3 ws u v b (e3 _ _ hws) q) p3)
  · rintro H1 ⟨ws, hws, lw, hpw, e1⟩
    rw [hlen, List.take_length] at hpw
    exact k D ws H1 hws hD e1 hpw
/-- the same over a list -/
theorem lc_lstF {α β : Type} {K : PySem.W.Frag} {σ : L2.St} {H : Hp} {t0 te : TE} {tt : TT} {j : Nat} {vs : List Nat} {a : Addr} {xs : List V} {es : List α} {Q : VK} (S : Hp → V → β → Prop) (hS : ∀ H1 H2 v b, Same H1 H2 → S H1 v b → S H2 v b) (hset : ∀ D H1 ws v v' b, H1 D = some (.lst ws) → S H1 v b → S (upd H1 D (.lst (ws ++ [v']))) v b) (p : α → Bool) (f : α → β) (R : V → α → Prop)
    (hg : ∀ Q', Q' (.ref a) H → t0 σ H Q') (hxs : H a = some (.lst xs)) (hp : Paired R xs es) (hl : xs.length ≤ 100000) (hw : ∀ x, wipe ((wipe σ vs).set j (some x)) vs = wipe σ vs)
    (htt : ∀ (x : V) (e : α) H1 (Q : Bool → Hp → Prop), R x e → e ∈ es → Same H H1 → Q (p e) H1 → tt ((wipe σ vs).set j (some x)) H1 Q)
    (ht : ∀ (x : V) (e : α) H1 (Q : VK), R x e → e ∈ es → p e = true → Same H H1 → (∀ v H2, Same H1 H2 → S H2 v (f e) → Q v H2) → te ((wipe σ vs).set j (some x)) H1 Q)
    (k : ∀ D (ws : List V) H', H' D = some (.lst ws) → H D = none → Same H H' → Paired (S H') ws ((es.filter p).map f) → Q (.ref D) H') : tLc (iList K t0) (gName j) tt te vs σ H Q :=
  hg _ (lc_lstG (Qd := fun D H => Q (.ref D) H) S hS hset p f R hxs hp hl hw htt ht k)
theorem kats_pair {A : Ad} {H : Hp} : ∀ {vs : List V} {ks : List Kd}, KAts A H vs ks → Paired (fun v k => KAt A H v k) vs ks
  | _, _, .nil => .nil
  | _, _, .cons h t => .cons h (kats_pair t)
theorem kats_ofp {A : Ad} {H : Hp} : ∀ {vs : List V} {ks : List Kd}, Paired (fun v k => KAt A H v k) vs ks → KAts A H vs ks
  | _, _, .nil => .nil
  | _, _, .cons h t => .cons h (kats_ofp t)
/-- the kind of a place, read -/
theorem wd_kind {K : PySem.W.Frag} {mg : Str → Option Value} {A : Ad} (T : Txt K mg A) {H : Hp} {v : V} {k : Kd} (h : KAt A H v k) (w : (Td.k k).wd = true ∨ (Td.k k).pr = true) : ∃ x C dx fs u, v = .ref x ∧ H x = some (.ins C dx fs) ∧ Cls K C ∧ NoAttr K C "kind" ∧ fs.lookup ("kind" : Str) = some u ∧ KAt A H u (inK k) := by
  cases h with
  | way h k o => obtain ⟨dx, fs, h1, h2⟩ := h; exact ⟨_, _, dx, fs, _, rfl, h1, T.cl_Way, T.n_Way_kind, h2 _ (List.mem_cons_of_mem _ (List.mem_cons_of_mem _ (List.mem_cons_self ..))), k⟩
  | door h k o => obtain ⟨dx, fs, h1, h2⟩ := h; exact ⟨_, _, dx, fs, _, rfl, h1, T.cl_Door, T.n_Door_kind, h2 _ (List.mem_cons_of_mem _ (List.mem_cons_of_mem _ (List.mem_cons_self ..))), k⟩
  | part h k o => obtain ⟨dx, fs, h1, h2⟩ := h; exact ⟨_, _, dx, fs, _, rfl, h1, T.cl_Part, T.n_Part_kind, h2 _ (List.mem_cons_of_mem _ (List.mem_cons_self ..)), k⟩
  | room h k o => obtain ⟨dx, fs, h1, h2⟩ := h; exact ⟨_, _, dx, fs, _, rfl, h1, T.cl_Room, T.n_Room_kind, h2 _ (List.mem_cons_of_mem _ (List.mem_cons_of_mem _ (List.mem_cons_self ..))), k⟩
  | _ => rcases w with w | w <;> cases w
theorem non_kd {A : Ad} {H : Hp} {v : V} {k : Kd} (h : KAt A H v k) : (!decide (v = V.non)) = notNon k := by
  cases h <;> rfl
def callOf1 : Kd → List Str
  | .call n => [n]
  | _ => []
theorem call_item {i : Kd} {w : Option Int} (o : (Td.k i).item = true) : callOf (.items i w) = callOf1 i := by
  cases i <;> first | rfl | cases o
theorem calls_le : ∀ ks : List Kd, (ks.flatMap callOf).length ≤ ks.length
  | [] => Nat.le_refl _
  | k :: ks => by
    have := calls_le ks
    have h1 : (callOf k).length ≤ 1 := by
      unfold callOf
      split <;> first | exact Nat.le_refl _ | exact Nat.zero_le _
    rw [List.flatMap_cons, List.length_append, List.length_cons]
    omega
theorem inners_len {k : Kd} (h : k.top = true) : (innersK k).length ≤ 12 := by
  cases k with
  | choice ks =>
    have := of_decide_eq_true h
    have h2 := List.length_filter_le notNon (ks.map inK)
    rw [List.length_map] at h2
    show (List.filter notNon (ks.map inK)).length ≤ 12
    omega
  | row ks =>
    have := of_decide_eq_true h
    have h2 := List.length_filter_le notNon (ks.map inK)
    rw [List.length_map] at h2
    show (List.filter notNon (ks.map inK)).length ≤ 12
    omega
  | _ => exact Nat.succ_le_succ (Nat.zero_le _)
theorem calls_len {k : Kd} (h : k.top = true) : (callsK k).length ≤ 12 := Nat.le_trans (calls_le _) (inners_len h)
theorem strs_pair : ∀ ws : List Str, Paired (fun v (n : Str) => v = V.str n) (ws.map V.str) ws
  | [] => .nil
  | _ :: ws => .cons rfl (strs_pair ws)
theorem pair_strs : ∀ {vs : List V} {ws : List Str}, Paired (fun v (n : Str) => v = V.str n) vs ws → vs = ws.map V.str
  | _, _, .nil => rfl
  | _, _, .cons h t => by rw [h, pair_strs t]; rfl
theorem miss_le {tb : Tb} (top : TbTop tb) {ns : List Str} : ∀ i : Nat, ((tb.take i).flatMap fun x => (callsK x.2).filter fun n => decide (n ∉ ns)).length ≤ 12 * i
  | 0 => Nat.le_refl _
  | i + 1 => by
    have ih := miss_le top (ns := ns) i
    rw [List.take_succ, List.flatMap_append, List.length_append]
    cases e : tb[i]? with
    | none =>
      rw [Option.toList_none, List.flatMap_nil, List.length_nil]
      omega
    | some y =>
      have l2 := calls_len (top y (List.mem_of_getElem? e))
      have l3 := List.length_filter_le (fun n => decide (n ∉ ns)) (callsK y.2)
      rw [Option.toList_some, List.flatMap_cons, List.flatMap_nil, List.append_nil]
      omega
theorem hu_of {k : Nat} {A : Around} (r : Room k A) : A.units + 1 < cLine := by have := r.un; omega
theorem last_app {ws : List Str} {y : Str} (h : ws[ws.length - 1]? = some y) : ws = ws.dropLast ++ [y] := by
  have ne : ws ≠ [] := fun z => by rw [z] at h; cases h
  have e := List.dropLast_concat_getLast ne
  have q : ws.getLast ne = y := by
    rw [List.getLast_eq_getElem]
    exact (List.getElem?_eq_some_iff.mp h).2
  rw [q] at e
  exact e.symm
theorem pair_bls : ∀ {vs : List V} {ws : List Bool}, Paired (fun v (n : Bool) => v = V.bl n) vs ws → vs = ws.map V.bl
  | _, _, .nil => rfl
  | _, _, .cons h t => by rw [h, pair_bls t]; rfl
theorem all_map {α : Type} {f : α → Bool} : ∀ {l : List α}, ((l.filter fun _ => true).map f).all id = true → ∀ c ∈ l, f c = true := by
  intro l h c hc
  have e : l.filter (fun _ => true) = l := by simp
  rw [e, List.all_map] at h
  exact List.all_eq_true.mp h c hc
theorem map_all {ds : List Str} {l : List Str} (h : ∀ c ∈ l, c ∈ ds) : ((l.filter fun _ => true).map fun n => decide (n ∈ ds)).all id = true := by
  have e : l.filter (fun _ => true) = l := by simp
  rw [e, List.all_map]
  exact List.all_eq_true.mpr fun c hc => decide_eq_true (h c hc)
theorem topo_snoc {tb : Tb} {ds : List Str} {y : Str} {k : Kd} (h : Topo tb ds) (e : tb.lookup y = some k) (a : ∀ c ∈ callsK k, c ∈ ds) : Topo tb (ds ++ [y]) := by
  intro i n hn k' hk c hc
  rcases Nat.lt_or_ge i ds.length with l | l
  · rw [List.getElem?_append_left l] at hn
    rw [List.take_append_of_le_length (by omega)]
    exact h i n hn k' hk c hc
  · rw [List.getElem?_append_right l] at hn
    have i0 : i - ds.length = 0 := by
      rcases Nat.eq_zero_or_pos (i - ds.length) with z | z
      · exact z
      · rw [List.getElem?_eq_none (by simp; omega)] at hn
        cases hn
    rw [i0] at hn
    have hn := Option.some.inj hn
    subst hn
    rw [e] at hk
    have hk := Option.some.inj hk
    subst hk
    have ei : i = ds.length := by omega
    subst ei
    rw [List.take_append_of_le_length (Nat.le_refl _), List.take_length]
    exact a c hc
theorem min_of (rk : Str → Nat) : ∀ {l : List Str}, l ≠ [] → ∃ z ∈ l, ∀ y ∈ l, rk z ≤ rk y
  | [], h => absurd rfl h
  | [x], _ => ⟨x, List.mem_cons_self .., fun y hy => by rw [List.mem_singleton.mp hy]; exact Nat.le_refl _⟩
  | x :: y :: l, _ => by
    obtain ⟨z, hz, hm⟩ := min_of rk (l := y :: l) (fun q => nomatch q)
    by_cases h : rk x ≤ rk z
    · exact ⟨x, List.mem_cons_self .., fun w hw => by
        rcases List.mem_cons.mp hw with q | q
        · rw [q]; exact Nat.le_refl _
        · exact Nat.le_trans h (hm w q)⟩
    · exact ⟨z, List.mem_cons_of_mem _ hz, fun w hw => by
        rcases List.mem_cons.mp hw with q | q
        · rw [q]; omega
        · exact hm w q⟩
/-- a name that is not done, all of whose calls are -/
theorem next_name {tb : Tb} {rk : Str → Nat} (R : Ranked tb rk) {ds : List Str} (nd : ds.Nodup) (l : ds.length < tb.length) : ∃ z, z ∈ tb.names ∧ z ∉ ds ∧ ∀ k, tb.lookup z = some k → ∀ c ∈ callsK k, c ∈ ds := by
  have ne : tb.names.filter (fun n => decide (n ∉ ds)) ≠ [] := fun e => by
    have q := List.filter_eq_nil_iff.mp e
    have h := nodup_le R.nd (m := ds) fun x hx => by simpa using q x hx
    rw [show tb.names.length = tb.length from List.length_map ..] at h
    omega
  obtain ⟨z, hz, hm⟩ := min_of rk ne
  obtain ⟨z1, z2⟩ := List.mem_filter.mp hz
  refine ⟨z, z1, of_decide_eq_true z2, fun k hk c hc => ?_⟩
  obtain ⟨c1, c2⟩ := R.lo _ _ hk c hc
  by_cases h : c ∈ ds
  · exact h
  · have := hm c (List.mem_filter.mpr ⟨c1, decide_eq_true h⟩)
    omega
theorem perm_of {ds ns : List Str} (h : ds.Nodup) (h2 : ns.Nodup) (s : ∀ y ∈ ds, y ∈ ns) (l : ns.length ≤ ds.length) : ds.Perm ns := by
  refine (List.perm_ext_iff_of_nodup h h2).mpr fun a => ⟨s a, fun ha => ?_⟩
  by_cases q : a ∈ ds
  · exact q
  · have := nodup_le (l := a :: ds) (m := ns) (List.nodup_cons.mpr ⟨q, h⟩) fun x hx => by
      rcases List.mem_cons.mp hx with z | z
      · rw [z]; exact ha
      · exact s x z
    rw [List.length_cons] at this
    omega

/-! ================= sets of ints drawn together ================= -/
theorem room_set {l : List Int} (b : ∀ a ∈ l, 0 ≤ a ∧ a ≤ 1000) : (sortU l).length + 1 < scanBound := by
  have := sortU_len (t := 1000) (by decide) b
  have e : scanBound = 4096 := rfl
  omega
theorem int_at {as : List Int} {n : Nat} {x : V} (h : (as.map V.int)[n]? = some x) : ∃ z, as[n]? = some z ∧ x = .int z := by
  rw [List.getElem?_map] at h
  obtain ⟨z, h1, h2⟩ := Option.map_eq_some_iff.mp h
  exact ⟨z, h1, h2.symm⟩
theorem take_snoc {α : Type} {l : List α} {n : Nat} {x : α} (h : l[n]? = some x) : l.take (n + 1) = l.take n ++ [x] := by rw [List.take_succ, h]; rfl
/-- {f(x) for x in e} over a list of ints -/
theorem sc1_ints {w : World} {K : PySem.W.Frag} {σ : L2.St} {H : Hp} {t0 te : TE} {i : Nat} {vs : List Nat} {a : Addr} {as : List Int} {Q : VK} (f : Int → Int)
    (hg : ∀ Q', Q' (.ref a) H → t0 σ H Q') (ha : H a = some (.lst (as.map V.int))) (hi : (wipe σ vs)[i]? = some none)
    (ht : ∀ x H1 (Q' : VK), x ∈ as → Same H H1 → Q' (.int (f x)) H1 → te ((wipe σ vs).set i (some (.int x))) H1 Q') (hf : ∀ x ∈ as, 0 ≤ f x ∧ f x ≤ 1000)
    (k : ∀ D H', H' D = some (setO w D (as.map f)) → H D = none → Same H H' → Q (.ref D) H') : tSc1 w (iList K t0) (gName i) tYes te vs σ H Q := by
  refine hg _ ⟨a, rfl, ⟨_, SqL.of ha⟩, fun D hD => ?_⟩
  rw [← setO_nil]
  refine clause_it (walk_list (xs := as.map V.int)) (fun n H' => H' D = some (setO w D ((as.take n).map f)) ∧ Same H H') ⟨upd_same, same_new hD⟩ (fun n H' _ q => SqL.of (q.2 _ _ ha)) ?_ ?_
  · rintro n x H1 H2 hn ⟨hD1, e1⟩ ⟨rfl, hx⟩
    obtain ⟨z, hz, rfl⟩ := int_at hx
    refine ⟨kept_set hi, ?_⟩
    dsimp only [tYes]
    rw [if_pos rfl]
    refine ht z _ _ (List.mem_of_getElem? hz) e1 ⟨f z, _, _, rfl, hD1, room_set fun c hc => ?_, ?_, same_put hD e1⟩
    · obtain ⟨y, hy, rfl⟩ := List.mem_map.mp hc
      exact hf y (List.mem_of_mem_take hy)
    · rw [upd_same, setO_snoc, take_snoc hz, List.map_append]
      rfl
  · rintro H1 ⟨hD1, e1⟩
    rw [List.length_map, List.take_length] at hD1
    exact k D H1 hD1 hD e1
/-- {f(x, y) for x in e for y in d} over lists of ints -/
theorem sc2_ints {w : World} {K : PySem.W.Frag} {σ : L2.St} {H : Hp} {t0 t1 te : TE} {i j : Nat} {vs vs1 : List Nat} {a b : Addr} {as bs : List Int} {Q : VK} (f : Int → Int → Int)
    (hg : ∀ Q', Q' (.ref a) H → t0 σ H Q') (ha : H a = some (.lst (as.map V.int))) (hb : ∀ x H1 (Q' : VK), Q' (.ref b) H1 → t1 ((wipe σ vs).set i (some x)) H1 Q') (hbb : H b = some (.lst (bs.map V.int)))
    (hi : (wipe σ vs)[i]? = some none) (hj : ∀ x, (wipe ((wipe σ vs).set i (some x)) vs1)[j]? = some none)
    (ht : ∀ x y H1 (Q' : VK), x ∈ as → y ∈ bs → Same H H1 → Q' (.int (f x y)) H1 → te ((wipe ((wipe σ vs).set i (some (.int x))) vs1).set j (some (.int y))) H1 Q') (hf : ∀ x ∈ as, ∀ y ∈ bs, 0 ≤ f x y ∧ f x y ≤ 1000)
    (k : ∀ D H', H' D = some (setO w D (as.flatMap fun x => bs.map (f x))) → H D = none → Same H H' → Q (.ref D) H') : tSc2 w (iList K t0) (gName i) tYes (iList K t1) (gName j) tYes te vs vs1 σ H Q := by
  refine hg _ ⟨a, rfl, ⟨_, SqL.of ha⟩, fun D hD => ?_⟩
  rw [← setO_nil]
  have bnd : ∀ n, ∀ c ∈ (as.take n).flatMap (fun x => bs.map (f x)), 0 ≤ c ∧ c ≤ 1000 := fun n c hc => by
    obtain ⟨x, hx, hc⟩ := List.mem_flatMap.mp hc
    obtain ⟨y, hy, rfl⟩ := List.mem_map.mp hc
    exact hf x (List.mem_of_mem_take hx) y hy
  refine clause_it (walk_list (xs := as.map V.int)) (fun n H' => H' D = some (setO w D ((as.take n).flatMap fun x => bs.map (f x))) ∧ Same H H') ⟨upd_same, same_new hD⟩ (fun n H' _ q => SqL.of (q.2 _ _ ha)) ?_ ?_
  · rintro n x H1 H2 hn ⟨hD1, e1⟩ ⟨rfl, hx⟩
    obtain ⟨z, hz, rfl⟩ := int_at hx
    have mz := List.mem_of_getElem? hz
    refine ⟨kept_set hi, ?_⟩
    dsimp only [tYes]
    rw [if_pos rfl]
    refine hb _ _ _ ⟨b, rfl, ⟨_, SqL.of (e1 _ _ hbb)⟩, ?_⟩
    refine clause_it (walk_list (xs := bs.map V.int)) (fun m H' => H' D = some (setO w D (((as.take n).flatMap fun x => bs.map (f x)) ++ (bs.take m).map (f z))) ∧ Same H H') ⟨by rw [List.take_zero, List.map_nil, List.append_nil]; exact hD1, e1⟩ (fun n H' _ q => SqL.of (q.2 _ _ hbb)) ?_ ?_
    · rintro m y H3 H4 hm ⟨hD3, e3⟩ ⟨rfl, hy⟩
      obtain ⟨u, hu, rfl⟩ := int_at hy
      have mu := List.mem_of_getElem? hu
      refine ⟨kept_set (hj _), ?_⟩
      dsimp only [tYes]
      rw [if_pos rfl]
      refine ht z u _ _ mz mu e3 ⟨f z u, _, _, rfl, hD3, room_set fun c hc => ?_, ?_, same_put hD e3⟩
      · rcases List.mem_append.mp hc with q | q
        · exact bnd n c q
        · obtain ⟨v, hv, rfl⟩ := List.mem_map.mp q
          exact hf z mz v (List.mem_of_mem_take hv)
      · rw [upd_same, setO_snoc, take_snoc hu, List.map_append, ← List.append_assoc]
        rfl
    · rintro H3 ⟨hD3, e3⟩
      rw [List.length_map, List.take_length] at hD3
      refine ⟨?_, e3⟩
      rw [hD3, take_snoc hz, List.flatMap_append]
      simp
  · rintro H1 ⟨hD1, e1⟩
    rw [List.length_map, List.take_length] at hD1
    exact k D H1 hD1 hD e1
/-- sorted(set) -/
theorem sorted_setO {w : World} {H : Hp} {D : Addr} {l : List Int} {Q : VK} {t : Int} (hD : H D = some (setO w D l)) (t0 : 0 ≤ t) (t62 : t ≤ 62) (b : ∀ a ∈ l, 0 ≤ a ∧ a ≤ t) (k : ∀ p, H p = none → Q (.ref p) (upd H p (.lst ((sortU l).map V.int)))) : rSortedSet w [V.ref D] H Q := by
  refine ⟨D, _, _, rfl, hD, by have := sortU_len t0 b; omega, fun ns p asc mem _ hp => ?_⟩
  have e : ns = sortU l := asc_eq asc (sortU_asc l) fun a => by rw [mem a, sortU_mem]; exact ⟨fun q => of_decide_eq_true q, fun q => decide_eq_true q⟩
  rw [e]
  exact k p hp

/-! ================= lengths of own messages ================= -/
/-- an instance of Lengths: its count, its top, its known lengths -/
def LenAt (A : Ad) (H : Hp) (x : Addr) (c : Int) (kd : Addr) : Prop := ∃ dx, H x = some (.ins A.c_Lengths dx [("count", .int c), ("top", .int (2 ^ c.toNat)), ("known", .ref kd)])
abbrev sp_Lengths_sums (_ : PySem.W.Frag) (A : Ad) : Sp := Sp3 fun v a b H Q _ => ∃ (x kd p q : Addr) (c : Int) (as bs : List Int), v = .ref x ∧ a = .ref p ∧ b = .ref q ∧ LenAt A H x c kd ∧ 0 ≤ c ∧ c ≤ 5 ∧ H p = some (.lst (as.map V.int)) ∧ H q = some (.lst (bs.map V.int)) ∧ (∀ z ∈ as, 0 ≤ z) ∧ (∀ z ∈ bs, 0 ≤ z) ∧
  ∀ (r : Addr) H', H' r = some (.lst ((sortU (as.flatMap fun x => bs.map fun y => min (2 ^ c.toNat) (x + y))).map V.int)) → H r = none → Same H H' → Q (.ref r) H'
theorem min2_eq {t s : Int} : (if s < t then s else t) = min t s := by
  rw [Int.min_def]
  split <;> split <;> omega
theorem top_32 {c : Int} (c0 : 0 ≤ c) (c5 : c ≤ 5) : (1 : Int) ≤ 2 ^ c.toNat ∧ (2 : Int) ^ c.toNat ≤ 32 := by
  obtain ⟨n, rfl⟩ := Int.eq_ofNat_of_zero_le c0
  have : n = 0 ∨ n = 1 ∨ n = 2 ∨ n = 3 ∨ n = 4 ∨ n = 5 := by omega
  rcases this with rfl | rfl | rfl | rfl | rfl | rfl <;> decide
abbrev lenFs (c kd : V) (t : V) : List (Str × V) := [("count", c), ("top", t), ("known", kd)]
theorem len_fs {c kd t : V} : (lenFs c kd t).lookup ("count" : Str) = some c ∧ (lenFs c kd t).lookup ("top" : Str) = some t ∧ (lenFs c kd t).lookup ("known" : Str) = some kd := by
  have e1 : (("top" : Str) == ("count" : Str)) = false := by decide +kernel
  have e2 : (("known" : Str) == ("count" : Str)) = false := by decide +kernel
  have e3 : (("known" : Str) == ("top" : Str)) = false := by decide +kernel
  refine ⟨by simp [List.lookup], ?_, ?_⟩
  · simp only [List.lookup_cons, e1]
    simp
  · simp only [List.lookup_cons, e2, e3]
    simp
theorem len_no {c kd t : V} {m : Str} (h : ¬ m = "count" ∧ ¬ m = "top" ∧ ¬ m = "known") : (lenFs c kd t).lookup m = none := by
  have e1 : (m == ("count" : Str)) = false := by simpa using h.1
  have e2 : (m == ("top" : Str)) = false := by simpa using h.2.1
  have e3 : (m == ("known" : Str)) = false := by simpa using h.2.2
  show List.lookup m [("count", c), ("top", t), ("known", kd)] = none
  rw [List.lookup_cons, e1, List.lookup_cons, e2, List.lookup_cons, e3]
  rfl
mutual
/-- within the bounds of the constructors (no Items yet) -/
def Kd.fit : Kd → Prop
  | .num lo hi w => lo < hi ∧ hi - lo < 2 ^ 60 ∧ ∀ i, w = some i → 1 ≤ i ∧ i ≤ 60
  | .bits n => 1 ≤ n ∧ n ≤ 16
  | .call x => x.length ≤ 8
  | .items _ _ => False
  | .nothing => True
  | .none => True
  | .way w n k => w.length ≤ 8 ∧ n.length ≤ 8 ∧ k.fit
  | .door w n k => w.length ≤ 8 ∧ n.length ≤ 8 ∧ k.fit
  | .part n k => n.length ≤ 8 ∧ k.fit
  | .room w n k => w.length ≤ 8 ∧ n.length ≤ 8 ∧ k.fit
  | .choice ks => Kd.fitAll ks
  | .row ks => Kd.fitAll ks
def Kd.fitAll : List Kd → Prop
  | [] => True
  | k :: ks => k.fit ∧ Kd.fitAll ks
end
theorem fitAll_mem : ∀ {ks : List Kd}, Kd.fitAll ks → ∀ z ∈ ks, z.fit
  | k :: ks, h, z, hz => by
    rw [Kd.fitAll] at h
    rcases List.mem_cons.mp hz with e | e
    · rw [e]; exact h.1
    · exact fitAll_mem h.2 z e
def lensN (lo hi : Int) (w : Option Int) : List Int := match w with
  | some w => [w]
  | none => if hi - lo + 1 = 1 * 2 ^ ((Builtin.Int.intBits (hi - lo + 1) : Int) - 1).toNat then [(Builtin.Int.intBits (hi - lo + 1) : Int) - 1] else [(Builtin.Int.intBits (hi - lo + 1) : Int) - 1, (Builtin.Int.intBits (hi - lo + 1) : Int) - 1 + 1]
def sumsL (t : Int) (as bs : List Int) : List Int := sortU (as.flatMap fun x => bs.map fun y => min t (x + y))
abbrev Kn := List (Str × List Int)
def lensK (t : Int) (kn : Kn) : Kd → List Int
  | .nothing => [0]
  | .num lo hi w => (lensN lo hi w).map (min t)
  | .bits n => [min t n]
  | .call x => (kn.lookup x).getD []
  | _ => []
def bodyL (t c : Int) (kn : Kn) (w : Str) : Kd → List Int
  | .none => []
  | k => sumsL t [(w.length : Nat) + c] ((lensK t kn k).filter fun x => decide (x < t))
def wayL1 (t c : Int) (kn : Kn) : Kd → List Int
  | .way w _ k => sumsL t [(w.length : Nat)] (lensK t kn k)
  | .door w _ k => bodyL t c kn w k
  | _ => []
def rowL1 (t c : Int) (kn : Kn) (f : List Int) : Kd → List Int
  | .part _ k => sumsL t f (lensK t kn k)
  | .room w _ k => sumsL t f (0 :: bodyL t c kn w k)
  | _ => []
def namedL (t c : Int) (kn : Kn) : Kd → List Int
  | .row ks => ks.foldl (rowL1 t c kn) [0]
  | .choice ks => sortU (ks.flatMap (wayL1 t c kn))
  | k => lensK t kn k
def KnAt (H : Hp) (kd : Addr) (kn : Kn) : Prop := ∃ kvs : List (Key × V), H kd = some (.dK kvs) ∧ Paired (fun (kv : Key × V) (x : Str × List Int) => kv.1 = .inr x.1 ∧ ∃ q, q ≠ kd ∧ kv.2 = .ref q ∧ H q = some (.lst (x.2.map V.int))) kvs kn
theorem KnAt.same {H H' : Hp} {kd : Addr} {kn : Kn} (e : Same H H') (h : KnAt H kd kn) : KnAt H' kd kn := by
  obtain ⟨kvs, h1, h2⟩ := h
  exact ⟨kvs, e _ _ h1, paired_impE (fun _ _ ⟨a, q, n, b, c⟩ => ⟨a, q, n, b, e _ _ c⟩) h2⟩
theorem KnAt.get {H : Hp} {kd : Addr} {kn : Kn} {n : Str} {l : List Int} (h : KnAt H kd kn) (e : kn.lookup n = some l) : ∃ q, DGet H kd (.str n) (some (.ref q)) ∧ H q = some (.lst (l.map V.int)) := by
  obtain ⟨kvs, h1, h2⟩ := h
  have key : ∃ q, valV kvs (.inr n : Key) = some (.ref q) ∧ H q = some (.lst (l.map V.int)) := by
    clear h1
    induction h2 with
    | nil => cases e
    | cons a t ih =>
      rename_i kv x kvs tb
      obtain ⟨m, l'⟩ := x
      obtain ⟨a1, q, _, a2, a3⟩ := a
      rw [List.lookup_cons] at e
      by_cases en : n = m
      · subst en
        have z : (n == n) = true := by simp
        rw [z] at e
        have e := Option.some.inj e
        subst e
        exact ⟨q, by rw [valV_pos a1, a2], a3⟩
      · have z : (n == m) = false := by simpa using en
        rw [z] at e
        have ne : ¬ kv.1 = (.inr n : Key) := by
          rw [a1]
          intro w
          injection w with w
          exact en w.symm
        rw [valV_neg ne]
        exact ih e
  obtain ⟨q, k1, k2⟩ := key
  exact ⟨q, .inl ⟨kvs, .inr n, .inl h1, rfl, k1.symm⟩, k2⟩
def Nneg (kn : Kn) : Prop := ∀ x ∈ kn, (∀ z ∈ x.2, 0 ≤ z) ∧ x.2.length ≤ 100
/-- all that is known of an instance of Lengths -/
structure Lens (A : Ad) (H : Hp) (x : Addr) (c : Int) (kd : Addr) (kn : Kn) : Prop where
  at_ : LenAt A H x c kd
  kat : KnAt H kd kn
  c0 : 0 ≤ c
  c5 : c ≤ 5
  nn : Nneg kn
theorem Lens.same {A : Ad} {H H' : Hp} {x kd : Addr} {c : Int} {kn : Kn} (e : Same H H') (h : Lens A H x c kd kn) : Lens A H' x c kd kn := ⟨by obtain ⟨dx, q⟩ := h.at_; exact ⟨dx, e _ _ q⟩, h.kat.same e, h.c0, h.c5, h.nn⟩
abbrev tp (c : Int) : Int := 2 ^ c.toNat
/-- what a kind calls is known -/
def Knows (kn : Kn) : Kd → Prop
  | .call x => ∃ l, kn.lookup x = some l
  | _ => True
def isSi : Kd → Bool
  | .nothing => true
  | .num _ _ _ => true
  | .bits _ => true
  | .call _ => true
  | _ => false
abbrev sp_number_lengths (_ : PySem.W.Frag) (A : Ad) : Sp := Sp1 fun v H Q _ => ∃ lo hi w, KAt A H v (.num lo hi w) ∧ (Kd.num lo hi w).fit ∧ ∀ p H', H' p = some (.lst ((lensN lo hi w).map V.int)) → H p = none → Same H H' → Q (.ref p) H'
abbrev sp_Lengths_of_kind (_ : PySem.W.Frag) (A : Ad) : Sp := Sp2 fun v a H Q _ => ∃ (x kd : Addr) (c : Int) (kn : Kn) (k : Kd), v = .ref x ∧ Lens A H x c kd kn ∧ KAt A H a k ∧ k.fit ∧ isSi k = true ∧ Knows kn k ∧ ∀ p H', H' p = some (.lst ((lensK (tp c) kn k).map V.int)) → Same H H' → Q (.ref p) H'
abbrev sp_Lengths_of_body (_ : PySem.W.Frag) (A : Ad) : Sp := Sp3 fun v w a H Q _ => ∃ (x kd : Addr) (c : Int) (kn : Kn) (k : Kd) (y : Str), v = .ref x ∧ w = .str y ∧ y.length ≤ 8 ∧ Lens A H x c kd kn ∧ KAt A H a k ∧ k.fit ∧ (k = .none ∨ isSi k = true) ∧ Knows kn k ∧ ∀ p H', H' p = some (.lst ((bodyL (tp c) c kn y k).map V.int)) → Same H H' → Q (.ref p) H'
abbrev sp_Lengths_of_row (_ : PySem.W.Frag) (A : Ad) : Sp := Sp2 fun v a H Q _ => ∃ (x kd : Addr) (c : Int) (kn : Kn) (ks : List Kd), v = .ref x ∧ Lens A H x c kd kn ∧ KAt A H a (.row ks) ∧ (Kd.row ks).fit ∧ ks.length ≤ 8 ∧ (∀ z ∈ ks, Knows kn (inK z)) ∧ ∀ p H', H' p = some (.lst ((namedL (tp c) c kn (.row ks)).map V.int)) → H p = none → Same H H' → Q (.ref p) H'
abbrev sp_Lengths_of_named (_ : PySem.W.Frag) (A : Ad) : Sp := Sp2 fun v a H Q _ => ∃ (x kd : Addr) (c : Int) (kn : Kn) (k : Kd), v = .ref x ∧ Lens A H x c kd kn ∧ KAt A H a k ∧ k.fit ∧ k.top = true ∧ (∀ z ∈ innersK k, Knows kn z) ∧ ∀ p H', H' p = some (.lst ((namedL (tp c) c kn k).map V.int)) → Same H H' → Q (.ref p) H'
theorem bits_pos {m : Int} (h : 2 ≤ m) (h2 : m ≤ 2 ^ 60) : 2 ≤ (Builtin.Int.intBits m : Int) ∧ (Builtin.Int.intBits m : Int) ≤ 61 := by
  obtain ⟨n, rfl⟩ := Int.eq_ofNat_of_zero_le (by omega : 0 ≤ m)
  have n0 : n ≠ 0 := by omega
  have e : Builtin.Int.intBits (n : Int) = n.log2 + 1 := by
    unfold Builtin.Int.intBits
    simp [n0]
  rw [e]
  have l1 : n.log2 < 61 := (Nat.log2_lt n0).mpr (by omega)
  have l2 : 1 ≤ n.log2 := by
    rcases Nat.lt_or_ge n.log2 1 with q | q
    · have := (Nat.log2_lt n0).mp q
      omega
    · exact q
  omega
theorem ints_pair : ∀ ws : List Int, Paired (fun v (n : Int) => v = V.int n) (ws.map V.int) ws
  | [] => .nil
  | _ :: ws => .cons rfl (ints_pair ws)
theorem pair_ints : ∀ {vs : List V} {ws : List Int}, Paired (fun v (n : Int) => v = V.int n) vs ws → vs = ws.map V.int
  | _, _, .nil => rfl
  | _, _, .cons h t => by rw [h, pair_ints t]; rfl
theorem lensN_len {lo hi : Int} {w : Option Int} : (lensN lo hi w).length ≤ 2 := by
  cases w with
  | some i => exact (by decide : 1 ≤ 2)
  | none =>
    show (if _ then _ else _ : List Int).length ≤ 2
    split <;> simp
theorem lensN_nn {lo hi : Int} {w : Option Int} (h : (Kd.num lo hi w).fit) : ∀ z ∈ lensN lo hi w, 0 ≤ z := by
  rw [Kd.fit] at h
  obtain ⟨h1, h2, h3⟩ := h
  intro z hz
  cases w with
  | some i =>
    rw [lensN, List.mem_singleton] at hz
    have := h3 i rfl
    omega
  | none =>
    obtain ⟨b1, b2⟩ := bits_pos (m := hi - lo + 1) (by omega) (by omega)
    rw [lensN] at hz
    split at hz
    · rw [List.mem_singleton] at hz
      omega
    · rcases List.mem_cons.mp hz with e | e
      · omega
      · rw [List.mem_singleton] at e
        omega
theorem lensK_nn {t c : Int} {kn : Kn} {k : Kd} (c0 : 0 ≤ c) (nn : Nneg kn) (hf : k.fit) (hk : Knows kn k) (et : t = tp c := by rfl) : (∀ z ∈ lensK t kn k, 0 ≤ z) ∧ (lensK t kn k).length ≤ 100 := by
  have t0 : 0 ≤ t := by rw [et]; exact Int.le_of_lt (Int.pow_pos (by decide))
  cases k with
  | nothing => exact ⟨fun z hz => by rw [lensK, List.mem_singleton] at hz; omega, by simp [lensK]⟩
  | num lo hi w =>
    refine ⟨fun z hz => ?_, ?_⟩
    · obtain ⟨y, hy, rfl⟩ := List.mem_map.mp hz
      have := lensN_nn hf y hy
      omega
    · rw [lensK, List.length_map]
      exact Nat.le_trans lensN_len (by decide)
  | bits n =>
    rw [Kd.fit] at hf
    refine ⟨fun z hz => ?_, by simp [lensK]⟩
    rw [lensK, List.mem_singleton] at hz
    omega
  | call x =>
    obtain ⟨l, hl⟩ := hk
    have e : lensK t kn (.call x) = l := by rw [lensK, hl]; rfl
    rw [e]
    exact nn _ (PySem.mem_of_lookup hl)
  | _ => exact ⟨fun z hz => (nomatch (show z ∈ ([] : List Int) from hz)), Nat.zero_le _⟩
theorem knows_in {kn : Kn} {ks : List Kd} (h : ∀ z ∈ (ks.map inK).filter notNon, Knows kn z) : ∀ z ∈ ks, Knows kn (inK z) := fun z hz => by
  cases e : notNon (inK z) with
  | true => exact h _ (List.mem_filter.mpr ⟨List.mem_map_of_mem hz, e⟩)
  | false =>
    have : inK z = .none := by
      cases q : inK z <;> first | rfl | (rw [q] at e; cases e)
    rw [this]
    trivial
/-- a row of sums that stay between 0 and 32 -/
def Low (t : Int) (l : List Int) : Prop := ∀ z ∈ l, 0 ≤ z ∧ z ≤ t
theorem sums_low {t : Int} {as bs : List Int} (t0 : 0 ≤ t) (ha : ∀ z ∈ as, 0 ≤ z) (hb : ∀ z ∈ bs, 0 ≤ z) : Low t (sumsL t as bs) := fun z hz => by
  obtain ⟨y, hy, hz⟩ := List.mem_flatMap.mp ((sortU_mem _ _).mp hz)
  obtain ⟨u, hu, rfl⟩ := List.mem_map.mp hz
  have := ha y hy
  have := hb u hu
  exact ⟨by omega, by omega⟩
theorem sums_len {t : Int} {as bs : List Int} (t0 : 0 ≤ t) (t32 : t ≤ 32) (ha : ∀ z ∈ as, 0 ≤ z) (hb : ∀ z ∈ bs, 0 ≤ z) : (sumsL t as bs).length ≤ 33 := by
  have := sortU_len (l := as.flatMap fun x => bs.map fun y => min t (x + y)) t0 fun z hz => by
    obtain ⟨y, hy, hz⟩ := List.mem_flatMap.mp hz
    obtain ⟨u, hu, rfl⟩ := List.mem_map.mp hz
    have := ha y hy
    have := hb u hu
    exact ⟨by omega, by omega⟩
  show (sortU _).length ≤ 33
  omega
/-- what is told of the own messages of a kind: few, none below 0 -/
def Few (l : List Int) : Prop := (∀ z ∈ l, 0 ≤ z) ∧ l.length ≤ 33
theorem sums_few {t : Int} {as bs : List Int} (t0 : 0 ≤ t) (t32 : t ≤ 32) (ha : ∀ z ∈ as, 0 ≤ z) (hb : ∀ z ∈ bs, 0 ≤ z) : Few (sumsL t as bs) := ⟨fun z hz => (sums_low t0 ha hb z hz).1, sums_len t0 t32 ha hb⟩
theorem body_few {c : Int} {kn : Kn} {w : Str} {k : Kd} (c0 : 0 ≤ c) (c5 : c ≤ 5) (nn : Nneg kn) (hf : k.fit) (hk : Knows kn k) : Few (bodyL (tp c) c kn w k) := by
  obtain ⟨t1, t32⟩ := top_32 c0 c5
  have key : ∀ l : List Int, (∀ z ∈ l, 0 ≤ z) → Few (sumsL (tp c) [(w.length : Nat) + c] (l.filter fun x => decide (x < tp c))) := fun l h => sums_few (by show (0 : Int) ≤ 2 ^ c.toNat; omega) t32 (fun z hz => by rw [List.mem_singleton.mp hz]; omega) fun z hz => h z (List.mem_filter.mp hz).1
  have nnk := (lensK_nn c0 nn hf hk).1
  cases k with
  | none => exact ⟨fun z hz => (nomatch (show z ∈ ([] : List Int) from hz)), Nat.zero_le _⟩
  | _ => exact key _ nnk
theorem way_few {c : Int} {kn : Kn} {z : Kd} (c0 : 0 ≤ c) (c5 : c ≤ 5) (nn : Nneg kn) (hf : z.fit) (hk : Knows kn (inK z)) : Few (wayL1 (tp c) c kn z) := by
  obtain ⟨t1, t32⟩ := top_32 c0 c5
  cases z with
  | way w n k =>
    rw [Kd.fit] at hf
    exact sums_few (by show (0 : Int) ≤ 2 ^ c.toNat; omega) t32 (fun z hz => by rw [List.mem_singleton.mp hz]; omega) (lensK_nn c0 nn hf.2.2 hk).1
  | door w n k =>
    rw [Kd.fit] at hf
    exact body_few c0 c5 nn hf.2.2 hk
  | _ => exact ⟨fun z hz => (nomatch (show z ∈ ([] : List Int) from hz)), Nat.zero_le _⟩
theorem flat_few {α : Type} {f : α → List Int} : ∀ {l : List α}, (∀ a ∈ l, Few (f a)) → (∀ z ∈ l.flatMap f, 0 ≤ z) ∧ (l.flatMap f).length ≤ 33 * l.length
  | [], _ => ⟨fun z hz => (nomatch hz), Nat.le_refl _⟩
  | a :: l, h => by
    have h1 := h a (List.mem_cons_self ..)
    have h2 := flat_few fun b hb => h b (List.mem_cons_of_mem _ hb)
    rw [List.flatMap_cons, List.length_append, List.length_cons]
    refine ⟨fun z hz => ?_, ?_⟩
    · rcases List.mem_append.mp hz with q | q
      · exact h1.1 z q
      · exact h2.1 z q
    · have := h1.2
      have := h2.2
      omega
theorem si_of {k : Kd} (h : (Td.k k).way = true ∨ (Td.k k).simple = true) (f : k.fit) : isSi k = true := by
  cases k <;> first | rfl | (rw [Kd.fit] at f; exact f.elim) | (rcases h with h | h <;> cases h)
theorem si_door {k : Kd} (h : (Td.k k).door = true) (f : k.fit) : k = .none ∨ isSi k = true := by
  cases k <;> first | exact .inl rfl | exact .inr rfl | (rw [Kd.fit] at f; exact f.elim) | cases h
theorem si_room {k : Kd} (h : (Td.k k).room = true) (f : k.fit) : k = .none ∨ isSi k = true := by
  cases k <;> first | exact .inl rfl | exact .inr rfl | (rw [Kd.fit] at f; exact f.elim) | cases h
/-- no sum beyond the top -/
theorem sums_top {t : Int} {as bs : List Int} : ∀ z ∈ sumsL t as bs, z ≤ t := fun z hz => by
  obtain ⟨y, hy, hz⟩ := List.mem_flatMap.mp ((sortU_mem _ _).mp hz)
  obtain ⟨u, hu, rfl⟩ := List.mem_map.mp hz
  omega
theorem body_top {t c : Int} {kn : Kn} {w : Str} {k : Kd} : ∀ z ∈ bodyL t c kn w k, z ≤ t := by
  cases k with
  | none => exact fun z hz => (nomatch (show z ∈ ([] : List Int) from hz))
  | _ => exact fun z hz => sums_top z hz
theorem way_top {t c : Int} {kn : Kn} {z : Kd} : ∀ a ∈ wayL1 t c kn z, a ≤ t := by
  cases z with
  | way w n k => exact sums_top
  | door w n k => exact body_top
  | _ => exact fun z hz => (nomatch (show z ∈ ([] : List Int) from hz))
theorem ways_low {t c : Int} {kn : Kn} (_ : 0 ≤ t) (ks : List Kd) : ∀ a ∈ ks.flatMap (wayL1 t c kn), a ≤ t := fun a ha => by
  obtain ⟨z, _, hz⟩ := List.mem_flatMap.mp ha
  exact way_top a hz
theorem flat_one {α : Type} {f : α → List Int} {a : α} : [a].flatMap f = f a := by simp
theorem none_same {H H' : Hp} {p : Addr} (e : Same H H') (h : H' p = none) : H p = none := by
  cases z : H p with
  | none => rfl
  | some o => rw [e _ _ z] at h; cases h
theorem row_few {c : Int} {kn : Kn} {z : Kd} {f : List Int} (c0 : 0 ≤ c) (c5 : c ≤ 5) (nn : Nneg kn) (hf : z.fit) (hk : Knows kn (inK z)) (h : Few f) : Few (rowL1 (tp c) c kn f z) := by
  obtain ⟨t1, t32⟩ := top_32 c0 c5
  have tt : (0 : Int) ≤ tp c := by show (0 : Int) ≤ 2 ^ c.toNat; omega
  cases z with
  | part n k =>
    rw [Kd.fit] at hf
    exact sums_few tt t32 h.1 (lensK_nn c0 nn hf.2 hk).1
  | room w n k =>
    rw [Kd.fit] at hf
    refine sums_few tt t32 h.1 fun z hz => ?_
    rcases List.mem_cons.mp hz with e | e
    · omega
    · exact (body_few c0 c5 nn hf.2.2 hk).1 z e
  | _ => exact ⟨fun z hz => (nomatch (show z ∈ ([] : List Int) from hz)), Nat.zero_le _⟩
theorem rows_few {c : Int} {kn : Kn} (c0 : 0 ≤ c) (c5 : c ≤ 5) (nn : Nneg kn) : ∀ (ks : List Kd), (∀ z ∈ ks, z.fit) → (∀ z ∈ ks, Knows kn (inK z)) → Few (ks.foldl (rowL1 (tp c) c kn) [0]) := by
  have key : ∀ (ks : List Kd) (f : List Int), Few f → (∀ z ∈ ks, z.fit) → (∀ z ∈ ks, Knows kn (inK z)) → Few (ks.foldl (rowL1 (tp c) c kn) f) := by
    intro ks
    induction ks with
    | nil => exact fun f h _ _ => h
    | cons z ks ih => exact fun f h hf hk => ih _ (row_few c0 c5 nn (hf z (List.mem_cons_self ..)) (hk z (List.mem_cons_self ..)) h) (fun a ha => hf a (List.mem_cons_of_mem _ ha)) fun a ha => hk a (List.mem_cons_of_mem _ ha)
  exact fun ks => key ks [0] ⟨fun z hz => by rw [List.mem_singleton.mp hz]; omega, by decide⟩
/-- what is known of each name is what its kind tells -/
def FixL (tb : Tb) (c : Int) (kn : Kn) : Prop := ∀ n k, tb.lookup n = some k → kn.lookup n = some (namedL (tp c) c kn k)
abbrev sp_Lengths___init__ (_ : PySem.W.Frag) (A : Ad) : Sp := Sp3 fun s v a H Q _ => ∃ (H0 : Hp) (x p : Addr) (tb : Tb) (kvs : List (Key × V)) (rk : Str → Nat) (c : Int), s = .ref x ∧ Fresh A.c_Lengths x H0 H ∧ v = .ref p ∧ a = .int c ∧ TbAt A H0 p tb kvs ∧ H0 p = some (.dK kvs) ∧ TbTop tb ∧ (∀ z ∈ tb, z.2.fit) ∧ tb.length ≤ 20 ∧ Ranked tb rk ∧ 0 ≤ c ∧ c ≤ 5 ∧
  ∀ kd kn H', Lens A H' x c kd kn → FixL tb c kn → Same H0 H' → Q .non H'

abbrev sp_Lengths_is_long (_ : PySem.W.Frag) (A : Ad) : Sp := Sp2 fun v a H Q _ => ∃ (x kd : Addr) (c : Int) (kn : Kn) (k : Kd), v = .ref x ∧ Lens A H x c kd kn ∧ KAt A H a k ∧ k.fit ∧ isSi k = true ∧ Knows kn k ∧ ∀ H', Same H H' → Q (.bl (decide (tp c ∈ lensK (tp c) kn k))) H'
/-- no room and no door that holds a kind one of whose own messages may be as long as the top -/
def NoLong (tb : Tb) (c : Int) : Prop := ∀ kn, FixL tb c kn → ∀ z ∈ tb, ∀ ks, z.2 = .choice ks ∨ z.2 = .row ks → ∀ k ∈ ks, (∃ w n, k = .door w n (inK k) ∨ k = .room w n (inK k)) → inK k ≠ .none → tp c ∉ lensK (tp c) kn (inK k)
abbrev sp_long_body (_ : PySem.W.Frag) (A : Ad) : Sp := Sp2 fun v a H Q _ => ∃ (p : Addr) (tb : Tb) (kvs : List (Key × V)) (rk : Str → Nat) (c : Int), v = .ref p ∧ a = .int c ∧ TbAt A H p tb kvs ∧ H p = some (.dK kvs) ∧ TbTop tb ∧ (∀ z ∈ tb, z.2.fit) ∧ tb.length ≤ 20 ∧ Ranked tb rk ∧ 0 ≤ c ∧ c ≤ 5 ∧
  NoLong tb c ∧ ∀ H', Same H H' → Q .non H'
structure Fresh2 (C : Addr) (x : Addr) (H0 H : Hp) (dx : Addr) (fs : List (Str × V)) : Prop where
  no : H0 x = none
  s : Same H0 H
  at' : H x = some (.ins C dx fs)
theorem put2E {c t : V} : putF "top" t (putF "count" c []) = ([(("count" : Str), c), (("top" : Str), t)] : List (Str × V)) := by
  show (if ("count" : Str) = ("top" : Str) then _ else _) = ([(("count" : Str), c), (("top" : Str), t)] : List (Str × V))
  rw [if_neg (by decide +kernel)]
  rfl
theorem put3E {c t kd : V} : putF "known" kd (putF "top" t (putF "count" c [])) = lenFs c kd t := by
  rw [put2E]
  show (if ("count" : Str) = ("known" : Str) then _ else (("count" : Str), c) :: (if ("top" : Str) = ("known" : Str) then _ else _)) = lenFs c kd t
  rw [if_neg (by decide +kernel), if_neg (by decide +kernel)]
  rfl
/-- what is known behind the names ds -/
def knL (tb : Tb) (c : Int) (ds : List Str) : Kn := ds.foldl (fun kn n => kn ++ [(n, namedL (tp c) c kn ((tb.lookup n).getD .none))]) []
theorem knL_snoc {tb : Tb} {c : Int} {ds : List Str} {n : Str} : knL tb c (ds ++ [n]) = knL tb c ds ++ [(n, namedL (tp c) c (knL tb c ds) ((tb.lookup n).getD .none))] := by
  unfold knL
  rw [List.foldl_append]
  rfl
theorem snoc_ind {α : Type} {P : List α → Prop} (h0 : P []) (h : ∀ l a, P l → P (l ++ [a])) (l : List α) : P l := by
  have : ∀ m : List α, P m.reverse := fun m => by
    induction m with
    | nil => exact h0
    | cons a m ih => rw [List.reverse_cons]; exact h _ _ ih
  have q := this l.reverse
  rwa [List.reverse_reverse] at q
theorem knL_names {tb : Tb} {c : Int} (ds : List Str) : (knL tb c ds).map (·.1) = ds := by
  induction ds using snoc_ind with
  | h0 => rfl
  | h l a ih => rw [knL_snoc, List.map_append, ih]; rfl
theorem knL_len {tb : Tb} {c : Int} (ds : List Str) : (knL tb c ds).length = ds.length := by
  have := congrArg List.length (knL_names (tb := tb) (c := c) ds)
  rwa [List.length_map] at this
theorem kn_look {n : Str} : ∀ {kn : Kn}, n ∈ kn.map (·.1) → ∃ l, kn.lookup n = some l
  | x :: kn, h => by
    obtain ⟨m, l⟩ := x
    rw [List.lookup_cons]
    by_cases e : n = m
    · subst e
      exact ⟨l, by simp⟩
    · have e2 : (n == m) = false := by simpa using e
      rw [e2]
      rcases List.mem_cons.mp h with z | z
      · exact absurd z e
      · exact kn_look z
theorem kn_lookN {n : Str} : ∀ {kn : Kn}, n ∉ kn.map (·.1) → kn.lookup n = none
  | [], _ => rfl
  | x :: kn, h => by
    obtain ⟨m, l⟩ := x
    have e2 : (n == m) = false := by
      have : n ≠ m := fun z => h (z ▸ List.mem_cons_self ..)
      simpa using this
    rw [List.lookup_cons, e2]
    exact kn_lookN fun z => h (List.mem_cons_of_mem _ z)
theorem knL_has {tb : Tb} {c : Int} {n : Str} (ds : List Str) (h : n ∈ ds) : ∃ l, (knL tb c ds).lookup n = some l := kn_look (by rw [knL_names]; exact h)
theorem knL_none {tb : Tb} {c : Int} {n : Str} {ds : List Str} (h : n ∉ ds) : (knL tb c ds).lookup n = none := kn_lookN (by rw [knL_names]; exact h)
theorem kn_none {H : Hp} {kd : Addr} {n : Str} : ∀ {kvs : List (Key × V)} {kn : Kn}, Paired (fun (kv : Key × V) (x : Str × List Int) => kv.1 = .inr x.1 ∧ ∃ q, q ≠ kd ∧ kv.2 = .ref q ∧ H q = some (.lst (x.2.map V.int))) kvs kn → kn.lookup n = none → valV kvs (.inr n : Key) = none
  | _, _, .nil, _ => rfl
  | kv :: kvs, x :: kn, .cons a t, e => by
    obtain ⟨m, l⟩ := x
    obtain ⟨a1, _⟩ := a
    rw [List.lookup_cons] at e
    by_cases en : n = m
    · subst en
      have z : (n == n) = true := by simp
      rw [z] at e
      cases e
    · have z : (n == m) = false := by simpa using en
      rw [z] at e
      have ne : ¬ kv.1 = (.inr n : Key) := by
        rw [a1]
        intro w
        injection w with w
        exact en w.symm
      rw [valV_neg ne]
      exact kn_none t e
theorem knows_of {kn : Kn} {k : Kd} (h : ∀ m ∈ callsK k, ∃ l, kn.lookup m = some l) : ∀ z ∈ innersK k, Knows kn z := fun z hz => by
  cases z with
  | call m => exact h m (List.mem_flatMap.mpr ⟨_, hz, List.mem_singleton.mpr rfl⟩)
  | _ => trivial
theorem nodup_take {ds : List Str} {i : Nat} {n : Str} (h : ds.Nodup) (e : ds[i]? = some n) : n ∉ ds.take i := by
  have h2 := h.sublist (List.take_sublist (i + 1) ds)
  rw [take_snoc e] at h2
  obtain ⟨_, _, h3⟩ := List.nodup_append.mp h2
  exact fun m => h3 n m n (List.mem_singleton.mpr rfl) rfl
theorem named_ok {c : Int} {kn : Kn} {k : Kd} (c0 : 0 ≤ c) (c5 : c ≤ 5) (nn : Nneg kn) (top : k.top = true) (hf : k.fit) (hk : ∀ z ∈ innersK k, Knows kn z) : (∀ z ∈ namedL (tp c) c kn k, 0 ≤ z) ∧ (namedL (tp c) c kn k).length ≤ 100 := by
  obtain ⟨t1, t32⟩ := top_32 c0 c5
  have tt : (0 : Int) ≤ tp c := by show (0 : Int) ≤ 2 ^ c.toNat; omega
  cases k with
  | row ks =>
    have := rows_few c0 c5 nn ks (fitAll_mem (by rw [Kd.fit] at hf; exact hf)) (knows_in hk)
    exact ⟨this.1, Nat.le_trans this.2 (by decide)⟩
  | choice ks =>
    have fa := fitAll_mem (by rw [Kd.fit] at hf; exact hf)
    have kin := knows_in hk
    obtain ⟨nnz, _⟩ := flat_few (l := ks) (f := wayL1 (tp c) c kn) fun a ha => way_few c0 c5 nn (fa a ha) (kin a ha)
    have le := ways_low (t := tp c) (c := c) (kn := kn) tt ks
    refine ⟨fun z hz => nnz z ((sortU_mem _ _).mp hz), ?_⟩
    have := sortU_len tt fun z hz => ⟨nnz z hz, le z hz⟩
    have e : tp c ≤ 32 := t32
    show (sortU _).length ≤ 100
    omega
  | _ => exact lensK_nn c0 nn hf (hk _ (List.mem_singleton.mpr rfl))
/-- the same names known alike -/
def Alike (kn kn' : Kn) (ns : List Str) : Prop := ∀ n ∈ ns, kn.lookup n = kn'.lookup n
theorem lensK_alike {t : Int} {kn kn' : Kn} {k : Kd} (h : Alike kn kn' (callOf1 k)) : lensK t kn k = lensK t kn' k := by
  cases k with
  | call x => rw [lensK, lensK, h x (List.mem_singleton.mpr rfl)]
  | _ => rfl
theorem callOf1_mem {k : Kd} {n : Str} (h : n ∈ callOf1 k) : n ∈ callOf k := by
  cases k <;> first | exact h | cases h
theorem body_alike {t c : Int} {kn kn' : Kn} {w : Str} {k : Kd} (h : Alike kn kn' (callOf1 k)) : bodyL t c kn w k = bodyL t c kn' w k := by
  have e := lensK_alike (t := t) h
  cases k with
  | none => rfl
  | _ => show sumsL _ _ _ = sumsL _ _ _; rw [e]
theorem inner_mem {ks : List Kd} {z : Kd} {n : Str} (hz : z ∈ ks) (h : n ∈ callOf1 (inK z)) : n ∈ ((ks.map inK).filter notNon).flatMap callOf := by
  refine List.mem_flatMap.mpr ⟨inK z, List.mem_filter.mpr ⟨List.mem_map_of_mem hz, ?_⟩, callOf1_mem h⟩
  cases e : inK z <;> first | rfl | (rw [e] at h; cases h)
theorem way_alike {t c : Int} {kn kn' : Kn} {z : Kd} (h : Alike kn kn' (callOf1 (inK z))) : wayL1 t c kn z = wayL1 t c kn' z := by
  cases z with
  | way w n k => show sumsL _ _ _ = sumsL _ _ _; rw [lensK_alike (k := k) h]
  | door w n k => exact body_alike h
  | _ => rfl
theorem rowL_alike {t c : Int} {kn kn' : Kn} {z : Kd} {f : List Int} (h : Alike kn kn' (callOf1 (inK z))) : rowL1 t c kn f z = rowL1 t c kn' f z := by
  cases z with
  | part n k => show sumsL _ _ _ = sumsL _ _ _; rw [lensK_alike (k := k) h]
  | room w n k => show sumsL _ _ (0 :: _) = sumsL _ _ (0 :: _); rw [body_alike (k := k) h]
  | _ => rfl
theorem named_alike {t c : Int} {kn kn' : Kn} {k : Kd} (h : Alike kn kn' (callsK k)) : namedL t c kn k = namedL t c kn' k := by
  cases k with
  | row ks =>
    have key : ∀ (l : List Kd) (f : List Int), (∀ z ∈ l, z ∈ ks) → l.foldl (rowL1 t c kn) f = l.foldl (rowL1 t c kn') f := by
      intro l
      induction l with
      | nil => exact fun _ _ => rfl
      | cons z l ih =>
        intro f hl
        rw [List.foldl_cons, List.foldl_cons, rowL_alike fun n hn => h n (inner_mem (hl z (List.mem_cons_self ..)) hn)]
        exact ih _ fun a ha => hl a (List.mem_cons_of_mem _ ha)
    exact key ks [0] fun _ h => h
  | choice ks =>
    have key : ∀ (l : List Kd), (∀ z ∈ l, z ∈ ks) → l.flatMap (wayL1 t c kn) = l.flatMap (wayL1 t c kn') := by
      intro l
      induction l with
      | nil => exact fun _ => rfl
      | cons z l ih =>
        intro hl
        rw [List.flatMap_cons, List.flatMap_cons, way_alike fun n hn => h n (inner_mem (hl z (List.mem_cons_self ..)) hn), ih fun a ha => hl a (List.mem_cons_of_mem _ ha)]
    show sortU _ = sortU _
    rw [key ks fun _ h => h]
  | call x => exact lensK_alike (t := t) fun n hn => h n (List.mem_flatMap.mpr ⟨_, List.mem_singleton.mpr rfl, callOf1_mem hn⟩)
  | _ => rfl
theorem kn_app {n : Str} {l : List Int} {kn' : Kn} : ∀ {kn : Kn}, kn.lookup n = some l → (kn ++ kn').lookup n = some l
  | x :: kn, h => by
    obtain ⟨m, l'⟩ := x
    rw [List.lookup_cons] at h
    rw [List.cons_append, List.lookup_cons]
    cases e : n == m with
    | true => rw [e] at h; exact h
    | false => rw [e] at h; exact kn_app h
theorem kn_appN {n : Str} {kn' : Kn} : ∀ {kn : Kn}, kn.lookup n = none → (kn ++ kn').lookup n = kn'.lookup n
  | [], _ => rfl
  | x :: kn, h => by
    obtain ⟨m, l'⟩ := x
    rw [List.lookup_cons] at h
    rw [List.cons_append, List.lookup_cons]
    cases e : n == m with
    | true => rw [e] at h; cases h
    | false => rw [e] at h; exact kn_appN h
/-- what is known early stays -/
theorem knL_ext {tb : Tb} {c : Int} (ds es : List Str) : ∃ kn', knL tb c (ds ++ es) = knL tb c ds ++ kn' := by
  induction es using snoc_ind with
  | h0 => exact ⟨[], by simp⟩
  | h l a ih =>
    obtain ⟨kn', e⟩ := ih
    rw [← List.append_assoc, knL_snoc, e]
    exact ⟨kn' ++ [(a, namedL (tp c) c (knL tb c ds ++ kn') ((tb.lookup a).getD .none))], by rw [List.append_assoc]⟩
theorem fix_of {tb : Tb} {c : Int} {rk : Str → Nat} {ds : List Str} (rd : Ranked tb rk) (perm : ds.Perm tb.names) (topo : Topo tb ds) : FixL tb c (knL tb c ds) := by
  intro n k hk
  have hn : n ∈ ds := perm.mem_iff.mpr (List.mem_map.mpr ⟨_, look_mem hk, rfl⟩)
  have nd : ds.Nodup := perm.nodup_iff.mpr rd.nd
  obtain ⟨i, hi, rfl⟩ := List.mem_iff_getElem.mp hn
  have e1 : ds[i]? = some ds[i] := by simp [hi]
  have sp : ds = (ds.take i ++ [ds[i]]) ++ ds.drop (i + 1) := by rw [← take_snoc e1, List.take_append_drop]
  have tk : ds.take i ++ [ds[i]] = ds.take (i + 1) := (take_snoc e1).symm
  obtain ⟨kn2, h2⟩ := knL_ext (tb := tb) (c := c) (ds.take i ++ [ds[i]]) (ds.drop (i + 1))
  rw [← sp, knL_snoc, hk] at h2
  have al : Alike (knL tb c (ds.take i)) (knL tb c ds) (callsK k) := by
    intro m hm
    obtain ⟨l, hl⟩ := knL_has (tb := tb) (c := c) _ (topo i _ e1 k hk m hm)
    rw [hl, h2, List.append_assoc, kn_app hl]
  rw [← named_alike al, h2, List.append_assoc, kn_appN (knL_none (nodup_take nd e1))]
  show (((ds[i], _) :: [] ++ kn2 : Kn)).lookup ds[i] = _
  rw [List.cons_append, List.lookup_cons]
  simp
theorem inV_intE {y : Int} : ∀ ws : List Int, inV (.int y) (ws.map V.int) = decide (y ∈ ws)
  | [] => rfl
  | w :: ws => by
    have ih := inV_intE (y := y) ws
    show (eqV (.int w) (.int y) || inV (.int y) (ws.map V.int)) = _
    rw [ih]
    show (decide (w = y) || decide (y ∈ ws)) = _
    by_cases e : w = y
    · subst e; simp
    · rw [decide_eq_false e, Bool.false_or]
      exact decide_eq_decide.mpr ⟨fun h => List.mem_cons_of_mem _ h, fun h => (List.mem_cons.mp h).elim (fun z => absurd z.symm e) id⟩
theorem flat_intsE : ∀ ws : List Int, (ws.map V.int).all flatV = true
  | [] => rfl
  | _ :: ws => flat_intsE ws
theorem knows_fix {tb : Tb} {rk : Str → Nat} {c : Int} {kn : Kn} {n : Str} {k : Kd} (rd : Ranked tb rk) (fx : FixL tb c kn) (h : tb.lookup n = some k) : ∀ z ∈ innersK k, Knows kn z := knows_of fun m hm => by
  obtain ⟨k2, h2⟩ := look_has (rd.lo n k h m hm).1
  exact ⟨_, fx m k2 h2⟩
theorem in_mem {k : Kd} {ks : List Kd} {z : Kd} (h : k = .choice ks ∨ k = .row ks) (m : z ∈ ks) (n : notNon (inK z) = true) : inK z ∈ innersK k := by
  rcases h with rfl | rfl <;> exact List.mem_filter.mpr ⟨List.mem_map_of_mem m, n⟩
theorem in_si {A : Ad} {H : Hp} {v : V} {z : Kd} {w m : Str} (h : KAt A H v z) (f : z.fit) (e : z = .door w m (inK z) ∨ z = .room w m (inK z)) (n : inK z ≠ .none) : (inK z).fit ∧ isSi (inK z) = true := by
  cases h with
  | door ob kk oo =>
    rw [Kd.fit] at f
    exact ⟨f.2.2, (si_door oo f.2.2).resolve_left n⟩
  | room ob kk oo =>
    rw [Kd.fit] at f
    exact ⟨f.2.2, (si_room oo f.2.2).resolve_left n⟩
  | _ => rcases e with e | e <;> cases e

/-! ================= the machine, newly made ================= -/
/-- the fields that Plan.__init__ stores -/
abbrev planFs (nm cn ow mo fo pl no nu : V) : List (Str × V) := putF "numbers" nu (putF "nodes" no (putF "places" pl (putF "forms" fo (putF "most" mo (putF "own" ow (putF "count" cn (putF "named" nm [])))))))
/-- what those fields hold at first -/
structure PlanNew (H : Hp) (fo pl no nu : Addr) : Prop where
  fo : H fo = some (.lst [])
  pl : H pl = some (.dK [])
  no : ∃ t, H no = some (.lst [.ref t]) ∧ H t = some (.tup [.str "whole"])
  nu : H nu = some (.dT [([.inr "whole"], .int 0)])
theorem PlanNew.same {H H' : Hp} {fo pl no nu : Addr} (e : Same H H') (h : PlanNew H fo pl no nu) : PlanNew H' fo pl no nu := ⟨e _ _ h.fo, e _ _ h.pl, by obtain ⟨t, a, b⟩ := h.no; exact ⟨t, e _ _ a, e _ _ b⟩, e _ _ h.nu⟩
abbrev sp_Plan___init__ (_ : PySem.W.Frag) (A : Ad) : Sp := Sp4 fun s v a b H Q _ => ∃ (H0 : Hp) (x p : Addr) (c : Int) (own : Bool), s = .ref x ∧ Fresh A.c_Machine x H0 H ∧ v = .ref p ∧ a = .int c ∧ b = .bl own ∧ 0 ≤ c ∧ c ≤ 5 ∧
  ∀ dx (fo pl no nu : Addr) H', H' x = some (.ins A.c_Machine dx (planFs (.ref p) (.int c) (.bl own) (.int (2 ^ c.toNat - 1)) (.ref fo) (.ref pl) (.ref no) (.ref nu))) → PlanNew H' fo pl no nu → Same H0 H' → Q .non H'
/-- a new object o at a, then the field f of x holds v -/
theorem put_obj {H0 H : Hp} {x C dx a : Addr} {fs : List (Str × V)} {f : Str} {v : V} {o : HO} (no : H0 x = none) (e : Same H0 H) (hx : H x = some (.ins C dx fs)) (ha : H a = none) :
    (upd (upd H a o) x (.ins C dx (putF f v fs))) x = some (.ins C dx (putF f v fs)) ∧ Same H0 (upd (upd H a o) x (.ins C dx (putF f v fs))) ∧ (upd (upd H a o) x (.ins C dx (putF f v fs))) a = some o ∧ ∀ b u, b ≠ x → H b = some u → (upd (upd H a o) x (.ins C dx (putF f v fs))) b = some u := by
  have na : a ≠ x := fun z => by rw [z, hx] at ha; cases ha
  refine ⟨upd_same, same_put no (e.trans (same_new ha)), by rw [upd_ne na, upd_same], fun b u nb hb => ?_⟩
  rw [upd_ne nb, upd_ne (ne_of_none hb ha)]
  exact hb
theorem PlanNew.keepX {H H' : Hp} {x C dx fo pl no nu : Addr} {fs : List (Str × V)} (h : PlanNew H fo pl no nu) (hx : H x = some (.ins C dx fs)) (k : ∀ b u, b ≠ x → H b = some u → H' b = some u) : PlanNew H' fo pl no nu := by
  obtain ⟨h1, h2, ⟨t, h3, h4⟩, h5⟩ := h
  exact ⟨k _ _ (fun z => by rw [z, hx] at h1; cases h1) h1, k _ _ (fun z => by rw [z, hx] at h2; cases h2) h2, ⟨t, k _ _ (fun z => by rw [z, hx] at h3; cases h3) h3, k _ _ (fun z => by rw [z, hx] at h4; cases h4) h4⟩, k _ _ (fun z => by rw [z, hx] at h5; cases h5) h5⟩
abbrev countFs (nm cn ow mo fo pl no nu ct ro re la : V) : List (Str × V) := putF "lacks" la (putF "repeated" re (putF "rows" ro (putF "counted" ct (planFs nm cn ow mo fo pl no nu))))
structure CountNew (H : Hp) (ct ro re la : Addr) : Prop where
  ct : H ct = some (.dT [])
  ro : H ro = some (.dT [])
  re : H re = some (.dT [])
  la : H la = some (.dK [])
theorem CountNew.keepX {H H' : Hp} {x C dx ct ro re la : Addr} {fs : List (Str × V)} (h : CountNew H ct ro re la) (hx : H x = some (.ins C dx fs)) (k : ∀ b u, b ≠ x → H b = some u → H' b = some u) : CountNew H' ct ro re la := by
  obtain ⟨h1, h2, h3, h4⟩ := h
  exact ⟨k _ _ (fun z => by rw [z, hx] at h1; cases h1) h1, k _ _ (fun z => by rw [z, hx] at h2; cases h2) h2, k _ _ (fun z => by rw [z, hx] at h3; cases h3) h3, k _ _ (fun z => by rw [z, hx] at h4; cases h4) h4⟩
theorem CountNew.same {H H' : Hp} {ct ro re la : Addr} (e : Same H H') (h : CountNew H ct ro re la) : CountNew H' ct ro re la := ⟨e _ _ h.ct, e _ _ h.ro, e _ _ h.re, e _ _ h.la⟩
abbrev sp_Counter___init__ (_ : PySem.W.Frag) (A : Ad) : Sp := Sp4 fun s v a b H Q _ => ∃ (H0 : Hp) (x p : Addr) (c : Int) (own : Bool), s = .ref x ∧ Fresh A.c_Machine x H0 H ∧ v = .ref p ∧ a = .int c ∧ b = .bl own ∧ 0 ≤ c ∧ c ≤ 5 ∧
  ∀ dx (fo pl no nu ct ro re la : Addr) H', H' x = some (.ins A.c_Machine dx (countFs (.ref p) (.int c) (.bl own) (.int (2 ^ c.toNat - 1)) (.ref fo) (.ref pl) (.ref no) (.ref nu) (.ref ct) (.ref ro) (.ref re) (.ref la))) → PlanNew H' fo pl no nu → CountNew H' ct ro re la → Same H0 H' → Q .non H'
abbrev machFs (nm cn ow mo fo pl no nu ct ro re la go mv tu st : V) : List (Str × V) := putF "states" st (putF "tuples" tu (putF "moved" mv (putF "gone" go (countFs nm cn ow mo fo pl no nu ct ro re la))))
structure MachNew (H : Hp) (go mv tu st : Addr) : Prop where
  go : H go = some (.dT [])
  mv : H mv = some (.dT [])
  tu : ∃ t, H tu = some (.lst [.ref t]) ∧ H t = some (.tup [.int 0])
  st : H st = some (.dT [([.inl 0], .int 0)])
abbrev sp_Machine___init__ (_ : PySem.W.Frag) (A : Ad) : Sp := Sp4 fun s v a b H Q _ => ∃ (H0 : Hp) (x p : Addr) (c : Int) (own : Bool), s = .ref x ∧ Fresh A.c_Machine x H0 H ∧ v = .ref p ∧ a = .int c ∧ b = .bl own ∧ 0 ≤ c ∧ c ≤ 5 ∧
  ∀ dx (fo pl no nu ct ro re la go mv tu st : Addr) H', H' x = some (.ins A.c_Machine dx (machFs (.ref p) (.int c) (.bl own) (.int (2 ^ c.toNat - 1)) (.ref fo) (.ref pl) (.ref no) (.ref nu) (.ref ct) (.ref ro) (.ref re) (.ref la) (.ref go) (.ref mv) (.ref tu) (.ref st))) → PlanNew H' fo pl no nu → CountNew H' ct ro re la → MachNew H' go mv tu st → Same H0 H' → Q .non H'

/-! ================= editions without rooms ================= -/
def isRoom : Kd → Bool
  | .room _ _ _ => true
  | _ => false
def NoRoom (tb : Tb) : Prop := ∀ z ∈ tb, ∀ ks, z.2 = .row ks → ∀ k ∈ ks, isRoom k = false
abbrev sp_is_taken (_ : PySem.W.Frag) (_ : Ad) : Sp := fun _ _ _ _ => False
abbrev sp_last_taken (_ : PySem.W.Frag) (A : Ad) : Sp := Sp2 fun v a H Q _ => ∃ (m p dm : Addr) (fs : List (Str × V)) (tb : Tb) (kvs : List (Key × V)) (n : Str), v = .ref m ∧ a = .str n ∧ H m = some (.ins A.c_Machine dm fs) ∧ fs.lookup ("named" : Str) = some (.ref p) ∧ TbAt A H p tb kvs ∧ TbTop tb ∧ n ∈ tb.names ∧ NoRoom tb ∧
  ∀ H', Same H H' → Q .non H'
abbrev sp_check_rooms (_ : PySem.W.Frag) (A : Ad) : Sp := Sp1 fun v H Q _ => ∃ (m p dm : Addr) (fs : List (Str × V)) (tb : Tb) (kvs : List (Key × V)) (rk : Str → Nat), v = .ref m ∧ H m = some (.ins A.c_Machine dm fs) ∧ fs.lookup ("named" : Str) = some (.ref p) ∧ TbAt A H p tb kvs ∧ H p = some (.dK kvs) ∧ TbTop tb ∧ tb.length ≤ 20 ∧ Ranked tb rk ∧ NoRoom tb ∧
  ∀ H', Same H H' → Q .non H'
def okN (n : Str) : Prop := okName (.str n) = true ∧ n.length ≤ 8
abbrev sp_are_kinds (_ : PySem.W.Frag) (A : Ad) : Sp := Sp1 fun v H Q _ => ∃ (p : Addr) (tb : Tb) (kvs : List (Key × V)), v = .ref p ∧ TbAt A H p tb kvs ∧ H p = some (.dK kvs) ∧ TbTop tb ∧ tb.names.Nodup ∧ (∀ n ∈ tb.names, okN n) ∧ 1 ≤ tb.length ∧ tb.length ≤ 20 ∧
  ∀ H', Same H H' → Q (.bl true) H'
abbrev sp_check_parts (_ : PySem.W.Frag) (A : Ad) : Sp := Sp3 fun v a b H Q _ => ∃ (p : Addr) (tb : Tb) (kvs : List (Key × V)) (r : Str) (c : Int), v = .ref p ∧ a = .str r ∧ b = .int c ∧ TbAt A H p tb kvs ∧ H p = some (.dK kvs) ∧ TbTop tb ∧ tb.names.Nodup ∧ (∀ n ∈ tb.names, okN n) ∧ 1 ≤ tb.length ∧ tb.length ≤ 20 ∧ r ∈ tb.names ∧ okN r ∧ 1 ≤ c ∧ c ≤ 5 ∧
  ∀ H', Same H H' → Q .non H'
theorem Frz.new {H H1 : Hp} {p q : Addr} {od : Obj} {u o : HO} (f : Frz H H1 p od u) (n : H1 q = none) : Frz H (upd H1 q o) p od u := by
  have nq : q ≠ p := fun z => by rw [z, f.at_] at n; cases n
  refine f.put ?_ nq
  cases z : H q with
  | none => rfl
  | some v => rw [f.kp _ _ nq z] at n; cases n
theorem top_any {k : Kd} (h : k.top = true) : ([Kc.num, .bits, .items, .call, .choice, .row].any fun c => decide ((Td.k k).cls = some c)) = true := by
  cases k <;> first | rfl | cases h
theorem any_no {α : Type} : ∀ (l : List α), (((l.filter fun _ => true).map fun _ => false).any id) = false
  | [] => rfl
  | a :: l => by
    have := any_no l
    simpa using this
theorem not_room {k : Kd} (h : isRoom k = false) : decide ((Td.k k).cls = some Kc.room) = false := by
  cases k <;> first | rfl | cases h
/-- a table that makes an edition: no rooms, no body that may be too long -/
structure EdOk (tb : Tb) (r : Str) (c : Int) (rk : Str → Nat) : Prop where
  top : TbTop tb
  nms : ∀ n ∈ tb.names, okN n
  l1 : 1 ≤ tb.length
  l20 : tb.length ≤ 20
  hr : r ∈ tb.names
  hrn : okN r
  c1 : 1 ≤ c
  c5 : c ≤ 5
  fits : ∀ z ∈ tb, z.2.fit
  rd : Ranked tb rk
  nor : NoRoom tb
  nol : NoLong tb c
theorem EdOk.noring {tb : Tb} {r : Str} {c : Int} {rk : Str → Nat} (h : EdOk tb r c rk) : ∀ n ∈ tb.names, ¬ Reach tb n n := fun n _ q => Nat.lt_irrefl _ (h.rd.reach q)
abbrev edFs (tb r c m om : V) : List (Str × V) := putF "own_machine" om (putF "machine" m (putF "count" c (putF "root" r (putF "table" tb []))))
/-- a machine that has done nothing yet -/
def MachAt (A : Ad) (H : Hp) (m p : Addr) (c : Int) (own : Bool) : Prop := ∃ (dx fo pl no nu ct ro re la go mv tu st : Addr), H m = some (.ins A.c_Machine dx (machFs (.ref p) (.int c) (.bl own) (.int (2 ^ c.toNat - 1)) (.ref fo) (.ref pl) (.ref no) (.ref nu) (.ref ct) (.ref ro) (.ref re) (.ref la) (.ref go) (.ref mv) (.ref tu) (.ref st))) ∧ PlanNew H fo pl no nu ∧ CountNew H ct ro re la ∧ MachNew H go mv tu st
theorem MachNew.same {H H' : Hp} {go mv tu st : Addr} (e : Same H H') (h : MachNew H go mv tu st) : MachNew H' go mv tu st := ⟨e _ _ h.go, e _ _ h.mv, by obtain ⟨t, a, b⟩ := h.tu; exact ⟨t, e _ _ a, e _ _ b⟩, e _ _ h.st⟩
theorem MachAt.same {A : Ad} {H H' : Hp} {m p : Addr} {c : Int} {own : Bool} (e : Same H H') (h : MachAt A H m p c own) : MachAt A H' m p c own := by
  obtain ⟨dx, fo, pl, no, nu, ct, ro, re, la, go, mv, tu, st, h1, h2, h3, h4⟩ := h
  exact ⟨dx, fo, pl, no, nu, ct, ro, re, la, go, mv, tu, st, e _ _ h1, h2.same e, h3.same e, h4.same e⟩
/-- the edition at x -/
structure EdAt (A : Ad) (H : Hp) (x : Addr) (tb : Tb) (r : Str) (c : Int) : Prop where
  at_ : ∃ dx p kvs m om, H x = some (.ins A.c_Edition dx (edFs (.ref p) (.str r) (.int c) (.ref m) (.ref om))) ∧ TbAt A H p tb kvs ∧ H p = some (.dK kvs) ∧ MachAt A H m p c false ∧ MachAt A H om p c true
  top : TbTop tb
  nd : tb.names.Nodup
theorem EdAt.same {A : Ad} {H H' : Hp} {x : Addr} {tb : Tb} {r : Str} {c : Int} (e : Same H H') (h : EdAt A H x tb r c) : EdAt A H' x tb r c := by
  obtain ⟨dx, p, kvs, m, om, h1, h2, h3, h4, h5⟩ := h.at_
  exact ⟨⟨dx, p, kvs, m, om, e _ _ h1, h2.same e, e _ _ h3, h4.same e, h5.same e⟩, h.top, h.nd⟩
abbrev sp_Edition___init__ (_ : PySem.W.Frag) (A : Ad) : Sp := Sp4 fun s v a b H Q _ => ∃ (H0 : Hp) (x p : Addr) (tb : Tb) (kvs : List (Key × V)) (rk : Str → Nat) (r : Str) (c : Int), s = .ref x ∧ Fresh A.c_Edition x H0 H ∧ v = .ref p ∧ a = .str r ∧ b = .int c ∧ TbAt A H0 p tb kvs ∧ H0 p = some (.dK kvs) ∧ EdOk tb r c rk ∧
  ∀ H', EdAt A H' x tb r c → Same H0 H' → Q .non H'
/-- edition.table.get(name) is a choice -/
def chOf (tb : Tb) (v : V) : Option (List Kd) := if okName v = false then none else match tb.lookup (strOf v) with
  | some (.choice ks) => some ks
  | _ => none
abbrev sp_choice_of (K : PySem.W.Frag) (A : Ad) : Sp := Sp2 fun v a H Q E => ∃ (x : Addr) (tb : Tb) (r : Str) (c : Int) (t : Value), v = .ref x ∧ EdAt A H x tb r c ∧ VT K H a t ∧ Short a ∧ match chOf tb a with
  | some ks => ∀ w, KAt A H w (.choice ks) → Q w H
  | none => ∀ H', Same H H' → E (.ref A.c_NoKind) none H'
def wordK : Kd → Str
  | .way w _ _ => w
  | .door w _ _ => w
  | _ => Str.empty
/-- the words one behind another: each a word that clashes with none ahead of it -/
def fitsGo (told : List Str) : List V → Bool
  | [] => true
  | x :: xs => if okWord x = false ∨ (told.any fun o => pre2 (strOf x) o) = true then false else fitsGo (told ++ [strOf x]) xs
def fitsV (told : List Str) : Option (List V) → Bool
  | some xs => decide (1 ≤ xs.length) && (decide (xs.length ≤ 6) && fitsGo told xs)
  | none => false
/-- a list of things, or another thing -/
inductive Things (K : PySem.W.Frag) (H : Hp) : V → Option (List V) → Prop where
  | lst {a : Addr} {vs : List V} (e : H a = some (.lst vs)) (h : ∀ x ∈ vs, Short x ∧ ∃ t, VT K H x t) (n : vs.length ≤ 1000) : Things K H (.ref a) (some vs)
  | no {v : V} {t : Value} (h : VT K H v t) (n : t ≠ .type "list") : Things K H v none
abbrev sp_fits (K : PySem.W.Frag) (A : Ad) : Sp := Sp3 fun v a b H Q E => ∃ (x : Addr) (tb : Tb) (r : Str) (c : Int) (t : Value) (o : Option (List V)), v = .ref x ∧ EdAt A H x tb r c ∧ VT K H a t ∧ Short a ∧ Things K H b o ∧ match chOf tb a with
  | none => ∀ H', Same H H' → E (.ref A.c_NoKind) none H'
  | some ks => ∀ H', Same H H' → Q (.bl (fitsV (ks.map wordK) o)) H'
theorem okName_str {v : V} (h : okName v = true) : ∃ n, v = .str n := by
  cases v <;> first | exact ⟨_, rfl⟩ | cases h
theorem okWord_str {v : V} (h : okWord v = true) : ∃ n, v = .str n := by
  cases v <;> first | exact ⟨_, rfl⟩ | cases h
theorem ed_table {tb r c m om : V} : (edFs tb r c m om).lookup ("table" : Str) = some tb := by
  have n1 : ¬ ("table" : Str) = "own_machine" := by decide +kernel
  have n2 : ¬ ("table" : Str) = "machine" := by decide +kernel
  have n3 : ¬ ("table" : Str) = "count" := by decide +kernel
  have n4 : ¬ ("table" : Str) = "root" := by decide +kernel
  rw [lookup_putF, if_neg n1, lookup_putF, if_neg n2, lookup_putF, if_neg n3, lookup_putF, if_neg n4, lookup_putF, if_pos rfl]
theorem dc_it {J : It} {n : Nat} {G : Hp → Prop} {Y : Nat → Hp → V → Hp → Prop} (w : Walk J n G Y) {g : TG} {tt : TT} {tk tv : TE} {vs : List Nat} {σ : L2.St} {H1 : Hp} {D : Addr} {Qd : Hp → Prop} (Pv : Nat → Hp → Prop) (h0 : Pv 0 (upd H1 D (.dK []))) (hG : ∀ i H, i ≤ n → Pv i H → G H)
    (hs : ∀ i x H H', i < n → Pv i H → Y i H x H' → g x (wipe σ vs) H' fun σ2 H2 => wipe σ2 vs = wipe σ vs ∧ tt σ2 H2 fun b H3 =>
      if b = true then tk σ2 H3 fun y H4 => tv σ2 H4 fun z H5 => ∃ kvs k, y = kV k ∧ H5 D = some (.dK kvs) ∧ kvs.length < sizeLine ∧ Pv (i + 1) (upd H5 D (.dK (putK kvs k z))) else Pv (i + 1) H3) (hd : ∀ H, Pv n H → Qd H) :
    ∃ W : Nat → Nat → Hp → Prop, (∃ m, W 0 m (upd H1 D (.dK []))) ∧ ∀ i m H, W i m H →
      (J.stop i H ∧ Qd H) ∨ (J.go i H ∧ ∃ Nx : Hp → Prop, (∀ H', Nx H' → ∃ m', m' < m ∧ W (i + 1) m' H') ∧ ∀ x H', J.yld i H x H' → g x (wipe σ vs) H' fun σ2 H2 => wipe σ2 vs = wipe σ vs ∧ tt σ2 H2 fun b H3 =>
        if b = true then tk σ2 H3 fun y H4 => tv σ2 H4 fun z H5 => ∃ kvs k, y = kV k ∧ H5 D = some (.dK kvs) ∧ kvs.length < sizeLine ∧ Nx (upd H5 D (.dK (putK kvs k z))) else Nx H3) := by
  refine ⟨fun i m H => m = n - i ∧ i ≤ n ∧ Pv i H, ⟨n, by simp, Nat.zero_le _, h0⟩, ?_⟩
  rintro i m H ⟨rfl, hi, p⟩
  have q := hG i H hi p
  by_cases hlt : i < n
  · refine .inr ⟨w.goes i H hlt q, Pv (i + 1), fun H' p' => ⟨n - (i + 1), by omega, rfl, hlt, p'⟩, fun x H' y => hs i x H H' hlt p (w.yields i H x H' hlt q y)⟩
  · have e : i = n := by omega
    subst e
    exact .inl ⟨w.stops H q, hd H p⟩
theorem KAt.keepD {A : Ad} {H : Hp} {D : Addr} {kvs : List (Key × V)} {o : HO} {v : V} {k : Kd} (h : H D = some (.dK kvs)) (hk : KAt A H v k) : KAt A (upd H D o) v k :=
  hk.keepIT (fun b C dx fs e => by rw [upd_ne (fun z => by rw [z, h] at e; cases e)]; exact e) (fun b xs e => by rw [upd_ne (fun z => by rw [z, h] at e; cases e)]; exact e)
theorem KAt.keepF {A : Ad} {H : Hp} {D : Addr} {od : Obj} {kvs : List (Key × V)} {o : HO} {v : V} {k : Kd} (h : H D = some (.frz od (.dK kvs))) (hk : KAt A H v k) : KAt A (upd H D o) v k :=
  hk.keepIT (fun b C dx fs e => by rw [upd_ne (fun z => by rw [z, h] at e; cases e)]; exact e) (fun b xs e => by rw [upd_ne (fun z => by rw [z, h] at e; cases e)]; exact e)
theorem take_fresh {tb : Tb} {i : Nat} {y : Str × Kd} {o : Kd} (nd : tb.names.Nodup) (h : tb[i]? = some y) : ¬ (tb.take i).lookup y.1 = some o := fun e => by
  have m : (y.1, o) ∈ tb.take i := PySem.mem_of_lookup e
  have m2 : y.1 ∈ (tb.names).take i := by
    rw [show tb.names.take i = (tb.take i).map (·.1) from List.map_take.symm]
    exact List.mem_map.mpr ⟨_, m, rfl⟩
  refine nodup_take nd (i := i) (n := y.1) ?_ m2
  show (tb.map (·.1))[i]? = some y.1
  rw [List.getElem?_map, h]
  rfl
theorem mach_named {nm cn ow mo fo pl no nu ct ro re la go mv tu st : V} : (machFs nm cn ow mo fo pl no nu ct ro re la go mv tu st).lookup ("named" : Str) = some nm := by
  have n1 : ¬ ("named" : Str) = "states" := by decide +kernel
  have n2 : ¬ ("named" : Str) = "tuples" := by decide +kernel
  have n3 : ¬ ("named" : Str) = "moved" := by decide +kernel
  have n4 : ¬ ("named" : Str) = "gone" := by decide +kernel
  have n5 : ¬ ("named" : Str) = "lacks" := by decide +kernel
  have n6 : ¬ ("named" : Str) = "repeated" := by decide +kernel
  have n7 : ¬ ("named" : Str) = "rows" := by decide +kernel
  have n8 : ¬ ("named" : Str) = "counted" := by decide +kernel
  have n9 : ¬ ("named" : Str) = "numbers" := by decide +kernel
  have n10 : ¬ ("named" : Str) = "nodes" := by decide +kernel
  have n11 : ¬ ("named" : Str) = "places" := by decide +kernel
  have n12 : ¬ ("named" : Str) = "forms" := by decide +kernel
  have n13 : ¬ ("named" : Str) = "most" := by decide +kernel
  have n14 : ¬ ("named" : Str) = "own" := by decide +kernel
  have n15 : ¬ ("named" : Str) = "count" := by decide +kernel
  rw [lookup_putF, if_neg n1, lookup_putF, if_neg n2, lookup_putF, if_neg n3, lookup_putF, if_neg n4, lookup_putF, if_neg n5, lookup_putF, if_neg n6, lookup_putF, if_neg n7, lookup_putF, if_neg n8, lookup_putF, if_neg n9, lookup_putF, if_neg n10, lookup_putF, if_neg n11, lookup_putF, if_neg n12, lookup_putF, if_neg n13, lookup_putF, if_neg n14, lookup_putF, if_neg n15, lookup_putF, if_pos rfl]
theorem TbAt.getR {A : Ad} {H : Hp} {p : Addr} {tb : Tb} {kvs : List (Key × V)} {n : Str} (h : TbAt A H p tb kvs) (hn : n ∈ tb.names) : ∃ k v, tb.lookup n = some k ∧ KAt A H v k ∧ valV kvs (.inr n : Key) = some v := by
  rcases ents_val (n := n) h.en with ⟨k, v, h1, h2, h3⟩ | ⟨q, _⟩
  · exact ⟨k, v, h1, h3, h2⟩
  · exact absurd hn q
theorem MachNew.keepX {H H' : Hp} {x C dx go mv tu st : Addr} {fs : List (Str × V)} (h : MachNew H go mv tu st) (hx : H x = some (.ins C dx fs)) (k : ∀ b u, b ≠ x → H b = some u → H' b = some u) : MachNew H' go mv tu st := by
  obtain ⟨h1, h2, ⟨t, h3, h4⟩, h5⟩ := h
  exact ⟨k _ _ (fun z => by rw [z, hx] at h1; cases h1) h1, k _ _ (fun z => by rw [z, hx] at h2; cases h2) h2, ⟨t, k _ _ (fun z => by rw [z, hx] at h3; cases h3) h3, k _ _ (fun z => by rw [z, hx] at h4; cases h4) h4⟩, k _ _ (fun z => by rw [z, hx] at h5; cases h5) h5⟩
theorem MachAt.keepX {A : Ad} {H H' : Hp} {m p x C dx : Addr} {c : Int} {own : Bool} {fs : List (Str × V)} (h : MachAt A H m p c own) (nm : m ≠ x) (hx : H x = some (.ins C dx fs)) (k : ∀ b u, b ≠ x → H b = some u → H' b = some u) : MachAt A H' m p c own := by
  obtain ⟨dm, fo, pl, no, nu, ct, ro, re, la, go, mv, tu, st, h1, h2, h3, h4⟩ := h
  exact ⟨dm, fo, pl, no, nu, ct, ro, re, la, go, mv, tu, st, k _ _ nm h1, h2.keepX hx k, h3.keepX hx k, h4.keepX hx k⟩
/-- the word of a way or a door, read -/
theorem wd_word {K : PySem.W.Frag} {mg : Str → Option Value} {A : Ad} (T : Txt K mg A) {H : Hp} {v : V} {k : Kd} (h : KAt A H v k) (w : (Td.k k).wd = true) : ∃ x C dx fs, v = .ref x ∧ H x = some (.ins C dx fs) ∧ Cls K C ∧ NoAttr K C "word" ∧ fs.lookup ("word" : Str) = some (.str (wordK k)) := by
  cases h with
  | way h k o => obtain ⟨dx, fs, h1, h2⟩ := h; exact ⟨_, _, dx, fs, rfl, h1, T.cl_Way, T.n_Way_word, h2 _ (List.mem_cons_self ..)⟩
  | door h k o => obtain ⟨dx, fs, h1, h2⟩ := h; exact ⟨_, _, dx, fs, rfl, h1, T.cl_Door, T.n_Door_word, h2 _ (List.mem_cons_self ..)⟩
  | _ => cases w
theorem fits_no {told : List Str} {xs : List V} (h : fitsGo told xs = false) : fitsV told (some xs) = false := by
  show (decide (1 ≤ xs.length) && (decide (xs.length ≤ 6) && fitsGo told xs)) = false
  rw [h, Bool.and_false, Bool.and_false]
theorem any_begins {y : Str} (l : List Str) : (((l.filter fun _ => true).map fun o => pre2 y o).any id) = l.any fun o => pre2 y o := by
  rw [List.filter_eq_self.mpr fun _ _ => rfl, List.any_map]
  rfl
theorem ch_look {tb : Tb} {v : V} {ks : List Kd} (h : chOf tb v = some ks) : tb.lookup (strOf v) = some (.choice ks) := by
  unfold chOf at h
  split at h
  · cases h
  · split at h
    · rename_i e
      rw [e, Option.some.inj h]
    · cases h
theorem ch_len {tb : Tb} {v : V} {ks : List Kd} (h : chOf tb v = some ks) (top : TbTop tb) : ks.length ≤ 12 := of_decide_eq_true (top.look (ch_look h))
theorem fitsGo_bad {told : List Str} {x : V} {xs : List V} (h : okWord x = false) : fitsGo told (x :: xs) = false := by
  rw [fitsGo, if_pos (.inl h)]
theorem fitsGo_clash {told : List Str} {x : V} {xs : List V} (h : (told.any fun o => pre2 (strOf x) o) = true) : fitsGo told (x :: xs) = false := by
  rw [fitsGo, if_pos (.inr h)]
theorem fitsGo_go {told : List Str} {x : V} {xs : List V} (h1 : okWord x = true) (h2 : (told.any fun o => pre2 (strOf x) o) = false) : fitsGo told (x :: xs) = fitsGo (told ++ [strOf x]) xs := by
  rw [fitsGo, if_neg]
  rintro (z | z)
  · rw [h1] at z; cases z
  · rw [h2] at z; cases z
theorem drop_at {α : Type} {l : List α} {i : Nat} {x : α} (h : l[i]? = some x) : l.drop i = x :: l.drop (i + 1) := by
  obtain ⟨hi, e⟩ := List.getElem?_eq_some_iff.mp h
  rw [List.drop_eq_getElem_cons hi, e]
theorem inner_ok {f : Str → Str → Kd → Kd} {w n : Str} {t : Td} {b : Bool} (hw : okWord (.str w) = true) (hn : okName (.str n) = true) (hb : b = true) : mkInner f (.str w) (.str n) t b = .ok (f w n t.kd) := by
  have e : chk (.str w) (.str n) b = none := by
    unfold chk
    rw [if_neg (by rw [hw]; decide), if_neg (by rw [hn]; decide), if_neg (by rw [hb]; decide)]
  unfold mkInner
  rw [e]
  rfl
theorem part_ok {n : Str} {t : Td} (hn : okName (.str n) = true) (ht : t.simple = true) : mkPart (.str n) t = .ok (.part n t.kd) := (if_neg (by rw [hn]; decide)).trans (if_neg (by rw [ht]; decide))
theorem name_len {n : Str} (h : okName (.str n) = true) : n.length ≤ 8 := by
  have h2 : (decide (1 ≤ n.length) && (decide (n.length ≤ 8) && n.cps.toList.all fun c => decide (97 ≤ c) && decide (c ≤ 122))) = true := h
  simp only [Bool.and_eq_true, decide_eq_true_eq] at h2
  exact h2.2.1
theorem name_short {n : Str} (h : okName (.str n) = true) : Short (.str n) := by
  have := name_len h
  show n.length ≤ 1000000
  omega
/-- those behind clash with none ahead -/
theorem good_of : ∀ (ts seen : List Td), (∀ t ∈ ts, t.wd = true) → (seen ++ ts).Pairwise (fun o t => pre2 t.word o.word = false ∧ ¬ t.name = o.name) → goodW seen ts = true
  | [], _, _, _ => rfl
  | t :: ts, seen, h, pw => by
    have q := List.pairwise_append.mp pw
    rw [goodW, h t (List.mem_cons_self ..), Bool.true_and]
    have c : clearW seen t = true := List.all_eq_true.mpr fun o ho => by
      obtain ⟨a, b⟩ := q.2.2 o ho t (List.mem_cons_self ..)
      rw [a, decide_eq_false b]
      rfl
    rw [c, Bool.true_and]
    exact good_of ts (seen ++ [t]) (fun x hx => h x (List.mem_cons_of_mem _ hx)) (by rw [List.append_assoc]; exact pw)
theorem fitAll_of : ∀ {ks : List Kd}, (∀ z ∈ ks, z.fit) → Kd.fitAll ks
  | [], _ => by rw [Kd.fitAll]; trivial
  | k :: ks, h => by rw [Kd.fitAll]; exact ⟨h k (List.mem_cons_self ..), fitAll_of fun z hz => h z (List.mem_cons_of_mem _ hz)⟩
theorem kats_snoc {A : Ad} {H : Hp} {v : V} {k : Kd} : ∀ {us : List V} {ks : List Kd}, KAts A H us ks → KAt A H v k → KAts A H (us ++ [v]) (ks ++ [k])
  | _, _, .nil, h => .cons h .nil
  | _, _, .cons a t, h => .cons a (kats_snoc t h)
theorem kats_th {A : Ad} {K : PySem.W.Frag} {H : Hp} : ∀ {us : List V} {ks : List Kd}, KAts A H us ks → Paired (Th A K H) us (ks.map Td.k)
  | _, _, .nil => .nil
  | _, _, .cons a t => .cons a (kats_th t)
theorem kats_len {A : Ad} {H : Hp} {us : List V} {ks : List Kd} (h : KAts A H us ks) : us.length = ks.length := pair_lenE (kats_pair h)
theorem call_ok {x : Str} (h : okName (.str x) = true) : mkCall (.str x) = .ok (.call x) := if_neg (by rw [h]; decide)

/-! ================= words ================= -/
theorem app_all {f : Nat → Bool} {x : Str} {c : Nat} : ((x ++ (⟨#[c]⟩ : Str)).cps.toList.all f) = (x.cps.toList.all f && f c) := by
  rw [PySem.Str.cps_append, Array.toList_append, List.all_append]
  simp
theorem app_len1 {x : Str} {c : Nat} : (x ++ (⟨#[c]⟩ : Str)).length = x.length + 1 := PySem.Str.length_append _ _
theorem php {f : Nat → Str} (inj : ∀ a b, f a = f b → a = b) : ∀ (l : List Nat) (ws : List Str), l.Nodup → (∀ a ∈ l, f a ∈ ws) → l.length ≤ ws.length
  | [], _, _, _ => Nat.zero_le _
  | a :: l, ws, nd, h => by
    have ha := h a (List.mem_cons_self ..)
    have nd2 := List.nodup_cons.mp nd
    have ih := php inj l (ws.erase (f a)) nd2.2 fun b hb => (List.mem_erase_of_ne (fun z => nd2.1 (by rw [← inj b a z]; exact hb))).mpr (h b (List.mem_cons_of_mem _ hb))
    rw [List.length_erase_of_mem ha] at ih
    have : 0 < ws.length := List.length_pos_of_mem ha
    rw [List.length_cons]
    omega
def abcL : List Nat := [97, 98, 99, 100, 101, 102, 103, 104, 105, 106, 107, 108, 109, 110, 111, 112, 113, 114, 115, 116, 117, 118, 119, 120, 121, 122]
theorem abc_nodup : abcL.Nodup := by decide
theorem letter_ok {c : Nat} (h : letter c) : (decide (97 ≤ c) && decide (c ≤ 122)) = true := by rw [decide_eq_true h.1, decide_eq_true h.2]; rfl
theorem bit_ok {c : Nat} (h : bit c) : (decide (c = 48) || decide (c = 49)) = true := by
  rcases h with h | h
  · rw [h]; rfl
  · rw [h]; rfl
theorem mem_erase {α : Type} {x : α} {zs : List α} {j : Nat} (h : x ∈ zs.eraseIdx j) : x ∈ zs := List.mem_of_mem_eraseIdx h
def wordy (w : Str) : Prop := okWord (.str w) = true
theorem wordy_of {w : Str} (h : okBits (.str w) = true) (h1 : 1 ≤ w.length) (h8 : w.length ≤ 8) : wordy w := by
  show (okBits (.str w) && (decide (1 ≤ w.length) && decide (w.length ≤ 8))) = true
  rw [h, decide_eq_true h1, decide_eq_true h8]
  rfl
theorem wordy_bits {w : Str} (h : wordy w) : okBits (.str w) = true ∧ 1 ≤ w.length ∧ w.length ≤ 8 := by
  have h2 : (okBits (.str w) && (decide (1 ≤ w.length) && decide (w.length ≤ 8))) = true := h
  simp only [Bool.and_eq_true, decide_eq_true_eq] at h2
  exact ⟨h2.1, h2.2.1, h2.2.2⟩
theorem bits_app {x : Str} {c : Nat} (h : okBits (.str x) = true) (hc : bit c) : okBits (.str (x ++ (⟨#[c]⟩ : Str))) = true := by
  show ((x ++ (⟨#[c]⟩ : Str)).cps.toList.all _) = true
  rw [app_all, bit_ok hc, Bool.and_true]
  exact h
def Apart (w x : Str) : Prop := pre2 w x = false
theorem sw_iff (x y : Str) : PySem.Txt.startswith x y = true ↔ y.cps.toList <+: x.cps.toList := by
  unfold PySem.Txt.startswith
  rw [PySem.StrLaws.subAt_eq, List.drop_zero, List.prefix_iff_eq_take, Bool.and_eq_true, beq_iff_eq, decide_eq_true_eq]
  constructor
  · rintro ⟨_, h⟩
    rw [← h]
    simp
  · intro h
    refine ⟨?_, h.symm⟩
    have := congrArg List.length h
    rw [List.length_take] at this
    show 0 + y.cps.size ≤ x.cps.size
    rw [← Array.length_toList, ← Array.length_toList]
    omega
theorem apart_iff (w x : Str) : Apart w x ↔ ¬ x.cps.toList <+: w.cps.toList ∧ ¬ w.cps.toList <+: x.cps.toList := by
  unfold Apart pre2
  rw [Bool.or_eq_false_iff, ← sw_iff, ← sw_iff, Bool.not_eq_true, Bool.not_eq_true]
theorem apart_symm {w x : Str} (h : Apart w x) : Apart x w := (apart_iff _ _).mpr ((apart_iff _ _).mp h).symm
theorem app_list {x : Str} {c : Nat} : (x ++ (⟨#[c]⟩ : Str)).cps.toList = x.cps.toList ++ [c] := by
  rw [PySem.Str.cps_append, Array.toList_append]
theorem apart_app {w x : Str} {c : Nat} (h : Apart w x) : Apart w (x ++ (⟨#[c]⟩ : Str)) := by
  obtain ⟨h1, h2⟩ := (apart_iff _ _).mp h
  refine (apart_iff _ _).mpr ⟨fun z => ?_, fun z => ?_⟩
  · rw [app_list] at z
    exact h1 ((List.prefix_append _ _).trans z)
  · rw [app_list] at z
    rcases List.prefix_concat_iff.mp z with z | z
    · exact h1 (z ▸ List.prefix_append _ _)
    · exact h2 z
theorem apart_two {x : Str} {a b : Nat} (n : a ≠ b) : Apart (x ++ (⟨#[a]⟩ : Str)) (x ++ (⟨#[b]⟩ : Str)) := by
  have go : ∀ {a b : Nat}, a ≠ b → ¬ x.cps.toList ++ [b] <+: x.cps.toList ++ [a] := fun n z => by
    rw [List.prefix_append_right_inj, List.cons_prefix_cons] at z
    exact n z.1.symm
  refine (apart_iff _ _).mpr ⟨fun z => ?_, fun z => ?_⟩
  · rw [app_list, app_list] at z
    exact go n z
  · rw [app_list, app_list] at z
    exact go n.symm z
theorem pick_perm : ∀ (l : List Str) (i : Nat) (h : i < l.length), (l[i] :: l.eraseIdx i).Perm l
  | x :: l, 0, _ => List.Perm.refl _
  | x :: l, i + 1, h => (List.Perm.swap _ _ _).trans ((pick_perm l i (Nat.lt_of_succ_lt_succ h)).cons x)
theorem pw_pick {zs : List Str} {j : Nat} {k : Str} (h : zs.Pairwise Apart) (hj : zs[j]? = some k) : (k :: zs.eraseIdx j).Pairwise Apart := by
  obtain ⟨l, e⟩ := List.getElem?_eq_some_iff.mp hj
  have := pick_perm zs j l
  rw [e] at this
  exact (this.pairwise_iff (fun h => apart_symm h)).mpr h
theorem pw01 : [("0" : Str), "1"].Pairwise Apart := by
  refine .cons (fun x hx => ?_) (.cons (fun x hx => by cases hx) .nil)
  rw [List.mem_singleton.mp hx]
  show pre2 "0" "1" = false
  decide +kernel
theorem pw_step {zs : List Str} {j : Nat} {k : Str} (h : zs.Pairwise Apart) (hj : zs[j]? = some k) : (zs.eraseIdx j ++ [k ++ "0", k ++ "1"]).Pairwise Apart := by
  obtain ⟨h1, h2⟩ := List.pairwise_cons.mp (pw_pick h hj)
  have t0 : ("0" : Str) = ⟨#[48]⟩ := sgn0
  have t1 : ("1" : Str) = ⟨#[49]⟩ := sgn1
  refine List.pairwise_append.mpr ⟨h2, ?_, fun a ha b hb => ?_⟩
  · refine .cons (fun x hx => ?_) (.cons (fun x hx => by cases hx) .nil)
    rw [List.mem_singleton.mp hx, t0, t1]
    exact apart_two (by decide)
  · have q := apart_symm (h1 a ha)
    rcases List.mem_cons.mp hb with e | hb
    · rw [e, t0]; exact apart_app q
    · rw [List.mem_singleton.mp hb, t1]; exact apart_app q
theorem pw_move {us vs : List Str} {j : Nat} (hj : j < us.length) (h : (us ++ vs).Pairwise Apart) : (us.eraseIdx j ++ (vs ++ [us[j]])).Pairwise Apart := by
  have p : (us.eraseIdx j ++ (vs ++ [us[j]])).Perm (us ++ vs) := by
    have a : (us.eraseIdx j ++ (vs ++ [us[j]])).Perm (us[j] :: (us.eraseIdx j ++ vs)) := by
      rw [← List.append_assoc]
      exact List.perm_append_comm
    exact a.trans ((pick_perm us j hj).append_right vs)
  exact (p.pairwise_iff (fun h => apart_symm h)).mpr h
/-- [f(w) for w in e if p(w)] over a list of texts; the tests may make things -/
theorem lc_strs {K : PySem.W.Frag} {σ : L2.St} {H : Hp} {te : TE} {tt : TT} {j : Nat} {vs : List Nat} {a : Addr} {ws : List Str} {Qd : Addr → Hp → Prop} (p : Str → Bool) (f : Str → Str)
    (hxs : H a = some (.lst (ws.map V.str))) (hl : ws.length ≤ 100000) (hw : ∀ x, wipe ((wipe σ vs).set j (some x)) vs = wipe σ vs)
    (htt : ∀ (w : Str) H1 (Q : Bool → Hp → Prop), w ∈ ws → Same H H1 → (∀ H2, Same H1 H2 → Q (p w) H2) → tt ((wipe σ vs).set j (some (.str w))) H1 Q)
    (ht : ∀ (w : Str) H1 (Q : VK), w ∈ ws → p w = true → Same H H1 → (∀ H2, Same H1 H2 → Q (.str (f w)) H2) → te ((wipe σ vs).set j (some (.str w))) H1 Q)
    (k : ∀ D H', H' D = some (.lst (((ws.filter p).map f).map V.str)) → H D = none → Same H H' → Qd D H') :
    ∃ a', V.ref a = V.ref a' ∧ (∃ xs, SqL K H a' xs) ∧ ∀ D, H D = none → ∃ W : Nat → Nat → Hp → Prop, (∃ m, W 0 m (upd H D (.lst []))) ∧ ∀ i m H, W i m H →
      ((Itl K a').stop i H ∧ Qd D H) ∨ ((Itl K a').go i H ∧ ∃ Nx : Hp → Prop, (∀ H', Nx H' → ∃ m', m' < m ∧ W (i + 1) m' H') ∧ ∀ x H', (Itl K a').yld i H x H' → gName j x (wipe σ vs) H' fun σ2 H2 => wipe σ2 vs = wipe σ vs ∧ tt σ2 H2 fun b H3 =>
        if b = true then te σ2 H3 fun y H4 => ∃ acc, H4 D = some (.lst acc) ∧ acc.length < sizeLine ∧ Nx (upd H4 D (.lst (acc ++ [y]))) else Nx H3) := by
  refine ⟨a, rfl, ⟨_, SqL.of hxs⟩, fun D hD => ?_⟩
  refine lc_it (walk_list (xs := ws.map V.str)) (fun i H' => H' D = some (.lst ((((ws.take i).filter p).map f).map V.str)) ∧ Same H H') ⟨upd_same, same_new hD⟩ (fun i H' _ q => SqL.of (q.2 _ _ hxs)) ?_ ?_
  · rintro i x H1 H2 hi ⟨hD1, e1⟩ ⟨rfl, hx⟩
    rw [List.getElem?_map] at hx
    obtain ⟨w, hw0, rfl⟩ := Option.map_eq_some_iff.mp hx
    have mw := List.mem_of_getElem? hw0
    have tk : ws.take (i + 1) = ws.take i ++ [w] := take_snoc hw0
    refine ⟨hw _, htt w _ _ mw e1 fun H3 e3 => ?_⟩
    cases hp : p w with
    | false =>
      refine iteF ⟨?_, e1.trans e3⟩
      rw [tk, List.filter_append]
      simp only [List.filter_cons, hp, List.filter_nil, Bool.false_eq_true, if_false, List.append_nil]
      exact e3 _ _ hD1
    | true =>
      refine iteY (ht w _ _ mw hp (e1.trans e3) fun H4 e4 => ?_)
      refine ⟨_, e4 _ _ (e3 _ _ hD1), ?_, ?_, same_put hD (e1.trans (e3.trans e4))⟩
      · rw [sizeLine_eq, List.length_map, List.length_map]
        have := List.length_filter_le p (ws.take i)
        have := List.length_take_le' i ws
        omega
      · rw [upd_same, tk, List.filter_append, List.map_append, List.map_append]
        simp only [List.filter_cons, hp, List.filter_nil, if_true, List.map_cons, List.map_nil]
  · rintro H1 ⟨hD1, e1⟩
    rw [List.length_map, List.take_length] at hD1
    exact k D H1 hD1 hD e1
/-- any([f(w) for w in e]) over a list of texts -/
theorem any_strs {K : PySem.W.Frag} {σ : L2.St} {H : Hp} {t0 te : TE} {j : Nat} {vs : List Nat} {a : Addr} {ws : List Str} {Q : VK} (f : Str → Bool)
    (hg : ∀ Q', Q' (.ref a) H → t0 σ H Q') (hxs : H a = some (.lst (ws.map V.str))) (hl : ws.length ≤ 100000) (hw : ∀ x, wipe ((wipe σ vs).set j (some x)) vs = wipe σ vs)
    (ht : ∀ (w : Str) H1 (Q : VK), w ∈ ws → Same H H1 → Q (.bl (f w)) H1 → te ((wipe σ vs).set j (some (.str w))) H1 Q)
    (k : ∀ H', Same H H' → Q (.bl (ws.any f)) H') : tCB (rAny K) (tCons (tLc (iList K t0) (gName j) tYes te vs) tNil) σ H Q := by
  dsimp only [tCB, tCons, tNil]
  refine lc_lstF (tt := tYes) (fun _ v (b : Bool) => v = V.bl b) (fun _ _ _ _ _ q => q) (fun _ _ _ _ _ _ _ q => q) (fun _ => true) f (fun v (n : Str) => v = V.str n) hg hxs (strs_pair _) (by rw [List.length_map]; exact hl) hw (fun x n H6 Q _ _ _ q => q) ?_ ?_
  · rintro z n H6 Q rfl hn _ e6 q
    exact ht n H6 Q hn e6 (q _ _ (fun _ _ z => z) rfl)
  intro D bs H6 hD hD0 e6 pw
  have ebs := pair_bls pw
  subst ebs
  refine ⟨D, _, rfl, SqL.of hD, ?_⟩
  have e : (((ws.filter fun _ => true).map f).any id) = ws.any f := by
    rw [List.filter_eq_self.mpr fun _ _ => rfl, List.any_map]
    rfl
  rw [e]
  exact k H6 e6

/-! ================= steps ================= -/
abbrev sp_Edition_kinds (_ : PySem.W.Frag) (A : Ad) : Sp := Sp1 fun v H Q _ => ∃ (x : Addr) (tb : Tb) (r : Str) (c : Int), v = .ref x ∧ EdAt A H x tb r c ∧ tb.length ≤ 20 ∧
  ∀ q kvs H', H' q = some (.dK kvs) → TbAt A H' q tb kvs → H q = none → Same H H' → Q (.ref q) H'
theorem okN_short {n : Str} (h : okN n) : Short (.str n) := by
  have := h.2
  show n.length ≤ 1000000
  omega
abbrev sp_check_most (_ : PySem.W.Frag) (_ : Ad) : Sp := Sp1 fun v H Q _ => ∃ n : Nat, v = .int (n : Int) ∧ n ≤ 16 ∧ Q .non H
/-- has a word of ws that begins with w and goes on -/
def behB (ws : List Str) (w : Str) : Bool := ws.any fun o => !decide (o = w) && PySem.Txt.startswith o w
def extW (hs : List Str) : List Str := hs.flatMap fun h => [h ++ "0", h ++ "1"]
def newB (ws : List Str) (w : Str) : Bool := !behB ws w && !decide (w ∈ ws)
/-- the heads and the free rows after i rounds of way_words -/
def hsAt (ws : List Str) : Nat → List Str
  | 0 => [""]
  | i + 1 => (extW (hsAt ws i)).filter (behB ws)
def foAt (ws : List Str) : Nat → List Str
  | 0 => []
  | i + 1 => foAt ws i ++ (extW (hsAt ws i)).filter (newB ws)
def wayW (ws : List Str) (n : Nat) : List Str := foAt ws n
theorem one_len {c : Nat} : (⟨#[c]⟩ : Str).length = 1 := rfl
theorem ext_len (hs : List Str) : (extW hs).length = 2 * hs.length := by
  induction hs with
  | nil => rfl
  | cons h t ih =>
    have e : extW (h :: t) = [h ++ "0", h ++ "1"] ++ extW t := rfl
    rw [e, List.length_append, ih]
    show 2 + 2 * t.length = 2 * (t.length + 1)
    omega
theorem ext_mem {hs : List Str} {x : Str} (h : x ∈ extW hs) : ∃ y ∈ hs, x = y ++ "0" ∨ x = y ++ "1" := by
  obtain ⟨y, hy, hx⟩ := List.mem_flatMap.mp h
  refine ⟨y, hy, ?_⟩
  rcases List.mem_cons.mp hx with e | hx
  · exact .inl e
  · exact .inr (List.mem_singleton.mp hx)
theorem hs_len (ws : List Str) : ∀ i, (hsAt ws i).length ≤ 2 ^ i ∧ ∀ h ∈ hsAt ws i, h.length = i
  | 0 => ⟨Nat.le_refl 1, fun h hh => by rw [List.mem_singleton.mp hh]; decide +kernel⟩
  | i + 1 => by
    obtain ⟨h1, h2⟩ := hs_len ws i
    refine ⟨?_, fun h hh => ?_⟩
    · have := List.length_filter_le (behB ws) (extW (hsAt ws i))
      rw [ext_len] at this
      show (List.filter _ _).length ≤ _
      rw [Nat.pow_succ]
      omega
    · obtain ⟨y, hy, e⟩ := ext_mem (List.mem_filter.mp hh).1
      have := h2 y hy
      rcases e with rfl | rfl
      · rw [PySem.Str.length_append, this]
        rfl
      · rw [PySem.Str.length_append, this]
        rfl
theorem fo_len (ws : List Str) : ∀ i, (foAt ws i).length ≤ 2 ^ (i + 1)
  | 0 => Nat.zero_le _
  | i + 1 => by
    have h1 := fo_len ws i
    have h2 := (hs_len ws i).1
    have := List.length_filter_le (newB ws) (extW (hsAt ws i))
    rw [ext_len] at this
    show (foAt ws i ++ (extW (hsAt ws i)).filter (newB ws)).length ≤ 2 ^ (i + 1 + 1)
    rw [List.length_append, Nat.pow_succ 2 (i + 1)]
    rw [Nat.pow_succ] at h1 ⊢
    omega
theorem pow16 {i : Nat} (h : i ≤ 16) : 2 ^ i ≤ 65536 := Nat.pow_le_pow_right (by decide) h
abbrev sp_way_words (_ : PySem.W.Frag) (A : Ad) : Sp := Sp3 fun v a b H Q _ => ∃ (x : Addr) (tb : Tb) (r : Str) (c : Int) (n : Str) (ks : List Kd) (m : Nat), v = .ref x ∧ EdAt A H x tb r c ∧ tb.length ≤ 20 ∧ a = .str n ∧ okN n ∧ tb.lookup n = some (.choice ks) ∧ b = .int (m : Int) ∧ m ≤ 16 ∧ (∀ w ∈ ks.map wordK, w.length ≤ 8) ∧ ks.length ≤ 12 ∧
  ∀ q H', H' q = some (.lst ((wayW (ks.map wordK) m).map V.str)) → H q = none → Same H H' → Q (.ref q) H'
abbrev sp_AddWay___init__ (_ : PySem.W.Frag) (A : Ad) : Sp := Sp3 fun s a b H Q _ => ∃ (H0 : Hp) (x : Addr), s = .ref x ∧ Fresh A.c_AddWay x H0 H ∧ ∀ dx H', H' x = some (.ins A.c_AddWay dx (putF "way" b (putF "name" a []))) → Same H0 H' → Q .non H'
theorem zo_size : (Str.ofString "01").cps.size = 2 := by decide +kernel
theorem zo_at {j c : Nat} (h : (Str.ofString "01").cps[j]? = some c) : (j = 0 ∧ (⟨#[c]⟩ : Str) = "0") ∨ (j = 1 ∧ (⟨#[c]⟩ : Str) = "1") := by
  rw [← Array.getElem?_toList, bits_eq] at h
  match j with
  | 0 =>
    have : c = 48 := (Option.some.inj h).symm
    subst this
    exact .inl ⟨rfl, by decide +kernel⟩
  | 1 =>
    have : c = 49 := (Option.some.inj h).symm
    subst this
    exact .inr ⟨rfl, by decide +kernel⟩
  | j + 2 => cases h
/-- [head + bit for head in heads for bit in '01'] -/
theorem lc2_bits {K : PySem.W.Frag} {σ : L2.St} {H : Hp} {hs : List Str} {G : Addr} {j1 j2 : Nat} {vs : List Nat} {te : TE} {Qd : Addr → Hp → Prop}
    (hG : H G = some (.lst (hs.map V.str))) (hl : hs.length ≤ 70000) (l100 : ∀ h ∈ hs, h.length ≤ 100) (hw1 : ∀ x, wipe ((wipe σ vs).set j1 (some x)) vs = wipe σ vs)
    (hw2 : ∀ x y, wipe ((wipe ((wipe σ vs).set j1 (some x)) [j2]).set j2 (some y)) [j2] = wipe ((wipe σ vs).set j1 (some x)) [j2])
    (ht : ∀ (h b : Str) H1 (Q : VK), h.length + b.length ≤ sizeLine → Q (.str (h ++ b)) H1 → te ((wipe ((wipe σ vs).set j1 (some (.str h))) [j2]).set j2 (some (.str b))) H1 Q)
    (k : ∀ D H', H' D = some (.lst ((extW hs).map V.str)) → H D = none → Same H H' → Qd D H') :
    ∃ a', V.ref G = V.ref a' ∧ (∃ xs, SqL K H a' xs) ∧ ∀ D, H D = none → ∃ W : Nat → Nat → Hp → Prop, (∃ m, W 0 m (upd H D (.lst []))) ∧ ∀ i m H, W i m H →
      ((Itl K a').stop i H ∧ Qd D H) ∨ ((Itl K a').go i H ∧ ∃ Nx : Hp → Prop, (∀ H', Nx H' → ∃ m', m' < m ∧ W (i + 1) m' H') ∧ ∀ x H', (Itl K a').yld i H x H' → gName j1 x (wipe σ vs) H' fun σ2 H2 => wipe σ2 vs = wipe σ vs ∧ tYes σ2 H2 fun b H3 =>
        if b = true then iStr (tC (V.str "01")) σ2 H3 fun J1 H4 => ∃ W1 : Nat → Nat → Hp → Prop, (∃ m, W1 0 m H4) ∧ ∀ j k H, W1 j k H → (J1.stop j H ∧ Nx H) ∨ (J1.go j H ∧ ∃ Nx1 : Hp → Prop, (∀ H', Nx1 H' → ∃ k', k' < k ∧ W1 (j + 1) k' H') ∧ ∀ x H', J1.yld j H x H' → gName j2 x (wipe σ2 [j2]) H' fun σ3 H5 => wipe σ3 [j2] = wipe σ2 [j2] ∧ tYes σ3 H5 fun b H6 =>
          if b = true then te σ3 H6 fun y H7 => ∃ acc, H7 D = some (.lst acc) ∧ acc.length < sizeLine ∧ Nx1 (upd H7 D (.lst (acc ++ [y]))) else Nx1 H6) else Nx H3) := by
  refine ⟨G, rfl, ⟨_, SqL.of hG⟩, fun D hD => ?_⟩
  refine lc2_it (J1 := Its "01") (walk_list (K := K) (a := G) (xs := hs.map V.str)) walk_str (fun σ2 H R q => ⟨"01", rfl, q⟩) (fun i j H' => H' D = some (.lst ((extW (hs.take i) ++ (extW (hs[i]?).toList).take j).map V.str)) ∧ Same H H') ?_ (fun i j H' q => ⟨SqL.of (q.2 _ _ hG), trivial⟩) ?_ ?_ ?_ (fun x H P Q h p => h _ _ p) (fun x σ2 H P Q h p => h _ _ p)
  · refine ⟨?_, same_new hD⟩
    rw [upd_same, List.take_zero, List.take_zero]
    rfl
  · rintro i x H1 H1' hi ⟨hD1, e1⟩ ⟨rfl, hx⟩
    rw [List.getElem?_map] at hx
    obtain ⟨h, hh, rfl⟩ := Option.map_eq_some_iff.mp hx
    have h100 := l100 h (List.mem_of_getElem? hh)
    refine ⟨hw1 _, ⟨hD1, e1⟩, ?_⟩
    rintro j y H3 H4 hj ⟨hD3, e3⟩ ⟨rfl, c, hc, rfl⟩
    refine ⟨hw2 _ _, ?_⟩
    refine ht h ⟨#[c]⟩ H4 _ (by rw [sizeLine_eq]; show h.length + 1 ≤ _; omega) ⟨_, hD3, ?_, ?_, same_put hD e3⟩
    · rw [sizeLine_eq, List.length_map, List.length_append, ext_len]
      have := List.length_take_le i hs
      have := List.length_take_le j (extW (hs[i]?).toList)
      have : j < 2 := by rw [← zo_size]; exact hj
      rw [List.length_map] at hi
      omega
    · rw [upd_same, hh]
      rw [hh] at hD3
      rcases zo_at hc with ⟨rfl, e⟩ | ⟨rfl, e⟩
      · rw [e]
        simp [extW]
      · rw [e]
        simp [extW]
  · rintro i H1 hi ⟨hD1, e1⟩
    refine ⟨?_, e1⟩
    rw [zo_size] at hD1
    rw [List.length_map] at hi
    have hh : hs[i]? = some hs[i] := List.getElem?_eq_getElem hi
    rw [hh] at hD1
    rw [hD1, take_snoc hh]
    unfold extW
    rw [List.flatMap_append, List.take_zero, List.append_nil]
    rfl
  · rintro H1 ⟨hD1, e1⟩
    rw [List.length_map] at hD1
    rw [List.take_length, List.take_zero, List.append_nil] at hD1
    exact k D H1 hD1 hD e1
theorem beh_filter {ws : List Str} {y : Str} : (!(((ws.filter fun o => !decide (o = y) && PySem.Txt.startswith o y).map id).map V.str).isEmpty) = behB ws y := by
  unfold behB
  rw [List.map_id]
  induction ws with
  | nil => rfl
  | cons w ws ih =>
    rw [List.any_cons, List.filter_cons]
    cases e : (!decide (w = y) && PySem.Txt.startswith w y) with
    | true => rfl
    | false =>
      rw [Bool.false_or, ← ih]
      rfl
theorem dStrE {a b : Str} : decide (V.str a = V.str b) = decide (a = b) := decide_eq_decide.mpr ⟨fun h => by injection h, fun h => by rw [h]⟩
def nameK : Kd → Str
  | .way _ n _ => n
  | .door _ n _ => n
  | .part n _ => n
  | .room _ n _ => n
  | _ => Str.empty
theorem wd_name {K : PySem.W.Frag} {mg : Str → Option Value} {A : Ad} (T : Txt K mg A) {H : Hp} {v : V} {k : Kd} (h : KAt A H v k) (w : (Td.k k).wd = true) : ∃ x C dx fs, v = .ref x ∧ H x = some (.ins C dx fs) ∧ Cls K C ∧ NoAttr K C "name" ∧ fs.lookup ("name" : Str) = some (.str (nameK k)) := by
  cases h with
  | way h k o => obtain ⟨dx, fs, h1, h2⟩ := h; exact ⟨_, _, dx, fs, rfl, h1, T.cl_Way, T.n_Way_name, h2 _ (List.mem_cons_of_mem _ (List.mem_cons_self ..))⟩
  | door h k o => obtain ⟨dx, fs, h1, h2⟩ := h; exact ⟨_, _, dx, fs, rfl, h1, T.cl_Door, T.n_Door_name, h2 _ (List.mem_cons_of_mem _ (List.mem_cons_self ..))⟩
  | _ => cases w
/-- why a way is not added, or none -/
def wayWhy (ks : List Kd) (k : Kd) : Option Str :=
  if 12 ≤ ks.length then some "many" else if ks.any (fun z => decide (nameK z = nameK k)) = true then some "same" else if ks.any (fun z => pre2 (wordK z) (wordK k)) = true then some "word" else none
/-- an AddWay at st -/
structure StW (A : Ad) (H : Hp) (st : Addr) (n : Str) (w : V) (k : Kd) : Prop where
  at_ : ∃ dst, H st = some (.ins A.c_AddWay dst (putF "way" w (putF "name" (.str n) [])))
  way : KAt A H w k
  wd : (Td.k k).wd = true
theorem stw_name {w : V} {n : Str} : (putF "way" w (putF "name" (.str n) [])).lookup ("name" : Str) = some (.str n) := by
  have n1 : ¬ ("name" : Str) = "way" := by decide +kernel
  rw [lookup_putF, if_neg n1, lookup_putF, if_pos rfl]
theorem stw_way {w : V} {n : Str} : (putF "way" w (putF "name" (.str n) [])).lookup ("way" : Str) = some w := by
  rw [lookup_putF, if_pos rfl]
theorem StW.same {A : Ad} {H H' : Hp} {st : Addr} {n : Str} {w : V} {k : Kd} (e : Same H H') (h : StW A H st n w k) : StW A H' st n w k := by
  obtain ⟨⟨d, h1⟩, h2, h3⟩ := h
  exact ⟨⟨d, e _ _ h1⟩, h2.keep (KI.same e), h3⟩
abbrev sp_NoStep___init__ (_ : PySem.W.Frag) (A : Ad) : Sp := sp_exc1 A.c_NoStep "reason"
abbrev sp_named (_ : PySem.W.Frag) (A : Ad) : Sp := Sp2 fun v a H Q _ => ∃ (q : Addr) (tb : Tb) (kvs : List (Key × V)) (n : Str) (k : Kd), v = .ref q ∧ TbAt A H q tb kvs ∧ H q = some (.dK kvs) ∧ a = .str n ∧ okN n ∧ tb.lookup n = some k ∧ ∀ w, KAt A H w k → Q w H
abbrev spWay (A : Ad) : Sp := Sp2 fun v a H Q E => ∃ (q : Addr) (tb : Tb) (kvs : List (Key × V)) (st : Addr) (n : Str) (w : V) (wk : Kd) (ks : List Kd), v = .ref q ∧ TbAt A H q tb kvs ∧ H q = some (.dK kvs) ∧ a = .ref st ∧ StW A H st n w wk ∧ okN n ∧ tb.lookup n = some (.choice ks) ∧ ks.length ≤ 12 ∧ match wayWhy ks wk with
  | some y => ∀ H' d, Same H H' → H' d = some (.xd [("reason", .str y)]) → E (.ref A.c_NoStep) (some d) H'
  | none => okWays ((ks ++ [wk]).map Td.k) = true ∧ ∀ y H', KAt A H' (.ref y) (.choice (ks ++ [wk])) → Same H H' → Q (.ref y) H'
abbrev sp_way_added (_ : PySem.W.Frag) (A : Ad) : Sp := spWay A
abbrev sp_changed_kind (_ : PySem.W.Frag) (A : Ad) : Sp := spWay A
/-- the table with another kind under a name -/
def setTb (tb : Tb) (n : Str) (k : Kd) : Tb := tb.map fun z => if z.1 = n then (n, k) else z
abbrev sp_taken (_ : PySem.W.Frag) (A : Ad) : Sp := Sp2 fun v a H Q E => ∃ (x : Addr) (tb : Tb) (r : Str) (c : Int) (st : Addr) (n : Str) (w : V) (wk : Kd) (ks : List Kd), v = .ref x ∧ EdAt A H x tb r c ∧ tb.length ≤ 20 ∧ a = .ref st ∧ StW A H st n w wk ∧ okN n ∧ tb.lookup n = some (.choice ks) ∧ ks.length ≤ 12 ∧ match wayWhy ks wk with
  | some y => ∀ H' d, Same H H' → H' d = some (.xd [("reason", .str y)]) → E (.ref A.c_NoStep) (some d) H'
  | none => okWays ((ks ++ [wk]).map Td.k) = true ∧ (∃ rk, EdOk (setTb tb n (.choice (ks ++ [wk]))) r c rk) ∧ ∀ y H', EdAt A H' y (setTb tb n (.choice (ks ++ [wk]))) r c → Same H H' → Q (.ref y) H'
theorem any_trues {α : Type} (f : α → Bool) : ∀ l : List α, ((((l.filter fun _ => true).map f).any id)) = l.any f := by
  intro l
  rw [List.filter_eq_self.mpr fun _ _ => rfl, List.any_map]
  rfl
theorem seq_choice {ks : List Kd} (h : okWays (ks.map Td.k) = true) : mkSeq .choice okWays "ways" (some (ks.map Td.k)) = .ok (.choice ks) := by
  have ek : (ks.map Td.k).map Td.kd = ks := by rw [List.map_map]; exact List.map_id' ks
  show (if okWays (ks.map Td.k) = false then Except.error _ else Except.ok (Kd.choice ((ks.map Td.k).map Td.kd))) = _
  rw [if_neg (by rw [h]; decide), ek]
theorem isa_noR {a b : Addr} (h : a ≠ b) : isa (.ref a) (.ref b) = false := by
  unfold isa
  rw [decide_eq_false (fun z => h (by injection z)), decide_eq_false (by intro z; cases z)]
  rfl
theorem ents_set {A : Ad} {H : Hp} {n : Str} {v : V} {k : Kd} (hk : KAt A H v k) : ∀ {kvs : List (Key × V)} {tb : Tb}, Paired (EntAt A H) kvs tb → Paired (EntAt A H) (kvs.map fun kv => if kv.1 = (.inr n : Key) then (kv.1, v) else kv) (setTb tb n k)
  | _, _, .nil => .nil
  | kv :: kvs, z :: tb, .cons a t => by
    have ih := ents_set (n := n) hk t
    obtain ⟨a1, a2⟩ := a
    by_cases e : z.1 = n
    · have e2 : kv.1 = (.inr n : Key) := by rw [a1, e]
      have h1 : (kv :: kvs).map (fun kv => if kv.1 = (.inr n : Key) then (kv.1, v) else kv) = (kv.1, v) :: kvs.map (fun kv => if kv.1 = (.inr n : Key) then (kv.1, v) else kv) := by rw [List.map_cons, if_pos e2]
      have h2 : setTb (z :: tb) n k = (n, k) :: setTb tb n k := by unfold setTb; rw [List.map_cons, if_pos e]
      rw [h1, h2]
      exact .cons ⟨e2, hk⟩ ih
    · have e2 : ¬ kv.1 = (.inr n : Key) := by rw [a1]; intro z; injection z with z; exact e z
      have h1 : (kv :: kvs).map (fun kv => if kv.1 = (.inr n : Key) then (kv.1, v) else kv) = kv :: kvs.map (fun kv => if kv.1 = (.inr n : Key) then (kv.1, v) else kv) := by rw [List.map_cons, if_neg e2]
      have h2 : setTb (z :: tb) n k = z :: setTb tb n k := by unfold setTb; rw [List.map_cons, if_neg e]
      rw [h1, h2]
      exact .cons ⟨a1, a2⟩ ih
theorem put_there {A : Ad} {H : Hp} {p : Addr} {tb : Tb} {kvs : List (Key × V)} {n : Str} {v : V} (t : TbAt A H p tb kvs) (hn : n ∈ tb.names) : putK kvs (.inr n : Key) v = kvs.map fun kv => if kv.1 = (.inr n : Key) then (kv.1, v) else kv := by
  have e := t.keys
  have m : (.inr n : Key) ∈ kvs.map (·.1) := by rw [e]; exact List.mem_map_of_mem hn
  obtain ⟨kv, h1, h2⟩ := List.mem_map.mp m
  unfold putK
  rw [if_pos]
  exact List.any_eq_true.mpr ⟨kv, h1, decide_eq_true h2⟩
theorem ed_root {tb r c m om : V} : (edFs tb r c m om).lookup ("root" : Str) = some r := by
  have n1 : ¬ ("root" : Str) = "own_machine" := by decide +kernel
  have n2 : ¬ ("root" : Str) = "machine" := by decide +kernel
  have n3 : ¬ ("root" : Str) = "count" := by decide +kernel
  rw [lookup_putF, if_neg n1, lookup_putF, if_neg n2, lookup_putF, if_neg n3, lookup_putF, if_pos rfl]
theorem ed_count {tb r c m om : V} : (edFs tb r c m om).lookup ("count" : Str) = some c := by
  have n1 : ¬ ("count" : Str) = "own_machine" := by decide +kernel
  have n2 : ¬ ("count" : Str) = "machine" := by decide +kernel
  rw [lookup_putF, if_neg n1, lookup_putF, if_neg n2, lookup_putF, if_pos rfl]
abbrev sp__law_start (K : PySem.W.Frag) (_ : Ad) : Sp := sp_start K
abbrev sp_law (K : PySem.W.Frag) (_ : Ad) : Sp := sp_law0 K
abbrev sp__law_pull (_ : PySem.W.Frag) (_ : Ad) : Sp := sp_pull

def Atom : V → Prop
  | .non => True
  | .int _ => True
  | .str _ => True
  | _ => False
abbrev sp__law_is_int (K : PySem.W.Frag) (_ : Ad) : Sp := Sp1 fun v H Q _ => ∃ t, VT K H v t ∧ Q (.bl (isI v)) H
abbrev sp__law_same0 (_ : PySem.W.Frag) (_ : Ad) : Sp := Sp2 fun v w H Q _ => v = w ∧ Atom v ∧ Q (.bl true) H
abbrev sp__law_same (_ : PySem.W.Frag) (_ : Ad) : Sp := Sp2 fun v w H Q _ => ∃ p q xs, v = .ref p ∧ w = .ref q ∧ ((H p = some (.tup xs) ∧ H q = some (.tup xs)) ∨ (H p = some (.lst xs) ∧ H q = some (.lst xs))) ∧ (∀ x ∈ xs, Atom x) ∧ xs.length ≤ 10000000 ∧ Q (.bl true) H

theorem emp_eq : (⟨([] : List Nat).toArray⟩ : Str) = "" := by decide +kernel
abbrev sp__law_draw_bits (_ : PySem.W.Frag) (_ : Ad) : Sp := sp_text bit
abbrev sp__law_flip (_ : PySem.W.Frag) (_ : Ad) : Sp := Sp1 fun v H Q _ => ∃ c : Nat, v = .str ⟨#[c]⟩ ∧ Q (.str ⟨#[if c = 49 then 48 else 49]⟩) H
abbrev sp__law_name (_ : PySem.W.Frag) (_ : Ad) : Sp := Sp2 fun a t H Q _ => ∃ (d : Dr) (p : Addr) (us : List Str), a = .ref d.p ∧ t = .ref p ∧ p ≠ d.p ∧ p ≠ d.l ∧ Rng d H ∧ H p = some (.lst (us.map V.str)) ∧ us.length ≤ 25 ∧
  ∀ (x : Str) H1, okName (.str x) = true → x ∉ us → Chg d H H1 → Rng d H1 → Q (.str x) (upd H1 p (.lst ((us ++ [x]).map V.str)))

theorem oz_eq : (Str.ofString "10").cps.toList = [49, 48] := by decide +kernel
theorem app_sign {cs : List Nat} {c : Nat} : ((⟨cs.toArray⟩ : Str) ++ (⟨#[c]⟩ : Str)) = ⟨(cs ++ [c]).toArray⟩ := by
  show (⟨cs.toArray ++ #[c]⟩ : Str) = _
  congr 1
  simp
theorem app_lists {a b : List Nat} : ((⟨a.toArray⟩ : Str) ++ (⟨b.toArray⟩ : Str)) = ⟨(a ++ b).toArray⟩ := by
  show (⟨a.toArray ++ b.toArray⟩ : Str) = _
  congr 1
  simp

/-- a way or a door, described -/
structure WD where
  door : Bool
  word : Str
  name : Str
  inner : Kd
def WD.kd (w : WD) : Kd := if w.door = true then .door w.word w.name w.inner else .way w.word w.name w.inner
def markD (w : WD) : Str := if w.door = true then "door" else "way"
inductive InAt (H : Hp) : V → Kd → Prop where
  | none : InAt H .non .none
  | nothing {p : Addr} (h : H p = some (.tup [.str "nothing"])) : InAt H (.ref p) .nothing
  | bits {p : Addr} {n : Int} (h : H p = some (.tup [.str "bits", .int n])) (h1 : 1 ≤ n) (h2 : n ≤ 3) : InAt H (.ref p) (.bits n)
  | num {p : Addr} {hi : Int} {w : Option Int} (h : H p = some (.tup [.str "number", .int 0, .int hi, oi w])) (c : (hi = 2 ∧ w = some 2) ∨ (hi = 1 ∧ w = Option.none)) : InAt H (.ref p) (.num 0 hi w)
def DAt (H : Hp) (v : V) (w : WD) : Prop := ∃ p i, v = .ref p ∧ H p = some (.tup [.str (markD w), .str w.word, .str w.name, i]) ∧ InAt H i w.inner
theorem InAt.keep {H H' : Hp} {v : V} {k : Kd} (e : TupKeep H H') (h : InAt H v k) : InAt H' v k := by
  cases h with
  | none => exact .none
  | nothing h => exact .nothing (e _ _ h)
  | bits h a b => exact .bits (e _ _ h) a b
  | num h c => exact .num (e _ _ h) c
theorem DAt.keep {H H' : Hp} {v : V} {w : WD} (e : TupKeep H H') (h : DAt H v w) : DAt H' v w := by
  obtain ⟨p, i, rfl, h1, h2⟩ := h
  exact ⟨p, i, rfl, e _ _ h1, h2.keep e⟩
theorem TupKeep.same {H H' : Hp} (e : Same H H') : TupKeep H H' := fun b xs h => e _ _ h
structure WD.Ok (w : WD) : Prop where
  word : okWord (.str w.word) = true
  name : okName (.str w.name) = true
  inn : (if w.door = true then (Td.k w.inner).door else (Td.k w.inner).way) = true
/-- what a drawn further way or door may hold -/
def Sml (k : Kd) : Prop := k = .none ∨ k = .nothing ∨ k = .bits 1 ∨ k = .num 0 1 none
abbrev sp__law_object (_ : PySem.W.Frag) (A : Ad) : Sp := Sp1 fun v H Q _ => ∃ k, InAt H v k ∧ k ≠ .none ∧ ∀ x H', KAt A H' (.ref x) k → Same H H' → Q (.ref x) H'
abbrev sp__law_place (_ : PySem.W.Frag) (A : Ad) : Sp := Sp1 fun v H Q _ => ∃ w : WD, DAt H v w ∧ w.Ok ∧ ∀ x H', KAt A H' (.ref x) w.kd → Same H H' → Q (.ref x) H'
theorem num_2 : mkNum (.int 0) (.int 2) (.int 2) = .ok (.num 0 2 (some 2)) := by rfl
theorem num_1 : mkNum (.int 0) (.int 1) .non = .ok (.num 0 1 none) := by rfl
theorem bits_3 {m : Int} (h1 : 1 ≤ m) (h2 : m ≤ 3) : mkBits (.int m) = .ok (.bits m) := if_neg (by
  rintro (z | z | z)
  · cases z
  · have : m < 1 := z
    omega
  · have : 16 < m := z
    omega)

theorem word_short {w : Str} (h : okWord (.str w) = true) : Short (.str w) := by
  have := (wordy_bits h).2.2
  show w.length ≤ 1000000
  omega

def nmAt (cs : List Nat) (pl f j : Nat) : Str := ⟨(cs.take pl ++ [97 + (f + j) % 26] ++ cs.drop pl).toArray⟩
theorem cutlo {cs : List Nat} {p : Nat} : cutS ⟨cs.toArray⟩ none (some (p : Int)) = ⟨(cs.take p).toArray⟩ := by
  refine TL.ext_tl ?_
  show ((TL.tl (⟨cs.toArray⟩ : Str)).drop (HT.sIx _ 0 none)).take (HT.sIx _ _ (some (p : Int)) - HT.sIx _ 0 none) = _
  rw [HT.sIx_none, HT.sIx_nat, List.drop_zero, Nat.sub_zero, TL.len_tl]
  show List.take (min p cs.length) cs = List.take p cs
  by_cases h : p ≤ cs.length
  · rw [Nat.min_eq_left h]
  · rw [Nat.min_eq_right (by omega), List.take_length, List.take_of_length_le (by omega)]
theorem cuthi {cs : List Nat} {p : Nat} : cutS ⟨cs.toArray⟩ (some (p : Int)) none = ⟨(cs.drop p).toArray⟩ := by
  refine TL.ext_tl ?_
  show ((TL.tl (⟨cs.toArray⟩ : Str)).drop (HT.sIx _ 0 (some (p : Int)))).take (HT.sIx _ _ none - HT.sIx _ 0 (some (p : Int))) = _
  rw [HT.sIx_none, HT.sIx_nat, TL.len_tl]
  show List.take (cs.length - min p cs.length) (List.drop (min p cs.length) cs) = List.drop p cs
  by_cases h : p ≤ cs.length
  · rw [Nat.min_eq_left h, List.take_of_length_le (by rw [List.length_drop]; omega)]
  · rw [Nat.min_eq_right (by omega), List.drop_eq_nil_of_le (Nat.le_refl _), List.drop_eq_nil_of_le (by omega), List.take_nil]
theorem list_len {cs : List Nat} : (⟨cs.toArray⟩ : Str).length = cs.length := by
  show cs.toArray.size = _
  simp
theorem letter_ok2 {c : Nat} (h : letter c) : (decide (97 ≤ c) && decide (c ≤ 122)) = true := by rw [decide_eq_true h.1, decide_eq_true h.2]; rfl
theorem name_okL {cs : List Nat} (h : ∀ c ∈ cs, letter c) (h1 : 1 ≤ cs.length) (h8 : cs.length ≤ 8) : okName (.str ⟨cs.toArray⟩) = true := by
  show (decide (1 ≤ (⟨cs.toArray⟩ : Str).length) && (decide ((⟨cs.toArray⟩ : Str).length ≤ 8) && ((⟨cs.toArray⟩ : Str).cps.toList.all fun c => decide (97 ≤ c) && decide (c ≤ 122)))) = true
  rw [list_len, decide_eq_true h1, decide_eq_true h8, Bool.true_and, Bool.true_and]
  exact List.all_eq_true.mpr fun c hc => letter_ok2 (h c (by simpa using hc))
theorem nm_ok {cs : List Nat} {pl f j : Nat} (h : ∀ c ∈ cs, letter c) (h7 : cs.length ≤ 7) : okName (.str (nmAt cs pl f j)) = true := by
  have m : (f + j) % 26 < 26 := Nat.mod_lt _ (by decide)
  refine name_okL (fun c hc => ?_) ?_ ?_
  · rcases List.mem_append.mp hc with hc | hc
    · rcases List.mem_append.mp hc with hc | hc
      · exact h c (List.mem_of_mem_take hc)
      · rw [List.mem_singleton.mp hc]; exact ⟨by omega, by omega⟩
    · exact h c (List.mem_of_mem_drop hc)
  · simp only [List.length_append, List.length_singleton]; omega
  · simp only [List.length_append, List.length_singleton, List.length_take, List.length_drop]
    omega
theorem nm_inj {cs : List Nat} {pl f i j : Nat} (hi : i < 26) (hj : j < 26) (h : nmAt cs pl f i = nmAt cs pl f j) : i = j := by
  have e : (cs.take pl ++ [97 + (f + i) % 26] ++ cs.drop pl) = (cs.take pl ++ [97 + (f + j) % 26] ++ cs.drop pl) := by
    have q := congrArg TL.tl h
    exact q
  have e2 := List.append_cancel_right e
  have e3 := List.append_cancel_left e2
  have e4 := (List.cons_eq_cons.mp e3).1
  omega
theorem abc_at {j : Nat} (h : j < 26) : (Str.ofString "abcdefghijklmnopqrstuvwxyz").cps.toList[j]? = some (97 + j) := by
  have e : [97, 98, 99, 100, 101, 102, 103, 104, 105, 106, 107, 108, 109, 110, 111, 112, 113, 114, 115, 116, 117, 118, 119, 120, 121, 122] = (List.range 26).map (97 + ·) := by decide
  rw [abc_eq, e, List.getElem?_map, List.getElem?_range h]
  rfl
theorem nm_all {cs : List Nat} {pl f : Nat} {us : List Str} (l25 : us.length ≤ 25) (h : ∀ j < 26, nmAt cs pl f j ∈ us) : False := by
  have nd : ((List.range 26).map (nmAt cs pl f)).Nodup := by
    refine List.pairwise_map.mpr ?_
    refine List.Pairwise.imp_of_mem ?_ List.nodup_range
    intro a b ha hb ne e
    exact ne (nm_inj (List.mem_range.mp ha) (List.mem_range.mp hb) e)
  have := nodup_le nd fun y hy => by
    obtain ⟨j, hj, rfl⟩ := List.mem_map.mp hy
    exact h j (List.mem_range.mp hj)
  rw [List.length_map, List.length_range] at this
  omega

def leW (x y : Str) : Prop := leIS ((x.length : Int), x) ((y.length : Int), y)
abbrev sp__law_ordered (_ : PySem.W.Frag) (_ : Ad) : Sp := Sp1 fun v H Q _ => ∃ (p : Addr) (rows : List Str), v = .ref p ∧ H p = some (.lst (rows.map V.str)) ∧ rows.length ≤ 2000 ∧ (∀ x ∈ rows, x.length ≤ 1000) ∧
  ∀ q (gs : List Str) H', H' q = some (.lst (gs.map V.str)) → H q = none → gs.Perm rows → gs.Pairwise leW → Same H H' → Q (.ref q) H'
def TupS (H : Hp) (v : V) (x : Str) : Prop := ∃ t, v = .ref t ∧ H t = some (.tup [.int (x.length : Int), .str x])
theorem tups_ps {H : Hp} : ∀ {ws : List V} {rows : List Str}, Paired (TupS H) ws rows → ∃ ps : List (Addr × Int × Str), ws = ps.map (fun p => V.ref p.1) ∧ ps.map (fun p => p.2.2) = rows ∧ ∀ p ∈ ps, p.2.1 = (p.2.2.length : Int) ∧ H p.1 = some (.tup [.int p.2.1, .str p.2.2])
  | _, _, .nil => ⟨[], rfl, rfl, fun p hp => nomatch hp⟩
  | _, x :: rows, .cons ⟨t, e, ht⟩ r => by
    obtain ⟨ps, h1, h2, h3⟩ := tups_ps r
    refine ⟨(t, (x.length : Int), x) :: ps, by rw [e, h1]; rfl, by rw [List.map_cons, h2], fun p hp => ?_⟩
    rcases List.mem_cons.mp hp with e2 | hp
    · subst e2; exact ⟨rfl, ht⟩
    · exact h3 p hp
abbrev sp__law_taken (_ : PySem.W.Frag) (A : Ad) : Sp := Sp2 fun v a H Q _ => ∃ (x : Addr) (tb : Tb) (r : Str) (c : Int) (st : Addr) (n : Str) (w : V) (wk : Kd) (ks : List Kd), v = .ref x ∧ EdAt A H x tb r c ∧ tb.length ≤ 20 ∧ a = .ref st ∧ StW A H st n w wk ∧ okN n ∧ tb.lookup n = some (.choice ks) ∧ ks.length ≤ 12 ∧ match wayWhy ks wk with
  | some y => ∀ q H', Same H H' → H' q = some (.tup [.str "refused", .str y]) → Q (.ref q) H'
  | none => okWays ((ks ++ [wk]).map Td.k) = true ∧ (∃ rk, EdOk (setTb tb n (.choice (ks ++ [wk]))) r c rk) ∧ ∀ q y H', EdAt A H' y (setTb tb n (.choice (ks ++ [wk]))) r c → Same H H' → H' q = some (.tup [.str "taken", .ref y]) → Q (.ref q) H'

theorem pair_refs : ∀ ys : List (Addr × Int × Str), Paired (fun (v : V) (p : Addr × Int × Str) => v = V.ref p.1) (ys.map fun p => V.ref p.1) ys
  | [] => .nil
  | _ :: ys => .cons rfl (pair_refs ys)

def gapOf (w : Str) (k c : Nat) : Str := cutS w none (some (k : Int)) ++ ⟨#[if c = 49 then 48 else 49]⟩
/-- no word begins with x -/
def Free (ws : List Str) (x : Str) : Prop := ∀ o ∈ ws, PySem.Txt.startswith o x = false
def GapIn (ws : List Str) (x : Str) : Prop := ∃ w ∈ ws, ∃ k c, w.cps.toList[k]? = some c ∧ x = gapOf w k c
abbrev sp__law_gaps (_ : PySem.W.Frag) (_ : Ad) : Sp := Sp1 fun v H Q _ => ∃ (p : Addr) (ws : List Str), v = .ref p ∧ H p = some (.lst (ws.map V.str)) ∧ ws.length ≤ 12 ∧ (∀ w ∈ ws, w.length ≤ 8) ∧
  ∀ q (gs : List Str) H', H' q = some (.lst (gs.map V.str)) → H q = none → (∀ x, x ∈ gs ↔ Free ws x ∧ GapIn ws x) → gs.Pairwise leW → gs.Nodup → gs.length ≤ 96 → Same H H' → Q (.ref q) H'
theorem gap_len {w : Str} {k c : Nat} : (gapOf w k c).length ≤ w.length + 1 := by
  unfold gapOf
  rw [PySem.Str.length_append]
  have := cutS_length w none (some (k : Int))
  show _ + 1 ≤ _
  omega
theorem dIntE {a b : Int} : decide (V.int a = V.int b) = decide (a = b) := decide_eq_decide.mpr ⟨fun h => by injection h, fun h => by rw [h]⟩
theorem free_len {ws : List Str} {x : Str} : decide (((((ws.filter fun o => PySem.Txt.startswith o x).map id).map V.str).length : Int) = 0) = true ↔ Free ws x := by
  rw [List.length_map, List.length_map]
  constructor
  · intro h o ho
    have h := of_decide_eq_true h
    have z : (ws.filter fun o => PySem.Txt.startswith o x) = [] := List.eq_nil_of_length_eq_zero (by omega)
    have q := List.filter_eq_nil_iff.mp z o ho
    simpa using q
  · intro h
    have z : (ws.filter fun o => PySem.Txt.startswith o x) = [] := List.filter_eq_nil_iff.mpr fun o ho => by rw [h o ho]; decide
    rw [z]
    rfl
theorem gapin_snoc {ws : List Str} {i : Nat} {w : Str} {x : Str} (h : ws[i]? = some w) : GapIn (ws.take (i + 1)) x ↔ GapIn (ws.take i) x ∨ ∃ k c, w.cps.toList[k]? = some c ∧ x = gapOf w k c := by
  rw [take_snoc h]
  unfold GapIn
  constructor
  · rintro ⟨y, hy, k, c, h1, h2⟩
    rcases List.mem_append.mp hy with hy | hy
    · exact .inl ⟨y, hy, k, c, h1, h2⟩
    · rw [List.mem_singleton.mp hy] at h1 h2
      exact .inr ⟨k, c, h1, h2⟩
  · rintro (⟨y, hy, k, c, h1, h2⟩ | ⟨k, c, h1, h2⟩)
    · exact ⟨y, List.mem_append_left _ hy, k, c, h1, h2⟩
    · exact ⟨w, List.mem_append_right _ (List.mem_singleton.mpr rfl), k, c, h1, h2⟩

theorem seq_ix {j n : Nat} (h : j < n) : PySem.seqIndex? (j : Int) n = some j := by
  unfold PySem.seqIndex?
  have h1 : ¬ ((j : Int) < 0) := by omega
  have h2 : (j : Int) < (n : Int) := by omega
  simp [h1, h2]
theorem erase_map {α β : Type} (f : α → β) : ∀ (l : List α) (j : Nat), (l.map f).eraseIdx j = (l.eraseIdx j).map f
  | [], _ => rfl
  | _ :: _, 0 => rfl
  | a :: l, j + 1 => congrArg (f a :: ·) (erase_map f l j)
theorem apart_apps {w x b : Str} (h : Apart w x) : Apart w (x ++ b) := by
  have h := (apart_iff _ _).mp h
  have e : (x ++ b).cps.toList = x.cps.toList ++ b.cps.toList := by
    show (x.cps ++ b.cps).toList = _
    simp
  refine (apart_iff _ _).mpr ⟨fun z => ?_, fun z => ?_⟩
  · rw [e] at z
    exact h.1 ((List.prefix_append _ _).trans z)
  · rw [e] at z
    rcases List.prefix_or_prefix_of_prefix z (List.prefix_append x.cps.toList b.cps.toList) with q | q
    · exact h.2 q
    · exact h.1 q
theorem apart_last {us vs : List Str} {w b : Str} (h : (us ++ (vs ++ [w])).Pairwise Apart) : (us ++ (vs ++ [w ++ b])).Pairwise Apart := by
  rw [← List.append_assoc] at h ⊢
  obtain ⟨h1, _, h3⟩ := List.pairwise_append.mp h
  refine List.pairwise_append.mpr ⟨h1, List.pairwise_singleton _ _, fun x hx y hy => ?_⟩
  rw [List.mem_singleton.mp hy]
  exact apart_apps (h3 x hx w (List.mem_singleton.mpr rfl))
theorem app_emp {w : Str} : w ++ ("" : Str) = w := by
  refine TL.ext_tl ?_
  rw [TL.tl_append, tl_empty, List.append_nil]
abbrev sp__law_draw_many_words (_ : PySem.W.Frag) (_ : Ad) : Sp := Sp1 fun a H Q _ => ∃ d : Dr, a = .ref d.p ∧ Rng d H ∧
  ∀ (q : Addr) (ws : List Str) H', H' q = some (.lst (ws.map V.str)) → q ≠ d.p → q ≠ d.l → H q = none → 1 ≤ ws.length → ws.length ≤ 10 → (∀ w ∈ ws, wordy w) → ws.Pairwise Apart → Chg d H H' → Rng d H' → Q (.ref q) H'
theorem app0 {x : Str} : x ++ ("0" : Str) = x ++ (⟨#[48]⟩ : Str) := by rw [show ("0" : Str) = ⟨#[48]⟩ from sgn0]
theorem app1 {x : Str} : x ++ ("1" : Str) = x ++ (⟨#[49]⟩ : Str) := by rw [show ("1" : Str) = ⟨#[49]⟩ from sgn1]
theorem wordy_0 {w : Str} (h : wordy w) (l : w.length ≤ 7) : wordy (w ++ "0") ∧ wordy (w ++ "1") := by
  obtain ⟨a, b, _⟩ := wordy_bits h
  rw [app0, app1]
  exact ⟨wordy_of (bits_app a (.inl rfl)) (by rw [app_len1]; omega) (by rw [app_len1]; omega), wordy_of (bits_app a (.inr rfl)) (by rw [app_len1]; omega) (by rw [app_len1]; omega)⟩
theorem bits_cat {x : Str} {cs : List Nat} (h : okBits (.str x) = true) (hc : ∀ c ∈ cs, bit c) : okBits (.str (x ++ (⟨cs.toArray⟩ : Str))) = true := by
  show ((x ++ (⟨cs.toArray⟩ : Str)).cps.toList.all fun c => decide (c = 48) || decide (c = 49)) = true
  have e : (x ++ (⟨cs.toArray⟩ : Str)).cps.toList = x.cps.toList ++ cs := by
    show (x.cps ++ cs.toArray).toList = _
    simp
  rw [e, List.all_append]
  have h1 : (x.cps.toList.all fun c => decide (c = 48) || decide (c = 49)) = true := h
  rw [h1, Bool.true_and]
  exact List.all_eq_true.mpr fun c hcc => bit_ok (hc c hcc)

theorem wordy01 : ∀ w ∈ [("0" : Str), "1"], wordy w ∧ w.length ≤ 7 := by
  intro w hw
  rcases List.mem_cons.mp hw with e | hw
  · rw [e]; exact ⟨by unfold wordy; decide +kernel, by decide +kernel⟩
  · rw [List.mem_singleton.mp hw]; exact ⟨by unfold wordy; decide +kernel, by decide +kernel⟩

theorem cut_cps {z : Str} {n : Nat} : (cutS z none (some (n : Int))).cps.toList = z.cps.toList.take n := by
  unfold cutS
  simp [HT.sIx_none, HT.sIx_nat]
  have : z.length = z.cps.size := rfl
  omega
theorem cut_wordy {z : Str} {n : Nat} (h : okBits (.str z) = true) (h1 : 1 ≤ z.length) (n1 : 1 ≤ n) (n8 : n ≤ 8) : wordy (cutS z none (some (n : Int))) := by
  have e := cut_cps (z := z) (n := n)
  have l : (cutS z none (some (n : Int))).length = min n z.length := by
    show (cutS z none (some (n : Int))).cps.size = _
    rw [← Array.length_toList, e, List.length_take, Array.length_toList]
    rfl
  refine wordy_of ?_ (by omega) (by omega)
  show ((cutS z none (some (n : Int))).cps.toList.all _) = true
  rw [e]
  have h2 : (z.cps.toList.all fun c => decide (c = 48) || decide (c = 49)) = true := h
  exact List.all_eq_true.mpr fun c hc => List.all_eq_true.mp h2 c (List.mem_of_mem_take hc)
theorem gap_wordy {w : Str} {k c : Nat} (h : wordy w) (hk : w.cps.toList[k]? = some c) : wordy (gapOf w k c) := by
  obtain ⟨a, b, e⟩ := wordy_bits h
  have lw : w.cps.toList.length = w.length := rfl
  have kl : k < w.length := by rw [← lw]; exact (List.getElem?_eq_some_iff.mp hk).1
  have lc : (cutS w none (some (k : Int))).length = k := by
    show (cutS w none (some (k : Int))).cps.size = _
    rw [← Array.length_toList, cut_cps, List.length_take, lw]
    omega
  unfold gapOf
  refine wordy_of ?_ (by rw [app_len1]; omega) (by rw [app_len1]; omega)
  refine bits_app ?_ ?_
  · show ((cutS w none (some (k : Int))).cps.toList.all fun c => decide (c = 48) || decide (c = 49)) = true
    rw [cut_cps]
    have h2 : (w.cps.toList.all fun c => decide (c = 48) || decide (c = 49)) = true := a
    exact List.all_eq_true.mpr fun c hc => List.all_eq_true.mp h2 c (List.mem_of_mem_take hc)
  · by_cases hc : c = 49
    · rw [if_pos hc]; exact .inl rfl
    · rw [if_neg hc]; exact .inr rfl
theorem TupKeep.chgR {d : Dr} {H H' : Hp} (r : Rng d H) (e : Chg d H H') : TupKeep H H' := TupKeep.chg r e
theorem bits_word {cs : List Nat} (h : ∀ c ∈ cs, bit c) (h1 : 1 ≤ cs.length) (h8 : cs.length ≤ 8) : wordy ⟨cs.toArray⟩ := by
  refine wordy_of ?_ (by rw [list_len]; exact h1) (by rw [list_len]; exact h8)
  show ((⟨cs.toArray⟩ : Str).cps.toList.all fun c => decide (c = 48) || decide (c = 49)) = true
  exact List.all_eq_true.mpr fun c hc => bit_ok (h c (by simpa using hc))
abbrev sp__law_draw_way (_ : PySem.W.Frag) (_ : Ad) : Sp := Sp3 fun a b c H Q _ => ∃ (d : Dr) (p u : Addr) (ws us : List Str), a = .ref d.p ∧ b = .ref p ∧ c = .ref u ∧ Rng d H ∧ p ≠ d.p ∧ u ≠ d.p ∧ H p = some (.lst (ws.map V.str)) ∧ H u = some (.lst (us.map V.str)) ∧ ws.length ≤ 12 ∧ (∀ w ∈ ws, wordy w) ∧ 1 ≤ us.length ∧ us.length ≤ 12 ∧ (∀ n ∈ us, okName (.str n) = true) ∧
  ∀ v w H', DAt H' v w → w.Ok → (Sml w.inner ∨ (w.door = false ∧ w.inner = .bits 2)) → Chg d H H' → Rng d H' → Q v H'

/-! ================= the free words of a choice: way_words and the gaps of the law ================= -/
/-- shorter, or as long and ahead -/
def ltW (x y : Str) : Prop := x.length < y.length ∨ (x.length = y.length ∧ TL.tl x < TL.tl y)
theorem len_tl (x : Str) : x.length = (TL.tl x).length := rfl
theorem ltW_irrefl (x : Str) : ¬ ltW x x := by
  rintro (h | ⟨_, h⟩)
  · omega
  · exact List.lt_irrefl _ h
theorem ltW_trans {x y z : Str} (h1 : ltW x y) (h2 : ltW y z) : ltW x z := by
  unfold ltW at *
  rcases h1 with h1 | ⟨h1, k1⟩ <;> rcases h2 with h2 | ⟨h2, k2⟩
  · exact .inl (by omega)
  · exact .inl (by omega)
  · exact .inl (by omega)
  · exact .inr ⟨by omega, List.lt_trans k1 k2⟩
theorem leW_ltW {x y : Str} (h : leW x y) (n : x ≠ y) : ltW x y := by
  rcases h with h | ⟨h, k⟩
  · exact .inl (by have : (x.length : Int) < y.length := h; omega)
  · refine .inr ⟨by have : (x.length : Int) = y.length := h; omega, ?_⟩
    have k : TL.tl x ≤ TL.tl y := k
    rcases Decidable.em (TL.tl x < TL.tl y) with q | q
    · exact q
    · exact absurd (TL.ext_tl (List.le_antisymm k (List.not_lt.mp q))) n
/-- strictly ascending lists with the same members are one -/
theorem asc_uniq : ∀ {l m : List Str}, l.Pairwise ltW → m.Pairwise ltW → (∀ x, x ∈ l ↔ x ∈ m) → l = m
  | [], [], _, _, _ => rfl
  | [], y :: m, _, _, h => nomatch (h y).mpr (List.mem_cons_self ..)
  | x :: l, [], _, _, h => nomatch (h x).mp (List.mem_cons_self ..)
  | x :: l, y :: m, hl, hm, h => by
    obtain ⟨l1, l2⟩ := List.pairwise_cons.mp hl
    obtain ⟨m1, m2⟩ := List.pairwise_cons.mp hm
    have e : x = y := by
      rcases List.mem_cons.mp ((h x).mp (List.mem_cons_self ..)) with e | hx
      · exact e
      · rcases List.mem_cons.mp ((h y).mpr (List.mem_cons_self ..)) with e | hy
        · exact e.symm
        · exact absurd (ltW_trans (m1 x hx) (l1 y hy)) (ltW_irrefl _)
    subst e
    congr 1
    refine asc_uniq l2 m2 fun z => ?_
    constructor
    · intro hz
      rcases List.mem_cons.mp ((h z).mp (List.mem_cons_of_mem _ hz)) with e | q
      · subst e; exact absurd (l1 z hz) (ltW_irrefl _)
      · exact q
    · intro hz
      rcases List.mem_cons.mp ((h z).mpr (List.mem_cons_of_mem _ hz)) with e | q
      · subst e; exact absurd (m1 z hz) (ltW_irrefl _)
      · exact q
theorem lt_app : ∀ {a b x y : List Nat}, a.length = b.length → a < b → a ++ x < b ++ y
  | [], [], _, _, _, h => absurd h (List.lt_irrefl _)
  | [], _ :: _, _, _, l, _ => by cases l
  | _ :: _, [], _, _, l, _ => by cases l
  | a :: as, b :: bs, x, y, l, h => by
    have h := List.cons_lt_cons_iff.mp h
    show a :: (as ++ x) < b :: (bs ++ y)
    refine List.cons_lt_cons_iff.mpr ?_
    rcases h with h | ⟨h, k⟩
    · exact .inl h
    · exact .inr ⟨h, lt_app (by simpa using l) k⟩
theorem lt_last : ∀ (a : List Nat), a ++ [48] < a ++ [49]
  | [] => by decide
  | c :: cs => List.cons_lt_cons_iff.mpr (.inr ⟨rfl, lt_last cs⟩)
theorem tl0 : TL.tl ("0" : Str) = [48] := by decide +kernel
theorem tl1 : TL.tl ("1" : Str) = [49] := by decide +kernel
theorem tl_0 (x : Str) : TL.tl (x ++ "0") = TL.tl x ++ [48] := by rw [TL.tl_append, tl0]
theorem tl_1 (x : Str) : TL.tl (x ++ "1") = TL.tl x ++ [49] := by rw [TL.tl_append, tl1]
theorem ext_asc : ∀ {hs : List Str} {i : Nat}, (∀ h ∈ hs, h.length = i) → hs.Pairwise ltW → (extW hs).Pairwise ltW
  | [], _, _, _ => .nil
  | h :: hs, i, hl, pw => by
    obtain ⟨p1, p2⟩ := List.pairwise_cons.mp pw
    have ih := ext_asc (fun x hx => hl x (List.mem_cons_of_mem _ hx)) p2
    have lh := hl h (List.mem_cons_self ..)
    have far : ∀ b : Str, b = "0" ∨ b = "1" → ∀ y ∈ extW hs, ltW (h ++ b) y := by
      intro b hb y hy
      obtain ⟨z, hz, e⟩ := ext_mem hy
      have lz := hl z (List.mem_cons_of_mem _ hz)
      have lt : TL.tl h < TL.tl z := by
        rcases p1 z hz with q | ⟨_, q⟩
        · omega
        · exact q
      have lb : b.length = 1 := by rcases hb with rfl | rfl <;> rfl
      have ly : y.length = i + 1 := by rcases e with rfl | rfl <;> (rw [PySem.Str.length_append, lz]; rfl)
      refine .inr ⟨by rw [PySem.Str.length_append, lh, lb, ly], ?_⟩
      rw [TL.tl_append]
      have ll : (TL.tl h).length = (TL.tl z).length := by rw [← len_tl, ← len_tl, lh, lz]
      rcases e with rfl | rfl
      · rw [TL.tl_append]; exact lt_app ll lt
      · rw [TL.tl_append]; exact lt_app ll lt
    show ([h ++ "0", h ++ "1"] ++ extW hs).Pairwise ltW
    refine List.pairwise_append.mpr ⟨List.pairwise_cons.mpr ⟨fun y hy => ?_, List.pairwise_singleton _ _⟩, ih, fun x hx y hy => ?_⟩
    · rw [List.mem_singleton.mp hy]
      refine .inr ⟨by rw [PySem.Str.length_append, PySem.Str.length_append]; rfl, ?_⟩
      rw [tl_0, tl_1]
      exact lt_last _
    · rcases List.mem_cons.mp hx with e | hx
      · rw [e]; exact far _ (.inl rfl) y hy
      · rw [List.mem_singleton.mp hx]; exact far _ (.inr rfl) y hy
theorem hs_asc (ws : List Str) : ∀ i, (hsAt ws i).Pairwise ltW
  | 0 => List.pairwise_singleton _ _
  | i + 1 => (ext_asc (hs_len ws i).2 (hs_asc ws i)).filter _
theorem ext_lens {hs : List Str} {i : Nat} (h : ∀ y ∈ hs, y.length = i) : ∀ x ∈ extW hs, x.length = i + 1 := by
  intro x hx
  obtain ⟨z, hz, e⟩ := ext_mem hx
  rcases e with rfl | rfl <;> (rw [PySem.Str.length_append, h z hz]; rfl)
theorem fo_asc (ws : List Str) : ∀ m, (foAt ws m).Pairwise ltW ∧ ∀ x ∈ foAt ws m, x.length ≤ m
  | 0 => ⟨.nil, fun x hx => nomatch hx⟩
  | m + 1 => by
    obtain ⟨h1, h2⟩ := fo_asc ws m
    have hl := ext_lens (hs_len ws m).2
    refine ⟨List.pairwise_append.mpr ⟨h1, (ext_asc (hs_len ws m).2 (hs_asc ws m)).filter _, fun x hx y hy => .inl ?_⟩, fun x hx => ?_⟩
    · have := h2 x hx
      have := hl y (List.mem_filter.mp hy).1
      omega
    · rcases List.mem_append.mp hx with hx | hx
      · have := h2 x hx; omega
      · have := hl x (List.mem_filter.mp hx).1; omega
theorem fo_mem (ws : List Str) : ∀ m x, x ∈ foAt ws m ↔ ∃ i, i < m ∧ x ∈ extW (hsAt ws i) ∧ newB ws x = true
  | 0, x => ⟨(fun h => nomatch h), fun ⟨i, h, _⟩ => absurd h (Nat.not_lt_zero _)⟩
  | m + 1, x => by
    show x ∈ foAt ws m ++ (extW (hsAt ws m)).filter (newB ws) ↔ _
    rw [List.mem_append, fo_mem ws m x, List.mem_filter]
    constructor
    · rintro (⟨i, h1, h2⟩ | h)
      · exact ⟨i, by omega, h2⟩
      · exact ⟨m, by omega, h⟩
    · rintro ⟨i, h1, h2⟩
      rcases Nat.lt_succ_iff_lt_or_eq.mp h1 with l | l
      · exact .inl ⟨i, l, h2⟩
      · subst l; exact .inr h2
theorem sw_self (x : Str) : PySem.Txt.startswith x x = true := (sw_iff _ _).mpr (List.prefix_refl _)
theorem new_free (ws : List Str) (x : Str) : newB ws x = true ↔ Free ws x := by
  unfold newB behB Free
  rw [Bool.and_eq_true, Bool.not_eq_true', Bool.not_eq_true']
  constructor
  · rintro ⟨h1, h2⟩ o ho
    by_cases e : o = x
    · subst e
      exact absurd ho (of_decide_eq_false h2)
    · have q := List.any_eq_false.mp h1 o ho
      rw [decide_eq_false e] at q
      simpa using q
  · intro h
    refine ⟨List.any_eq_false.mpr fun o ho => by rw [h o ho]; simp, decide_eq_false fun hx => ?_⟩
    have := h x hx
    rw [sw_self] at this
    cases this
/-- the heads are the beginnings of words that go on -/
theorem hs_mem {ws : List Str} (hb : ∀ w ∈ ws, wordy w) (hn : ws ≠ []) : ∀ i x, x ∈ hsAt ws i ↔ ∃ o ∈ ws, x = cutS o none (some (i : Int)) ∧ i < o.length
  | 0, x => by
    constructor
    · intro h
      have e := List.mem_singleton.mp h
      obtain ⟨o, ho⟩ := List.exists_mem_of_ne_nil ws hn
      refine ⟨o, ho, TL.ext_tl ?_, by have := (wordy_bits (hb o ho)).2.1; omega⟩
      rw [e, show TL.tl (cutS o none (some ((0 : Nat) : Int))) = (TL.tl o).take 0 from cut_cps, List.take_zero]
      exact tl_empty
    · rintro ⟨o, ho, e, _⟩
      refine List.mem_singleton.mpr (TL.ext_tl ?_)
      rw [e, show TL.tl (cutS o none (some ((0 : Nat) : Int))) = (TL.tl o).take 0 from cut_cps, List.take_zero]
      exact tl_empty.symm
  | i + 1, x => by
    have ih := hs_mem hb hn i
    show x ∈ (extW (hsAt ws i)).filter (behB ws) ↔ _
    rw [List.mem_filter]
    constructor
    · rintro ⟨h1, h2⟩
      obtain ⟨o, ho, q⟩ := List.any_eq_true.mp h2
      rw [Bool.and_eq_true, Bool.not_eq_true'] at q
      obtain ⟨q1, q2⟩ := q
      have ne := of_decide_eq_false q1
      have pre : TL.tl x <+: TL.tl o := (sw_iff _ _).mp q2
      have lx : x.length = i + 1 := ext_lens (hs_len ws i).2 x h1
      have lt : i + 1 < o.length := by
        rcases Nat.lt_or_ge (i + 1) o.length with l | l
        · exact l
        · exfalso
          have := pre.length_le
          rw [← len_tl, ← len_tl] at this
          exact ne (TL.ext_tl (pre.eq_of_length (by rw [← len_tl, ← len_tl]; omega))).symm
      refine ⟨o, ho, TL.ext_tl ?_, lt⟩
      rw [show TL.tl (cutS o none (some ((i + 1 : Nat) : Int))) = (TL.tl o).take (i + 1) from cut_cps]
      have := List.prefix_iff_eq_take.mp pre
      rw [this, ← len_tl, lx]
    · rintro ⟨o, ho, e, lt⟩
      have ex : TL.tl x = (TL.tl o).take (i + 1) := by rw [e]; exact cut_cps
      have lo : i < (TL.tl o).length := by rw [← len_tl]; omega
      have ey : TL.tl (cutS o none (some (i : Int))) = (TL.tl o).take i := cut_cps
      have hy : cutS o none (some (i : Int)) ∈ hsAt ws i := (ih _).mpr ⟨o, ho, rfl, by omega⟩
      have hc : (TL.tl o)[i]? = some (TL.tl o)[i] := List.getElem?_eq_getElem lo
      have bo := (wordy_bits (hb o ho)).1
      have bo : ((TL.tl o).all fun c => decide (c = 48) || decide (c = 49)) = true := bo
      have bc := List.all_eq_true.mp bo (TL.tl o)[i] (List.getElem_mem lo)
      have ex2 : TL.tl x = TL.tl (cutS o none (some (i : Int))) ++ [(TL.tl o)[i]] := by
        rw [ex, ey, take_snoc hc]
      generalize (TL.tl o)[i] = c at bc ex2
      refine ⟨List.mem_flatMap.mpr ⟨_, hy, ?_⟩, List.any_eq_true.mpr ⟨o, ho, ?_⟩⟩
      · rw [Bool.or_eq_true] at bc
        rcases bc with b | b
        · have b := of_decide_eq_true b
          subst b
          exact List.mem_cons.mpr (.inl (TL.ext_tl (by rw [ex2, tl_0])))
        · have b := of_decide_eq_true b
          subst b
          exact List.mem_cons_of_mem _ (List.mem_singleton.mpr (TL.ext_tl (by rw [ex2, tl_1])))
      · rw [Bool.and_eq_true, Bool.not_eq_true']
        refine ⟨decide_eq_false fun q => ?_, (sw_iff _ _).mpr ?_⟩
        · have l := congrArg Str.length q
          have : x.length = (TL.tl x).length := rfl
          rw [ex, List.length_take] at this
          have : (TL.tl o).length = o.length := rfl
          omega
        · show TL.tl x <+: TL.tl o
          rw [ex]
          exact List.take_prefix _ _
/-- way_words tells just the gaps -/
theorem way_gaps {ws : List Str} (hb : ∀ w ∈ ws, wordy w) (hn : ws ≠ []) (m : Nat) (x : Str) : x ∈ wayW ws m ↔ (Free ws x ∧ GapIn ws x) ∧ x.length ≤ m := by
  show x ∈ foAt ws m ↔ _
  rw [fo_mem]
  have bit1 : ∀ o ∈ ws, ∀ c, c ∈ TL.tl o → c = 48 ∨ c = 49 := fun o ho c hc => by
    have bo := (wordy_bits (hb o ho)).1
    have bo : ((TL.tl o).all fun c => decide (c = 48) || decide (c = 49)) = true := bo
    have bc := List.all_eq_true.mp bo c hc
    rw [Bool.or_eq_true] at bc
    exact bc.elim (fun b => .inl (of_decide_eq_true b)) fun b => .inr (of_decide_eq_true b)
  constructor
  · rintro ⟨i, hi, hx, nw⟩
    have fr := (new_free ws x).mp nw
    have lx : x.length = i + 1 := ext_lens (hs_len ws i).2 x hx
    obtain ⟨y, hy, e⟩ := ext_mem hx
    obtain ⟨o, ho, ey, lt⟩ := (hs_mem hb hn i y).mp hy
    have lo : i < (TL.tl o).length := lt
    have hc : (TL.tl o)[i]? = some (TL.tl o)[i] := List.getElem?_eq_getElem lo
    have bc := bit1 o ho _ (List.getElem_mem lo)
    have ety : TL.tl y = (TL.tl o).take i := by rw [ey]; exact cut_cps
    have pre : ∀ c, (TL.tl o)[i]? = some c → ¬ TL.tl x = TL.tl y ++ [c] := by
      intro c h q
      have z := fr o ho
      have : PySem.Txt.startswith o x = true := (sw_iff _ _).mpr (by
        show TL.tl x <+: TL.tl o
        rw [q, ety, ← take_snoc h]
        exact List.take_prefix _ _)
      rw [z] at this
      cases this
    refine ⟨⟨fr, o, ho, i, (TL.tl o)[i], hc, ?_⟩, by omega⟩
    have q := pre _ hc
    generalize (TL.tl o)[i] = c at bc q
    refine TL.ext_tl ?_
    have eg : TL.tl (gapOf o i c) = TL.tl y ++ [if c = 49 then 48 else 49] := by
      unfold gapOf
      rw [TL.tl_append, show TL.tl (cutS o none (some (i : Int))) = (TL.tl o).take i from cut_cps, ety]
      first | done | rfl
    rw [eg]
    rcases e with rfl | rfl
    · rw [tl_0] at q ⊢
      rcases bc with rfl | rfl
      · exact absurd rfl q
      · rw [if_pos rfl]
    · rw [tl_1] at q ⊢
      rcases bc with rfl | rfl
      · rw [if_neg (by decide)]
      · exact absurd rfl q
  · rintro ⟨⟨fr, o, ho, k, c, hc, e⟩, lm⟩
    have lk : k < o.length := (List.getElem?_eq_some_iff.mp hc).1
    have ex : TL.tl x = TL.tl (cutS o none (some (k : Int))) ++ [if c = 49 then 48 else 49] := by
      rw [e]
      unfold gapOf
      rw [TL.tl_append]
      first | done | rfl
    have lx : x.length = k + 1 := by
      have : x.length = (TL.tl x).length := rfl
      rw [this, ex, List.length_append, show TL.tl (cutS o none (some (k : Int))) = (TL.tl o).take k from cut_cps, List.length_take]
      have : (TL.tl o).length = o.length := rfl
      show min k _ + 1 = _
      omega
    refine ⟨k, by omega, List.mem_flatMap.mpr ⟨_, (hs_mem hb hn k _).mpr ⟨o, ho, rfl, lk⟩, ?_⟩, (new_free ws x).mpr fr⟩
    by_cases h : c = 49
    · rw [if_pos h] at ex
      exact List.mem_cons.mpr (.inl (TL.ext_tl (by rw [ex, tl_0])))
    · rw [if_neg h] at ex
      exact List.mem_cons_of_mem _ (List.mem_singleton.mpr (TL.ext_tl (by rw [ex, tl_1])))
/-- what the law wants of them -/
theorem gaps_due {ws gs : List Str} (hb : ∀ w ∈ ws, wordy w) (hn : ws ≠ []) (mem : ∀ x, x ∈ gs ↔ Free ws x ∧ GapIn ws x) (srt : gs.Pairwise leW) (nd : gs.Nodup) (m : Nat) : gs.filter (fun x => decide (x.length ≤ m)) = wayW ws m := by
  refine asc_uniq ?_ (fo_asc ws m).1 fun x => ?_
  · exact (srt.and nd).imp (fun h => leW_ltW h.1 h.2) |>.filter _
  · rw [List.mem_filter, mem, way_gaps hb hn, decide_eq_true_iff]

abbrev sp__law_way_reason (_ : PySem.W.Frag) (_ : Ad) : Sp := Sp2 fun a b H Q _ => ∃ (p : Addr) (vs : List V) (ds : List WD) (w : WD), a = .ref p ∧ H p = some (.lst vs) ∧ Paired (DAt H) vs ds ∧ ds.length ≤ 12 ∧ DAt H b w ∧ ∀ H', Same H H' → Q (.str ((wayWhy (ds.map WD.kd) w.kd).getD "")) H'

theorem kd_word (w : WD) : wordK w.kd = w.word := by
  obtain ⟨d, a, b, c⟩ := w
  cases d <;> rfl
theorem kd_name (w : WD) : nameK w.kd = w.name := by
  obtain ⟨d, a, b, c⟩ := w
  cases d <;> rfl
theorem why_name (ds : List WD) (w : WD) : decide (w.name ∈ ds.map WD.name) = (ds.map WD.kd).any fun z => decide (nameK z = nameK w.kd) := by
  rw [kd_name]
  induction ds with
  | nil => rfl
  | cons d ds ih =>
    rw [List.map_cons, List.map_cons, List.any_cons, ← ih, kd_name]
    by_cases e : d.name = w.name
    · rw [decide_eq_true e, e]
      simp
    · rw [decide_eq_false e, Bool.false_or]
      exact decide_eq_decide.mpr ⟨fun h => (List.mem_cons.mp h).elim (fun z => absurd z.symm e) id, fun h => List.mem_cons_of_mem _ h⟩
theorem why_word (ds : List WD) (w : WD) : ((ds.map WD.kd).any fun z => pre2 (wordK z) (wordK w.kd)) = ds.any fun d => pre2 d.word w.word := by
  rw [kd_word, List.any_map]
  congr 1
  funext d
  show pre2 (wordK d.kd) w.word = _
  rw [kd_word]

abbrev sp__law_words_right (_ : PySem.W.Frag) (A : Ad) : Sp := Sp4 fun a b c e H Q _ => ∃ (x : Addr) (tb : Tb) (r : Str) (ct : Int) (n : Str) (p : Addr) (vs : List V) (ds : List WD) (m : Nat), a = .ref x ∧ EdAt A H x tb r ct ∧ tb.length ≤ 20 ∧ b = .str n ∧ okN n ∧ tb.lookup n = some (.choice (ds.map WD.kd)) ∧ c = .ref p ∧ H p = some (.lst vs) ∧ Paired (DAt H) vs ds ∧ 1 ≤ ds.length ∧ ds.length ≤ 12 ∧ (∀ d ∈ ds, wordy d.word) ∧ e = .int (m : Int) ∧ m ≤ 16 ∧ ∀ H', Same H H' → Q (.bl true) H'

theorem kd_words (ds : List WD) : (ds.map WD.kd).map wordK = ds.map WD.word := by
  rw [List.map_map]
  congr 1
  funext d
  exact kd_word d
theorem kd_names (ds : List WD) : (ds.map WD.kd).map nameK = ds.map WD.name := by
  rw [List.map_map]
  congr 1
  funext d
  exact kd_name d
theorem atoms_str (l : List Str) : ∀ x ∈ l.map V.str, Atom x := by
  intro x hx
  obtain ⟨w, _, rfl⟩ := List.mem_map.mp hx
  trivial
theorem le_int (s : Nat) (l : List Str) : (l.filter fun w => decide ((w.length : Int) ≤ (s : Int))) = l.filter fun w => decide (w.length ≤ s) := by
  congr 1
  funext w
  exact decide_eq_decide.mpr Int.ofNat_le

theorem gaps_short {ws : List Str} (gs : List Str) (mem : ∀ x, x ∈ gs ↔ Free ws x ∧ GapIn ws x) (h8 : ∀ w ∈ ws, w.length ≤ 8) : ∀ x ∈ gs, x.length ≤ 9 := by
  intro x hx
  obtain ⟨_, w, hw, k, c, _, e⟩ := (mem x).mp hx
  have := h8 w hw
  have := gap_len (w := w) (k := k) (c := c)
  rw [← e] at this
  omega

/-- != of two ways or two doors -/
def rNeWD (A : Ad) : R2 := fun x y H Q => ∃ d : Kd, KAt A H x d ∧ KAt A H y d ∧ (Td.k d).wd = true ∧ d.nn d = true ∧ Q (.bl (!(d.eqk d))) H
theorem op_neWD {X : Cx} {A : Ad} (hw : OpR X (compareOp .NotEq) (rNeO A.c_Way (spEq .way A))) (hd : OpR X (compareOp .NotEq) (rNeO A.c_Door (spEq .door A))) : OpR X (compareOp .NotEq) (rNeWD A) := by
  intro pins s σ H x y u v Q I rx ry h
  obtain ⟨d, k1, k2, w, nn, q⟩ := h
  cases d with
  | way a b c =>
    obtain ⟨p, dx, fs, rfl, hp⟩ := kat_ins k1 rfl
    obtain ⟨p2, dy, gs, rfl, hp2⟩ := kat_ins k2 rfl
    exact hw pins s σ H _ _ u v Q I rx ry ⟨p, p2, dx, dy, fs, gs, rfl, rfl, hp, hp2, _, _, rfl, _, _, k1, rfl, k2, nn, _, rfl, q⟩
  | door a b c =>
    obtain ⟨p, dx, fs, rfl, hp⟩ := kat_ins k1 rfl
    obtain ⟨p2, dy, gs, rfl, hp2⟩ := kat_ins k2 rfl
    exact hd pins s σ H _ _ u v Q I rx ry ⟨p, p2, dx, dy, fs, gs, rfl, rfl, hp, hp2, _, _, rfl, _, _, k1, rfl, k2, nn, _, rfl, q⟩
  | _ => cases w
abbrev sp__law_later_right (_ : PySem.W.Frag) (A : Ad) : Sp := Sp4 fun a b c e H Q _ => ∃ (x y : Addr) (tb tb2 : Tb) (r : Str) (ct : Int) (n : Str) (ks : List Kd) (p : Addr) (vs : List V) (ds : List WD), a = .ref x ∧ b = .ref y ∧ EdAt A H x tb r ct ∧ EdAt A H y tb2 r ct ∧ tb.length ≤ 20 ∧ tb2.length = 2 ∧ c = .str n ∧ tb.lookup n = some (.choice ks) ∧ tb2.lookup n = some (.choice (ds.map WD.kd)) ∧ e = .ref p ∧ H p = some (.lst vs) ∧ Paired (DAt H) vs ds ∧ ds.length = ks.length + 1 ∧ ds.length ≤ 12 ∧ (∀ d ∈ ds, d.Ok) ∧ ∀ H', Same H H' → Q (.bl true) H'

theorem mark_way {K : PySem.W.Frag} {mg : Str → Option Value} {A : Ad} (T : Txt K mg A) (d : WD) : (V.bl (isa (Td.tag A (Td.k d.kd)) (Value.ref A.c_Way))) = V.bl (decide (V.str (markD d) = V.str "way")) := by
  have e : isa (Td.tag A (Td.k d.kd)) (Value.ref A.c_Way) = decide ((Td.k d.kd).cls = some .way) := isa_kc T (.k d.kd) .way
  rw [e]
  obtain ⟨b, _, _, _⟩ := d
  cases b with
  | false =>
    refine congrArg V.bl ?_
    exact (decide_eq_true (rfl : some Kc.way = some Kc.way)).trans (decide_eq_true (rfl : V.str "way" = V.str "way")).symm
  | true =>
    refine congrArg V.bl ?_
    have h1 : ¬ some Kc.door = some Kc.way := by decide
    have h2 : ¬ V.str "door" = V.str "way" := fun z => absurd (show ("door" : Str) = "way" by injection z) (by decide +kernel)
    exact (decide_eq_false h1).trans (decide_eq_false h2).symm
theorem atoms_ri {r : Str} {c : Int} : ∀ x ∈ [V.str r, V.int c], Atom x := by
  intro x hx
  rcases List.mem_cons.mp hx with e | hx
  · rw [e]; trivial
  · rw [List.mem_singleton.mp hx]; trivial

/-! ================= the editions of k41 ================= -/
def Big (k : Kd) : Prop := k = .num 0 2 (some 2) ∨ k = .bits 2
structure DsOk (ds : List WD) : Prop where
  l1 : 1 ≤ ds.length
  l12 : ds.length ≤ 12
  ok : ∀ d ∈ ds, d.Ok
  sm : ∀ d ∈ ds, Sml d.inner ∨ (d.door = false ∧ Big d.inner)
  ap : (ds.map WD.word).Pairwise Apart
  nd : (ds.map WD.name).Nodup
  way : ∃ d ∈ ds, d.door = false
theorem kd_tw (d : WD) : (Td.k d.kd).word = d.word ∧ (Td.k d.kd).name = d.name ∧ (Td.k d.kd).wd = true := by
  obtain ⟨b, _, _, _⟩ := d
  cases b <;> exact ⟨rfl, rfl, rfl⟩
theorem kd_in (d : WD) : inK d.kd = d.inner := by
  obtain ⟨b, _, _, _⟩ := d
  cases b <;> rfl
theorem DsOk.ways {ds : List WD} (h : DsOk ds) : okWays ((ds.map WD.kd).map Td.k) = true := by
  have good : goodW [] ((ds.map WD.kd).map Td.k) = true := by
    refine good_of _ _ (fun t ht => ?_) ?_
    · obtain ⟨k, hk, rfl⟩ := List.mem_map.mp ht
      obtain ⟨d, _, rfl⟩ := List.mem_map.mp hk
      exact (kd_tw d).2.2
    · rw [List.nil_append, List.map_map, List.pairwise_map]
      have a := List.pairwise_map.mp h.ap
      have n := List.pairwise_map.mp h.nd
      refine (a.and n).imp fun {o t} q => ?_
      show pre2 (Td.k t.kd).word (Td.k o.kd).word = false ∧ ¬ (Td.k t.kd).name = (Td.k o.kd).name
      rw [(kd_tw t).1, (kd_tw o).1, (kd_tw t).2.1, (kd_tw o).2.1]
      exact ⟨apart_symm q.1, fun z => q.2 z.symm⟩
  unfold okWays
  rw [List.length_map, List.length_map, decide_eq_true h.l1, decide_eq_true h.l12, good, Bool.true_and, Bool.true_and, Bool.true_and]
  obtain ⟨d, hd, hw⟩ := h.way
  refine List.any_eq_true.mpr ⟨_, List.mem_map_of_mem (List.mem_map_of_mem hd), ?_⟩
  obtain ⟨b, _, _, _⟩ := d
  subst hw
  rfl
theorem DsOk.snoc {ds : List WD} {w : WD} (h : DsOk ds) (ok : w.Ok) (sm : Sml w.inner ∨ (w.door = false ∧ Big w.inner)) (nw : wayWhy (ds.map WD.kd) w.kd = none) : DsOk (ds ++ [w]) := by
  have n1 : ¬ 12 ≤ (ds.map WD.kd).length := fun z => by
    rw [show wayWhy (ds.map WD.kd) w.kd = some "many" from if_pos z] at nw
    cases nw
  have n2 : ¬ ((ds.map WD.kd).any fun z => decide (nameK z = nameK w.kd)) = true := fun z => by
    rw [show wayWhy (ds.map WD.kd) w.kd = some "same" from (if_neg n1).trans (if_pos z)] at nw
    cases nw
  have n3 : ¬ ((ds.map WD.kd).any fun z => pre2 (wordK z) (wordK w.kd)) = true := fun z => by
    rw [show wayWhy (ds.map WD.kd) w.kd = some "word" from (if_neg n1).trans ((if_neg n2).trans (if_pos z))] at nw
    cases nw
  rw [List.length_map] at n1
  rw [← why_name] at n2
  rw [why_word] at n3
  have l := List.length_append (as := ds) (bs := [w])
  have l' : (ds ++ [w]).length = ds.length + 1 := l
  refine ⟨by omega, by omega, fun d hd => ?_, fun d hd => ?_, ?_, ?_, ?_⟩
  · rcases List.mem_append.mp hd with hd | hd
    · exact h.ok d hd
    · rw [List.mem_singleton.mp hd]; exact ok
  · rcases List.mem_append.mp hd with hd | hd
    · exact h.sm d hd
    · rw [List.mem_singleton.mp hd]; exact sm
  · rw [List.map_append]
    refine List.pairwise_append.mpr ⟨h.ap, List.pairwise_singleton _ _, fun x hx y hy => ?_⟩
    rw [List.mem_singleton.mp hy]
    obtain ⟨d, hd, rfl⟩ := List.mem_map.mp hx
    show pre2 d.word w.word = false
    cases e : pre2 d.word w.word with
    | false => rfl
    | true => exact absurd (List.any_eq_true.mpr ⟨d, hd, e⟩) n3
  · rw [List.map_append]
    refine List.nodup_append.mpr ⟨h.nd, List.nodup_cons.mpr ⟨(fun z => nomatch z), List.nodup_nil⟩, fun x hx y hy z => ?_⟩
    rw [List.mem_singleton.mp hy] at z
    exact n2 (decide_eq_true (by rw [← z]; exact hx))
  · obtain ⟨d, hd, hw⟩ := h.way
    exact ⟨d, List.mem_append.mpr (.inl hd), hw⟩
/-- the table of k41 -/
def wayTb (x y : Str) (ds : List WD) (b : Int) : Tb := [(y, .row [.part "a" (.call x), .part "b" (.bits b)]), (x, .choice (ds.map WD.kd))]
theorem way_look {x y : Str} {ds : List WD} {b : Int} (n : x ≠ y) : (wayTb x y ds b).lookup x = some (.choice (ds.map WD.kd)) ∧ (wayTb x y ds b).lookup y = some (.row [.part "a" (.call x), .part "b" (.bits b)]) := by
  have e : (x == y) = false := by simpa using n
  unfold wayTb
  refine ⟨?_, by simp [List.lookup]⟩
  rw [List.lookup_cons, e]
  simp [List.lookup]
theorem way_set {x y : Str} {ds : List WD} {b : Int} {w : WD} (n : x ≠ y) : setTb (wayTb x y ds b) x (.choice (ds.map WD.kd ++ [w.kd])) = wayTb x y (ds ++ [w]) b := by
  unfold setTb wayTb
  rw [List.map_cons, List.map_cons, List.map_nil, if_neg (fun z => n (Eq.symm z)), if_pos rfl, List.map_append]
  rfl
theorem sml_fit {k : Kd} (h : Sml k ∨ Big k) : k.fit := by
  rcases h with (rfl | rfl | rfl | rfl) | rfl | rfl
  · rw [Kd.fit]; trivial
  · rw [Kd.fit]; trivial
  · rw [Kd.fit]; exact ⟨by decide, by decide⟩
  · rw [Kd.fit]; exact ⟨by decide, by decide, fun i z => nomatch z⟩
  · rw [Kd.fit]; exact ⟨by decide, by decide, fun i hi => by have := Option.some.inj hi; omega⟩
  · rw [Kd.fit]; exact ⟨by decide, by decide⟩
theorem kd_fit {d : WD} (ok : d.Ok) (sm : Sml d.inner ∨ (d.door = false ∧ Big d.inner)) : d.kd.fit := by
  have f := sml_fit (sm.imp_right (·.2))
  have lw := (wordy_bits ok.word).2.2
  have ln := name_len ok.name
  obtain ⟨b, w, n, k⟩ := d
  cases b
  · show (Kd.way w n k).fit
    rw [Kd.fit]
    exact ⟨lw, ln, f⟩
  · show (Kd.door w n k).fit
    rw [Kd.fit]
    exact ⟨lw, ln, f⟩
theorem kd_calls {d : WD} (sm : Sml d.inner ∨ (d.door = false ∧ Big d.inner)) : callOf (inK d.kd) = [] := by
  rw [kd_in]
  rcases sm with (h | h | h | h) | ⟨_, h | h⟩ <;> (rw [h]; rfl)
theorem DsOk.calls {ds : List WD} (h : DsOk ds) : callsK (.choice (ds.map WD.kd)) = [] := by
  refine List.flatMap_eq_nil_iff.mpr fun z hz => ?_
  obtain ⟨k, hk, rfl⟩ := List.mem_map.mp (List.mem_filter.mp hz).1
  obtain ⟨d, hd, rfl⟩ := List.mem_map.mp hk
  exact kd_calls (h.sm d hd)
theorem sml_short {k : Kd} {c : Int} {kn : Kn} (h : Sml k) (c1 : 1 ≤ c) (nn : k ≠ .none) : tp c ∉ lensK (tp c) kn k := by
  have t2 : (2 : Int) ≤ tp c := by
    obtain ⟨n, rfl⟩ : ∃ n : Nat, c = (n + 1 : Nat) := ⟨c.toNat - 1, by omega⟩
    show (2 : Int) ≤ 2 ^ (n + 1)
    have : (1 : Int) ≤ 2 ^ n := Int.pow_pos (by decide)
    rw [Int.pow_succ]
    omega
  intro hm
  rcases h with rfl | rfl | rfl | rfl
  · exact nn rfl
  · have := List.mem_singleton.mp (show tp c ∈ [(0 : Int)] from hm)
    omega
  · have := List.mem_singleton.mp (show tp c ∈ [min (tp c) 1] from hm)
    omega
  · have e : lensK (tp c) kn (.num 0 1 none) = [min (tp c) 1] := rfl
    rw [e] at hm
    have := List.mem_singleton.mp hm
    omega
theorem way_ok {x y r : Str} {ds : List WD} {b c : Int} (h : DsOk ds) (okx : okName (.str x) = true) (oky : okName (.str y) = true) (n : x ≠ y) (b1 : 1 ≤ b) (b3 : b ≤ 3) (hr : r ∈ [x, y]) (c1 : 1 ≤ c) (c5 : c ≤ 5) : EdOk (wayTb x y ds b) r c (fun z => if z = x then 0 else 1) := by
  have nms : (wayTb x y ds b).names = [y, x] := rfl
  obtain ⟨lx, ly⟩ := way_look (ds := ds) (b := b) n
  have callsR : callsK (.row [.part "a" (.call x), .part "b" (.bits b)]) = [x] := rfl
  have hr2 : r ∈ [y, x] := by
    rcases List.mem_cons.mp hr with e | e
    · rw [e]; exact List.mem_cons_of_mem _ (List.mem_cons_self ..)
    · rw [List.mem_singleton.mp e]; exact List.mem_cons_self ..
  have okn : ∀ z ∈ [y, x], okN z := fun z hz => by
    rcases List.mem_cons.mp hz with e | e
    · rw [e]; exact ⟨oky, name_len oky⟩
    · rw [List.mem_singleton.mp e]; exact ⟨okx, name_len okx⟩
  refine ⟨?_, ?_, by show 1 ≤ 2; decide, by show 2 ≤ 20; decide, by rw [nms]; exact hr2, okn r hr2, c1, c5, ?_, ⟨?_, ?_⟩, ?_, ?_⟩
  · intro z hz
    rcases List.mem_cons.mp hz with e | hz
    · rw [e]; rfl
    · rw [List.mem_singleton.mp hz]; exact decide_eq_true (by rw [List.length_map]; exact h.l12)
  · intro z hz
    rw [nms] at hz
    exact okn z hz
  · intro z hz
    rcases List.mem_cons.mp hz with e | hz
    · rw [e]
      show (Kd.row _).fit
      rw [Kd.fit, Kd.fitAll, Kd.fitAll, Kd.fitAll, Kd.fit, Kd.fit, Kd.fit, Kd.fit]
      exact ⟨⟨by decide +kernel, name_len okx⟩, ⟨by decide +kernel, b1, by omega⟩, trivial⟩
    · rw [List.mem_singleton.mp hz]
      show (Kd.choice (ds.map WD.kd)).fit
      rw [Kd.fit]
      refine fitAll_of fun k hk => ?_
      obtain ⟨d, hd, rfl⟩ := List.mem_map.mp hk
      exact kd_fit (h.ok d hd) (h.sm d hd)
  · rw [nms]
    exact List.nodup_cons.mpr ⟨fun z => n (List.mem_singleton.mp z).symm, List.nodup_cons.mpr ⟨(fun z => nomatch z), List.nodup_nil⟩⟩
  · intro m k hk cc hc
    by_cases e : m = x
    · subst e
      rw [lx] at hk
      have hk := Option.some.inj hk
      subst hk
      rw [h.calls] at hc
      cases hc
    · by_cases e2 : m = y
      · subst e2
        rw [ly] at hk
        have hk := Option.some.inj hk
        subst hk
        rw [callsR] at hc
        rw [List.mem_singleton.mp hc, nms]
        refine ⟨List.mem_cons_of_mem _ (List.mem_cons_self ..), ?_⟩
        show (if x = x then 0 else 1) < (if m = x then 0 else 1)
        rw [if_pos rfl, if_neg e]
        decide
      · have : m ∈ (wayTb x y ds b).names := List.mem_map.mpr ⟨_, look_mem hk, rfl⟩
        rw [nms] at this
        rcases List.mem_cons.mp this with z | z
        · exact absurd z e2
        · exact absurd (List.mem_singleton.mp z) e
  · intro z hz ks' e k hk
    rcases List.mem_cons.mp hz with e1 | hz
    · rw [e1] at e
      injection e with e
      subst e
      rcases List.mem_cons.mp hk with e | hk
      · rw [e]; rfl
      · rw [List.mem_singleton.mp hk]; rfl
    · rw [List.mem_singleton.mp hz] at e; cases e
  · intro kn _ z hz ks' e k hk hd nn
    obtain ⟨w, m, hd⟩ := hd
    rcases List.mem_cons.mp hz with e1 | hz
    · rw [e1] at e
      rcases e with e | e
      · cases e
      · injection e with e
        subst e
        rcases List.mem_cons.mp hk with e | hk
        · rw [e] at hd; rcases hd with hd | hd <;> cases hd
        · rw [List.mem_singleton.mp hk] at hd; rcases hd with hd | hd <;> cases hd
    · rw [List.mem_singleton.mp hz] at e
      rcases e with e | e
      · injection e with e
        subst e
        obtain ⟨d, hd2, rfl⟩ := List.mem_map.mp hk
        rw [kd_in] at nn ⊢
        rcases h.sm d hd2 with sm | ⟨nd, _⟩
        · exact sml_short sm c1 nn
        · obtain ⟨bb, _, _, _⟩ := d
          subst nd
          rcases hd with hd | hd <;> cases hd
      · cases e
/-- all stands that is no list but an empty one or one of a single reference to a single thing -/
def KL (H H' : Hp) : Prop := ∀ b o, (∀ xs, o = HO.lst xs → xs = [] ∨ ∃ t y, xs = [.ref t] ∧ H t = some (.tup [y])) → H b = some o → H' b = some o
theorem KL.chg {d : Dr} {H H' : Hp} (r : Rng d H) (e : Chg d H H') : KL H H' := fun b o n h => by
  obtain ⟨ys, hp, l4⟩ := r.atp
  refine e b o (fun z => ?_) h
  rw [z, hp] at h
  rcases n ys (Option.some.inj h).symm with e | ⟨t, y, e, _⟩
  · rw [e] at l4; cases l4
  · rw [e] at l4; cases l4
theorem KL.same {H H' : Hp} (e : Same H H') : KL H H' := fun b o _ h => e b o h
/-- the list of the ways is another one -/
theorem KL.put {H : Hp} {p : Addr} {vs : List V} {ds : List WD} {o : HO} (hp : H p = some (.lst vs)) (pd : Paired (DAt H) vs ds) (l1 : 1 ≤ ds.length) : KL H (upd H p o) := fun b u n h => by
  refine (upd_ne (fun z => ?_)).trans h
  rw [z, hp] at h
  rcases n vs (Option.some.inj h).symm with e | ⟨t, y, e, ht⟩
  · subst e; cases pd; cases l1
  · subst e
    cases pd with
    | cons a _ =>
      obtain ⟨q, i, e, hq, _⟩ := a
      injection e with e
      rw [← e, ht] at hq
      cases hq
theorem TbAt.kl {A : Ad} {H H' : Hp} {p : Addr} {tb : Tb} {kvs : List (Key × V)} (k : KL H H') (h : TbAt A H p tb kvs) : TbAt A H' p tb kvs := by
  refine ⟨?_, paired_impE (fun _ _ q => ⟨q.1, q.2.keepIT (fun b C dx fs h => k _ _ (fun xs z => by cases z) h) (fun b xs h => k _ _ (fun xs z => by cases z) h)⟩) h.en⟩
  rcases h.rd with h | ⟨o, h⟩
  · exact .inl (k _ _ (fun xs z => by cases z) h)
  · exact .inr ⟨o, k _ _ (fun xs z => by cases z) h⟩
theorem MachAt.kl {A : Ad} {H H' : Hp} {m p : Addr} {c : Int} {own : Bool} (k : KL H H') (h : MachAt A H m p c own) : MachAt A H' m p c own := by
  obtain ⟨dx, fo, pl, no, nu, ct, ro, re, la, go, mv, tu, st, h1, ⟨a1, a2, ⟨t, a3, a4⟩, a5⟩, ⟨b1, b2, b3, b4⟩, ⟨c1, c2, ⟨t2, c3, c4⟩, c5⟩⟩ := h
  exact ⟨dx, fo, pl, no, nu, ct, ro, re, la, go, mv, tu, st, k _ _ (fun xs z => by cases z) h1,
    ⟨k _ _ (fun xs z => by cases z; exact .inl rfl) a1, k _ _ (fun xs z => by cases z) a2, ⟨t, k _ _ (fun xs z => by cases z; exact .inr ⟨_, _, rfl, a4⟩) a3, k _ _ (fun xs z => by cases z) a4⟩, k _ _ (fun xs z => by cases z) a5⟩,
    ⟨k _ _ (fun xs z => by cases z) b1, k _ _ (fun xs z => by cases z) b2, k _ _ (fun xs z => by cases z) b3, k _ _ (fun xs z => by cases z) b4⟩,
    ⟨k _ _ (fun xs z => by cases z) c1, k _ _ (fun xs z => by cases z) c2, ⟨t2, k _ _ (fun xs z => by cases z; exact .inr ⟨_, _, rfl, c4⟩) c3, k _ _ (fun xs z => by cases z) c4⟩, k _ _ (fun xs z => by cases z) c5⟩⟩
theorem EdAt.kl {A : Ad} {H H' : Hp} {x : Addr} {tb : Tb} {r : Str} {c : Int} (k : KL H H') (h : EdAt A H x tb r c) : EdAt A H' x tb r c := by
  obtain ⟨dx, p, kvs, m, om, h1, h2, h3, h4, h5⟩ := h.at_
  exact ⟨⟨dx, p, kvs, m, om, k _ _ (fun xs z => by cases z) h1, h2.kl k, k _ _ (fun xs z => by cases z) h3, h4.kl k, h5.kl k⟩, h.top, h.nd⟩

theorem kat_dict {A : Ad} {H : Hp} {T : Addr} {kvs : List (Key × V)} {o : HO} {v : V} {k : Kd} (hT : H T = some (.dK kvs)) (h : KAt A H v k) : KAt A (upd H T o) v k :=
  h.keepIT (fun b C dx fs h => (upd_ne (fun z => by rw [z, hT] at h; cases h)).trans h) (fun b xs h => (upd_ne (fun z => by rw [z, hT] at h; cases h)).trans h)
theorem TupKeep.dict {H : Hp} {T : Addr} {kvs : List (Key × V)} {o : HO} (hT : H T = some (.dK kvs)) : TupKeep H (upd H T o) := fun b xs h => (upd_ne (fun z => by rw [z, hT] at h; cases h)).trans h
theorem dats_keep {H H' : Hp} (e : TupKeep H H') {vs : List V} {ds : List WD} (h : Paired (DAt H) vs ds) : Paired (DAt H') vs ds := paired_impE (fun _ _ q => q.keep e) h
theorem kat_lst {A : Ad} {H : Hp} {T : Addr} {ws : List V} {o : HO} {v : V} {k : Kd} (hT : H T = some (.lst ws)) (h : KAt A H v k) : KAt A (upd H T o) v k :=
  h.keepIT (fun b C dx fs h => (upd_ne (fun z => by rw [z, hT] at h; cases h)).trans h) (fun b xs h => (upd_ne (fun z => by rw [z, hT] at h; cases h)).trans h)
theorem pair_th {A : Ad} {K : PySem.W.Frag} {H : Hp} : ∀ {us : List V} {ks : List Kd}, Paired (fun v k => KAt A H v k) us ks → Paired (Th A K H) us (ks.map Td.k)
  | _, _, .nil => .nil
  | _, _, .cons a t => .cons a (pair_th t)
theorem paired_set {α β : Type} {R : α → β → Prop} {v : α} {t : β} (h : R v t) : ∀ {xs : List α} {ys : List β} {j : Nat}, Paired R xs ys → Paired R (xs.set j v) (ys.set j t)
  | _, _, _, .nil => .nil
  | _, _, 0, .cons _ p => .cons h p
  | _, _, j + 1, .cons a p => .cons a (paired_set h p)
theorem map_setd {f : WD → Str} : ∀ {ds : List WD} {j : Nat} {dd d' : WD}, ds[j]? = some dd → f d' = f dd → (ds.set j d').map f = ds.map f
  | [], _, _, _, h, _ => nomatch h
  | a :: ds, 0, dd, d', h, e => by
    obtain rfl : a = dd := Option.some.inj h
    show f d' :: ds.map f = f a :: ds.map f
    rw [e]
  | a :: ds, j + 1, dd, d', h, e => by
    show f a :: (ds.set j d').map f = f a :: ds.map f
    rw [map_setd (ds := ds) (j := j) h e]
theorem DsOk.setd {ds : List WD} {j : Nat} {dd : WD} (h : DsOk ds) (hj : ds[j + 1]? = some dd) (h0 : ∃ d0, ds[0]? = some d0 ∧ d0.door = false) : DsOk (ds.set (j + 1) ⟨true, dd.word, dd.name, .none⟩) := by
  have md := List.mem_of_getElem? hj
  have mem : ∀ z ∈ ds.set (j + 1) ⟨true, dd.word, dd.name, .none⟩, z ∈ ds ∨ z = ⟨true, dd.word, dd.name, .none⟩ := fun z hz => List.mem_or_eq_of_mem_set hz
  refine ⟨by rw [List.length_set]; exact h.l1, by rw [List.length_set]; exact h.l12, fun z hz => ?_, fun z hz => ?_, ?_, ?_, ?_⟩
  · rcases mem z hz with q | rfl
    · exact h.ok z q
    · exact ⟨(h.ok dd md).word, (h.ok dd md).name, rfl⟩
  · rcases mem z hz with q | rfl
    · exact h.sm z q
    · exact .inl (.inl rfl)
  · rw [map_setd (f := WD.word) (d' := ⟨true, dd.word, dd.name, .none⟩) hj rfl]; exact h.ap
  · rw [map_setd (f := WD.name) (d' := ⟨true, dd.word, dd.name, .none⟩) hj rfl]; exact h.nd
  · obtain ⟨d0, hd0, dr⟩ := h0
    refine ⟨d0, List.mem_of_getElem? (i := 0) ?_, dr⟩
    rw [List.getElem?_set_ne (by omega)]
    exact hd0
theorem row_okA {x : Str} {b : Int} : mkSeq .row okParts "parts" (some [.k (.part "a" (.call x)), .k (.part "b" (.bits b))]) = .ok (.row [.part "a" (.call x), .part "b" (.bits b)]) := by
  have n : ¬ ("b" : Str) = "a" := by decide +kernel
  have ok : okParts [.k (.part "a" (.call x)), .k (.part "b" (.bits b))] = true := by
    show (decide (1 ≤ 2) && (decide (2 ≤ 8) && ((true && (true && (true && ((!decide (("b" : Str) = "a") && true) && true)))) && true))) = true
    rw [decide_eq_false n]
    rfl
  show (if okParts [.k (.part "a" (.call x)), .k (.part "b" (.bits b))] = false then Except.error ("parts" : Str) else Except.ok (Kd.row [.part "a" (.call x), .part "b" (.bits b)])) = _
  rw [if_neg (by rw [ok]; decide)]
theorem pa_ok : okName (.str "a") = true := by decide +kernel
theorem pb_ok : okName (.str "b") = true := by decide +kernel
theorem why_ne {ks : List Kd} {k : Kd} {y : Str} (h : wayWhy ks k = some y) : ¬ y = "" := by
  unfold wayWhy at h
  split at h
  · rw [← Option.some.inj h]; decide +kernel
  · split at h
    · rw [← Option.some.inj h]; decide +kernel
    · split at h
      · rw [← Option.some.inj h]; decide +kernel
      · cases h

section
variable {w : World} {K : PySem.W.Frag} {mg : Str → Option Value} {base : Heap} {A : Ad}
theorem ok_BadKind___init__ (T : Txt K mg A) : FnOk P w K mg base CX0 1 A.f_BadKind___init__ A.d_BadKind___init__ ["self", "part"] (sp_BadKind___init__ K A) := by
  refine T.F_BadKind___init__.ok sc_BadKind___init__ (fun vs H Q E h => sp2_len h) (fun cdv A0 outer s H vs Q E hr h => ?_)
  have nd := sc_BadKind___init__.nd
  refine ⟨_, (pss_one (ps_ost (pv 0) (pv 1))), ?_⟩
  clear nd hr
  replace h := sp2_of h
  obtain ⟨v_self, v_part, rfl, h⟩ := h

  obtain ⟨a, rfl, ha, k⟩ := h
  exact ⟨_, rfl, _, rfl, a, A.c_BadKind, rfl, T.oex_BadKind, T.nx_BadKind_part, .inl ⟨ha, fun dx h n => k dx h n⟩⟩
theorem ok_NoStep___init__ (T : Txt K mg A) : FnOk P w K mg base CX0 1 A.f_NoStep___init__ A.d_NoStep___init__ ["self", "reason"] (sp_NoStep___init__ K A) := by
  refine T.F_NoStep___init__.ok sc_NoStep___init__ (fun vs H Q E h => sp2_len h) (fun cdv A0 outer s H vs Q E hr h => ?_)
  have nd := sc_NoStep___init__.nd
  refine ⟨_, (pss_one (ps_ost (pv 0) (pv 1))), ?_⟩
  clear nd hr
  replace h := sp2_of h
  obtain ⟨v_self, v_reason, rfl, h⟩ := h

  obtain ⟨a, rfl, ha, k⟩ := h
  exact ⟨_, rfl, _, rfl, a, A.c_NoStep, rfl, T.oex_NoStep, T.nx_NoStep_reason, .inl ⟨ha, fun dx h n => k dx h n⟩⟩
theorem ok_is_integer (T : Txt K mg A) : FnOk P w K mg base CX0 1 A.f_is_integer A.d_is_integer ["thing"] (sp_is_integer K A) := by
  refine T.F_is_integer.ok sc_is_integer (fun vs H Q E h => sp1_len h) (fun cdv A0 outer s H vs Q E hr h => ?_)
  have nd := sc_is_integer.nd
  refine ⟨_, (pss_one (ps_ret (pe_and (pe_callB call_isi (by rfl) T.b_isinstance (by decide +kernel) (pa_cons (pv 0) (pa_cons (pe_bltn (v := .ty "int") (by rfl) T.b_int (by decide +kernel) rfl) pa_nil))) (pe_one (pe_not (pe_callB call_isi (by rfl) T.b_isinstance (by decide +kernel) (pa_cons (pv 0) (pa_cons (pe_bltn (v := .ty "bool") (by rfl) T.b_bool (by decide +kernel) rfl) pa_nil)))))))), ?_⟩
  clear nd hr
  replace h := sp1_of h
  obtain ⟨v_thing, rfl, h⟩ := h

  obtain ⟨t, hv, k⟩ := h
  rw [isI_of hv] at k
  refine ⟨_, rfl, _, _, _, _, _, rfl, .ty _, hv.tyx, kit_isa hv.tag (by decide), _, rfl, iteB (fun h1 => ?_) (fun h1 => ?_)⟩
  · refine ⟨_, rfl, _, _, _, _, _, rfl, .ty _, hv.tyx, kit_isa hv.tag (by decide), _, rfl, ?_⟩
    rw [h1, Bool.true_and] at k
    exact k
  · rw [h1, Bool.false_and] at k
    exact k
theorem ok_is_bits (T : Txt K mg A) : FnOk P w K mg base CX0 1 A.f_is_bits A.d_is_bits ["thing"] (sp_is_bits K A) := by
  refine T.F_is_bits.ok sc_is_bits (fun vs H Q E h => sp1_len h) (fun cdv A0 outer s H vs Q E hr h => ?_)
  have nd := sc_is_bits.nd
  refine ⟨_, (pss_cons (ps_if (pt_not (pt_val (pe_callB call_isi (by rfl) T.b_isinstance (by decide +kernel) (pa_cons (pv 0) (pa_cons (pe_bltn (v := .ty "str") (by rfl) T.b_str (by decide +kernel) rfl) pa_nil))))) (pss_one (ps_ret pe_bl)) pss_nil)
      (pss_cons (ps_for PassesOwn.never rfl (pi_str (pv 0)) (pg_name (i := 1) nd rfl (by first | exact Or.inl rfl | exact Or.inr rfl)) (pss_one (ps_if (PW.pt (pw_and (pt_cmpR op_ne (pv 1) pe_str (nomark _)) (pw_and1 (pt_cmpR op_ne (pv 1) pe_str (nomark _))))) (pss_one (ps_ret pe_bl)) pss_nil)))
      (pss_one (ps_ret pe_bl)))), ?_⟩
  clear nd hr
  replace h := sp1_of h
  obtain ⟨v_thing, rfl, h⟩ := h

  obtain ⟨t, hv, k⟩ := h
  refine ⟨_, rfl, _, _, _, _, _, rfl, .ty _, hv.tyx, kit_isa hv.tag (by decide), _, rfl, iteB (fun h1 => ?_) (fun h1 => ?_)⟩
  · rw [(nstr_of hv (by simpa using h1)).1] at k
    exact k
  obtain ⟨x, rfl⟩ := str_of hv (by simpa using h1)
  refine ⟨_, rfl, x, rfl, for_str (fun i σ' H' => ∃ c, σ' = [some (.str x), c] ∧ H' = H ∧ (x.cps.toList.take i).all (fun c => decide (c = 48) || decide (c = 49)) = true) ⟨_, rfl, rfl, rfl⟩ ?_ ?_⟩
  · rintro i c σ' H' hc ⟨_, rfl, rfl, ha⟩
    refine ⟨_, rfl, rfl, _, rfl, ?_⟩
    rw [sign_dec sgn0]
    refine iteB (fun h0 => ⟨_, rfl, rfl, _, rfl, ?_⟩) (fun h0 => ?_)
    · rw [sign_dec sgn1]
      refine iteB (fun h2 => ?_) (fun h2 => ?_)
      · have e : okBits (.str x) = false := not_all hc (by simp at h0 h2; simp [h0, h2])
        rw [e] at k
        exact k
      · exact ⟨_, rfl, rfl, take_all ha hc (by simp at h2; simp [h2])⟩
    · refine iteF ?_
      exact ⟨_, rfl, rfl, take_all ha hc (by simp at h0; simp [h0])⟩
  · rintro σ' H' ⟨_, rfl, rfl, ha⟩
    have e : okBits (.str x) = true := full_all ha
    rw [e] at k
    exact k
theorem ok_is_name (T : Txt K mg A) : FnOk P w K mg base CX0 1 A.f_is_name A.d_is_name ["thing"] (sp_is_name K A) := by
  refine T.F_is_name.ok sc_is_name (fun vs H Q E h => sp1_len h) (fun cdv A0 outer s H vs Q E hr h => ?_)
  have nd := sc_is_name.nd
  refine ⟨_, (pss_cons (ps_if (PW.pt (pw_or (pt_not (pt_val (pe_callB call_isi (by rfl) T.b_isinstance (by decide +kernel) (pa_cons (pv 0) (pa_cons (pe_bltn (v := .ty "str") (by rfl) T.b_str (by decide +kernel) rfl) pa_nil))))) (pw_or (pt_cmpR op_lt (pe_callB call_len_str (by rfl) T.b_len (by decide +kernel) (pa_cons (pv 0) pa_nil)) pe_int (nomark _)) (pw_or1 (pt_cmpR op_gt (pe_callB call_len_str (by rfl) T.b_len (by decide +kernel) (pa_cons (pv 0) pa_nil)) pe_int (nomark _)))))) (pss_one (ps_ret pe_bl)) pss_nil)
      (pss_cons (ps_for PassesOwn.never rfl (pi_str (pv 0)) (pg_name (i := 1) nd rfl (by first | exact Or.inl rfl | exact Or.inr rfl)) (pss_one (ps_if (pt_cmpR op_notIn_sign (pv 1) (C8.pe_gc (by rfl) T.mg_LETTERS) (by rfl)) (pss_one (ps_ret pe_bl)) pss_nil)))
      (pss_one (ps_ret pe_bl)))), ?_⟩
  clear nd hr
  replace h := sp1_of h
  obtain ⟨v_thing, rfl, h⟩ := h

  obtain ⟨t, hv, hs, k⟩ := h
  refine ⟨_, rfl, _, _, _, _, _, rfl, .ty _, hv.tyx, kit_isa hv.tag (by decide), _, rfl, iteB (fun h1 => ?_) (fun h1 => ?_)⟩
  · rw [(nstr_of hv (by simpa using h1)).2] at k
    exact ite2 (fun _ => k) (fun z => absurd rfl z)
  obtain ⟨x, rfl⟩ := str_of hv (by simpa using h1)
  have hl := short_le hs
  refine ⟨_, rfl, x, rfl, hl, _, _, rfl, rfl, _, rfl, iteB (fun h2 => ?_) (fun h2 => ?_)⟩
  · have e : okName (.str x) = false := by simp only [okName, decide_eq_false (by have := of_decide_eq_true h2; omega : ¬ 1 ≤ x.length), Bool.false_and]
    rw [e] at k
    exact ite2 (fun _ => k) (fun z => absurd rfl z)
  refine ⟨_, rfl, x, rfl, hl, _, _, rfl, rfl, _, rfl, iteB (fun h3 => ?_) (fun h3 => ?_)⟩
  · have e : okName (.str x) = false := by simp at h3; simp only [okName, decide_eq_false (by omega : ¬ x.length ≤ 8), Bool.false_and, Bool.and_false]
    rw [e] at k
    exact k
  have l1 : 1 ≤ x.length := by simp at h2; omega
  have l2 : x.length ≤ 8 := by simp at h3; omega
  refine ⟨_, rfl, x, rfl, for_str (fun i σ' H' => ∃ c, σ' = [some (.str x), c] ∧ H' = H ∧ (x.cps.toList.take i).all (fun c => decide (97 ≤ c) && decide (c ≤ 122)) = true) ⟨_, rfl, rfl, rfl⟩ ?_ ?_⟩
  · rintro i c σ' H' hc ⟨_, rfl, rfl, ha⟩
    refine ⟨_, rfl, c, _, rfl, rfl, _, rfl, ?_⟩
    rw [abc_mem]
    refine iteB (fun h0 => ?_) (fun h0 => ?_)
    · have e : okName (.str x) = false := by
        simp only [okName, not_all (f := fun c => decide (97 ≤ c) && decide (c ≤ 122)) hc (not_t h0), Bool.and_false]
      rw [e] at k
      exact k
    · exact ⟨_, rfl, rfl, take_all ha hc (not_f h0)⟩
  · rintro σ' H' ⟨_, rfl, rfl, ha⟩
    have e : okName (.str x) = true := by simp only [okName, full_all ha, decide_eq_true l1, decide_eq_true l2, Bool.and_self]
    rw [e] at k
    exact k
theorem ok_is_word (T : Txt K mg A) : FnOk P w K mg base CX0 2 A.f_is_word A.d_is_word ["thing"] (sp_is_word K A) := by
  refine T.F_is_word.ok sc_is_word (fun vs H Q E h => sp1_len h) (fun cdv A0 outer s H vs Q E hr h => ?_)
  have nd := sc_is_word.nd
  refine ⟨_, (pss_one (ps_ret (pe_and (pe_call (ok_is_bits T) (hr.mono (by decide)) (by rfl) T.mg_is_bits T.k_is_bits T.b_is_bits .nil pass0 (pa_cons (pv 0) pa_nil)) (pe_one (pe_chain op_le op_le pe_int (pe_callB call_len_str (by rfl) T.b_len (by decide +kernel) (pa_cons (pv 0) pa_nil)) pe_int))))), ?_⟩
  clear nd hr
  replace h := sp1_of h
  obtain ⟨v_thing, rfl, h⟩ := h

  obtain ⟨t, hv, hs, k⟩ := h
  refine ⟨_, rfl, _, rfl, t, hv, _, rfl, iteB (fun h1 => ?_) (fun h1 => ?_)⟩
  · obtain ⟨x, rfl⟩ : ∃ x, v_thing = .str x := by
      cases v_thing <;> first | exact ⟨_, rfl⟩ | cases h1
    have e : okWord (.str x) = (decide (1 ≤ x.length) && decide (x.length ≤ 8)) := by
      unfold okWord
      rw [h1, Bool.true_and]
      rfl
    rw [e] at k
    refine ⟨_, rfl, x, rfl, short_le hs, _, _, rfl, rfl, _, rfl, iteB (fun h2 => ?_) (fun h2 => ?_)⟩
    · refine ⟨_, _, rfl, rfl, ?_⟩
      have e2 : decide (1 ≤ x.length) = true := decide_eq_true (by have := of_decide_eq_true h2; omega)
      have e3 : decide (x.length ≤ 8) = decide (((x.length : Nat) : Int) ≤ 8) := decide_eq_decide.mpr (by omega)
      rw [e2, Bool.true_and, e3] at k
      exact k
    · have e2 : decide (1 ≤ x.length) = false := decide_eq_false (by have := of_decide_eq_false h2; omega)
      rw [e2, Bool.false_and] at k
      exact k
  · have e : okWord v_thing = false := by unfold okWord; rw [h1, Bool.false_and]
    rw [e] at k
    exact k
theorem ok_begins (T : Txt K mg A) : FnOk P w K mg base CX0 1 A.f_begins A.d_begins ["one", "other"] (sp_begins K A) := by
  refine T.F_begins.ok sc_begins (fun vs H Q E h => sp2_len h) (fun cdv A0 outer s H vs Q E hr h => ?_)
  have nd := sc_begins.nd
  refine ⟨_, (pss_one (ps_ret (pe_or (pe_m1 PySem.F.slot_str_startswith PySem.F.type_str_startswith mt_startswith (pv 0) (pv 1)) (pe_one (pe_m1 PySem.F.slot_str_startswith PySem.F.type_str_startswith mt_startswith (pv 1) (pv 0)))))), ?_⟩
  clear nd hr
  replace h := sp2_of h
  obtain ⟨v_one, v_other, rfl, h⟩ := h

  obtain ⟨x, y, rfl, rfl, k⟩ := h
  refine ⟨_, rfl, ⟨_, rfl⟩, _, rfl, _, _, rfl, rfl, _, rfl, iteB (fun g => ?_) (fun g => ?_)⟩
  · rw [show pre2 x y = true by unfold pre2; rw [g]; rfl] at k
    exact k
  · rw [show pre2 x y = PySem.Txt.startswith y x by unfold pre2; rw [g]; rfl] at k
    exact ⟨_, rfl, ⟨_, rfl⟩, _, rfl, _, _, rfl, rfl, k⟩
theorem ok_Nothing___eq__ (T : Txt K mg A) : FnOk P w K mg base CX0 1 A.f_Nothing___eq__ A.d_Nothing___eq__ ["self", "other"] (sp_Nothing___eq__ K A) := by
  refine T.F_Nothing___eq__.ok sc_Nothing___eq__ (fun vs H Q E h => sp2_len h) (fun cdv A0 outer s H vs Q E hr h => ?_)
  have nd := sc_Nothing___eq__.nd
  refine ⟨_, (pss_one (ps_ret (pe_callB call_isi (by rfl) T.b_isinstance (by decide +kernel) (pa_cons (pv 1) (pa_cons (pe_glob (v := .ref A.c_Nothing) (by rfl) T.mg_Nothing rfl) pa_nil))))), ?_⟩
  clear nd hr
  replace h := sp2_of h
  obtain ⟨v_self, v_other, rfl, h⟩ := h

  obtain ⟨d, e, hd, hc, he, hn, k⟩ := h
  have q : d.eqk e = isa (Td.tag A (.k e)) (.ref (A.kc .nothing)) := by
    rw [isa_kc T]
    cases d <;> first | cases hc | skip
    cases e <;> rfl
  rw [q] at k
  exact ⟨_, rfl, _, _, _, _, _, rfl, .own _, (KAt.vt T he).tyx, kit_isaO (KAt.vt T he).tag (T.kco .nothing), k⟩
theorem ok_is_width (T : Txt K mg A) : FnOk P w K mg base CX0 2 A.f_is_width A.d_is_width ["width", "many"] (sp_is_width K A) := by
  refine T.F_is_width.ok sc_is_width (fun vs H Q E h => sp2_len h) (fun cdv A0 outer s H vs Q E hr h => ?_)
  have nd := sc_is_width.nd
  refine ⟨_, (pss_cons (ps_if (pt_cmpR op_isN (pv 0) pe_non (nomark _)) (pss_one (ps_ret pe_bl)) pss_nil)
      (pss_one (ps_ret (pe_and (pe_call (ok_is_integer T) (hr.mono (by decide)) (by rfl) T.mg_is_integer T.k_is_integer T.b_is_integer .nil pass0 (pa_cons (pv 0) pa_nil)) (pe_and (pe_chain op_le op_le pe_int (pv 0) pe_int) (pe_one (pe_cmpR op_ge (pe_op op_shl pe_int (pv 0)) (pv 1) (nomark _)))))))), ?_⟩
  clear nd hr
  replace h := sp2_of h
  obtain ⟨v_width, v_many, rfl, h⟩ := h

  obtain ⟨t, n, hv, rfl, k⟩ := h
  refine ⟨_, rfl, rfl, _, rfl, iteB (fun h1 => ?_) (fun h1 => ?_)⟩
  · have e : v_width = .non := by simpa using h1
    subst e
    exact k
  refine ⟨_, rfl, _, rfl, t, hv, _, rfl, iteB (fun h2 => ?_) (fun h2 => ?_)⟩
  · have e := intOf_isI h2
    generalize intOf v_width = i at e
    subst e
    have eq : okW (.int i) n = (decide (1 ≤ i) && (decide (i ≤ 60) && decide (n ≤ 2 ^ i.toNat))) := rfl
    rw [eq] at k
    refine ⟨_, rfl, _, _, rfl, rfl, _, rfl, iteB (fun h3 => ?_) (fun h3 => ?_)⟩
    · rw [h3, Bool.true_and] at k
      refine ⟨_, _, rfl, rfl, _, rfl, iteB (fun h4 => ?_) (fun h4 => ?_)⟩
      · rw [h4, Bool.true_and] at k
        have g1 := of_decide_eq_true h3
        have g2 := of_decide_eq_true h4
        refine ⟨_, rfl, _, _, rfl, rfl, ⟨by omega, by omega, by decide⟩, _, rfl, _, _, rfl, rfl, ?_⟩
        rw [Int.one_mul]
        exact k
      · rw [h4, Bool.false_and] at k
        exact k
    · rw [h3, Bool.false_and] at k
      exact ⟨_, rfl, iteF k⟩
  · have e : okW v_width n = false := by
      cases v_width <;> first | rfl | exact absurd h2 Bool.noConfusion | simp at h1 | cases h2
    rw [e] at k
    exact k
theorem ok_Number___init__ (T : Txt K mg A) : FnOk P w K mg base (L2.CX P w) 3 A.f_Number___init__ A.d_Number___init__ ["self", "low", "high", "width"] (sp_Number___init__ K A) := by
  refine T.F_Number___init__.ok sc_Number___init__ (fun vs H Q E h => sp4_len h) (fun cdv A0 outer s H vs Q E hr h => ?_)
  have nd := sc_Number___init__.nd
  refine ⟨_, (pss_cons (ps_if (pt_not (pt_val (pe_call (ok_is_integer T) (hr.mono (by decide)) (by rfl) T.mg_is_integer T.k_is_integer T.b_is_integer .nil pass0 (pa_cons (pv 1) pa_nil)))) (pss_one (ps_raise rfl (takes_of rfl rfl rfl rfl) (pmk_oex T.oex_BadKind T.ix_BadKind T.tx_BadKind (ok_BadKind___init__ T) (hr.mono (by decide)) T.b_BadKind___init__ .nil pass0 (by rfl) T.mg_BadKind (pa_cons pe_str pa_nil)))) pss_nil)
      (pss_cons (ps_if (PW.pt (pw_or (pt_not (pt_val (pe_call (ok_is_integer T) (hr.mono (by decide)) (by rfl) T.mg_is_integer T.k_is_integer T.b_is_integer .nil pass0 (pa_cons (pv 2) pa_nil)))) (pw_or (pt_cmpR op_le (pv 2) (pv 1) (nomark _)) (pw_or1 (pt_cmpR op_ge (pe_op op_sub (pv 2) (pv 1)) (pe_op op_shl pe_int pe_int) (nomark _)))))) (pss_one (ps_raise rfl (takes_of rfl rfl rfl rfl) (pmk_oex T.oex_BadKind T.ix_BadKind T.tx_BadKind (ok_BadKind___init__ T) (hr.mono (by decide)) T.b_BadKind___init__ .nil pass0 (by rfl) T.mg_BadKind (pa_cons pe_str pa_nil)))) pss_nil)
      (pss_cons (ps_if (pt_not (pt_val (pe_call (ok_is_width T) (hr.mono (by decide)) (by rfl) T.mg_is_width T.k_is_width T.b_is_width .nil pass0 (pa_cons (pv 3) (pa_cons (pe_op op_add (pe_op op_sub (pv 2) (pv 1)) pe_int) pa_nil))))) (pss_one (ps_raise rfl (takes_of rfl rfl rfl rfl) (pmk_oex T.oex_BadKind T.ix_BadKind T.tx_BadKind (ok_BadKind___init__ T) (hr.mono (by decide)) T.b_BadKind___init__ .nil pass0 (by rfl) T.mg_BadKind (pa_cons pe_str pa_nil)))) pss_nil)
      (pss_cons (ps_fld (pv 0) (pv 1) rfl)
      (pss_cons (ps_fld (pv 0) (pv 2) rfl)
      (pss_one (ps_fld (pv 0) (pv 3) rfl))))))), ?_⟩
  clear nd hr
  replace h := sp4_of h
  obtain ⟨v_self, v_low, v_high, v_width, rfl, h⟩ := h

  obtain ⟨H0, x, ta, tb, tw, rfl, fr, va, vb, vw, k⟩ := h
  replace va := va.keep (KK.same fr.s)
  replace vb := vb.keep (KK.same fr.s)
  replace vw := vw.keep (KK.same fr.s)
  refine ⟨_, rfl, _, rfl, ta, va, _, rfl, iteB (fun h1 => ?_) (fun h1 => ?_)⟩
  · rw [show mkNum v_low v_high v_width = .error "low" from if_pos (not_t h1)] at k
    exact raise_bad fr.s k
  obtain ⟨i, rfl⟩ := int_ex (not_f h1)
  refine ⟨_, rfl, _, rfl, tb, vb, _, rfl, iteB (fun h2 => iteY ?_) (fun h2 => ?_)⟩
  · rw [show mkNum (.int i) v_high v_width = .error "high" from (if_neg nI).trans (if_pos (.inl (not_t h2)))] at k
    exact raise_bad fr.s k
  obtain ⟨j, rfl⟩ := int_ex (not_f h2)
  refine ⟨_, rfl, _, rfl, _, _, rfl, rfl, _, rfl, iteB (fun h3 => iteY ?_) (fun h3 => ?_)⟩
  · rw [show mkNum (.int i) (.int j) v_width = .error "high" from (if_neg nI).trans (if_pos (.inr (.inl (of_decide_eq_true h3))))] at k
    exact raise_bad fr.s k
  refine ⟨_, rfl, _, rfl, _, _, rfl, rfl, _, _, rfl, rfl, ⟨by decide, by decide, by decide⟩, _, _, rfl, rfl, _, rfl, iteB (fun h4 => ?_) (fun h4 => ?_)⟩
  · rw [show mkNum (.int i) (.int j) v_width = .error "high" from (if_neg nI).trans (if_pos (.inr (.inr (of_decide_eq_true h4))))] at k
    exact raise_bad fr.s k
  have nh : ¬ (isI (.int j) = false ∨ j ≤ i ∨ 2 ^ 60 ≤ j - i) := by
    have g3 := of_decide_eq_false h3
    have g4 : ¬ (1 * 2 ^ 60 : Int) ≤ j - i := of_decide_eq_false h4
    rintro (z | z | z)
    · cases z
    · exact g3 z
    · exact g4 (by rw [Int.one_mul]; exact z)
  refine ⟨_, rfl, _, rfl, _, rfl, _, _, rfl, rfl, _, _, rfl, rfl, _, _, rfl, tw, _, vw, rfl, _, rfl, iteB (fun h5 => ?_) (fun h5 => ?_)⟩
  · rw [show mkNum (.int i) (.int j) v_width = .error "width" from (if_neg nI).trans ((if_neg nh).trans (if_pos (not_t h5)))] at k
    exact raise_bad fr.s k
  have ew := okW_oi (not_f h5)
  rw [show mkNum (.int i) (.int j) v_width = .ok (.num i j (oiOf v_width)) from (if_neg nI).trans ((if_neg nh).trans (if_neg (by rw [show okW v_width (intOf (.int j) - intOf (.int i) + 1) = true from not_f h5]; decide)))] at k
  obtain ⟨dx, hx⟩ := fr.at'
  refine ⟨_, rfl, _, rfl, x, _, dx, _, rfl, hx, T.cl_Number, T.n_Number_low, Nat.lt_of_le_of_lt (Nat.le_refl 0 : _ ≤ 0) (by decide : 0 < 1000), ?_⟩
  refine ⟨_, rfl, _, rfl, x, _, dx, _, rfl, upd_same, T.cl_Number, T.n_Number_high, Nat.lt_of_le_of_lt (put_len (Nat.zero_le _) : _ ≤ 1) (by decide : 1 < 1000), ?_⟩
  refine ⟨_, rfl, _, rfl, x, _, dx, _, rfl, upd_same, T.cl_Number, T.n_Number_width, Nat.lt_of_le_of_lt (put_len (put_len (Nat.zero_le _)) : _ ≤ 2) (by decide : 2 < 1000), ?_⟩
  refine k _ (same_put fr.no (same_put fr.no (same_put fr.no fr.s))) (.num ⟨dx, _, upd_same, ?_⟩)
  rw [← ew]
  exact put3 (show ¬ (Str.ofString "low") = Str.ofString "high" by decide +kernel) (show ¬ (Str.ofString "low") = Str.ofString "width" by decide +kernel) (show ¬ (Str.ofString "high") = Str.ofString "width" by decide +kernel)
theorem ok_Number___eq__ (T : Txt K mg A) : FnOk P w K mg base CX0 1 A.f_Number___eq__ A.d_Number___eq__ ["self", "other"] (sp_Number___eq__ K A) := by
  refine T.F_Number___eq__.ok sc_Number___eq__ (fun vs H Q E h => sp2_len h) (fun cdv A0 outer s H vs Q E hr h => ?_)
  have nd := sc_Number___eq__.nd
  refine ⟨_, (pss_cons (ps_if (pt_not (pt_val (pe_callB call_isi (by rfl) T.b_isinstance (by decide +kernel) (pa_cons (pv 1) (pa_cons (pe_glob (v := .ref A.c_Number) (by rfl) T.mg_Number rfl) pa_nil))))) (pss_one (ps_ret pe_bl)) pss_nil)
      (pss_one (ps_ret (pe_and (pe_cmpR op_eq (pe_fld (pv 0) rfl) (pe_fld (pv 1) rfl) (nomark _)) (pe_and (pe_cmpR op_eq (pe_fld (pv 0) rfl) (pe_fld (pv 1) rfl) (nomark _)) (pe_one (pe_cmpR op_eq (pe_fld (pv 0) rfl) (pe_fld (pv 1) rfl) (nomark _)))))))), ?_⟩
  clear nd hr
  replace h := sp2_of h
  obtain ⟨v_self, v_other, rfl, h⟩ := h

  obtain ⟨d, e, hd, hc, he, hn, k⟩ := h
  cases hd with
  | num ob1 =>
    obtain ⟨dx, fs, hx, lx⟩ := ob1
    refine ⟨_, rfl, _, _, _, _, _, rfl, .own _, (KAt.vt T he).tyx, kit_isaO (KAt.vt T he).tag (T.kco .num), _, rfl, iteB (fun g => by
      rw [eqk_cls hc (isa_cls (t := .k e) (c := .num) T (not_t g))] at k
      exact k) (fun g => ?_)⟩
    have ec : e.cls = some .num := of_decide_eq_true (isa_cls (t := .k e) (c := .num) T (not_f g))
    cases he with
    | num ob2 =>
      obtain ⟨dy, gs, hy, ly⟩ := ob2
      rw [Kd.eqk] at k
      refine ⟨_, rfl, _, _, dx, fs, _, rfl, hx, T.cl_Number, T.n_Number_low, lx _ (List.mem_cons_self ..), _, rfl, _, _, dy, gs, _, rfl, hy, T.cl_Number, T.n_Number_low, ly _ (List.mem_cons_self ..), rfl, _, rfl, iteB (fun g0 => ?_) (fun g0 => by
        rw [dI] at g0
        rw [g0, Bool.false_and] at k
        exact k)⟩
      rw [dI] at g0
      rw [g0, Bool.true_and] at k
      refine ⟨_, rfl, _, _, dx, fs, _, rfl, hx, T.cl_Number, T.n_Number_high, lx _ (List.mem_cons_of_mem _ (List.mem_cons_self ..)), _, rfl, _, _, dy, gs, _, rfl, hy, T.cl_Number, T.n_Number_high, ly _ (List.mem_cons_of_mem _ (List.mem_cons_self ..)), rfl, _, rfl, iteB (fun g1 => ?_) (fun g1 => by
        rw [dI] at g1
        rw [g1, Bool.false_and] at k
        exact k)⟩
      rw [dI] at g1
      rw [g1, Bool.true_and] at k
      rw [← dO] at k
      exact ⟨_, rfl, _, _, dx, fs, _, rfl, hx, T.cl_Number, T.n_Number_width, lx _ (List.mem_cons_of_mem _ (List.mem_cons_of_mem _ (List.mem_cons_self ..))), _, rfl, _, _, dy, gs, _, rfl, hy, T.cl_Number, T.n_Number_width, ly _ (List.mem_cons_of_mem _ (List.mem_cons_of_mem _ (List.mem_cons_self ..))), scal_oi, k⟩
    | _ => cases ec
  | _ => cases hc
theorem ok_Bits___init__ (T : Txt K mg A) : FnOk P w K mg base (L2.CX P w) 3 A.f_Bits___init__ A.d_Bits___init__ ["self", "many"] (sp_Bits___init__ K A) := by
  refine T.F_Bits___init__.okX sc_Bits___init__ (fun vs H Q E h => sp2_len h) (fun cdv A0 outer s H vs Q E hr h => ?_)
  have nd := sc_Bits___init__.nd
  refine ⟨_, (pss_cons (ps_if (PW.pt (pw_or (pt_not (pt_val (pe_call (ok_is_integer T) (hr.mono (by decide)) (by rfl) T.mg_is_integer T.k_is_integer T.b_is_integer .nil pass0 (pa_cons (pv 1) pa_nil)))) (pw_or (pt_cmpR op_lt (pv 1) pe_int (nomark _)) (pw_or1 (pt_cmpR op_gt (pv 1) pe_int (nomark _)))))) (pss_one (ps_raise rfl (takes_of rfl rfl rfl rfl) (pmk_oex T.oex_BadKind T.ix_BadKind T.tx_BadKind (ok_BadKind___init__ T) (hr.mono (by decide)) T.b_BadKind___init__ .nil pass0 (by rfl) T.mg_BadKind (pa_cons pe_str pa_nil)))) pss_nil)
      (pss_one (ps_fld (pv 0) (pv 1) rfl))), ?_⟩
  clear nd hr
  replace h := sp2_of h
  obtain ⟨v_self, v_many, rfl, h⟩ := h

  obtain ⟨H0, x, ta, rfl, fr, va, k⟩ := h
  replace va := va.keep (KK.same fr.s)
  refine ⟨_, rfl, _, rfl, ta, va, _, rfl, iteB (fun h1 => iteY ?_) (fun h1 => ?_)⟩
  · rw [show mkBits v_many = .error "many" from if_pos (.inl (not_t h1))] at k
    exact raise_bad fr.s k
  obtain ⟨i, rfl⟩ := int_ex (not_f h1)
  refine ⟨_, rfl, _, _, rfl, rfl, _, rfl, iteB (fun h2 => iteY ?_) (fun h2 => ?_)⟩
  · rw [show mkBits (.int i) = .error "many" from if_pos (.inr (.inl (of_decide_eq_true h2)))] at k
    exact raise_bad fr.s k
  refine ⟨_, rfl, _, _, rfl, rfl, _, rfl, iteB (fun h3 => ?_) (fun h3 => ?_)⟩
  · rw [show mkBits (.int i) = .error "many" from if_pos (.inr (.inr (of_decide_eq_true h3)))] at k
    exact raise_bad fr.s k
  rw [show mkBits (.int i) = .ok (.bits i) from if_neg (by
    rintro (z | z | z)
    · cases z
    · exact of_decide_eq_false h2 z
    · exact of_decide_eq_false h3 z)] at k
  obtain ⟨dx, hx⟩ := fr.at'
  refine ⟨_, rfl, _, rfl, x, _, dx, _, rfl, hx, T.cl_Bits, T.n_Bits_many, Nat.lt_of_le_of_lt (Nat.le_refl 0 : _ ≤ 0) (by decide : 0 < 1000), ?_⟩
  exact k _ (same_put fr.no fr.s) (.bits ⟨dx, _, upd_same, put1⟩)
theorem ok_Bits___eq__ (T : Txt K mg A) : FnOk P w K mg base CX0 1 A.f_Bits___eq__ A.d_Bits___eq__ ["self", "other"] (sp_Bits___eq__ K A) := by
  refine T.F_Bits___eq__.ok sc_Bits___eq__ (fun vs H Q E h => sp2_len h) (fun cdv A0 outer s H vs Q E hr h => ?_)
  have nd := sc_Bits___eq__.nd
  refine ⟨_, (pss_one (ps_ret (pe_and (pe_callB call_isi (by rfl) T.b_isinstance (by decide +kernel) (pa_cons (pv 1) (pa_cons (pe_glob (v := .ref A.c_Bits) (by rfl) T.mg_Bits rfl) pa_nil))) (pe_one (pe_cmpR op_eq (pe_fld (pv 0) rfl) (pe_fld (pv 1) rfl) (nomark _)))))), ?_⟩
  clear nd hr
  replace h := sp2_of h
  obtain ⟨v_self, v_other, rfl, h⟩ := h

  obtain ⟨d, e, hd, hc, he, hn, k⟩ := h
  cases hd with
  | bits ob1 =>
    obtain ⟨dx, fs, hx, lx⟩ := ob1
    refine ⟨_, rfl, _, _, _, _, _, rfl, .own _, (KAt.vt T he).tyx, kit_isaO (KAt.vt T he).tag (T.kco .bits), _, rfl, iteB (fun g => ?_) (fun g => by
      rw [eqk_cls hc (isa_cls (t := .k e) (c := .bits) T g)] at k
      exact k)⟩
    have ec : e.cls = some .bits := of_decide_eq_true (isa_cls (t := .k e) (c := .bits) T g)
    cases he with
    | bits ob2 =>
      obtain ⟨dy, gs, hy, ly⟩ := ob2
      rw [Kd.eqk] at k
      rw [← dI] at k
      exact ⟨_, rfl, _, _, dx, fs, _, rfl, hx, T.cl_Bits, T.n_Bits_many, lx _ (List.mem_cons_self ..), _, rfl, _, _, dy, gs, _, rfl, hy, T.cl_Bits, T.n_Bits_many, ly _ (List.mem_cons_self ..), rfl, k⟩
    | _ => cases ec
  | _ => cases hc
theorem ok_Call___init__ (T : Txt K mg A) : FnOk P w K mg base (L2.CX P w) 3 A.f_Call___init__ A.d_Call___init__ ["self", "name"] (sp_Call___init__ K A) := by
  refine T.F_Call___init__.okX sc_Call___init__ (fun vs H Q E h => sp2_len h) (fun cdv A0 outer s H vs Q E hr h => ?_)
  have nd := sc_Call___init__.nd
  refine ⟨_, (pss_cons (ps_if (pt_not (pt_val (pe_call (ok_is_name T) (hr.mono (by decide)) (by rfl) T.mg_is_name T.k_is_name T.b_is_name .nil pass0 (pa_cons (pv 1) pa_nil)))) (pss_one (ps_raise rfl (takes_of rfl rfl rfl rfl) (pmk_oex T.oex_BadKind T.ix_BadKind T.tx_BadKind (ok_BadKind___init__ T) (hr.mono (by decide)) T.b_BadKind___init__ .nil pass0 (by rfl) T.mg_BadKind (pa_cons pe_str pa_nil)))) pss_nil)
      (pss_one (ps_fld (pv 0) (pv 1) rfl))), ?_⟩
  clear nd hr
  replace h := sp2_of h
  obtain ⟨v_self, v_name, rfl, h⟩ := h

  obtain ⟨H0, x, ta, rfl, fr, va, sa, k⟩ := h
  replace va := va.keep (KK.same fr.s)
  refine ⟨_, rfl, _, rfl, ta, va, sa, _, rfl, iteB (fun h1 => ?_) (fun h1 => ?_)⟩
  · rw [show mkCall v_name = .error "name" from if_pos (not_t h1)] at k
    exact raise_bad fr.s k
  rw [show mkCall v_name = .ok (.call (strOf v_name)) from if_neg (by rw [not_f h1]; decide)] at k
  obtain ⟨z, rfl⟩ : ∃ z, v_name = .str z := by
    cases v_name <;> first | exact ⟨_, rfl⟩ | cases h1
  obtain ⟨dx, hx⟩ := fr.at'
  refine ⟨_, rfl, _, rfl, x, _, dx, _, rfl, hx, T.cl_Call, T.n_Call_name, Nat.lt_of_le_of_lt (Nat.le_refl 0 : _ ≤ 0) (by decide : 0 < 1000), ?_⟩
  exact k _ (same_put fr.no fr.s) (.call ⟨dx, _, upd_same, put1⟩)
theorem ok_Call___eq__ (T : Txt K mg A) : FnOk P w K mg base CX0 1 A.f_Call___eq__ A.d_Call___eq__ ["self", "other"] (sp_Call___eq__ K A) := by
  refine T.F_Call___eq__.ok sc_Call___eq__ (fun vs H Q E h => sp2_len h) (fun cdv A0 outer s H vs Q E hr h => ?_)
  have nd := sc_Call___eq__.nd
  refine ⟨_, (pss_one (ps_ret (pe_and (pe_callB call_isi (by rfl) T.b_isinstance (by decide +kernel) (pa_cons (pv 1) (pa_cons (pe_glob (v := .ref A.c_Call) (by rfl) T.mg_Call rfl) pa_nil))) (pe_one (pe_cmpR op_eq (pe_fld (pv 0) rfl) (pe_fld (pv 1) rfl) (nomark _)))))), ?_⟩
  clear nd hr
  replace h := sp2_of h
  obtain ⟨v_self, v_other, rfl, h⟩ := h

  obtain ⟨d, e, hd, hc, he, hn, k⟩ := h
  cases hd with
  | call ob1 =>
    obtain ⟨dx, fs, hx, lx⟩ := ob1
    refine ⟨_, rfl, _, _, _, _, _, rfl, .own _, (KAt.vt T he).tyx, kit_isaO (KAt.vt T he).tag (T.kco .call), _, rfl, iteB (fun g => ?_) (fun g => by
      rw [eqk_cls hc (isa_cls (t := .k e) (c := .call) T g)] at k
      exact k)⟩
    have ec : e.cls = some .call := of_decide_eq_true (isa_cls (t := .k e) (c := .call) T g)
    cases he with
    | call ob2 =>
      obtain ⟨dy, gs, hy, ly⟩ := ob2
      rw [Kd.eqk] at k
      rw [← dS] at k
      exact ⟨_, rfl, _, _, dx, fs, _, rfl, hx, T.cl_Call, T.n_Call_name, lx _ (List.mem_cons_self ..), _, rfl, _, _, dy, gs, _, rfl, hy, T.cl_Call, T.n_Call_name, ly _ (List.mem_cons_self ..), rfl, k⟩
    | _ => cases ec
  | _ => cases hc
theorem ok_Items___init__ (T : Txt K mg A) : FnOk P w K mg base (L2.CX P w) 3 A.f_Items___init__ A.d_Items___init__ ["self", "item", "width"] (sp_Items___init__ K A) := by
  refine T.F_Items___init__.ok sc_Items___init__ (fun vs H Q E h => sp3_len h) (fun cdv A0 outer s H vs Q E hr h => ?_)
  have nd := sc_Items___init__.nd
  refine ⟨_, (pss_cons (ps_if (pt_not (pt_val (pe_callB call_isiT (by rfl) T.b_isinstance (by decide +kernel) (pa_cons (pv 1) (pa_cons (pe_tup (pa_cons (pe_glob (v := .ref A.c_Number) (by rfl) T.mg_Number rfl) (pa_cons (pe_glob (v := .ref A.c_Bits) (by rfl) T.mg_Bits rfl) (pa_cons (pe_glob (v := .ref A.c_Call) (by rfl) T.mg_Call rfl) pa_nil)))) pa_nil))))) (pss_one (ps_raise rfl (takes_of rfl rfl rfl rfl) (pmk_oex T.oex_BadKind T.ix_BadKind T.tx_BadKind (ok_BadKind___init__ T) (hr.mono (by decide)) T.b_BadKind___init__ .nil pass0 (by rfl) T.mg_BadKind (pa_cons pe_str pa_nil)))) pss_nil)
      (pss_cons (ps_if (PW.pt (pw_and (pt_cmpR op_notN (pv 2) pe_non (nomark _)) (pw_and1 (PW.pt (pw_or (pt_not (pt_val (pe_call (ok_is_integer T) (hr.mono (by decide)) (by rfl) T.mg_is_integer T.k_is_integer T.b_is_integer .nil pass0 (pa_cons (pv 2) pa_nil)))) (pw_or (pt_cmpR op_lt (pv 2) pe_int (nomark _)) (pw_or1 (pt_cmpR op_gt (pv 2) pe_int (nomark _))))))))) (pss_one (ps_raise rfl (takes_of rfl rfl rfl rfl) (pmk_oex T.oex_BadKind T.ix_BadKind T.tx_BadKind (ok_BadKind___init__ T) (hr.mono (by decide)) T.b_BadKind___init__ .nil pass0 (by rfl) T.mg_BadKind (pa_cons pe_str pa_nil)))) pss_nil)
      (pss_cons (ps_fld (pv 0) (pv 1) rfl)
      (pss_one (ps_fld (pv 0) (pv 2) rfl))))), ?_⟩
  clear nd hr
  replace h := sp3_of h
  obtain ⟨v_self, v_item, v_width, rfl, h⟩ := h

  obtain ⟨H0, x, t, tw, rfl, fr, ht, vw, k⟩ := h
  replace vw := vw.keep (KK.same fr.s)
  have ht1 := ht.keep (KI.same fr.s)
  refine ⟨_, rfl, (by show 3 ≤ sizeLine; rw [sizeLine_eq]; decide), fun p hp => ⟨_, p, _, _, _, _, rfl, upd_same, .cons (.own _) (.cons (.own _) (.cons (.own _) .nil)), ((ht1.keep (KI.new hp)).vt T).tyx, any_kc T ht1 [.num, .bits, .call], _, rfl, iteB (fun h1 => ?_) (fun h1 => ?_)⟩⟩
  · rw [show mkItems t v_width = .error "item" from if_pos (not_t h1)] at k
    exact raise_bad (fr.s.trans (same_new hp)) k
  have hi : t.item = true := not_f h1
  replace fr := fr.go (same_new hp (o := .tup [V.ref A.c_Number, V.ref A.c_Bits, V.ref A.c_Call]))
  replace vw := vw.keep (KK.new hp (o := .tup [V.ref A.c_Number, V.ref A.c_Bits, V.ref A.c_Call]))
  refine heap_gen (fun H1 => Fresh A.c_Items x H0 H1 ∧ VT K H1 v_width tw) ⟨fr, vw⟩ fun H1 ⟨fr, vw⟩ => ?_
  have q := any_kd hi
  rw [q] at ht hi k
  have fin : (v_width = oi (oiOf v_width)) → ¬ (v_width ≠ .non ∧ (isI v_width = false ∨ intOf v_width < 1 ∨ 3 < intOf v_width)) → ∀ Q1 : Prop, ((∀ H', Same H0 H' → KAt A H' (.ref x) (.items t.kd (oiOf v_width)) → Q .non H') → Q1) → Q1 := fun _ n Q1 g => by
    rw [show mkItems (.k t.kd) v_width = .ok (.items t.kd (oiOf v_width)) from (if_neg (by rw [hi]; decide)).trans (if_neg n)] at k
    exact g k
  refine ⟨_, rfl, rfl, _, rfl, iteB (fun h2 => ?_) (fun h2 => iteF ?_)⟩
  · have n2 : v_width ≠ .non := of_decide_eq_false (not_t h2)
    refine ⟨_, rfl, _, rfl, tw, vw, _, rfl, iteB (fun h3 => iteY ?_) (fun h3 => ?_)⟩
    · rw [show mkItems (.k t.kd) v_width = .error "width" from (if_neg (by rw [hi]; decide)).trans (if_pos ⟨n2, .inl (not_t h3)⟩)] at k
      exact raise_bad fr.s k
    obtain ⟨i, rfl⟩ := int_ex (not_f h3)
    refine ⟨_, rfl, _, _, rfl, rfl, _, rfl, iteB (fun h4 => iteY ?_) (fun h4 => ?_)⟩
    · rw [show mkItems (.k t.kd) (.int i) = .error "width" from (if_neg (by rw [hi]; decide)).trans (if_pos ⟨n2, .inr (.inl (of_decide_eq_true h4))⟩)] at k
      exact raise_bad fr.s k
    refine ⟨_, rfl, _, _, rfl, rfl, _, rfl, iteB (fun h5 => ?_) (fun h5 => ?_)⟩
    · rw [show mkItems (.k t.kd) (.int i) = .error "width" from (if_neg (by rw [hi]; decide)).trans (if_pos ⟨n2, .inr (.inr (of_decide_eq_true h5))⟩)] at k
      exact raise_bad fr.s k
    refine fin rfl (by
      rintro ⟨_, z | z | z⟩
      · cases z
      · exact of_decide_eq_false h4 z
      · exact of_decide_eq_false h5 z) _ fun k => ?_
    obtain ⟨dx, hx⟩ := fr.at'
    refine ⟨_, rfl, _, rfl, x, _, dx, _, rfl, hx, T.cl_Items, T.n_Items_item, Nat.lt_of_le_of_lt (Nat.le_refl 0 : _ ≤ 0) (by decide : 0 < 1000), ?_⟩
    refine ⟨_, rfl, _, rfl, x, _, dx, _, rfl, upd_same, T.cl_Items, T.n_Items_width, Nat.lt_of_le_of_lt (put_len (Nat.zero_le _) : _ ≤ 1) (by decide : 1 < 1000), ?_⟩
    exact k _ (same_put fr.no (same_put fr.no fr.s)) (.items ⟨dx, _, upd_same, put2 (show ¬ (Str.ofString "item") = Str.ofString "width" by decide +kernel)⟩ (KAt.keep (KI.same (same_put fr.no (same_put fr.no fr.s))) ht) hi)
  · have e2 : v_width = .non := of_decide_eq_true (not_f h2)
    subst e2
    refine fin rfl (by rintro ⟨z, _⟩; exact z rfl) _ fun k => ?_
    obtain ⟨dx, hx⟩ := fr.at'
    refine ⟨_, rfl, _, rfl, x, _, dx, _, rfl, hx, T.cl_Items, T.n_Items_item, Nat.lt_of_le_of_lt (Nat.le_refl 0 : _ ≤ 0) (by decide : 0 < 1000), ?_⟩
    refine ⟨_, rfl, _, rfl, x, _, dx, _, rfl, upd_same, T.cl_Items, T.n_Items_width, Nat.lt_of_le_of_lt (put_len (Nat.zero_le _) : _ ≤ 1) (by decide : 1 < 1000), ?_⟩
    exact k _ (same_put fr.no (same_put fr.no fr.s)) (.items ⟨dx, _, upd_same, put2 (show ¬ (Str.ofString "item") = Str.ofString "width" by decide +kernel)⟩ (KAt.keep (KI.same (same_put fr.no (same_put fr.no fr.s))) ht) hi)
theorem ok_Items___eq__ (T : Txt K mg A) : FnOk P w K mg base CX0 2 A.f_Items___eq__ A.d_Items___eq__ ["self", "other"] (sp_Items___eq__ K A) := by
  refine T.F_Items___eq__.ok sc_Items___eq__ (fun vs H Q E h => sp2_len h) (fun cdv A0 outer s H vs Q E hr h => ?_)
  have nd := sc_Items___eq__.nd
  refine ⟨_, (pss_one (ps_ret (pe_and (pe_callB call_isi (by rfl) T.b_isinstance (by decide +kernel) (pa_cons (pv 1) (pa_cons (pe_glob (v := .ref A.c_Items) (by rfl) T.mg_Items rfl) pa_nil))) (pe_and (pe_cmpR (op_eqKd T (.cons (c := .num) (ok_Number___eq__ T) T.m_Number___eq__ T.i_Number___eq__ T.b_Number___eq__ (hr.mono (by decide)) (.cons (c := .bits) (ok_Bits___eq__ T) T.m_Bits___eq__ T.i_Bits___eq__ T.b_Bits___eq__ (hr.mono (by decide)) (.cons (c := .call) (ok_Call___eq__ T) T.m_Call___eq__ T.i_Call___eq__ T.b_Call___eq__ (hr.mono (by decide)) .nil)))) (pe_fld (pv 0) rfl) (pe_fld (pv 1) rfl) (nomark _)) (pe_one (pe_cmpR op_eq (pe_fld (pv 0) rfl) (pe_fld (pv 1) rfl) (nomark _))))))), ?_⟩
  clear nd hr
  replace h := sp2_of h
  obtain ⟨v_self, v_other, rfl, h⟩ := h

  obtain ⟨d, e, hd, hc, he, hn, k⟩ := h
  cases hd with
  | items ob1 k1 o1 =>
    obtain ⟨dx, fs, hx, lx⟩ := ob1
    refine ⟨_, rfl, _, _, _, _, _, rfl, .own _, (KAt.vt T he).tyx, kit_isaO (KAt.vt T he).tag (T.kco .items), _, rfl, iteB (fun g => ?_) (fun g => by
      rw [eqk_cls hc (isa_cls (t := .k e) (c := .items) T g)] at k
      exact k)⟩
    have ec : e.cls = some .items := of_decide_eq_true (isa_cls (t := .k e) (c := .items) T g)
    cases he with
    | items ob2 k2 o2 =>
      obtain ⟨dy, gs, hy, ly⟩ := ob2
      rw [Kd.eqk] at k
      refine ⟨_, rfl, _, _, dx, fs, _, rfl, hx, T.cl_Items, T.n_Items_item, lx _ (List.mem_cons_self ..), _, rfl, _, _, dy, gs, _, rfl, hy, T.cl_Items, T.n_Items_item, ly _ (List.mem_cons_self ..), _, _, k1, k2, iff_no (any_mem o1).2 (any_mem o2).2, (any_mem o1).1, nn_flat (fun _ => item_way o1), _, rfl, iteB (fun g0 => ?_) (fun g0 => by
        rw [g0, Bool.false_and] at k
        exact k)⟩
      rw [g0, Bool.true_and] at k
      rw [← dO] at k
      exact ⟨_, rfl, _, _, dx, fs, _, rfl, hx, T.cl_Items, T.n_Items_width, lx _ (List.mem_cons_of_mem _ (List.mem_cons_self ..)), _, rfl, _, _, dy, gs, _, rfl, hy, T.cl_Items, T.n_Items_width, ly _ (List.mem_cons_of_mem _ (List.mem_cons_self ..)), scal_oi, k⟩
    | _ => cases ec
  | _ => cases hc
theorem ok_is_simple (T : Txt K mg A) : FnOk P w K mg base CX0 1 A.f_is_simple A.d_is_simple ["thing"] (sp_is_simple K A) := by
  refine T.F_is_simple.ok sc_is_simple (fun vs H Q E h => sp1_len h) (fun cdv A0 outer s H vs Q E hr h => ?_)
  have nd := sc_is_simple.nd
  refine ⟨_, (pss_one (ps_ret (pe_callB call_isiT (by rfl) T.b_isinstance (by decide +kernel) (pa_cons (pv 0) (pa_cons (pe_tup (pa_cons (pe_glob (v := .ref A.c_Number) (by rfl) T.mg_Number rfl) (pa_cons (pe_glob (v := .ref A.c_Bits) (by rfl) T.mg_Bits rfl) (pa_cons (pe_glob (v := .ref A.c_Items) (by rfl) T.mg_Items rfl) (pa_cons (pe_glob (v := .ref A.c_Call) (by rfl) T.mg_Call rfl) pa_nil))))) pa_nil))))), ?_⟩
  clear nd hr
  replace h := sp1_of h
  obtain ⟨v_thing, rfl, h⟩ := h

  obtain ⟨t, ht, k⟩ := h
  refine ⟨_, rfl, (by show 4 ≤ sizeLine; rw [sizeLine_eq]; decide), fun p hp => ⟨_, p, _, _, _, _, rfl, upd_same, .cons (.own _) (.cons (.own _) (.cons (.own _) (.cons (.own _) .nil))), ((ht.keep (KI.new hp)).vt T).tyx, any_kc T ht [.num, .bits, .items, .call], k _ (same_new hp)⟩⟩
theorem ok_check_inner (T : Txt K mg A) : FnOk P w K mg base (L2.CX P w) 3 A.f_check_inner A.d_check_inner ["word", "name", "is_kind"] (sp_check_inner K A) := by
  refine T.F_check_inner.okX sc_check_inner (fun vs H Q E h => sp3_len h) (fun cdv A0 outer s H vs Q E hr h => ?_)
  have nd := sc_check_inner.nd
  refine ⟨_, (pss_cons (ps_if (pt_not (pt_val (pe_call (ok_is_word T) (hr.mono (by decide)) (by rfl) T.mg_is_word T.k_is_word T.b_is_word .nil pass0 (pa_cons (pv 0) pa_nil)))) (pss_one (ps_raise rfl (takes_of rfl rfl rfl rfl) (pmk_oex T.oex_BadKind T.ix_BadKind T.tx_BadKind (ok_BadKind___init__ T) (hr.mono (by decide)) T.b_BadKind___init__ .nil pass0 (by rfl) T.mg_BadKind (pa_cons pe_str pa_nil)))) pss_nil)
      (pss_cons (ps_if (pt_not (pt_val (pe_call (ok_is_name T) (hr.mono (by decide)) (by rfl) T.mg_is_name T.k_is_name T.b_is_name .nil pass0 (pa_cons (pv 1) pa_nil)))) (pss_one (ps_raise rfl (takes_of rfl rfl rfl rfl) (pmk_oex T.oex_BadKind T.ix_BadKind T.tx_BadKind (ok_BadKind___init__ T) (hr.mono (by decide)) T.b_BadKind___init__ .nil pass0 (by rfl) T.mg_BadKind (pa_cons pe_str pa_nil)))) pss_nil)
      (pss_one (ps_if (pt_not (pt_val (pv 2))) (pss_one (ps_raise rfl (takes_of rfl rfl rfl rfl) (pmk_oex T.oex_BadKind T.ix_BadKind T.tx_BadKind (ok_BadKind___init__ T) (hr.mono (by decide)) T.b_BadKind___init__ .nil pass0 (by rfl) T.mg_BadKind (pa_cons pe_str pa_nil)))) pss_nil)))), ?_⟩
  clear nd hr
  replace h := sp3_of h
  obtain ⟨v_word, v_name, v_is_kind, rfl, h⟩ := h

  obtain ⟨t1, t2, c, hw, hn, sw, sn, rfl, k⟩ := h
  refine ⟨_, rfl, _, rfl, t1, hw, sw, _, rfl, iteB (fun h1 => ?_) (fun h1 => ?_)⟩
  · rw [show chk v_word v_name c = some "word" from if_pos (not_t h1)] at k
    exact raise_bad (fun _ _ z => z) k
  refine ⟨_, rfl, _, rfl, t2, hn, sn, _, rfl, iteB (fun h2 => ?_) (fun h2 => ?_)⟩
  · rw [show chk v_word v_name c = some "name" from (if_neg (by rw [not_f h1]; decide)).trans (if_pos (not_t h2))] at k
    exact raise_bad (fun _ _ z => z) k
  refine ⟨_, rfl, _, rfl, iteB (fun h3 => ?_) (fun h3 => ?_)⟩
  · rw [show chk v_word v_name c = some "kind" from (if_neg (by rw [not_f h1]; decide)).trans ((if_neg (by rw [not_f h2]; decide)).trans (if_pos (not_t h3)))] at k
    exact raise_bad (fun _ _ z => z) k
  · rw [show chk v_word v_name c = none from (if_neg (by rw [not_f h1]; decide)).trans ((if_neg (by rw [not_f h2]; decide)).trans (if_neg (by rw [not_f h3]; decide)))] at k
    exact k
theorem ok_Way___init__ (T : Txt K mg A) : FnOk P w K mg base (L2.CX P w) 4 A.f_Way___init__ A.d_Way___init__ ["self", "word", "name", "kind"] (sp_Way___init__ K A) := by
  refine T.F_Way___init__.okX sc_Way___init__ (fun vs H Q E h => sp4_len h) (fun cdv A0 outer s H vs Q E hr h => ?_)
  have nd := sc_Way___init__.nd
  refine ⟨_, (pss_cons (ps_expr (by exact (pe_callS (ok_check_inner T) (hr.mono (by decide)) (by rfl) T.mg_check_inner T.k_check_inner T.b_check_inner (fun σ => passAt (W := fun cls d _ H => E cls d H) (takes_of rfl rfl rfl rfl) σ) (by exact (pa_cons (pv 1) (pa_cons (pv 2) (pa_cons (pe_or (pe_call (ok_is_simple T) (hr.mono (by decide)) (by rfl) T.mg_is_simple T.k_is_simple T.b_is_simple .nil pass0 (pa_cons (pv 3) pa_nil)) (pe_one (pe_callB call_isi (by rfl) T.b_isinstance (by decide +kernel) (pa_cons (pv 3) (pa_cons (pe_glob (v := .ref A.c_Nothing) (by rfl) T.mg_Nothing rfl) pa_nil))))) pa_nil)))))))
      (pss_cons (ps_fld (pv 0) (pv 1) rfl)
      (pss_cons (ps_fld (pv 0) (pv 2) rfl)
      (pss_one (ps_fld (pv 0) (pv 3) rfl))))), ?_⟩
  clear nd hr
  replace h := sp4_of h
  obtain ⟨v_self, v_word, v_name, v_kind, rfl, h⟩ := h

  obtain ⟨H0, x, tw, tn, t, rfl, fr, vw, vn, sw, sn, ht, k⟩ := h
  refine ⟨_, rfl, _, rfl, _, rfl, _, rfl, t, ht.keep (KI.same fr.s), fun H1 e1 => ⟨_, rfl, iteB (fun g1 => ?_) (fun g1 => ?_)⟩⟩
  · have hb : t.way = true := by unfold Td.way; rw [g1]; rfl
    have q := any_kd g1
    rw [q] at ht k hb
    rw [hb] at k
    refine ⟨_, _, _, rfl, tw, tn, _, vw.keep (KK.same (fr.s.trans e1)), vn.keep (KK.same (fr.s.trans e1)), sw, sn, rfl, inner_go (fr.s.trans e1) k fun ce k => ?_⟩
    obtain ⟨ew, en, et⟩ := chk_none ce
    replace et := hb.trans et
    replace fr := fr.go e1
    obtain ⟨dx, hx⟩ := fr.at'
    refine ⟨_, rfl, _, rfl, x, _, dx, _, rfl, hx, T.cl_Way, T.n_Way_word, Nat.lt_of_le_of_lt (Nat.le_refl 0 : _ ≤ 0) (by decide : 0 < 1000), ?_⟩
    refine ⟨_, rfl, _, rfl, x, _, dx, _, rfl, upd_same, T.cl_Way, T.n_Way_name, Nat.lt_of_le_of_lt (put_len (Nat.zero_le _) : _ ≤ 1) (by decide : 1 < 1000), ?_⟩
    refine ⟨_, rfl, _, rfl, x, _, dx, _, rfl, upd_same, T.cl_Way, T.n_Way_kind, Nat.lt_of_le_of_lt (put_len (put_len (Nat.zero_le _)) : _ ≤ 2) (by decide : 2 < 1000), ?_⟩
    refine k _ (same_put fr.no (same_put fr.no (same_put fr.no fr.s))) (.way (w := strOf v_word) (n := strOf v_name) ⟨dx, _, upd_same, ?_⟩ (KAt.keep (KI.same (same_put fr.no (same_put fr.no (same_put fr.no fr.s)))) ht) et)
    rw [← ew, ← en]
    exact put3 (show ¬ (Str.ofString "word") = Str.ofString "name" by decide +kernel) (show ¬ (Str.ofString "word") = Str.ofString "kind" by decide +kernel) (show ¬ (Str.ofString "name") = Str.ofString "kind" by decide +kernel)
  · have hi : Th A K H1 v_kind t := ht.keep (KI.same (fr.s.trans e1))
    refine ⟨_, rfl, _, _, _, _, _, rfl, .own _, (hi.vt T).tyx, kit_isaO (hi.vt T).tag (T.kco .nothing), ?_⟩
    have hb : t.way = isa (t.tag A) (.ref (A.kc .nothing)) := by unfold Td.way; rw [g1, Bool.false_or]; exact (isa_kc T t .nothing).symm
    rw [hb] at k
    refine ⟨_, _, _, rfl, tw, tn, _, vw.keep (KK.same (fr.s.trans e1)), vn.keep (KK.same (fr.s.trans e1)), sw, sn, rfl, inner_go (fr.s.trans e1) k fun ce k => ?_⟩
    obtain ⟨ew, en, et⟩ := chk_none ce
    have q : t = .k t.kd := kd_of (of_decide_eq_true ((isa_kc T t .nothing).symm.trans et))
    replace et := hb.trans et
    rw [q] at ht et
    replace fr := fr.go e1
    obtain ⟨dx, hx⟩ := fr.at'
    refine ⟨_, rfl, _, rfl, x, _, dx, _, rfl, hx, T.cl_Way, T.n_Way_word, Nat.lt_of_le_of_lt (Nat.le_refl 0 : _ ≤ 0) (by decide : 0 < 1000), ?_⟩
    refine ⟨_, rfl, _, rfl, x, _, dx, _, rfl, upd_same, T.cl_Way, T.n_Way_name, Nat.lt_of_le_of_lt (put_len (Nat.zero_le _) : _ ≤ 1) (by decide : 1 < 1000), ?_⟩
    refine ⟨_, rfl, _, rfl, x, _, dx, _, rfl, upd_same, T.cl_Way, T.n_Way_kind, Nat.lt_of_le_of_lt (put_len (put_len (Nat.zero_le _)) : _ ≤ 2) (by decide : 2 < 1000), ?_⟩
    refine k _ (same_put fr.no (same_put fr.no (same_put fr.no fr.s))) (.way (w := strOf v_word) (n := strOf v_name) ⟨dx, _, upd_same, ?_⟩ (KAt.keep (KI.same (same_put fr.no (same_put fr.no (same_put fr.no fr.s)))) ht) et)
    rw [← ew, ← en]
    exact put3 (show ¬ (Str.ofString "word") = Str.ofString "name" by decide +kernel) (show ¬ (Str.ofString "word") = Str.ofString "kind" by decide +kernel) (show ¬ (Str.ofString "name") = Str.ofString "kind" by decide +kernel)
theorem ok_Way___eq__ (T : Txt K mg A) : FnOk P w K mg base CX0 3 A.f_Way___eq__ A.d_Way___eq__ ["self", "other"] (sp_Way___eq__ K A) := by
  refine T.F_Way___eq__.ok sc_Way___eq__ (fun vs H Q E h => sp2_len h) (fun cdv A0 outer s H vs Q E hr h => ?_)
  have nd := sc_Way___eq__.nd
  refine ⟨_, (pss_cons (ps_if (pt_not (pt_val (pe_callB call_isi (by rfl) T.b_isinstance (by decide +kernel) (pa_cons (pv 1) (pa_cons (pe_glob (v := .ref A.c_Way) (by rfl) T.mg_Way rfl) pa_nil))))) (pss_one (ps_ret pe_bl)) pss_nil)
      (pss_one (ps_ret (pe_and (pe_cmpR op_eq (pe_fld (pv 0) rfl) (pe_fld (pv 1) rfl) (nomark _)) (pe_and (pe_cmpR op_eq (pe_fld (pv 0) rfl) (pe_fld (pv 1) rfl) (nomark _)) (pe_one (pe_cmpR (op_eqKd T (.cons (c := .num) (ok_Number___eq__ T) T.m_Number___eq__ T.i_Number___eq__ T.b_Number___eq__ (hr.mono (by decide)) (.cons (c := .bits) (ok_Bits___eq__ T) T.m_Bits___eq__ T.i_Bits___eq__ T.b_Bits___eq__ (hr.mono (by decide)) (.cons (c := .items) (ok_Items___eq__ T) T.m_Items___eq__ T.i_Items___eq__ T.b_Items___eq__ (hr.mono (by decide)) (.cons (c := .call) (ok_Call___eq__ T) T.m_Call___eq__ T.i_Call___eq__ T.b_Call___eq__ (hr.mono (by decide)) (.cons (c := .nothing) (ok_Nothing___eq__ T) T.m_Nothing___eq__ T.i_Nothing___eq__ T.b_Nothing___eq__ (hr.mono (by decide)) .nil)))))) (pe_fld (pv 0) rfl) (pe_fld (pv 1) rfl) (nomark _)))))))), ?_⟩
  clear nd hr
  replace h := sp2_of h
  obtain ⟨v_self, v_other, rfl, h⟩ := h

  obtain ⟨d, e, hd, hc, he, hn, k⟩ := h
  cases hd with
  | way ob1 k1 o1 =>
    obtain ⟨dx, fs, hx, lx⟩ := ob1
    refine ⟨_, rfl, _, _, _, _, _, rfl, .own _, (KAt.vt T he).tyx, kit_isaO (KAt.vt T he).tag (T.kco .way), _, rfl, iteB (fun g => by
      rw [eqk_cls hc (isa_cls (t := .k e) (c := .way) T (not_t g))] at k
      exact k) (fun g => ?_)⟩
    have ec : e.cls = some .way := of_decide_eq_true (isa_cls (t := .k e) (c := .way) T (not_f g))
    cases he with
    | way ob2 k2 o2 =>
      obtain ⟨dy, gs, hy, ly⟩ := ob2
      rw [Kd.eqk] at k
      refine ⟨_, rfl, _, _, dx, fs, _, rfl, hx, T.cl_Way, T.n_Way_word, lx _ (List.mem_cons_self ..), _, rfl, _, _, dy, gs, _, rfl, hy, T.cl_Way, T.n_Way_word, ly _ (List.mem_cons_self ..), rfl, _, rfl, iteB (fun g0 => ?_) (fun g0 => by
        rw [dS] at g0
        rw [g0, Bool.false_and] at k
        exact k)⟩
      rw [dS] at g0
      rw [g0, Bool.true_and] at k
      refine ⟨_, rfl, _, _, dx, fs, _, rfl, hx, T.cl_Way, T.n_Way_name, lx _ (List.mem_cons_of_mem _ (List.mem_cons_self ..)), _, rfl, _, _, dy, gs, _, rfl, hy, T.cl_Way, T.n_Way_name, ly _ (List.mem_cons_of_mem _ (List.mem_cons_self ..)), rfl, _, rfl, iteB (fun g1 => ?_) (fun g1 => by
        rw [dS] at g1
        rw [g1, Bool.false_and] at k
        exact k)⟩
      rw [dS] at g1
      rw [g1, Bool.true_and] at k
      exact ⟨_, rfl, _, _, dx, fs, _, rfl, hx, T.cl_Way, T.n_Way_kind, lx _ (List.mem_cons_of_mem _ (List.mem_cons_of_mem _ (List.mem_cons_self ..))), _, rfl, _, _, dy, gs, _, rfl, hy, T.cl_Way, T.n_Way_kind, ly _ (List.mem_cons_of_mem _ (List.mem_cons_of_mem _ (List.mem_cons_self ..))), _, _, k1, k2, iff_no (any_mem (way_any o1)).2 (any_mem (way_any o2)).2, (any_mem (way_any o1)).1, nn_flat (fun _ => o1), k⟩
    | _ => cases ec
  | _ => cases hc
theorem ok_Door___init__ (T : Txt K mg A) : FnOk P w K mg base (L2.CX P w) 4 A.f_Door___init__ A.d_Door___init__ ["self", "word", "name", "kind"] (sp_Door___init__ K A) := by
  refine T.F_Door___init__.okX sc_Door___init__ (fun vs H Q E h => sp4_len h) (fun cdv A0 outer s H vs Q E hr h => ?_)
  have nd := sc_Door___init__.nd
  refine ⟨_, (pss_cons (ps_expr (by exact (pe_callS (ok_check_inner T) (hr.mono (by decide)) (by rfl) T.mg_check_inner T.k_check_inner T.b_check_inner (fun σ => passAt (W := fun cls d _ H => E cls d H) (takes_of rfl rfl rfl rfl) σ) (by exact (pa_cons (pv 1) (pa_cons (pv 2) (pa_cons (pe_or (pe_cmpR op_isN (pv 3) pe_non (nomark _)) (pe_or (pe_call (ok_is_simple T) (hr.mono (by decide)) (by rfl) T.mg_is_simple T.k_is_simple T.b_is_simple .nil pass0 (pa_cons (pv 3) pa_nil)) (pe_one (pe_callB call_isi (by rfl) T.b_isinstance (by decide +kernel) (pa_cons (pv 3) (pa_cons (pe_glob (v := .ref A.c_Nothing) (by rfl) T.mg_Nothing rfl) pa_nil)))))) pa_nil)))))))
      (pss_cons (ps_fld (pv 0) (pv 1) rfl)
      (pss_cons (ps_fld (pv 0) (pv 2) rfl)
      (pss_one (ps_fld (pv 0) (pv 3) rfl))))), ?_⟩
  clear nd hr
  replace h := sp4_of h
  obtain ⟨v_self, v_word, v_name, v_kind, rfl, h⟩ := h

  obtain ⟨H0, x, tw, tn, t, rfl, fr, vw, vn, sw, sn, ht, k⟩ := h
  refine ⟨_, rfl, _, rfl, _, rfl, rfl, _, rfl, iteB (fun g0 => ?_) (fun g0 => ?_)⟩
  · have hb : t.door = true := by unfold Td.door; rw [← th_non ht, g0]; rfl
    have q : t = .k t.kd := by
      have z : t.isNone = true := (th_non ht).symm.trans g0
      cases t with
      | k d => rfl
      | raw n => cases z
    rw [q] at ht k hb
    rw [hb] at k
    refine ⟨_, _, _, rfl, tw, tn, _, vw.keep (KK.same fr.s), vn.keep (KK.same fr.s), sw, sn, rfl, inner_go fr.s k fun ce k => ?_⟩
    obtain ⟨ew, en, et⟩ := chk_none ce
    replace et := hb.trans et
    replace fr := fr.go (fun _ _ z => z)
    obtain ⟨dx, hx⟩ := fr.at'
    refine ⟨_, rfl, _, rfl, x, _, dx, _, rfl, hx, T.cl_Door, T.n_Door_word, Nat.lt_of_le_of_lt (Nat.le_refl 0 : _ ≤ 0) (by decide : 0 < 1000), ?_⟩
    refine ⟨_, rfl, _, rfl, x, _, dx, _, rfl, upd_same, T.cl_Door, T.n_Door_name, Nat.lt_of_le_of_lt (put_len (Nat.zero_le _) : _ ≤ 1) (by decide : 1 < 1000), ?_⟩
    refine ⟨_, rfl, _, rfl, x, _, dx, _, rfl, upd_same, T.cl_Door, T.n_Door_kind, Nat.lt_of_le_of_lt (put_len (put_len (Nat.zero_le _)) : _ ≤ 2) (by decide : 2 < 1000), ?_⟩
    refine k _ (same_put fr.no (same_put fr.no (same_put fr.no fr.s))) (.door (w := strOf v_word) (n := strOf v_name) ⟨dx, _, upd_same, ?_⟩ (KAt.keep (KI.same (same_put fr.no (same_put fr.no (same_put fr.no fr.s)))) ht) et)
    rw [← ew, ← en]
    exact put3 (show ¬ (Str.ofString "word") = Str.ofString "name" by decide +kernel) (show ¬ (Str.ofString "word") = Str.ofString "kind" by decide +kernel) (show ¬ (Str.ofString "name") = Str.ofString "kind" by decide +kernel)
  have g0' : t.isNone = false := (th_non ht).symm.trans g0
  refine ⟨_, rfl, _, rfl, t, ht.keep (KI.same fr.s), fun H1 e1 => ⟨_, rfl, iteB (fun g1 => ?_) (fun g1 => ?_)⟩⟩
  · have hb : t.door = true := by unfold Td.door; rw [g0', g1]; rfl
    have q := any_kd g1
    rw [q] at ht k hb
    rw [hb] at k
    refine ⟨_, _, _, rfl, tw, tn, _, vw.keep (KK.same (fr.s.trans e1)), vn.keep (KK.same (fr.s.trans e1)), sw, sn, rfl, inner_go (fr.s.trans e1) k fun ce k => ?_⟩
    obtain ⟨ew, en, et⟩ := chk_none ce
    replace et := hb.trans et
    replace fr := fr.go e1
    obtain ⟨dx, hx⟩ := fr.at'
    refine ⟨_, rfl, _, rfl, x, _, dx, _, rfl, hx, T.cl_Door, T.n_Door_word, Nat.lt_of_le_of_lt (Nat.le_refl 0 : _ ≤ 0) (by decide : 0 < 1000), ?_⟩
    refine ⟨_, rfl, _, rfl, x, _, dx, _, rfl, upd_same, T.cl_Door, T.n_Door_name, Nat.lt_of_le_of_lt (put_len (Nat.zero_le _) : _ ≤ 1) (by decide : 1 < 1000), ?_⟩
    refine ⟨_, rfl, _, rfl, x, _, dx, _, rfl, upd_same, T.cl_Door, T.n_Door_kind, Nat.lt_of_le_of_lt (put_len (put_len (Nat.zero_le _)) : _ ≤ 2) (by decide : 2 < 1000), ?_⟩
    refine k _ (same_put fr.no (same_put fr.no (same_put fr.no fr.s))) (.door (w := strOf v_word) (n := strOf v_name) ⟨dx, _, upd_same, ?_⟩ (KAt.keep (KI.same (same_put fr.no (same_put fr.no (same_put fr.no fr.s)))) ht) et)
    rw [← ew, ← en]
    exact put3 (show ¬ (Str.ofString "word") = Str.ofString "name" by decide +kernel) (show ¬ (Str.ofString "word") = Str.ofString "kind" by decide +kernel) (show ¬ (Str.ofString "name") = Str.ofString "kind" by decide +kernel)
  · have hi : Th A K H1 v_kind t := ht.keep (KI.same (fr.s.trans e1))
    refine ⟨_, rfl, _, _, _, _, _, rfl, .own _, (hi.vt T).tyx, kit_isaO (hi.vt T).tag (T.kco .nothing), ?_⟩
    have hb : t.door = isa (t.tag A) (.ref (A.kc .nothing)) := by unfold Td.door; rw [g0', g1, Bool.false_or, Bool.false_or]; exact (isa_kc T t .nothing).symm
    rw [hb] at k
    refine ⟨_, _, _, rfl, tw, tn, _, vw.keep (KK.same (fr.s.trans e1)), vn.keep (KK.same (fr.s.trans e1)), sw, sn, rfl, inner_go (fr.s.trans e1) k fun ce k => ?_⟩
    obtain ⟨ew, en, et⟩ := chk_none ce
    have q : t = .k t.kd := kd_of (of_decide_eq_true ((isa_kc T t .nothing).symm.trans et))
    replace et := hb.trans et
    rw [q] at ht et
    replace fr := fr.go e1
    obtain ⟨dx, hx⟩ := fr.at'
    refine ⟨_, rfl, _, rfl, x, _, dx, _, rfl, hx, T.cl_Door, T.n_Door_word, Nat.lt_of_le_of_lt (Nat.le_refl 0 : _ ≤ 0) (by decide : 0 < 1000), ?_⟩
    refine ⟨_, rfl, _, rfl, x, _, dx, _, rfl, upd_same, T.cl_Door, T.n_Door_name, Nat.lt_of_le_of_lt (put_len (Nat.zero_le _) : _ ≤ 1) (by decide : 1 < 1000), ?_⟩
    refine ⟨_, rfl, _, rfl, x, _, dx, _, rfl, upd_same, T.cl_Door, T.n_Door_kind, Nat.lt_of_le_of_lt (put_len (put_len (Nat.zero_le _)) : _ ≤ 2) (by decide : 2 < 1000), ?_⟩
    refine k _ (same_put fr.no (same_put fr.no (same_put fr.no fr.s))) (.door (w := strOf v_word) (n := strOf v_name) ⟨dx, _, upd_same, ?_⟩ (KAt.keep (KI.same (same_put fr.no (same_put fr.no (same_put fr.no fr.s)))) ht) et)
    rw [← ew, ← en]
    exact put3 (show ¬ (Str.ofString "word") = Str.ofString "name" by decide +kernel) (show ¬ (Str.ofString "word") = Str.ofString "kind" by decide +kernel) (show ¬ (Str.ofString "name") = Str.ofString "kind" by decide +kernel)
theorem ok_Door___eq__ (T : Txt K mg A) : FnOk P w K mg base CX0 3 A.f_Door___eq__ A.d_Door___eq__ ["self", "other"] (sp_Door___eq__ K A) := by
  refine T.F_Door___eq__.ok sc_Door___eq__ (fun vs H Q E h => sp2_len h) (fun cdv A0 outer s H vs Q E hr h => ?_)
  have nd := sc_Door___eq__.nd
  refine ⟨_, (pss_cons (ps_if (pt_not (pt_val (pe_callB call_isi (by rfl) T.b_isinstance (by decide +kernel) (pa_cons (pv 1) (pa_cons (pe_glob (v := .ref A.c_Door) (by rfl) T.mg_Door rfl) pa_nil))))) (pss_one (ps_ret pe_bl)) pss_nil)
      (pss_one (ps_ret (pe_and (pe_cmpR op_eq (pe_fld (pv 0) rfl) (pe_fld (pv 1) rfl) (nomark _)) (pe_and (pe_cmpR op_eq (pe_fld (pv 0) rfl) (pe_fld (pv 1) rfl) (nomark _)) (pe_one (pe_cmpR (op_eqKd T (.cons (c := .num) (ok_Number___eq__ T) T.m_Number___eq__ T.i_Number___eq__ T.b_Number___eq__ (hr.mono (by decide)) (.cons (c := .bits) (ok_Bits___eq__ T) T.m_Bits___eq__ T.i_Bits___eq__ T.b_Bits___eq__ (hr.mono (by decide)) (.cons (c := .items) (ok_Items___eq__ T) T.m_Items___eq__ T.i_Items___eq__ T.b_Items___eq__ (hr.mono (by decide)) (.cons (c := .call) (ok_Call___eq__ T) T.m_Call___eq__ T.i_Call___eq__ T.b_Call___eq__ (hr.mono (by decide)) (.cons (c := .nothing) (ok_Nothing___eq__ T) T.m_Nothing___eq__ T.i_Nothing___eq__ T.b_Nothing___eq__ (hr.mono (by decide)) .nil)))))) (pe_fld (pv 0) rfl) (pe_fld (pv 1) rfl) (nomark _)))))))), ?_⟩
  clear nd hr
  replace h := sp2_of h
  obtain ⟨v_self, v_other, rfl, h⟩ := h

  obtain ⟨d, e, hd, hc, he, hn, k⟩ := h
  cases hd with
  | door ob1 k1 o1 =>
    obtain ⟨dx, fs, hx, lx⟩ := ob1
    refine ⟨_, rfl, _, _, _, _, _, rfl, .own _, (KAt.vt T he).tyx, kit_isaO (KAt.vt T he).tag (T.kco .door), _, rfl, iteB (fun g => by
      rw [eqk_cls hc (isa_cls (t := .k e) (c := .door) T (not_t g))] at k
      exact k) (fun g => ?_)⟩
    have ec : e.cls = some .door := of_decide_eq_true (isa_cls (t := .k e) (c := .door) T (not_f g))
    cases he with
    | door ob2 k2 o2 =>
      obtain ⟨dy, gs, hy, ly⟩ := ob2
      rw [Kd.eqk] at k
      refine ⟨_, rfl, _, _, dx, fs, _, rfl, hx, T.cl_Door, T.n_Door_word, lx _ (List.mem_cons_self ..), _, rfl, _, _, dy, gs, _, rfl, hy, T.cl_Door, T.n_Door_word, ly _ (List.mem_cons_self ..), rfl, _, rfl, iteB (fun g0 => ?_) (fun g0 => by
        rw [dS] at g0
        rw [g0, Bool.false_and] at k
        exact k)⟩
      rw [dS] at g0
      rw [g0, Bool.true_and] at k
      refine ⟨_, rfl, _, _, dx, fs, _, rfl, hx, T.cl_Door, T.n_Door_name, lx _ (List.mem_cons_of_mem _ (List.mem_cons_self ..)), _, rfl, _, _, dy, gs, _, rfl, hy, T.cl_Door, T.n_Door_name, ly _ (List.mem_cons_of_mem _ (List.mem_cons_self ..)), rfl, _, rfl, iteB (fun g1 => ?_) (fun g1 => by
        rw [dS] at g1
        rw [g1, Bool.false_and] at k
        exact k)⟩
      rw [dS] at g1
      rw [g1, Bool.true_and] at k
      exact ⟨_, rfl, _, _, dx, fs, _, rfl, hx, T.cl_Door, T.n_Door_kind, lx _ (List.mem_cons_of_mem _ (List.mem_cons_of_mem _ (List.mem_cons_self ..))), _, rfl, _, _, dy, gs, _, rfl, hy, T.cl_Door, T.n_Door_kind, ly _ (List.mem_cons_of_mem _ (List.mem_cons_of_mem _ (List.mem_cons_self ..))), _, _, k1, k2, iff_of hn, (fun c q => (any_mem (way_any (door_way o1 (by rw [q]; exact fun z => nomatch z)))).1 c q), nn_flat (fun q => door_way o1 q), k⟩
    | _ => cases ec
  | _ => cases hc
theorem ok_are_ways (T : Txt K mg A) : FnOk P w K mg base CX0 2 A.f_are_ways A.d_are_ways ["ways"] (sp_are_ways K A) := by
  refine T.F_are_ways.ok sc_are_ways (fun vs H Q E h => sp1_len h) (fun cdv A0 outer s H vs Q E hr h => ?_)
  have nd := sc_are_ways.nd
  refine ⟨_, (pss_cons (ps_if (PW.pt (pw_or (pt_not (pt_val (pe_callB call_isiT (by rfl) T.b_isinstance (by decide +kernel) (pa_cons (pv 0) (pa_cons (pe_tup (pa_cons (pe_bltn (v := .ty "list") (by rfl) T.b_list (by decide +kernel) rfl) (pa_cons (pe_bltn (v := .ty "tuple") (by rfl) T.b_tuple (by decide +kernel) rfl) pa_nil))) pa_nil))))) (pw_or (pt_cmpR op_lt (pe_callB call_len (by rfl) T.b_len (by decide +kernel) (pa_cons (pv 0) pa_nil)) pe_int (nomark _)) (pw_or1 (pt_cmpR op_gt (pe_callB call_len (by rfl) T.b_len (by decide +kernel) (pa_cons (pv 0) pa_nil)) pe_int (nomark _)))))) (pss_one (ps_ret pe_bl)) pss_nil)
      (pss_cons (ps_set (i := 1) nd rfl (by first | exact Or.inl rfl | exact Or.inr rfl) pe_int)
      (pss_cons (ps_for PassesOwn.never rfl (pi_enumA (by rfl) T.b_enumerate (pa_cons (pv 0) pa_nil)) (pg_tup (by rfl) (pgs_cons (pg_name (i := 2) nd rfl (by first | exact Or.inl rfl | exact Or.inr rfl)) (pgs_cons (pg_name (i := 3) nd rfl (by first | exact Or.inl rfl | exact Or.inr rfl)) pgs_nil))) (pss_cons (ps_if (pt_not (pt_val (pe_callB call_isiT (by rfl) T.b_isinstance (by decide +kernel) (pa_cons (pv 3) (pa_cons (pe_tup (pa_cons (pe_glob (v := .ref A.c_Way) (by rfl) T.mg_Way rfl) (pa_cons (pe_glob (v := .ref A.c_Door) (by rfl) T.mg_Door rfl) pa_nil))) pa_nil))))) (pss_one (ps_ret pe_bl)) pss_nil)
      (Evl.pss_cut (ps_if (pt_val (pe_callB call_isi (by rfl) T.b_isinstance (by decide +kernel) (pa_cons (pv 3) (pa_cons (pe_glob (v := .ref A.c_Way) (by rfl) T.mg_Way rfl) pa_nil)))) (pss_one (ps_aug (i := 1) nd rfl (by first | exact Or.inl rfl | exact Or.inr rfl) pe_int ip_add)) pss_nil)
      (pss_one (ps_for PassesOwn.never rfl (pi_or (pi_list (pe_slice sl_list (pv 0) po_none (po_some (pv 2)))) (pi_tup (pe_slice sl_tupA (pv 0) po_none (po_some (pv 2))))) (pg_name (i := 4) nd rfl (by first | exact Or.inl rfl | exact Or.inr rfl)) (pss_one (ps_if (PW.pt (pw_or (pt_val (pe_call (ok_begins T) (hr.mono (by decide)) (by rfl) T.mg_begins T.k_begins T.b_begins .nil pass0 (pa_cons (pe_fld (pv 3) rfl) (pa_cons (pe_fld (pv 4) rfl) pa_nil)))) (pw_or1 (pt_cmpR op_eq (pe_fld (pv 3) rfl) (pe_fld (pv 4) rfl) (nomark _))))) (pss_one (ps_ret pe_bl)) pss_nil)))))))
      (pss_one (ps_ret (pe_cmpR op_gt (pv 1) pe_int (nomark _))))))), ?_⟩
  clear nd hr
  replace h := sp1_of h
  obtain ⟨v_ways, rfl, h⟩ := h

  obtain ⟨o, hs, k⟩ := h
  have hv : ∃ t, VT K H v_ways t ∧ (isa t (.type "list") || (isa t (.type "tuple") || false)) = o.isSome := by
    cases hs with
    | lst e _ _ => exact ⟨_, .lst e, by rw [isa_self]; rfl⟩
    | tup e _ _ => exact ⟨_, .tup e, by rw [isa_self, isa_not (by decide) (by decide)]; rfl⟩
    | no h n1 n2 => exact ⟨_, h, by rw [isa_not n1 (by decide), isa_not n2 (by decide)]; rfl⟩
  obtain ⟨tv, hv, hb⟩ := hv
  refine ⟨_, rfl, (by show 2 ≤ sizeLine; rw [sizeLine_eq]; decide), fun p hp => ⟨_, p, _, _, _, _, rfl, upd_same, .cons (.ty _) (.cons (.ty _) .nil), (hv.keep (KK.new hp)).tyx, any_lt hv, _, rfl, iteB (fun h1 => iteY ?_) (fun h1 => ?_)⟩⟩
  · have e : o = none := by
      have z := not_t h1
      rw [hb] at z
      cases o <;> first | rfl | cases z
    subst e
    exact k _ (same_new hp)
  refine heap_gen2 (fun H1 => Same H H1) (same_new hp (o := .tup [V.ty "list", V.ty "tuple"])) fun H1 e1 => ?_
  cases hs with
  | no h n1 n2 =>
    have z := not_f h1
    rw [hb] at z
    cases z
  | @lst a vs ts ea hp2 hl =>
    replace hp2 := ths_keep (KI.same e1) hp2
    replace ea := e1 _ _ ea
    have hlen := paired_len hp2
    refine ⟨_, rfl, _, _, rfl, .inl ⟨_, SqL.of ea, rfl⟩, _, _, rfl, rfl, _, rfl, iteB (fun h2 => iteY ?_) (fun h2 => ?_)⟩
    · have z : okSeq okWays (some ts) = false := by
        show okWays ts = false
        have := of_decide_eq_true h2
        simp only [okWays, decide_eq_false (show ¬ 1 ≤ ts.length by omega), Bool.false_and]
      rw [z] at k
      exact k _ e1
    refine ⟨_, rfl, _, _, rfl, .inl ⟨_, SqL.of ea, rfl⟩, _, _, rfl, rfl, _, rfl, iteB (fun h3 => ?_) (fun h3 => ?_)⟩
    · have z : okSeq okWays (some ts) = false := by
        show okWays ts = false
        have := of_decide_eq_true h3
        simp only [okWays, decide_eq_false (show ¬ ts.length ≤ 12 by omega), Bool.false_and, Bool.and_false]
      rw [z] at k
      exact k _ e1
    have l1 : 1 ≤ ts.length := by have := of_decide_eq_false h2; omega
    have l2 : ts.length ≤ 12 := by have := of_decide_eq_false h3; omega
    have bad : goodW [] ts = false → ∀ H2, Same H H2 → Q (.bl false) H2 := fun g H2 e2 => by
      have z : okSeq okWays (some ts) = false := by
        show okWays ts = false
        simp only [okWays, g, Bool.false_and, Bool.and_false]
      rw [z] at k
      exact k H2 e2
    refine ⟨_, rfl, a, vs, rfl, .inl ⟨SqL.of ea, for_it walk_enum (fun i σ' H' => ∃ (n : Int) (a1 a2 a3 : Option V), σ' = [some (.ref a), some (.int n), a1, a2, a3] ∧ Same H1 H' ∧ goodW [] (ts.take i) = true ∧ 0 ≤ n ∧ decide (0 < n) = (ts.take i).any fun t => decide (t.cls = some .way)) ⟨0, _, _, _, rfl, fun _ _ z => z, rfl, by decide, rfl⟩ (fun i σ' H' _ ⟨_, _, _, _, _, e2, _⟩ => SqL.of (e2 _ _ ea)) ?_ ?_⟩⟩
    · rintro i x σ' H' H'' hi ⟨n, a1, a2, a3, rfl, e2, g, hn, hw⟩ ⟨T1, u, z, rfl, hT, rfl, hu, hz⟩
      have hu2 := Option.some.inj hu
      subst hu2
      obtain ⟨t, ht, hx⟩ := paired_at hp2 hz
      have e3 : Same H1 (upd H' T1 (.tup [.int (i : Nat), z])) := e2.trans (same_new hT)
      refine ⟨T1, _, rfl, SqT.of upd_same, rfl, ?_⟩
      refine heap_gen2 (fun H3 => Same H1 H3) e3 fun H3 e3 => ?_
      refine ⟨_, _, rfl, _, _, rfl, rfl, ?_⟩
      have hx3 := hx.keep (KI.same e3)
      refine ⟨_, rfl, (by show 2 ≤ sizeLine; rw [sizeLine_eq]; decide), fun p4 hp4 => ⟨_, p4, _, _, _, _, rfl, upd_same, .cons (.own _) (.cons (.own _) .nil), ((hx3.keep (KI.new hp4)).vt T).tyx, any_kc T hx3 [.way, .door], _, rfl, iteB (fun g1 => ?_) (fun g1 => ?_)⟩⟩
      · exact bad (goodW_bad ht (not_t g1)) _ (e1.trans (e3.trans (same_new hp4)))
      have tw : t.wd = true := not_f g1
      refine heap_gen (fun H4 => Same H1 H4) (e3.trans (same_new hp4 (o := .tup [V.ref (A.kc .way), V.ref (A.kc .door)]))) fun H4 e4 => ?_
      have hx4 := hx.keep (KI.same e4)
      refine ⟨fun σ' H' => ∃ (n : Int) (a1 : Option V), σ' = [some (.ref a), some (.int n), some (.int (i : Nat)), some z, a1] ∧ H' = H4 ∧ 0 ≤ n ∧ decide (0 < n) = (ts.take (i + 1)).any fun t => decide (t.cls = some .way), ?_, ?_⟩
      · refine ⟨_, rfl, _, _, _, _, _, rfl, .own _, (hx4.vt T).tyx, kit_isaO (hx4.vt T).tag (T.kco .way), _, rfl, iteB (fun g2 => ?_) (fun g2 => ?_)⟩
        · refine ⟨_, rfl, _, _, rfl, rfl, n + 1, _, rfl, rfl, by omega, ?_⟩
          have q := isa_cls (c := .way) T g2
          rw [take_one ht, List.any_append, decide_eq_true (show 0 < n + 1 by omega), show ([t].any fun t => decide (t.cls = some Kc.way)) = true by simp only [List.any_cons, q]; rfl, Bool.or_true]
        · refine ⟨n, _, rfl, rfl, hn, ?_⟩
          have q := isa_cls (c := .way) T g2
          rw [take_one ht, List.any_append, hw, show ([t].any fun t => decide (t.cls = some Kc.way)) = false by simp only [List.any_cons, q]; rfl, Bool.or_false]
      rintro σ' H' ⟨n2, a4, rfl, rfl, hn2, hw2⟩
      refine .inl ⟨_, rfl, _, rfl, _, rfl, a, vs, rfl, SqL.of (e4 _ _ ea), fun q hq => ?_⟩
      rw [cut_to]
      have e5 : Same H1 (upd H' q (.lst (vs.take i))) := e4.trans (same_new hq)
      refine ⟨q, rfl, ⟨_, SqL.of upd_same⟩, ?_⟩
      have sq : SqL K (upd H' q (.lst (vs.take i))) q (vs.take i) := SqL.of upd_same
      generalize upd H' q (.lst (vs.take i)) = H5 at e5 sq ⊢
      refine for_it (walk_list (xs := vs.take i)) (fun j σ' H' => ∃ (a3 : Option V), σ' = [some (.ref a), some (.int n2), some (.int (i : Nat)), some z, a3] ∧ H' = H5 ∧ ((ts.take i).take j).all (fun o => !(pre2 t.word o.word) && !decide (t.name = o.name)) = true) ⟨_, rfl, rfl, rfl⟩ (fun j σ' H' _ ⟨_, _, e, _⟩ => by rw [e]; exact sq) ?_ ?_
      · rintro j y σ' H' H9 _ ⟨a5, rfl, rfl, hall⟩ ⟨rfl, hj⟩
        have hj2 : vs[j]? = some y ∧ j < i := by
          rw [List.getElem?_take] at hj
          by_cases c : j < i
          · rw [if_pos c] at hj; exact ⟨hj, c⟩
          · rw [if_neg c] at hj; cases hj
        obtain ⟨o, ho, hy⟩ := paired_at hp2 hj2.1
        have ho2 : (ts.take i)[j]? = some o := by rw [List.getElem?_take, if_pos hj2.2]; exact ho
        have ow : o.wd = true := goodW_wd g o (List.mem_of_getElem? ho2)
        obtain ⟨xa, xC, xd, xf, rfl, x1, x2, x3, x4, x5, x6⟩ := wd_fld T (hx.keep (KI.same e5)) tw
        obtain ⟨ya, yC, yd, yf, rfl, y1, y2, y3, y4, y5, y6⟩ := wd_fld T (hy.keep (KI.same e5)) ow
        refine ⟨_, rfl, xa, xC, xd, xf, _, rfl, x1, x2, x3, x5, _, rfl, ya, yC, yd, yf, _, rfl, y1, y2, y3, y5, _, _, rfl, _, _, rfl, rfl, _, rfl, iteB (fun g3 => iteY ?_) (fun g3 => ?_)⟩
        · exact bad (goodW_bad2 ht (all_bad ho2 (by rw [g3]; rfl))) _ (e1.trans e5)
        refine ⟨_, rfl, xa, xC, xd, xf, _, rfl, x1, x2, x4, x6, _, rfl, ya, yC, yd, yf, _, rfl, y1, y2, y4, y6, rfl, _, rfl, iteB (fun g4 => ?_) (fun g4 => ?_)⟩
        · rw [dS] at g4
          exact bad (goodW_bad2 ht (all_bad ho2 (by rw [g4, g3]; rfl))) _ (e1.trans e5)
        · rw [dS] at g4
          exact ⟨_, rfl, rfl, all_step hall ho2 (by rw [g4, g3]; rfl)⟩
      · rintro σ' H' ⟨a6, rfl, rfl, hall⟩
        have hlt : (vs.take i).length = (ts.take i).length := by rw [List.length_take, List.length_take, hlen]
        rw [hlt, List.take_length] at hall
        exact ⟨n2, _, _, _, rfl, e5, goodW_step ht g tw hall, hn2, hw2⟩
    · rintro σ' H' ⟨n, a1, a2, a3, rfl, e2, g, hn, hw⟩
      rw [hlen, List.take_length] at g hw
      refine ⟨_, rfl, _, _, rfl, rfl, ?_⟩
      have z : okSeq okWays (some ts) = decide (0 < n) := by
        show okWays ts = _
        simp only [okWays, g, decide_eq_true l1, decide_eq_true l2, Bool.true_and, hw]
      rw [z] at k
      exact k _ (e1.trans e2)
  | @tup a vs ts ea hp2 hl =>
    replace hp2 := ths_keep (KI.same e1) hp2
    replace ea := e1 _ _ ea
    have hlen := paired_len hp2
    refine ⟨_, rfl, _, _, rfl, .inr ⟨_, SqT.of ea, rfl⟩, _, _, rfl, rfl, _, rfl, iteB (fun h2 => iteY ?_) (fun h2 => ?_)⟩
    · have z : okSeq okWays (some ts) = false := by
        show okWays ts = false
        have := of_decide_eq_true h2
        simp only [okWays, decide_eq_false (show ¬ 1 ≤ ts.length by omega), Bool.false_and]
      rw [z] at k
      exact k _ e1
    refine ⟨_, rfl, _, _, rfl, .inr ⟨_, SqT.of ea, rfl⟩, _, _, rfl, rfl, _, rfl, iteB (fun h3 => ?_) (fun h3 => ?_)⟩
    · have z : okSeq okWays (some ts) = false := by
        show okWays ts = false
        have := of_decide_eq_true h3
        simp only [okWays, decide_eq_false (show ¬ ts.length ≤ 12 by omega), Bool.false_and, Bool.and_false]
      rw [z] at k
      exact k _ e1
    have l1 : 1 ≤ ts.length := by have := of_decide_eq_false h2; omega
    have l2 : ts.length ≤ 12 := by have := of_decide_eq_false h3; omega
    have bad : goodW [] ts = false → ∀ H2, Same H H2 → Q (.bl false) H2 := fun g H2 e2 => by
      have z : okSeq okWays (some ts) = false := by
        show okWays ts = false
        simp only [okWays, g, Bool.false_and, Bool.and_false]
      rw [z] at k
      exact k H2 e2
    refine ⟨_, rfl, a, vs, rfl, .inr ⟨SqT.of ea, for_it walk_enumT (fun i σ' H' => ∃ (n : Int) (a1 a2 a3 : Option V), σ' = [some (.ref a), some (.int n), a1, a2, a3] ∧ Same H1 H' ∧ goodW [] (ts.take i) = true ∧ 0 ≤ n ∧ decide (0 < n) = (ts.take i).any fun t => decide (t.cls = some .way)) ⟨0, _, _, _, rfl, fun _ _ z => z, rfl, by decide, rfl⟩ (fun i σ' H' _ ⟨_, _, _, _, _, e2, _⟩ => SqT.of (e2 _ _ ea)) ?_ ?_⟩⟩
    · rintro i x σ' H' H'' hi ⟨n, a1, a2, a3, rfl, e2, g, hn, hw⟩ ⟨T1, u, z, rfl, hT, rfl, hu, hz⟩
      have hu2 := Option.some.inj hu
      subst hu2
      obtain ⟨t, ht, hx⟩ := paired_at hp2 hz
      have e3 : Same H1 (upd H' T1 (.tup [.int (i : Nat), z])) := e2.trans (same_new hT)
      refine ⟨T1, _, rfl, SqT.of upd_same, rfl, ?_⟩
      refine heap_gen2 (fun H3 => Same H1 H3) e3 fun H3 e3 => ?_
      refine ⟨_, _, rfl, _, _, rfl, rfl, ?_⟩
      have hx3 := hx.keep (KI.same e3)
      refine ⟨_, rfl, (by show 2 ≤ sizeLine; rw [sizeLine_eq]; decide), fun p4 hp4 => ⟨_, p4, _, _, _, _, rfl, upd_same, .cons (.own _) (.cons (.own _) .nil), ((hx3.keep (KI.new hp4)).vt T).tyx, any_kc T hx3 [.way, .door], _, rfl, iteB (fun g1 => ?_) (fun g1 => ?_)⟩⟩
      · exact bad (goodW_bad ht (not_t g1)) _ (e1.trans (e3.trans (same_new hp4)))
      have tw : t.wd = true := not_f g1
      refine heap_gen (fun H4 => Same H1 H4) (e3.trans (same_new hp4 (o := .tup [V.ref (A.kc .way), V.ref (A.kc .door)]))) fun H4 e4 => ?_
      have hx4 := hx.keep (KI.same e4)
      refine ⟨fun σ' H' => ∃ (n : Int) (a1 : Option V), σ' = [some (.ref a), some (.int n), some (.int (i : Nat)), some z, a1] ∧ H' = H4 ∧ 0 ≤ n ∧ decide (0 < n) = (ts.take (i + 1)).any fun t => decide (t.cls = some .way), ?_, ?_⟩
      · refine ⟨_, rfl, _, _, _, _, _, rfl, .own _, (hx4.vt T).tyx, kit_isaO (hx4.vt T).tag (T.kco .way), _, rfl, iteB (fun g2 => ?_) (fun g2 => ?_)⟩
        · refine ⟨_, rfl, _, _, rfl, rfl, n + 1, _, rfl, rfl, by omega, ?_⟩
          have q := isa_cls (c := .way) T g2
          rw [take_one ht, List.any_append, decide_eq_true (show 0 < n + 1 by omega), show ([t].any fun t => decide (t.cls = some Kc.way)) = true by simp only [List.any_cons, q]; rfl, Bool.or_true]
        · refine ⟨n, _, rfl, rfl, hn, ?_⟩
          have q := isa_cls (c := .way) T g2
          rw [take_one ht, List.any_append, hw, show ([t].any fun t => decide (t.cls = some Kc.way)) = false by simp only [List.any_cons, q]; rfl, Bool.or_false]
      rintro σ' H' ⟨n2, a4, rfl, rfl, hn2, hw2⟩
      refine .inr ⟨_, rfl, _, rfl, _, rfl, a, vs, rfl, SqT.of (e4 _ _ ea), fun w => absurd w (cut_tup hi), fun _ q hq => ?_⟩
      rw [cut_to]
      have e5 : Same H1 (upd H' q (.tup (vs.take i))) := e4.trans (same_new hq)
      refine ⟨q, rfl, ⟨_, SqT.of upd_same⟩, ?_⟩
      have sq : SqT K (upd H' q (.tup (vs.take i))) q (vs.take i) := SqT.of upd_same
      generalize upd H' q (.tup (vs.take i)) = H5 at e5 sq ⊢
      refine for_it (walk_tup (xs := vs.take i)) (fun j σ' H' => ∃ (a3 : Option V), σ' = [some (.ref a), some (.int n2), some (.int (i : Nat)), some z, a3] ∧ H' = H5 ∧ ((ts.take i).take j).all (fun o => !(pre2 t.word o.word) && !decide (t.name = o.name)) = true) ⟨_, rfl, rfl, rfl⟩ (fun j σ' H' _ ⟨_, _, e, _⟩ => by rw [e]; exact sq) ?_ ?_
      · rintro j y σ' H' H9 _ ⟨a5, rfl, rfl, hall⟩ ⟨rfl, hj⟩
        have hj2 : vs[j]? = some y ∧ j < i := by
          rw [List.getElem?_take] at hj
          by_cases c : j < i
          · rw [if_pos c] at hj; exact ⟨hj, c⟩
          · rw [if_neg c] at hj; cases hj
        obtain ⟨o, ho, hy⟩ := paired_at hp2 hj2.1
        have ho2 : (ts.take i)[j]? = some o := by rw [List.getElem?_take, if_pos hj2.2]; exact ho
        have ow : o.wd = true := goodW_wd g o (List.mem_of_getElem? ho2)
        obtain ⟨xa, xC, xd, xf, rfl, x1, x2, x3, x4, x5, x6⟩ := wd_fld T (hx.keep (KI.same e5)) tw
        obtain ⟨ya, yC, yd, yf, rfl, y1, y2, y3, y4, y5, y6⟩ := wd_fld T (hy.keep (KI.same e5)) ow
        refine ⟨_, rfl, xa, xC, xd, xf, _, rfl, x1, x2, x3, x5, _, rfl, ya, yC, yd, yf, _, rfl, y1, y2, y3, y5, _, _, rfl, _, _, rfl, rfl, _, rfl, iteB (fun g3 => iteY ?_) (fun g3 => ?_)⟩
        · exact bad (goodW_bad2 ht (all_bad ho2 (by rw [g3]; rfl))) _ (e1.trans e5)
        refine ⟨_, rfl, xa, xC, xd, xf, _, rfl, x1, x2, x4, x6, _, rfl, ya, yC, yd, yf, _, rfl, y1, y2, y4, y6, rfl, _, rfl, iteB (fun g4 => ?_) (fun g4 => ?_)⟩
        · rw [dS] at g4
          exact bad (goodW_bad2 ht (all_bad ho2 (by rw [g4, g3]; rfl))) _ (e1.trans e5)
        · rw [dS] at g4
          exact ⟨_, rfl, rfl, all_step hall ho2 (by rw [g4, g3]; rfl)⟩
      · rintro σ' H' ⟨a6, rfl, rfl, hall⟩
        have hlt : (vs.take i).length = (ts.take i).length := by rw [List.length_take, List.length_take, hlen]
        rw [hlt, List.take_length] at hall
        exact ⟨n2, _, _, _, rfl, e5, goodW_step ht g tw hall, hn2, hw2⟩
    · rintro σ' H' ⟨n, a1, a2, a3, rfl, e2, g, hn, hw⟩
      rw [hlen, List.take_length] at g hw
      refine ⟨_, rfl, _, _, rfl, rfl, ?_⟩
      have z : okSeq okWays (some ts) = decide (0 < n) := by
        show okWays ts = _
        simp only [okWays, g, decide_eq_true l1, decide_eq_true l2, Bool.true_and, hw]
      rw [z] at k
      exact k _ (e1.trans e2)
theorem ok_Choice___init__ (T : Txt K mg A) : FnOk P w K mg base (L2.CX P w) 3 A.f_Choice___init__ A.d_Choice___init__ ["self", "ways"] (sp_Choice___init__ K A) := by
  refine T.F_Choice___init__.okX sc_Choice___init__ (fun vs H Q E h => sp2_len h) (fun cdv A0 outer s H vs Q E hr h => ?_)
  have nd := sc_Choice___init__.nd
  refine ⟨_, (pss_cons (ps_if (pt_not (pt_val (pe_call (ok_are_ways T) (hr.mono (by decide)) (by rfl) T.mg_are_ways T.k_are_ways T.b_are_ways .nil pass0 (pa_cons (pv 1) pa_nil)))) (pss_one (ps_raise rfl (takes_of rfl rfl rfl rfl) (pmk_oex T.oex_BadKind T.ix_BadKind T.tx_BadKind (ok_BadKind___init__ T) (hr.mono (by decide)) T.b_BadKind___init__ .nil pass0 (by rfl) T.mg_BadKind (pa_cons pe_str pa_nil)))) pss_nil)
      (pss_one (ps_fld (pv 0) (pe_callTy call_tuple_of (by rfl) T.b_tuple (by decide +kernel) (pa_cons (pv 1) pa_nil)) rfl))), ?_⟩
  clear nd hr
  replace h := sp2_of h
  obtain ⟨v_self, v_ways, rfl, h⟩ := h

  obtain ⟨H0, x, o, rfl, fr, hs, k⟩ := h
  refine ⟨_, rfl, _, rfl, o, hs.keep fr.s, fun H1 e1 => ⟨_, rfl, iteB (fun h1 => ?_) (fun h1 => ?_)⟩⟩
  · rw [show mkSeq .choice okWays "ways" o = .error "ways" by
      have z := not_t h1
      cases o with
      | none => rfl
      | some ts => exact if_pos z] at k
    exact raise_bad (fr.s.trans e1) k
  replace h1 := not_f h1
  cases hs with
  | no _ _ _ => cases h1
  | @lst a vs ts ea hp hl =>
    have z : okWays ts = true := h1
    rw [show mkSeq .choice okWays "ways" (some ts) = .ok (.choice (ts.map Td.kd)) from if_neg (by rw [z]; decide)] at k
    replace fr := fr.go e1
    obtain ⟨dx, hx⟩ := fr.at'
    refine ⟨_, rfl, a, vs, rfl, .inl ⟨SqL.of (fr.s _ _ ea), fun q hq => ?_⟩⟩
    have nq : q ≠ x := fun z => by rw [z, hx] at hq; cases hq
    refine ⟨_, rfl, x, _, dx, _, rfl, (by rw [upd_ne nq.symm]; exact hx), T.cl_Choice, T.n_Choice_ways, Nat.lt_of_le_of_lt (Nat.le_refl 0 : _ ≤ 0) (by decide : 0 < 1000), ?_⟩
    have e4 : ∀ o, Same H0 (upd (upd H1 q (.tup vs)) x o) := fun o => same_put fr.no (fr.s.trans (same_new hq))
    have gw := goodW_wd (okWays_good z)
    refine k _ (e4 _) (.choice ⟨dx, _, upd_same, put1⟩ (by rw [upd_ne nq]; exact upd_same) (KAts.keep (KI.same (e4 _)) (kats_of hp fun t ht => any_kd (gw t ht))) ?_)
    intro y hy
    obtain ⟨t, ht, rfl⟩ := List.mem_map.mp hy
    have q2 := any_kd (gw t ht)
    rw [← q2]
    exact gw t ht
  | @tup a vs ts ea hp hl =>
    have z : okWays ts = true := h1
    rw [show mkSeq .choice okWays "ways" (some ts) = .ok (.choice (ts.map Td.kd)) from if_neg (by rw [z]; decide)] at k
    replace fr := fr.go e1
    obtain ⟨dx, hx⟩ := fr.at'
    refine ⟨_, rfl, a, vs, rfl, .inr ⟨SqT.of (fr.s _ _ ea), ?_⟩⟩
    have nq : a ≠ x := fun z => by rw [z, fr.no] at ea; cases ea
    refine ⟨_, rfl, x, _, dx, _, rfl, hx, T.cl_Choice, T.n_Choice_ways, Nat.lt_of_le_of_lt (Nat.le_refl 0 : _ ≤ 0) (by decide : 0 < 1000), ?_⟩
    have e4 : ∀ o, Same H0 (upd H1 x o) := fun o => same_put fr.no fr.s
    have gw := goodW_wd (okWays_good z)
    refine k _ (e4 _) (.choice ⟨dx, _, upd_same, put1⟩ (by rw [upd_ne nq]; exact fr.s _ _ ea) (KAts.keep (KI.same (e4 _)) (kats_of hp fun t ht => any_kd (gw t ht))) ?_)
    intro y hy
    obtain ⟨t, ht, rfl⟩ := List.mem_map.mp hy
    have q2 := any_kd (gw t ht)
    rw [← q2]
    exact gw t ht
theorem ok_Part___init__ (T : Txt K mg A) : FnOk P w K mg base (L2.CX P w) 3 A.f_Part___init__ A.d_Part___init__ ["self", "name", "kind"] (sp_Part___init__ K A) := by
  refine T.F_Part___init__.okX sc_Part___init__ (fun vs H Q E h => sp3_len h) (fun cdv A0 outer s H vs Q E hr h => ?_)
  have nd := sc_Part___init__.nd
  refine ⟨_, (pss_cons (ps_if (pt_not (pt_val (pe_call (ok_is_name T) (hr.mono (by decide)) (by rfl) T.mg_is_name T.k_is_name T.b_is_name .nil pass0 (pa_cons (pv 1) pa_nil)))) (pss_one (ps_raise rfl (takes_of rfl rfl rfl rfl) (pmk_oex T.oex_BadKind T.ix_BadKind T.tx_BadKind (ok_BadKind___init__ T) (hr.mono (by decide)) T.b_BadKind___init__ .nil pass0 (by rfl) T.mg_BadKind (pa_cons pe_str pa_nil)))) pss_nil)
      (pss_cons (ps_if (pt_not (pt_val (pe_call (ok_is_simple T) (hr.mono (by decide)) (by rfl) T.mg_is_simple T.k_is_simple T.b_is_simple .nil pass0 (pa_cons (pv 2) pa_nil)))) (pss_one (ps_raise rfl (takes_of rfl rfl rfl rfl) (pmk_oex T.oex_BadKind T.ix_BadKind T.tx_BadKind (ok_BadKind___init__ T) (hr.mono (by decide)) T.b_BadKind___init__ .nil pass0 (by rfl) T.mg_BadKind (pa_cons pe_str pa_nil)))) pss_nil)
      (pss_cons (ps_fld (pv 0) (pv 1) rfl)
      (pss_one (ps_fld (pv 0) (pv 2) rfl))))), ?_⟩
  clear nd hr
  replace h := sp3_of h
  obtain ⟨v_self, v_name, v_kind, rfl, h⟩ := h

  obtain ⟨H0, x, tn, t, rfl, fr, vn, sn, ht, k⟩ := h
  replace vn := vn.keep (KK.same fr.s)
  refine ⟨_, rfl, _, rfl, tn, vn, sn, _, rfl, iteB (fun h1 => ?_) (fun h1 => ?_)⟩
  · rw [show mkPart v_name t = .error "name" from if_pos (not_t h1)] at k
    exact raise_bad fr.s k
  obtain ⟨z, rfl⟩ : ∃ z, v_name = .str z := by
    cases v_name <;> first | exact ⟨_, rfl⟩ | cases h1
  refine ⟨_, rfl, _, rfl, t, ht.keep (KI.same fr.s), fun H1 e1 => ⟨_, rfl, iteB (fun h2 => ?_) (fun h2 => ?_)⟩⟩
  · rw [show mkPart (.str z) t = .error "kind" from (if_neg (by rw [not_f h1]; decide)).trans (if_pos (not_t h2))] at k
    exact raise_bad (fr.s.trans e1) k
  have hi : t.simple = true := not_f h2
  rw [show mkPart (.str z) t = .ok (.part z t.kd) from (if_neg (by rw [not_f h1]; decide)).trans (if_neg (by rw [hi]; decide))] at k
  have q := any_kd hi
  rw [q] at ht hi
  replace fr := fr.go e1
  obtain ⟨dx, hx⟩ := fr.at'
  refine ⟨_, rfl, _, rfl, x, _, dx, _, rfl, hx, T.cl_Part, T.n_Part_name, Nat.lt_of_le_of_lt (Nat.le_refl 0 : _ ≤ 0) (by decide : 0 < 1000), ?_⟩
  refine ⟨_, rfl, _, rfl, x, _, dx, _, rfl, upd_same, T.cl_Part, T.n_Part_kind, Nat.lt_of_le_of_lt (put_len (Nat.zero_le _) : _ ≤ 1) (by decide : 1 < 1000), ?_⟩
  exact k _ (same_put fr.no (same_put fr.no fr.s)) (.part ⟨dx, _, upd_same, put2 (show ¬ (Str.ofString "name") = Str.ofString "kind" by decide +kernel)⟩ (KAt.keep (KI.same (same_put fr.no (same_put fr.no fr.s))) ht) hi)
theorem ok_Room___init__ (T : Txt K mg A) : FnOk P w K mg base (L2.CX P w) 4 A.f_Room___init__ A.d_Room___init__ ["self", "word", "name", "kind"] (sp_Room___init__ K A) := by
  refine T.F_Room___init__.okX sc_Room___init__ (fun vs H Q E h => sp4_len h) (fun cdv A0 outer s H vs Q E hr h => ?_)
  have nd := sc_Room___init__.nd
  refine ⟨_, (pss_cons (ps_expr (by exact (pe_callS (ok_check_inner T) (hr.mono (by decide)) (by rfl) T.mg_check_inner T.k_check_inner T.b_check_inner (fun σ => passAt (W := fun cls d _ H => E cls d H) (takes_of rfl rfl rfl rfl) σ) (by exact (pa_cons (pv 1) (pa_cons (pv 2) (pa_cons (pe_or (pe_cmpR op_isN (pv 3) pe_non (nomark _)) (pe_one (pe_call (ok_is_simple T) (hr.mono (by decide)) (by rfl) T.mg_is_simple T.k_is_simple T.b_is_simple .nil pass0 (pa_cons (pv 3) pa_nil)))) pa_nil)))))))
      (pss_cons (ps_fld (pv 0) (pv 1) rfl)
      (pss_cons (ps_fld (pv 0) (pv 2) rfl)
      (pss_one (ps_fld (pv 0) (pv 3) rfl))))), ?_⟩
  clear nd hr
  replace h := sp4_of h
  obtain ⟨v_self, v_word, v_name, v_kind, rfl, h⟩ := h

  obtain ⟨H0, x, tw, tn, t, rfl, fr, vw, vn, sw, sn, ht, k⟩ := h
  refine ⟨_, rfl, _, rfl, _, rfl, rfl, _, rfl, iteB (fun g0 => ?_) (fun g0 => ?_)⟩
  · have hb : t.room = true := by unfold Td.room; rw [← th_non ht, g0]; rfl
    have q : t = .k t.kd := by
      have z : t.isNone = true := (th_non ht).symm.trans g0
      cases t with
      | k d => rfl
      | raw n => cases z
    rw [q] at ht k hb
    rw [hb] at k
    refine ⟨_, _, _, rfl, tw, tn, _, vw.keep (KK.same fr.s), vn.keep (KK.same fr.s), sw, sn, rfl, inner_go fr.s k fun ce k => ?_⟩
    obtain ⟨ew, en, et⟩ := chk_none ce
    replace et := hb.trans et
    replace fr := fr.go (fun _ _ z => z)
    obtain ⟨dx, hx⟩ := fr.at'
    refine ⟨_, rfl, _, rfl, x, _, dx, _, rfl, hx, T.cl_Room, T.n_Room_word, Nat.lt_of_le_of_lt (Nat.le_refl 0 : _ ≤ 0) (by decide : 0 < 1000), ?_⟩
    refine ⟨_, rfl, _, rfl, x, _, dx, _, rfl, upd_same, T.cl_Room, T.n_Room_name, Nat.lt_of_le_of_lt (put_len (Nat.zero_le _) : _ ≤ 1) (by decide : 1 < 1000), ?_⟩
    refine ⟨_, rfl, _, rfl, x, _, dx, _, rfl, upd_same, T.cl_Room, T.n_Room_kind, Nat.lt_of_le_of_lt (put_len (put_len (Nat.zero_le _)) : _ ≤ 2) (by decide : 2 < 1000), ?_⟩
    refine k _ (same_put fr.no (same_put fr.no (same_put fr.no fr.s))) (.room (w := strOf v_word) (n := strOf v_name) ⟨dx, _, upd_same, ?_⟩ (KAt.keep (KI.same (same_put fr.no (same_put fr.no (same_put fr.no fr.s)))) ht) et)
    rw [← ew, ← en]
    exact put3 (show ¬ (Str.ofString "word") = Str.ofString "name" by decide +kernel) (show ¬ (Str.ofString "word") = Str.ofString "kind" by decide +kernel) (show ¬ (Str.ofString "name") = Str.ofString "kind" by decide +kernel)
  have g0' : t.isNone = false := (th_non ht).symm.trans g0
  refine ⟨_, rfl, _, rfl, t, ht.keep (KI.same fr.s), fun H1 e1 => ?_⟩
  · have hb : t.room = t.simple := by unfold Td.room; rw [g0']; rfl
    rw [hb] at k
    refine ⟨_, _, _, rfl, tw, tn, _, vw.keep (KK.same (fr.s.trans e1)), vn.keep (KK.same (fr.s.trans e1)), sw, sn, rfl, inner_go (fr.s.trans e1) k fun ce k => ?_⟩
    obtain ⟨ew, en, et⟩ := chk_none ce
    replace fr := fr.go e1
    obtain ⟨dx, hx⟩ := fr.at'
    have q := any_kd et
    rw [q] at ht
    refine ⟨_, rfl, _, rfl, x, _, dx, _, rfl, hx, T.cl_Room, T.n_Room_word, Nat.lt_of_le_of_lt (Nat.le_refl 0 : _ ≤ 0) (by decide : 0 < 1000), ?_⟩
    refine ⟨_, rfl, _, rfl, x, _, dx, _, rfl, upd_same, T.cl_Room, T.n_Room_name, Nat.lt_of_le_of_lt (put_len (Nat.zero_le _) : _ ≤ 1) (by decide : 1 < 1000), ?_⟩
    refine ⟨_, rfl, _, rfl, x, _, dx, _, rfl, upd_same, T.cl_Room, T.n_Room_kind, Nat.lt_of_le_of_lt (put_len (put_len (Nat.zero_le _)) : _ ≤ 2) (by decide : 2 < 1000), ?_⟩
    refine k _ (same_put fr.no (same_put fr.no (same_put fr.no fr.s))) (.room (w := strOf v_word) (n := strOf v_name) ⟨dx, _, upd_same, ?_⟩ (KAt.keep (KI.same (same_put fr.no (same_put fr.no (same_put fr.no fr.s)))) ht) (by rw [← q]; exact hb.trans et))
    rw [← ew, ← en]
    exact put3 (show ¬ (Str.ofString "word") = Str.ofString "name" by decide +kernel) (show ¬ (Str.ofString "word") = Str.ofString "kind" by decide +kernel) (show ¬ (Str.ofString "name") = Str.ofString "kind" by decide +kernel)
theorem ok_are_parts (T : Txt K mg A) : FnOk P w K mg base CX0 1 A.f_are_parts A.d_are_parts ["parts"] (sp_are_parts K A) := by
  refine T.F_are_parts.ok sc_are_parts (fun vs H Q E h => sp1_len h) (fun cdv A0 outer s H vs Q E hr h => ?_)
  have nd := sc_are_parts.nd
  refine ⟨_, (pss_cons (ps_if (PW.pt (pw_or (pt_not (pt_val (pe_callB call_isiT (by rfl) T.b_isinstance (by decide +kernel) (pa_cons (pv 0) (pa_cons (pe_tup (pa_cons (pe_bltn (v := .ty "list") (by rfl) T.b_list (by decide +kernel) rfl) (pa_cons (pe_bltn (v := .ty "tuple") (by rfl) T.b_tuple (by decide +kernel) rfl) pa_nil))) pa_nil))))) (pw_or (pt_cmpR op_lt (pe_callB call_len (by rfl) T.b_len (by decide +kernel) (pa_cons (pv 0) pa_nil)) pe_int (nomark _)) (pw_or1 (pt_cmpR op_gt (pe_callB call_len (by rfl) T.b_len (by decide +kernel) (pa_cons (pv 0) pa_nil)) pe_int (nomark _)))))) (pss_one (ps_ret pe_bl)) pss_nil)
      (pss_cons (ps_for PassesOwn.never rfl (pi_enumA (by rfl) T.b_enumerate (pa_cons (pv 0) pa_nil)) (pg_tup (by rfl) (pgs_cons (pg_name (i := 1) nd rfl (by first | exact Or.inl rfl | exact Or.inr rfl)) (pgs_cons (pg_name (i := 2) nd rfl (by first | exact Or.inl rfl | exact Or.inr rfl)) pgs_nil))) (pss_cons (ps_if (pt_not (pt_val (pe_callB call_isiT (by rfl) T.b_isinstance (by decide +kernel) (pa_cons (pv 2) (pa_cons (pe_tup (pa_cons (pe_glob (v := .ref A.c_Part) (by rfl) T.mg_Part rfl) (pa_cons (pe_glob (v := .ref A.c_Room) (by rfl) T.mg_Room rfl) pa_nil))) pa_nil))))) (pss_one (ps_ret pe_bl)) pss_nil)
      (pss_one (ps_for PassesOwn.never rfl (pi_or (pi_list (pe_slice sl_list (pv 0) po_none (po_some (pv 1)))) (pi_tup (pe_slice sl_tupA (pv 0) po_none (po_some (pv 1))))) (pg_name (i := 3) nd rfl (by first | exact Or.inl rfl | exact Or.inr rfl)) (pss_one (ps_if (pt_cmpR op_eq (pe_fld (pv 2) rfl) (pe_fld (pv 3) rfl) (nomark _)) (pss_one (ps_ret pe_bl)) pss_nil))))))
      (pss_one (ps_ret (pe_callB call_isi (by rfl) T.b_isinstance (by decide +kernel) (pa_cons (pe_ix (ix_list.or ix_tup) (pv 0) (pe_un un_neg pe_int) (fun _ _ => rfl)) (pa_cons (pe_glob (v := .ref A.c_Part) (by rfl) T.mg_Part rfl) pa_nil))))))), ?_⟩
  clear nd hr
  replace h := sp1_of h
  obtain ⟨v_parts, rfl, h⟩ := h

  obtain ⟨o, hs, k⟩ := h
  have hv : ∃ t, VT K H v_parts t ∧ (isa t (.type "list") || (isa t (.type "tuple") || false)) = o.isSome := by
    cases hs with
    | lst e _ _ => exact ⟨_, .lst e, by rw [isa_self]; rfl⟩
    | tup e _ _ => exact ⟨_, .tup e, by rw [isa_self, isa_not (by decide) (by decide)]; rfl⟩
    | no h n1 n2 => exact ⟨_, h, by rw [isa_not n1 (by decide), isa_not n2 (by decide)]; rfl⟩
  obtain ⟨tv, hv, hb⟩ := hv
  refine ⟨_, rfl, (by show 2 ≤ sizeLine; rw [sizeLine_eq]; decide), fun p hp => ⟨_, p, _, _, _, _, rfl, upd_same, .cons (.ty _) (.cons (.ty _) .nil), (hv.keep (KK.new hp)).tyx, any_lt hv, _, rfl, iteB (fun h1 => iteY ?_) (fun h1 => ?_)⟩⟩
  · have e : o = none := by
      have z := not_t h1
      rw [hb] at z
      cases o <;> first | rfl | cases z
    subst e
    exact k _ (same_new hp)
  refine heap_gen2 (fun H1 => Same H H1) (same_new hp (o := .tup [V.ty "list", V.ty "tuple"])) fun H1 e1 => ?_
  cases hs with
  | no h n1 n2 =>
    have z := not_f h1
    rw [hb] at z
    cases z
  | @lst a vs ts ea hp2 hl =>
    replace hp2 := ths_keep (KI.same e1) hp2
    replace ea := e1 _ _ ea
    have hlen := paired_len hp2
    refine ⟨_, rfl, _, _, rfl, .inl ⟨_, SqL.of ea, rfl⟩, _, _, rfl, rfl, _, rfl, iteB (fun h2 => iteY ?_) (fun h2 => ?_)⟩
    · have z : okSeq okParts (some ts) = false := by
        show okParts ts = false
        have := of_decide_eq_true h2
        simp only [okParts, decide_eq_false (show ¬ 1 ≤ ts.length by omega), Bool.false_and]
      rw [z] at k
      exact k _ e1
    refine ⟨_, rfl, _, _, rfl, .inl ⟨_, SqL.of ea, rfl⟩, _, _, rfl, rfl, _, rfl, iteB (fun h3 => ?_) (fun h3 => ?_)⟩
    · have z : okSeq okParts (some ts) = false := by
        show okParts ts = false
        have := of_decide_eq_true h3
        simp only [okParts, decide_eq_false (show ¬ ts.length ≤ 8 by omega), Bool.false_and, Bool.and_false]
      rw [z] at k
      exact k _ e1
    have l1 : 1 ≤ ts.length := by have := of_decide_eq_false h2; omega
    have l2 : ts.length ≤ 8 := by have := of_decide_eq_false h3; omega
    have bad : goodP [] ts = false → ∀ H2, Same H H2 → Q (.bl false) H2 := fun g H2 e2 => by
      have z : okSeq okParts (some ts) = false := by
        show okParts ts = false
        simp only [okParts, g, Bool.false_and, Bool.and_false]
      rw [z] at k
      exact k H2 e2
    refine ⟨_, rfl, a, vs, rfl, .inl ⟨SqL.of ea, for_it walk_enum (fun i σ' H' => ∃ (a1 a2 a3 : Option V), σ' = [some (.ref a), a1, a2, a3] ∧ Same H1 H' ∧ goodP [] (ts.take i) = true) ⟨_, _, _, rfl, fun _ _ z => z, rfl⟩ (fun i σ' H' _ ⟨_, _, _, _, e2, _⟩ => SqL.of (e2 _ _ ea)) ?_ ?_⟩⟩
    · rintro i x σ' H' H'' hi ⟨a1, a2, a3, rfl, e2, g⟩ ⟨T1, u, z, rfl, hT, rfl, hu, hz⟩
      have hu2 := Option.some.inj hu
      subst hu2
      obtain ⟨t, ht, hx⟩ := paired_at hp2 hz
      have e3 : Same H1 (upd H' T1 (.tup [.int (i : Nat), z])) := e2.trans (same_new hT)
      refine ⟨T1, _, rfl, SqT.of upd_same, rfl, ?_⟩
      refine heap_gen2 (fun H3 => Same H1 H3) e3 fun H3 e3 => ?_
      refine ⟨_, _, rfl, _, _, rfl, rfl, ?_⟩
      have hx3 := hx.keep (KI.same e3)
      refine ⟨_, rfl, (by show 2 ≤ sizeLine; rw [sizeLine_eq]; decide), fun p4 hp4 => ⟨_, p4, _, _, _, _, rfl, upd_same, .cons (.own _) (.cons (.own _) .nil), ((hx3.keep (KI.new hp4)).vt T).tyx, any_kc T hx3 [.part, .room], _, rfl, iteB (fun g1 => ?_) (fun g1 => ?_)⟩⟩
      · exact bad (goodP_bad ht (not_t g1)) _ (e1.trans (e3.trans (same_new hp4)))
      have tw : t.pr = true := not_f g1
      refine heap_gen (fun H4 => Same H1 H4) (e3.trans (same_new hp4 (o := .tup [V.ref (A.kc .part), V.ref (A.kc .room)]))) fun H4 e4 => ?_
      have hx4 := hx.keep (KI.same e4)
      refine .inl ⟨_, rfl, _, rfl, _, rfl, a, vs, rfl, SqL.of (e4 _ _ ea), fun q hq => ?_⟩
      rw [cut_to]
      have e5 : Same H1 (upd H4 q (.lst (vs.take i))) := e4.trans (same_new hq)
      refine ⟨q, rfl, ⟨_, SqL.of upd_same⟩, ?_⟩
      have sq : SqL K (upd H4 q (.lst (vs.take i))) q (vs.take i) := SqL.of upd_same
      generalize upd H4 q (.lst (vs.take i)) = H5 at e5 sq ⊢
      refine for_it (walk_list (xs := vs.take i)) (fun j σ' H' => ∃ (a3 : Option V), σ' = [some (.ref a), some (.int (i : Nat)), some z, a3] ∧ H' = H5 ∧ ((ts.take i).take j).all (fun o => !decide (t.name = o.name)) = true) ⟨_, rfl, rfl, rfl⟩ (fun j σ' H' _ ⟨_, _, e, _⟩ => by rw [e]; exact sq) ?_ ?_
      · rintro j y σ' H' H9 _ ⟨a5, rfl, rfl, hall⟩ ⟨rfl, hj⟩
        have hj2 : vs[j]? = some y ∧ j < i := by
          rw [List.getElem?_take] at hj
          by_cases c : j < i
          · rw [if_pos c] at hj; exact ⟨hj, c⟩
          · rw [if_neg c] at hj; cases hj
        obtain ⟨o, ho, hy⟩ := paired_at hp2 hj2.1
        have ho2 : (ts.take i)[j]? = some o := by rw [List.getElem?_take, if_pos hj2.2]; exact ho
        have ow : o.pr = true := goodP_pr g o (List.mem_of_getElem? ho2)
        obtain ⟨xa, xC, xd, xf, rfl, x1, x2, x4, x6⟩ := pr_fld T (hx.keep (KI.same e5)) tw
        obtain ⟨ya, yC, yd, yf, rfl, y1, y2, y4, y6⟩ := pr_fld T (hy.keep (KI.same e5)) ow
        refine ⟨_, rfl, xa, xC, xd, xf, _, rfl, x1, x2, x4, x6, _, rfl, ya, yC, yd, yf, _, rfl, y1, y2, y4, y6, rfl, _, rfl, iteB (fun g4 => ?_) (fun g4 => ?_)⟩
        · rw [dS] at g4
          exact bad (goodP_bad2 ht (all_bad ho2 (by rw [g4]; rfl))) _ (e1.trans e5)
        · rw [dS] at g4
          exact ⟨_, rfl, rfl, all_step hall ho2 (by rw [g4]; rfl)⟩
      · rintro σ' H' ⟨a6, rfl, rfl, hall⟩
        have hlt : (vs.take i).length = (ts.take i).length := by rw [List.length_take, List.length_take, hlen]
        rw [hlt, List.take_length] at hall
        exact ⟨_, _, _, rfl, e5, goodP_step ht g tw hall⟩
    · rintro σ' H' ⟨a1, a2, a3, rfl, e2, g⟩
      rw [hlen, List.take_length] at g
      have hk : vs.length - 1 < vs.length := by omega
      have hat : atI vs (-1) = some vs[vs.length - 1] := by
        unfold atI ixN
        rw [if_neg (by decide), if_pos (by omega)]
        have : ((-1 : Int) + (vs.length : Int)).toNat = vs.length - 1 := by omega
        simp only [Option.bind_some, this]
        exact List.getElem?_eq_getElem hk
      obtain ⟨t, ht, hx⟩ := paired_at hp2 (List.getElem?_eq_getElem hk)
      have hx2 := hx.keep (KI.same e2)
      refine ⟨_, rfl, _, rfl, .inl ⟨a, vs, _, _, rfl, rfl, SqL.of (e2 _ _ ea), hat, _, _, _, _, _, rfl, .own _, (hx2.vt T).tyx, kit_isaO (hx2.vt T).tag (T.kco .part), ?_⟩⟩
      have z : okSeq okParts (some ts) = isa (t.tag A) (.ref (A.kc .part)) := by
        show okParts ts = _
        have gl : ts.getLast? = some t := by
          rw [List.getLast?_eq_getElem?, ← hlen]
          exact ht
        simp only [okParts, g, decide_eq_true l1, decide_eq_true l2, Bool.true_and, gl]
        exact (isa_kc T t .part).symm
      rw [z] at k
      exact k _ (e1.trans e2)
  | @tup a vs ts ea hp2 hl =>
    replace hp2 := ths_keep (KI.same e1) hp2
    replace ea := e1 _ _ ea
    have hlen := paired_len hp2
    refine ⟨_, rfl, _, _, rfl, .inr ⟨_, SqT.of ea, rfl⟩, _, _, rfl, rfl, _, rfl, iteB (fun h2 => iteY ?_) (fun h2 => ?_)⟩
    · have z : okSeq okParts (some ts) = false := by
        show okParts ts = false
        have := of_decide_eq_true h2
        simp only [okParts, decide_eq_false (show ¬ 1 ≤ ts.length by omega), Bool.false_and]
      rw [z] at k
      exact k _ e1
    refine ⟨_, rfl, _, _, rfl, .inr ⟨_, SqT.of ea, rfl⟩, _, _, rfl, rfl, _, rfl, iteB (fun h3 => ?_) (fun h3 => ?_)⟩
    · have z : okSeq okParts (some ts) = false := by
        show okParts ts = false
        have := of_decide_eq_true h3
        simp only [okParts, decide_eq_false (show ¬ ts.length ≤ 8 by omega), Bool.false_and, Bool.and_false]
      rw [z] at k
      exact k _ e1
    have l1 : 1 ≤ ts.length := by have := of_decide_eq_false h2; omega
    have l2 : ts.length ≤ 8 := by have := of_decide_eq_false h3; omega
    have bad : goodP [] ts = false → ∀ H2, Same H H2 → Q (.bl false) H2 := fun g H2 e2 => by
      have z : okSeq okParts (some ts) = false := by
        show okParts ts = false
        simp only [okParts, g, Bool.false_and, Bool.and_false]
      rw [z] at k
      exact k H2 e2
    refine ⟨_, rfl, a, vs, rfl, .inr ⟨SqT.of ea, for_it walk_enumT (fun i σ' H' => ∃ (a1 a2 a3 : Option V), σ' = [some (.ref a), a1, a2, a3] ∧ Same H1 H' ∧ goodP [] (ts.take i) = true) ⟨_, _, _, rfl, fun _ _ z => z, rfl⟩ (fun i σ' H' _ ⟨_, _, _, _, e2, _⟩ => SqT.of (e2 _ _ ea)) ?_ ?_⟩⟩
    · rintro i x σ' H' H'' hi ⟨a1, a2, a3, rfl, e2, g⟩ ⟨T1, u, z, rfl, hT, rfl, hu, hz⟩
      have hu2 := Option.some.inj hu
      subst hu2
      obtain ⟨t, ht, hx⟩ := paired_at hp2 hz
      have e3 : Same H1 (upd H' T1 (.tup [.int (i : Nat), z])) := e2.trans (same_new hT)
      refine ⟨T1, _, rfl, SqT.of upd_same, rfl, ?_⟩
      refine heap_gen2 (fun H3 => Same H1 H3) e3 fun H3 e3 => ?_
      refine ⟨_, _, rfl, _, _, rfl, rfl, ?_⟩
      have hx3 := hx.keep (KI.same e3)
      refine ⟨_, rfl, (by show 2 ≤ sizeLine; rw [sizeLine_eq]; decide), fun p4 hp4 => ⟨_, p4, _, _, _, _, rfl, upd_same, .cons (.own _) (.cons (.own _) .nil), ((hx3.keep (KI.new hp4)).vt T).tyx, any_kc T hx3 [.part, .room], _, rfl, iteB (fun g1 => ?_) (fun g1 => ?_)⟩⟩
      · exact bad (goodP_bad ht (not_t g1)) _ (e1.trans (e3.trans (same_new hp4)))
      have tw : t.pr = true := not_f g1
      refine heap_gen (fun H4 => Same H1 H4) (e3.trans (same_new hp4 (o := .tup [V.ref (A.kc .part), V.ref (A.kc .room)]))) fun H4 e4 => ?_
      have hx4 := hx.keep (KI.same e4)
      refine .inr ⟨_, rfl, _, rfl, _, rfl, a, vs, rfl, SqT.of (e4 _ _ ea), fun w => absurd w (cut_tup hi), fun _ q hq => ?_⟩
      rw [cut_to]
      have e5 : Same H1 (upd H4 q (.tup (vs.take i))) := e4.trans (same_new hq)
      refine ⟨q, rfl, ⟨_, SqT.of upd_same⟩, ?_⟩
      have sq : SqT K (upd H4 q (.tup (vs.take i))) q (vs.take i) := SqT.of upd_same
      generalize upd H4 q (.tup (vs.take i)) = H5 at e5 sq ⊢
      refine for_it (walk_tup (xs := vs.take i)) (fun j σ' H' => ∃ (a3 : Option V), σ' = [some (.ref a), some (.int (i : Nat)), some z, a3] ∧ H' = H5 ∧ ((ts.take i).take j).all (fun o => !decide (t.name = o.name)) = true) ⟨_, rfl, rfl, rfl⟩ (fun j σ' H' _ ⟨_, _, e, _⟩ => by rw [e]; exact sq) ?_ ?_
      · rintro j y σ' H' H9 _ ⟨a5, rfl, rfl, hall⟩ ⟨rfl, hj⟩
        have hj2 : vs[j]? = some y ∧ j < i := by
          rw [List.getElem?_take] at hj
          by_cases c : j < i
          · rw [if_pos c] at hj; exact ⟨hj, c⟩
          · rw [if_neg c] at hj; cases hj
        obtain ⟨o, ho, hy⟩ := paired_at hp2 hj2.1
        have ho2 : (ts.take i)[j]? = some o := by rw [List.getElem?_take, if_pos hj2.2]; exact ho
        have ow : o.pr = true := goodP_pr g o (List.mem_of_getElem? ho2)
        obtain ⟨xa, xC, xd, xf, rfl, x1, x2, x4, x6⟩ := pr_fld T (hx.keep (KI.same e5)) tw
        obtain ⟨ya, yC, yd, yf, rfl, y1, y2, y4, y6⟩ := pr_fld T (hy.keep (KI.same e5)) ow
        refine ⟨_, rfl, xa, xC, xd, xf, _, rfl, x1, x2, x4, x6, _, rfl, ya, yC, yd, yf, _, rfl, y1, y2, y4, y6, rfl, _, rfl, iteB (fun g4 => ?_) (fun g4 => ?_)⟩
        · rw [dS] at g4
          exact bad (goodP_bad2 ht (all_bad ho2 (by rw [g4]; rfl))) _ (e1.trans e5)
        · rw [dS] at g4
          exact ⟨_, rfl, rfl, all_step hall ho2 (by rw [g4]; rfl)⟩
      · rintro σ' H' ⟨a6, rfl, rfl, hall⟩
        have hlt : (vs.take i).length = (ts.take i).length := by rw [List.length_take, List.length_take, hlen]
        rw [hlt, List.take_length] at hall
        exact ⟨_, _, _, rfl, e5, goodP_step ht g tw hall⟩
    · rintro σ' H' ⟨a1, a2, a3, rfl, e2, g⟩
      rw [hlen, List.take_length] at g
      have hk : vs.length - 1 < vs.length := by omega
      have hat : atI vs (-1) = some vs[vs.length - 1] := by
        unfold atI ixN
        rw [if_neg (by decide), if_pos (by omega)]
        have : ((-1 : Int) + (vs.length : Int)).toNat = vs.length - 1 := by omega
        simp only [Option.bind_some, this]
        exact List.getElem?_eq_getElem hk
      obtain ⟨t, ht, hx⟩ := paired_at hp2 (List.getElem?_eq_getElem hk)
      have hx2 := hx.keep (KI.same e2)
      refine ⟨_, rfl, _, rfl, .inr ⟨a, vs, _, _, rfl, rfl, SqT.of (e2 _ _ ea), hat, _, _, _, _, _, rfl, .own _, (hx2.vt T).tyx, kit_isaO (hx2.vt T).tag (T.kco .part), ?_⟩⟩
      have z : okSeq okParts (some ts) = isa (t.tag A) (.ref (A.kc .part)) := by
        show okParts ts = _
        have gl : ts.getLast? = some t := by
          rw [List.getLast?_eq_getElem?, ← hlen]
          exact ht
        simp only [okParts, g, decide_eq_true l1, decide_eq_true l2, Bool.true_and, gl]
        exact (isa_kc T t .part).symm
      rw [z] at k
      exact k _ (e1.trans e2)
theorem ok_Row___init__ (T : Txt K mg A) : FnOk P w K mg base (L2.CX P w) 3 A.f_Row___init__ A.d_Row___init__ ["self", "parts"] (sp_Row___init__ K A) := by
  refine T.F_Row___init__.okX sc_Row___init__ (fun vs H Q E h => sp2_len h) (fun cdv A0 outer s H vs Q E hr h => ?_)
  have nd := sc_Row___init__.nd
  refine ⟨_, (pss_cons (ps_if (pt_not (pt_val (pe_call (ok_are_parts T) (hr.mono (by decide)) (by rfl) T.mg_are_parts T.k_are_parts T.b_are_parts .nil pass0 (pa_cons (pv 1) pa_nil)))) (pss_one (ps_raise rfl (takes_of rfl rfl rfl rfl) (pmk_oex T.oex_BadKind T.ix_BadKind T.tx_BadKind (ok_BadKind___init__ T) (hr.mono (by decide)) T.b_BadKind___init__ .nil pass0 (by rfl) T.mg_BadKind (pa_cons pe_str pa_nil)))) pss_nil)
      (pss_one (ps_fld (pv 0) (pe_callTy call_tuple_of (by rfl) T.b_tuple (by decide +kernel) (pa_cons (pv 1) pa_nil)) rfl))), ?_⟩
  clear nd hr
  replace h := sp2_of h
  obtain ⟨v_self, v_parts, rfl, h⟩ := h

  obtain ⟨H0, x, o, rfl, fr, hs, k⟩ := h
  refine ⟨_, rfl, _, rfl, o, hs.keep fr.s, fun H1 e1 => ⟨_, rfl, iteB (fun h1 => ?_) (fun h1 => ?_)⟩⟩
  · rw [show mkSeq .row okParts "parts" o = .error "parts" by
      have z := not_t h1
      cases o with
      | none => rfl
      | some ts => exact if_pos z] at k
    exact raise_bad (fr.s.trans e1) k
  replace h1 := not_f h1
  cases hs with
  | no _ _ _ => cases h1
  | @lst a vs ts ea hp hl =>
    have z : okParts ts = true := h1
    rw [show mkSeq .row okParts "parts" (some ts) = .ok (.row (ts.map Td.kd)) from if_neg (by rw [z]; decide)] at k
    replace fr := fr.go e1
    obtain ⟨dx, hx⟩ := fr.at'
    refine ⟨_, rfl, a, vs, rfl, .inl ⟨SqL.of (fr.s _ _ ea), fun q hq => ?_⟩⟩
    have nq : q ≠ x := fun z => by rw [z, hx] at hq; cases hq
    refine ⟨_, rfl, x, _, dx, _, rfl, (by rw [upd_ne nq.symm]; exact hx), T.cl_Row, T.n_Row_parts, Nat.lt_of_le_of_lt (Nat.le_refl 0 : _ ≤ 0) (by decide : 0 < 1000), ?_⟩
    have e4 : ∀ o, Same H0 (upd (upd H1 q (.tup vs)) x o) := fun o => same_put fr.no (fr.s.trans (same_new hq))
    have gw := goodP_pr (okParts_good z)
    refine k _ (e4 _) (.row ⟨dx, _, upd_same, put1⟩ (by rw [upd_ne nq]; exact upd_same) (KAts.keep (KI.same (e4 _)) (kats_of hp fun t ht => any_kd (gw t ht))) ?_)
    intro y hy
    obtain ⟨t, ht, rfl⟩ := List.mem_map.mp hy
    have q2 := any_kd (gw t ht)
    rw [← q2]
    exact gw t ht
  | @tup a vs ts ea hp hl =>
    have z : okParts ts = true := h1
    rw [show mkSeq .row okParts "parts" (some ts) = .ok (.row (ts.map Td.kd)) from if_neg (by rw [z]; decide)] at k
    replace fr := fr.go e1
    obtain ⟨dx, hx⟩ := fr.at'
    refine ⟨_, rfl, a, vs, rfl, .inr ⟨SqT.of (fr.s _ _ ea), ?_⟩⟩
    have nq : a ≠ x := fun z => by rw [z, fr.no] at ea; cases ea
    refine ⟨_, rfl, x, _, dx, _, rfl, hx, T.cl_Row, T.n_Row_parts, Nat.lt_of_le_of_lt (Nat.le_refl 0 : _ ≤ 0) (by decide : 0 < 1000), ?_⟩
    have e4 : ∀ o, Same H0 (upd H1 x o) := fun o => same_put fr.no fr.s
    have gw := goodP_pr (okParts_good z)
    refine k _ (e4 _) (.row ⟨dx, _, upd_same, put1⟩ (by rw [upd_ne nq]; exact fr.s _ _ ea) (KAts.keep (KI.same (e4 _)) (kats_of hp fun t ht => any_kd (gw t ht))) ?_)
    intro y hy
    obtain ⟨t, ht, rfl⟩ := List.mem_map.mp hy
    have q2 := any_kd (gw t ht)
    rw [← q2]
    exact gw t ht
theorem ok_inner_kinds (T : Txt K mg A) : FnOk P w K mg base CX0 1 A.f_inner_kinds A.d_inner_kinds ["kind"] (sp_inner_kinds K A) := by
  refine T.F_inner_kinds.ok sc_inner_kinds (fun vs H Q E h => sp1_len h) (fun cdv A0 outer s H vs Q E hr h => ?_)
  have nd := sc_inner_kinds.nd
  refine ⟨_, (pss_cons (ps_if (pt_val (pe_callB call_isi (by rfl) T.b_isinstance (by decide +kernel) (pa_cons (pv 0) (pa_cons (pe_glob (v := .ref A.c_Choice) (by rfl) T.mg_Choice rfl) pa_nil)))) (pss_one (ps_ret (pe_lc (own := [("way", 1)]) (g := gName 1) (by rfl) nd (pi_tup (pe_fld (pv 0) rfl)) (blkOk_by (own := [("way", 1)]) (N := ["kind", "way", "part"]) (sc := defScope s_inner_kinds) (by decide +kernel)) (fun _ _ _ _ _ => pg_name (i := 1) nd rfl (by first | exact Or.inl rfl | exact Or.inr rfl)) (fun _ _ _ _ _ => pts_one (pt_cmpR op_notN (pe_fldK (K := K) rfl (pv 1) rfl) pe_non (nomark _))) (fun _ _ _ _ _ => (pe_fldK (K := K) rfl (pv 1) rfl))))) pss_nil)
      (pss_cons (ps_if (pt_val (pe_callB call_isi (by rfl) T.b_isinstance (by decide +kernel) (pa_cons (pv 0) (pa_cons (pe_glob (v := .ref A.c_Row) (by rfl) T.mg_Row rfl) pa_nil)))) (pss_one (ps_ret (pe_lc (own := [("part", 2)]) (g := gName 2) (by rfl) nd (pi_tup (pe_fld (pv 0) rfl)) (blkOk_by (own := [("part", 2)]) (N := ["kind", "way", "part"]) (sc := defScope s_inner_kinds) (by decide +kernel)) (fun _ _ _ _ _ => pg_name (i := 2) nd rfl (by first | exact Or.inl rfl | exact Or.inr rfl)) (fun _ _ _ _ _ => pts_one (pt_cmpR op_notN (pe_fldK (K := K) rfl (pv 2) rfl) pe_non (nomark _))) (fun _ _ _ _ _ => (pe_fldK (K := K) rfl (pv 2) rfl))))) pss_nil)
      (pss_one (ps_ret (pe_lst (pa_cons (pv 0) pa_nil)))))), ?_⟩
  clear nd hr
  replace h := sp1_of h
  obtain ⟨v_kind, rfl, h⟩ := h

  obtain ⟨k0, hk, top, k⟩ := h
  refine ⟨_, rfl, _, _, _, _, _, rfl, .own _, (KAt.vt T hk).tyx, kit_isaO (KAt.vt T hk).tag (T.kco .choice), _, rfl, iteB (fun g => ?_) (fun g => ?_)⟩
  · have ec : decide (Kd.cls k0 = some .choice) = true := isa_cls (t := .k k0) (c := .choice) T g
    cases hk with
    | choice ob e ks o =>
      obtain ⟨dx, fs, hx, lx⟩ := ob
      dsimp only [tRet]
      refine lc_tupF (fun H v k => KAt A H v k) (fun H1 H2 v b e h => h.keep (KI.same e)) (fun D H1 ws v v' b h q => q.keep (KI.setL h)) (fun z => notNon (inK z)) inK (fun v z => KAt A H v z) (fun Q' q => ⟨_, rfl, _, _, dx, fs, _, rfl, hx, T.cl_Choice, T.n_Choice_ways, lx _ (List.mem_cons_self ..), q⟩) e (kats_pair ks) (by rw [pair_lenE (kats_pair ks)]; have := of_decide_eq_true top; omega) (fun x => rfl) ?_ ?_ ?_
      · intro x z H1 Q hz mz e1 q
        obtain ⟨y, C, dy, gs, u, rfl, hy, cC, nC, hu, ku⟩ := wd_kind T hz (.inl (o z mz))
        refine ⟨_, rfl, y, C, dy, gs, u, rfl, e1 _ _ hy, cC, nC, hu, rfl, ?_⟩
        rw [non_kd ku]
        exact ⟨_, rfl, q⟩
      · intro x z H1 Q hz mz _ e1 q
        obtain ⟨y, C, dy, gs, u, rfl, hy, cC, nC, hu, ku⟩ := wd_kind T hz (.inl (o z mz))
        exact ⟨_, rfl, y, C, dy, gs, u, rfl, e1 _ _ hy, cC, nC, hu, q _ _ (fun _ _ z => z) (ku.keep (KI.same e1))⟩
      · intro D ws H' hD hD0 e1 pw
        refine k D ws H' hD hD0 e1 (kats_ofp ?_)
        show Paired _ ws ((List.map inK _).filter notNon)
        rw [List.filter_map]
        exact pw
    | _ => cases of_decide_eq_true ec
  refine ⟨_, rfl, _, _, _, _, _, rfl, .own _, (KAt.vt T hk).tyx, kit_isaO (KAt.vt T hk).tag (T.kco .row), _, rfl, iteB (fun g2 => ?_) (fun g2 => ?_)⟩
  · have ec : decide (Kd.cls k0 = some .row) = true := isa_cls (t := .k k0) (c := .row) T g2
    cases hk with
    | row ob e ks o =>
      obtain ⟨dx, fs, hx, lx⟩ := ob
      dsimp only [tRet]
      refine lc_tupF (fun H v k => KAt A H v k) (fun H1 H2 v b e h => h.keep (KI.same e)) (fun D H1 ws v v' b h q => q.keep (KI.setL h)) (fun z => notNon (inK z)) inK (fun v z => KAt A H v z) (fun Q' q => ⟨_, rfl, _, _, dx, fs, _, rfl, hx, T.cl_Row, T.n_Row_parts, lx _ (List.mem_cons_self ..), q⟩) e (kats_pair ks) (by rw [pair_lenE (kats_pair ks)]; have := of_decide_eq_true top; omega) (fun x => rfl) ?_ ?_ ?_
      · intro x z H1 Q hz mz e1 q
        obtain ⟨y, C, dy, gs, u, rfl, hy, cC, nC, hu, ku⟩ := wd_kind T hz (.inr (o z mz))
        refine ⟨_, rfl, y, C, dy, gs, u, rfl, e1 _ _ hy, cC, nC, hu, rfl, ?_⟩
        rw [non_kd ku]
        exact ⟨_, rfl, q⟩
      · intro x z H1 Q hz mz _ e1 q
        obtain ⟨y, C, dy, gs, u, rfl, hy, cC, nC, hu, ku⟩ := wd_kind T hz (.inr (o z mz))
        exact ⟨_, rfl, y, C, dy, gs, u, rfl, e1 _ _ hy, cC, nC, hu, q _ _ (fun _ _ z => z) (ku.keep (KI.same e1))⟩
      · intro D ws H' hD hD0 e1 pw
        refine k D ws H' hD hD0 e1 (kats_ofp ?_)
        show Paired _ ws ((List.map inK _).filter notNon)
        rw [List.filter_map]
        exact pw
    | _ => cases of_decide_eq_true ec
  have n1 : decide (Kd.cls k0 = some .choice) = false := isa_cls (t := .k k0) (c := .choice) T g
  have n2 : decide (Kd.cls k0 = some .row) = false := isa_cls (t := .k k0) (c := .row) T g2
  refine ⟨_, rfl, (by show 1 ≤ sizeLine; rw [sizeLine_eq]; decide), fun p hp => k p _ _ upd_same hp (same_new hp) ?_⟩
  have e : innersK k0 = [k0] := by
    cases k0 <;> first | rfl | exact absurd rfl (of_decide_eq_false n1) | exact absurd rfl (of_decide_eq_false n2)
  rw [e]
  exact .cons (hk.keep (KI.new hp)) .nil
theorem ok_called (T : Txt K mg A) : FnOk P w K mg base CX0 2 A.f_called A.d_called ["kind"] (sp_called K A) := by
  refine T.F_called.ok sc_called (fun vs H Q E h => sp1_len h) (fun cdv A0 outer s H vs Q E hr h => ?_)
  have nd := sc_called.nd
  refine ⟨_, (pss_cons (ps_set (i := 1) nd rfl (by first | exact Or.inl rfl | exact Or.inr rfl) (pe_lst pa_nil))
      (pss_cons (ps_for PassesOwn.never rfl (pi_list (pe_call (ok_inner_kinds T) (hr.mono (by decide)) (by rfl) T.mg_inner_kinds T.k_inner_kinds T.b_inner_kinds .nil pass0 (pa_cons (pv 0) pa_nil))) (pg_name (i := 2) nd rfl (by first | exact Or.inl rfl | exact Or.inr rfl)) (Evl.pss_cut (ps_if (pt_val (pe_callB call_isi (by rfl) T.b_isinstance (by decide +kernel) (pa_cons (pv 2) (pa_cons (pe_glob (v := .ref A.c_Items) (by rfl) T.mg_Items rfl) pa_nil)))) (pss_one (ps_set (i := 2) nd rfl (by first | exact Or.inl rfl | exact Or.inr rfl) (pe_fld (pv 2) rfl))) pss_nil)
      (pss_one (ps_if (pt_val (pe_callB call_isi (by rfl) T.b_isinstance (by decide +kernel) (pa_cons (pv 2) (pa_cons (pe_glob (v := .ref A.c_Call) (by rfl) T.mg_Call rfl) pa_nil)))) (pss_one (ps_expr (pe_bm PySem.F.plainAttrs_list PySem.F.slot_list_append PySem.F.type_list_append mt_append (pv 1) (pa_cons (pe_fld (pv 2) rfl) pa_nil)))) pss_nil))))
      (pss_one (ps_ret (pv 1))))), ?_⟩
  clear nd hr
  replace h := sp1_of h
  obtain ⟨v_kind, rfl, h⟩ := h

  obtain ⟨k0, hk, top, k⟩ := h
  refine ⟨(by show 0 ≤ sizeLine; rw [sizeLine_eq]; decide), fun p hp => ?_⟩
  refine ⟨_, rfl, _, rfl, k0, hk.keep (KI.new hp), top, fun q us H1 hq hq0 e1 hus => ?_⟩
  have hp1 : H1 p = some (.lst []) := e1 _ _ upd_same
  have npq : q ≠ p := fun z => by rw [z, upd_same] at hq0; cases hq0
  have lus := pair_lenE (kats_pair hus)
  have hlen := inners_len top
  refine ⟨q, rfl, ⟨_, SqL.of hq⟩, ?_⟩
  refine for_it (walk_list (xs := us)) (fun i σ' H' => ∃ inn, σ' = [some v_kind, some (.ref p), inn] ∧ H' p = some (.lst ((((innersK k0).take i).flatMap callOf).map V.str)) ∧ H' q = some (.lst us) ∧ KAts A H' us (innersK k0) ∧ Same H H') ⟨_, rfl, hp1, hq, hus, (same_new hp).trans e1⟩ (fun i σ' H' _ ⟨_, _, _, h, _⟩ => SqL.of h) ?_ ?_
  · rintro i x σ' H4 H4' hi ⟨inn, rfl, hp4, hq4, hus4, e4⟩ ⟨rfl, hx⟩
    obtain ⟨z, hz, hkz⟩ := pair_atE (kats_pair hus4) hx
    have tk : (innersK k0).take (i + 1) = (innersK k0).take i ++ [z] := by rw [List.take_succ, hz]; rfl
    have lacc : (((innersK k0).take i).flatMap callOf).length ≤ 12 := by
      refine Nat.le_trans (calls_le _) ?_
      have := List.length_take_le i (innersK k0)
      omega
    refine ⟨fun s' h' => ∃ u kk, s' = [some v_kind, some (.ref p), some u] ∧ h' = H4' ∧ KAt A H4' u kk ∧ callOf z = callOf1 kk, ?_, ?_⟩
    · refine ⟨_, rfl, _, _, _, _, _, rfl, .own _, (KAt.vt T hkz).tyx, kit_isaO (KAt.vt T hkz).tag (T.kco .items), _, rfl, iteB (fun g => ?_) (fun g => ?_)⟩
      · have ec : decide (Kd.cls z = some .items) = _ := isa_cls (t := .k z) (c := .items) T g
        cases hkz with
        | items ob hi0 o =>
          obtain ⟨dx, fs, hx0, lx⟩ := ob
          exact ⟨_, rfl, _, _, dx, fs, _, rfl, hx0, T.cl_Items, T.n_Items_item, lx _ (List.mem_cons_self ..), _, _, rfl, rfl, hi0, call_item o⟩
        | _ => cases of_decide_eq_true ec
      · have ec : decide (Kd.cls z = some .items) = _ := isa_cls (t := .k z) (c := .items) T g
        exact ⟨_, z, rfl, rfl, hkz, by cases z <;> first | rfl | cases ec⟩
    rintro s' h' ⟨u, kk, rfl, rfl, hu, ecall⟩
    refine ⟨_, rfl, _, _, _, _, _, rfl, .own _, (KAt.vt T hu).tyx, kit_isaO (KAt.vt T hu).tag (T.kco .call), _, rfl, iteB (fun g => ?_) (fun g => ?_)⟩
    · have ec : decide (Kd.cls kk = some .call) = _ := isa_cls (t := .k kk) (c := .call) T g
      cases hu with
      | call ob =>
        obtain ⟨dx, fs, hx0, lx⟩ := ob
        refine ⟨_, rfl, .inl ⟨rfl, _, SqL.of hp4⟩, _, rfl, _, _, dx, fs, _, rfl, hx0, T.cl_Call, T.n_Call_name, lx _ (List.mem_cons_self ..), p, (((innersK k0).take i).flatMap callOf).map V.str, _, rfl, rfl, hp4, by rw [sizeLine_eq, List.length_map]; omega, _, rfl, ?_, ?_, ?_, ?_⟩
        · rw [upd_same, tk, List.flatMap_append, List.map_append]
          simp [ecall, callOf1]
        · rw [upd_ne npq]
          exact hq4
        · exact KAts.keep (KI.setL hp4) hus4
        · exact same_put hp e4
      | _ => cases of_decide_eq_true ec
    · have ec : decide (Kd.cls kk = some .call) = _ := isa_cls (t := .k kk) (c := .call) T g
      refine ⟨_, rfl, ?_, hq4, hus4, e4⟩
      rw [tk, List.flatMap_append, List.map_append]
      have e0 : callOf1 kk = [] := by cases kk <;> first | rfl | cases ec
      simp [ecall, e0]
      exact hp4
  · rintro σ' H4 ⟨inn, rfl, hp4, hq4, hus4, e4⟩
    rw [lus, List.take_length] at hp4
    exact ⟨_, rfl, k p H4 hp4 hp e4⟩
theorem ok_reached (T : Txt K mg A) : FnOk P w K mg base CX0 3 A.f_reached A.d_reached ["table", "name"] (sp_reached K A) := by
  refine T.F_reached.ok sc_reached (fun vs H Q E h => sp2_len h) (fun cdv A0 outer s H vs Q E hr h => ?_)
  have nd := sc_reached.nd
  refine ⟨_, (pss_cons (ps_set (i := 2) nd rfl (by first | exact Or.inl rfl | exact Or.inr rfl) (pe_lst pa_nil))
      (pss_cons (ps_set (i := 3) nd rfl (by first | exact Or.inl rfl | exact Or.inr rfl) (pe_call (ok_called T) (hr.mono (by decide)) (by rfl) T.mg_called T.k_called T.b_called .nil pass0 (pa_cons (pe_dget (hu_of hr) (pv 0) (pv 1) (fun _ _ => rfl)) pa_nil)))
      (pss_cons (ps_while PassesOwn.never (pt_cmpR op_gt (pe_callB call_len (by rfl) T.b_len (by decide +kernel) (pa_cons (pv 3) pa_nil)) pe_int (nomark _)) (pss_cons (ps_set (i := 4) nd rfl (by first | exact Or.inl rfl | exact Or.inr rfl) (pe_bm0 PySem.F.plainAttrs_list PySem.F.slot_list_pop PySem.F.type_list_pop mt_pop (pv 3)))
      (pss_one (ps_if (pt_cmpR op_notIn_seq (pv 4) (pv 2) (by rfl)) (pss_cons (ps_expr (pe_bm PySem.F.plainAttrs_list PySem.F.slot_list_append PySem.F.type_list_append mt_append (pv 2) (pa_cons (pv 4) pa_nil)))
      (pss_one (ps_expr (pe_bm PySem.F.plainAttrs_list PySem.F.slot_list_extend PySem.F.type_list_extend mt_extend (pv 3) (pa_cons (pe_call (ok_called T) (hr.mono (by decide)) (by rfl) T.mg_called T.k_called T.b_called .nil pass0 (pa_cons (pe_dget (hu_of hr) (pv 0) (pv 4) (fun _ _ => rfl)) pa_nil)) pa_nil))))) pss_nil))))
      (pss_one (ps_ret (pv 2)))))), ?_⟩
  clear nd hr
  replace h := sp2_of h
  obtain ⟨v_table, v_name, rfl, h⟩ := h

  obtain ⟨p, tb, kvs, x, rfl, rfl, ht, top, nd, l20, nomiss, hx, k⟩ := h
  refine ⟨(by show 0 ≤ sizeLine; rw [sizeLine_eq]; decide), fun f hf => ?_⟩
  have e1 : Same H (upd H f (.lst [])) := same_new hf
  obtain ⟨k1, v1, hl1, hk1, hg1⟩ := (ht.same e1).get hx
  have etop := top.look hl1
  refine ⟨_, rfl, _, rfl, p, v1, rfl, hg1, _, rfl, k1, hk1, etop, fun w H2 hw hw0 e2 => ?_⟩
  have hf2 := e2 _ _ upd_same
  have nfw : f ≠ w := ne_of_none upd_same hw0
  have hwH : H w = none := by rw [upd_ne nfw.symm] at hw0; exact hw0
  refine ⟨fun m σ' H' => ∃ (fs ws : List Str) (a4 : Option V), σ' = [some (.ref p), some (.str x), some (.ref f), some (.ref w), a4] ∧ H' f = some (.lst (fs.map V.str)) ∧ H' w = some (.lst (ws.map V.str)) ∧ Same H H' ∧ m = (20 - fs.length) * 20 + ws.length ∧ fs.Nodup ∧ (∀ y ∈ fs, y ∈ tb.names) ∧ (∀ y ∈ ws, y ∈ tb.names) ∧
    (∀ y, y ∈ fs ∨ y ∈ ws → Reach tb x y) ∧ (∀ c ∈ callsK k1, c ∈ fs ∨ c ∈ ws) ∧ (∀ b ∈ fs, ∀ kk, tb.lookup b = some kk → ∀ c ∈ callsK kk, c ∈ fs ∨ c ∈ ws) ∧ ws.length ≤ 12 + 12 * fs.length,
    ⟨_, [], callsK k1, _, rfl, hf2, hw, e1.trans e2, rfl, List.nodup_nil, (fun y hy => nomatch hy), (fun y hy => miss_calls nomiss hl1 y hy), (fun y hy => hy.elim (fun z => nomatch z) fun z => .one hl1 z), (fun c hc => .inr hc), (fun b hb => nomatch hb), by have := calls_len etop; simp; omega⟩, ?_⟩
  rintro m σ' H3 ⟨fs, ws, a4, rfl, hf3, hw3, e3, rfl, fnd, fin, win, hre, hc1, hc2, lws⟩
  have lfs : fs.length ≤ 20 := Nat.le_trans (nodup_le fnd fin) (by rw [show tb.names.length = tb.length from List.length_map ..]; exact l20)
  refine ⟨_, rfl, _, _, rfl, .inl ⟨_, SqL.of hw3, rfl⟩, _, _, rfl, rfl, _, rfl, iteB (fun g => ?_) (fun g => ?_)⟩
  · have lpos : 0 < ws.length := by
      have := of_decide_eq_true g
      rw [List.length_map] at this
      omega
    obtain ⟨y, hy⟩ : ∃ y, ws[ws.length - 1]? = some y := ⟨_, List.getElem?_eq_getElem (by omega)⟩
    have hyw := List.mem_of_getElem? hy
    have ews : ws = ws.dropLast ++ [y] := last_app hy
    refine ⟨fun σ' H' => ∃ m', m' < (20 - fs.length) * 20 + ws.length ∧ ∃ (fs ws : List Str) (a4 : Option V), σ' = [some (.ref p), some (.str x), some (.ref f), some (.ref w), a4] ∧ H' f = some (.lst (fs.map V.str)) ∧ H' w = some (.lst (ws.map V.str)) ∧ Same H H' ∧ m' = (20 - fs.length) * 20 + ws.length ∧ fs.Nodup ∧ (∀ y ∈ fs, y ∈ tb.names) ∧ (∀ y ∈ ws, y ∈ tb.names) ∧
    (∀ y, y ∈ fs ∨ y ∈ ws → Reach tb x y) ∧ (∀ c ∈ callsK k1, c ∈ fs ∨ c ∈ ws) ∧ (∀ b ∈ fs, ∀ kk, tb.lookup b = some kk → ∀ c ∈ callsK kk, c ∈ fs ∨ c ∈ ws) ∧ ws.length ≤ 12 + 12 * fs.length, fun σ' H' h => h, ?_⟩
    refine ⟨_, rfl, .inl ⟨rfl, _, SqL.of hw3⟩, w, _, _, rfl, rfl, hw3, (by rw [List.length_map, List.getElem?_map, hy]; rfl), ?_⟩
    rw [← List.map_dropLast]
    have hw4 : (upd H3 w (.lst (ws.dropLast.map V.str))) w = some (.lst (ws.dropLast.map V.str)) := upd_same
    have hf4 : (upd H3 w (.lst (ws.dropLast.map V.str))) f = some (.lst (fs.map V.str)) := by rw [upd_ne nfw]; exact hf3
    have e4 : Same H (upd H3 w (.lst (ws.dropLast.map V.str))) := same_put hwH e3
    generalize upd H3 w (.lst (ws.dropLast.map V.str)) = H4 at hw4 hf4 e4
    have ld : ws.dropLast.length = ws.length - 1 := List.length_dropLast
    have mem : ∀ c, c ∈ ws → c = y ∨ c ∈ ws.dropLast := fun c hc => by
      rw [ews] at hc
      rcases List.mem_append.mp hc with q | q
      · exact .inr q
      · exact .inl (List.mem_singleton.mp q)
    have mem2 : ∀ c, c ∈ ws.dropLast → c ∈ ws := fun c hc => by rw [ews]; exact List.mem_append_left _ hc
    refine ⟨_, rfl, _, rfl, f, _, rfl, .inl (SqL.of hf4), rfl, flat_strsE _, _, rfl, ?_⟩
    show if (!inV (.str y) (fs.map V.str)) = true then _ else _
    rw [inV_strE]
    refine iteB (fun g2 => ?_) (fun g2 => ?_)
    · have hnf : y ∉ fs := by simpa using g2
      obtain ⟨k2, v2, hl2, hk2, hg2⟩ := (ht.same (same_put (o := .lst (fs.map V.str ++ [V.str y])) hf e4)).get (win y hyw)
      have etop2 := top.look hl2
      refine ⟨_, rfl, .inl ⟨rfl, _, SqL.of hf4⟩, _, rfl, f, _, _, rfl, rfl, hf4, by rw [sizeLine_eq, List.length_map]; omega, ?_⟩
      have hw5 : (upd H4 f (.lst (fs.map V.str ++ [V.str y]))) w = some (.lst (ws.dropLast.map V.str)) := by rw [upd_ne nfw.symm]; exact hw4
      refine ⟨_, rfl, .inl ⟨rfl, _, SqL.of hw5⟩, _, rfl, _, rfl, p, v2, rfl, hg2, _, rfl, k2, hk2, etop2, fun q H5 hq hq0 e5 => ?_⟩
      have hf5 := e5 _ _ upd_same
      have hw6 := e5 _ _ hw5
      have nwq : w ≠ q := ne_of_none hw5 hq0
      have c12 := calls_len etop2
      have lf2 : (fs ++ [y]).length ≤ 20 := Nat.le_trans (nodup_le (nodup_snocE fnd hnf) (m := tb.names) fun z hz => by
        rcases List.mem_append.mp hz with q | q
        · exact fin z q
        · rw [List.mem_singleton.mp q]; exact win y hyw) (by rw [show tb.names.length = tb.length from List.length_map ..]; exact l20)
      rw [List.length_append, List.length_singleton] at lf2
      refine ⟨w, q, _, _, rfl, rfl, hw6, hq, by rw [sizeLine_eq, List.length_map, List.length_map]; omega, ?_⟩
      refine ⟨_, ?_, fs ++ [y], ws.dropLast ++ callsK k2, _, rfl, ?_, ?_, ?_, rfl, nodup_snocE fnd hnf, ?_, ?_, ?_, ?_, ?_, ?_⟩
      · rw [List.length_append, List.length_append, List.length_singleton]
        omega
      · rw [upd_ne nfw, List.map_append]
        exact hf5
      · rw [upd_same, List.map_append]
      · exact same_put hwH ((same_put hf e4).trans e5)
      · intro z hz
        rcases List.mem_append.mp hz with q | q
        · exact fin z q
        · rw [List.mem_singleton.mp q]; exact win y hyw
      · intro z hz
        rcases List.mem_append.mp hz with q | q
        · exact win z (mem2 z q)
        · exact miss_calls nomiss hl2 z q
      · intro z hz
        rcases hz with q | q
        · rcases List.mem_append.mp q with q | q
          · exact hre z (.inl q)
          · rw [List.mem_singleton.mp q]; exact hre y (.inr hyw)
        · rcases List.mem_append.mp q with q | q
          · exact hre z (.inr (mem2 z q))
          · exact .more (hre y (.inr hyw)) hl2 q
      · intro c hc
        rcases hc1 c hc with q | q
        · exact .inl (List.mem_append_left _ q)
        · rcases mem c q with q | q
          · rw [q]; exact .inl (List.mem_append_right _ (List.mem_singleton.mpr rfl))
          · exact .inr (List.mem_append_left _ q)
      · intro b hb kk hkk c hc
        rcases List.mem_append.mp hb with hb | hb
        · rcases hc2 b hb kk hkk c hc with q | q
          · exact .inl (List.mem_append_left _ q)
          · rcases mem c q with q | q
            · rw [q]; exact .inl (List.mem_append_right _ (List.mem_singleton.mpr rfl))
            · exact .inr (List.mem_append_left _ q)
        · rw [List.mem_singleton.mp hb, hl2] at hkk
          have hkk := Option.some.inj hkk
          subst hkk
          exact .inr (List.mem_append_right _ hc)
      · rw [List.length_append, List.length_append, List.length_singleton]
        omega
    · have hyf : y ∈ fs := by simpa using g2
      refine ⟨_, ?_, fs, ws.dropLast, _, rfl, hf4, hw4, e4, rfl, fnd, fin, (fun z hz => win z (mem2 z hz)), ?_, ?_, ?_, ?_⟩
      · omega
      · exact fun z hz => hre z (hz.imp id (mem2 z))
      · intro c hc
        rcases hc1 c hc with q | q
        · exact .inl q
        · rcases mem c q with q | q
          · rw [q]; exact .inl hyf
          · exact .inr q
      · intro b hb kk hkk c hc
        rcases hc2 b hb kk hkk c hc with q | q
        · exact .inl q
        · rcases mem c q with q | q
          · rw [q]; exact .inl hyf
          · exact .inr q
      · omega
  · have l0 : ws = [] := by
      have := of_decide_eq_false g
      rw [List.length_map] at this
      exact List.eq_nil_of_length_eq_zero (by omega)
    subst l0
    refine ⟨_, rfl, k f fs H3 hf3 e3 fun y => ⟨fun hy => hre y (.inl hy), fun hy => ?_⟩⟩
    have none : ∀ c, c ∈ fs ∨ c ∈ ([] : List Str) → c ∈ fs := fun c hc => hc.elim id fun z => nomatch z
    induction hy with
    | one h m =>
      rw [hl1] at h
      have h := Option.some.inj h
      subst h
      exact none _ (hc1 _ m)
    | more r h m ih => exact none _ (hc2 _ ih _ h _ m)
theorem ok_missing_name (T : Txt K mg A) : FnOk P w K mg base CX0 3 A.f_missing_name A.d_missing_name ["table"] (sp_missing_name K A) := by
  refine T.F_missing_name.ok sc_missing_name (fun vs H Q E h => sp1_len h) (fun cdv A0 outer s H vs Q E hr h => ?_)
  have nd := sc_missing_name.nd
  refine ⟨_, (pss_cons (ps_set (i := 1) nd rfl (by first | exact Or.inl rfl | exact Or.inr rfl) (pe_lst pa_nil))
      (pss_cons (ps_lock (ps_for PassesOwn.never rfl (pi_keys (pv 0)) (pg_name (i := 2) nd rfl (by first | exact Or.inl rfl | exact Or.inr rfl)) (pss_one (ps_expr (pe_bm PySem.F.plainAttrs_list PySem.F.slot_list_extend PySem.F.type_list_extend mt_extend (pv 1) (pa_cons (pe_lc (own := [("one", 3)]) (g := gName 3) (by rfl) nd (pi_list (pe_call (ok_called T) (hr.mono (by decide)) (by rfl) T.mg_called T.k_called T.b_called .nil pass0 (pa_cons (pe_dget (hu_of hr) (pv 0) (pv 2) (fun _ _ => rfl)) pa_nil))) (blkOk_by (own := [("one", 3)]) (N := ["table", "missing", "name", "one"]) (sc := defScope s_missing_name) (by decide +kernel)) (fun _ _ _ _ _ => pg_name (i := 3) nd rfl (by first | exact Or.inl rfl | exact Or.inr rfl)) (fun _ _ _ _ _ => pts_one (pt_cmp (pc_dnotin (hu_of hr) (pv 3) (pv 0)))) (fun _ _ _ _ _ => (pv 3))) pa_nil))))))
      (pss_one (ps_ret (pe_callBK (cr_minT (by rfl) (hu_of hr)) (by rfl) T.b_min (by decide +kernel) (pa_cons (pv 1) pa_nil) (pk_cons pe_non pk_nil)))))), ?_⟩
  clear nd hr
  replace h := sp1_of h
  obtain ⟨v_table, rfl, h⟩ := h

  obtain ⟨p, tb, kvs, rfl, ht, hp, top, nd, l20, k⟩ := h
  refine ⟨(by show 0 ≤ sizeLine; rw [sizeLine_eq]; decide), fun m hm => ?_⟩
  have npm : m ≠ p := (ne_of_none hp hm).symm
  have hp1 : (upd H m (.lst [])) p = some (.dK kvs) := by rw [upd_ne npm.symm]; exact hp
  refine ⟨p, .dK kvs, hp1, trivial, fun od => ?_⟩
  refine ⟨_, rfl, p, od, rfl, .inl ⟨kvs, upd_same, ?_⟩⟩
  have f0 : Frz H (upd (upd H m (.lst [])) p (.frz od (.dK kvs))) p od (.dK kvs) := ⟨upd_same, fun b o n h => by rw [upd_ne n, upd_ne (ne_of_none h hm)]; exact h⟩
  have ltb := ht.len
  refine for_it (walk_keys (kvs := kvs)) (fun i σ' H' => ∃ a2 a3, σ' = [some (.ref p), some (.ref m), a2, a3] ∧ H' m = some (.lst (((tb.take i).flatMap fun x => (callsK x.2).filter fun n => decide (n ∉ tb.names)).map V.str)) ∧ Frz H H' p od (.dK kvs)) ⟨_, _, rfl, by rw [upd_ne npm]; exact upd_same, f0⟩ (fun i σ' H' _ ⟨_, _, _, _, f⟩ => f.at_) ?_ ?_
  · rintro i x σ' H4 H4' hi ⟨a2, a3, rfl, hm4, f4⟩ ⟨rfl, key, v, hkv, rfl⟩
    obtain ⟨y, hy, rfl, hkat⟩ := ents_at ht.en hkv
    have hyn := names_at hy
    have t4 := f4.tb hp ht
    obtain ⟨k1, v1, hl1, hk1, hg1⟩ := t4.get hyn
    have etop := top.look hl1
    have ek : k1 = y.2 := Option.some.inj (hl1.symm.trans (look_nd nd (List.mem_of_getElem? hy)))
    subst ek
    refine ⟨_, rfl, .inl ⟨rfl, _, SqL.of hm4⟩, _, rfl, _, rfl, p, v1, rfl, hg1, _, rfl, y.2, hk1, etop, fun q H5 hq hq0 e5 => ?_⟩
    have f5 := f4.go e5
    have t5 := f5.tb hp ht
    have hm5 := e5 _ _ hm4
    refine lc_lstG (fun _ v (b : Str) => v = V.str b) (fun _ _ _ _ _ q => q) (fun _ _ _ _ _ _ _ q => q) (fun n => decide (n ∉ tb.names)) id (fun v (n : Str) => v = V.str n) hq (strs_pair _) ?_ ?_ ?_ ?_ ?_
    · rw [List.length_map]; have := calls_len etop; omega
    · exact fun x => rfl
    · rintro x n H6 Q rfl _ e6 q
      obtain ⟨o, hg, ho⟩ := TbAt.has n (t5.same e6)
      refine ⟨_, rfl, _, rfl, p, o, rfl, hg, _, rfl, ?_⟩
      rw [ho]
      simpa using q
    · rintro x n H6 Q rfl _ _ e6 q
      exact ⟨_, rfl, q _ _ (fun _ _ z => z) rfl⟩
    · intro D ws H6 hD hD0 e6 pw
      rw [List.map_id] at pw
      have ews := pair_strs pw
      subst ews
      have hm6 := e6 _ _ hm5
      have nmD : m ≠ D := ne_of_none hm5 hD0
      have l1 : ((tb.take i).flatMap fun x => (callsK x.2).filter fun n => decide (n ∉ tb.names)).length ≤ 12 * i := miss_le top i
      have l2 := calls_len etop
      have l3 := List.length_filter_le (fun n => decide (n ∉ tb.names)) (callsK y.2)
      refine ⟨m, D, _, _, rfl, rfl, hm6, hD, by rw [sizeLine_eq, List.length_map, List.length_map]; omega, _, _, rfl, ?_, (f5.go e6).put hm npm⟩
      rw [upd_same, ← List.map_append]
      have tk : tb.take (i + 1) = tb.take i ++ [y] := by rw [List.take_succ, hy]; rfl
      rw [tk, List.flatMap_append]
      simp
  · rintro σ' H4 ⟨a2, a3, rfl, hm4, f4⟩
    refine ⟨f4.at_, ?_⟩
    have sm := f4.back hp
    have hm5 : (upd H4 p (.dK kvs)) m = some (.lst ((missK tb).map V.str)) := by
      rw [upd_ne npm]
      rw [ltb, List.take_length] at hm4
      exact hm4
    refine ⟨_, rfl, m, missK tb, .non, rfl, rfl, SqL.of hm5, fun e => ?_, fun y ys e => ?_⟩
    · have q := k _ sm
      rw [e] at q
      exact q
    · have q := k _ sm
      rw [e] at q
      exact q
theorem ok_ring_name (T : Txt K mg A) : FnOk P w K mg base CX0 4 A.f_ring_name A.d_ring_name ["table"] (sp_ring_name K A) := by
  refine T.F_ring_name.ok sc_ring_name (fun vs H Q E h => sp1_len h) (fun cdv A0 outer s H vs Q E hr h => ?_)
  have nd := sc_ring_name.nd
  refine ⟨_, (pss_cons (ps_for PassesOwn.never rfl (pi_list (pe_callB (call_sortedD rfl) (by rfl) T.b_sorted (by decide +kernel) (pa_cons (pv 0) pa_nil))) (pg_name (i := 1) nd rfl (by first | exact Or.inl rfl | exact Or.inr rfl)) (pss_one (ps_if (pt_cmpR op_in_seq (pv 1) (pe_call (ok_reached T) (hr.mono (by decide)) (by rfl) T.mg_reached T.k_reached T.b_reached .nil pass0 (pa_cons (pv 0) (pa_cons (pv 1) pa_nil))) (by rfl)) (pss_one (ps_ret (pv 1))) pss_nil)))
      (pss_one (ps_ret pe_non))), ?_⟩
  clear nd hr
  replace h := sp1_of h
  obtain ⟨v_table, rfl, h⟩ := h

  obtain ⟨p, tb, kvs, rfl, ht, top, nd, l20, nomiss, k⟩ := h
  have ln : tb.names.length = tb.length := List.length_map ..
  refine ⟨_, rfl, p, kvs, tb.names, rfl, ht.rd, ht.keys, by omega, fun ys q perm srt hq => ?_⟩
  refine ⟨q, rfl, ⟨_, SqL.of upd_same⟩, ?_⟩
  have lys := perm.length_eq
  refine for_it (walk_list (xs := ys.map V.str)) (fun i σ' H' => ∃ a2, σ' = [some (.ref p), a2] ∧ H' q = some (.lst (ys.map V.str)) ∧ Same H H' ∧ ∀ m ∈ ys.take i, ¬ Reach tb m m) ⟨_, rfl, upd_same, same_new hq, fun m hm => nomatch hm⟩ (fun i σ' H' _ ⟨_, _, h, _⟩ => SqL.of h) ?_ ?_
  · rintro i x σ' H4 H4' hi ⟨a2, rfl, hq4, e4, hno⟩ ⟨rfl, hx⟩
    rw [List.getElem?_map] at hx
    obtain ⟨y, hy, rfl⟩ := Option.map_eq_some_iff.mp hx
    have hyn : y ∈ tb.names := perm.mem_iff.mp (List.mem_of_getElem? hy)
    refine ⟨_, rfl, _, rfl, _, rfl, _, _, rfl, p, tb, kvs, y, rfl, rfl, ht.same e4, top, nd, l20, nomiss, hyn, fun w ws H5 hw e5 hre => ?_⟩
    refine ⟨w, _, rfl, .inl (SqL.of hw), rfl, flat_strsE _, _, rfl, ?_⟩
    show if inV (.str y) (ws.map V.str) = true then _ else _
    rw [inV_strE]
    refine iteB (fun g => ?_) (fun g => ?_)
    · exact ⟨_, rfl, (k H5 (e4.trans e5)).2 y ys i ⟨perm, srt⟩ hy ((hre y).mp (of_decide_eq_true g)) hno⟩
    · refine ⟨_, rfl, e5 _ _ hq4, e4.trans e5, fun m hm => ?_⟩
      have tk : ys.take (i + 1) = ys.take i ++ [y] := by rw [List.take_succ, hy]; rfl
      rw [tk] at hm
      rcases List.mem_append.mp hm with hm | hm
      · exact hno m hm
      · rw [List.mem_singleton.mp hm]
        exact fun z => of_decide_eq_false g ((hre y).mpr z)
  · rintro σ' H4 ⟨a2, rfl, hq4, e4, hno⟩
    rw [List.length_map, List.take_length] at hno
    exact (k H4 e4).1 fun n hn => hno n (perm.mem_iff.mpr hn)
theorem ok_call_order (T : Txt K mg A) : FnOk P w K mg base CX0 3 A.f_call_order A.d_call_order ["table"] (sp_call_order K A) := by
  refine T.F_call_order.ok sc_call_order (fun vs H Q E h => sp1_len h) (fun cdv A0 outer s H vs Q E hr h => ?_)
  have nd := sc_call_order.nd
  refine ⟨_, (pss_cons (ps_set (i := 1) nd rfl (by first | exact Or.inl rfl | exact Or.inr rfl) (pe_lst pa_nil))
      (pss_cons (ps_while PassesOwn.never (pt_cmpR op_lt (pe_callB call_len (by rfl) T.b_len (by decide +kernel) (pa_cons (pv 1) pa_nil)) (pe_callB call_lenD (by rfl) T.b_len (by decide +kernel) (pa_cons (pv 0) pa_nil)) (nomark _)) (pss_one (ps_for PassesOwn.never rfl (pi_list (pe_callB (call_sortedD rfl) (by rfl) T.b_sorted (by decide +kernel) (pa_cons (pv 0) pa_nil))) (pg_name (i := 2) nd rfl (by first | exact Or.inl rfl | exact Or.inr rfl)) (pss_one (ps_if (PW.pt (pw_and (pt_cmpR op_notIn_seq (pv 2) (pv 1) (by rfl)) (pw_and1 (pt_val (pe_callB (cr_all rfl) (by rfl) T.b_all (by decide +kernel) (pa_cons (pe_lc (own := [("one", 3)]) (g := gName 3) (tt := tYes) (by rfl) nd (pi_list (pe_call (ok_called T) (hr.mono (by decide)) (by rfl) T.mg_called T.k_called T.b_called .nil pass0 (pa_cons (pe_dget (hu_of hr) (pv 0) (pv 2) (fun _ _ => rfl)) pa_nil))) (blkOk_by (own := [("one", 3)]) (N := ["table", "done", "name", "one"]) (sc := defScope s_call_order) (by decide +kernel)) (fun _ _ _ _ _ => pg_name (i := 3) nd rfl (by first | exact Or.inl rfl | exact Or.inr rfl)) (fun _ _ _ _ _ => pts_nil) (fun _ _ _ _ _ => (pe_cmpR (op_in_seqK (K := K) rfl) (pv 3) (pv 1) (by rfl)))) pa_nil)))))) (pss_one (ps_expr (pe_bm PySem.F.plainAttrs_list PySem.F.slot_list_append PySem.F.type_list_append mt_append (pv 1) (pa_cons (pv 2) pa_nil)))) pss_nil)))))
      (pss_one (ps_ret (pv 1))))), ?_⟩
  clear nd hr
  replace h := sp1_of h
  obtain ⟨v_table, rfl, h⟩ := h

  obtain ⟨p, tb, kvs, rk, rfl, ht, hp, top, l20, rd, k⟩ := h
  have ln : tb.names.length = tb.length := List.length_map ..
  refine ⟨(by show 0 ≤ sizeLine; rw [sizeLine_eq]; decide), fun d hd => ?_⟩
  refine ⟨fun m σ' H' => ∃ (ds : List Str) (a2 a3 : Option V), σ' = [some (.ref p), some (.ref d), a2, a3] ∧ H' d = some (.lst (ds.map V.str)) ∧ Same H H' ∧ m = 20 - ds.length ∧ ds.Nodup ∧ (∀ y ∈ ds, y ∈ tb.names) ∧ Topo tb ds,
    ⟨_, [], _, _, rfl, upd_same, same_new hd, rfl, List.nodup_nil, (fun y hy => nomatch hy), (fun i n hn => nomatch hn)⟩, ?_⟩
  rintro m σ' H2 ⟨ds, a2, a3, rfl, hd2, e2, rfl, dnd, din, dto⟩
  have hp2 := e2 _ _ hp
  refine ⟨_, rfl, _, _, rfl, .inl ⟨_, SqL.of hd2, rfl⟩, _, rfl, p, kvs, rfl, hp2, _, _, rfl, rfl, _, rfl, iteB (fun g => ?_) (fun g => ?_)⟩
  · have lt : ds.length < tb.length := by
      have := of_decide_eq_true g
      rw [List.length_map, ht.len] at this
      omega
    refine ⟨fun σ' H' => ∃ m', m' < 20 - ds.length ∧ ∃ (ds : List Str) (a2 a3 : Option V), σ' = [some (.ref p), some (.ref d), a2, a3] ∧ H' d = some (.lst (ds.map V.str)) ∧ Same H H' ∧ m' = 20 - ds.length ∧ ds.Nodup ∧ (∀ y ∈ ds, y ∈ tb.names) ∧ Topo tb ds, fun σ' H' h => h, ?_⟩
    obtain ⟨z, hz1, hz2, hz3⟩ := next_name rd dnd lt
    refine ⟨_, rfl, p, kvs, tb.names, rfl, (ht.same e2).rd, ht.keys, by omega, fun ys q perm srt hq => ?_⟩
    refine ⟨q, rfl, ⟨_, SqL.of upd_same⟩, ?_⟩
    have hd3 : (upd H2 q (.lst (ys.map V.str))) d = some (.lst (ds.map V.str)) := by rw [upd_ne (ne_of_none hd2 hq)]; exact hd2
    have nqd : q ≠ d := (ne_of_none hd2 hq).symm
    refine for_it (walk_list (xs := ys.map V.str)) (fun i σ' H' => ∃ (ds' : List Str) (a2 a3 : Option V), σ' = [some (.ref p), some (.ref d), a2, a3] ∧ H' q = some (.lst (ys.map V.str)) ∧ H' d = some (.lst (ds'.map V.str)) ∧ Same H H' ∧ ds <+: ds' ∧ ds'.Nodup ∧ (∀ y ∈ ds', y ∈ tb.names) ∧ Topo tb ds' ∧ (z ∈ ys.take i → z ∈ ds'))
      ⟨ds, _, _, rfl, upd_same, hd3, e2.trans (same_new hq), List.prefix_refl _, dnd, din, dto, fun h => nomatch h⟩ (fun i σ' H' _ ⟨_, _, _, _, h, _⟩ => SqL.of h) ?_ ?_
    · rintro i x σ' H4 H4' hi ⟨ds', b2, b3, rfl, hq4, hd4, e4, pre, nd4, in4, to4, hz4⟩ ⟨rfl, hx⟩
      rw [List.getElem?_map] at hx
      obtain ⟨y, hy, rfl⟩ := Option.map_eq_some_iff.mp hx
      have hyn : y ∈ tb.names := perm.mem_iff.mp (List.mem_of_getElem? hy)
      have tk : ys.take (i + 1) = ys.take i ++ [y] := by rw [List.take_succ, hy]; rfl
      have l4 : ds'.length ≤ 20 := Nat.le_trans (nodup_le nd4 in4) (by omega)
      refine ⟨_, rfl, _, rfl, d, _, rfl, .inl (SqL.of hd4), rfl, flat_strsE _, _, rfl, ?_⟩
      show if (!inV (.str y) (ds'.map V.str)) = true then _ else _
      rw [inV_strE]
      refine iteB (fun g2 => ?_) (fun g2 => iteF ?_)
      · have hnd : y ∉ ds' := by simpa using g2
        obtain ⟨k2, v2, hl2, hk2, hg2⟩ := (ht.same e4).get hyn
        have etop := top.look hl2
        have c12 := calls_len etop
        refine ⟨_, rfl, _, rfl, p, v2, rfl, hg2, _, rfl, k2, hk2, etop, fun w H5 hw hw0 e5 => ?_⟩
        have hd5 := e5 _ _ hd4
        refine lc_lstG (tt := tYes) (fun _ v (b : Bool) => v = V.bl b) (fun _ _ _ _ _ q => q) (fun _ _ _ _ _ _ _ q => q) (fun _ => true) (fun n => decide (n ∈ ds')) (fun v (n : Str) => v = V.str n) hw (strs_pair _) ?_ ?_ ?_ ?_ ?_
        · rw [List.length_map]; omega
        · exact fun x => rfl
        · exact fun x n H6 Q _ _ _ q => q
        · rintro x n H6 Q rfl _ _ e6 q
          refine ⟨_, rfl, _, rfl, d, _, rfl, .inl (SqL.of (e6 _ _ hd5)), rfl, flat_strsE _, ?_⟩
          show Q (.bl (inV (.str n) (ds'.map V.str))) H6
          rw [inV_strE]
          exact q _ _ (fun _ _ z => z) rfl
        · intro D bs H6 hD hD0 e6 pw
          have ebs := pair_bls pw
          subst ebs
          refine ⟨D, _, rfl, SqL.of hD, _, rfl, ?_⟩
          have e46 := e5.trans e6
          have hd6 := e46 _ _ hd4
          have hq6 := e46 _ _ hq4
          refine iteB (fun g3 => ?_) (fun g3 => ?_)
          · have all : ∀ c ∈ callsK k2, c ∈ ds' := by
              intro c hc
              have q := all_map g3 c hc
              simpa using q
            refine ⟨_, rfl, .inl ⟨rfl, _, SqL.of hd6⟩, _, rfl, d, ds'.map V.str, _, rfl, rfl, hd6, by rw [sizeLine_eq, List.length_map]; omega, ?_⟩
            refine ⟨ds' ++ [y], _, _, rfl, ?_, ?_, same_put hd (e4.trans e46), pre.trans (List.prefix_append _ _), nodup_snocE nd4 hnd, ?_, topo_snoc to4 hl2 all, ?_⟩
            · rw [upd_ne nqd]; exact hq6
            · rw [upd_same, List.map_append]; rfl
            · intro c hc
              rcases List.mem_append.mp hc with q | q
              · exact in4 c q
              · rw [List.mem_singleton.mp q]; exact hyn
            · intro hzt
              rw [tk] at hzt
              rcases List.mem_append.mp hzt with q | q
              · exact List.mem_append_left _ (hz4 q)
              · rw [List.mem_singleton.mp q]; exact List.mem_append_right _ (List.mem_singleton.mpr rfl)
          · refine ⟨ds', _, _, rfl, hq6, hd6, e4.trans e46, pre, nd4, in4, to4, fun hzt => ?_⟩
            rw [tk] at hzt
            rcases List.mem_append.mp hzt with q | q
            · exact hz4 q
            · have q := List.mem_singleton.mp q
              subst q
              exfalso
              have all : ∀ c ∈ callsK k2, c ∈ ds' := fun c hc => pre.subset (hz3 k2 hl2 c hc)
              rw [map_all all] at g3
              cases g3
      · refine ⟨ds', _, _, rfl, hq4, hd4, e4, pre, nd4, in4, to4, fun hzt => ?_⟩
        rw [tk] at hzt
        rcases List.mem_append.mp hzt with q | q
        · exact hz4 q
        · rw [List.mem_singleton.mp q]
          simpa using g2
    · rintro σ' H4 ⟨ds', b2, b3, rfl, hq4, hd4, e4, pre, nd4, in4, to4, hz4⟩
      rw [List.length_map, List.take_length] at hz4
      have hzd := hz4 (perm.mem_iff.mpr hz1)
      have llt : ds.length < ds'.length := by
        rcases Nat.lt_or_ge ds.length ds'.length with l | l
        · exact l
        · have e := List.IsPrefix.eq_of_length_le pre l
          rw [← e] at hzd
          exact absurd hzd hz2
      have l4 : ds'.length ≤ tb.names.length := nodup_le nd4 in4
      exact ⟨20 - ds'.length, by omega, ds', _, _, rfl, hd4, e4, rfl, nd4, in4, to4⟩
  · have le : tb.length ≤ ds.length := by
      have := of_decide_eq_false g
      rw [List.length_map, ht.len] at this
      omega
    exact ⟨_, rfl, k d ds H2 hd2 hd e2 (perm_of dnd rd.nd din (by omega)) dto⟩
theorem ok_number_lengths (T : Txt K mg A) : FnOk P w K mg base CX0 1 A.f_number_lengths A.d_number_lengths ["kind"] (sp_number_lengths K A) := by
  refine T.F_number_lengths.ok sc_number_lengths (fun vs H Q E h => sp1_len h) (fun cdv A0 outer s H vs Q E hr h => ?_)
  have nd := sc_number_lengths.nd
  refine ⟨_, (pss_cons (ps_set (i := 1) nd rfl (by first | exact Or.inl rfl | exact Or.inr rfl) (pe_op op_add (pe_op op_sub (pe_fld (pv 0) rfl) (pe_fld (pv 0) rfl)) pe_int))
      (pss_cons (ps_if (pt_cmpR op_notN (pe_fld (pv 0) rfl) pe_non (nomark _)) (pss_one (ps_ret (pe_lst (pa_cons (pe_fld (pv 0) rfl) pa_nil)))) pss_nil)
      (pss_cons (ps_set (i := 2) nd rfl (by first | exact Or.inl rfl | exact Or.inr rfl) (pe_op op_sub (pe_bits (pv 1)) pe_int))
      (pss_cons (ps_if (pt_cmpR op_eq (pv 1) (pe_op op_shl pe_int (pv 2)) (nomark _)) (pss_one (ps_ret (pe_lst (pa_cons (pv 2) pa_nil)))) pss_nil)
      (pss_one (ps_ret (pe_lst (pa_cons (pv 2) (pa_cons (pe_op op_add (pv 2) pe_int) pa_nil))))))))), ?_⟩
  clear nd hr
  replace h := sp1_of h
  obtain ⟨v_kind, rfl, h⟩ := h

  obtain ⟨lo, hi, w, hk, hf, k⟩ := h
  rw [Kd.fit] at hf
  cases hk with
  | num ob =>
    obtain ⟨dx, fs, hx, lx⟩ := ob
    refine ⟨_, rfl, _, _, dx, _, _, rfl, hx, T.cl_Number, T.n_Number_high, (lx _ (List.mem_cons_of_mem _ (List.mem_cons_self ..))), _, rfl, _, _, dx, _, _, rfl, hx, T.cl_Number, T.n_Number_low, (lx _ (List.mem_cons_self ..)), _, _, rfl, rfl, _, _, rfl, rfl, ?_⟩
    cases w with
    | some i =>
      refine ⟨_, rfl, _, _, dx, _, _, rfl, hx, T.cl_Number, T.n_Number_width, (lx _ (List.mem_cons_of_mem _ (List.mem_cons_of_mem _ (List.mem_cons_self ..)))), rfl, _, rfl, iteB (fun _ => ?_) (fun g => nomatch g)⟩
      exact ⟨_, rfl, _, _, dx, _, _, rfl, hx, T.cl_Number, T.n_Number_width, (lx _ (List.mem_cons_of_mem _ (List.mem_cons_of_mem _ (List.mem_cons_self ..)))), (by show 1 ≤ sizeLine; rw [sizeLine_eq]; decide), fun p hp => k p _ upd_same hp (same_new hp)⟩
    | none =>
      refine ⟨_, rfl, _, _, dx, _, _, rfl, hx, T.cl_Number, T.n_Number_width, (lx _ (List.mem_cons_of_mem _ (List.mem_cons_of_mem _ (List.mem_cons_self ..)))), rfl, _, rfl, iteB (fun g => nomatch g) (fun _ => ?_)⟩
      obtain ⟨b1, b2⟩ := bits_pos (m := hi - lo + 1) (by omega) (by omega)
      refine ⟨_, rfl, _, rfl, _, _, rfl, rfl, ?_⟩
      refine ⟨_, rfl, _, rfl, _, _, rfl, rfl, ⟨by omega, by omega, by decide⟩, rfl, _, rfl, iteB (fun g => ?_) (fun g => ?_)⟩
      · refine ⟨_, rfl, (by show 1 ≤ sizeLine; rw [sizeLine_eq]; decide), fun p hp => k p _ ?_ hp (same_new hp)⟩
        rw [upd_same, lensN, if_pos (of_decide_eq_true (dI.symm.trans g))]
        rfl
      · refine ⟨_, rfl, _, rfl, _, _, rfl, rfl, (by show 2 ≤ sizeLine; rw [sizeLine_eq]; decide), fun p hp => k p _ ?_ hp (same_new hp)⟩
        rw [upd_same, lensN, if_neg (of_decide_eq_false (dI.symm.trans g))]
        rfl
theorem ok_Lengths_of_kind (T : Txt K mg A) : FnOk P w K mg base CX0 2 A.f_Lengths_of_kind A.d_Lengths_of_kind ["self", "kind"] (sp_Lengths_of_kind K A) := by
  refine T.F_Lengths_of_kind.ok sc_Lengths_of_kind (fun vs H Q E h => sp2_len h) (fun cdv A0 outer s H vs Q E hr h => ?_)
  have nd := sc_Lengths_of_kind.nd
  refine ⟨_, (pss_cons (ps_if (pt_val (pe_callB call_isi (by rfl) T.b_isinstance (by decide +kernel) (pa_cons (pv 1) (pa_cons (pe_glob (v := .ref A.c_Nothing) (by rfl) T.mg_Nothing rfl) pa_nil)))) (pss_one (ps_ret (pe_lst (pa_cons pe_int pa_nil)))) pss_nil)
      (pss_cons (ps_if (pt_val (pe_callB call_isi (by rfl) T.b_isinstance (by decide +kernel) (pa_cons (pv 1) (pa_cons (pe_glob (v := .ref A.c_Number) (by rfl) T.mg_Number rfl) pa_nil)))) (pss_one (ps_ret (pe_lc (own := [("one", 2)]) (g := gName 2) (tt := tYes) (by rfl) nd (pi_list (pe_call (ok_number_lengths T) (hr.mono (by decide)) (by rfl) T.mg_number_lengths T.k_number_lengths T.b_number_lengths .nil pass0 (pa_cons (pv 1) pa_nil))) (blkOk_by (own := [("one", 2)]) (N := ["self", "kind", "one"]) (sc := defScope s_Lengths_of_kind) (by decide +kernel)) (fun _ _ _ _ _ => pg_name (i := 2) nd rfl (by first | exact Or.inl rfl | exact Or.inr rfl)) (fun _ _ _ _ _ => pts_nil) (fun _ _ _ _ _ => (pe_callB (call_min2 rfl) (by rfl) T.b_min (by decide +kernel) (pa_cons (pe_fldK (K := K) rfl (pv 0) rfl) (pa_cons (pv 2) pa_nil))))))) pss_nil)
      (pss_cons (ps_if (pt_val (pe_callB call_isi (by rfl) T.b_isinstance (by decide +kernel) (pa_cons (pv 1) (pa_cons (pe_glob (v := .ref A.c_Bits) (by rfl) T.mg_Bits rfl) pa_nil)))) (pss_one (ps_ret (pe_lst (pa_cons (pe_callB (call_min2 rfl) (by rfl) T.b_min (by decide +kernel) (pa_cons (pe_fld (pv 0) rfl) (pa_cons (pe_fld (pv 1) rfl) pa_nil))) pa_nil)))) pss_nil)
      (pss_cons (ps_if (pt_val (pe_callB call_isi (by rfl) T.b_isinstance (by decide +kernel) (pa_cons (pv 1) (pa_cons (pe_glob (v := .ref A.c_Call) (by rfl) T.mg_Call rfl) pa_nil)))) (pss_one (ps_ret (pe_dget (hu_of hr) (pe_fld (pv 0) rfl) (pe_fld (pv 1) rfl) (fun _ _ => rfl)))) pss_nil)
      pss_never)))), ?_⟩
  clear nd hr
  replace h := sp2_of h
  obtain ⟨v_self, v_kind, rfl, h⟩ := h

  obtain ⟨x, kd, c, kn, k0, rfl, hl, hk, hf, hs, hkn, k⟩ := h
  obtain ⟨dy, hy⟩ := hl.at_
  obtain ⟨t0, t32⟩ := top_32 hl.c0 hl.c5
  refine ⟨_, rfl, _, _, _, _, _, rfl, .own _, (KAt.vt T hk).tyx, kit_isaO (KAt.vt T hk).tag (T.kco .nothing), _, rfl, iteB (fun g => ?_) (fun g => ?_)⟩
  · have ec : decide (Kd.cls k0 = some .nothing) = true := isa_cls (t := .k k0) (c := .nothing) T g
    cases hk with
    | nothing ob => exact ⟨(by show 1 ≤ sizeLine; rw [sizeLine_eq]; decide), fun p hp => k p _ upd_same (same_new hp)⟩
    | _ => cases of_decide_eq_true ec
  refine ⟨_, rfl, _, _, _, _, _, rfl, .own _, (KAt.vt T hk).tyx, kit_isaO (KAt.vt T hk).tag (T.kco .num), _, rfl, iteB (fun g2 => ?_) (fun g2 => ?_)⟩
  · have ec : decide (Kd.cls k0 = some .num) = true := isa_cls (t := .k k0) (c := .num) T g2
    cases hk with
    | num ob =>
      refine ⟨_, rfl, _, rfl, _, _, _, .num ob, hf, fun p H1 hp hp0 e1 => ?_⟩
      refine lc_lstG (tt := tYes) (fun _ v (b : Int) => v = V.int b) (fun _ _ _ _ _ q => q) (fun _ _ _ _ _ _ _ q => q) (fun _ => true) (min (tp c)) (fun v (n : Int) => v = V.int n) hp (ints_pair _) ?_ ?_ ?_ ?_ ?_
      · rw [List.length_map]; exact Nat.le_trans lensN_len (by decide)
      · exact fun x => rfl
      · exact fun x n H6 Q _ _ _ q => q
      · rintro z n H6 Q rfl _ _ e6 q
        refine ⟨_, rfl, x, _, dy, _, _, rfl, e6 _ _ (e1 _ _ hy), T.cl_Lengths, T.n_Lengths_top, len_fs.2.1, _, rfl, _, _, rfl, ?_⟩
        rw [min2_eq]
        exact q _ _ (fun _ _ z => z) rfl
      · intro D bs H6 hD hD0 e6 pw
        have ebs := pair_ints pw
        subst ebs
        rw [List.filter_eq_self.mpr fun _ _ => rfl] at hD
        exact k D H6 hD (e1.trans e6)
    | _ => cases of_decide_eq_true ec
  refine ⟨_, rfl, _, _, _, _, _, rfl, .own _, (KAt.vt T hk).tyx, kit_isaO (KAt.vt T hk).tag (T.kco .bits), _, rfl, iteB (fun g3 => ?_) (fun g3 => ?_)⟩
  · have ec : decide (Kd.cls k0 = some .bits) = true := isa_cls (t := .k k0) (c := .bits) T g3
    cases hk with
    | bits ob =>
      obtain ⟨dx, fs, hx, lx⟩ := ob
      refine ⟨_, rfl, x, _, dy, _, _, rfl, hy, T.cl_Lengths, T.n_Lengths_top, len_fs.2.1, _, rfl, _, _, dx, _, _, rfl, hx, T.cl_Bits, T.n_Bits_many, (lx _ (List.mem_cons_self ..)), _, _, rfl, ?_⟩
      rw [min2_eq]
      exact ⟨(by show 1 ≤ sizeLine; rw [sizeLine_eq]; decide), fun p hp => k p _ upd_same (same_new hp)⟩
    | _ => cases of_decide_eq_true ec
  refine ⟨_, rfl, _, _, _, _, _, rfl, .own _, (KAt.vt T hk).tyx, kit_isaO (KAt.vt T hk).tag (T.kco .call), _, rfl, iteB (fun g4 => ?_) (fun g4 => ?_)⟩
  · have ec : decide (Kd.cls k0 = some .call) = true := isa_cls (t := .k k0) (c := .call) T g4
    cases hk with
    | call ob =>
      obtain ⟨dx, fs, hx, lx⟩ := ob
      obtain ⟨l, hl2⟩ := hkn
      obtain ⟨q, hg, hq⟩ := hl.kat.get hl2
      refine ⟨_, rfl, x, _, dy, _, _, rfl, hy, T.cl_Lengths, T.n_Lengths_known, len_fs.2.2, _, rfl, _, _, dx, _, _, rfl, hx, T.cl_Call, T.n_Call_name, (lx _ (List.mem_cons_self ..)), _, _, rfl, hg, k q H ?_ (fun _ _ z => z)⟩
      rw [hq, lensK, hl2]
      rfl
    | _ => cases of_decide_eq_true ec
  have n1 : decide (Kd.cls k0 = some .nothing) = false := isa_cls (t := .k k0) (c := .nothing) T g
  have n2 : decide (Kd.cls k0 = some .num) = false := isa_cls (t := .k k0) (c := .num) T g2
  have n3 : decide (Kd.cls k0 = some .bits) = false := isa_cls (t := .k k0) (c := .bits) T g3
  have n4 : decide (Kd.cls k0 = some .call) = false := isa_cls (t := .k k0) (c := .call) T g4
  cases k0 <;> first | exact absurd rfl (of_decide_eq_false n1) | exact absurd rfl (of_decide_eq_false n2) | exact absurd rfl (of_decide_eq_false n3) | exact absurd rfl (of_decide_eq_false n4) | exact nomatch hs
theorem ok_Lengths_sums (T : Txt K mg A) : FnOk P w K mg base CX0 1 A.f_Lengths_sums A.d_Lengths_sums ["self", "ones", "others"] (sp_Lengths_sums K A) := by
  refine T.F_Lengths_sums.ok sc_Lengths_sums (fun vs H Q E h => sp3_len h) (fun cdv A0 outer s H vs Q E hr h => ?_)
  have nd := sc_Lengths_sums.nd
  refine ⟨_, (pss_one (ps_ret (pe_callB (cr_sortedSet rfl) (by rfl) T.b_sorted (by decide +kernel) (pa_cons (pe_sc2 (own := [("one", 3), ("other", 4)]) (vs1 := [4]) (by rfl) nd (pi_list (pv 1)) (blkOk_by (own := [("one", 3), ("other", 4)]) (N := ["self", "ones", "others", "one", "other"]) (sc := defScope s_Lengths_sums) (by decide +kernel)) (by decide) (fun _ _ _ _ _ => pg_name (i := 3) nd rfl (by first | exact Or.inl rfl | exact Or.inr rfl)) (fun _ _ _ _ _ => pts_nil) (fun _ _ _ _ _ => (pi_listK (K := K) rfl (pv 2))) (fun _ _ _ _ _ => pg_name (i := 4) nd rfl (by first | exact Or.inl rfl | exact Or.inr rfl)) (fun _ _ _ _ _ => pts_nil) (fun _ _ _ _ _ => (pe_callB (call_min2 rfl) (by rfl) T.b_min (by decide +kernel) (pa_cons (pe_fldK (K := K) rfl (pv 0) rfl) (pa_cons (pe_op op_add (pv 3) (pv 4)) pa_nil))))) pa_nil)))), ?_⟩
  clear nd hr
  replace h := sp3_of h
  obtain ⟨v_self, v_ones, v_others, rfl, h⟩ := h

  obtain ⟨x, kd, p, q, c, as, bs, rfl, rfl, rfl, ⟨dx, hx⟩, c0, c5, hp, hq, a0, b0, k⟩ := h
  obtain ⟨t0, t32⟩ := top_32 c0 c5
  dsimp only [tRet, tCB, tCons, tNil]
  refine sc2_ints (fun x y => min (2 ^ c.toNat) (x + y)) ?_ hp ?_ hq ?_ ?_ (fun y z H1 Q' hy hz e1 q => ?_) (fun y hy z hz => ?_) (fun D H' hD hD0 e => ?_)
  · exact fun Q' q => ⟨_, rfl, q⟩
  · exact fun x H1 Q' q => ⟨_, rfl, q⟩
  · exact rfl
  · exact fun x => rfl
  · refine ⟨_, rfl, x, _, dx, _, _, rfl, e1 _ _ hx, T.cl_Lengths, T.n_Lengths_top, len_fs.2.1, _, rfl, _, rfl, _, _, rfl, rfl, _, _, rfl, ?_⟩
    rw [min2_eq]
    exact q
  · have := a0 y hy
    have := b0 z hz
    exact ⟨by omega, by omega⟩
  · refine sorted_setO hD (t := 32) (by decide) (by decide) (fun a ha => ?_) fun r hr => ?_
    · obtain ⟨y, hy, ha⟩ := List.mem_flatMap.mp ha
      obtain ⟨z, hz, rfl⟩ := List.mem_map.mp ha
      have := a0 y hy
      have := b0 z hz
      exact ⟨by omega, by omega⟩
    · have hr0 : H r = none := by
        cases z : H r with
        | none => rfl
        | some o => rw [e _ _ z] at hr; cases hr
      exact k r _ upd_same hr0 (e.trans (same_new hr))
theorem ok_Lengths_of_body (T : Txt K mg A) : FnOk P w K mg base CX0 3 A.f_Lengths_of_body A.d_Lengths_of_body ["self", "word", "kind"] (sp_Lengths_of_body K A) := by
  refine T.F_Lengths_of_body.ok sc_Lengths_of_body (fun vs H Q E h => sp3_len h) (fun cdv A0 outer s H vs Q E hr h => ?_)
  have nd := sc_Lengths_of_body.nd
  refine ⟨_, (pss_cons (ps_if (pt_cmpR op_isN (pv 2) pe_non (nomark _)) (pss_one (ps_ret (pe_lst pa_nil))) pss_nil)
      (pss_cons (ps_setLc (i := 3) (own := [("one", 4)]) (g := gName 4) (by rfl) nd rfl rfl (sw_true rfl rfl rfl (by decide +kernel)) (pi_list (pe_meth (pv 0) T.cl_Lengths ⟨T.m_Lengths_of_kind, T.i_Lengths_of_kind, T.k_Lengths_of_kind⟩ (ok_Lengths_of_kind T) (hr.mono (by decide)) T.b_Lengths_of_kind .nil pass0 (pa_cons (pv 2) pa_nil))) (blkOk_by (own := [("one", 4)]) (N := ["self", "word", "kind", "inner", "one"]) (sc := defScope s_Lengths_of_body) (by decide +kernel)) (fun _ _ _ _ _ => pg_name (i := 4) nd rfl (by first | exact Or.inl rfl | exact Or.inr rfl)) (fun _ _ _ _ _ => pts_one (pt_cmpR op_lt (pv 4) (pe_fldK (K := K) rfl (pv 0) rfl) (nomark _))) (fun _ _ _ _ _ => (pv 4)))
      (pss_one (ps_ret (pe_meth (pv 0) T.cl_Lengths ⟨T.m_Lengths_sums, T.i_Lengths_sums, T.k_Lengths_sums⟩ (ok_Lengths_sums T) (hr.mono (by decide)) T.b_Lengths_sums .nil pass0 (pa_cons (pe_lst (pa_cons (pe_op op_add (pe_callB call_len (by rfl) T.b_len (by decide +kernel) (pa_cons (pv 1) pa_nil)) (pe_fld (pv 0) rfl)) pa_nil)) (pa_cons (pv 3) pa_nil))))))), ?_⟩
  clear nd hr
  replace h := sp3_of h
  obtain ⟨v_self, v_word, v_kind, rfl, h⟩ := h

  obtain ⟨x, kd, c, kn, k0, y, rfl, rfl, y8, hl, hk, hf, hs, hkn, k⟩ := h
  obtain ⟨dy, hy⟩ := hl.at_
  obtain ⟨t0, t32⟩ := top_32 hl.c0 hl.c5
  have en := non_kd hk
  refine ⟨_, rfl, rfl, _, rfl, iteB (fun g => ?_) (fun g => ?_)⟩
  · rw [of_decide_eq_true g] at en
    have e0 : k0 = .none := by cases k0 <;> first | rfl | cases en
    subst e0
    exact ⟨(by show 0 ≤ sizeLine; rw [sizeLine_eq]; decide), fun p hp => k p _ upd_same (same_new hp)⟩
  have hs : isSi k0 = true := by
    rcases hs with rfl | hs
    · exfalso
      have e2 : decide (v_kind = V.non) = false := g
      rw [e2] at en
      cases en
    · exact hs
  have e0 : bodyL (tp c) c kn y k0 = sumsL (tp c) [(y.length : Nat) + c] ((lensK (tp c) kn k0).filter fun x => decide (x < tp c)) := by cases k0 <;> first | rfl | cases hs
  obtain ⟨nn, l100⟩ := lensK_nn hl.c0 hl.nn hf (k := k0) hkn
  refine ⟨_, rfl, x, dy, _, rfl, hy, len_no ⟨by decide +kernel, by decide +kernel, by decide +kernel⟩, _, rfl, _, _, rfl, x, kd, c, kn, k0, rfl, hl, hk, hf, hs, hkn, fun p H1 hp e1 => ?_⟩
  refine lc_lstG (fun _ v (b : Int) => v = V.int b) (fun _ _ _ _ _ q => q) (fun _ _ _ _ _ _ _ q => q) (fun x => decide (x < tp c)) id (fun v (n : Int) => v = V.int n) hp (ints_pair _) ?_ ?_ ?_ ?_ ?_
  · rw [List.length_map]; omega
  · exact fun x => rfl
  · rintro z n H6 Q rfl _ e6 q
    exact ⟨_, rfl, _, rfl, x, _, dy, _, _, rfl, e6 _ _ (e1 _ _ hy), T.cl_Lengths, T.n_Lengths_top, len_fs.2.1, _, _, rfl, rfl, _, rfl, q⟩
  · rintro z n H6 Q rfl _ _ e6 q
    exact ⟨_, rfl, q _ _ (fun _ _ z => z) rfl⟩
  · intro D bs H6 hD hD0 e6 pw
    have ebs := pair_ints pw
    subst ebs
    rw [List.map_id] at hD
    have e16 := e1.trans e6
    refine ⟨_, rfl, x, dy, _, rfl, (e16 _ _ hy), len_no ⟨by decide +kernel, by decide +kernel, by decide +kernel⟩, _, rfl, _, _, rfl, ⟨by rw [sizeLine_eq]; omega, rfl⟩, _, rfl, x, _, dy, _, _, rfl, e16 _ _ hy, T.cl_Lengths, T.n_Lengths_count, len_fs.1, _, _, rfl, rfl, (by show 1 ≤ sizeLine; rw [sizeLine_eq]; decide), fun q hq => ?_⟩
    have e7 : Same H (upd H6 q (.lst [V.int ((y.length : Nat) + c)])) := e16.trans (same_new hq)
    refine ⟨_, rfl, _, _, _, rfl, x, kd, q, D, c, _, _, rfl, rfl, rfl, ⟨dy, e7 _ _ hy⟩, hl.c0, hl.c5, upd_same (o := .lst ([(y.length : Nat) + c].map V.int)), (same_new hq) _ _ hD, ?_, ?_, fun r H8 hr hr0 e8 => ?_⟩
    · intro z hz
      rw [List.mem_singleton.mp hz]
      have := hl.c0
      omega
    · exact fun z hz => nn z (List.mem_filter.mp hz).1
    · exact k r H8 (by rw [hr, e0]; rfl) (e7.trans e8)
theorem ok_Lengths_of_row (T : Txt K mg A) : FnOk P w K mg base CX0 4 A.f_Lengths_of_row A.d_Lengths_of_row ["self", "kind"] (sp_Lengths_of_row K A) := by
  refine T.F_Lengths_of_row.ok sc_Lengths_of_row (fun vs H Q E h => sp2_len h) (fun cdv A0 outer s H vs Q E hr h => ?_)
  have nd := sc_Lengths_of_row.nd
  refine ⟨_, (pss_cons (ps_set (i := 2) nd rfl (by first | exact Or.inl rfl | exact Or.inr rfl) (pe_lst (pa_cons pe_int pa_nil)))
      (pss_cons (ps_for PassesOwn.never rfl (pi_tup (pe_fld (pv 1) rfl)) (pg_name (i := 3) nd rfl (by first | exact Or.inl rfl | exact Or.inr rfl)) (pss_one (ps_if (pt_val (pe_callB call_isi (by rfl) T.b_isinstance (by decide +kernel) (pa_cons (pv 3) (pa_cons (pe_glob (v := .ref A.c_Part) (by rfl) T.mg_Part rfl) pa_nil)))) (pss_one (ps_set (i := 2) nd rfl (by first | exact Or.inl rfl | exact Or.inr rfl) (pe_meth (pv 0) T.cl_Lengths ⟨T.m_Lengths_sums, T.i_Lengths_sums, T.k_Lengths_sums⟩ (ok_Lengths_sums T) (hr.mono (by decide)) T.b_Lengths_sums .nil pass0 (pa_cons (pv 2) (pa_cons (pe_meth (pv 0) T.cl_Lengths ⟨T.m_Lengths_of_kind, T.i_Lengths_of_kind, T.k_Lengths_of_kind⟩ (ok_Lengths_of_kind T) (hr.mono (by decide)) T.b_Lengths_of_kind .nil pass0 (pa_cons (pe_fld (pv 3) rfl) pa_nil)) pa_nil))))) (pss_one (ps_set (i := 2) nd rfl (by first | exact Or.inl rfl | exact Or.inr rfl) (pe_meth (pv 0) T.cl_Lengths ⟨T.m_Lengths_sums, T.i_Lengths_sums, T.k_Lengths_sums⟩ (ok_Lengths_sums T) (hr.mono (by decide)) T.b_Lengths_sums .nil pass0 (pa_cons (pv 2) (pa_cons (pe_op op_cat (pe_lst (pa_cons pe_int pa_nil)) (pe_meth (pv 0) T.cl_Lengths ⟨T.m_Lengths_of_body, T.i_Lengths_of_body, T.k_Lengths_of_body⟩ (ok_Lengths_of_body T) (hr.mono (by decide)) T.b_Lengths_of_body .nil pass0 (pa_cons (pe_fld (pv 3) rfl) (pa_cons (pe_fld (pv 3) rfl) pa_nil)))) pa_nil))))))))
      (pss_one (ps_ret (pv 2))))), ?_⟩
  clear nd hr
  replace h := sp2_of h
  obtain ⟨v_self, v_kind, rfl, h⟩ := h

  obtain ⟨x, kd, c, kn, ks, rfl, hl, hk, hf, l8, hkn, k⟩ := h
  obtain ⟨dy, hy⟩ := hl.at_
  obtain ⟨t0, t32⟩ := top_32 hl.c0 hl.c5
  cases hk with
  | row ob et kz o =>
    obtain ⟨dx, fs, hx, lx⟩ := ob
    have fa := fitAll_mem (by rw [Kd.fit] at hf; exact hf)
    have lvs := pair_lenE (kats_pair kz)
    rename_i ya tt vs
    refine ⟨(by show 1 ≤ sizeLine; rw [sizeLine_eq]; decide), fun f hfn => ?_⟩
    have e0 : Same H (upd H f (.lst [V.int 0])) := same_new hfn
    refine ⟨_, rfl, _, _, dx, _, _, rfl, (e0 _ _ hx), T.cl_Row, T.n_Row_parts, (lx _ (List.mem_cons_self ..)), tt, rfl, ⟨_, SqT.of (e0 _ _ et)⟩, ?_⟩
    refine for_it (walk_tup (xs := vs)) (fun i σ' H' => ∃ (fd : Addr) (a3 : Option V), σ' = [some (.ref x), some (.ref ya), some (.ref fd), a3] ∧ H' fd = some (.lst (((ks.take i).foldl (rowL1 (tp c) c kn) [0]).map V.int)) ∧ H fd = none ∧ Same H H') ⟨f, _, rfl, upd_same, hfn, e0⟩ (fun i σ' H' _ ⟨_, _, _, _, _, e⟩ => SqT.of (e _ _ et)) ?_ ?_
    · rintro i xv σ' H4 H4' hi ⟨fd, a3, rfl, hf4, hfd, e4⟩ ⟨rfl, hxv⟩
      obtain ⟨z, hz, hkz⟩ := pair_atE (kats_pair kz) hxv
      have mz := List.mem_of_getElem? hz
      have hkz := hkz.keep (KI.same e4)
      have hl4 := hl.same e4
      have hy4 := e4 _ _ hy
      have fz := fa z mz
      have kz1 := hkn z mz
      have tk : (ks.take (i + 1)).foldl (rowL1 (tp c) c kn) [0] = rowL1 (tp c) c kn ((ks.take i).foldl (rowL1 (tp c) c kn) [0]) z := by rw [take_snoc hz, List.foldl_append]; rfl
      have few := rows_few hl.c0 hl.c5 hl.nn (ks.take i) (fun a ha => fa a (List.mem_of_mem_take ha)) fun a ha => hkn a (List.mem_of_mem_take ha)
      refine ⟨_, rfl, _, _, _, _, _, rfl, .own _, (KAt.vt T hkz).tyx, kit_isaO (KAt.vt T hkz).tag (T.kco .part), _, rfl, iteB (fun g4 => ?_) (fun g4 => ?_)⟩
      · have ec : decide (Kd.cls z = some .part) = true := isa_cls (t := .k z) (c := .part) T g4
        cases hkz with
        | part ob2 kk oo =>
          obtain ⟨dz, gs, hzx, lx⟩ := ob2
          rename_i yz vz iz nz
          have fz := fz
          rw [Kd.fit] at fz
          have lenK := lensK_nn hl.c0 hl.nn fz.2 (k := iz) kz1
          refine ⟨_, rfl, x, dy, _, rfl, hy4, len_no ⟨by decide +kernel, by decide +kernel, by decide +kernel⟩, _, rfl, _, rfl, x, dy, _, rfl, hy4, len_no ⟨by decide +kernel, by decide +kernel, by decide +kernel⟩, _, rfl, _, _, _, _, _, rfl, hzx, T.cl_Part, T.n_Part_kind, (lx _ (List.mem_cons_of_mem _ (List.mem_cons_self ..))), _, _, rfl, x, kd, c, kn, iz, rfl, hl4, kk, fz.2, si_of (.inr oo) fz.2, kz1, fun p H6 hp e6 => ?_⟩
          refine ⟨_, _, _, rfl, x, kd, fd, p, c, _, _, rfl, rfl, rfl, ⟨dy, e6 _ _ hy4⟩, hl.c0, hl.c5, e6 _ _ hf4, hp, few.1, lenK.1, fun r H7 hr hr0 e7 => ?_⟩
          refine ⟨r, _, rfl, ?_, none_same (e4.trans e6) hr0, e4.trans (e6.trans e7)⟩
          rw [tk]
          exact hr
        | _ => cases of_decide_eq_true ec
      · have nw : decide (Kd.cls z = some .part) = false := isa_cls (t := .k z) (c := .part) T g4
        have ow := o z mz
        cases hkz with
        | room ob2 kk oo =>
          obtain ⟨dz, gs, hzx, lx⟩ := ob2
          rename_i yz vz iz wz nz
          have fz := fz
          rw [Kd.fit] at fz
          have bf := body_few (w := wz) (k := iz) hl.c0 hl.c5 hl.nn fz.2.2 kz1
          refine ⟨_, rfl, x, dy, _, rfl, hy4, len_no ⟨by decide +kernel, by decide +kernel, by decide +kernel⟩, _, rfl, (by show 1 ≤ sizeLine; rw [sizeLine_eq]; decide), fun q hq => ?_⟩
          have e5 : Same H4' (upd H4' q (.lst [V.int 0])) := same_new hq
          refine ⟨_, rfl, x, dy, _, rfl, (e5 _ _ hy4), len_no ⟨by decide +kernel, by decide +kernel, by decide +kernel⟩, _, rfl, _, _, _, _, _, rfl, (e5 _ _ hzx), T.cl_Room, T.n_Room_word, (lx _ (List.mem_cons_self ..)), ?_⟩
          refine ⟨_, rfl, _, _, _, _, _, rfl, (e5 _ _ hzx), T.cl_Room, T.n_Room_kind, (lx _ (List.mem_cons_of_mem _ (List.mem_cons_of_mem _ (List.mem_cons_self ..)))), _, _, _, rfl, x, kd, c, kn, iz, wz, rfl, rfl, fz.1, hl4.same e5, kk.keep (KI.same e5), fz.2.2, si_room oo fz.2.2, kz1, fun p H6 hp e6 => ?_⟩
          have e56 := e5.trans e6
          have bf2 := bf.2
          refine ⟨q, p, [.int 0], _, rfl, rfl, e6 _ _ upd_same, hp, by rw [sizeLine_eq, List.length_map]; exact Nat.le_trans (Nat.add_le_add_left bf2 _) (by decide), fun r6 hr6 => ?_⟩
          have e57 : Same H4' (upd H6 r6 (.lst (([0] ++ bodyL (tp c) c kn wz iz).map V.int))) := e56.trans (same_new hr6)
          refine ⟨_, _, _, rfl, x, kd, fd, r6, c, _, [0] ++ bodyL (tp c) c kn wz iz, rfl, rfl, rfl, ⟨dy, e57 _ _ hy4⟩, hl.c0, hl.c5, e57 _ _ hf4, upd_same, few.1, ?_, fun r H7 hr hr0 e7 => ?_⟩
          · intro a ha
            rcases List.mem_cons.mp ha with e | e
            · omega
            · exact bf.1 a e
          · refine ⟨r, _, rfl, ?_, none_same (e4.trans e57) hr0, e4.trans (e57.trans e7)⟩
            rw [tk]
            exact hr
        | part ob2 kk oo => exact absurd rfl (of_decide_eq_false nw)
        | _ => cases ow
    · rintro σ' H4 ⟨fd, a3, rfl, hf4, hfd, e4⟩
      rw [lvs, List.take_length] at hf4
      exact ⟨_, rfl, k fd H4 hf4 hfd e4⟩
theorem ok_Lengths_of_named (T : Txt K mg A) : FnOk P w K mg base CX0 5 A.f_Lengths_of_named A.d_Lengths_of_named ["self", "kind"] (sp_Lengths_of_named K A) := by
  refine T.F_Lengths_of_named.ok sc_Lengths_of_named (fun vs H Q E h => sp2_len h) (fun cdv A0 outer s H vs Q E hr h => ?_)
  have nd := sc_Lengths_of_named.nd
  refine ⟨_, (pss_cons (ps_if (pt_val (pe_callB call_isi (by rfl) T.b_isinstance (by decide +kernel) (pa_cons (pv 1) (pa_cons (pe_glob (v := .ref A.c_Row) (by rfl) T.mg_Row rfl) pa_nil)))) (pss_one (ps_ret (pe_meth (pv 0) T.cl_Lengths ⟨T.m_Lengths_of_row, T.i_Lengths_of_row, T.k_Lengths_of_row⟩ (ok_Lengths_of_row T) (hr.mono (by decide)) T.b_Lengths_of_row .nil pass0 (pa_cons (pv 1) pa_nil)))) pss_nil)
      (pss_cons (ps_if (pt_not (pt_val (pe_callB call_isi (by rfl) T.b_isinstance (by decide +kernel) (pa_cons (pv 1) (pa_cons (pe_glob (v := .ref A.c_Choice) (by rfl) T.mg_Choice rfl) pa_nil))))) (pss_one (ps_ret (pe_meth (pv 0) T.cl_Lengths ⟨T.m_Lengths_of_kind, T.i_Lengths_of_kind, T.k_Lengths_of_kind⟩ (ok_Lengths_of_kind T) (hr.mono (by decide)) T.b_Lengths_of_kind .nil pass0 (pa_cons (pv 1) pa_nil)))) pss_nil)
      (pss_cons (ps_set (i := 2) nd rfl (by first | exact Or.inl rfl | exact Or.inr rfl) (pe_lst pa_nil))
      (pss_cons (ps_for PassesOwn.never rfl (pi_tup (pe_fld (pv 1) rfl)) (pg_name (i := 3) nd rfl (by first | exact Or.inl rfl | exact Or.inr rfl)) (pss_one (ps_if (pt_val (pe_callB call_isi (by rfl) T.b_isinstance (by decide +kernel) (pa_cons (pv 3) (pa_cons (pe_glob (v := .ref A.c_Way) (by rfl) T.mg_Way rfl) pa_nil)))) (pss_one (ps_expr (pe_bm PySem.F.plainAttrs_list PySem.F.slot_list_extend PySem.F.type_list_extend mt_extend (pv 2) (pa_cons (pe_meth (pv 0) T.cl_Lengths ⟨T.m_Lengths_sums, T.i_Lengths_sums, T.k_Lengths_sums⟩ (ok_Lengths_sums T) (hr.mono (by decide)) T.b_Lengths_sums .nil pass0 (pa_cons (pe_lst (pa_cons (pe_callB call_len (by rfl) T.b_len (by decide +kernel) (pa_cons (pe_fld (pv 3) rfl) pa_nil)) pa_nil)) (pa_cons (pe_meth (pv 0) T.cl_Lengths ⟨T.m_Lengths_of_kind, T.i_Lengths_of_kind, T.k_Lengths_of_kind⟩ (ok_Lengths_of_kind T) (hr.mono (by decide)) T.b_Lengths_of_kind .nil pass0 (pa_cons (pe_fld (pv 3) rfl) pa_nil)) pa_nil))) pa_nil)))) (pss_one (ps_expr (pe_bm PySem.F.plainAttrs_list PySem.F.slot_list_extend PySem.F.type_list_extend mt_extend (pv 2) (pa_cons (pe_meth (pv 0) T.cl_Lengths ⟨T.m_Lengths_of_body, T.i_Lengths_of_body, T.k_Lengths_of_body⟩ (ok_Lengths_of_body T) (hr.mono (by decide)) T.b_Lengths_of_body .nil pass0 (pa_cons (pe_fld (pv 3) rfl) (pa_cons (pe_fld (pv 3) rfl) pa_nil))) pa_nil)))))))
      (pss_one (ps_ret (pe_callB (cr_sortedSet rfl) (by rfl) T.b_sorted (by decide +kernel) (pa_cons (pe_sc1 (own := [("one", 4)]) (by rfl) nd (pi_list (pv 2)) (blkOk_by (own := [("one", 4)]) (N := ["self", "kind", "found", "way", "one"]) (sc := defScope s_Lengths_of_named) (by decide +kernel)) (fun _ _ _ _ _ => pg_name (i := 4) nd rfl (by first | exact Or.inl rfl | exact Or.inr rfl)) (fun _ _ _ _ _ => pts_nil) (fun _ _ _ _ _ => (pv 4))) pa_nil)))))))), ?_⟩
  clear nd hr
  replace h := sp2_of h
  obtain ⟨v_self, v_kind, rfl, h⟩ := h

  obtain ⟨x, kd, c, kn, k0, rfl, hl, hk, hf, top, hkn, k⟩ := h
  obtain ⟨dy, hy⟩ := hl.at_
  obtain ⟨t0, t32⟩ := top_32 hl.c0 hl.c5
  refine ⟨_, rfl, _, _, _, _, _, rfl, .own _, (KAt.vt T hk).tyx, kit_isaO (KAt.vt T hk).tag (T.kco .row), _, rfl, iteB (fun g => ?_) (fun g => ?_)⟩
  · have ec : decide (Kd.cls k0 = some .row) = true := isa_cls (t := .k k0) (c := .row) T g
    cases hk with
    | row ob e ks o =>
      exact ⟨_, rfl, x, dy, _, rfl, hy, len_no ⟨by decide +kernel, by decide +kernel, by decide +kernel⟩, _, rfl, _, _, rfl, x, kd, c, kn, _, rfl, hl, .row ob e ks o, hf, of_decide_eq_true top, knows_in hkn, fun p H1 hp _ e1 => k p H1 hp e1⟩
    | _ => cases of_decide_eq_true ec
  have n1 : decide (Kd.cls k0 = some .row) = false := isa_cls (t := .k k0) (c := .row) T g
  refine ⟨_, rfl, _, _, _, _, _, rfl, .own _, (KAt.vt T hk).tyx, kit_isaO (KAt.vt T hk).tag (T.kco .choice), _, rfl, iteB (fun g2 => ?_) (fun g2 => ?_)⟩
  · have n2 : decide (Kd.cls k0 = some .choice) = false := isa_cls (t := .k k0) (c := .choice) T (show isa (Td.tag A (.k k0)) (.ref A.c_Choice) = false by simpa using g2)
    have hs : isSi k0 = true := by
      cases k0 <;> first | rfl | exact absurd rfl (of_decide_eq_false n1) | exact absurd rfl (of_decide_eq_false n2) | (rw [Kd.fit] at hf; exact hf.elim) | cases top
    have e0 : namedL (tp c) c kn k0 = lensK (tp c) kn k0 := by cases k0 <;> first | rfl | cases hs
    have e1 : innersK k0 = [k0] := by cases k0 <;> first | rfl | cases hs
    exact ⟨_, rfl, x, dy, _, rfl, hy, len_no ⟨by decide +kernel, by decide +kernel, by decide +kernel⟩, _, rfl, _, _, rfl, x, kd, c, kn, k0, rfl, hl, hk, hf, hs, hkn k0 (by rw [e1]; exact List.mem_singleton.mpr rfl), fun p H1 hp e1 => k p H1 (by rw [e0]; exact hp) e1⟩
  have g3 : isa (Td.tag A (.k k0)) (.ref A.c_Choice) = true := by simpa using g2
  have ec : decide (Kd.cls k0 = some .choice) = true := isa_cls (t := .k k0) (c := .choice) T g3
  cases hk with
  | choice ob et kz o =>
    obtain ⟨dx, fs, hx, lx⟩ := ob
    have l12 := of_decide_eq_true top
    have fa := fitAll_mem (by rw [Kd.fit] at hf; exact hf)
    have kin := knows_in hkn
    have lvs := pair_lenE (kats_pair kz)
    rename_i ya tt vs ks
    refine ⟨(by show 0 ≤ sizeLine; rw [sizeLine_eq]; decide), fun f hfn => ?_⟩
    have e0 : Same H (upd H f (.lst [])) := same_new hfn
    refine ⟨_, rfl, _, _, dx, _, _, rfl, (e0 _ _ hx), T.cl_Choice, T.n_Choice_ways, (lx _ (List.mem_cons_self ..)), tt, rfl, ⟨_, SqT.of (e0 _ _ et)⟩, ?_⟩
    refine for_it (walk_tup (xs := vs)) (fun i σ' H' => ∃ a3, σ' = [some (.ref x), some (.ref ya), some (.ref f), a3, none] ∧ H' f = some (.lst (((ks.take i).flatMap (wayL1 (tp c) c kn)).map V.int)) ∧ Same H H') ⟨_, rfl, upd_same, e0⟩ (fun i σ' H' _ ⟨_, _, _, e⟩ => SqT.of (e _ _ et)) ?_ ?_
    · rintro i xv σ' H4 H4' hi ⟨a3, rfl, hf4, e4⟩ ⟨rfl, hxv⟩
      obtain ⟨z, hz, hkz⟩ := pair_atE (kats_pair kz) hxv
      have mz := List.mem_of_getElem? hz
      have hkz := hkz.keep (KI.same e4)
      have hl4 := hl.same e4
      have hy4 := e4 _ _ hy
      have fz := fa z mz
      have kz1 := kin z mz
      have tk : ks.take (i + 1) = ks.take i ++ [z] := take_snoc hz
      have lacc := (flat_few (l := ks.take i) (f := wayL1 (tp c) c kn) fun a ha => way_few hl.c0 hl.c5 hl.nn (fa a (List.mem_of_mem_take ha)) (kin a (List.mem_of_mem_take ha))).2
      have l1 := (way_few hl.c0 hl.c5 hl.nn fz kz1).2
      have li := List.length_take_le i ks
      have lik : i ≤ 12 := by omega
      have room : ((ks.take i).flatMap (wayL1 (tp c) c kn)).length + (wayL1 (tp c) c kn z).length ≤ 1000 := by
        rw [List.length_take] at lacc
        omega
      refine ⟨_, rfl, _, _, _, _, _, rfl, .own _, (KAt.vt T hkz).tyx, kit_isaO (KAt.vt T hkz).tag (T.kco .way), _, rfl, iteB (fun g4 => ?_) (fun g4 => ?_)⟩
      · have ec : decide (Kd.cls z = some .way) = true := isa_cls (t := .k z) (c := .way) T g4
        cases hkz with
        | way ob2 kk oo =>
          obtain ⟨dz, gs, hzx, lx⟩ := ob2
          rename_i yz vz iz wz nz
          have fz := fz
          rw [Kd.fit] at fz
          have hsi := si_of (.inl oo) fz.2.2
          have lenK := lensK_nn hl.c0 hl.nn fz.2.2 (k := iz) kz1
          refine ⟨_, rfl, .inl ⟨rfl, _, SqL.of hf4⟩, _, rfl, x, dy, _, rfl, hy4, len_no ⟨by decide +kernel, by decide +kernel, by decide +kernel⟩, _, rfl, _, _, _, _, _, rfl, hzx, T.cl_Way, T.n_Way_word, (lx _ (List.mem_cons_self ..)), _, _, rfl, ⟨by rw [sizeLine_eq]; omega, rfl⟩, (by show 1 ≤ sizeLine; rw [sizeLine_eq]; decide), fun q hq => ?_⟩
          have e5 : Same H4' (upd H4' q (.lst [V.int (wz.length : Nat)])) := same_new hq
          refine ⟨_, rfl, x, dy, _, rfl, (e5 _ _ hy4), len_no ⟨by decide +kernel, by decide +kernel, by decide +kernel⟩, _, rfl, _, _, _, _, _, rfl, (e5 _ _ hzx), T.cl_Way, T.n_Way_kind, (lx _ (List.mem_cons_of_mem _ (List.mem_cons_of_mem _ (List.mem_cons_self ..)))), _, _, rfl, x, kd, c, kn, iz, rfl, hl4.same e5, kk.keep (KI.same e5), fz.2.2, hsi, kz1, fun p H6 hp e6 => ?_⟩
          have e56 := e5.trans e6
          refine ⟨_, _, _, rfl, x, kd, q, p, c, [(wz.length : Nat)], _, rfl, rfl, rfl, ⟨dy, e56 _ _ hy4⟩, hl.c0, hl.c5, e6 _ _ upd_same, hp, (fun z hz => by rw [List.mem_singleton.mp hz]; omega), lenK.1, fun r H7 hr hr0 e7 => ?_⟩
          have e57 := e56.trans e7
          refine ⟨f, r, _, _, rfl, rfl, e57 _ _ hf4, hr, ?_, _, rfl, ?_, same_put hfn (e4.trans e57)⟩
          · rw [sizeLine_eq, List.length_map, List.length_map]
            exact Nat.le_trans room (by decide)
          · rw [upd_same, tk, List.flatMap_append, List.map_append, flat_one (f := wayL1 (tp c) c kn) (a := .way wz nz iz)]
            rfl
        | _ => cases of_decide_eq_true ec
      · have nw : decide (Kd.cls z = some .way) = false := isa_cls (t := .k z) (c := .way) T g4
        have ow := o z mz
        cases hkz with
        | door ob2 kk oo =>
          obtain ⟨dz, gs, hzx, lx⟩ := ob2
          rename_i yz vz iz wz nz
          have fz := fz
          rw [Kd.fit] at fz
          refine ⟨_, rfl, .inl ⟨rfl, _, SqL.of hf4⟩, _, rfl, x, dy, _, rfl, hy4, len_no ⟨by decide +kernel, by decide +kernel, by decide +kernel⟩, _, rfl, _, _, _, _, _, rfl, hzx, T.cl_Door, T.n_Door_word, (lx _ (List.mem_cons_self ..)), ?_⟩
          refine ⟨_, rfl, _, _, _, _, _, rfl, hzx, T.cl_Door, T.n_Door_kind, (lx _ (List.mem_cons_of_mem _ (List.mem_cons_of_mem _ (List.mem_cons_self ..)))), _, _, _, rfl, x, kd, c, kn, iz, wz, rfl, rfl, fz.1, hl4, kk, fz.2.2, si_door oo fz.2.2, kz1, fun r H7 hr e7 => ?_⟩
          refine ⟨f, r, _, _, rfl, rfl, e7 _ _ hf4, hr, ?_, _, rfl, ?_, same_put hfn (e4.trans e7)⟩
          · rw [sizeLine_eq, List.length_map, List.length_map]
            exact Nat.le_trans room (by decide)
          · rw [upd_same, tk, List.flatMap_append, List.map_append, flat_one (f := wayL1 (tp c) c kn) (a := .door wz nz iz)]
            rfl
        | way ob2 kk oo => exact absurd rfl (of_decide_eq_false nw)
        | _ => cases ow
    · rintro σ' H4 ⟨a3, rfl, hf4, e4⟩
      rw [lvs, List.take_length] at hf4
      obtain ⟨nnz, _⟩ := flat_few (l := ks) (f := wayL1 (tp c) c kn) fun a ha => way_few hl.c0 hl.c5 hl.nn (fa a ha) (kin a ha)
      have le := ways_low (t := tp c) (c := c) (kn := kn) (show (0 : Int) ≤ 2 ^ c.toNat by omega) ks
      dsimp only [tRet, tCB, tCons, tNil]
      refine sc1_ints (fun x => x) ?_ hf4 ?_ ?_ (fun z hz => ?_) (fun D H' hD hD0 e => ?_)
      · exact fun Q' q => ⟨_, rfl, q⟩
      · exact rfl
      · exact fun z H1 Q' hz e1 q => ⟨_, rfl, q⟩
      · have := nnz z hz
        have := le z hz
        have : tp c ≤ 32 := t32
        exact ⟨by omega, by omega⟩
      · rw [List.map_id'] at hD
        refine sorted_setO hD (t := 32) (by decide) (by decide) (fun a ha => ?_) fun r hr => ?_
        · have := nnz a ha
          have := le a ha
          have : tp c ≤ 32 := t32
          exact ⟨by omega, by omega⟩
        · exact k r _ upd_same (e4.trans (e.trans (same_new hr)))
  | _ => cases of_decide_eq_true ec
theorem ok_Lengths___init__ (T : Txt K mg A) : FnOk P w K mg base CX0 6 A.f_Lengths___init__ A.d_Lengths___init__ ["self", "table", "count"] (sp_Lengths___init__ K A) := by
  refine T.F_Lengths___init__.ok sc_Lengths___init__ (fun vs H Q E h => sp3_len h) (fun cdv A0 outer s H vs Q E hr h => ?_)
  have nd := sc_Lengths___init__.nd
  refine ⟨_, (pss_cons (ps_fld (pv 0) (pv 2) rfl)
      (pss_cons (ps_fld (pv 0) (pe_op op_shl pe_int (pv 2)) rfl)
      (pss_cons (ps_fld (pv 0) pe_dnewK rfl)
      (pss_one (ps_for PassesOwn.never rfl (pi_list (pe_call (ok_call_order T) (hr.mono (by decide)) (by rfl) T.mg_call_order T.k_call_order T.b_call_order .nil pass0 (pa_cons (pv 1) pa_nil))) (pg_name (i := 3) nd rfl (by first | exact Or.inl rfl | exact Or.inr rfl)) (pss_one (ps_asg (pe_meth (pv 0) T.cl_Lengths ⟨T.m_Lengths_of_named, T.i_Lengths_of_named, T.k_Lengths_of_named⟩ (ok_Lengths_of_named T) (hr.mono (by decide)) T.b_Lengths_of_named .nil pass0 (pa_cons (pe_dget (hu_of hr) (pv 1) (pv 3) (fun _ _ => rfl)) pa_nil)) (pg_sub (pe_fld (pv 0) rfl) (pv 3) (set_dict (hu_of hr)))))))))), ?_⟩
  clear nd hr
  replace h := sp3_of h
  obtain ⟨v_self, v_table, v_count, rfl, h⟩ := h

  obtain ⟨H0, x, p, tb, kvs, rk, c, rfl, fr, rfl, rfl, ht, hp, top, fits, l20, rd, c0, c5, k⟩ := h
  obtain ⟨dx, hx⟩ := fr.at'
  refine ⟨_, rfl, _, rfl, x, _, dx, _, rfl, hx, T.cl_Lengths, T.n_Lengths_count, Nat.lt_of_le_of_lt (Nat.le_refl 0 : _ ≤ 0) (by decide : 0 < 1000), ?_⟩
  refine ⟨_, rfl, _, _, rfl, rfl, ⟨by omega, by omega, by decide⟩, _, rfl, x, _, dx, _, rfl, upd_same, T.cl_Lengths, T.n_Lengths_top, Nat.lt_of_le_of_lt (put_len (Nat.zero_le _) : _ ≤ 1) (by decide : 1 < 1000), ?_⟩
  simp only [Int.one_mul, upd_upd]
  have f2 : Fresh2 A.c_Lengths x H0 (upd H x (.ins A.c_Lengths dx (putF "top" (.int (2 ^ c.toNat)) (putF "count" (.int c) [])))) dx (putF "top" (.int (2 ^ c.toNat)) (putF "count" (.int c) [])) := ⟨fr.no, same_put fr.no fr.s, upd_same⟩
  generalize upd H x (.ins A.c_Lengths dx (putF "top" (.int (2 ^ c.toNat)) (putF "count" (.int c) []))) = H1 at f2 ⊢
  refine fun kd hkd => ?_
  have nxk : x ≠ kd := fun z => by rw [← z, f2.at'] at hkd; cases hkd
  have e1 : Same H0 (upd H1 kd (.dK [])) := f2.s.trans (same_new hkd)
  have hkd0 : H0 kd = none := none_same f2.s hkd
  refine ⟨_, rfl, x, _, dx, _, rfl, by rw [upd_ne nxk]; exact f2.at', T.cl_Lengths, T.n_Lengths_known, Nat.lt_of_le_of_lt (put_len (put_len (Nat.zero_le _)) : _ ≤ 2) (by decide : 2 < 1000), ?_⟩
  rw [put3E]
  have hk2 : (upd (upd H1 kd (.dK [])) x (.ins A.c_Lengths dx (lenFs (.int c) (.ref kd) (.int (2 ^ c.toNat))))) kd = some (.dK []) := by rw [upd_ne nxk.symm, upd_same]
  have hx2 : (upd (upd H1 kd (.dK [])) x (.ins A.c_Lengths dx (lenFs (.int c) (.ref kd) (.int (2 ^ c.toNat))))) x = some (.ins A.c_Lengths dx (lenFs (.int c) (.ref kd) (.int (2 ^ c.toNat)))) := upd_same
  have e2 := same_put (o := .ins A.c_Lengths dx (lenFs (.int c) (.ref kd) (.int (2 ^ c.toNat)))) fr.no e1
  generalize upd (upd H1 kd (.dK [])) x (.ins A.c_Lengths dx (lenFs (.int c) (.ref kd) (.int (2 ^ c.toNat)))) = H2 at hk2 hx2 e2 ⊢
  refine ⟨_, rfl, _, rfl, p, tb, kvs, rk, rfl, ht.same e2, e2 _ _ hp, top, l20, rd, fun q ds H3 hq hq0 e3 perm topo => ?_⟩
  have e03 := e2.trans e3
  refine ⟨q, rfl, ⟨_, SqL.of hq⟩, ?_⟩
  have lds : ds.length = tb.length := perm.length_eq.trans (List.length_map ..)
  have dnd : ds.Nodup := perm.nodup_iff.mpr rd.nd
  refine for_it (walk_list (xs := ds.map V.str)) (fun i σ' H' => ∃ a3, σ' = [some (.ref x), some (.ref p), some (.int c), a3] ∧ Lens A H' x c kd (knL tb c (ds.take i)) ∧ H' q = some (.lst (ds.map V.str)) ∧ Same H0 H') ⟨_, rfl, ⟨⟨dx, e3 _ _ hx2⟩, ⟨[], e3 _ _ hk2, .nil⟩, c0, c5, fun x hx => nomatch hx⟩, hq, e03⟩ (fun i σ' H' _ ⟨_, _, _, h, _⟩ => SqL.of h) ?_ ?_
  · rintro i xv σ' H4 H4' hi ⟨a3, rfl, hl4, hq4, e4⟩ ⟨rfl, hxv⟩
    rw [List.getElem?_map] at hxv
    obtain ⟨n, hn, rfl⟩ := Option.map_eq_some_iff.mp hxv
    have hnn : n ∈ tb.names := perm.mem_iff.mp (List.mem_of_getElem? hn)
    have t4 := ht.same e4
    obtain ⟨k1, v1, hl1, hk1, hg1⟩ := t4.get hnn
    obtain ⟨dy, hy⟩ := hl4.at_
    have mk1 := look_mem hl1
    have kall : ∀ z ∈ innersK k1, Knows (knL tb c (ds.take i)) z := knows_of fun m hm => knL_has _ (topo i n hn k1 hl1 m hm)
    refine ⟨_, rfl, x, dy, _, rfl, hy, len_no ⟨by decide +kernel, by decide +kernel, by decide +kernel⟩, _, rfl, _, rfl, p, v1, rfl, hg1, _, _, rfl, x, kd, c, _, k1, rfl, hl4, hk1, fits _ mk1, top.look hl1, kall, fun r H5 hr e5 => ?_⟩
    have hl5 := hl4.same e5
    have hy5 := e5 _ _ hy
    obtain ⟨kvs5, hk5, pk5⟩ := hl5.kat
    have nrk : r ≠ kd := fun z => by rw [z, hk5] at hr; cases hr
    have nxk5 : x ≠ kd := nxk
    have nin : n ∉ ds.take i := nodup_take dnd hn
    have new := kn_none pk5 (knL_none nin)
    have lk5 : kvs5.length ≤ 20 := by
      rw [pair_lenE pk5, knL_len]
      have := List.length_take_le i ds
      have := List.length_take_le' i ds
      omega
    refine ⟨_, rfl, x, _, dy, _, _, rfl, hy5, T.cl_Lengths, T.n_Lengths_known, len_fs.2.2, _, rfl, kd, _, rfl, (show DPut H5 kd (.str n) (.ref r) _ from DPut.k (k := (.inr n : Key)) hk5 (by rw [sizeLine_eq]; omega)), _, rfl, ?_, ?_, ?_⟩
    · rw [putK_new _ new]
      have tk : ds.take (i + 1) = ds.take i ++ [n] := take_snoc hn
      have ek : knL tb c (ds.take (i + 1)) = knL tb c (ds.take i) ++ [(n, namedL (tp c) c (knL tb c (ds.take i)) k1)] := by rw [tk, knL_snoc, hl1]; rfl
      refine ⟨⟨dy, by rw [upd_ne nxk]; exact hy5⟩, ⟨_, upd_same, ?_⟩, c0, c5, ?_⟩
      · rw [ek]
        exact paired_snocE ⟨rfl, r, nrk, rfl, by rw [upd_ne nrk]; exact hr⟩ (paired_impE (fun _ _ ⟨a, q, n, b, c⟩ => ⟨a, q, n, b, by rw [upd_ne n]; exact c⟩) pk5)
      · rw [ek]
        intro y hy
        rcases List.mem_append.mp hy with q | q
        · exact hl4.nn y q
        · rw [List.mem_singleton.mp q]
          exact named_ok c0 c5 hl4.nn (top.look hl1) (fits _ mk1) kall
    · rw [upd_ne (fun z => by have := e5 _ _ hq4; rw [z, hk5] at this; cases this)]
      exact e5 _ _ hq4
    · exact same_put hkd0 (e4.trans e5)
  · rintro σ' H4 ⟨a3, rfl, hl4, hq4, e4⟩
    rw [List.length_map, List.take_length] at hl4
    exact k kd _ H4 hl4 (fix_of rd perm topo) e4
theorem ok_Lengths_is_long (T : Txt K mg A) : FnOk P w K mg base CX0 3 A.f_Lengths_is_long A.d_Lengths_is_long ["self", "kind"] (sp_Lengths_is_long K A) := by
  refine T.F_Lengths_is_long.ok sc_Lengths_is_long (fun vs H Q E h => sp2_len h) (fun cdv A0 outer s H vs Q E hr h => ?_)
  have nd := sc_Lengths_is_long.nd
  refine ⟨_, (pss_one (ps_ret (pe_cmpR op_in_seq (pe_fld (pv 0) rfl) (pe_meth (pv 0) T.cl_Lengths ⟨T.m_Lengths_of_kind, T.i_Lengths_of_kind, T.k_Lengths_of_kind⟩ (ok_Lengths_of_kind T) (hr.mono (by decide)) T.b_Lengths_of_kind .nil pass0 (pa_cons (pv 1) pa_nil)) (by rfl)))), ?_⟩
  clear nd hr
  replace h := sp2_of h
  obtain ⟨v_self, v_kind, rfl, h⟩ := h

  obtain ⟨x, kd, c, kn, k0, rfl, hl, hk, hf, hs, hkn, k⟩ := h
  obtain ⟨dy, hy⟩ := hl.at_
  refine ⟨_, rfl, x, _, dy, _, _, rfl, hy, T.cl_Lengths, T.n_Lengths_top, len_fs.2.1, _, rfl, x, dy, _, rfl, hy, len_no ⟨by decide +kernel, by decide +kernel, by decide +kernel⟩, _, rfl, _, _, rfl, x, kd, c, kn, k0, rfl, hl, hk, hf, hs, hkn, fun p H1 hp e1 => ?_⟩
  refine ⟨p, _, rfl, .inl (SqL.of hp), rfl, flat_intsE _, ?_⟩
  show Q (.bl (inV (.int (tp c)) ((lensK (tp c) kn k0).map V.int))) H1
  rw [inV_intE]
  exact k H1 e1
theorem ok_long_body (T : Txt K mg A) : FnOk P w K mg base CX0 8 A.f_long_body A.d_long_body ["table", "count"] (sp_long_body K A) := by
  refine T.F_long_body.ok sc_long_body (fun vs H Q E h => sp2_len h) (fun cdv A0 outer s H vs Q E hr h => ?_)
  have nd := sc_long_body.nd
  refine ⟨_, (pss_cons (ps_set (i := 2) nd rfl (by first | exact Or.inl rfl | exact Or.inr rfl) (pe_make T.mk_Lengths (ok_Lengths___init__ T) (hr.mono (by decide)) (by rfl) T.mg_Lengths T.b_Lengths___init__ .nil pass0 (pa_cons (pv 0) (pa_cons (pv 1) pa_nil))))
      (pss_cons (ps_for PassesOwn.never rfl (pi_list (pe_callB (call_sortedD rfl) (by rfl) T.b_sorted (by decide +kernel) (pa_cons (pv 0) pa_nil))) (pg_name (i := 3) nd rfl (by first | exact Or.inl rfl | exact Or.inr rfl)) (pss_cons (ps_set (i := 4) nd rfl (by first | exact Or.inl rfl | exact Or.inr rfl) (pe_lst pa_nil))
      (Evl.pss_cut (ps_if (pt_val (pe_callB call_isi (by rfl) T.b_isinstance (by decide +kernel) (pa_cons (pe_dget (hu_of hr) (pv 0) (pv 3) (fun _ _ => rfl)) (pa_cons (pe_glob (v := .ref A.c_Choice) (by rfl) T.mg_Choice rfl) pa_nil)))) (pss_one (ps_setLc (i := 4) (own := [("way", 5)]) (g := gName 5) (by rfl) nd rfl rfl (sw_true rfl rfl rfl (by decide +kernel)) (pi_tup (pe_fld (pe_dget (hu_of hr) (pv 0) (pv 3) (fun _ _ => rfl)) rfl)) (blkOk_by (own := [("way", 5)]) (N := ["table", "count", "lengths", "name", "inner", "way", "part", "one"]) (sc := defScope s_long_body) (by decide +kernel)) (fun _ _ _ _ _ => pg_name (i := 5) nd rfl (by first | exact Or.inl rfl | exact Or.inr rfl)) (fun _ _ _ _ _ => pts_one (pt_not (pt_val (pe_callB (call_isiK2 (K := K) rfl) (by rfl) T.b_isinstance (by decide +kernel) (pa_cons (pv 5) (pa_cons (pe_glob (v := .ref A.c_Way) (by rfl) T.mg_Way rfl) pa_nil)))))) (fun _ _ _ _ _ => (pv 5)))) (pss_one (ps_if (pt_val (pe_callB call_isi (by rfl) T.b_isinstance (by decide +kernel) (pa_cons (pe_dget (hu_of hr) (pv 0) (pv 3) (fun _ _ => rfl)) (pa_cons (pe_glob (v := .ref A.c_Row) (by rfl) T.mg_Row rfl) pa_nil)))) (pss_one (ps_setLc (i := 4) (own := [("part", 6)]) (g := gName 6) (by rfl) nd rfl rfl (sw_true rfl rfl rfl (by decide +kernel)) (pi_tup (pe_fld (pe_dget (hu_of hr) (pv 0) (pv 3) (fun _ _ => rfl)) rfl)) (blkOk_by (own := [("part", 6)]) (N := ["table", "count", "lengths", "name", "inner", "way", "part", "one"]) (sc := defScope s_long_body) (by decide +kernel)) (fun _ _ _ _ _ => pg_name (i := 6) nd rfl (by first | exact Or.inl rfl | exact Or.inr rfl)) (fun _ _ _ _ _ => pts_one (pt_not (pt_val (pe_callB (call_isiK2 (K := K) rfl) (by rfl) T.b_isinstance (by decide +kernel) (pa_cons (pv 6) (pa_cons (pe_glob (v := .ref A.c_Part) (by rfl) T.mg_Part rfl) pa_nil)))))) (fun _ _ _ _ _ => (pv 6)))) pss_nil)))
      (pss_one (ps_for PassesOwn.never rfl (pi_list (pv 4)) (pg_name (i := 7) nd rfl (by first | exact Or.inl rfl | exact Or.inr rfl)) (pss_one (ps_if (PW.pt (pw_and (pt_cmpR op_notN (pe_fld (pv 7) rfl) pe_non (nomark _)) (pw_and1 (pt_val (pe_meth (pv 2) T.cl_Lengths ⟨T.m_Lengths_is_long, T.i_Lengths_is_long, T.k_Lengths_is_long⟩ (ok_Lengths_is_long T) (hr.mono (by decide)) T.b_Lengths_is_long .nil pass0 (pa_cons (pe_fld (pv 7) rfl) pa_nil)))))) (pss_one (ps_ret (pe_tup (pa_cons (pv 3) (pa_cons (pe_fld (pv 7) rfl) pa_nil))))) pss_nil)))))))
      (pss_one (ps_ret pe_non)))), ?_⟩
  clear nd hr
  replace h := sp2_of h
  obtain ⟨v_table, v_count, rfl, h⟩ := h

  obtain ⟨p, tb, kvs, rk, c, rfl, rfl, ht, hp, top, fits, l20, rd, c0, c5, no, k⟩ := h
  have ln : tb.names.length = tb.length := List.length_map ..
  refine ⟨_, rfl, _, rfl, fun x dx hx hdx ne => ?_⟩
  refine ⟨_, _, _, rfl, H, x, p, tb, kvs, rk, c, rfl, Fresh.mk' hx hdx ne, rfl, rfl, ht, hp, top, fits, l20, rd, c0, c5, fun kd kn H1 hl fx e1 => ⟨rfl, ?_⟩⟩
  have no := no kn fx
  refine ⟨_, rfl, p, kvs, tb.names, rfl, (ht.same e1).rd, ht.keys, by omega, fun ys q perm srt hq => ?_⟩
  refine ⟨q, rfl, ⟨_, SqL.of upd_same⟩, ?_⟩
  refine for_it (walk_list (xs := ys.map V.str)) (fun i σ' H' => ∃ a3 a4 a5 a6 a7, σ' = [some (.ref p), some (.int c), some (.ref x), a3, a4, a5, a6, a7] ∧ H' q = some (.lst (ys.map V.str)) ∧ Same (upd H1 q (.lst (ys.map V.str))) H') ⟨_, _, _, _, _, rfl, upd_same, fun _ _ z => z⟩ (fun i σ' H' _ ⟨_, _, _, _, _, _, h, _⟩ => SqL.of h) ?_ ?_
  · rintro i xv σ' H4 H4' hi ⟨a3, a4, a5, a6, a7, rfl, hq4, e4⟩ ⟨rfl, hxv⟩
    rw [List.getElem?_map] at hxv
    obtain ⟨n, hn, rfl⟩ := Option.map_eq_some_iff.mp hxv
    have hnn : n ∈ tb.names := perm.mem_iff.mp (List.mem_of_getElem? hn)
    have e14 : Same H1 H4' := (same_new hq).trans e4
    refine ⟨(by show 0 ≤ sizeLine; rw [sizeLine_eq]; decide), fun w0 hw0 => ?_⟩
    have e5 : Same H4' (upd H4' w0 (.lst [])) := same_new hw0
    have hw5 : (upd H4' w0 (.lst [])) w0 = some (.lst []) := upd_same
    generalize upd H4' w0 (.lst []) = H5 at e5 hw5 ⊢
    obtain ⟨k1, v1, hl1, hk1, hg1⟩ := (ht.same (e1.trans (e14.trans e5))).get hnn
    have mk1 := look_mem hl1
    have tk1 := top.look hl1
    refine ⟨fun s' h' => ∃ (w : Addr) (us : List V) (zs : List Kd) (a5 a6 a7 : Option V), s' = [some (.ref p), some (.int c), some (.ref x), some (.str n), some (.ref w), a5, a6, a7] ∧ h' w = some (.lst us) ∧ KAts A h' us zs ∧ Same H4' h' ∧ ∀ z ∈ zs, ∃ ks, (k1 = .choice ks ∨ k1 = .row ks) ∧ z ∈ ks ∧ ∃ w m, z = .door w m (inK z) ∨ z = .room w m (inK z), ?_, ?_⟩
    · refine ⟨_, rfl, _, rfl, p, v1, rfl, hg1, _, _, _, _, _, rfl, .own _, (KAt.vt T hk1).tyx, kit_isaO (KAt.vt T hk1).tag (T.kco .choice), _, rfl, iteB (fun gg => ?_) (fun gg => ?_)⟩
      · have ec : decide (Kd.cls k1 = some .choice) = true := isa_cls (t := .k k1) (c := .choice) T gg
        cases hk1 with
        | choice ob et kz o =>
          obtain ⟨dz, gs, hzx, lx⟩ := ob
          rename_i yz tz vz ks
          have l12 : ks.length ≤ 12 := by have := of_decide_eq_true tk1; omega
          refine lc_tupF (fun H v k => KAt A H v k) (fun H1 H2 v b e h => h.keep (KI.same e)) (fun D H1 ws v v' b h q => q.keep (KI.setL h)) (fun z => !decide (Kd.cls z = some .way)) id (fun v z => KAt A H5 v z) (fun Q' q => ⟨_, rfl, _, rfl, p, _, rfl, hg1, _, _, dz, gs, _, rfl, hzx, T.cl_Choice, T.n_Choice_ways, lx _ (List.mem_cons_self ..), q⟩) et (kats_pair kz) (by rw [pair_lenE (kats_pair kz)]; omega) (fun x => rfl) ?_ ?_ ?_
          · intro x z H1 Q hz mz e1 q
            have hz := hz.keep (KI.same e1)
            refine ⟨_, rfl, _, _, _, _, _, rfl, .own _, (KAt.vt T hz).tyx, kit_isaO (KAt.vt T hz).tag (T.kco .way), _, rfl, ?_⟩
            rw [show isa (Td.tag A (.k z)) (.ref A.c_Way) = decide (Kd.cls z = some .way) from isa_kc T (.k z) .way]
            exact q
          · exact fun x z H1 Q hz mz _ e1 q => ⟨_, rfl, q _ _ (fun _ _ z => z) (hz.keep (KI.same e1))⟩
          · intro D us H' hD hD0 e6 pw
            rw [List.map_id] at pw
            refine ⟨D, us, _, _, _, _, rfl, hD, kats_ofp pw, e5.trans e6, fun z hz => ?_⟩
            obtain ⟨hz1, hz2⟩ := List.mem_filter.mp hz
            refine ⟨ks, by first | exact .inl rfl | exact .inr rfl, hz1, ?_⟩
            have oz := o z hz1
            cases z <;> first | exact ⟨_, _, .inl rfl⟩ | exact ⟨_, _, .inr rfl⟩ | (simp [Kd.cls] at hz2; done) | exact nomatch oz
        | _ => cases of_decide_eq_true ec
      refine ⟨_, rfl, _, rfl, p, v1, rfl, hg1, _, _, _, _, _, rfl, .own _, (KAt.vt T hk1).tyx, kit_isaO (KAt.vt T hk1).tag (T.kco .row), _, rfl, iteB (fun gh => ?_) (fun gh => ?_)⟩
      · have ec : decide (Kd.cls k1 = some .row) = true := isa_cls (t := .k k1) (c := .row) T gh
        cases hk1 with
        | row ob et kz o =>
          obtain ⟨dz, gs, hzx, lx⟩ := ob
          rename_i yz tz vz ks
          have l12 : ks.length ≤ 12 := by have := of_decide_eq_true tk1; omega
          refine lc_tupF (fun H v k => KAt A H v k) (fun H1 H2 v b e h => h.keep (KI.same e)) (fun D H1 ws v v' b h q => q.keep (KI.setL h)) (fun z => !decide (Kd.cls z = some .part)) id (fun v z => KAt A H5 v z) (fun Q' q => ⟨_, rfl, _, rfl, p, _, rfl, hg1, _, _, dz, gs, _, rfl, hzx, T.cl_Row, T.n_Row_parts, lx _ (List.mem_cons_self ..), q⟩) et (kats_pair kz) (by rw [pair_lenE (kats_pair kz)]; omega) (fun x => rfl) ?_ ?_ ?_
          · intro x z H1 Q hz mz e1 q
            have hz := hz.keep (KI.same e1)
            refine ⟨_, rfl, _, _, _, _, _, rfl, .own _, (KAt.vt T hz).tyx, kit_isaO (KAt.vt T hz).tag (T.kco .part), _, rfl, ?_⟩
            rw [show isa (Td.tag A (.k z)) (.ref A.c_Part) = decide (Kd.cls z = some .part) from isa_kc T (.k z) .part]
            exact q
          · exact fun x z H1 Q hz mz _ e1 q => ⟨_, rfl, q _ _ (fun _ _ z => z) (hz.keep (KI.same e1))⟩
          · intro D us H' hD hD0 e6 pw
            rw [List.map_id] at pw
            refine ⟨D, us, _, _, _, _, rfl, hD, kats_ofp pw, e5.trans e6, fun z hz => ?_⟩
            obtain ⟨hz1, hz2⟩ := List.mem_filter.mp hz
            refine ⟨ks, by first | exact .inl rfl | exact .inr rfl, hz1, ?_⟩
            have oz := o z hz1
            cases z <;> first | exact ⟨_, _, .inl rfl⟩ | exact ⟨_, _, .inr rfl⟩ | (simp [Kd.cls] at hz2; done) | exact nomatch oz
        | _ => cases of_decide_eq_true ec
      exact ⟨w0, [], [], _, _, _, rfl, hw5, .nil, e5, fun z hz => nomatch hz⟩
    rintro s' h' ⟨w, us, zs, a5, a6, a7, rfl, hw, kus, e6, hzs⟩
    refine ⟨_, rfl, w, rfl, ⟨_, SqL.of hw⟩, ?_⟩
    refine for_it (walk_list (xs := us)) (fun j σ' H' => ∃ a5 a6 a7, σ' = [some (.ref p), some (.int c), some (.ref x), some (.str n), some (.ref w), a5, a6, a7] ∧ Same h' H') ⟨_, _, _, rfl, fun _ _ z => z⟩ (fun j σ' H' _ ⟨_, _, _, _, e⟩ => SqL.of (e _ _ hw)) ?_ ?_
    · rintro j xw σ' H7 H7' hj ⟨b5, b6, b7, rfl, e7⟩ ⟨rfl, hxw⟩
      obtain ⟨z, hz, hkz⟩ := pair_atE (kats_pair kus) hxw
      have hkz := hkz.keep (KI.same e7)
      obtain ⟨ks, hks, mz, wz, mm, hzz⟩ := hzs z (List.mem_of_getElem? hz)
      have e17 : Same H1 H7' := e14.trans (e6.trans e7)
      obtain ⟨y, C, dz, gs, u, rfl, hy, cC, nC, hu, ku⟩ := wd_kind T hkz (by rcases hzz with e | e <;> rw [e] <;> first | exact .inl rfl | exact .inr rfl)
      refine ⟨_, rfl, y, C, dz, gs, u, rfl, hy, cC, nC, hu, rfl, ?_⟩
      rw [non_kd ku]
      have l7 := hl.same e17
      obtain ⟨dy, hx7⟩ := l7.at_
      have fz : z.fit := by
        have f1 := fits _ mk1
        rcases hks with e | e <;> (rw [e, Kd.fit] at f1; exact fitAll_mem f1 z mz)
      refine ⟨_, rfl, iteB (fun g => ?_) (fun g => iteF ?_)⟩
      · obtain ⟨fi, si⟩ := in_si hkz fz hzz (fun e => by rw [e] at g; cases g)
        have kw : Knows kn (inK z) := knows_fix rd fx hl1 _ (in_mem hks mz g)
        refine ⟨_, rfl, x, dy, _, rfl, hx7, len_no ⟨by decide +kernel, by decide +kernel, by decide +kernel⟩, _, rfl, y, C, dz, gs, u, rfl, hy, cC, nC, hu, _, _, rfl, x, kd, c, kn, inK z, rfl, l7, ku, fi, si, kw, fun H8 e8 => ⟨_, rfl, ?_⟩⟩
        rw [decide_eq_false (no _ mk1 ks hks z mz ⟨wz, mm, hzz⟩ (fun e => by rw [e] at g; cases g))]
        exact iteF ⟨_, _, _, rfl, e7.trans e8⟩
      · exact ⟨_, _, _, rfl, e7⟩
    · rintro σ' H7 ⟨b5, b6, b7, rfl, e7⟩
      exact ⟨_, _, _, _, _, rfl, e7 _ _ (e6 _ _ hq4), e4.trans (e6.trans e7)⟩
  · rintro σ' H4 ⟨a3, a4, a5, a6, a7, rfl, hq4, e4⟩
    exact k H4 (e1.trans ((same_new hq).trans e4))
theorem ok_Plan___init__ (T : Txt K mg A) : FnOk P w K mg base CX0 1 A.f_Plan___init__ A.d_Plan___init__ ["self", "named", "count", "own"] (sp_Plan___init__ K A) := by
  refine T.F_Plan___init__.ok sc_Plan___init__ (fun vs H Q E h => sp4_len h) (fun cdv A0 outer s H vs Q E hr h => ?_)
  have nd := sc_Plan___init__.nd
  refine ⟨_, (pss_cons (ps_fld (pv 0) (pv 1) rfl)
      (pss_cons (ps_fld (pv 0) (pv 2) rfl)
      (pss_cons (ps_fld (pv 0) (pv 3) rfl)
      (pss_cons (ps_fld (pv 0) (pe_op op_sub (pe_op op_shl pe_int (pv 2)) pe_int) rfl)
      (pss_cons (ps_fld (pv 0) (pe_lst pa_nil) rfl)
      (pss_cons (ps_fld (pv 0) pe_dnewK rfl)
      (pss_cons (ps_fld (pv 0) (pe_lst (pa_cons (pe_tup (pa_cons pe_str pa_nil)) pa_nil)) rfl)
      (pss_one (ps_fld (pv 0) (pe_disp1T (hu_of hr) (pe_tup (pa_cons pe_str pa_nil)) pe_int) rfl))))))))), ?_⟩
  clear nd hr
  replace h := sp4_of h
  obtain ⟨v_self, v_named, v_count, v_own, rfl, h⟩ := h

  obtain ⟨H0, x, p, c, own, rfl, fr, rfl, rfl, rfl, c0, c5, k⟩ := h
  obtain ⟨dx, hx⟩ := fr.at'
  have no := fr.no
  have e0 := fr.s
  refine ⟨_, rfl, _, rfl, x, _, dx, _, rfl, hx, T.cl_Machine, T.n_Machine_named, Nat.lt_of_le_of_lt (Nat.le_refl 0 : _ ≤ 0) (by decide : 0 < 1000), ?_⟩
  refine ⟨_, rfl, _, rfl, x, _, dx, _, rfl, upd_same, T.cl_Machine, T.n_Machine_count, Nat.lt_of_le_of_lt (put_len (Nat.zero_le _) : _ ≤ 1) (by decide : 1 < 1000), ?_⟩
  refine ⟨_, rfl, _, rfl, x, _, dx, _, rfl, upd_same, T.cl_Machine, T.n_Machine_own, Nat.lt_of_le_of_lt (put_len (put_len (Nat.zero_le _)) : _ ≤ 2) (by decide : 2 < 1000), ?_⟩
  refine ⟨_, rfl, _, _, rfl, rfl, ⟨by omega, by omega, by decide⟩, _, _, rfl, rfl, _, rfl, x, _, dx, _, rfl, upd_same, T.cl_Machine, T.n_Machine_most, Nat.lt_of_le_of_lt (put_len (put_len (put_len (Nat.zero_le _))) : _ ≤ 3) (by decide : 3 < 1000), ?_⟩
  simp only [Int.one_mul, upd_upd]
  obtain ⟨s1, s2⟩ : (upd H x (.ins A.c_Machine dx (putF "most" (.int (2 ^ c.toNat - 1)) (putF "own" (.bl own) (putF "count" (.int c) (putF "named" (.ref p) [])))))) x = some (.ins A.c_Machine dx (putF "most" (.int (2 ^ c.toNat - 1)) (putF "own" (.bl own) (putF "count" (.int c) (putF "named" (.ref p) []))))) ∧ Same H0 (upd H x (.ins A.c_Machine dx (putF "most" (.int (2 ^ c.toNat - 1)) (putF "own" (.bl own) (putF "count" (.int c) (putF "named" (.ref p) [])))))) := ⟨upd_same, same_put no e0⟩
  generalize upd H x (.ins A.c_Machine dx (putF "most" (.int (2 ^ c.toNat - 1)) (putF "own" (.bl own) (putF "count" (.int c) (putF "named" (.ref p) []))))) = G4 at s1 s2 ⊢
  clear hx e0
  have l4 : ∀ v w y z : V, (putF "most" v (putF "own" w (putF "count" y (putF "named" z [])))).length ≤ 4 := fun _ _ _ _ => put_len (put_len (put_len (put_len (Nat.zero_le _))))
  refine ⟨(by show 0 ≤ sizeLine; rw [sizeLine_eq]; decide), fun fo hfo => ?_⟩
  have nf : fo ≠ x := fun z => by rw [z, s1] at hfo; cases hfo
  refine ⟨_, rfl, x, _, dx, _, rfl, (same_new hfo) _ _ s1, T.cl_Machine, T.n_Machine_forms, Nat.lt_of_le_of_lt (l4 _ _ _ _) (by decide), ?_⟩
  obtain ⟨hx5, e5, fo5⟩ := put_obj (f := "forms") (v := .ref fo) (o := .lst []) no s2 s1 hfo
  generalize upd (upd G4 fo (.lst [])) x (.ins A.c_Machine dx (putF "forms" (.ref fo) _)) = G5 at hx5 e5 fo5 ⊢
  refine fun pl hpl => ?_
  refine ⟨_, rfl, x, _, dx, _, rfl, (same_new hpl) _ _ hx5, T.cl_Machine, T.n_Machine_places, Nat.lt_of_le_of_lt (put_len (l4 _ _ _ _) : _ ≤ 5) (by decide), ?_⟩
  obtain ⟨hx6, e6, pl6, k6⟩ := put_obj (f := "places") (v := .ref pl) (o := .dK []) no e5 hx5 hpl
  have npl : pl ≠ x := fun z => by rw [z, hx5] at hpl; cases hpl
  have fo6 := k6 _ _ nf fo5.1
  generalize upd (upd G5 pl (.dK [])) x (.ins A.c_Machine dx (putF "places" (.ref pl) _)) = G6 at hx6 e6 pl6 k6 fo6 ⊢
  refine ⟨(by show 1 ≤ sizeLine; rw [sizeLine_eq]; decide), fun t ht => ⟨(by show 1 ≤ sizeLine; rw [sizeLine_eq]; decide), fun nd hnd => ?_⟩⟩
  have ntx : t ≠ x := fun z => by rw [z, hx6] at ht; cases ht
  have hx7 := (same_new (o := .tup [.str "whole"]) ht) _ _ hx6
  have e7 := e6.trans (same_new (o := .tup [.str "whole"]) ht)
  have fo7 := (same_new (o := .tup [.str "whole"]) ht) _ _ fo6
  have pl7 := (same_new (o := .tup [.str "whole"]) ht) _ _ pl6
  have t7 : (upd G6 t (.tup [.str "whole"])) t = some (.tup [.str "whole"]) := upd_same
  generalize upd G6 t (.tup [.str "whole"]) = G7 at hnd hx7 e7 fo7 pl7 t7 ⊢
  have nnd : nd ≠ x := fun z => by rw [z, hx7] at hnd; cases hnd
  refine ⟨_, rfl, x, _, dx, _, rfl, (same_new hnd) _ _ hx7, T.cl_Machine, T.n_Machine_nodes, Nat.lt_of_le_of_lt (put_len (put_len (l4 _ _ _ _)) : _ ≤ 6) (by decide), ?_⟩
  obtain ⟨hx8, e8, nd8, k8⟩ := put_obj (f := "nodes") (v := .ref nd) (o := .lst [.ref t]) no e7 hx7 hnd
  have fo8 := k8 _ _ nf fo7
  have pl8 := k8 _ _ npl pl7
  have t8 := k8 _ _ ntx t7
  generalize upd (upd G7 nd (.lst [.ref t])) x (.ins A.c_Machine dx (putF "nodes" (.ref nd) _)) = G8 at hx8 e8 nd8 fo8 pl8 t8 ⊢
  clear k6 k8
  refine fun nu hnu => ⟨(by show 1 ≤ sizeLine; rw [sizeLine_eq]; decide), fun t2 ht2 => ?_⟩
  have nnu : nu ≠ x := fun z => by rw [z, hx8] at hnu; cases hnu
  have e89 : Same G8 (upd G8 nu (.dT [])) := same_new hnu
  have nu9 : (upd G8 nu (.dT [])) nu = some (.dT []) := upd_same
  generalize upd G8 nu (.dT []) = G9 at ht2 e89 nu9 ⊢
  have e9a : Same G9 (upd G9 t2 (.tup [.str "whole"])) := same_new ht2
  have t2a : (upd G9 t2 (.tup [.str "whole"])) t2 = some (.tup [.str "whole"]) := upd_same
  generalize upd G9 t2 (.tup [.str "whole"]) = Ga at e9a t2a ⊢
  have e8a := e89.trans e9a
  have nua := e9a _ _ nu9
  refine ⟨nua, t2, [.inr "whole"], rfl, t2a, ?_⟩
  have put : ∀ b u, b ≠ nu → Ga b = some u → (upd Ga nu (.dT [([.inr "whole"], .int 0)])) b = some u := fun b u n h => by rw [upd_ne n]; exact h
  have hxb := put x _ nnu.symm (e8a _ _ hx8)
  have nun : (upd Ga nu (.dT [([.inr "whole"], .int 0)])) nu = some (.dT [([.inr "whole"], .int 0)]) := upd_same
  have off : ∀ b u, G8 b = some u → b ≠ nu := fun b u h z => by rw [z, hnu] at h; cases h
  have fob := put fo _ (off _ _ fo8) (e8a _ _ fo8)
  have plb := put pl _ (off _ _ pl8) (e8a _ _ pl8)
  have ndb := put nd _ (off _ _ nd8) (e8a _ _ nd8)
  have tb := put t _ (off _ _ t8) (e8a _ _ t8)
  have eb : Same H0 (upd Ga nu (.dT [([.inr "whole"], .int 0)])) := fun b u h => put b u (off _ _ (e8 _ _ h)) (e8a _ _ (e8 _ _ h))
  generalize upd Ga nu (.dT [([.inr "whole"], .int 0)]) = Gb at hxb nun fob plb ndb tb eb ⊢
  refine ⟨_, rfl, x, _, dx, _, rfl, hxb, T.cl_Machine, T.n_Machine_numbers, Nat.lt_of_le_of_lt (put_len (put_len (put_len (l4 _ _ _ _))) : _ ≤ 7) (by decide), ?_⟩
  refine k dx fo pl nd nu _ upd_same ⟨?_, ?_, ⟨t, ?_, ?_⟩, ?_⟩ (same_put no eb)
  · rw [upd_ne nf]; exact fob
  · rw [upd_ne npl]; exact plb
  · rw [upd_ne nnd]; exact ndb
  · rw [upd_ne ntx]; exact tb
  · rw [upd_ne nnu]; exact nun
theorem sc_Counter___init__ : SupScope ["self", "named", "count", "own"] ["self", "named", "count", "own"] (defScope s_Counter___init__) := ⟨rfl, rfl, rfl, by decide +kernel, rfl, by decide +kernel, by decide +kernel, by decide +kernel, by decide +kernel, by decide +kernel⟩
theorem ok_Counter___init__ (T : Txt K mg A) : FnOk P w K mg base CX0 2 A.f_Counter___init__ A.d_Counter___init__ ["self", "named", "count", "own"] (sp_Counter___init__ K A) := by
  obtain ⟨oc, od, dV, kV, doc, pm, an, ct, osl, e, lk, hcd, _⟩ := T.F_Counter___init__.ex
  rw [e] at lk ⊢
  refine fn_sup (SP0 := supP) (N := ["self", "named", "count", "own"]) (ps := ["self", "named", "count", "own"]) lk hcd sc_Counter___init__ (fun vs H Q E h => sp4_len h) (T.sn_Counter___init__.k supF) rfl rfl (ok_Plan___init__ T) T.sf_Counter___init__ T.st_Counter___init__ T.b_Plan___init__ .nil (fun A outer s H E => pass0) ?_ (fun L => ⟨_, rfl⟩) (fun L => rfl)
  intro A0 outer s H vs Q E hr h
  have nd : (["self", "named", "count", "own"] : List Str).Nodup := sc_Counter___init__.nd
  refine ⟨_, _, pa_cons (pv 1) (pa_cons (pv 2) (pa_cons (pv 3) pa_nil)), (pss_cons (ps_fld (pv 0) pe_dnewT rfl) (pss_cons (ps_fld (pv 0) pe_dnewT rfl) (pss_cons (ps_fld (pv 0) pe_dnewT rfl) (pss_one (ps_fld (pv 0) pe_dnewK rfl))))), ?_⟩
  replace h := sp4_of h
  obtain ⟨v_self, v_named, v_count, v_own, rfl, h⟩ := h
  obtain ⟨H0, x, p, c, own, rfl, fr, rfl, rfl, rfl, c0, c5, k⟩ := h
  obtain ⟨dx0, hx0⟩ := fr.at'
  have no := fr.no
  refine ⟨x, A.c_Machine, dx0, [], rfl, hx0, T.su_Counter___init___Machine, fun q hq => ?_⟩
  refine ⟨_, rfl, _, rfl, _, rfl, upd_same, ?_⟩
  refine ⟨_, _, _, _, rfl, H0, x, p, c, own, rfl, fr.go (same_new hq), rfl, rfl, rfl, c0, c5, fun dx fo pl no_ nu G1 hx1 pn e1 => ?_⟩
  have len_fs0 : (planFs (.ref p) (.int c) (.bl own) (.int (2 ^ c.toNat - 1)) (.ref fo) (.ref pl) (.ref no_) (.ref nu)).length ≤ 8 := put_len (put_len (put_len (put_len (put_len (put_len (put_len (put_len (Nat.zero_le _))))))))
  refine fun ct_ hct_ => ?_
  refine ⟨_, rfl, x, _, dx, _, rfl, (same_new hct_) _ _ hx1, T.cl_Machine, T.n_Machine_counted, Nat.lt_of_le_of_lt (len_fs0 : _ ≤ 8) (by decide : 8 < 1000), ?_⟩
  have nct_ : ct_ ≠ x := fun z => by rw [z, hx1] at hct_; cases hct_
  obtain ⟨hxG2, eG2, oct_, kct_⟩ := put_obj (f := "counted") (v := .ref ct_) (o := .dT []) no e1 hx1 hct_
  try have pn := pn.keepX hx1 kct_
  try have cn := cn.keepX hx1 kct_
  clear kct_
  generalize upd (upd G1 ct_ (.dT [])) x (.ins A.c_Machine dx (putF "counted" (.ref ct_) _)) = G2 at *
  refine fun ro hro => ?_
  refine ⟨_, rfl, x, _, dx, _, rfl, (same_new hro) _ _ hxG2, T.cl_Machine, T.n_Machine_rows, Nat.lt_of_le_of_lt (put_len (len_fs0) : _ ≤ 9) (by decide : 9 < 1000), ?_⟩
  have nro : ro ≠ x := fun z => by rw [z, hxG2] at hro; cases hro
  obtain ⟨hxG3, eG3, oro, kro⟩ := put_obj (f := "rows") (v := .ref ro) (o := .dT []) no eG2 hxG2 hro
  have oct_ := kro _ _ nct_ oct_
  try have pn := pn.keepX hxG2 kro
  try have cn := cn.keepX hxG2 kro
  clear kro
  generalize upd (upd G2 ro (.dT [])) x (.ins A.c_Machine dx (putF "rows" (.ref ro) _)) = G3 at *
  refine fun re hre => ?_
  refine ⟨_, rfl, x, _, dx, _, rfl, (same_new hre) _ _ hxG3, T.cl_Machine, T.n_Machine_repeated, Nat.lt_of_le_of_lt (put_len (put_len (len_fs0)) : _ ≤ 10) (by decide : 10 < 1000), ?_⟩
  have nre : re ≠ x := fun z => by rw [z, hxG3] at hre; cases hre
  obtain ⟨hxG4, eG4, ore, kre⟩ := put_obj (f := "repeated") (v := .ref re) (o := .dT []) no eG3 hxG3 hre
  have oct_ := kre _ _ nct_ oct_
  have oro := kre _ _ nro oro
  try have pn := pn.keepX hxG3 kre
  try have cn := cn.keepX hxG3 kre
  clear kre
  generalize upd (upd G3 re (.dT [])) x (.ins A.c_Machine dx (putF "repeated" (.ref re) _)) = G4 at *
  refine fun la hla => ?_
  refine ⟨_, rfl, x, _, dx, _, rfl, (same_new hla) _ _ hxG4, T.cl_Machine, T.n_Machine_lacks, Nat.lt_of_le_of_lt (put_len (put_len (put_len (len_fs0))) : _ ≤ 11) (by decide : 11 < 1000), ?_⟩
  have nla : la ≠ x := fun z => by rw [z, hxG4] at hla; cases hla
  obtain ⟨hxG5, eG5, ola, kla⟩ := put_obj (f := "lacks") (v := .ref la) (o := .dK []) no eG4 hxG4 hla
  have oct_ := kla _ _ nct_ oct_
  have oro := kla _ _ nro oro
  have ore := kla _ _ nre ore
  try have pn := pn.keepX hxG4 kla
  try have cn := cn.keepX hxG4 kla
  clear kla
  generalize upd (upd G4 la (.dK [])) x (.ins A.c_Machine dx (putF "lacks" (.ref la) _)) = G5 at *
  exact k dx fo pl no_ nu ct_ ro re la G5 hxG5 pn ⟨oct_, oro, ore, ola⟩ eG5
theorem sc_Machine___init__ : SupScope ["self", "named", "count", "own"] ["self", "named", "count", "own"] (defScope s_Machine___init__) := ⟨rfl, rfl, rfl, by decide +kernel, rfl, by decide +kernel, by decide +kernel, by decide +kernel, by decide +kernel, by decide +kernel⟩
theorem ok_Machine___init__ (T : Txt K mg A) : FnOk P w K mg base CX0 3 A.f_Machine___init__ A.d_Machine___init__ ["self", "named", "count", "own"] (sp_Machine___init__ K A) := by
  obtain ⟨oc, od, dV, kV, doc, pm, an, ct, osl, e, lk, hcd, _⟩ := T.F_Machine___init__.ex
  rw [e] at lk ⊢
  refine fn_sup (SP0 := supP) (N := ["self", "named", "count", "own"]) (ps := ["self", "named", "count", "own"]) lk hcd sc_Machine___init__ (fun vs H Q E h => sp4_len h) (T.sn_Machine___init__.k supF) rfl rfl (ok_Counter___init__ T) T.sf_Machine___init__ T.st_Machine___init__ T.b_Counter___init__ .nil (fun A outer s H E => pass0) ?_ (fun L => ⟨_, rfl⟩) (fun L => rfl)
  intro A0 outer s H vs Q E hr h
  have nd : (["self", "named", "count", "own"] : List Str).Nodup := sc_Machine___init__.nd
  refine ⟨_, _, pa_cons (pv 1) (pa_cons (pv 2) (pa_cons (pv 3) pa_nil)), (pss_cons (ps_fld (pv 0) pe_dnewT rfl) (pss_cons (ps_fld (pv 0) pe_dnewT rfl) (pss_cons (ps_fld (pv 0) (pe_lst (pa_cons (pe_tup (pa_cons pe_int pa_nil)) pa_nil)) rfl) (pss_one (ps_fld (pv 0) (pe_disp1T (hu_of hr) (pe_tup (pa_cons pe_int pa_nil)) pe_int) rfl))))), ?_⟩
  replace h := sp4_of h
  obtain ⟨v_self, v_named, v_count, v_own, rfl, h⟩ := h
  obtain ⟨H0, x, p, c, own, rfl, fr, rfl, rfl, rfl, c0, c5, k⟩ := h
  obtain ⟨dx0, hx0⟩ := fr.at'
  have no := fr.no
  refine ⟨x, A.c_Machine, dx0, [], rfl, hx0, T.su_Machine___init___Machine, fun q hq => ?_⟩
  refine ⟨_, rfl, _, rfl, _, rfl, upd_same, ?_⟩
  refine ⟨_, _, _, _, rfl, H0, x, p, c, own, rfl, fr.go (same_new hq), rfl, rfl, rfl, c0, c5, fun dx fo pl no_ nu ct_ ro re la G1 hx1 pn cn e1 => ?_⟩
  have len_fs0 : (countFs (.ref p) (.int c) (.bl own) (.int (2 ^ c.toNat - 1)) (.ref fo) (.ref pl) (.ref no_) (.ref nu) (.ref ct_) (.ref ro) (.ref re) (.ref la)).length ≤ 12 := put_len (put_len (put_len (put_len (put_len (put_len (put_len (put_len (put_len (put_len (put_len (put_len (Nat.zero_le _))))))))))))
  refine fun go hgo => ?_
  refine ⟨_, rfl, x, _, dx, _, rfl, (same_new hgo) _ _ hx1, T.cl_Machine, T.n_Machine_gone, Nat.lt_of_le_of_lt (len_fs0 : _ ≤ 12) (by decide : 12 < 1000), ?_⟩
  have ngo : go ≠ x := fun z => by rw [z, hx1] at hgo; cases hgo
  obtain ⟨hxG2, eG2, ogo, kgo⟩ := put_obj (f := "gone") (v := .ref go) (o := .dT []) no e1 hx1 hgo
  try have pn := pn.keepX hx1 kgo
  try have cn := cn.keepX hx1 kgo
  clear kgo
  generalize upd (upd G1 go (.dT [])) x (.ins A.c_Machine dx (putF "gone" (.ref go) _)) = G2 at *
  refine fun mv hmv => ?_
  refine ⟨_, rfl, x, _, dx, _, rfl, (same_new hmv) _ _ hxG2, T.cl_Machine, T.n_Machine_moved, Nat.lt_of_le_of_lt (put_len (len_fs0) : _ ≤ 13) (by decide : 13 < 1000), ?_⟩
  have nmv : mv ≠ x := fun z => by rw [z, hxG2] at hmv; cases hmv
  obtain ⟨hxG3, eG3, omv, kmv⟩ := put_obj (f := "moved") (v := .ref mv) (o := .dT []) no eG2 hxG2 hmv
  have ogo := kmv _ _ ngo ogo
  try have pn := pn.keepX hxG2 kmv
  try have cn := cn.keepX hxG2 kmv
  clear kmv
  generalize upd (upd G2 mv (.dT [])) x (.ins A.c_Machine dx (putF "moved" (.ref mv) _)) = G3 at *
  refine ⟨(by show 1 ≤ sizeLine; rw [sizeLine_eq]; decide), fun t ht => ⟨(by show 1 ≤ sizeLine; rw [sizeLine_eq]; decide), fun tu htu => ?_⟩⟩
  have ntx : t ≠ x := fun z => by rw [z, hxG3] at ht; cases ht
  have st : Same G3 (upd G3 t (.tup [.int 0])) := same_new ht
  have t7 : (upd G3 t (.tup [.int 0])) t = some (.tup [.int 0]) := upd_same
  generalize upd G3 t (.tup [.int 0]) = G7 at htu st t7 ⊢
  have hx7 := st _ _ hxG3
  have e7 := eG3.trans st
  have go7 := st _ _ ogo
  have mv7 := st _ _ omv
  have pn7 := pn.same st
  have cn7 := cn.same st
  have ntu : tu ≠ x := fun z => by rw [z, hx7] at htu; cases htu
  refine ⟨_, rfl, x, _, dx, _, rfl, (same_new htu) _ _ hx7, T.cl_Machine, T.n_Machine_tuples, Nat.lt_of_le_of_lt (put_len (put_len len_fs0) : _ ≤ 14) (by decide : 14 < 1000), ?_⟩
  obtain ⟨hx8, e8, tu8, k8⟩ := put_obj (f := "tuples") (v := .ref tu) (o := .lst [.ref t]) no e7 hx7 htu
  have go8 := k8 _ _ ngo go7
  have mv8 := k8 _ _ nmv mv7
  have t8 := k8 _ _ ntx t7
  have pn8 := pn7.keepX hx7 k8
  have cn8 := cn7.keepX hx7 k8
  generalize upd (upd G7 tu (.lst [.ref t])) x (.ins A.c_Machine dx (putF "tuples" (.ref tu) _)) = G8 at hx8 e8 tu8 go8 mv8 t8 pn8 cn8 ⊢
  clear k8
  refine fun nn hnn => ⟨(by show 1 ≤ sizeLine; rw [sizeLine_eq]; decide), fun t2 ht2 => ?_⟩
  have nnn : nn ≠ x := fun z => by rw [z, hx8] at hnn; cases hnn
  have e89 : Same G8 (upd G8 nn (.dT [])) := same_new hnn
  have nu9 : (upd G8 nn (.dT [])) nn = some (.dT []) := upd_same
  generalize upd G8 nn (.dT []) = G9 at ht2 e89 nu9 ⊢
  have e9a : Same G9 (upd G9 t2 (.tup [.int 0])) := same_new ht2
  have t2a : (upd G9 t2 (.tup [.int 0])) t2 = some (.tup [.int 0]) := upd_same
  generalize upd G9 t2 (.tup [.int 0]) = Ga at e9a t2a ⊢
  have e8a := e89.trans e9a
  have nua := e9a _ _ nu9
  refine ⟨nua, t2, [.inl 0], rfl, t2a, ?_⟩
  have off : ∀ b u, G8 b = some u → b ≠ nn := fun b u h z => by rw [z, hnn] at h; cases h
  have e8b : Same G8 (upd Ga nn (.dT [([.inl 0], .int 0)])) := fun b u h => by rw [upd_ne (off b u h)]; exact e8a b u h
  have nnb : (upd Ga nn (.dT [([.inl 0], .int 0)])) nn = some (.dT [([.inl 0], .int 0)]) := upd_same
  generalize upd Ga nn (.dT [([.inl 0], .int 0)]) = Gb at e8b nnb ⊢
  have hxb := e8b _ _ hx8
  refine ⟨_, rfl, x, _, dx, _, rfl, hxb, T.cl_Machine, T.n_Machine_states, Nat.lt_of_le_of_lt (put_len (put_len (put_len len_fs0)) : _ ≤ 15) (by decide : 15 < 1000), ?_⟩
  have kx : ∀ b u, b ≠ x → Gb b = some u → (upd Gb x (.ins A.c_Machine dx (putF "states" (.ref nn) (putF "tuples" (.ref tu) (putF "moved" (.ref mv) (putF "gone" (.ref go) (countFs (.ref p) (.int c) (.bl own) (.int (2 ^ c.toNat - 1)) (.ref fo) (.ref pl) (.ref no_) (.ref nu) (.ref ct_) (.ref ro) (.ref re) (.ref la)))))))) b = some u := fun b u n h => by rw [upd_ne n]; exact h
  exact k dx fo pl no_ nu ct_ ro re la go mv tu nn _ upd_same ((pn8.same e8b).keepX hxb kx) ((cn8.same e8b).keepX hxb kx) ⟨kx _ _ ngo (e8b _ _ go8), kx _ _ nmv (e8b _ _ mv8), ⟨t, kx _ _ ntu (e8b _ _ tu8), kx _ _ ntx (e8b _ _ t8)⟩, kx _ _ nnn nnb⟩ (same_put no (e8.trans e8b))
theorem ok_are_kinds (T : Txt K mg A) : FnOk P w K mg base CX0 2 A.f_are_kinds A.d_are_kinds ["kinds"] (sp_are_kinds K A) := by
  refine T.F_are_kinds.ok sc_are_kinds (fun vs H Q E h => sp1_len h) (fun cdv A0 outer s H vs Q E hr h => ?_)
  have nd := sc_are_kinds.nd
  refine ⟨_, (pss_cons (ps_if (PW.pt (pw_or (pt_not (pt_val (pe_callB call_isi (by rfl) T.b_isinstance (by decide +kernel) (pa_cons (pv 0) (pa_cons (pe_bltn (v := .ty "dict") (by rfl) T.b_dict (by decide +kernel) rfl) pa_nil))))) (pw_or (pt_cmpR op_lt (pe_callB call_lenD (by rfl) T.b_len (by decide +kernel) (pa_cons (pv 0) pa_nil)) pe_int (nomark _)) (pw_or1 (pt_cmpR op_gt (pe_callB call_lenD (by rfl) T.b_len (by decide +kernel) (pa_cons (pv 0) pa_nil)) pe_int (nomark _)))))) (pss_one (ps_ret pe_bl)) pss_nil)
      (pss_cons (ps_lock (ps_for PassesOwn.never rfl (pi_keys (pv 0)) (pg_name (i := 1) nd rfl (by first | exact Or.inl rfl | exact Or.inr rfl)) (pss_cons (ps_if (pt_not (pt_val (pe_call (ok_is_name T) (hr.mono (by decide)) (by rfl) T.mg_is_name T.k_is_name T.b_is_name .nil pass0 (pa_cons (pv 1) pa_nil)))) (pss_one (ps_ret pe_bl)) pss_nil)
      (pss_one (ps_if (pt_not (pt_val (pe_callB call_isiT (by rfl) T.b_isinstance (by decide +kernel) (pa_cons (pe_dget (hu_of hr) (pv 0) (pv 1) (fun _ _ => rfl)) (pa_cons (pe_tup (pa_cons (pe_glob (v := .ref A.c_Number) (by rfl) T.mg_Number rfl) (pa_cons (pe_glob (v := .ref A.c_Bits) (by rfl) T.mg_Bits rfl) (pa_cons (pe_glob (v := .ref A.c_Items) (by rfl) T.mg_Items rfl) (pa_cons (pe_glob (v := .ref A.c_Call) (by rfl) T.mg_Call rfl) (pa_cons (pe_glob (v := .ref A.c_Choice) (by rfl) T.mg_Choice rfl) (pa_cons (pe_glob (v := .ref A.c_Row) (by rfl) T.mg_Row rfl) pa_nil))))))) pa_nil))))) (pss_one (ps_ret pe_bl)) pss_nil)))))
      (pss_one (ps_ret pe_bl)))), ?_⟩
  clear nd hr
  replace h := sp1_of h
  obtain ⟨v_kinds, rfl, h⟩ := h

  obtain ⟨p, tb, kvs, rfl, ht, hp, top, nd, nms, l1, l20, k⟩ := h
  have ltb := ht.len
  refine ⟨_, rfl, _, _, _, _, _, rfl, .ty _, (VT.dK hp).tyx, kit_isa (VT.dK hp).tag (by decide), true, congrArg V.bl isa_self, iteF ?_⟩
  refine ⟨_, rfl, p, kvs, rfl, hp, _, _, rfl, rfl, _, rfl, iteB (fun g => absurd (of_decide_eq_true g) (by omega)) (fun _ => ?_)⟩
  refine ⟨_, rfl, p, kvs, rfl, hp, _, _, rfl, rfl, _, rfl, iteB (fun g => absurd (of_decide_eq_true g) (by omega)) (fun _ => ?_)⟩
  refine ⟨p, .dK kvs, hp, trivial, fun od => ?_⟩
  refine ⟨_, rfl, p, od, rfl, .inl ⟨kvs, upd_same, ?_⟩⟩
  refine for_it (walk_keys (kvs := kvs)) (fun i σ' H' => ∃ a1, σ' = [some (.ref p), a1] ∧ Frz H H' p od (.dK kvs)) ⟨_, rfl, Frz.start⟩ (fun i σ' H' _ ⟨_, _, f⟩ => f.at_) ?_ ?_
  · rintro i x σ' H4 H4' hi ⟨a1, rfl, f4⟩ ⟨rfl, key, v, hkv, rfl⟩
    obtain ⟨y, hy, rfl, hkat⟩ := ents_at ht.en hkv
    have hyn := names_at hy
    obtain ⟨nm1, nm2⟩ := nms _ hyn
    obtain ⟨k1, v1, hl1, hk1, hg1⟩ := (f4.tb hp ht).get hyn
    refine ⟨_, rfl, _, rfl, _, .str y.1, (by show (strOf (.str y.1)).length ≤ 1000000; exact Nat.le_trans nm2 (by decide)), true, congrArg V.bl nm1, iteF ?_⟩
    refine ⟨_, rfl, _, rfl, p, v1, rfl, hg1, (by show 6 ≤ sizeLine; rw [sizeLine_eq]; decide), fun tp htp => ⟨_, tp, _, _, _, _, rfl, upd_same, .cons (.own _) (.cons (.own _) (.cons (.own _) (.cons (.own _) (.cons (.own _) (.cons (.own _) .nil))))), ((hk1.keep (KI.new htp)).vt T).tyx, any_kc T (t := .k k1) hk1 [.num, .bits, .items, .call, .choice, .row], true, congrArg V.bl (top_any (top.look hl1)), iteF ⟨_, rfl, f4.new htp⟩⟩⟩
  · rintro σ' H4 ⟨a1, rfl, f4⟩
    exact ⟨f4.at_, k _ (f4.back hp)⟩
theorem ok_check_parts (T : Txt K mg A) : FnOk P w K mg base CX0 3 A.f_check_parts A.d_check_parts ["kinds", "root", "count"] (sp_check_parts K A) := by
  refine T.F_check_parts.ok sc_check_parts (fun vs H Q E h => sp3_len h) (fun cdv A0 outer s H vs Q E hr h => ?_)
  have nd := sc_check_parts.nd
  refine ⟨_, (pss_cons (ps_if (pt_not (pt_val (pe_call (ok_are_kinds T) (hr.mono (by decide)) (by rfl) T.mg_are_kinds T.k_are_kinds T.b_are_kinds .nil pass0 (pa_cons (pv 0) pa_nil)))) pss_never pss_nil)
      (pss_cons (ps_if (PW.pt (pw_or (pt_not (pt_val (pe_call (ok_is_name T) (hr.mono (by decide)) (by rfl) T.mg_is_name T.k_is_name T.b_is_name .nil pass0 (pa_cons (pv 1) pa_nil)))) (pw_or1 (pt_cmp (pc_dnotin (hu_of hr) (pv 1) (pv 0)))))) pss_never pss_nil)
      (pss_one (ps_if (PW.pt (pw_or (pt_not (pt_val (pe_call (ok_is_integer T) (hr.mono (by decide)) (by rfl) T.mg_is_integer T.k_is_integer T.b_is_integer .nil pass0 (pa_cons (pv 2) pa_nil)))) (pw_or (pt_cmpR op_lt (pv 2) pe_int (nomark _)) (pw_or1 (pt_cmpR op_gt (pv 2) pe_int (nomark _)))))) pss_never pss_nil)))), ?_⟩
  clear nd hr
  replace h := sp3_of h
  obtain ⟨v_kinds, v_root, v_count, rfl, h⟩ := h

  obtain ⟨p, tb, kvs, r, c, rfl, rfl, rfl, ht, hp, top, nd, nms, l1, l20, hr, hrn, c1, c5, k⟩ := h
  refine ⟨_, rfl, _, rfl, p, tb, kvs, rfl, ht, hp, top, nd, nms, l1, l20, fun H1 e1 => ⟨_, rfl, iteF ?_⟩⟩
  obtain ⟨rn1, rn2⟩ := hrn
  obtain ⟨o, hg, ho⟩ := (ht.same e1).has r
  refine ⟨_, rfl, _, rfl, _, .str r, (by show (strOf (.str r)).length ≤ 1000000; exact Nat.le_trans rn2 (by decide)), true, congrArg V.bl rn1, iteF ?_⟩
  refine ⟨_, rfl, _, rfl, p, o, rfl, hg, false, congrArg V.bl (by rw [ho, decide_eq_true hr]; rfl), iteF ?_⟩
  refine ⟨_, rfl, _, rfl, _, .int c, _, rfl, iteF ?_⟩
  refine ⟨_, rfl, _, _, rfl, rfl, _, rfl, iteB (fun g => absurd (of_decide_eq_true g) (by omega)) (fun _ => ?_)⟩
  exact ⟨_, rfl, _, _, rfl, rfl, _, rfl, iteB (fun g => absurd (of_decide_eq_true g) (by omega)) (fun _ => k H1 e1)⟩
theorem ok_is_taken (T : Txt K mg A) : FnOk P w K mg base CX0 1 A.f_is_taken A.d_is_taken ["machine", "name", "index"] (sp_is_taken K A) := ⟨fun vs H Q E h => h.elim, fun A outer s H args us vs Q E _ _ _ _ h => h.elim⟩
theorem ok_last_taken (T : Txt K mg A) : FnOk P w K mg base CX0 2 A.f_last_taken A.d_last_taken ["machine", "name"] (sp_last_taken K A) := by
  refine T.F_last_taken.ok sc_last_taken (fun vs H Q E h => sp2_len h) (fun cdv A0 outer s H vs Q E hr h => ?_)
  have nd := sc_last_taken.nd
  refine ⟨_, (pss_cons (ps_set (i := 2) nd rfl (by first | exact Or.inl rfl | exact Or.inr rfl) (pe_dget (hu_of hr) (pe_fld (pv 0) rfl) (pv 1) (fun _ _ => rfl)))
      (pss_cons (ps_if (pt_not (pt_val (pe_callB call_isi (by rfl) T.b_isinstance (by decide +kernel) (pa_cons (pv 2) (pa_cons (pe_glob (v := .ref A.c_Row) (by rfl) T.mg_Row rfl) pa_nil))))) (pss_one (ps_ret pe_non)) pss_nil)
      (pss_cons (ps_for PassesOwn.never rfl (pi_range3 (by rfl) T.b_range (pa_cons (pe_op op_sub (pe_callB call_len (by rfl) T.b_len (by decide +kernel) (pa_cons (pe_fld (pv 2) rfl) pa_nil)) pe_int) (pa_cons (pe_un un_neg pe_int) (pa_cons (pe_un un_neg pe_int) pa_nil)))) (pg_name (i := 3) nd rfl (by first | exact Or.inl rfl | exact Or.inr rfl)) (pss_one (ps_if (PW.pt (pw_and (pt_val (pe_callB call_isi (by rfl) T.b_isinstance (by decide +kernel) (pa_cons (pe_ix ix_tup (pe_fld (pv 2) rfl) (pv 3) (fun _ _ => rfl)) (pa_cons (pe_glob (v := .ref A.c_Room) (by rfl) T.mg_Room rfl) pa_nil)))) (pw_and1 (pt_val (pe_call (ok_is_taken T) (hr.mono (by decide)) (by rfl) T.mg_is_taken T.k_is_taken T.b_is_taken .nil pass0 (pa_cons (pv 0) (pa_cons (pv 1) (pa_cons (pv 3) pa_nil)))))))) (pss_one (ps_ret (pe_fld (pe_ix ix_tup (pe_fld (pv 2) rfl) (pv 3) (fun _ _ => rfl)) rfl))) pss_nil)))
      (pss_one (ps_ret pe_non))))), ?_⟩
  clear nd hr
  replace h := sp2_of h
  obtain ⟨v_machine, v_name, rfl, h⟩ := h

  obtain ⟨m, p, dm, fs, tb, kvs, n, rfl, rfl, hm, hnm, ht, top, hn, nor, k⟩ := h
  obtain ⟨k1, v1, hl1, hk1, hg1⟩ := ht.get hn
  refine ⟨_, rfl, m, _, dm, fs, _, rfl, hm, T.cl_Machine, T.n_Machine_named, hnm, _, rfl, p, v1, rfl, hg1, ?_⟩
  refine ⟨_, rfl, _, _, _, _, _, rfl, .own _, (KAt.vt T hk1).tyx, kit_isaO (KAt.vt T hk1).tag (T.kco .row), _, rfl, iteB (fun g => k H (fun _ _ z => z)) (fun g => ?_)⟩
  have g2 : isa (Td.tag A (.k k1)) (.ref A.c_Row) = true := by simpa using g
  have ec : decide (Kd.cls k1 = some .row) = true := isa_cls (t := .k k1) (c := .row) T g2
  cases hk1 with
  | row ob et kz o =>
    obtain ⟨dz, gs, hx, lx⟩ := ob
    rename_i yz tt vs ks
    have nk := nor _ (look_mem hl1) ks rfl
    have l8 : vs.length ≤ 8 := by rw [pair_lenE (kats_pair kz)]; exact of_decide_eq_true (top.look hl1)
    refine ⟨_, rfl, _, _, _, _, _, rfl, hx, T.cl_Row, T.n_Row_parts, (lx _ (List.mem_cons_self ..)), _, _, rfl, .inr ⟨_, SqT.of et, rfl⟩, _, _, rfl, rfl, _, rfl, _, rfl, _, _, _, _, rfl, RgC.neg (by omega) (by omega) (by decide) (by decide), ?_⟩
    refine for_it walk_rangeC (fun i σ' H' => ∃ a3, σ' = [some (.ref m), some (.str n), some (.ref yz), a3] ∧ H' = H) ⟨_, rfl, rfl⟩ (fun i σ' H' _ _ => trivial) ?_ ?_
    · rintro i x σ' H4 H4' hi ⟨a3, rfl, rfl⟩ ⟨rfl, rfl⟩
      have hxv : vs[vs.length - 1 - i]? = some vs[vs.length - 1 - i] := List.getElem?_eq_getElem (by omega)
      obtain ⟨z, hz, hkz⟩ := pair_atE (kats_pair kz) hxv
      have eix : (vs.length - 1 + i * -1 : Int) = ((vs.length - 1 - i : Nat) : Int) := by omega
      have hat : atI vs (vs.length - 1 + i * -1 : Int) = some vs[vs.length - 1 - i] := by rw [eix]; exact atI_nat hxv
      have nr : isa (Td.tag A (.k z)) (.ref A.c_Room) = false := (isa_kc T (.k z) .room).trans (not_room (nk z (List.mem_of_getElem? hz)))
      exact ⟨_, rfl, _, _, _, _, _, rfl, hx, T.cl_Row, T.n_Row_parts, (lx _ (List.mem_cons_self ..)), _, rfl, tt, vs, _, _, rfl, rfl, SqT.of et, hat, _, _, _, _, _, rfl, .own _, (KAt.vt T hkz).tyx, kit_isaO (KAt.vt T hkz).tag (T.kco .room), false, congrArg V.bl nr, iteF (iteF ⟨_, rfl, rfl⟩)⟩
    · rintro σ' H4 ⟨a3, rfl, rfl⟩
      exact k _ (fun _ _ z => z)
  | _ => cases of_decide_eq_true ec
theorem ok_check_rooms (T : Txt K mg A) : FnOk P w K mg base CX0 4 A.f_check_rooms A.d_check_rooms ["machine"] (sp_check_rooms K A) := by
  refine T.F_check_rooms.ok sc_check_rooms (fun vs H Q E h => sp1_len h) (fun cdv A0 outer s H vs Q E hr h => ?_)
  have nd := sc_check_rooms.nd
  refine ⟨_, (pss_cons (ps_set (i := 1) nd rfl (by first | exact Or.inl rfl | exact Or.inr rfl) pe_dnewK)
      (pss_cons (ps_set (i := 2) nd rfl (by first | exact Or.inl rfl | exact Or.inr rfl) (pe_lst pa_nil))
      (pss_cons (ps_for PassesOwn.never rfl (pi_list (pe_call (ok_call_order T) (hr.mono (by decide)) (by rfl) T.mg_call_order T.k_call_order T.b_call_order .nil pass0 (pa_cons (pe_fld (pv 0) rfl) pa_nil))) (pg_name (i := 3) nd rfl (by first | exact Or.inl rfl | exact Or.inr rfl)) (pss_cons (ps_if (pt_val (pe_callB (cr_any rfl) (by rfl) T.b_any (by decide +kernel) (pa_cons (pe_lc (own := [("one", 4)]) (g := gName 4) (tt := tYes) (by rfl) nd (pi_list (pe_call (ok_called T) (hr.mono (by decide)) (by rfl) T.mg_called T.k_called T.b_called .nil pass0 (pa_cons (pe_dget (hu_of hr) (pe_fld (pv 0) rfl) (pv 3) (fun _ _ => rfl)) pa_nil))) (blkOk_by (own := [("one", 4)]) (N := ["machine", "wrong", "left_out", "name", "one", "inner"]) (sc := defScope s_check_rooms) (by decide +kernel)) (fun _ _ _ _ _ => pg_name (i := 4) nd rfl (by first | exact Or.inl rfl | exact Or.inr rfl)) (fun _ _ _ _ _ => pts_nil) (fun _ _ _ _ _ => (pe_cmpR (op_in_seqK (K := K) rfl) (pv 4) (pv 2) (by rfl)))) pa_nil))) (pss_cons (ps_expr (pe_bm PySem.F.plainAttrs_list PySem.F.slot_list_append PySem.F.type_list_append mt_append (pv 2) (pa_cons (pv 3) pa_nil)))
      (pss_one ps_continue)) pss_nil)
      (pss_cons (ps_set (i := 5) nd rfl (by first | exact Or.inl rfl | exact Or.inr rfl) (pe_call (ok_last_taken T) (hr.mono (by decide)) (by rfl) T.mg_last_taken T.k_last_taken T.b_last_taken .nil pass0 (pa_cons (pv 0) (pa_cons (pv 3) pa_nil))))
      (pss_one (ps_if (pt_cmpR op_notN (pv 5) pe_non (nomark _)) (pss_cons (ps_asg (pv 5) (pg_sub (pv 1) (pv 3) (set_dict (hu_of hr))))
      (pss_one (ps_expr (pe_bm PySem.F.plainAttrs_list PySem.F.slot_list_append PySem.F.type_list_append mt_append (pv 2) (pa_cons (pv 3) pa_nil))))) pss_nil)))))
      (pss_one (ps_if (pt_cmpR op_gt (pe_callB call_lenD (by rfl) T.b_len (by decide +kernel) (pa_cons (pv 1) pa_nil)) pe_int (nomark _)) pss_never pss_nil))))), ?_⟩
  clear nd hr
  replace h := sp1_of h
  obtain ⟨v_machine, rfl, h⟩ := h

  obtain ⟨m, p, dm, fs, tb, kvs, rk, rfl, hm, hnm, ht, hp, top, l20, rd, nor, k⟩ := h
  refine fun w hw => ?_
  have e1 : Same H (upd H w (.dK [])) := same_new hw
  have hw1 : (upd H w (.dK [])) w = some (.dK []) := upd_same
  generalize upd H w (.dK []) = H1 at e1 hw1 ⊢
  refine ⟨(by show 0 ≤ sizeLine; rw [sizeLine_eq]; decide), fun lo hlo => ?_⟩
  have e2 : Same H (upd H1 lo (.lst [])) := e1.trans (same_new hlo)
  have hw2 : (upd H1 lo (.lst [])) w = some (.dK []) := (same_new hlo) _ _ hw1
  have hl2 : (upd H1 lo (.lst [])) lo = some (.lst []) := upd_same
  generalize upd H1 lo (.lst []) = H2 at e2 hw2 hl2 ⊢
  refine ⟨_, rfl, m, _, dm, fs, _, rfl, (e2 _ _ hm), T.cl_Machine, T.n_Machine_named, hnm, _, rfl, p, tb, kvs, rk, rfl, ht.same e2, e2 _ _ hp, top, l20, rd, fun q ds H3 hq hq0 e3 perm topo => ?_⟩
  refine ⟨q, rfl, ⟨_, SqL.of hq⟩, ?_⟩
  have e03 := e2.trans e3
  refine for_it (walk_list (xs := ds.map V.str)) (fun i σ' H' => ∃ a3 a5, σ' = [some (.ref m), some (.ref w), some (.ref lo), a3, none, a5] ∧ H' w = some (.dK []) ∧ H' lo = some (.lst []) ∧ H' q = some (.lst (ds.map V.str)) ∧ Same H H') ⟨_, _, rfl, e3 _ _ hw2, e3 _ _ hl2, hq, e03⟩ (fun i σ' H' _ ⟨_, _, _, _, _, h, _⟩ => SqL.of h) ?_ ?_
  · rintro i xv σ' H4 H4' hi ⟨a3, a5, rfl, hw4, hl4, hq4, e4⟩ ⟨rfl, hxv⟩
    rw [List.getElem?_map] at hxv
    obtain ⟨n, hn, rfl⟩ := Option.map_eq_some_iff.mp hxv
    have hnn : n ∈ tb.names := perm.mem_iff.mp (List.mem_of_getElem? hn)
    obtain ⟨k2, v2, hlk, hk2, hg2⟩ := (ht.same e4).get hnn
    have etop := top.look hlk
    have c12 := calls_len etop
    refine ⟨_, rfl, m, _, dm, fs, _, rfl, (e4 _ _ hm), T.cl_Machine, T.n_Machine_named, hnm, _, rfl, p, v2, rfl, hg2, _, rfl, k2, hk2, etop, fun u H5 hu hu0 e5 => ?_⟩
    have hl5 := e5 _ _ hl4
    refine lc_lstG (tt := tYes) (fun _ v (b : Bool) => v = V.bl b) (fun _ _ _ _ _ q => q) (fun _ _ _ _ _ _ _ q => q) (fun _ => true) (fun _ => false) (fun v (n : Str) => v = V.str n) hu (strs_pair _) ?_ ?_ ?_ ?_ ?_
    · rw [List.length_map]; omega
    · exact fun x => rfl
    · exact fun x n H6 Q _ _ _ q => q
    · rintro x n H6 Q rfl _ _ e6 q
      exact ⟨_, rfl, _, rfl, lo, [], rfl, .inl (SqL.of (e6 _ _ hl5)), rfl, rfl, q _ _ (fun _ _ z => z) rfl⟩
    · intro D bs H6 hD hD0 e6 pw
      have ebs := pair_bls pw
      subst ebs
      have e46 := e5.trans e6
      refine ⟨D, _, rfl, SqL.of hD, _, rfl, ?_⟩
      rw [any_no]
      refine iteF ?_
      have e06 := e4.trans e46
      refine ⟨_, rfl, _, rfl, _, _, rfl, m, p, dm, fs, tb, kvs, n, rfl, rfl, e06 _ _ hm, hnm, ht.same e06, top, hnn, nor, fun H7 e7 => ?_⟩
      have e47 := e46.trans e7
      exact ⟨_, rfl, rfl, _, rfl, iteF ⟨_, _, rfl, e47 _ _ hw4, e47 _ _ hl4, e47 _ _ hq4, e4.trans e47⟩⟩
  · rintro σ' H4 ⟨a3, a5, rfl, hw4, hl4, hq4, e4⟩
    exact ⟨_, rfl, w, [], rfl, hw4, _, _, rfl, rfl, _, rfl, iteF (k H4 e4)⟩
theorem kb0_Machine___init__ {K : PySem.W.Frag} {mg : Str → Option Value} {A : Ad} (T : Txt K mg A) : ∃ g, KBn K A.d_Machine___init__ ["self", "named", "count", "own"] 3 ["own"] g (fun vs zs => pick [0, 1, 2, 3] (vs ++ zs ++ [.bl false])) :=
  SupD.kbn [0, 1, 2, 3] T.F_Machine___init__ (by simp) fun _ _ _ _ _ _ us its ws h1 h2 h3 => match us, its, ws, h1, h2, h3 with | [_, _, _], [_], [_], _, _, _ => ⟨_, rfl, rfl⟩
theorem ok_Edition___init__ (T : Txt K mg A) : FnOk P w K mg base CX0 9 A.f_Edition___init__ A.d_Edition___init__ ["self", "kinds", "root", "count"] (sp_Edition___init__ K A) := by
  refine T.F_Edition___init__.ok sc_Edition___init__ (fun vs H Q E h => sp4_len h) (fun cdv A0 outer s H vs Q E hr h => ?_)
  have nd := sc_Edition___init__.nd
  refine ⟨_, (pss_cons (ps_expr (pe_call (ok_check_parts T) (hr.mono (by decide)) (by rfl) T.mg_check_parts T.k_check_parts T.b_check_parts .nil pass0 (pa_cons (pv 1) (pa_cons (pv 2) (pa_cons (pv 3) pa_nil)))))
      (pss_cons (ps_lock (ps_setDc (i := 4) (own := [("name", 5)]) (by rfl) nd rfl rfl (sw_trueD rfl rfl rfl (by decide +kernel)) (pi_keys (pv 1)) (blkOk_by (own := [("name", 5)]) (N := ["self", "kinds", "root", "count", "table", "name", "missing", "ring", "too_long", "machine"]) (sc := defScope s_Edition___init__) (by decide +kernel)) (fun _ _ _ _ _ => pg_name (i := 5) nd rfl (by first | exact Or.inl rfl | exact Or.inr rfl)) (fun _ _ _ _ _ => pts_nil) (fun _ _ _ _ _ => (pv 5)) (fun _ _ _ _ _ => (pe_dget (hu_of hr) (pv 1) (pv 5) (fun _ _ => rfl)))))
      (pss_cons (ps_set (i := 6) nd rfl (by first | exact Or.inl rfl | exact Or.inr rfl) (pe_call (ok_missing_name T) (hr.mono (by decide)) (by rfl) T.mg_missing_name T.k_missing_name T.b_missing_name .nil pass0 (pa_cons (pv 4) pa_nil)))
      (pss_cons (ps_if (pt_cmpR op_notN (pv 6) pe_non (nomark _)) pss_never pss_nil)
      (pss_cons (ps_set (i := 7) nd rfl (by first | exact Or.inl rfl | exact Or.inr rfl) (pe_call (ok_ring_name T) (hr.mono (by decide)) (by rfl) T.mg_ring_name T.k_ring_name T.b_ring_name .nil pass0 (pa_cons (pv 4) pa_nil)))
      (pss_cons (ps_if (pt_cmpR op_notN (pv 7) pe_non (nomark _)) pss_never pss_nil)
      (pss_cons (ps_set (i := 8) nd rfl (by first | exact Or.inl rfl | exact Or.inr rfl) (pe_call (ok_long_body T) (hr.mono (by decide)) (by rfl) T.mg_long_body T.k_long_body T.b_long_body .nil pass0 (pa_cons (pv 4) (pa_cons (pv 3) pa_nil))))
      (pss_cons (ps_if (pt_cmpR op_notN (pv 8) pe_non (nomark _)) pss_never pss_nil)
      (pss_cons (ps_set (i := 9) nd rfl (by first | exact Or.inl rfl | exact Or.inr rfl) (pe_make T.mk_Machine (ok_Machine___init__ T) (hr.mono (by decide)) (by rfl) T.mg_Machine T.b1_Machine___init__ (show Vals [V.bl false] [Value.bool false] from (.cons rfl .nil)) pass0 (pa_cons (pv 4) (pa_cons (pv 3) pa_nil))))
      (pss_cons (ps_expr (pe_call (ok_check_rooms T) (hr.mono (by decide)) (by rfl) T.mg_check_rooms T.k_check_rooms T.b_check_rooms .nil pass0 (pa_cons (pv 9) pa_nil)))
      (pss_cons (ps_fld (pv 0) (pv 4) rfl)
      (pss_cons (ps_fld (pv 0) (pv 2) rfl)
      (pss_cons (ps_fld (pv 0) (pv 3) rfl)
      (pss_cons (ps_fld (pv 0) (pv 9) rfl)
      (pss_one (ps_fld (pv 0) (pe_makeK T.mk_Machine (ok_Machine___init__ T) (hr.mono (by decide)) (by rfl) T.mg_Machine (Classical.choose_spec (kb0_Machine___init__ T)) pass0 (pa_cons (pv 4) (pa_cons (pv 3) pa_nil)) (pk_cons pe_bl pk_nil)) rfl)))))))))))))))), ?_⟩
  clear nd hr
  replace h := sp4_of h
  obtain ⟨v_self, v_kinds, v_root, v_count, rfl, h⟩ := h

  obtain ⟨H0, x, p, tb, kvs, rk, r, c, rfl, fr, rfl, rfl, rfl, ht, hp, ok, k⟩ := h
  obtain ⟨dx, hx⟩ := fr.at'
  have no := fr.no
  have e0 := fr.s
  have c0 : 0 ≤ c := by have := ok.c1; omega
  refine ⟨_, rfl, _, rfl, _, rfl, _, _, _, rfl, p, tb, kvs, r, c, rfl, rfl, rfl, ht.same e0, e0 _ _ hp, ok.top, ok.rd.nd, ok.nms, ok.l1, ok.l20, ok.hr, ok.hrn, ok.c1, ok.c5, fun H1 e1 => ?_⟩
  have e01 := e0.trans e1
  have hp1 := e01 _ _ hp
  have ht1 := ht.same e01
  have hx1 := e1 _ _ hx
  have nd := ok.rd.nd
  refine ⟨p, .dK kvs, hp1, trivial, fun od => ?_⟩
  refine ⟨_, rfl, p, od, rfl, .inl ⟨kvs, upd_same, fun D hD => ?_⟩⟩
  have nDp : D ≠ p := fun z => by rw [z, upd_same] at hD; cases hD
  have hD1 : H1 D = none := by rw [upd_ne nDp] at hD; exact hD
  refine dc_it (walk_keys (kvs := kvs)) (fun i H' => ∃ kvs', H' D = some (.dK kvs') ∧ Paired (EntAt A H0) kvs' (tb.take i) ∧ Frz H1 H' p od (.dK kvs)) ⟨[], upd_same, .nil, Frz.start.put hD1 nDp⟩ (fun i H' _ ⟨_, _, _, f⟩ => f.at_) ?_ ?_
  · rintro i xv H4 H4' hi ⟨kvs', hD4, pk, f4⟩ ⟨rfl, key, v, hkv, rfl⟩
    obtain ⟨y, hy, rfl, hkat⟩ := ents_at ht.en hkv
    have hyn := names_at hy
    obtain ⟨k1, v1, hl1, hk1, hv1⟩ := ht.getR hyn
    have hg1 : DGet H4' p (.str y.1) (some v1) := .inl ⟨kvs, .inr y.1, .inr ⟨od, f4.at_⟩, rfl, hv1.symm⟩
    have ek : k1 = y.2 := Option.some.inj (hl1.symm.trans (look_nd nd (List.mem_of_getElem? hy)))
    subst ek
    have tk : tb.take (i + 1) = tb.take i ++ [y] := take_snoc hy
    have new : valV kvs' (.inr y.1 : Key) = none := by
      rcases ents_val (n := y.1) pk with ⟨_, _, h1, _⟩ | ⟨_, _, h3⟩
      · exact absurd h1 (take_fresh nd hy)
      · exact h3
    have l4 : kvs'.length ≤ 20 := by
      rw [pair_lenE pk]
      have := ok.l20
      have := List.length_take_le' i tb
      omega
    refine ⟨rfl, ?_⟩
    dsimp only [tYes]
    rw [if_pos rfl]
    refine ⟨_, rfl, _, rfl, _, rfl, p, v1, rfl, hg1, kvs', .inr y.1, rfl, hD4, by rw [sizeLine_eq]; omega, _, upd_same, ?_, f4.put hD1 nDp⟩
    rw [putK_new _ new, tk]
    exact paired_snocE ⟨rfl, hk1⟩ pk
  rintro H4 ⟨kvs', hD4, pk, f4⟩
  rw [ht.len, List.take_length] at pk
  refine ⟨f4.at_, ?_⟩
  have s5 := f4.back hp1
  have hD5 : (upd H4 p (.dK kvs)) D = some (.dK kvs') := by rw [upd_ne nDp]; exact hD4
  have tDof : ∀ H', Same H0 H' → H' D = some (.dK kvs') → TbAt A H' D tb kvs' := fun H' e h => ⟨.inl h, paired_impE (fun _ _ q => ⟨q.1, q.2.keep (KI.same e)⟩) pk⟩
  have tD := tDof _ (e01.trans s5) hD5
  generalize upd H4 p (.dK kvs) = H5 at s5 hD5 tD ⊢
  have ms := ok.rd.miss
  refine ⟨_, rfl, _, rfl, D, tb, kvs', rfl, tD, hD5, ok.top, nd, ok.l20, fun H6 e6 => ?_⟩
  rw [ms]
  refine ⟨_, rfl, rfl, _, rfl, iteF ?_⟩
  refine ⟨_, rfl, _, rfl, D, tb, kvs', rfl, tD.same e6, ok.top, nd, ok.l20, ms, fun H7 e7 => ⟨fun _ => ?_, fun n ys i srt hi rch _ => absurd rch (ok.noring n (srt.1.mem_iff.mp (List.mem_of_getElem? hi)))⟩⟩
  refine ⟨_, rfl, rfl, _, rfl, iteF ?_⟩
  have e57 := e6.trans e7
  refine ⟨_, rfl, _, rfl, _, _, rfl, D, tb, kvs', rk, c, rfl, rfl, tD.same e57, e57 _ _ hD5, ok.top, ok.fits, ok.l20, ok.rd, c0, ok.c5, ok.nol, fun H8 e8 => ?_⟩
  refine ⟨_, rfl, rfl, _, rfl, iteF ?_⟩
  have e58 := e57.trans e8
  refine ⟨_, rfl, _, rfl, fun m dm hm hdm ne => ?_⟩
  refine ⟨_, _, _, _, rfl, H8, m, D, c, false, rfl, Fresh.mk' hm hdm ne, rfl, rfl, rfl, c0, ok.c5, fun dm2 fo pl no_ nu ct ro re la go mv tu st H9 hm9 pn cn mn e9 => ⟨rfl, ?_⟩⟩
  have e59 := e58.trans e9
  have mt9 : MachAt A H9 m D c false := ⟨dm2, fo, pl, no_, nu, ct, ro, re, la, go, mv, tu, st, hm9, pn, cn, mn⟩
  refine ⟨_, rfl, _, rfl, m, D, dm2, _, tb, kvs', rk, rfl, hm9, mach_named, tD.same e59, e59 _ _ hD5, ok.top, ok.l20, ok.rd, ok.nor, fun Ha ea => ?_⟩
  have e5a := e59.trans ea
  have hxa := e5a _ _ (s5 _ _ hx1)
  have mta := mt9.same ea
  have tDa := tD.same e5a
  have hDa := e5a _ _ hD5
  have e0a : Same H0 Ha := e01.trans (s5.trans e5a)
  clear mt9 hm9 pn cn mn
  refine ⟨_, rfl, _, rfl, x, _, dx, _, rfl, hxa, T.cl_Edition, T.n_Edition_table, Nat.lt_of_le_of_lt (Nat.le_refl 0 : _ ≤ 0) (by decide : 0 < 1000), ?_⟩
  refine ⟨_, rfl, _, rfl, x, _, dx, _, rfl, upd_same, T.cl_Edition, T.n_Edition_root, Nat.lt_of_le_of_lt (put_len (Nat.zero_le _) : _ ≤ 1) (by decide : 1 < 1000), ?_⟩
  refine ⟨_, rfl, _, rfl, x, _, dx, _, rfl, upd_same, T.cl_Edition, T.n_Edition_count, Nat.lt_of_le_of_lt (put_len (put_len (Nat.zero_le _)) : _ ≤ 2) (by decide : 2 < 1000), ?_⟩
  refine ⟨_, rfl, _, rfl, x, _, dx, _, rfl, upd_same, T.cl_Edition, T.n_Edition_machine, Nat.lt_of_le_of_lt (put_len (put_len (put_len (Nat.zero_le _))) : _ ≤ 3) (by decide : 3 < 1000), ?_⟩
  simp only [upd_upd]
  have nDx : D ≠ x := fun z => by rw [z, hxa] at hDa; cases hDa
  have kb : ∀ b u, b ≠ x → Ha b = some u → (upd Ha x (.ins A.c_Edition dx (putF "machine" (.ref m) (putF "count" (.int c) (putF "root" (.str r) (putF "table" (.ref D) [])))))) b = some u := fun b u n h => by rw [upd_ne n]; exact h
  have hxb : (upd Ha x (.ins A.c_Edition dx (putF "machine" (.ref m) (putF "count" (.int c) (putF "root" (.str r) (putF "table" (.ref D) [])))))) x = some (.ins A.c_Edition dx (putF "machine" (.ref m) (putF "count" (.int c) (putF "root" (.str r) (putF "table" (.ref D) []))))) := upd_same
  have e0b : Same H0 (upd Ha x (.ins A.c_Edition dx (putF "machine" (.ref m) (putF "count" (.int c) (putF "root" (.str r) (putF "table" (.ref D) [])))))) := same_put no e0a
  have hDb := kb _ _ nDx hDa
  have nmx : m ≠ x := fun z => by rw [z, e58 _ _ (s5 _ _ hx1)] at hm; cases hm
  have mtb := mta.keepX nmx hxa kb
  generalize upd Ha x (.ins A.c_Edition dx (putF "machine" (.ref m) (putF "count" (.int c) (putF "root" (.str r) (putF "table" (.ref D) []))))) = Hb at hxb e0b hDb mtb ⊢
  refine ⟨_, rfl, _, rfl, rfl, rfl, fun m2 dmx hm2 hdm2 ne2 => ?_⟩
  refine ⟨_, _, _, _, rfl, Hb, m2, D, c, true, rfl, Fresh.mk' hm2 hdm2 ne2, rfl, rfl, rfl, c0, ok.c5, fun dm3 fo2 pl2 no2 nu2 ct2 ro2 re2 la2 go2 mv2 tu2 st2 Hc hmc pn2 cn2 mn2 ec => ⟨rfl, ?_⟩⟩
  have hxc := ec _ _ hxb
  have mtc : MachAt A Hc m2 D c true := ⟨dm3, fo2, pl2, no2, nu2, ct2, ro2, re2, la2, go2, mv2, tu2, st2, hmc, pn2, cn2, mn2⟩
  refine ⟨_, rfl, x, _, dx, _, rfl, hxc, T.cl_Edition, T.n_Edition_own_machine, Nat.lt_of_le_of_lt (put_len (put_len (put_len (put_len (Nat.zero_le _)))) : _ ≤ 4) (by decide : 4 < 1000), ?_⟩
  have kc : ∀ b u, b ≠ x → Hc b = some u → (upd Hc x (.ins A.c_Edition dx (edFs (.ref D) (.str r) (.int c) (.ref m) (.ref m2)))) b = some u := fun b u n h => by rw [upd_ne n]; exact h
  have e0c : Same H0 (upd Hc x (.ins A.c_Edition dx (edFs (.ref D) (.str r) (.int c) (.ref m) (.ref m2)))) := same_put no (e0b.trans ec)
  have hDc := kc _ _ nDx (ec _ _ hDb)
  exact k _ ⟨⟨dx, D, kvs', m, m2, upd_same, tDof _ e0c hDc, hDc, (mtb.same ec).keepX nmx hxc kc, mtc.keepX (fun z => by rw [z, hxb] at hm2; cases hm2) hxc kc⟩, ok.top, nd⟩ e0c
theorem ok_Edition_kinds (T : Txt K mg A) : FnOk P w K mg base CX0 1 A.f_Edition_kinds A.d_Edition_kinds ["self"] (sp_Edition_kinds K A) := by
  refine T.F_Edition_kinds.ok sc_Edition_kinds (fun vs H Q E h => sp1_len h) (fun cdv A0 outer s H vs Q E hr h => ?_)
  have nd := sc_Edition_kinds.nd
  refine ⟨_, (pss_one (ps_ret (pe_lock (pe_dc (own := [("name", 1)]) (by rfl) nd (pi_keys (pe_fld (pv 0) rfl)) (blkOk_by (own := [("name", 1)]) (N := ["self", "name"]) (sc := defScope s_Edition_kinds) (by decide +kernel)) (fun _ _ _ _ _ => pg_name (i := 1) nd rfl (by first | exact Or.inl rfl | exact Or.inr rfl)) (fun _ _ _ _ _ => pts_nil) (fun _ _ _ _ _ => (pv 1)) (fun _ _ _ _ _ => (pe_dget (hu_of hr) (pe_fldK (K := K) rfl (pv 0) rfl) (pv 1) (fun _ _ => rfl))))))), ?_⟩
  clear nd hr
  replace h := sp1_of h
  obtain ⟨v_self, rfl, h⟩ := h

  obtain ⟨x, tb, r, c, rfl, he, l20, k⟩ := h
  obtain ⟨dx, p, kvs, m, om, hx, ht, hp, _, _⟩ := he.at_
  have nd := he.nd
  have nxp : x ≠ p := fun z => by rw [z, hp] at hx; cases hx
  refine ⟨p, .dK kvs, hp, trivial, fun od => ?_⟩
  have hx1 : (upd H p (.frz od (.dK kvs))) x = _ := (upd_ne nxp).trans hx
  refine ⟨_, rfl, x, _, dx, _, _, rfl, hx1, T.cl_Edition, T.n_Edition_table, ed_table, p, od, rfl, .inl ⟨kvs, upd_same, fun D hD => ?_⟩⟩
  have nDp : D ≠ p := fun z => by rw [z, upd_same] at hD; cases hD
  have hD1 : H D = none := by rw [upd_ne nDp] at hD; exact hD
  refine dc_it (walk_keys (kvs := kvs)) (fun i H' => ∃ kvs', H' D = some (.dK kvs') ∧ Paired (EntAt A H) kvs' (tb.take i) ∧ Frz H H' p od (.dK kvs)) ⟨[], upd_same, .nil, Frz.start.put hD1 nDp⟩ (fun i H' _ ⟨_, _, _, f⟩ => f.at_) ?_ ?_
  · rintro i xv H4 H4' hi ⟨kvs', hD4, pk, f4⟩ ⟨rfl, key, v, hkv, rfl⟩
    obtain ⟨y, hy, rfl, hkat⟩ := ents_at ht.en hkv
    have hyn := names_at hy
    obtain ⟨k1, v1, hl1, hk1, hv1⟩ := ht.getR hyn
    have hg1 : DGet H4' p (.str y.1) (some v1) := .inl ⟨kvs, .inr y.1, .inr ⟨od, f4.at_⟩, rfl, hv1.symm⟩
    have ek : k1 = y.2 := Option.some.inj (hl1.symm.trans (look_nd nd (List.mem_of_getElem? hy)))
    subst ek
    have tk : tb.take (i + 1) = tb.take i ++ [y] := take_snoc hy
    have new : valV kvs' (.inr y.1 : Key) = none := by
      rcases ents_val (n := y.1) pk with ⟨_, _, h1, _⟩ | ⟨_, _, h3⟩
      · exact absurd h1 (take_fresh nd hy)
      · exact h3
    have l4 : kvs'.length ≤ 20 := by
      rw [pair_lenE pk]
      have := List.length_take_le' i tb
      omega
    refine ⟨rfl, ?_⟩
    dsimp only [tYes]
    rw [if_pos rfl]
    refine ⟨_, rfl, _, rfl, x, _, dx, _, _, rfl, f4.kp _ _ nxp hx, T.cl_Edition, T.n_Edition_table, ed_table, _, rfl, p, v1, rfl, hg1, kvs', .inr y.1, rfl, hD4, by rw [sizeLine_eq]; omega, _, upd_same, ?_, f4.put hD1 nDp⟩
    rw [putK_new _ new, tk]
    exact paired_snocE ⟨rfl, hk1⟩ pk
  rintro H4 ⟨kvs', hD4, pk, f4⟩
  rw [ht.len, List.take_length] at pk
  refine ⟨f4.at_, ?_⟩
  have s5 := f4.back hp
  have hD5 : (upd H4 p (.dK kvs)) D = some (.dK kvs') := by rw [upd_ne nDp]; exact hD4
  exact k D kvs' _ hD5 ⟨.inl hD5, paired_impE (fun _ _ q => ⟨q.1, q.2.keep (KI.same s5)⟩) pk⟩ hD1 s5
theorem ok_check_most (T : Txt K mg A) : FnOk P w K mg base CX0 2 A.f_check_most A.d_check_most ["most"] (sp_check_most K A) := by
  refine T.F_check_most.ok sc_check_most (fun vs H Q E h => sp1_len h) (fun cdv A0 outer s H vs Q E hr h => ?_)
  have nd := sc_check_most.nd
  refine ⟨_, (pss_one (ps_if (PW.pt (pw_or (pt_not (pt_val (pe_call (ok_is_integer T) (hr.mono (by decide)) (by rfl) T.mg_is_integer T.k_is_integer T.b_is_integer .nil pass0 (pa_cons (pv 0) pa_nil)))) (pw_or (pt_cmpR op_lt (pv 0) pe_int (nomark _)) (pw_or1 (pt_cmpR op_gt (pv 0) pe_int (nomark _)))))) pss_never pss_nil)), ?_⟩
  clear nd hr
  replace h := sp1_of h
  obtain ⟨v_most, rfl, h⟩ := h

  obtain ⟨n, rfl, n16, k⟩ := h
  refine ⟨_, rfl, _, rfl, _, .int _, _, rfl, iteF ⟨_, rfl, _, _, rfl, rfl, _, rfl, iteB (fun g => ?_) (fun _ => ⟨_, rfl, _, _, rfl, rfl, _, rfl, iteB (fun g => ?_) (fun _ => k)⟩)⟩⟩
  · have := of_decide_eq_true g
    omega
  · have := of_decide_eq_true g
    omega
theorem ok_way_words (T : Txt K mg A) : FnOk P w K mg base CX0 3 A.f_way_words A.d_way_words ["edition", "name", "most"] (sp_way_words K A) := by
  refine T.F_way_words.ok sc_way_words (fun vs H Q E h => sp3_len h) (fun cdv A0 outer s H vs Q E hr h => ?_)
  have nd := sc_way_words.nd
  refine ⟨_, (pss_cons (ps_if (PW.pt (pw_or (pt_not (pt_val (pe_call (ok_is_name T) (hr.mono (by decide)) (by rfl) T.mg_is_name T.k_is_name T.b_is_name .nil pass0 (pa_cons (pv 1) pa_nil)))) (pw_or1 (pt_not (pt_val (pe_callB call_isi (by rfl) T.b_isinstance (by decide +kernel) (pa_cons (pe_dget1 (hu_of hr) (pe_prop (pv 0) T.cl_Edition T.pr_Edition_kinds (ok_Edition_kinds T) (hr.mono (by decide)) T.b_Edition_kinds .nil pass0 (by rfl)) (pv 1) ⟨by rfl, by rfl, by rfl, by rfl⟩) (pa_cons (pe_glob (v := .ref A.c_Choice) (by rfl) T.mg_Choice rfl) pa_nil)))))))) pss_never pss_nil)
      (pss_cons (ps_expr (pe_call (ok_check_most T) (hr.mono (by decide)) (by rfl) T.mg_check_most T.k_check_most T.b_check_most .nil pass0 (pa_cons (pv 2) pa_nil)))
      (Evl.pss_cut (ps_setLc (i := 3) (own := [("way", 4)]) (g := gName 4) (tt := tYes) (by rfl) nd rfl rfl (sw_true rfl rfl rfl (by decide +kernel)) (pi_tup (pe_fld (pe_dget (hu_of hr) (pe_prop (pv 0) T.cl_Edition T.pr_Edition_kinds (ok_Edition_kinds T) (hr.mono (by decide)) T.b_Edition_kinds .nil pass0 (by rfl)) (pv 1) (fun _ _ => rfl)) rfl)) (blkOk_by (own := [("way", 4)]) (N := ["edition", "name", "most", "words", "way", "found", "heads", "length", "behind", "word", "head", "bit", "one"]) (sc := defScope s_way_words) (by decide +kernel)) (fun _ _ _ _ _ => pg_name (i := 4) nd rfl (by first | exact Or.inl rfl | exact Or.inr rfl)) (fun _ _ _ _ _ => pts_nil) (fun _ _ _ _ _ => (pe_fldK (K := K) rfl (pv 4) rfl)))
      (pss_cons (ps_set (i := 5) nd rfl (by first | exact Or.inl rfl | exact Or.inr rfl) (pe_lst pa_nil))
      (pss_cons (ps_set (i := 6) nd rfl (by first | exact Or.inl rfl | exact Or.inr rfl) (pe_lst (pa_cons pe_str pa_nil)))
      (pss_cons (ps_for PassesOwn.never rfl (pi_range1 (by rfl) T.b_range (pa_cons (pv 2) pa_nil)) (pg_name (i := 7) nd rfl (by first | exact Or.inl rfl | exact Or.inr rfl)) (pss_cons (ps_set (i := 8) nd rfl (by first | exact Or.inl rfl | exact Or.inr rfl) (pe_lst pa_nil))
      (pss_cons (ps_for PassesOwn.never rfl (pi_list (pe_lc2 (own := [("head", 10), ("bit", 11)]) (vs1 := [11]) (by rfl) nd (pi_list (pv 6)) (blkOk_by (own := [("head", 10), ("bit", 11)]) (N := ["edition", "name", "most", "words", "way", "found", "heads", "length", "behind", "word", "head", "bit", "one"]) (sc := defScope s_way_words) (by decide +kernel)) (by decide) (fun _ _ _ _ _ => pg_name (i := 10) nd rfl (by first | exact Or.inl rfl | exact Or.inr rfl)) (fun _ _ _ _ _ => pts_nil) (fun _ _ _ _ _ => (pi_str pe_str)) (fun _ _ _ _ _ => pg_name (i := 11) nd rfl (by first | exact Or.inl rfl | exact Or.inr rfl)) (fun _ _ _ _ _ => pts_nil) (fun _ _ _ _ _ => (pe_op op_add_str (pv 10) (pv 11))))) (pg_name (i := 9) nd rfl (by first | exact Or.inl rfl | exact Or.inr rfl)) (pss_one (ps_if (pt_truth (pe_lc (own := [("one", 12)]) (g := gName 12) (by rfl) nd (pi_list (pv 3)) (blkOk_by (own := [("one", 12)]) (N := ["edition", "name", "most", "words", "way", "found", "heads", "length", "behind", "word", "head", "bit", "one"]) (sc := defScope s_way_words) (by decide +kernel)) (fun _ _ _ _ _ => pg_name (i := 12) nd rfl (by first | exact Or.inl rfl | exact Or.inr rfl)) (fun _ _ _ _ _ => pts_one (PW.pt (pw_and (pt_cmpR op_ne (pv 12) (pv 9) (nomark _)) (pw_and1 (pt_val (pe_m1 PySem.F.slot_str_startswith PySem.F.type_str_startswith mt_startswith (pv 12) (pv 9))))))) (fun _ _ _ _ _ => (pv 12))) (by intro _; rfl)) (pss_one (ps_expr (pe_bm PySem.F.plainAttrs_list PySem.F.slot_list_append PySem.F.type_list_append mt_append (pv 8) (pa_cons (pv 9) pa_nil)))) (pss_one (ps_if (pt_cmpR op_notIn_seq (pv 9) (pv 3) (by rfl)) (pss_one (ps_expr (pe_bm PySem.F.plainAttrs_list PySem.F.slot_list_append PySem.F.type_list_append mt_append (pv 5) (pa_cons (pv 9) pa_nil)))) pss_nil)))))
      (pss_one (ps_set (i := 6) nd rfl (by first | exact Or.inl rfl | exact Or.inr rfl) (pv 8))))))
      (pss_one (ps_ret (pv 5))))))))), ?_⟩
  clear nd hr
  replace h := sp3_of h
  obtain ⟨v_edition, v_name, v_most, rfl, h⟩ := h

  obtain ⟨x, tb, r, c, n, ks, m, rfl, he, l20, rfl, okn, hl, rfl, m16, w8, l12, k⟩ := h
  obtain ⟨dx, p0, kvs0, m0, om0, hx, _, _, _, _⟩ := he.at_
  have mn : n ∈ tb.names := List.mem_map.mpr ⟨_, look_mem hl, rfl⟩
  refine ⟨_, rfl, _, rfl, _, .str _, okN_short okn, _, rfl, ?_⟩
  rw [okn.1]
  refine iteF ⟨_, rfl, x, dx, _, rfl, hx, _, rfl, x, tb, r, c, rfl, he, l20, fun q kvs H1 hq tq hq0 e1 => ?_⟩
  obtain ⟨kd, v, hl2, hk, hg⟩ := tq.get mn
  obtain rfl : kd = .choice ks := Option.some.inj (hl2.symm.trans hl)
  refine ⟨q, rfl, .inl ⟨kvs, .inl hq⟩, _, rfl, some v, hg, _, _, _, _, _, rfl, .own _, (KAt.vt T hk).tyx, kit_isaO (KAt.vt T hk).tag (T.kco .choice), true, congrArg V.bl (isa_kc T (.k (.choice ks)) .choice), iteF ?_⟩
  refine ⟨_, rfl, _, rfl, m, rfl, m16, ?_⟩
  clear hq hq0 tq hk hg v
  refine ⟨fun σ' H' => ∃ W, σ' = [some (.ref x), some (.str n), some (.int (m : Int)), some (.ref W), none, none, none, none, none, none, none, none, none] ∧ H' W = some (.lst ((ks.map wordK).map V.str)) ∧ H W = none ∧ Same H H', ?_, ?_⟩
  · refine ⟨_, rfl, x, dx, _, rfl, e1 _ _ hx, _, rfl, x, tb, r, c, rfl, he.same e1, l20, fun q kvs H2 hq tq hq0 e2 => ?_⟩
    obtain ⟨kd, v, hl2, hk, hg⟩ := tq.get mn
    obtain rfl : kd = .choice ks := Option.some.inj (hl2.symm.trans hl)
    refine ⟨_, rfl, q, v, rfl, hg, ?_⟩
    cases hk with
    | choice ob et kz ow =>
    obtain ⟨dz, gs, hzx, lx⟩ := ob
    rename_i yz tz vs
    refine ⟨yz, _, dz, gs, _, rfl, hzx, T.cl_Choice, T.n_Choice_ways, lx _ (List.mem_cons_self ..), ?_⟩
    refine lc_tupG (tt := tYes) (fun _ v (b : Str) => v = V.str b) (fun _ _ _ _ _ q => q) (fun _ _ _ _ _ _ _ q => q) (fun _ => true) wordK (fun v z => KAt A H2 v z) et (kats_pair kz) ?_ (fun x => rfl) (fun x n H6 Q _ _ _ q => q) ?_ ?_
    · rw [pair_lenE (kats_pair kz)]
      omega
    · intro y z H6 Q hz mz _ e6 q
      obtain ⟨yy, C, dy, fs, rfl, hy, cC, nC, hu⟩ := wd_word T hz (ow z mz)
      exact ⟨_, rfl, yy, C, dy, fs, _, rfl, e6 _ _ hy, cC, nC, hu, q _ _ (fun _ _ z => z) rfl⟩
    intro D ws H3 hD hD0 e3 pw
    rw [List.filter_eq_self.mpr fun _ _ => rfl] at pw
    have ews := pair_strs pw
    subst ews
    exact ⟨D, rfl, hD, none_same (e1.trans e2) hD0, e1.trans (e2.trans e3)⟩
  clear e1 hl2
  rintro σ' H1 ⟨W, rfl, hW, hW0, e1⟩
  generalize ews : ks.map wordK = ws at hW k w8
  have lws : ws.length ≤ 12 := by rw [← ews, List.length_map]; exact l12
  refine ⟨(by show 0 ≤ sizeLine; rw [sizeLine_eq]; decide), fun F hF => ⟨(by show 1 ≤ sizeLine; rw [sizeLine_eq]; decide), fun G hG => ⟨_, rfl, _, rfl, by omega, by omega, ?_⟩⟩⟩
  have hW2 : (upd (upd H1 F (.lst [])) G (.lst [.str ""])) W = some (.lst (ws.map V.str)) := by rw [upd_ne (ne_of_none (by rw [upd_ne (ne_of_none hW hF)]; exact hW) hG), upd_ne (ne_of_none hW hF)]; exact hW
  have hF2 : (upd (upd H1 F (.lst [])) G (.lst [.str ""])) F = some (.lst []) := by rw [upd_ne (ne_of_none upd_same hG), upd_same]
  have hG2 : (upd (upd H1 F (.lst [])) G (.lst [.str ""])) G = some (.lst [.str ""]) := upd_same
  have e2 : Same H (upd (upd H1 F (.lst [])) G (.lst [.str ""])) := e1.trans ((same_new hF).trans (same_new hG))
  have hF0 : H F = none := none_same e1 hF
  have nFW : F ≠ W := fun z => by rw [z, hW] at hF; cases hF
  generalize upd (upd H1 F (.lst [])) G (.lst [.str ""]) = H2 at hW2 hF2 hG2 e2 ⊢
  refine for_range (n := m) (fun i σ' H' => ∃ (G : Addr) (a7 a8 a9 : Option V), σ' = [some (.ref x), some (.str n), some (.int (m : Int)), some (.ref W), none, some (.ref F), some (.ref G), a7, a8, a9, none, none, none] ∧ H' W = some (.lst (ws.map V.str)) ∧ H' F = some (.lst ((foAt ws i).map V.str)) ∧ H' G = some (.lst ((hsAt ws i).map V.str)) ∧ Same H H') ⟨_, _, _, _, rfl, hW2, hF2, hG2, e2⟩ ?_ ?_
  · rintro i σ' H3 hi ⟨G, a7, a8, a9, rfl, hW3, hF3, hG3, e3⟩
    obtain ⟨lh, eh⟩ := hs_len ws i
    have p16 := pow16 (i := i) (by omega)
    have lf := fo_len ws i
    have p17 := pow16 (i := i + 1) (by omega)
    refine ⟨(by show 0 ≤ sizeLine; rw [sizeLine_eq]; decide), fun B hB => ?_⟩
    have sB := same_new (o := .lst []) hB
    have nFB : F ≠ B := ne_of_none hF3 hB
    have nWB : W ≠ B := ne_of_none hW3 hB
    have hB0 : H B = none := none_same e3 hB
    have hW4 := sB _ _ hW3
    have hF4 := sB _ _ hF3
    have hG4 := sB _ _ hG3
    have hB4 : (upd H3 B (.lst [])) B = some (.lst []) := upd_same
    have e4 := e3.trans sB
    generalize upd H3 B (.lst []) = H4 at hW4 hF4 hG4 hB4 e4 ⊢
    clear hW3 hF3 hG3 e3 sB
    refine ⟨_, rfl, ?_⟩
    refine lc2_bits hG4 (by omega) (fun h hh => by rw [eh h hh]; omega) (fun x => rfl) (fun x y => rfl) (fun h b H1 Q l q => ⟨_, rfl, _, rfl, h, b, rfl, rfl, l, q⟩) ?_
    intro X H5 hX hX0 e5
    have nXF : X ≠ F := fun z => by rw [z, hF4] at hX0; cases hX0
    have nXB : X ≠ B := fun z => by rw [z, hB4] at hX0; cases hX0
    generalize hxs : extW (hsAt ws i) = ext at hX
    have lext : ext.length = 2 * (hsAt ws i).length := by rw [← hxs, ext_len]
    refine ⟨X, rfl, ⟨_, SqL.of hX⟩, ?_⟩
    refine for_it (walk_list (xs := ext.map V.str)) (fun j σ' H' => ∃ a9, σ' = [some (.ref x), some (.str n), some (.int (m : Int)), some (.ref W), none, some (.ref F), some (.ref G), some (.int (0 + (i : Nat))), some (.ref B), a9, none, none, none] ∧ H' W = some (.lst (ws.map V.str)) ∧ H' X = some (.lst (ext.map V.str)) ∧ H' F = some (.lst ((foAt ws i ++ (ext.take j).filter (newB ws)).map V.str)) ∧ H' B = some (.lst (((ext.take j).filter (behB ws)).map V.str)) ∧ Same H H')
      ⟨_, rfl, e5 _ _ hW4, hX, by rw [List.take_zero, List.filter_nil, List.append_nil]; exact e5 _ _ hF4, e5 _ _ hB4, e4.trans e5⟩ (fun j σ' H' _ ⟨_, _, _, h, _⟩ => SqL.of h) ?_ ?_
    · rintro j y σ' H6 H6' hj ⟨b9, rfl, hW6, hX6, hF6, hB6, e6⟩ ⟨rfl, hy⟩
      rw [List.getElem?_map] at hy
      obtain ⟨y, hy2, rfl⟩ := Option.map_eq_some_iff.mp hy
      have tk : ext.take (j + 1) = ext.take j ++ [y] := take_snoc hy2
      refine ⟨_, rfl, ?_⟩
      refine lc_strs (fun o => !decide (o = y) && PySem.Txt.startswith o y) id hW6 (by omega) (fun x => rfl) ?_ ?_ ?_
      · intro z H7 Q _ e7 q
        have q := q H7 (fun _ _ z => z)
        refine ⟨_, rfl, _, rfl, rfl, _, rfl, ?_⟩
        rw [dStrE]
        refine iteB (fun g => ?_) (fun g => ?_)
        · rw [g, Bool.true_and] at q
          exact ⟨_, rfl, ⟨_, rfl⟩, _, rfl, z, y, rfl, rfl, _, rfl, q⟩
        · rw [g, Bool.false_and] at q
          exact q
      · exact fun z H7 Q _ _ e7 q => ⟨_, rfl, q H7 (fun _ _ z => z)⟩
      intro D H7 hD hD0 e7
      refine ⟨_, .inl ⟨_, SqL.of hD, rfl⟩, ?_⟩
      rw [beh_filter]
      have hW7 := e7 _ _ hW6
      have hX7 := e7 _ _ hX6
      have hF7 := e7 _ _ hF6
      have hB7 := e7 _ _ hB6
      have e07 := e6.trans e7
      have lt := List.length_take_le j ext
      have lt2 := List.length_take_le' j ext
      have lb := List.length_filter_le (behB ws) (ext.take j)
      have ln := List.length_filter_le (newB ws) (ext.take j)
      refine iteB (fun g => ?_) (fun g => ?_)
      · refine ⟨_, rfl, .inl ⟨rfl, _, SqL.of hB7⟩, _, rfl, B, _, _, rfl, rfl, hB7, by rw [sizeLine_eq, List.length_map]; omega, ?_⟩
        refine ⟨_, rfl, by rw [upd_ne nWB]; exact hW7, by rw [upd_ne nXB]; exact hX7, ?_, ?_, same_put hB0 e07⟩
        · rw [upd_ne nFB, tk, List.filter_append, show List.filter (newB ws) [y] = [] from by simp [newB, g], List.append_nil]
          exact hF7
        · rw [upd_same, tk, List.filter_append, show List.filter (behB ws) [y] = [y] from by simp [g], List.map_append]
          rfl
      · refine ⟨_, rfl, _, rfl, W, _, rfl, .inl (SqL.of hW7), rfl, flat_strsE _, _, rfl, ?_⟩
        show if (!inV (.str y) (ws.map V.str)) = true then _ else _
        rw [inV_strE]
        refine iteB (fun g2 => ?_) (fun g2 => ?_)
        · refine ⟨_, rfl, .inl ⟨rfl, _, SqL.of hF7⟩, _, rfl, F, _, _, rfl, rfl, hF7, by rw [sizeLine_eq, List.length_map, List.length_append]; omega, ?_⟩
          refine ⟨_, rfl, by rw [upd_ne nFW.symm]; exact hW7, by rw [upd_ne nXF]; exact hX7, ?_, ?_, same_put hF0 e07⟩
          · rw [upd_same, tk, List.filter_append, show List.filter (newB ws) [y] = [y] from by simp [newB, g, g2], ← List.append_assoc]
            simp only [List.map_append]
            rfl
          · rw [upd_ne nFB.symm, tk, List.filter_append, show List.filter (behB ws) [y] = [] from by simp [g], List.append_nil]
            exact hB7
        · refine ⟨_, rfl, hW7, hX7, ?_, ?_, e07⟩
          · rw [tk, List.filter_append, show List.filter (newB ws) [y] = [] from by simp [newB, g2], List.append_nil]
            exact hF7
          · rw [tk, List.filter_append, show List.filter (behB ws) [y] = [] from by simp [g], List.append_nil]
            exact hB7
    · rintro σ' H6 ⟨b9, rfl, hW6, hX6, hF6, hB6, e6⟩
      rw [List.length_map, List.take_length] at hF6 hB6
      exact ⟨_, rfl, _, _, _, _, rfl, hW6, by show H6 F = some (.lst ((foAt ws i ++ (extW (hsAt ws i)).filter (newB ws)).map V.str)); rw [hxs]; exact hF6, by show H6 B = some (.lst (((extW (hsAt ws i)).filter (behB ws)).map V.str)); rw [hxs]; exact hB6, e6⟩
  · rintro σ' H3 ⟨G, a7, a8, a9, rfl, hW3, hF3, hG3, e3⟩
    exact ⟨_, rfl, k F H3 hF3 hF0 e3⟩
theorem ok_AddWay___init__ (T : Txt K mg A) : FnOk P w K mg base CX0 1 A.f_AddWay___init__ A.d_AddWay___init__ ["self", "name", "way"] (sp_AddWay___init__ K A) := by
  refine T.F_AddWay___init__.ok sc_AddWay___init__ (fun vs H Q E h => sp3_len h) (fun cdv A0 outer s H vs Q E hr h => ?_)
  have nd := sc_AddWay___init__.nd
  refine ⟨_, (pss_cons (ps_fld (pv 0) (pv 1) rfl)
      (pss_one (ps_fld (pv 0) (pv 2) rfl))), ?_⟩
  clear nd hr
  replace h := sp3_of h
  obtain ⟨v_self, v_name, v_way, rfl, h⟩ := h

  obtain ⟨H0, x, rfl, fr, k⟩ := h
  obtain ⟨dx, hx⟩ := fr.at'
  refine ⟨_, rfl, _, rfl, x, _, dx, _, rfl, hx, T.cl_AddWay, T.n_AddWay_name, Nat.lt_of_le_of_lt (Nat.le_refl 0 : _ ≤ 0) (by decide : 0 < 1000), ?_⟩
  refine ⟨_, rfl, _, rfl, x, _, dx, _, rfl, upd_same, T.cl_AddWay, T.n_AddWay_way, Nat.lt_of_le_of_lt (put_len (Nat.zero_le _) : _ ≤ 1) (by decide : 1 < 1000), ?_⟩
  simp only [upd_upd]
  exact k dx _ upd_same (same_put fr.no fr.s)
theorem ok_named (T : Txt K mg A) : FnOk P w K mg base CX0 2 A.f_named A.d_named ["table", "name"] (sp_named K A) := by
  refine T.F_named.ok sc_named (fun vs H Q E h => sp2_len h) (fun cdv A0 outer s H vs Q E hr h => ?_)
  have nd := sc_named.nd
  refine ⟨_, (pss_cons (ps_if (pt_not (pt_val (pe_call (ok_is_name T) (hr.mono (by decide)) (by rfl) T.mg_is_name T.k_is_name T.b_is_name .nil pass0 (pa_cons (pv 1) pa_nil)))) (pss_one (ps_ret pe_non)) pss_nil)
      (pss_one (ps_ret (pe_dget1 (hu_of hr) (pv 0) (pv 1) ⟨by rfl, by rfl, by rfl, by rfl⟩)))), ?_⟩
  clear nd hr
  replace h := sp2_of h
  obtain ⟨v_table, v_name, rfl, h⟩ := h

  obtain ⟨q, tb, kvs, n, k0, rfl, tq, hq, rfl, okn, hl, k⟩ := h
  refine ⟨_, rfl, _, rfl, _, .str _, okN_short okn, _, rfl, ?_⟩
  rw [okn.1]
  refine iteF ?_
  obtain ⟨kd, v, hl2, hk, hg⟩ := tq.get (n := n) (List.mem_map.mpr ⟨_, look_mem hl, rfl⟩)
  obtain rfl : kd = k0 := Option.some.inj (hl2.symm.trans hl)
  exact ⟨_, rfl, q, rfl, .inl ⟨kvs, .inl hq⟩, _, rfl, some v, hg, k v hk⟩
theorem ok_way_added (T : Txt K mg A) : FnOk P w K mg base (L2.CX P w) 5 A.f_way_added A.d_way_added ["table", "step"] (sp_way_added K A) := by
  refine T.F_way_added.okX sc_way_added (fun vs H Q E h => sp2_len h) (fun cdv A0 outer s H vs Q E hr h => ?_)
  have nd := sc_way_added.nd
  refine ⟨_, (pss_cons (ps_set (i := 2) nd rfl (by first | exact Or.inl rfl | exact Or.inr rfl) (pe_call (ok_named T) (hr.mono (by decide)) (by rfl) T.mg_named T.k_named T.b_named .nil pass0 (pa_cons (pv 0) (pa_cons (pe_fld (pv 1) rfl) pa_nil))))
      (pss_cons (ps_if (pt_not (pt_val (pe_callB call_isi (by rfl) T.b_isinstance (by decide +kernel) (pa_cons (pv 2) (pa_cons (pe_glob (v := .ref A.c_Choice) (by rfl) T.mg_Choice rfl) pa_nil))))) (pss_one (ps_raise rfl (takes_of rfl rfl rfl rfl) (pmk_oex T.oex_NoStep T.ix_NoStep T.tx_NoStep (ok_NoStep___init__ T) (hr.mono (by decide)) T.b_NoStep___init__ .nil pass0 (by rfl) T.mg_NoStep (pa_cons pe_str pa_nil)))) pss_nil)
      (pss_cons (ps_if (pt_not (pt_val (pe_callB call_isiT (by rfl) T.b_isinstance (by decide +kernel) (pa_cons (pe_fld (pv 1) rfl) (pa_cons (pe_tup (pa_cons (pe_glob (v := .ref A.c_Way) (by rfl) T.mg_Way rfl) (pa_cons (pe_glob (v := .ref A.c_Door) (by rfl) T.mg_Door rfl) pa_nil))) pa_nil))))) (pss_one (ps_raise rfl (takes_of rfl rfl rfl rfl) (pmk_oex T.oex_NoStep T.ix_NoStep T.tx_NoStep (ok_NoStep___init__ T) (hr.mono (by decide)) T.b_NoStep___init__ .nil pass0 (by rfl) T.mg_NoStep (pa_cons pe_str pa_nil)))) pss_nil)
      (pss_cons (ps_if (pt_cmpR op_ge (pe_callB call_len (by rfl) T.b_len (by decide +kernel) (pa_cons (pe_fld (pv 2) rfl) pa_nil)) pe_int (nomark _)) (pss_one (ps_raise rfl (takes_of rfl rfl rfl rfl) (pmk_oex T.oex_NoStep T.ix_NoStep T.tx_NoStep (ok_NoStep___init__ T) (hr.mono (by decide)) T.b_NoStep___init__ .nil pass0 (by rfl) T.mg_NoStep (pa_cons pe_str pa_nil)))) pss_nil)
      (pss_cons (ps_if (pt_val (pe_callB (cr_any rfl) (by rfl) T.b_any (by decide +kernel) (pa_cons (pe_lc (own := [("way", 3)]) (g := gName 3) (tt := tYes) (by rfl) nd (pi_tup (pe_fld (pv 2) rfl)) (blkOk_by (own := [("way", 3)]) (N := ["table", "step", "kind", "way"]) (sc := defScope s_way_added) (by decide +kernel)) (fun _ _ _ _ _ => pg_name (i := 3) nd rfl (by first | exact Or.inl rfl | exact Or.inr rfl)) (fun _ _ _ _ _ => pts_nil) (fun _ _ _ _ _ => (pe_cmpR op_eq (pe_fldK (K := K) rfl (pv 3) rfl) (pe_fldK (K := K) rfl (pe_fldK (K := K) rfl (pv 1) rfl) rfl) (nomark _)))) pa_nil))) (pss_one (ps_raise rfl (takes_of rfl rfl rfl rfl) (pmk_oex T.oex_NoStep T.ix_NoStep T.tx_NoStep (ok_NoStep___init__ T) (hr.mono (by decide)) T.b_NoStep___init__ .nil pass0 (by rfl) T.mg_NoStep (pa_cons pe_str pa_nil)))) pss_nil)
      (pss_cons (ps_if (pt_val (pe_callB (cr_any rfl) (by rfl) T.b_any (by decide +kernel) (pa_cons (pe_lc (own := [("way", 3)]) (g := gName 3) (tt := tYes) (by rfl) nd (pi_tup (pe_fld (pv 2) rfl)) (blkOk_by (own := [("way", 3)]) (N := ["table", "step", "kind", "way"]) (sc := defScope s_way_added) (by decide +kernel)) (fun _ _ _ _ _ => pg_name (i := 3) nd rfl (by first | exact Or.inl rfl | exact Or.inr rfl)) (fun _ _ _ _ _ => pts_nil) (fun _ _ _ _ _ => (pe_call (ok_begins T) (hr.mono (by decide)) (by rfl) T.mg_begins T.k_begins T.b_begins .nil pass0 (pa_cons (pe_fldK (K := K) rfl (pv 3) rfl) (pa_cons (pe_fldK (K := K) rfl (pe_fldK (K := K) rfl (pv 1) rfl) rfl) pa_nil))))) pa_nil))) (pss_one (ps_raise rfl (takes_of rfl rfl rfl rfl) (pmk_oex T.oex_NoStep T.ix_NoStep T.tx_NoStep (ok_NoStep___init__ T) (hr.mono (by decide)) T.b_NoStep___init__ .nil pass0 (by rfl) T.mg_NoStep (pa_cons pe_str pa_nil)))) pss_nil)
      (pss_one (ps_ret (by exact (pe_makeS T.mk_Choice (ok_Choice___init__ T) (hr.mono (by decide)) (by rfl) T.mg_Choice T.b_Choice___init__ .nil (fun σ => passAt (W := fun cls d _ H => E cls d H) (takes_of rfl rfl rfl rfl) σ) (by exact (pa_cons (pe_lst (StX.pa_star (pe_fld (pv 2) rfl) (pa_cons (pe_fld (pv 1) rfl) pa_nil))) pa_nil)))))))))))), ?_⟩
  clear nd hr
  replace h := sp2_of h
  obtain ⟨v_table, v_step, rfl, h⟩ := h

  obtain ⟨q, tb, kvs, st, n, ww, wk, ks, rfl, tq, hq, rfl, hst, okn, hl, l12, k⟩ := h
  obtain ⟨⟨dst, hs⟩, hw, wd⟩ := hst
  refine ⟨_, rfl, _, rfl, st, _, dst, _, _, rfl, hs, T.cl_AddWay, T.n_AddWay_name, stw_name, _, _, rfl, q, tb, kvs, n, _, rfl, tq, hq, rfl, okn, hl, fun v hk => ?_⟩
  have vc := KAt.vt T hk
  have vw : Th A K H ww (.k wk) := hw
  refine ⟨_, rfl, _, _, _, _, _, rfl, .own _, vc.tyx, kit_isaO vc.tag (T.kco .choice), true, congrArg V.bl (isa_kc T (.k (.choice ks)) .choice), iteF ?_⟩
  cases hk with
  | choice ob et kz ow =>
  obtain ⟨dz, gs, hzx, lx⟩ := ob
  rename_i yz tz vs
  have lz := lx _ (List.mem_cons_self ..)
  have lvs := pair_lenE (kats_pair kz)
  refine ⟨_, rfl, st, _, dst, _, _, rfl, hs, T.cl_AddWay, T.n_AddWay_way, stw_way, (by show 2 ≤ sizeLine; rw [sizeLine_eq]; decide), fun p hp => ⟨_, p, _, _, _, _, rfl, upd_same, .cons (.own _) (.cons (.own _) .nil), ((vw.keep (KI.new hp)).vt T).tyx, any_kc T vw [.way, .door], _, rfl, ?_⟩⟩
  rw [show ([Kc.way, .door].any fun c => decide ((Td.k wk).cls = some c)) = true from wd]
  refine iteF ?_
  have e1 := same_new (o := .tup [V.ref A.c_Way, V.ref A.c_Door]) hp
  generalize upd H p (.tup [V.ref A.c_Way, V.ref A.c_Door]) = H1 at e1 ⊢
  refine ⟨_, rfl, yz, _, dz, gs, _, rfl, e1 _ _ hzx, T.cl_Choice, T.n_Choice_ways, lz, _, _, rfl, .inr ⟨_, SqT.of (e1 _ _ et), rfl⟩, _, _, rfl, rfl, _, rfl, iteB (fun g => ?_) (fun g => ?_)⟩
  · have : 12 ≤ ks.length := by have := of_decide_eq_true g; omega
    rw [show wayWhy ks wk = some "many" from if_pos this] at k
    exact mk_exc1 fun d hd => k _ d (e1.trans (same_new hd)) upd_same
  have n12 : ¬ 12 ≤ ks.length := by have := of_decide_eq_false g; omega
  refine ⟨_, rfl, yz, _, dz, gs, _, rfl, e1 _ _ hzx, T.cl_Choice, T.n_Choice_ways, lz, ?_⟩
  refine lc_tupG (tt := tYes) (fun _ v (b : Bool) => v = V.bl b) (fun _ _ _ _ _ q => q) (fun _ _ _ _ _ _ _ q => q) (fun _ => true) (fun z => decide (nameK z = nameK wk)) (fun v z => KAt A H1 v z) (e1 _ _ et) (kats_pair (kz.keep (KI.same e1))) (by omega) (fun x => rfl) (fun x n H6 Q _ _ _ q => q) ?_ ?_
  · intro y z H6 Q hz mz _ e6 q
    have e06 := e1.trans e6
    obtain ⟨yy, C, dy, fs, rfl, hy, cC, nC, hu⟩ := wd_name T hz (ow z mz)
    obtain ⟨y2, C2, dy2, fs2, rfl, hy2, cC2, nC2, hu2⟩ := wd_name T hw wd
    refine ⟨_, rfl, yy, C, dy, fs, _, rfl, e6 _ _ hy, cC, nC, hu, _, rfl, st, _, dst, _, _, rfl, e06 _ _ hs, T.cl_AddWay, T.n_AddWay_way, stw_way, y2, C2, dy2, fs2, _, rfl, e06 _ _ hy2, cC2, nC2, hu2, rfl, ?_⟩
    rw [dStrE]
    exact q _ _ (fun _ _ z => z) rfl
  intro D bs H2 hD hD0 e2 pw
  have ebs := pair_bls pw
  subst ebs
  refine ⟨D, _, rfl, SqL.of hD, _, rfl, ?_⟩
  rw [any_trues]
  have e12 := e1.trans e2
  refine iteB (fun g2 => ?_) (fun g2 => ?_)
  · rw [show wayWhy ks wk = some "same" from (if_neg n12).trans (if_pos g2)] at k
    exact mk_exc1 fun d hd => k _ d (e12.trans (same_new hd)) upd_same
  refine ⟨_, rfl, yz, _, dz, gs, _, rfl, e12 _ _ hzx, T.cl_Choice, T.n_Choice_ways, lz, ?_⟩
  refine lc_tupG (tt := tYes) (fun _ v (b : Bool) => v = V.bl b) (fun _ _ _ _ _ q => q) (fun _ _ _ _ _ _ _ q => q) (fun _ => true) (fun z => pre2 (wordK z) (wordK wk)) (fun v z => KAt A H2 v z) (e12 _ _ et) (kats_pair (kz.keep (KI.same e12))) (by omega) (fun x => rfl) (fun x n H6 Q _ _ _ q => q) ?_ ?_
  · intro y z H6 Q hz mz _ e6 q
    have e06 := e12.trans e6
    obtain ⟨yy, C, dy, fs, rfl, hy, cC, nC, hu⟩ := wd_word T hz (ow z mz)
    obtain ⟨y2, C2, dy2, fs2, rfl, hy2, cC2, nC2, hu2⟩ := wd_word T hw wd
    exact ⟨_, rfl, yy, C, dy, fs, _, rfl, e6 _ _ hy, cC, nC, hu, _, rfl, st, _, dst, _, _, rfl, e06 _ _ hs, T.cl_AddWay, T.n_AddWay_way, stw_way, y2, C2, dy2, fs2, _, rfl, e06 _ _ hy2, cC2, nC2, hu2, _, _, rfl, _, _, rfl, rfl, q _ _ (fun _ _ z => z) rfl⟩
  intro D2 bs2 H3 hD2 hD20 e3 pw2
  have ebs2 := pair_bls pw2
  subst ebs2
  refine ⟨D2, _, rfl, SqL.of hD2, _, rfl, ?_⟩
  rw [any_trues]
  have e13 := e12.trans e3
  refine iteB (fun g3 => ?_) (fun g3 => ?_)
  · rw [show wayWhy ks wk = some "word" from (if_neg n12).trans ((if_neg (by rw [g2]; decide)).trans (if_pos g3))] at k
    exact mk_exc1 fun d hd => k _ d (e13.trans (same_new hd)) upd_same
  rw [show wayWhy ks wk = none from (if_neg n12).trans ((if_neg (by rw [g2]; decide)).trans (if_neg (by rw [g3]; decide)))] at k
  obtain ⟨okw, k⟩ := k
  refine ⟨_, rfl, yz, _, dz, gs, _, rfl, e13 _ _ hzx, T.cl_Choice, T.n_Choice_ways, lz, _, _, rfl, .inl (SqT.of (e13 _ _ et)), _, rfl, st, _, dst, _, _, rfl, e13 _ _ hs, T.cl_AddWay, T.n_AddWay_way, stw_way, by rw [sizeLine_eq, List.length_append]; show vs.length + 1 ≤ _; omega, fun L hL => ?_⟩
  have e14 := e13.trans (same_new (o := .lst (vs ++ [ww])) hL)
  refine fun o dx h1 h2 ne => ⟨_, _, rfl, _, o, some ((ks ++ [wk]).map Td.k), rfl, Fresh.mk' h1 h2 ne, .lst upd_same (kats_th (kats_snoc (kz.keep (KI.same e14)) (hw.keep (KI.same e14)))) (by rw [List.length_append]; show vs.length + 1 ≤ 100; omega), made_ok (seq_choice okw) fun K2 k2 hc => ⟨rfl, ?_⟩⟩
  exact k o K2 hc (e14.trans k2)
theorem ok_changed_kind (T : Txt K mg A) : FnOk P w K mg base (L2.CX P w) 6 A.f_changed_kind A.d_changed_kind ["table", "step"] (sp_changed_kind K A) := by
  refine T.F_changed_kind.okX sc_changed_kind (fun vs H Q E h => sp2_len h) (fun cdv A0 outer s H vs Q E hr h => ?_)
  have nd := sc_changed_kind.nd
  refine ⟨_, (pss_cons (ps_if (pt_val (pe_callB call_isi (by rfl) T.b_isinstance (by decide +kernel) (pa_cons (pv 1) (pa_cons (pe_glob (v := .ref A.c_AddKind) (by rfl) T.mg_AddKind rfl) pa_nil)))) pss_never pss_nil)
      (pss_cons (ps_if (pt_val (pe_callB call_isi (by rfl) T.b_isinstance (by decide +kernel) (pa_cons (pv 1) (pa_cons (pe_glob (v := .ref A.c_AddWay) (by rfl) T.mg_AddWay rfl) pa_nil)))) (pss_one (ps_ret (by exact (pe_callS (ok_way_added T) (hr.mono (by decide)) (by rfl) T.mg_way_added T.k_way_added T.b_way_added (fun σ => passAt (W := fun cls d _ H => E cls d H) (takes_of rfl rfl rfl rfl) σ) (by exact (pa_cons (pv 0) (pa_cons (pv 1) pa_nil))))))) pss_nil)
      pss_never)), ?_⟩
  clear nd hr
  replace h := sp2_of h
  obtain ⟨v_table, v_step, rfl, h⟩ := h

  obtain ⟨q, tb, kvs, st, n, ww, wk, ks, rfl, tq, hq, rfl, hst, okn, hl, l12, k⟩ := h
  obtain ⟨⟨dst, hs⟩, hw, wd⟩ := id hst
  have vt : VT K H (.ref st) (.ref A.c_AddWay) := .ins hs T.isc_AddWay T.o_AddWay
  have ne : A.c_AddWay ≠ A.c_AddKind := T.o_AddWay.ne T.o_AddKind (by decide +kernel)
  refine ⟨_, rfl, _, _, _, _, _, rfl, .own _, vt.tyx, kit_isaO vt.tag T.o_AddKind, false, congrArg V.bl (isa_noR ne), iteF ?_⟩
  refine ⟨_, rfl, _, _, _, _, _, rfl, .own _, vt.tyx, kit_isaO vt.tag T.o_AddWay, true, congrArg V.bl isa_self, iteY ?_⟩
  refine ⟨_, rfl, _, rfl, _, _, rfl, q, tb, kvs, st, n, ww, wk, ks, rfl, tq, hq, rfl, hst, okn, hl, l12, ?_⟩
  exact k
theorem ok_taken (T : Txt K mg A) : FnOk P w K mg base (L2.CX P w) 11 A.f_taken A.d_taken ["edition", "step"] (sp_taken K A) := by
  refine T.F_taken.okX sc_taken (fun vs H Q E h => sp2_len h) (fun cdv A0 outer s H vs Q E hr h => ?_)
  have nd := sc_taken.nd
  refine ⟨_, (pss_cons (ps_set (i := 2) nd rfl (by first | exact Or.inl rfl | exact Or.inr rfl) (pe_prop (pv 0) T.cl_Edition T.pr_Edition_kinds (ok_Edition_kinds T) (hr.mono (by decide)) T.b_Edition_kinds .nil pass0 (by rfl)))
      (pss_cons (ps_set (i := 3) nd rfl (by first | exact Or.inl rfl | exact Or.inr rfl) (by exact (pe_callS (ok_changed_kind T) (hr.mono (by decide)) (by rfl) T.mg_changed_kind T.k_changed_kind T.b_changed_kind (fun σ => passAt (W := fun cls d _ H => E cls d H) (takes_of rfl rfl rfl rfl) σ) (by exact (pa_cons (pv 2) (pa_cons (pv 1) pa_nil))))))
      (pss_cons (ps_asg (pv 3) (pg_sub (pv 2) (pe_fld (pv 1) rfl) (set_dict (hu_of hr))))
      (pss_one (ps_try_many rfl rfl takes0 (fun W pn xe tk pw => (pss_one (ps_ret (pe_make T.mk_Edition (ok_Edition___init__ T) (hr.mono (by decide)) (by rfl) T.mg_Edition T.b_Edition___init__ .nil pass0 (pa_cons (pv 2) (pa_cons (pe_fldK (K := K) rfl (pv 0) rfl) (pa_cons (pe_fldK (K := K) rfl (pv 0) rfl) pa_nil))))))) (.cons ⟨rfl, by decide, Or.inl T.mg_MissingKind⟩ (fun a oe cls d pn hz hf => pss_never) (.cons ⟨rfl, by decide, Or.inl T.mg_RingOfCalls⟩ (fun a oe cls d pn hz hf => pss_never) (.cons ⟨rfl, by decide, Or.inl T.mg_LongBody⟩ (fun a oe cls d pn hz hf => pss_never) (.cons ⟨rfl, by decide, Or.inl T.mg_RoomTaken⟩ (fun a oe cls d pn hz hf => pss_never) .nil))))))))), ?_⟩
  clear nd hr
  replace h := sp2_of h
  obtain ⟨v_edition, v_step, rfl, h⟩ := h

  obtain ⟨x, tb, r, c, st, n, ww, wk, ks, rfl, he, l20, rfl, hst, okn, hl, l12, k⟩ := h
  obtain ⟨dx, p0, kvs0, m0, om0, hx, _, _, _, _⟩ := he.at_
  have mn : n ∈ tb.names := List.mem_map.mpr ⟨_, look_mem hl, rfl⟩
  refine ⟨_, rfl, x, dx, _, rfl, hx, _, rfl, x, tb, r, c, rfl, he, l20, fun q kvs H1 hq tq hq0 e1 => ?_⟩
  refine ⟨_, rfl, _, rfl, _, _, rfl, q, tb, kvs, st, n, ww, wk, ks, rfl, tq, hq, rfl, hst.same e1, okn, hl, l12, ?_⟩
  cases hwhy : wayWhy ks wk with
  | some y =>
    rw [hwhy] at k
    exact fun H' d e2 hd => k H' d (e1.trans e2) hd
  | none =>
    rw [hwhy] at k
    obtain ⟨okw, ⟨rk, ok⟩, k⟩ := k
    refine ⟨okw, fun y H2 hky e2 => ?_⟩
    have hst2 := hst.same (e1.trans e2)
    obtain ⟨⟨dst, hs⟩, hw, wd⟩ := hst2
    have hq2 := e2 _ _ hq
    have tq2 := tq.same e2
    have lk : kvs.length ≤ 20 := by rw [tq.len]; exact l20
    refine ⟨_, rfl, _, rfl, _, rfl, st, _, dst, _, _, rfl, hs, T.cl_AddWay, T.n_AddWay_name, stw_name, q, _, rfl, .inl ⟨kvs, .inr n, hq2, rfl, by rw [sizeLine_eq]; omega, rfl⟩, ?_⟩
    rw [put_there tq2 mn]
    have e3 : Same H (upd H2 q (.dK (kvs.map fun kv => if kv.1 = (.inr n : Key) then (kv.1, .ref y) else kv))) := same_put hq0 (e1.trans e2)
    have hq3 : (upd H2 q (.dK (kvs.map fun kv => if kv.1 = (.inr n : Key) then (kv.1, .ref y) else kv))) q = some (.dK (kvs.map fun kv => if kv.1 = (.inr n : Key) then (kv.1, .ref y) else kv)) := upd_same
    have tq3 : TbAt A (upd H2 q (.dK (kvs.map fun kv => if kv.1 = (.inr n : Key) then (kv.1, .ref y) else kv))) q (setTb tb n (.choice (ks ++ [wk]))) (kvs.map fun kv => if kv.1 = (.inr n : Key) then (kv.1, .ref y) else kv) :=
      ⟨.inl hq3, paired_impE (fun _ _ z => ⟨z.1, KAt.keepD hq2 z.2⟩) (ents_set hky tq2.en)⟩
    generalize upd H2 q (.dK (kvs.map fun kv => if kv.1 = (.inr n : Key) then (kv.1, .ref y) else kv)) = H3 at e3 hq3 tq3 ⊢
    have hx3 := e3 _ _ hx
    refine ⟨_, rfl, _, rfl, x, _, dx, _, _, rfl, hx3, T.cl_Edition, T.n_Edition_root, ed_root, _, rfl, x, _, dx, _, _, rfl, hx3, T.cl_Edition, T.n_Edition_count, ed_count, fun o dd h1 h2 ne => ⟨_, _, _, _, rfl, H3, o, q, _, _, rk, r, c, rfl, Fresh.mk' h1 h2 ne, rfl, rfl, rfl, tq3, hq3, ok, fun H' he' e4 => ⟨rfl, k o H' he' (e3.trans e4)⟩⟩⟩
theorem ok__law_start (T : Txt K mg A) : FnOk P w K mg base CX0 1 A.f__law_start A.d__law_start ["script"] (sp__law_start K A) := by
  refine T.F__law_start.ok sc__law_start (fun vs H Q E h => sp1_len h) (fun cdv A0 outer s H vs Q E hr h => ?_)
  have nd := sc__law_start.nd
  refine ⟨_, (pss_one (ps_ret (pe_lst (pa_cons (pe_callTy call_list_of (by rfl) T.b_list (by decide +kernel) (pa_cons (pv 0) pa_nil)) (pa_cons pe_int (pa_cons pe_int (pa_cons pe_int pa_nil))))))), ?_⟩
  clear nd hr
  replace h := sp1_of h
  obtain ⟨v_script, rfl, h⟩ := h

  obtain ⟨l, ns, rfl, hl, hn, k⟩ := h
  refine ⟨_, rfl, l, _, rfl, .inl hl, fun q hq => ⟨by show 4 ≤ sizeLine; rw [sizeLine_eq]; decide, fun p hp => ?_⟩⟩
  have nqp : q ≠ p := fun z => by rw [← z, upd_same] at hp; cases hp
  have hp0 : H p = none := by rw [upd_ne nqp.symm] at hp; exact hp
  refine k ⟨p, q, ns⟩ _ hp0 hq (fun b u e => ?_) ⟨0, 0, 2718281, nqp, upd_same, ?_, Nat.zero_le _, hn, by decide, by decide, by decide⟩
  · rw [upd_ne (ne_of_none e hp0), upd_ne (ne_of_none e hq)]
    exact e
  · show upd _ p _ q = _
    rw [upd_ne nqp, upd_same]
theorem ok__law_pull (T : Txt K mg A) : FnOk P w K mg base CX0 1 A.f__law_pull A.d__law_pull ["state", "many"] (sp__law_pull K A) := by
  refine T.F__law_pull.ok sc__law_pull (fun vs H Q E h => sp2_len h) (fun cdv A0 outer s H vs Q E hr h => ?_)
  have nd := sc__law_pull.nd
  refine ⟨_, (Evl.pss_cut (ps_if (PW.pt (pw_and (pt_cmpR op_eq (pe_ix ix_list (pv 0) pe_int (fun _ _ => rfl)) pe_int (nomark _)) (pw_and1 (pt_cmpR op_lt (pe_ix ix_list (pv 0) pe_int (fun _ _ => rfl)) (pe_callB call_len (by rfl) T.b_len (by decide +kernel) (pa_cons (pe_ix ix_list (pv 0) pe_int (fun _ _ => rfl)) pa_nil)) (nomark _))))) (pss_cons (ps_set (i := 2) nd rfl (by first | exact Or.inl rfl | exact Or.inr rfl) (pe_ix ix_list (pe_ix ix_list (pv 0) pe_int (fun _ _ => rfl)) (pe_ix ix_list (pv 0) pe_int (fun _ _ => rfl)) (fun _ _ => rfl)))
      (pss_cons (ps_asg (pe_op op_add (pe_ix ix_list (pv 0) pe_int (fun _ _ => rfl)) pe_int) (pg_sub (pv 0) pe_int set_list))
      (pss_one (ps_if (pt_cmpR op_ge (pv 2) (pe_op op_pow pe_int pe_int) (nomark _)) (pss_one (ps_asg (pv 2) (pg_sub (pv 0) pe_int set_list))) (pss_one (ps_asg (pe_op op_mod (pe_callTy call_int1 (by rfl) T.b_int (by decide +kernel) (pa_cons (pe_op op_add (pe_op op_add (pe_op op_mul (pe_ix ix_list (pv 0) pe_int (fun _ _ => rfl)) pe_int) (pe_op op_mod (pe_callTy call_int1 (by rfl) T.b_int (by decide +kernel) (pa_cons (pv 2) pa_nil)) pe_int)) pe_int) pa_nil)) pe_int) (pg_sub (pv 0) pe_int set_list))))))) pss_nil)
      (pss_cons (ps_if (pt_cmpR op_gt (pe_ix ix_list (pv 0) pe_int (fun _ _ => rfl)) pe_int (nomark _)) (pss_cons (ps_set (i := 3) nd rfl (by first | exact Or.inl rfl | exact Or.inr rfl) (pe_op op_mod (pe_callTy call_int1 (by rfl) T.b_int (by decide +kernel) (pa_cons (pe_ix ix_list (pv 0) pe_int (fun _ _ => rfl)) pa_nil)) (pv 1)))
      (pss_cons (ps_asg (pe_op op_fdivW (pe_ix ix_list (pv 0) pe_int (fun _ _ => rfl)) (pv 1)) (pg_sub (pv 0) pe_int set_list))
      (pss_one (ps_ret (pv 3))))) pss_nil)
      (pss_cons (ps_asg (pe_op op_mod (pe_callTy call_int1 (by rfl) T.b_int (by decide +kernel) (pa_cons (pe_op op_add (pe_op op_mul (pe_ix ix_list (pv 0) pe_int (fun _ _ => rfl)) pe_int) pe_int) pa_nil)) pe_int) (pg_sub (pv 0) pe_int set_list))
      (pss_cons (ps_set (i := 3) nd rfl (by first | exact Or.inl rfl | exact Or.inr rfl) (pe_op op_mod (pe_callTy call_int1 (by rfl) T.b_int (by decide +kernel) (pa_cons (pe_op op_add (pe_op op_mul (pe_ix ix_list (pv 0) pe_int (fun _ _ => rfl)) pe_int) (pe_op op_fdivW (pe_ix ix_list (pv 0) pe_int (fun _ _ => rfl)) pe_int)) pa_nil)) pe_int))
      (pss_one (ps_ret (pe_op op_mod (pe_callTy call_int1 (by rfl) T.b_int (by decide +kernel) (pa_cons (pe_op op_fdivW (pv 3) pe_int) pa_nil)) (pv 1)))))))), ?_⟩
  clear nd hr
  replace h := sp2_of h
  obtain ⟨v_state, v_many, rfl, h⟩ := h

  obtain ⟨d, many, rfl, rfl, ⟨i, c, s, R⟩, hm, hlog, k⟩ := h
  refine ⟨fun σ' H' => ∃ (v : Option V) (j : Nat) (x t : Int), σ' = [some (.ref d.p), some (.int many), v, none] ∧ Chg d H H' ∧ RngL H' d j x t, ?_, ?_⟩
  · refine ⟨_, rfl, _, _, _, _, rfl, rfl, SqL.of R.st, rfl, rfl, _, rfl, ?_⟩
    refine ite2 (fun hc0 => ?_) (fun _ => iteF ⟨none, i, c, s, rfl, Chg.refl, R⟩)
    refine ⟨_, rfl, _, _, _, _, rfl, rfl, SqL.of R.st, rfl, _, rfl, _, _, _, _, rfl, rfl, SqL.of R.st, rfl, _, _, rfl, .inl ⟨_, SqL.of R.ls, rfl⟩, _, _, rfl, rfl, _, rfl, ?_⟩
    refine ite2 (fun hlt => ?_) (fun _ => ⟨none, i, c, s, rfl, Chg.refl, R⟩)
    have hi : i < d.ns.length := by
      have q := of_decide_eq_true hlt
      rw [List.length_map] at q
      omega
    have hat : atI (d.ns.map V.int) (i : Int) = some (.int d.ns[i]) := atI_nat (by simp [hi])
    refine ⟨_, rfl, _, _, _, _, rfl, rfl, SqL.of R.st, rfl, _, rfl, _, _, _, _, rfl, rfl, SqL.of R.st, rfl, _, _, _, _, rfl, rfl, SqL.of R.ls, hat, ?_⟩
    refine ⟨_, rfl, _, _, _, _, rfl, rfl, SqL.of R.st, rfl, _, _, rfl, rfl, _, rfl, _, _, _, _, rfl, rfl, R.st, rfl, ?_⟩
    have R1 : RngL (upd H d.p (.lst [.ref d.l, .int ((i + 1 : Nat) : Int), .int c, .int s])) d (i + 1) c s := R.set hi R.hc R.hs R.hs2
    have e1 : Chg d H (upd H d.p (.lst [.ref d.l, .int ((i + 1 : Nat) : Int), .int c, .int s])) := Chg.upd
    refine heap_gen (fun H1 => RngL H1 d (i + 1) c s ∧ Chg d H H1) ⟨R1, e1⟩ fun H1 ⟨R1, e1⟩ => ?_
    refine ⟨_, rfl, _, _, rfl, rfl, ⟨by decide, by decide, by decide⟩, _, _, rfl, rfl, _, rfl, ?_⟩
    refine ite2 (fun hge => ?_) (fun _ => ?_)
    · have h0 : 0 ≤ d.ns[i] := by
        have q := of_decide_eq_true hge
        have e : ((10 : Int) ^ ((18 : Int).toNat)) = 1000000000000000000 := by decide
        rw [e] at q
        omega
      refine ⟨_, rfl, _, rfl, _, _, _, _, rfl, rfl, R1.st, rfl, ?_⟩
      exact ⟨_, i + 1, d.ns[i], s, rfl, e1.trans Chg.upd, R1.set R1.hi h0 R1.hs R1.hs2⟩
    · refine ⟨_, rfl, _, _, _, _, rfl, rfl, SqL.of R1.st, rfl, _, _, rfl, rfl, .inl ⟨by have := R1.hs; omega, by have := R1.hs2; omega⟩, _, rfl, .inl ⟨_, rfl, _, _, rfl, rfl, pos_ (by decide), _, _, rfl, rfl, _, _, rfl, rfl, .inl ⟨_, rfl, _, _, rfl, rfl, pos_ (by decide), ?_⟩⟩⟩
      refine ⟨_, rfl, _, _, _, _, rfl, rfl, R1.st, rfl, ?_⟩
      exact ⟨_, i + 1, c, _, rfl, e1.trans Chg.upd, R1.set R1.hi R1.hc (Int.emod_nonneg _ (by decide)) (Int.emod_lt_of_pos _ (by decide))⟩
  · rintro σ' H' ⟨v, j, x, t, rfl, e1, R1⟩
    refine ⟨_, rfl, _, _, _, _, rfl, rfl, SqL.of R1.st, rfl, _, _, rfl, rfl, _, rfl, ?_⟩
    refine ite2 (fun hd => ?_) (fun _ => ?_)
    · refine ⟨_, rfl, _, _, _, _, rfl, rfl, SqL.of R1.st, rfl, .inl ⟨_, rfl, _, rfl, _, _, rfl, rfl, hm, ?_⟩⟩
      refine ⟨_, rfl, _, _, _, _, rfl, rfl, SqL.of R1.st, rfl, _, rfl, _, _, rfl, rfl, ⟨hm, hlog⟩, _, rfl, _, _, _, _, rfl, rfl, R1.st, rfl, _, rfl, ?_⟩
      exact k _ _ (Int.emod_nonneg _ (by omega)) (Int.emod_lt_of_pos _ hm) (e1.trans Chg.upd) ⟨_, _, _, R1.set R1.hi (Int.ediv_nonneg R1.hc (Int.le_of_lt hm)) R1.hs R1.hs2⟩
    · refine ⟨_, rfl, _, _, _, _, rfl, rfl, SqL.of R1.st, rfl, _, _, rfl, rfl, .inl ⟨by have := R1.hs; omega, by have := R1.hs2; omega⟩, _, _, rfl, rfl, .inl ⟨_, rfl, _, _, rfl, rfl, pos_ (by decide), _, rfl, _, _, _, _, rfl, rfl, R1.st, rfl, ?_⟩⟩
      have R2 := R1.set (j := j) (x := x) R1.hi R1.hc (Int.emod_nonneg ((t * 69621 + 11)) (by decide : (2147483647 : Int) ≠ 0)) (Int.emod_lt_of_pos (t * 69621 + 11) (by decide : (0 : Int) < 2147483647))
      have e2 := e1.trans (Chg.upd (o := .lst [.ref d.l, .int (j : Int), .int x, .int ((t * 69621 + 11) % 2147483647)]))
      refine heap_gen (fun H2 => RngL H2 d j x ((t * 69621 + 11) % 2147483647) ∧ Chg d H H2) ⟨R2, e2⟩ fun H2 ⟨R2, e2⟩ => ?_
      generalize (t * 69621 + 11) % 2147483647 = t2 at R2
      refine ⟨_, rfl, _, _, _, _, rfl, rfl, SqL.of R2.st, rfl, _, _, rfl, rfl, .inl ⟨by have := R2.hs; omega, by have := R2.hs2; omega⟩, _, rfl, _, _, _, _, rfl, rfl, SqL.of R2.st, rfl, _, _, rfl, rfl, ⟨by decide, small_log (by decide) (by decide)⟩, _, _, rfl, rfl, .inl ⟨_, rfl, _, _, rfl, rfl, pos_ (by decide), ?_⟩⟩
      refine ⟨_, rfl, _, _, rfl, rfl, ⟨by decide, small_log (by decide) (by decide)⟩, .inl ⟨_, rfl, _, rfl, _, _, rfl, rfl, hm, ?_⟩⟩
      exact k _ _ (Int.emod_nonneg _ (by omega)) (Int.emod_lt_of_pos _ hm) e2 ⟨_, _, _, R2⟩
theorem ok__law_is_int (T : Txt K mg A) : FnOk P w K mg base CX0 1 A.f__law_is_int A.d__law_is_int ["told"] (sp__law_is_int K A) := by
  refine T.F__law_is_int.ok sc__law_is_int (fun vs H Q E h => sp1_len h) (fun cdv A0 outer s H vs Q E hr h => ?_)
  have nd := sc__law_is_int.nd
  refine ⟨_, (pss_one (ps_ret (pe_and (pe_callB call_isi (by rfl) T.b_isinstance (by decide +kernel) (pa_cons (pv 0) (pa_cons (pe_bltn (v := .ty "int") (by rfl) T.b_int (by decide +kernel) rfl) pa_nil))) (pe_one (pe_not (pe_callB call_isi (by rfl) T.b_isinstance (by decide +kernel) (pa_cons (pv 0) (pa_cons (pe_bltn (v := .ty "bool") (by rfl) T.b_bool (by decide +kernel) rfl) pa_nil)))))))), ?_⟩
  clear nd hr
  replace h := sp1_of h
  obtain ⟨v_told, rfl, h⟩ := h

  obtain ⟨t, hv, k⟩ := h
  rw [isI_of hv] at k
  refine ⟨_, rfl, _, _, _, _, _, rfl, .ty _, hv.tyx, kit_isa hv.tag (by decide), _, rfl, iteB (fun h1 => ?_) (fun h1 => ?_)⟩
  · refine ⟨_, rfl, _, _, _, _, _, rfl, .ty _, hv.tyx, kit_isa hv.tag (by decide), _, rfl, ?_⟩
    rw [h1, Bool.true_and] at k
    exact k
  · rw [h1, Bool.false_and] at k
    exact k
theorem ok__law_same0 (T : Txt K mg A) : FnOk P w K mg base CX0 2 A.f__law_same A.d__law_same ["told", "due"] (sp__law_same0 K A) := by
  refine T.F__law_same.ok sc__law_same (fun vs H Q E h => sp2_len h) (fun cdv A0 outer s H vs Q E hr h => ?_)
  have nd := sc__law_same.nd
  refine ⟨_, (pss_cons (ps_if (pt_cmpR op_isN (pv 1) pe_non (nomark _)) (pss_one (ps_ret (pe_cmpR op_isN (pv 0) pe_non (nomark _)))) pss_nil)
      (pss_cons (ps_if (pt_val (pe_callB call_isi (by rfl) T.b_isinstance (by decide +kernel) (pa_cons (pv 1) (pa_cons (pe_bltn (v := .ty "bool") (by rfl) T.b_bool (by decide +kernel) rfl) pa_nil)))) (pss_one (ps_ret (pe_and (pe_callB call_isi (by rfl) T.b_isinstance (by decide +kernel) (pa_cons (pv 0) (pa_cons (pe_bltn (v := .ty "bool") (by rfl) T.b_bool (by decide +kernel) rfl) pa_nil))) (pe_one (pe_cmpR op_eq (pv 0) (pv 1) (nomark _)))))) pss_nil)
      (pss_cons (ps_if (pt_val (pe_callB call_isi (by rfl) T.b_isinstance (by decide +kernel) (pa_cons (pv 1) (pa_cons (pe_bltn (v := .ty "int") (by rfl) T.b_int (by decide +kernel) rfl) pa_nil)))) (pss_one (ps_ret (pe_and (pe_call (ok__law_is_int T) (hr.mono (by decide)) (by rfl) T.mg__law_is_int T.k__law_is_int T.b__law_is_int .nil pass0 (pa_cons (pv 0) pa_nil)) (pe_one (pe_cmpR op_eq (pv 0) (pv 1) (nomark _)))))) pss_nil)
      (pss_cons (ps_if (pt_val (pe_callB call_isi (by rfl) T.b_isinstance (by decide +kernel) (pa_cons (pv 1) (pa_cons (pe_bltn (v := .ty "str") (by rfl) T.b_str (by decide +kernel) rfl) pa_nil)))) (pss_one (ps_ret (pe_and (pe_callB call_isi (by rfl) T.b_isinstance (by decide +kernel) (pa_cons (pv 0) (pa_cons (pe_bltn (v := .ty "str") (by rfl) T.b_str (by decide +kernel) rfl) pa_nil))) (pe_one (pe_cmpR op_eq (pv 0) (pv 1) (nomark _)))))) pss_nil)
      pss_never)))), ?_⟩
  clear nd hr
  replace h := sp2_of h
  obtain ⟨v_told, v_due, rfl, h⟩ := h

  obtain ⟨rfl, ha, k⟩ := h
  cases v_told with
  | non => exact ⟨_, rfl, rfl, _, rfl, iteB (fun _ => ⟨_, rfl, rfl, k⟩) (fun z => nomatch z)⟩
  | int i =>
    have hv : VT K H (.int i) (.type "int") := .int i
    refine ⟨_, rfl, rfl, _, rfl, iteB (fun z => nomatch z) (fun _ => ?_)⟩
    refine ⟨_, rfl, _, _, _, _, _, rfl, .ty _, hv.tyx, kit_isa hv.tag (by decide), _, rfl, iteB (fun z => absurd z (by decide)) (fun _ => ?_)⟩
    refine ⟨_, rfl, _, _, _, _, _, rfl, .ty _, hv.tyx, kit_isa hv.tag (by decide), _, rfl, iteB (fun _ => ?_) (fun z => absurd z (by decide))⟩
    refine ⟨_, rfl, _, rfl, _, hv, _, rfl, iteB (fun _ => ⟨_, rfl, _, rfl, rfl, ?_⟩) (fun z => nomatch z)⟩
    rw [decide_eq_true rfl]
    exact k
  | str x =>
    have hv : VT K H (.str x) (.type "str") := .str x
    refine ⟨_, rfl, rfl, _, rfl, iteB (fun z => nomatch z) (fun _ => ?_)⟩
    refine ⟨_, rfl, _, _, _, _, _, rfl, .ty _, hv.tyx, kit_isa hv.tag (by decide), _, rfl, iteB (fun z => absurd z (by decide)) (fun _ => ?_)⟩
    refine ⟨_, rfl, _, _, _, _, _, rfl, .ty _, hv.tyx, kit_isa hv.tag (by decide), _, rfl, iteB (fun z => absurd z (by decide)) (fun _ => ?_)⟩
    refine ⟨_, rfl, _, _, _, _, _, rfl, .ty _, hv.tyx, kit_isa hv.tag (by decide), _, rfl, iteB (fun _ => ?_) (fun z => absurd z (by decide))⟩
    refine ⟨_, rfl, _, _, _, _, _, rfl, .ty _, hv.tyx, kit_isa hv.tag (by decide), _, rfl, iteB (fun _ => ⟨_, rfl, _, rfl, rfl, ?_⟩) (fun z => absurd z (by decide))⟩
    rw [decide_eq_true rfl]
    exact k
  | _ => exact ha.elim
theorem ok__law_same (T : Txt K mg A) : FnOk P w K mg base CX0 3 A.f__law_same A.d__law_same ["told", "due"] (sp__law_same K A) := by
  refine T.F__law_same.ok sc__law_same (fun vs H Q E h => sp2_len h) (fun cdv A0 outer s H vs Q E hr h => ?_)
  have nd := sc__law_same.nd
  refine ⟨_, (pss_cons (ps_if (pt_cmpR op_isN (pv 1) pe_non (nomark _)) (pss_one (ps_ret (pe_cmpR op_isN (pv 0) pe_non (nomark _)))) pss_nil)
      (pss_cons (ps_if (pt_val (pe_callB call_isi (by rfl) T.b_isinstance (by decide +kernel) (pa_cons (pv 1) (pa_cons (pe_bltn (v := .ty "bool") (by rfl) T.b_bool (by decide +kernel) rfl) pa_nil)))) (pss_one (ps_ret (pe_and (pe_callB call_isi (by rfl) T.b_isinstance (by decide +kernel) (pa_cons (pv 0) (pa_cons (pe_bltn (v := .ty "bool") (by rfl) T.b_bool (by decide +kernel) rfl) pa_nil))) (pe_one (pe_cmpR op_eq (pv 0) (pv 1) (nomark _)))))) pss_nil)
      (pss_cons (ps_if (pt_val (pe_callB call_isi (by rfl) T.b_isinstance (by decide +kernel) (pa_cons (pv 1) (pa_cons (pe_bltn (v := .ty "int") (by rfl) T.b_int (by decide +kernel) rfl) pa_nil)))) (pss_one (ps_ret (pe_and (pe_call (ok__law_is_int T) (hr.mono (by decide)) (by rfl) T.mg__law_is_int T.k__law_is_int T.b__law_is_int .nil pass0 (pa_cons (pv 0) pa_nil)) (pe_one (pe_cmpR op_eq (pv 0) (pv 1) (nomark _)))))) pss_nil)
      (pss_cons (ps_if (pt_val (pe_callB call_isi (by rfl) T.b_isinstance (by decide +kernel) (pa_cons (pv 1) (pa_cons (pe_bltn (v := .ty "str") (by rfl) T.b_str (by decide +kernel) rfl) pa_nil)))) (pss_one (ps_ret (pe_and (pe_callB call_isi (by rfl) T.b_isinstance (by decide +kernel) (pa_cons (pv 0) (pa_cons (pe_bltn (v := .ty "str") (by rfl) T.b_str (by decide +kernel) rfl) pa_nil))) (pe_one (pe_cmpR op_eq (pv 0) (pv 1) (nomark _)))))) pss_nil)
      (pss_cons (ps_if (PW.pt (pw_and (pt_val (pe_callB call_isi (by rfl) T.b_isinstance (by decide +kernel) (pa_cons (pv 1) (pa_cons (pe_bltn (v := .ty "list") (by rfl) T.b_list (by decide +kernel) rfl) pa_nil)))) (pw_and1 (pt_not (pt_val (pe_callB call_isi (by rfl) T.b_isinstance (by decide +kernel) (pa_cons (pv 0) (pa_cons (pe_bltn (v := .ty "list") (by rfl) T.b_list (by decide +kernel) rfl) pa_nil)))))))) (pss_one (ps_ret pe_bl)) pss_nil)
      (pss_cons (ps_if (PW.pt (pw_and (pt_val (pe_callB call_isi (by rfl) T.b_isinstance (by decide +kernel) (pa_cons (pv 1) (pa_cons (pe_bltn (v := .ty "tuple") (by rfl) T.b_tuple (by decide +kernel) rfl) pa_nil)))) (pw_and1 (pt_not (pt_val (pe_callB call_isi (by rfl) T.b_isinstance (by decide +kernel) (pa_cons (pv 0) (pa_cons (pe_bltn (v := .ty "tuple") (by rfl) T.b_tuple (by decide +kernel) rfl) pa_nil)))))))) (pss_one (ps_ret pe_bl)) pss_nil)
      (pss_cons (ps_if (pt_cmpR op_ne (pe_callB call_len (by rfl) T.b_len (by decide +kernel) (pa_cons (pv 0) pa_nil)) (pe_callB call_len (by rfl) T.b_len (by decide +kernel) (pa_cons (pv 1) pa_nil)) (nomark _)) (pss_one (ps_ret pe_bl)) pss_nil)
      (pss_cons (ps_for PassesOwn.never rfl (pi_range1 (by rfl) T.b_range (pa_cons (pe_callB call_len (by rfl) T.b_len (by decide +kernel) (pa_cons (pv 1) pa_nil)) pa_nil)) (pg_name (i := 2) nd rfl (by first | exact Or.inl rfl | exact Or.inr rfl)) (pss_one (ps_if (pt_not (pt_val (pe_call (ok__law_same0 T) (hr.mono (by decide)) (by rfl) T.mg__law_same T.k__law_same T.b__law_same .nil pass0 (pa_cons (pe_ix ix_seq (pv 0) (pv 2) (fun _ _ => rfl)) (pa_cons (pe_ix ix_seq (pv 1) (pv 2) (fun _ _ => rfl)) pa_nil))))) (pss_one (ps_ret pe_bl)) pss_nil)))
      (pss_one (ps_ret pe_bl)))))))))), ?_⟩
  clear nd hr
  replace h := sp2_of h
  obtain ⟨v_told, v_due, rfl, h⟩ := h

  obtain ⟨p, q, xs, rfl, rfl, hpq, ha, hl, k⟩ := h
  rcases hpq with ⟨hp, hq0⟩ | ⟨hp, hq0⟩
  · skip
    have hq : VT K H (.ref q) (.type "tuple") := .tup hq0
    have hpt : VT K H (.ref p) (.type "tuple") := .tup hp
    refine ⟨_, rfl, rfl, _, rfl, iteB (fun z => nomatch z) (fun _ => ?_)⟩
    refine ⟨_, rfl, _, _, _, _, _, rfl, .ty _, hq.tyx, kit_isa hq.tag (by decide), _, rfl, iteB (fun z => absurd z (by decide)) (fun _ => ?_)⟩
    refine ⟨_, rfl, _, _, _, _, _, rfl, .ty _, hq.tyx, kit_isa hq.tag (by decide), _, rfl, iteB (fun z => absurd z (by decide)) (fun _ => ?_)⟩
    refine ⟨_, rfl, _, _, _, _, _, rfl, .ty _, hq.tyx, kit_isa hq.tag (by decide), _, rfl, iteB (fun z => absurd z (by decide)) (fun _ => ?_)⟩
    refine ⟨_, rfl, _, _, _, _, _, rfl, .ty _, hq.tyx, kit_isa hq.tag (by decide), _, rfl, iteB (fun z => absurd z (by decide)) (fun _ => iteF ?_)⟩
    refine ⟨_, rfl, _, _, _, _, _, rfl, .ty _, hq.tyx, kit_isa hq.tag (by decide), _, rfl, iteB (fun _ => ⟨_, rfl, _, _, _, _, _, rfl, .ty _, hpt.tyx, kit_isa hpt.tag (by decide), _, rfl, iteB (fun z => absurd z (by decide)) (fun _ => ?_)⟩) (fun z => absurd z (by decide))⟩
    refine ⟨_, rfl, _, _, rfl, .inr ⟨_, SqT.of hp, rfl⟩, _, rfl, _, _, rfl, .inr ⟨_, SqT.of hq0, rfl⟩, rfl, _, rfl, iteB (fun z => ?_) (fun _ => ?_)⟩
    · rw [decide_eq_true rfl] at z
      cases z
    refine ⟨_, rfl, _, _, rfl, .inr ⟨_, SqT.of hq0, rfl⟩, xs.length, rfl, by omega, by omega, for_range (n := xs.length) (fun i σ' H' => ∃ kv : Option V, σ' = [some (.ref p), some (.ref q), kv] ∧ H' = H) ⟨_, rfl, rfl⟩ ?_ ?_⟩
    · rintro i σ' H' hi ⟨kv, rfl, rfl⟩
      have hat : atI xs (i : Int) = some xs[i] := atI_nat (by simp [hi])
      refine ⟨_, rfl, _, rfl, .inr <| .inl ⟨_, _, _, _, rfl, rfl, SqT.of hp, (by rw [Int.zero_add]; exact hat), _, rfl, _, rfl, .inr <| .inl ⟨_, _, _, _, rfl, rfl, SqT.of hq0, (by rw [Int.zero_add]; exact hat), _, _, rfl, rfl, ha _ (List.getElem_mem hi), _, rfl, iteB (fun z => nomatch z) (fun _ => ⟨_, rfl, rfl⟩)⟩⟩⟩
    · rintro σ' H' ⟨kv, rfl, rfl⟩
      exact k
  · skip
    have hq : VT K H (.ref q) (.type "list") := .lst hq0
    have hpt : VT K H (.ref p) (.type "list") := .lst hp
    refine ⟨_, rfl, rfl, _, rfl, iteB (fun z => nomatch z) (fun _ => ?_)⟩
    refine ⟨_, rfl, _, _, _, _, _, rfl, .ty _, hq.tyx, kit_isa hq.tag (by decide), _, rfl, iteB (fun z => absurd z (by decide)) (fun _ => ?_)⟩
    refine ⟨_, rfl, _, _, _, _, _, rfl, .ty _, hq.tyx, kit_isa hq.tag (by decide), _, rfl, iteB (fun z => absurd z (by decide)) (fun _ => ?_)⟩
    refine ⟨_, rfl, _, _, _, _, _, rfl, .ty _, hq.tyx, kit_isa hq.tag (by decide), _, rfl, iteB (fun z => absurd z (by decide)) (fun _ => ?_)⟩
    refine ⟨_, rfl, _, _, _, _, _, rfl, .ty _, hq.tyx, kit_isa hq.tag (by decide), _, rfl, iteB (fun _ => ⟨_, rfl, _, _, _, _, _, rfl, .ty _, hpt.tyx, kit_isa hpt.tag (by decide), _, rfl, iteB (fun z => absurd z (by decide)) (fun _ => ?_)⟩) (fun z => absurd z (by decide))⟩
    refine ⟨_, rfl, _, _, _, _, _, rfl, .ty _, hq.tyx, kit_isa hq.tag (by decide), _, rfl, iteB (fun z => absurd z (by decide)) (fun _ => iteF ?_)⟩
    refine ⟨_, rfl, _, _, rfl, .inl ⟨_, SqL.of hp, rfl⟩, _, rfl, _, _, rfl, .inl ⟨_, SqL.of hq0, rfl⟩, rfl, _, rfl, iteB (fun z => ?_) (fun _ => ?_)⟩
    · rw [decide_eq_true rfl] at z
      cases z
    refine ⟨_, rfl, _, _, rfl, .inl ⟨_, SqL.of hq0, rfl⟩, xs.length, rfl, by omega, by omega, for_range (n := xs.length) (fun i σ' H' => ∃ kv : Option V, σ' = [some (.ref p), some (.ref q), kv] ∧ H' = H) ⟨_, rfl, rfl⟩ ?_ ?_⟩
    · rintro i σ' H' hi ⟨kv, rfl, rfl⟩
      have hat : atI xs (i : Int) = some xs[i] := atI_nat (by simp [hi])
      refine ⟨_, rfl, _, rfl, .inl ⟨_, _, _, _, rfl, rfl, SqL.of hp, (by rw [Int.zero_add]; exact hat), _, rfl, _, rfl, .inl ⟨_, _, _, _, rfl, rfl, SqL.of hq0, (by rw [Int.zero_add]; exact hat), _, _, rfl, rfl, ha _ (List.getElem_mem hi), _, rfl, iteB (fun z => nomatch z) (fun _ => ⟨_, rfl, rfl⟩)⟩⟩⟩
    · rintro σ' H' ⟨kv, rfl, rfl⟩
      exact k
theorem ok__law_name (T : Txt K mg A) : FnOk P w K mg base CX0 2 A.f__law_name A.d__law_name ["state", "used"] (sp__law_name K A) := by
  refine T.F__law_name.ok sc__law_name (fun vs H Q E h => sp2_len h) (fun cdv A0 outer s H vs Q E hr h => ?_)
  have nd := sc__law_name.nd
  refine ⟨_, (pss_cons (ps_set (i := 2) nd rfl (by first | exact Or.inl rfl | exact Or.inr rfl) pe_str)
      (pss_cons (ps_set (i := 3) nd rfl (by first | exact Or.inl rfl | exact Or.inr rfl) pe_str)
      (pss_cons (ps_for PassesOwn.never rfl (pi_range1 (by rfl) T.b_range (pa_cons (pe_call (ok__law_pull T) (hr.mono (by decide)) (by rfl) T.mg__law_pull T.k__law_pull T.b__law_pull .nil pass0 (pa_cons (pv 0) (pa_cons pe_int pa_nil))) pa_nil)) (pg_name (i := 4) nd rfl (by first | exact Or.inl rfl | exact Or.inr rfl)) (pss_one (ps_set (i := 3) nd rfl (by first | exact Or.inl rfl | exact Or.inr rfl) (pe_op op_add_str (pv 3) (pe_ix ix_str (pv 2) (pe_call (ok__law_pull T) (hr.mono (by decide)) (by rfl) T.mg__law_pull T.k__law_pull T.b__law_pull .nil pass0 (pa_cons (pv 0) (pa_cons pe_int pa_nil))) (fun _ _ => rfl))))))
      (pss_cons (ps_set (i := 5) nd rfl (by first | exact Or.inl rfl | exact Or.inr rfl) (pe_call (ok__law_pull T) (hr.mono (by decide)) (by rfl) T.mg__law_pull T.k__law_pull T.b__law_pull .nil pass0 (pa_cons (pv 0) (pa_cons (pe_op op_add (pe_callB call_len_str (by rfl) T.b_len (by decide +kernel) (pa_cons (pv 3) pa_nil)) pe_int) pa_nil))))
      (pss_cons (ps_set (i := 6) nd rfl (by first | exact Or.inl rfl | exact Or.inr rfl) (pe_call (ok__law_pull T) (hr.mono (by decide)) (by rfl) T.mg__law_pull T.k__law_pull T.b__law_pull .nil pass0 (pa_cons (pv 0) (pa_cons pe_int pa_nil))))
      (pss_cons (ps_for PassesOwn.never rfl (pi_range1 (by rfl) T.b_range (pa_cons pe_int pa_nil)) (pg_name (i := 4) nd rfl (by first | exact Or.inl rfl | exact Or.inr rfl)) (pss_cons (ps_set (i := 7) nd rfl (by first | exact Or.inl rfl | exact Or.inr rfl) (pe_op op_add_str (pe_op op_add_str (pe_slice sl_str (pv 3) po_none (po_some (pv 5))) (pe_ix ix_str (pv 2) (pe_op op_mod (pe_callTy call_int1 (by rfl) T.b_int (by decide +kernel) (pa_cons (pe_op op_add (pv 6) (pv 4)) pa_nil)) pe_int) (fun _ _ => rfl))) (pe_slice sl_str (pv 3) (po_some (pv 5)) po_none)))
      (pss_one (ps_if (pt_cmpR op_notIn_seq (pv 7) (pv 1) (by rfl)) (pss_cons (ps_expr (pe_bm PySem.F.plainAttrs_list PySem.F.slot_list_append PySem.F.type_list_append mt_append (pv 1) (pa_cons (pv 7) pa_nil)))
      (pss_one (ps_ret (pv 7)))) pss_nil))))
      pss_never)))))), ?_⟩
  clear nd hr
  replace h := sp2_of h
  obtain ⟨v_state, v_used, rfl, h⟩ := h

  obtain ⟨d, p, us, rfl, rfl, np, npl, r, hp, l25, k⟩ := h
  refine ⟨_, rfl, _, _, rfl, d, _, rfl, rfl, r, by decide, small_log (by decide) (by decide), fun v1 H1 a0 a1 e1 r1 => ⟨v1, rfl, by omega, by omega, ?_⟩⟩
  refine for_range (n := v1.toNat) (fun i σ' H' => ∃ (cs : List Nat) (kv : Option V), σ' = [some (.ref d.p), some (.ref p), some (.str "abcdefghijklmnopqrstuvwxyz"), some (.str ⟨cs.toArray⟩), kv, none, none, none] ∧ cs.length = i ∧ (∀ c ∈ cs, letter c) ∧ Chg d H H' ∧ Rng d H') ⟨[], _, by rw [emp_eq]; rfl, rfl, (fun c h => nomatch h), e1, r1⟩ ?_ ?_
  · rintro i σ' H2 hi ⟨cs, kv, rfl, hl, hcs, e2, r2⟩
    refine ⟨_, rfl, _, rfl, _, rfl, _, _, rfl, d, _, rfl, rfl, r2, by decide, small_log (by decide) (by decide), fun v H3 h0 hv e3 r3 => ?_⟩
    obtain ⟨c, hc, ha⟩ := pick_sign abc_eq h0 hv
    refine ⟨_, _, c, rfl, rfl, by show (Str.ofString _).cps.size ≤ sizeLine; rw [sizeLine_eq]; decide +kernel, ha, _, _, rfl, rfl, by rw [sizeLine_eq, list_len]; show cs.length + 1 ≤ _; omega, ?_⟩
    refine ⟨cs ++ [c], _, by rw [app_sign]; rfl, by rw [List.length_append, hl]; rfl, fun x hx => ?_, e2.trans e3, r3⟩
    rcases List.mem_append.mp hx with hx | hx
    · exact hcs x hx
    · rw [List.mem_singleton.mp hx]; exact abc_letter c hc
  rintro σ' H2 ⟨cs, kv, rfl, hl, hcs, e2, r2⟩
  have l7 : cs.length ≤ 7 := by omega
  refine ⟨_, rfl, _, rfl, _, rfl, by rw [sizeLine_eq, list_len]; omega, _, _, rfl, rfl, _, _, rfl, d, _, rfl, rfl, r2, by omega, small_log (by omega) (by rw [list_len]; omega), fun v3 H3 b0 b1 e3 r3 => ?_⟩
  refine ⟨_, rfl, _, _, rfl, d, _, rfl, rfl, r3, by decide, small_log (by decide) (by decide), fun v4 H4 c0 c1 e4 r4 => ?_⟩
  obtain ⟨pl, rfl⟩ := Int.eq_ofNat_of_zero_le b0
  obtain ⟨f, rfl⟩ := Int.eq_ofNat_of_zero_le c0
  have e04 := e2.trans (e3.trans e4)
  have hp4 := e04 _ _ np hp
  refine ⟨_, rfl, by decide, by decide, ?_⟩
  refine for_range (n := 26) (fun i σ' H' => ∃ (kv nv : Option V), σ' = [some (.ref d.p), some (.ref p), some (.str "abcdefghijklmnopqrstuvwxyz"), some (.str ⟨cs.toArray⟩), kv, some (.int (pl : Int)), some (.int (f : Int)), nv] ∧ H' = H4 ∧ ∀ j < i, nmAt cs pl f j ∈ us) ⟨_, _, rfl, rfl, fun j hj => absurd hj (Nat.not_lt_zero _)⟩ ?_ ?_
  · rintro i σ' H5 hi ⟨kv, nv, rfl, rfl, hin⟩
    have ei : ((f : Int) + (0 + (i : Int))) % 26 = (((f + i) % 26 : Nat) : Int) := by omega
    have l1 : (cutS (⟨cs.toArray⟩ : Str) none (some (pl : Int))).length ≤ cs.length := Nat.le_trans (cutS_length _ _ _) (Nat.le_of_eq list_len)
    have l2 : (cutS (⟨cs.toArray⟩ : Str) (some (pl : Int)) none).length ≤ cs.length := Nat.le_trans (cutS_length _ _ _) (Nat.le_of_eq list_len)
    refine ⟨_, rfl, _, rfl, _, rfl, _, rfl, by rw [sizeLine_eq, list_len]; omega, _, rfl, _, rfl, _, rfl, _, _, rfl, rfl, .inl ⟨_, rfl, _, _, rfl, rfl, pos_ (by decide), _, _, 97 + (f + i) % 26, rfl, rfl, by show (Str.ofString _).cps.size ≤ sizeLine; rw [sizeLine_eq]; decide +kernel, (by rw [ei]; exact atI_nat (abc_at (Nat.mod_lt _ (by decide)))), _, _, rfl, rfl, by rw [sizeLine_eq]; show _ + 1 ≤ _; omega, _, rfl, _, rfl, _, rfl, _, rfl, by rw [sizeLine_eq, list_len]; omega, _, _, rfl, rfl, by rw [sizeLine_eq, PySem.Str.length_append]; show _ + 1 + _ ≤ _; omega, ?_⟩⟩
    have en : (cutS (⟨cs.toArray⟩ : Str) none (some (pl : Int)) ++ (⟨#[97 + (f + i) % 26]⟩ : Str)) ++ cutS (⟨cs.toArray⟩ : Str) (some (pl : Int)) none = nmAt cs pl f i := by
      rw [cutlo, cuthi, app_sign, app_lists]
      rfl
    rw [en]
    refine ⟨_, rfl, _, rfl, p, _, rfl, .inl (SqL.of hp4), rfl, flat_strsE _, _, rfl, ?_⟩
    show if (!inV (.str (nmAt cs pl f i)) (us.map V.str)) = true then _ else _
    rw [inV_strE]
    refine iteB (fun g => ?_) (fun g => ?_)
    · have nin : nmAt cs pl f i ∉ us := by simpa using g
      refine ⟨_, rfl, .inl ⟨rfl, _, SqL.of hp4⟩, _, rfl, p, _, _, rfl, rfl, hp4, by rw [sizeLine_eq, List.length_map]; omega, _, rfl, ?_⟩
      have z := k (nmAt cs pl f i) H5 (nm_ok hcs l7) nin e04 r4
      rw [List.map_append] at z
      exact z
    · have yin : nmAt cs pl f i ∈ us := by simpa using g
      refine ⟨_, _, rfl, rfl, fun j hj => ?_⟩
      rcases Nat.lt_succ_iff_lt_or_eq.mp hj with l | l
      · exact hin j l
      · rw [l]; exact yin
  · rintro σ' H5 ⟨kv, nv, rfl, rfl, hin⟩
    exact (nm_all l25 hin).elim
theorem ok__law_draw_bits (T : Txt K mg A) : FnOk P w K mg base CX0 2 A.f__law_draw_bits A.d__law_draw_bits ["state", "many"] (sp__law_draw_bits K A) := by
  refine T.F__law_draw_bits.ok sc__law_draw_bits (fun vs H Q E h => sp2_len h) (fun cdv A0 outer s H vs Q E hr h => ?_)
  have nd := sc__law_draw_bits.nd
  refine ⟨_, (pss_cons (ps_set (i := 2) nd rfl (by first | exact Or.inl rfl | exact Or.inr rfl) pe_str)
      (pss_cons (ps_for PassesOwn.never rfl (pi_range1 (by rfl) T.b_range (pa_cons (pv 1) pa_nil)) (pg_name (i := 3) nd rfl (by first | exact Or.inl rfl | exact Or.inr rfl)) (pss_one (ps_set (i := 2) nd rfl (by first | exact Or.inl rfl | exact Or.inr rfl) (pe_op op_add_str (pv 2) (pe_ix ix_str pe_str (pe_call (ok__law_pull T) (hr.mono (by decide)) (by rfl) T.mg__law_pull T.k__law_pull T.b__law_pull .nil pass0 (pa_cons (pv 0) (pa_cons pe_int pa_nil))) (fun _ _ => rfl))))))
      (pss_one (ps_ret (pv 2))))), ?_⟩
  clear nd hr
  replace h := sp2_of h
  obtain ⟨v_state, v_many, rfl, h⟩ := h

  obtain ⟨d, n, rfl, rfl, hn, r, k⟩ := h
  refine ⟨_, rfl, _, rfl, by omega, by omega, for_range (n := n) (fun i σ' H' => ∃ (cs : List Nat) (kv : Option V), σ' = [some (.ref d.p), some (.int (n : Int)), some (.str ⟨cs.toArray⟩), kv] ∧ cs.length = i ∧ (∀ c ∈ cs, bit c) ∧ Chg d H H' ∧ Rng d H') ⟨[], _, by rw [emp_eq]; rfl, rfl, (fun c h => nomatch h), Chg.refl, r⟩ ?_ ?_⟩
  · rintro i σ' H' hi ⟨cs, kv, rfl, hl, hcs, e1, r1⟩
    refine ⟨_, rfl, _, rfl, _, _, rfl, d, _, rfl, rfl, r1, by decide, small_log (by decide) (by decide), fun v H2 h0 hv e2 r2 => ?_⟩
    obtain ⟨c, hc, ha⟩ := pick_sign bits_eq h0 hv
    have lz : (⟨cs.toArray⟩ : Str).length = i := by show cs.toArray.size = i; simp [hl]
    refine ⟨_, _, c, rfl, rfl, by show (Str.ofString _).cps.size ≤ sizeLine; rw [sizeLine_eq]; decide +kernel, ha, _, _, rfl, rfl, by rw [sizeLine_eq, lz]; show i + 1 ≤ _; omega, ?_⟩
    refine ⟨cs ++ [c], _, by rw [app_sign]; rfl, by rw [List.length_append, hl]; rfl, fun x hx => ?_, e1.trans e2, r2⟩
    rcases List.mem_append.mp hx with hx | hx
    · exact hcs x hx
    · rw [List.mem_singleton.mp hx]; exact bits_bit c hc
  · rintro σ' H' ⟨cs, kv, rfl, hl, hcs, e1, r1⟩
    exact ⟨_, rfl, k cs H' hl hcs e1 r1⟩
theorem ok__law_object (T : Txt K mg A) : FnOk P w K mg base CX0 5 A.f__law_object A.d__law_object ["kind"] (sp__law_object K A) := by
  refine T.F__law_object.ok sc__law_object (fun vs H Q E h => sp1_len h) (fun cdv A0 outer s H vs Q E hr h => ?_)
  have nd := sc__law_object.nd
  refine ⟨_, (pss_cons (ps_if (pt_cmpR op_eq (pe_ix ix_tup (pv 0) pe_int (fun _ _ => rfl)) pe_str (nomark _)) pss_never pss_nil)
      (pss_cons (ps_if (pt_cmpR op_eq (pe_ix ix_tup (pv 0) pe_int (fun _ _ => rfl)) pe_str (nomark _)) pss_never pss_nil)
      (pss_cons (ps_if (pt_cmpR op_eq (pe_ix ix_tup (pv 0) pe_int (fun _ _ => rfl)) pe_str (nomark _)) pss_never pss_nil)
      (pss_cons (ps_if (pt_cmpR op_eq (pe_ix ix_tup (pv 0) pe_int (fun _ _ => rfl)) pe_str (nomark _)) (pss_one (ps_ret (by exact (pe_makeS T.mk_Bits (ok_Bits___init__ T) (hr.mono (by decide)) (by rfl) T.mg_Bits T.b_Bits___init__ .nil (fun σ => passL0 σ) (by exact (pa_cons (pe_ix ix_tup (pv 0) pe_int (fun _ _ => rfl)) pa_nil)))))) pss_nil)
      (pss_cons (ps_if (PW.pt (pw_and (pt_cmpR op_eq (pe_ix ix_tup (pv 0) pe_int (fun _ _ => rfl)) pe_str (nomark _)) (pw_and1 (pt_cmpR op_isN (pe_ix ix_tup (pv 0) pe_int (fun _ _ => rfl)) pe_non (nomark _))))) pss_never pss_nil)
      (pss_cons (ps_if (pt_cmpR op_eq (pe_ix ix_tup (pv 0) pe_int (fun _ _ => rfl)) pe_str (nomark _)) pss_never pss_nil)
      (pss_cons (ps_if (PW.pt (pw_and (pt_cmpR op_eq (pe_ix ix_tup (pv 0) pe_int (fun _ _ => rfl)) pe_str (nomark _)) (pw_and1 (pt_cmpR op_isN (pe_ix ix_tup (pv 0) pe_int (fun _ _ => rfl)) pe_non (nomark _))))) (pss_one (ps_ret (by exact (pe_makeS T.mk_Number (ok_Number___init__ T) (hr.mono (by decide)) (by rfl) T.mg_Number T.b1_Number___init__ (show Vals [V.non] [Value.none] from (.cons rfl .nil)) (fun σ => passL0 σ) (by exact (pa_cons (pe_ix ix_tup (pv 0) pe_int (fun _ _ => rfl)) (pa_cons (pe_ix ix_tup (pv 0) pe_int (fun _ _ => rfl)) pa_nil))))))) pss_nil)
      (pss_cons (ps_if (pt_cmpR op_eq (pe_ix ix_tup (pv 0) pe_int (fun _ _ => rfl)) pe_str (nomark _)) (pss_one (ps_ret (by exact (pe_makeS T.mk_Number (ok_Number___init__ T) (hr.mono (by decide)) (by rfl) T.mg_Number T.b_Number___init__ .nil (fun σ => passL0 σ) (by exact (pa_cons (pe_ix ix_tup (pv 0) pe_int (fun _ _ => rfl)) (pa_cons (pe_ix ix_tup (pv 0) pe_int (fun _ _ => rfl)) (pa_cons (pe_ix ix_tup (pv 0) pe_int (fun _ _ => rfl)) pa_nil)))))))) pss_nil)
      (pss_one (ps_ret (pe_makeO T.mo_Nothing T.io_Nothing T.kc_Nothing (by rfl) T.mg_Nothing))))))))))), ?_⟩
  clear nd hr
  replace h := sp1_of h
  obtain ⟨v_kind, rfl, h⟩ := h

  obtain ⟨k0, hi, nn, k⟩ := h
  cases hi with
  | none => exact absurd rfl nn
  | nothing h =>
    refine ⟨_, rfl, _, _, _, _, rfl, rfl, SqT.of h, (show atI _ ((0 : Nat) : Int) = _ from atI_nat rfl), rfl, _, rfl, iteB (fun z => absurd z (by rw [dStrE]; decide +kernel)) (fun _ => ?_)⟩
    refine ⟨_, rfl, _, _, _, _, rfl, rfl, SqT.of h, (show atI _ ((0 : Nat) : Int) = _ from atI_nat rfl), rfl, _, rfl, iteB (fun z => absurd z (by rw [dStrE]; decide +kernel)) (fun _ => ?_)⟩
    refine ⟨_, rfl, _, _, _, _, rfl, rfl, SqT.of h, (show atI _ ((0 : Nat) : Int) = _ from atI_nat rfl), rfl, _, rfl, iteB (fun z => absurd z (by rw [dStrE]; decide +kernel)) (fun _ => ?_)⟩
    refine ⟨_, rfl, _, _, _, _, rfl, rfl, SqT.of h, (show atI _ ((0 : Nat) : Int) = _ from atI_nat rfl), rfl, _, rfl, iteB (fun z => absurd z (by rw [dStrE]; decide +kernel)) (fun _ => ?_)⟩
    refine ⟨_, rfl, _, _, _, _, rfl, rfl, SqT.of h, (show atI _ ((0 : Nat) : Int) = _ from atI_nat rfl), rfl, _, rfl, iteB (fun z => absurd z (by rw [dStrE]; decide +kernel)) (fun _ => iteF ?_)⟩
    refine ⟨_, rfl, _, _, _, _, rfl, rfl, SqT.of h, (show atI _ ((0 : Nat) : Int) = _ from atI_nat rfl), rfl, _, rfl, iteB (fun z => absurd z (by rw [dStrE]; decide +kernel)) (fun _ => ?_)⟩
    refine ⟨_, rfl, _, _, _, _, rfl, rfl, SqT.of h, (show atI _ ((0 : Nat) : Int) = _ from atI_nat rfl), rfl, _, rfl, iteB (fun z => absurd z (by rw [dStrE]; decide +kernel)) (fun _ => iteF ?_)⟩
    refine ⟨_, rfl, _, _, _, _, rfl, rfl, SqT.of h, (show atI _ ((0 : Nat) : Int) = _ from atI_nat rfl), rfl, _, rfl, iteB (fun z => absurd z (by rw [dStrE]; decide +kernel)) (fun _ => ?_)⟩
    refine fun o dx h1 h2 ne => k o _ (.nothing ⟨dx, [], upd_same, fun p hp => nomatch hp⟩) ?_
    exact fun b u e => by rw [upd_ne (ne_of_none e h1), upd_ne (ne_of_none e h2)]; exact e
  | bits h l1 l2 =>
    refine ⟨_, rfl, _, _, _, _, rfl, rfl, SqT.of h, (show atI _ ((0 : Nat) : Int) = _ from atI_nat rfl), rfl, _, rfl, iteB (fun z => absurd z (by rw [dStrE]; decide +kernel)) (fun _ => ?_)⟩
    refine ⟨_, rfl, _, _, _, _, rfl, rfl, SqT.of h, (show atI _ ((0 : Nat) : Int) = _ from atI_nat rfl), rfl, _, rfl, iteB (fun z => absurd z (by rw [dStrE]; decide +kernel)) (fun _ => ?_)⟩
    refine ⟨_, rfl, _, _, _, _, rfl, rfl, SqT.of h, (show atI _ ((0 : Nat) : Int) = _ from atI_nat rfl), rfl, _, rfl, iteB (fun z => absurd z (by rw [dStrE]; decide +kernel)) (fun _ => ?_)⟩
    refine ⟨_, rfl, _, _, _, _, rfl, rfl, SqT.of h, (show atI _ ((0 : Nat) : Int) = _ from atI_nat rfl), rfl, _, rfl, iteB (fun _ => ?_) (fun z => absurd z (by rw [dStrE]; decide +kernel))⟩
    exact ⟨_, rfl, _, _, _, _, rfl, rfl, SqT.of h, (show atI _ ((1 : Nat) : Int) = _ from atI_nat rfl), fun o dx h1 h2 ne => ⟨_, _, rfl, H, o, _, rfl, Fresh.mk' h1 h2 ne, .int _, made_ok (bits_3 l1 (by omega)) fun K2 k2 hk => ⟨rfl, k o K2 hk k2⟩⟩⟩
  | num h c =>
    refine ⟨_, rfl, _, _, _, _, rfl, rfl, SqT.of h, (show atI _ ((0 : Nat) : Int) = _ from atI_nat rfl), rfl, _, rfl, iteB (fun z => absurd z (by rw [dStrE]; decide +kernel)) (fun _ => ?_)⟩
    refine ⟨_, rfl, _, _, _, _, rfl, rfl, SqT.of h, (show atI _ ((0 : Nat) : Int) = _ from atI_nat rfl), rfl, _, rfl, iteB (fun z => absurd z (by rw [dStrE]; decide +kernel)) (fun _ => ?_)⟩
    refine ⟨_, rfl, _, _, _, _, rfl, rfl, SqT.of h, (show atI _ ((0 : Nat) : Int) = _ from atI_nat rfl), rfl, _, rfl, iteB (fun z => absurd z (by rw [dStrE]; decide +kernel)) (fun _ => ?_)⟩
    refine ⟨_, rfl, _, _, _, _, rfl, rfl, SqT.of h, (show atI _ ((0 : Nat) : Int) = _ from atI_nat rfl), rfl, _, rfl, iteB (fun z => absurd z (by rw [dStrE]; decide +kernel)) (fun _ => ?_)⟩
    refine ⟨_, rfl, _, _, _, _, rfl, rfl, SqT.of h, (show atI _ ((0 : Nat) : Int) = _ from atI_nat rfl), rfl, _, rfl, iteB (fun z => absurd z (by rw [dStrE]; decide +kernel)) (fun _ => iteF ?_)⟩
    refine ⟨_, rfl, _, _, _, _, rfl, rfl, SqT.of h, (show atI _ ((0 : Nat) : Int) = _ from atI_nat rfl), rfl, _, rfl, iteB (fun z => absurd z (by rw [dStrE]; decide +kernel)) (fun _ => ?_)⟩
    refine ⟨_, rfl, _, _, _, _, rfl, rfl, SqT.of h, (show atI _ ((0 : Nat) : Int) = _ from atI_nat rfl), rfl, _, rfl, iteB (fun _ => ?_) (fun z => absurd z (by rw [dStrE]; decide +kernel))⟩
    rcases c with ⟨rfl, rfl⟩ | ⟨rfl, rfl⟩
    · refine ⟨_, rfl, _, _, _, _, rfl, rfl, SqT.of h, (show atI _ ((3 : Nat) : Int) = _ from atI_nat rfl), rfl, _, rfl, iteF ?_⟩
      refine ⟨_, rfl, _, _, _, _, rfl, rfl, SqT.of h, (show atI _ ((0 : Nat) : Int) = _ from atI_nat rfl), rfl, _, rfl, iteB (fun _ => ?_) (fun z => absurd z (by rw [dStrE]; decide +kernel))⟩
      exact ⟨_, rfl, _, _, _, _, rfl, rfl, SqT.of h, (show atI _ ((1 : Nat) : Int) = _ from atI_nat rfl), _, rfl, _, _, _, _, rfl, rfl, SqT.of h, (show atI _ ((2 : Nat) : Int) = _ from atI_nat rfl), _, rfl, _, _, _, _, rfl, rfl, SqT.of h, (show atI _ ((3 : Nat) : Int) = _ from atI_nat rfl), fun o dx h1 h2 ne => ⟨_, _, _, _, rfl, H, o, _, _, _, rfl, Fresh.mk' h1 h2 ne, .int _, .int _, .int _, made_ok num_2 fun K2 k2 hk => ⟨rfl, k o K2 hk k2⟩⟩⟩
    · refine ⟨_, rfl, _, _, _, _, rfl, rfl, SqT.of h, (show atI _ ((3 : Nat) : Int) = _ from atI_nat rfl), rfl, _, rfl, iteY ?_⟩
      exact ⟨_, rfl, _, _, _, _, rfl, rfl, SqT.of h, (show atI _ ((1 : Nat) : Int) = _ from atI_nat rfl), _, rfl, _, _, _, _, rfl, rfl, SqT.of h, (show atI _ ((2 : Nat) : Int) = _ from atI_nat rfl), fun o dx h1 h2 ne => ⟨_, _, _, _, rfl, H, o, _, _, _, rfl, Fresh.mk' h1 h2 ne, .int _, .int _, .non, made_ok num_1 fun K2 k2 hk => ⟨rfl, k o K2 hk k2⟩⟩⟩
theorem ok__law_place (T : Txt K mg A) : FnOk P w K mg base CX0 6 A.f__law_place A.d__law_place ["place"] (sp__law_place K A) := by
  refine T.F__law_place.ok sc__law_place (fun vs H Q E h => sp1_len h) (fun cdv A0 outer s H vs Q E hr h => ?_)
  have nd := sc__law_place.nd
  refine ⟨_, (pss_cons (ps_set (i := 1) nd rfl (by first | exact Or.inl rfl | exact Or.inr rfl) pe_non)
      (Evl.pss_cut (ps_if (pt_cmpR op_notN (pe_ix ix_tup (pv 0) pe_int (fun _ _ => rfl)) pe_non (nomark _)) (pss_one (ps_set (i := 1) nd rfl (by first | exact Or.inl rfl | exact Or.inr rfl) (pe_call (ok__law_object T) (hr.mono (by decide)) (by rfl) T.mg__law_object T.k__law_object T.b__law_object .nil pass0 (pa_cons (pe_ix ix_tup (pv 0) pe_int (fun _ _ => rfl)) pa_nil)))) pss_nil)
      (pss_cons (ps_if (pt_cmpR op_eq (pe_ix ix_tup (pv 0) pe_int (fun _ _ => rfl)) pe_str (nomark _)) (pss_one (ps_ret (by exact (pe_makeS T.mk_Way (ok_Way___init__ T) (hr.mono (by decide)) (by rfl) T.mg_Way T.b_Way___init__ .nil (fun σ => passL0 σ) (by exact (pa_cons (pe_ix ix_tup (pv 0) pe_int (fun _ _ => rfl)) (pa_cons (pe_ix ix_tup (pv 0) pe_int (fun _ _ => rfl)) (pa_cons (pv 1) pa_nil)))))))) pss_nil)
      (pss_cons (ps_if (pt_cmpR op_eq (pe_ix ix_tup (pv 0) pe_int (fun _ _ => rfl)) pe_str (nomark _)) (pss_one (ps_ret (by exact (pe_makeS T.mk_Door (ok_Door___init__ T) (hr.mono (by decide)) (by rfl) T.mg_Door T.b_Door___init__ .nil (fun σ => passL0 σ) (by exact (pa_cons (pe_ix ix_tup (pv 0) pe_int (fun _ _ => rfl)) (pa_cons (pe_ix ix_tup (pv 0) pe_int (fun _ _ => rfl)) (pa_cons (pv 1) pa_nil)))))))) pss_nil)
      pss_never)))), ?_⟩
  clear nd hr
  replace h := sp1_of h
  obtain ⟨v_place, rfl, h⟩ := h

  obtain ⟨w, hd, ok, k⟩ := h
  obtain ⟨p, i, rfl, hp, hi⟩ := hd
  refine ⟨fun σ' H' => ∃ iv, σ' = [some (.ref p), some iv] ∧ KAt A H' iv w.inner ∧ Same H H', ?_, ?_⟩
  · generalize w.inner = ki at hi
    cases hi with
    | none => exact ⟨_, rfl, _, _, _, _, rfl, rfl, SqT.of hp, (show atI _ ((3 : Nat) : Int) = _ from atI_nat rfl), rfl, _, rfl, iteF ⟨_, rfl, .none, fun _ _ z => z⟩⟩
    | nothing h => exact ⟨_, rfl, _, _, _, _, rfl, rfl, SqT.of hp, (show atI _ ((3 : Nat) : Int) = _ from atI_nat rfl), rfl, _, rfl, iteY ⟨_, rfl, _, _, _, _, rfl, rfl, SqT.of hp, (show atI _ ((3 : Nat) : Int) = _ from atI_nat rfl), _, rfl, _, .nothing h, (fun z => nomatch z), fun x H' hk e => ⟨_, rfl, hk, e⟩⟩⟩
    | bits h l1 l2 => exact ⟨_, rfl, _, _, _, _, rfl, rfl, SqT.of hp, (show atI _ ((3 : Nat) : Int) = _ from atI_nat rfl), rfl, _, rfl, iteY ⟨_, rfl, _, _, _, _, rfl, rfl, SqT.of hp, (show atI _ ((3 : Nat) : Int) = _ from atI_nat rfl), _, rfl, _, .bits h l1 l2, (fun z => nomatch z), fun x H' hk e => ⟨_, rfl, hk, e⟩⟩⟩
    | num h c => exact ⟨_, rfl, _, _, _, _, rfl, rfl, SqT.of hp, (show atI _ ((3 : Nat) : Int) = _ from atI_nat rfl), rfl, _, rfl, iteY ⟨_, rfl, _, _, _, _, rfl, rfl, SqT.of hp, (show atI _ ((3 : Nat) : Int) = _ from atI_nat rfl), _, rfl, _, .num h c, (fun z => nomatch z), fun x H' hk e => ⟨_, rfl, hk, e⟩⟩⟩
  rintro σ' H1 ⟨iv, rfl, hk, e1⟩
  have hp1 := e1 _ _ hp
  obtain ⟨door, word, name, inner⟩ := w
  obtain ⟨ok1, ok2, ok3⟩ := ok
  have hq : H1 p = some (.tup [.str (if door = true then "door" else "way"), .str word, .str name, i]) := hp1
  cases door with
  | false =>
    rw [if_neg (by decide)] at hq
    refine ⟨_, rfl, _, _, _, _, rfl, rfl, SqT.of hq, (show atI _ ((0 : Nat) : Int) = _ from atI_nat rfl), rfl, _, rfl, iteB (fun _ => ?_) (fun z => absurd z (by rw [dStrE]; decide +kernel))⟩
    exact ⟨_, rfl, _, _, _, _, rfl, rfl, SqT.of hq, (show atI _ ((1 : Nat) : Int) = _ from atI_nat rfl), _, rfl, _, _, _, _, rfl, rfl, SqT.of hq, (show atI _ ((2 : Nat) : Int) = _ from atI_nat rfl), _, rfl, fun o dx h1 h2 ne => ⟨_, _, _, _, rfl, H1, o, _, _, .k inner, rfl, Fresh.mk' h1 h2 ne, .str _, .str _, word_short ok1, name_short ok2, hk, made_ok (inner_ok ok1 ok2 ok3) fun K2 k2 hk2 => ⟨rfl, k o K2 hk2 (e1.trans k2)⟩⟩⟩
  | true =>
    rw [if_pos rfl] at hq
    refine ⟨_, rfl, _, _, _, _, rfl, rfl, SqT.of hq, (show atI _ ((0 : Nat) : Int) = _ from atI_nat rfl), rfl, _, rfl, iteB (fun z => absurd z (by rw [dStrE]; decide +kernel)) (fun _ => ?_)⟩
    refine ⟨_, rfl, _, _, _, _, rfl, rfl, SqT.of hq, (show atI _ ((0 : Nat) : Int) = _ from atI_nat rfl), rfl, _, rfl, iteB (fun _ => ?_) (fun z => absurd z (by rw [dStrE]; decide +kernel))⟩
    exact ⟨_, rfl, _, _, _, _, rfl, rfl, SqT.of hq, (show atI _ ((1 : Nat) : Int) = _ from atI_nat rfl), _, rfl, _, _, _, _, rfl, rfl, SqT.of hq, (show atI _ ((2 : Nat) : Int) = _ from atI_nat rfl), _, rfl, fun o dx h1 h2 ne => ⟨_, _, _, _, rfl, H1, o, _, _, .k inner, rfl, Fresh.mk' h1 h2 ne, .str _, .str _, word_short ok1, name_short ok2, hk, made_ok (inner_ok ok1 ok2 ok3) fun K2 k2 hk2 => ⟨rfl, k o K2 hk2 (e1.trans k2)⟩⟩⟩
theorem ok__law_ordered (T : Txt K mg A) : FnOk P w K mg base CX0 1 A.f__law_ordered A.d__law_ordered ["rows"] (sp__law_ordered K A) := by
  refine T.F__law_ordered.ok sc__law_ordered (fun vs H Q E h => sp1_len h) (fun cdv A0 outer s H vs Q E hr h => ?_)
  have nd := sc__law_ordered.nd
  refine ⟨_, (pss_one (ps_ret (pe_lc (own := [("row", 1)]) (g := gName 1) (tt := tYes) (by rfl) nd (pi_list (pe_callB (cr_sortedIS hr.units) (by rfl) T.b_sorted (by decide +kernel) (pa_cons (pe_lc (own := [("bits", 2)]) (g := gName 2) (tt := tYes) (by rfl) nd (pi_list (pv 0)) (blkOk_by (own := [("bits", 2)]) (N := ["rows", "row", "bits"]) (sc := defScope s__law_ordered) (by decide +kernel)) (fun _ _ _ _ _ => pg_name (i := 2) nd rfl (by first | exact Or.inl rfl | exact Or.inr rfl)) (fun _ _ _ _ _ => pts_nil) (fun _ _ _ _ _ => (pe_tup (pa_cons (pe_callB call_len_str (by rfl) T.b_len (by decide +kernel) (pa_cons (pv 2) pa_nil)) (pa_cons (pv 2) pa_nil))))) pa_nil))) (blkOk_by (own := [("row", 1)]) (N := ["rows", "row", "bits"]) (sc := defScope s__law_ordered) (by decide +kernel)) (fun _ _ _ _ _ => pg_name (i := 1) nd rfl (by first | exact Or.inl rfl | exact Or.inr rfl)) (fun _ _ _ _ _ => pts_nil) (fun _ _ _ _ _ => (pe_ix (ix_tupK (K := K) rfl) (pv 1) pe_int (fun _ _ => rfl)))))), ?_⟩
  clear nd hr
  replace h := sp1_of h
  obtain ⟨v_rows, rfl, h⟩ := h

  obtain ⟨p, rows, rfl, hp, l2, l1, k⟩ := h
  refine ⟨_, rfl, ?_⟩
  refine lc_lstG (tt := tYes) (fun H v x => TupS H v x) (fun H1 H2 v b e ⟨t, e1, h1⟩ => ⟨t, e1, e _ _ h1⟩) (fun D H1 ws v v' b hD ⟨t, e, ht⟩ => ⟨t, e, by rw [upd_ne (ne_lst hD ht fun ys z => by cases z)]; exact ht⟩) (fun _ => true) id (fun v (n : Str) => v = V.str n) hp (strs_pair _) (by rw [List.length_map]; omega) (fun x => rfl) (fun x n H6 Q _ _ _ q => q) ?_ ?_
  · rintro x n H6 Q rfl hn _ e6 q
    exact ⟨_, rfl, n, rfl, by rw [sizeLine_eq]; have := l1 n hn; omega, _, rfl, (by show 2 ≤ sizeLine; rw [sizeLine_eq]; decide), fun t ht => q _ _ (same_new ht) ⟨t, rfl, upd_same⟩⟩
  intro D ws H1 hD hD0 e1 pw
  rw [List.filter_eq_self.mpr fun _ _ => rfl, List.map_id] at pw
  obtain ⟨ps, rfl, h2, h3⟩ := tups_ps pw
  have lps : ps.length = rows.length := by rw [← h2, List.length_map]
  refine ⟨D, ps, rfl, SqL.of hD, fun p hp => (h3 p hp).2, fun q ys perm srt hq => ?_⟩
  have sq := same_new (o := .lst (ys.map fun p => V.ref p.1)) hq
  refine lc_lstG (tt := tYes) (fun _ v (b : Str) => v = V.str b) (fun _ _ _ _ _ q => q) (fun _ _ _ _ _ _ _ q => q) (fun _ => true) (fun p : Addr × Int × Str => p.2.2) (fun v p => v = V.ref p.1) upd_same (pair_refs ys) (by rw [List.length_map, perm.length_eq]; omega) (fun x => rfl) (fun x n H6 Q _ _ _ q => q) ?_ ?_
  · rintro v p H6 Q rfl hp _ e6 q
    exact ⟨_, rfl, _, _, _, _, rfl, rfl, SqT.of (e6 _ _ (sq _ _ (h3 p (perm.mem_iff.mp hp)).2)), (show atI _ ((1 : Nat) : Int) = _ from atI_nat rfl), q _ _ (fun _ _ z => z) rfl⟩
  intro D2 ws2 H2 hD2 hD20 e2 pw2
  rw [List.filter_eq_self.mpr fun _ _ => rfl] at pw2
  have ews := pair_strs pw2
  subst ews
  refine k D2 (ys.map fun p => p.2.2) H2 hD2 (none_same (e1.trans sq) hD20) (by rw [← h2]; exact perm.map _) ?_ (e1.trans (sq.trans e2))
  refine List.pairwise_map.mpr (srt.imp_of_mem ?_)
  intro a b ha hb le
  have ea := (h3 a (perm.mem_iff.mp ha)).1
  have eb := (h3 b (perm.mem_iff.mp hb)).1
  obtain ⟨a1, a2, a3⟩ := a
  obtain ⟨b1, b2, b3⟩ := b
  simp only at ea eb
  subst ea eb
  exact le
theorem ok__law_taken (T : Txt K mg A) : FnOk P w K mg base CX0 12 A.f__law_taken A.d__law_taken ["edition", "step"] (sp__law_taken K A) := by
  refine T.F__law_taken.ok sc__law_taken (fun vs H Q E h => sp2_len h) (fun cdv A0 outer s H vs Q E hr h => ?_)
  have nd := sc__law_taken.nd
  refine ⟨_, (pss_cons (ps_set (i := 2) nd rfl (by first | exact Or.inl rfl | exact Or.inr rfl) (pe_tup (pa_cons pe_str (pa_cons pe_str pa_nil))))
      (pss_cons (ps_try_as (i := 3) rfl rfl nd rfl rfl ⟨rfl, by decide, Or.inl T.mg_NoStep⟩ takes0 (fun W pn xe tk pw => (pss_one (ps_set (i := 2) nd rfl (by first | exact Or.inl rfl | exact Or.inr rfl) (pe_tup (pa_cons pe_str (pa_cons (by exact (pe_callS (ok_taken T) (hr.mono (by decide)) (by rfl) T.mg_taken T.k_taken T.b_taken (fun σ => passAt tk σ) (by exact (pa_cons (pv 0) (pa_cons (pv 1) pa_nil))))) pa_nil)))))) (fun a oe cls d pn hz hf => (pss_one (ps_set (i := 2) nd rfl (by first | exact Or.inl rfl | exact Or.inr rfl) (pe_tup (pa_cons pe_str (pa_cons (pe_xf T.xf_NoStep T.nx_NoStep_reason hz hf (pv 3)) pa_nil)))))))
      (pss_one (ps_ret (pv 2))))), ?_⟩
  clear nd hr
  replace h := sp2_of h
  obtain ⟨v_edition, v_step, rfl, h⟩ := h

  obtain ⟨x, tb, r, c, st, n, ww, wk, ks, rfl, he, l20, rfl, hst, okn, hl, l12, k⟩ := h
  refine ⟨(by show 2 ≤ sizeLine; rw [sizeLine_eq]; decide), fun t0 ht0 => ?_⟩
  have e0 := same_new (o := .tup [V.str "refused", V.str ""]) ht0
  refine ⟨_, rfl, _, rfl, _, _, rfl, x, tb, r, c, st, n, ww, wk, ks, rfl, he.same e0, l20, rfl, hst.same e0, okn, hl, l12, ?_⟩
  cases hwhy : wayWhy ks wk with
  | some y =>
    rw [hwhy] at k
    exact fun H' d e hd => ⟨true, T.te_NoStep, fun _ a ha => ⟨_, rfl, rfl, rfl, d, _, .str y, rfl, hd, by simp [List.lookup], (by show 2 ≤ sizeLine; rw [sizeLine_eq]; decide), fun q hq => ⟨_, rfl, k q _ (e0.trans (e.trans (same_new hq))) upd_same⟩⟩, fun z => nomatch z⟩
  | none =>
    rw [hwhy] at k
    obtain ⟨okw, ok, k⟩ := k
    exact ⟨okw, ok, fun y H' he' e' => ⟨(by show 2 ≤ sizeLine; rw [sizeLine_eq]; decide), fun q hq => ⟨_, rfl, k q y _ (he'.same (same_new hq)) (e0.trans (e'.trans (same_new hq))) upd_same⟩⟩⟩
theorem ok__law_flip (T : Txt K mg A) : FnOk P w K mg base CX0 1 A.f__law_flip A.d__law_flip ["bit"] (sp__law_flip K A) := by
  refine T.F__law_flip.ok sc__law_flip (fun vs H Q E h => sp1_len h) (fun cdv A0 outer s H vs Q E hr h => ?_)
  have nd := sc__law_flip.nd
  refine ⟨_, (pss_one (ps_ret (pe_ix ix_str pe_str (pe_callTy call_int1 (by rfl) T.b_int (by decide +kernel) (pa_cons (pe_cmpR op_eq (pv 0) pe_str (nomark _)) pa_nil)) (fun _ _ => rfl)))), ?_⟩
  clear nd hr
  replace h := sp1_of h
  obtain ⟨v_bit, rfl, h⟩ := h

  obtain ⟨c, rfl, k⟩ := h
  refine ⟨_, rfl, rfl, .inr ⟨_, rfl, ?_⟩⟩
  have e1 : ("1" : Str) = ⟨#[49]⟩ := sgn1
  by_cases hc : c = 49
  · subst hc
    rw [if_pos rfl] at k
    rw [decide_eq_true (by rw [e1]), if_pos rfl]
    exact ⟨_, _, 48, rfl, rfl, by show (Str.ofString _).cps.size ≤ sizeLine; rw [sizeLine_eq]; decide +kernel, by rw [oz_eq]; rfl, k⟩
  · rw [if_neg hc] at k
    rw [decide_eq_false (by rw [e1]; intro z; injection z with z; injection z with z; exact hc (List.head_eq_of_cons_eq (congrArg Array.toList z))), if_neg (by decide)]
    exact ⟨_, _, 49, rfl, rfl, by show (Str.ofString _).cps.size ≤ sizeLine; rw [sizeLine_eq]; decide +kernel, by rw [oz_eq]; rfl, k⟩
theorem ok__law_gaps (T : Txt K mg A) : FnOk P w K mg base CX0 2 A.f__law_gaps A.d__law_gaps ["words"] (sp__law_gaps K A) := by
  refine T.F__law_gaps.ok sc__law_gaps (fun vs H Q E h => sp1_len h) (fun cdv A0 outer s H vs Q E hr h => ?_)
  have nd := sc__law_gaps.nd
  refine ⟨_, (pss_cons (ps_set (i := 1) nd rfl (by first | exact Or.inl rfl | exact Or.inr rfl) (pe_lst pa_nil))
      (pss_cons (ps_for PassesOwn.never rfl (pi_list (pv 0)) (pg_name (i := 2) nd rfl (by first | exact Or.inl rfl | exact Or.inr rfl)) (pss_one (ps_for PassesOwn.never rfl (pi_range1 (by rfl) T.b_range (pa_cons (pe_callB call_len_str (by rfl) T.b_len (by decide +kernel) (pa_cons (pv 2) pa_nil)) pa_nil)) (pg_name (i := 3) nd rfl (by first | exact Or.inl rfl | exact Or.inr rfl)) (pss_cons (ps_set (i := 4) nd rfl (by first | exact Or.inl rfl | exact Or.inr rfl) (pe_op op_add_str (pe_slice sl_str (pv 2) po_none (po_some (pv 3))) (pe_call (ok__law_flip T) (hr.mono (by decide)) (by rfl) T.mg__law_flip T.k__law_flip T.b__law_flip .nil pass0 (pa_cons (pe_ix ix_str (pv 2) (pv 3) (fun _ _ => rfl)) pa_nil))))
      (pss_one (ps_if (PW.pt (pw_and (pt_cmpR op_notIn_seq (pv 4) (pv 1) (by rfl)) (pw_and1 (pt_cmpR op_eq (pe_callB call_len (by rfl) T.b_len (by decide +kernel) (pa_cons (pe_lc (own := [("one", 5)]) (g := gName 5) (by rfl) nd (pi_list (pv 0)) (blkOk_by (own := [("one", 5)]) (N := ["words", "gaps", "word", "k", "gap", "one"]) (sc := defScope s__law_gaps) (by decide +kernel)) (fun _ _ _ _ _ => pg_name (i := 5) nd rfl (by first | exact Or.inl rfl | exact Or.inr rfl)) (fun _ _ _ _ _ => pts_one (pt_val (pe_m1 PySem.F.slot_str_startswith PySem.F.type_str_startswith mt_startswith (pv 5) (pv 4)))) (fun _ _ _ _ _ => (pv 5))) pa_nil)) pe_int (nomark _))))) (pss_one (ps_expr (pe_bm PySem.F.plainAttrs_list PySem.F.slot_list_append PySem.F.type_list_append mt_append (pv 1) (pa_cons (pv 4) pa_nil)))) pss_nil))))))
      (pss_one (ps_ret (pe_call (ok__law_ordered T) (hr.mono (by decide)) (by rfl) T.mg__law_ordered T.k__law_ordered T.b__law_ordered .nil pass0 (pa_cons (pv 1) pa_nil)))))), ?_⟩
  clear nd hr
  replace h := sp1_of h
  obtain ⟨v_words, rfl, h⟩ := h

  obtain ⟨p, ws, rfl, hp, l12, l8, k⟩ := h
  refine ⟨(by show 0 ≤ sizeLine; rw [sizeLine_eq]; decide), fun g hg => ?_⟩
  have ngp : g ≠ p := (ne_of_none hp hg).symm
  refine ⟨_, rfl, p, rfl, ⟨_, SqL.of ((same_new hg) _ _ hp)⟩, ?_⟩
  refine for_it (walk_list (xs := ws.map V.str)) (fun i σ' H' => ∃ (gs : List Str) (a2 a3 a4 : Option V), σ' = [some (.ref p), some (.ref g), a2, a3, a4, none] ∧ H' p = some (.lst (ws.map V.str)) ∧ H' g = some (.lst (gs.map V.str)) ∧ Same H H' ∧ gs.Nodup ∧ gs.length ≤ 8 * i ∧ (∀ x ∈ gs, x.length ≤ 9) ∧ ∀ x, x ∈ gs ↔ Free ws x ∧ GapIn (ws.take i) x)
    ⟨[], _, _, _, rfl, (same_new hg) _ _ hp, upd_same, same_new hg, List.nodup_nil, Nat.zero_le _, (fun x hx => nomatch hx), fun x => ⟨(fun h => nomatch h), fun ⟨_, y, hy, _⟩ => nomatch hy⟩⟩ (fun i σ' H' _ ⟨_, _, _, _, _, h, _⟩ => SqL.of h) ?_ ?_
  · rintro i xv σ' H1 H1' hi ⟨gs, a2, a3, a4, rfl, hp1, hg1, e1, nd, lg, l9, mem⟩ ⟨rfl, hx⟩
    rw [List.getElem?_map] at hx
    obtain ⟨w, hw, rfl⟩ := Option.map_eq_some_iff.mp hx
    have w8 := l8 w (List.mem_of_getElem? hw)
    rw [List.length_map] at hi
    refine ⟨_, rfl, w, rfl, by rw [sizeLine_eq]; omega, w.length, rfl, by omega, by omega, ?_⟩
    refine for_range (n := w.length) (fun j σ' H' => ∃ (gs : List Str) (a3 a4 : Option V), σ' = [some (.ref p), some (.ref g), some (.str w), a3, a4, none] ∧ H' p = some (.lst (ws.map V.str)) ∧ H' g = some (.lst (gs.map V.str)) ∧ Same H H' ∧ gs.Nodup ∧ gs.length ≤ 8 * i + j ∧ (∀ x ∈ gs, x.length ≤ 9) ∧ ∀ x, x ∈ gs ↔ Free ws x ∧ (GapIn (ws.take i) x ∨ ∃ k c, k < j ∧ w.cps.toList[k]? = some c ∧ x = gapOf w k c))
      ⟨gs, _, _, rfl, hp1, hg1, e1, nd, by omega, l9, fun x => by rw [mem]; exact ⟨fun ⟨a, b⟩ => ⟨a, .inl b⟩, fun ⟨a, b⟩ => ⟨a, b.elim id fun ⟨k, c, h, _⟩ => absurd h (Nat.not_lt_zero _)⟩⟩⟩ ?_ ?_
    · rintro j σ' H2 hj ⟨gs, a3, a4, rfl, hp2, hg2, e2, nd, lg, l9, mem⟩
      have ej : ((0 : Int) + (j : Int)) = ((j : Nat) : Int) := by omega
      have lw : w.cps.toList.length = w.length := rfl
      have hc : w.cps.toList[j]? = some w.cps.toList[j] := List.getElem?_eq_getElem (by rw [lw]; exact hj)
      generalize w.cps.toList[j] = c at hc
      have cl := cutS_length w none (some ((0 : Int) + (j : Int)))
      refine ⟨_, rfl, _, rfl, _, rfl, w, rfl, by rw [sizeLine_eq]; omega, _, rfl, _, rfl, _, _, c, rfl, rfl, by rw [sizeLine_eq]; omega, (by rw [ej]; exact atI_nat hc), _, rfl, c, rfl, _, _, rfl, rfl, by rw [sizeLine_eq]; show _ + 1 ≤ _; omega, ?_⟩
      have eg : cutS w none (some ((0 : Int) + (j : Int))) ++ (⟨#[if c = 49 then 48 else 49]⟩ : Str) = gapOf w j c := by rw [ej]; rfl
      rw [eg]
      have lgap := gap_len (w := w) (k := j) (c := c)
      generalize hgx : gapOf w j c = x0 at lgap
      refine ⟨_, rfl, _, rfl, g, _, rfl, .inl (SqL.of hg2), rfl, flat_strsE _, _, rfl, ?_⟩
      show if (!inV (.str x0) (gs.map V.str)) = true then _ else _
      rw [inV_strE]
      have iff1 : ∀ x, (Free ws x ∧ (GapIn (ws.take i) x ∨ ∃ k c, k < j + 1 ∧ w.cps.toList[k]? = some c ∧ x = gapOf w k c)) ↔ x ∈ gs ∨ (Free ws x ∧ x = x0) := by
        intro x
        rw [mem]
        constructor
        · rintro ⟨h1, h2 | ⟨k, c', h2, h3, h4⟩⟩
          · exact .inl ⟨h1, .inl h2⟩
          · rcases Nat.lt_succ_iff_lt_or_eq.mp h2 with l | l
            · exact .inl ⟨h1, .inr ⟨k, c', l, h3, h4⟩⟩
            · subst l
              rw [hc] at h3
              have := Option.some.inj h3
              subst this
              exact .inr ⟨h1, by rw [h4, hgx]⟩
        · rintro (⟨h1, h2 | ⟨k, c', h2, h3, h4⟩⟩ | ⟨h1, h2⟩)
          · exact ⟨h1, .inl h2⟩
          · exact ⟨h1, .inr ⟨k, c', by omega, h3, h4⟩⟩
          · exact ⟨h1, .inr ⟨j, c, by omega, hc, by rw [h2, hgx]⟩⟩
      refine iteB (fun g1 => ?_) (fun g1 => ?_)
      · have nin : x0 ∉ gs := by simpa using g1
        refine ⟨_, rfl, ?_⟩
        refine lc_strs (fun o => PySem.Txt.startswith o x0) id hp2 (by omega) (fun x => rfl) (fun z H7 Q _ e7 q => ⟨_, rfl, ⟨_, rfl⟩, _, rfl, z, x0, rfl, rfl, _, rfl, q H7 (fun _ _ z => z)⟩) (fun z H7 Q _ _ e7 q => ⟨_, rfl, q H7 (fun _ _ z => z)⟩) ?_
        intro D H3 hD hD0 e3
        have hp3 := e3 _ _ hp2
        have hg3 := e3 _ _ hg2
        have e03 := e2.trans e3
        refine ⟨_, _, rfl, .inl ⟨_, SqL.of hD, rfl⟩, rfl, _, rfl, ?_⟩
        rw [dIntE]
        refine iteB (fun g2 => ?_) (fun g2 => ?_)
        · have fr := free_len.mp g2
          refine ⟨_, rfl, .inl ⟨rfl, _, SqL.of hg3⟩, _, rfl, g, _, _, rfl, rfl, hg3, by rw [sizeLine_eq, List.length_map]; omega, ?_⟩
          refine ⟨gs ++ [x0], _, _, rfl, by rw [upd_ne ngp.symm]; exact hp3, by rw [upd_same, List.map_append]; rfl, same_put hg e03, nodup_snocE nd nin, by rw [List.length_append]; show _ + 1 ≤ _; omega, fun x hx => ?_, fun x => ?_⟩
          · rcases List.mem_append.mp hx with hx | hx
            · exact l9 x hx
            · rw [List.mem_singleton.mp hx]; omega
          · rw [iff1, List.mem_append, List.mem_singleton]
            exact ⟨fun h => h.elim .inl fun e => .inr ⟨by rw [e]; exact fr, e⟩, fun h => h.elim .inl fun ⟨_, e⟩ => .inr e⟩
        · have nfr : ¬ Free ws x0 := fun h => by rw [free_len.mpr h] at g2; cases g2
          refine ⟨gs, _, _, rfl, hp3, hg3, e03, nd, by omega, l9, fun x => ?_⟩
          rw [iff1]
          exact ⟨.inl, fun h => h.elim id fun ⟨f, e⟩ => absurd (e ▸ f) nfr⟩
      · have yin : x0 ∈ gs := by simpa using g1
        refine iteF ⟨gs, _, _, rfl, hp2, hg2, e2, nd, by omega, l9, fun x => ?_⟩
        rw [iff1]
        exact ⟨.inl, fun h => h.elim id fun ⟨_, e⟩ => by rw [e]; exact yin⟩
    · rintro σ' H2 ⟨gs, a3, a4, rfl, hp2, hg2, e2, nd, lg, l9, mem⟩
      refine ⟨gs, _, _, _, rfl, hp2, hg2, e2, nd, by omega, l9, fun x => ?_⟩
      rw [mem, gapin_snoc hw]
      have lw : w.cps.toList.length = w.length := rfl
      constructor
      · rintro ⟨h1, h2 | ⟨k, c, _, h3, h4⟩⟩
        · exact ⟨h1, .inl h2⟩
        · exact ⟨h1, .inr ⟨k, c, h3, h4⟩⟩
      · rintro ⟨h1, h2 | ⟨k, c, h3, h4⟩⟩
        · exact ⟨h1, .inl h2⟩
        · exact ⟨h1, .inr ⟨k, c, by rw [← lw]; exact (List.getElem?_eq_some_iff.mp h3).1, h3, h4⟩⟩
  · rintro σ' H1 ⟨gs, a2, a3, a4, rfl, hp1, hg1, e1, nd, lg, l9, mem⟩
    rw [List.length_map] at lg
    rw [List.length_map, List.take_length] at mem
    refine ⟨_, rfl, _, rfl, g, gs, rfl, hg1, by omega, fun x hx => by have := l9 x hx; omega, fun q rs H2 hq hq0 perm srt e2 => ?_⟩
    exact k q rs H2 hq (none_same e1 hq0) (fun x => by rw [perm.mem_iff, mem]) srt (perm.nodup_iff.mpr nd) (by rw [perm.length_eq]; omega) (e1.trans e2)
theorem ok__law_draw_many_words (T : Txt K mg A) : FnOk P w K mg base CX0 3 A.f__law_draw_many_words A.d__law_draw_many_words ["state"] (sp__law_draw_many_words K A) := by
  refine T.F__law_draw_many_words.ok sc__law_draw_many_words (fun vs H Q E h => sp1_len h) (fun cdv A0 outer s H vs Q E hr h => ?_)
  have nd := sc__law_draw_many_words.nd
  refine ⟨_, (pss_cons (ps_set (i := 1) nd rfl (by first | exact Or.inl rfl | exact Or.inr rfl) (pe_lst (pa_cons pe_str (pa_cons pe_str pa_nil))))
      (Evl.pss_cut (ps_for PassesOwn.never rfl (pi_range1 (by rfl) T.b_range (pa_cons (pe_call (ok__law_pull T) (hr.mono (by decide)) (by rfl) T.mg__law_pull T.k__law_pull T.b__law_pull .nil pass0 (pa_cons (pv 0) (pa_cons pe_int pa_nil))) pa_nil)) (pg_name (i := 2) nd rfl (by first | exact Or.inl rfl | exact Or.inr rfl)) (pss_cons (ps_set (i := 3) nd rfl (by first | exact Or.inl rfl | exact Or.inr rfl) (pe_bm PySem.F.plainAttrs_list PySem.F.slot_list_pop PySem.F.type_list_pop mt_popAt (pv 1) (pa_cons (pe_call (ok__law_pull T) (hr.mono (by decide)) (by rfl) T.mg__law_pull T.k__law_pull T.b__law_pull .nil pass0 (pa_cons (pv 0) (pa_cons (pe_callB call_len (by rfl) T.b_len (by decide +kernel) (pa_cons (pv 1) pa_nil)) pa_nil))) pa_nil)))
      (pss_cons (ps_expr (pe_bm PySem.F.plainAttrs_list PySem.F.slot_list_append PySem.F.type_list_append mt_append (pv 1) (pa_cons (pe_op op_add_str (pv 3) pe_str) pa_nil)))
      (pss_cons (ps_expr (pe_bm PySem.F.plainAttrs_list PySem.F.slot_list_append PySem.F.type_list_append mt_append (pv 1) (pa_cons (pe_op op_add_str (pv 3) pe_str) pa_nil)))
      (pss_one (ps_if (pt_cmpR op_eq (pe_callB call_len_str (by rfl) T.b_len (by decide +kernel) (pa_cons (pv 3) pa_nil)) pe_int (nomark _)) (pss_one ps_break) pss_nil))))))
      (pss_cons (ps_set (i := 4) nd rfl (by first | exact Or.inl rfl | exact Or.inr rfl) (pe_lst pa_nil))
      (pss_cons (ps_for PassesOwn.never rfl (pi_range1 (by rfl) T.b_range (pa_cons (pe_op op_add pe_int (pe_call (ok__law_pull T) (hr.mono (by decide)) (by rfl) T.mg__law_pull T.k__law_pull T.b__law_pull .nil pass0 (pa_cons (pv 0) (pa_cons (pe_callB call_len (by rfl) T.b_len (by decide +kernel) (pa_cons (pv 1) pa_nil)) pa_nil)))) pa_nil)) (pg_name (i := 2) nd rfl (by first | exact Or.inl rfl | exact Or.inr rfl)) (pss_cons (ps_set (i := 3) nd rfl (by first | exact Or.inl rfl | exact Or.inr rfl) (pe_bm PySem.F.plainAttrs_list PySem.F.slot_list_pop PySem.F.type_list_pop mt_popAt (pv 1) (pa_cons (pe_call (ok__law_pull T) (hr.mono (by decide)) (by rfl) T.mg__law_pull T.k__law_pull T.b__law_pull .nil pass0 (pa_cons (pv 0) (pa_cons (pe_callB call_len (by rfl) T.b_len (by decide +kernel) (pa_cons (pv 1) pa_nil)) pa_nil))) pa_nil)))
      (Evl.pss_cut (ps_if (pt_cmpR op_eq (pe_call (ok__law_pull T) (hr.mono (by decide)) (by rfl) T.mg__law_pull T.k__law_pull T.b__law_pull .nil pass0 (pa_cons (pv 0) (pa_cons pe_int pa_nil))) pe_int (nomark _)) (pss_one (ps_set (i := 3) nd rfl (by first | exact Or.inl rfl | exact Or.inr rfl) (pe_op op_add_str (pv 3) (pe_call (ok__law_draw_bits T) (hr.mono (by decide)) (by rfl) T.mg__law_draw_bits T.k__law_draw_bits T.b__law_draw_bits .nil pass0 (pa_cons (pv 0) (pa_cons (pe_call (ok__law_pull T) (hr.mono (by decide)) (by rfl) T.mg__law_pull T.k__law_pull T.b__law_pull .nil pass0 (pa_cons (pv 0) (pa_cons (pe_op op_sub pe_int (pe_callB call_len_str (by rfl) T.b_len (by decide +kernel) (pa_cons (pv 3) pa_nil))) pa_nil))) pa_nil)))))) pss_nil)
      (pss_one (ps_expr (pe_bm PySem.F.plainAttrs_list PySem.F.slot_list_append PySem.F.type_list_append mt_append (pv 4) (pa_cons (pv 3) pa_nil)))))))
      (pss_one (ps_ret (pv 4))))))), ?_⟩
  clear nd hr
  replace h := sp1_of h
  obtain ⟨v_state, rfl, h⟩ := h

  obtain ⟨d, rfl, r, k⟩ := h
  refine ⟨(by show 2 ≤ sizeLine; rw [sizeLine_eq]; decide), fun L hL => ?_⟩
  have nL := r.nep hL
  have nLl := r.nel hL
  have r0 := r.new hL (o := .lst [V.str "0", V.str "1"])
  have e0 : Chg d H (upd H L (.lst [V.str "0", V.str "1"])) := Chg.new hL
  have hL0 : (upd H L (.lst [V.str "0", V.str "1"])) L = some (.lst ([("0" : Str), "1"].map V.str)) := upd_same
  generalize upd H L (.lst [V.str "0", V.str "1"]) = H0 at r0 e0 hL0 ⊢
  refine ⟨fun σ' H' => ∃ (ls : List Str) (kv wv : Option V), σ' = [some (.ref d.p), some (.ref L), kv, wv, none] ∧ H' L = some (.lst (ls.map V.str)) ∧ 1 ≤ ls.length ∧ ls.length ≤ 10 ∧ (∀ w ∈ ls, wordy w) ∧ ls.Pairwise Apart ∧ Chg d H H' ∧ Rng d H', ?_, ?_⟩
  · refine ⟨_, rfl, _, _, rfl, d, _, rfl, rfl, r0, by decide, small_log (by decide) (by decide), fun v1 H1 a0 a1 e1 r1 => ⟨v1, rfl, by omega, by omega, ?_⟩⟩
    refine for_range (n := v1.toNat) (fun i σ' H' => ∃ (ls : List Str) (kv wv : Option V), σ' = [some (.ref d.p), some (.ref L), kv, wv, none] ∧ H' L = some (.lst (ls.map V.str)) ∧ ls.length = 2 + i ∧ (∀ w ∈ ls, wordy w ∧ w.length ≤ 7) ∧ ls.Pairwise Apart ∧ Chg d H H' ∧ Rng d H')
      ⟨["0", "1"], _, _, rfl, e1 _ _ nL hL0, rfl, wordy01, pw01, e0.trans e1, r1⟩ ?_ ?_
    · rintro i σ' H2 hi ⟨ls, kv, wv, rfl, hL2, ll, hw, ap, e2, r2⟩
      refine ⟨_, rfl, .inl ⟨rfl, _, SqL.of hL2⟩, _, rfl, _, rfl, _, _, rfl, .inl ⟨_, SqL.of hL2, rfl⟩, _, _, rfl, d, _, rfl, rfl, r2, by rw [List.length_map]; omega, small_log (by rw [List.length_map]; omega) (by rw [List.length_map]; omega), fun v H3 h0 hv e3 r3 => ?_⟩
      obtain ⟨j, rfl⟩ := Int.eq_ofNat_of_zero_le h0
      rw [List.length_map] at hv
      have hj : ls[j]? = some ls[j] := List.getElem?_eq_getElem (by omega)
      generalize ls[j] = w at hj
      obtain ⟨wd, w7⟩ := hw w (List.mem_of_getElem? hj)
      have hL3 := e3 _ _ nL hL2
      refine ⟨L, _, _, j, .str w, rfl, rfl, hL3, by omega, by omega, seq_ix (by rw [List.length_map]; omega), by rw [List.getElem?_map, hj]; rfl, ?_⟩
      have e4 : Chg d H (upd H3 L (.lst ((ls.map V.str).eraseIdx j))) := (e2.trans e3).mut hL
      have r4 : Rng d (upd H3 L (.lst ((ls.map V.str).eraseIdx j))) := r3.put nL nLl
      have hL4 : (upd H3 L (.lst ((ls.map V.str).eraseIdx j))) L = some (.lst ((ls.eraseIdx j).map V.str)) := by rw [upd_same, erase_map]
      generalize upd H3 L (.lst ((ls.map V.str).eraseIdx j)) = H4 at e4 r4 hL4 ⊢
      have le : (ls.eraseIdx j).length = 1 + i := by rw [List.length_eraseIdx_of_lt (by omega)]; omega
      refine ⟨_, rfl, .inl ⟨rfl, _, SqL.of hL4⟩, _, rfl, _, _, rfl, rfl, by rw [sizeLine_eq]; show w.length + 1 ≤ _; omega, L, _, _, rfl, rfl, hL4, by rw [sizeLine_eq, List.length_map]; omega, ?_⟩
      have e5 : Chg d H (upd H4 L (.lst ((ls.eraseIdx j).map V.str ++ [V.str (w ++ "0")]))) := e4.mut hL
      have r5 : Rng d (upd H4 L (.lst ((ls.eraseIdx j).map V.str ++ [V.str (w ++ "0")]))) := r4.put nL nLl
      have hL5 : (upd H4 L (.lst ((ls.eraseIdx j).map V.str ++ [V.str (w ++ "0")]))) L = some (.lst ((ls.eraseIdx j ++ [w ++ "0"]).map V.str)) := by rw [upd_same, List.map_append]; rfl
      generalize upd H4 L (.lst ((ls.eraseIdx j).map V.str ++ [V.str (w ++ "0")])) = H5 at e5 r5 hL5 ⊢
      refine ⟨_, rfl, .inl ⟨rfl, _, SqL.of hL5⟩, _, rfl, _, _, rfl, rfl, by rw [sizeLine_eq]; show w.length + 1 ≤ _; omega, L, _, _, rfl, rfl, hL5, by rw [sizeLine_eq, List.length_map, List.length_append, le]; show 1 + i + 1 < _; omega, ?_⟩
      have e6 : Chg d H (upd H5 L (.lst ((ls.eraseIdx j ++ [w ++ "0"]).map V.str ++ [V.str (w ++ "1")]))) := e5.mut hL
      have r6 : Rng d (upd H5 L (.lst ((ls.eraseIdx j ++ [w ++ "0"]).map V.str ++ [V.str (w ++ "1")]))) := r5.put nL nLl
      have hL6 : (upd H5 L (.lst ((ls.eraseIdx j ++ [w ++ "0"]).map V.str ++ [V.str (w ++ "1")]))) L = some (.lst ((ls.eraseIdx j ++ [w ++ "0", w ++ "1"]).map V.str)) := by
        rw [upd_same]
        simp only [List.map_append, List.append_assoc]
        rfl
      generalize upd H5 L (.lst ((ls.eraseIdx j ++ [w ++ "0"]).map V.str ++ [V.str (w ++ "1")])) = H6 at e6 r6 hL6 ⊢
      have ap6 := pw_step ap hj
      obtain ⟨w0, w1⟩ := wordy_0 wd w7
      have l6 : (ls.eraseIdx j ++ [w ++ "0", w ++ "1"]).length = 2 + (i + 1) := by rw [List.length_append, le]; show 1 + i + 2 = _; omega
      refine ⟨_, rfl, w, rfl, by rw [sizeLine_eq]; omega, rfl, _, rfl, ?_⟩
      rw [dIntE]
      refine iteB (fun g => ?_) (fun g => ?_)
      · refine ⟨_, _, _, rfl, hL6, by omega, by omega, fun x hx => ?_, ap6, e6, r6⟩
        rcases List.mem_append.mp hx with hx | hx
        · exact (hw x (mem_erase hx)).1
        · rcases List.mem_cons.mp hx with e | hx
          · rw [e]; exact w0
          · rw [List.mem_singleton.mp hx]; exact w1
      · have n7 : w.length ≤ 6 := by have := of_decide_eq_false g; omega
        refine ⟨_, _, _, rfl, hL6, l6, fun x hx => ?_, ap6, e6, r6⟩
        rcases List.mem_append.mp hx with hx | hx
        · exact hw x (mem_erase hx)
        · rcases List.mem_cons.mp hx with e | hx
          · rw [e]; exact ⟨w0, by rw [app0, app_len1]; omega⟩
          · rw [List.mem_singleton.mp hx]; exact ⟨w1, by rw [app1, app_len1]; omega⟩
    · rintro σ' H2 ⟨ls, kv, wv, rfl, hL2, ll, hw, ap, e2, r2⟩
      exact ⟨ls, _, _, rfl, hL2, by omega, by omega, fun x hx => (hw x hx).1, ap, e2, r2⟩
  rintro σ' H1 ⟨ls, kv, wv, rfl, hL1, l1, l10, hw, ap, e1, r1⟩
  refine ⟨(by show 0 ≤ sizeLine; rw [sizeLine_eq]; decide), fun W hW => ?_⟩
  have nW := r1.nep hW
  have nWl := r1.nel hW
  have nLW : L ≠ W := ne_of_none hL1 hW
  have hW0 : H W = none := e1.free nW hW
  have rW := r1.new hW (o := .lst [])
  have eW : Chg d H (upd H1 W (.lst [])) := e1.trans (Chg.new hW)
  have hLW : (upd H1 W (.lst [])) L = some (.lst (ls.map V.str)) := (same_new hW) _ _ hL1
  have hWW : (upd H1 W (.lst [])) W = some (.lst []) := upd_same
  generalize upd H1 W (.lst []) = H2 at rW eW hLW hWW ⊢
  refine ⟨_, rfl, _, rfl, _, _, rfl, .inl ⟨_, SqL.of hLW, rfl⟩, _, _, rfl, d, _, rfl, rfl, rW, by rw [List.length_map]; omega, small_log (by rw [List.length_map]; omega) (by rw [List.length_map]; omega), fun v1 H3 a0 a1 e3 r3 => ⟨_, _, rfl, rfl, _, rfl, by omega, by rw [List.length_map] at a1; omega, ?_⟩⟩
  rw [List.length_map] at a1
  have hn : (1 + v1).toNat ≤ ls.length := by omega
  have hn1 : 1 ≤ (1 + v1).toNat := by omega
  generalize (1 + v1).toNat = N at hn hn1
  refine for_range (n := N) (fun i σ' H' => ∃ (us vs : List Str) (kv wv : Option V), σ' = [some (.ref d.p), some (.ref L), kv, wv, some (.ref W)] ∧ H' L = some (.lst (us.map V.str)) ∧ H' W = some (.lst (vs.map V.str)) ∧ us.length + i = ls.length ∧ vs.length = i ∧ (∀ w ∈ us, wordy w) ∧ (∀ w ∈ vs, wordy w) ∧ (us ++ vs).Pairwise Apart ∧ Chg d H H' ∧ Rng d H')
    ⟨ls, [], _, _, rfl, e3 _ _ nL hLW, e3 _ _ nW hWW, rfl, rfl, hw, (fun w h => nomatch h), by rw [List.append_nil]; exact ap, eW.trans e3, r3⟩ ?_ ?_
  · rintro i σ' H4 hi ⟨us, vs, kv, wv, rfl, hL4, hW4, lu, lv, hwu, hwv, ap4, e4, r4⟩
    refine ⟨_, rfl, .inl ⟨rfl, _, SqL.of hL4⟩, _, rfl, _, rfl, _, _, rfl, .inl ⟨_, SqL.of hL4, rfl⟩, _, _, rfl, d, _, rfl, rfl, r4, by rw [List.length_map]; omega, small_log (by rw [List.length_map]; omega) (by rw [List.length_map]; omega), fun v H5 h0 hv e5 r5 => ?_⟩
    obtain ⟨j, rfl⟩ := Int.eq_ofNat_of_zero_le h0
    rw [List.length_map] at hv
    have hj2 : j < us.length := by omega
    have hj : us[j]? = some us[j] := List.getElem?_eq_getElem hj2
    have ap5 := pw_move hj2 ap4
    generalize us[j] = w at hj ap5
    have wd := hwu w (List.mem_of_getElem? hj)
    obtain ⟨wb, w1, w8⟩ := wordy_bits wd
    have hL5 := e5 _ _ nL hL4
    refine ⟨L, _, _, j, .str w, rfl, rfl, hL5, by omega, by omega, seq_ix (by rw [List.length_map]; omega), by rw [List.getElem?_map, hj]; rfl, ?_⟩
    have e6 : Chg d H (upd H5 L (.lst ((us.map V.str).eraseIdx j))) := (e4.trans e5).mut hL
    have r6 : Rng d (upd H5 L (.lst ((us.map V.str).eraseIdx j))) := r5.put nL nLl
    have hL6 : (upd H5 L (.lst ((us.map V.str).eraseIdx j))) L = some (.lst ((us.eraseIdx j).map V.str)) := by rw [upd_same, erase_map]
    have hW6 : (upd H5 L (.lst ((us.map V.str).eraseIdx j))) W = some (.lst (vs.map V.str)) := by rw [upd_ne nLW.symm]; exact e5 _ _ nW hW4
    generalize upd H5 L (.lst ((us.map V.str).eraseIdx j)) = H6 at e6 r6 hL6 hW6 ⊢
    have le : (us.eraseIdx j).length + 1 = us.length := by rw [List.length_eraseIdx_of_lt hj2]; omega
    refine ⟨fun σ' H' => ∃ (b : Str) (kv : Option V), σ' = [some (.ref d.p), some (.ref L), kv, some (.str (w ++ b)), some (.ref W)] ∧ wordy (w ++ b) ∧ H' L = some (.lst ((us.eraseIdx j).map V.str)) ∧ H' W = some (.lst (vs.map V.str)) ∧ Chg d H H' ∧ Rng d H', ?_, ?_⟩
    · refine ⟨_, rfl, _, _, rfl, d, _, rfl, rfl, r6, by decide, small_log (by decide) (by decide), fun v2 H7 c0 c1 e7 r7 => ⟨rfl, _, rfl, iteB (fun _ => ?_) (fun _ => ⟨"", _, by rw [app_emp]; rfl, by rw [app_emp]; exact wd, e7 _ _ nL hL6, e7 _ _ nW hW6, e6.trans e7, r7⟩)⟩⟩
      refine ⟨_, rfl, _, rfl, _, rfl, _, rfl, w, rfl, by rw [sizeLine_eq]; omega, _, _, rfl, rfl, _, _, rfl, d, _, rfl, rfl, r7, by omega, small_log (by omega) (by omega), fun v3 H8 d0 d1 e8 r8 => ?_⟩
      obtain ⟨n, rfl⟩ := Int.eq_ofNat_of_zero_le d0
      refine ⟨_, _, rfl, d, n, rfl, rfl, by omega, r8, fun cs H9 lc hc e9 r9 => ?_⟩
      have lcs : (⟨cs.toArray⟩ : Str).length = n := list_len.trans lc
      refine ⟨_, _, rfl, rfl, by rw [sizeLine_eq, lcs]; omega, ?_⟩
      have e79 := e7.trans (e8.trans e9)
      exact ⟨_, _, rfl, wordy_of (bits_cat wb hc) (by rw [PySem.Str.length_append]; omega) (by rw [PySem.Str.length_append, lcs]; omega), e79 _ _ nL hL6, e79 _ _ nW hW6, e6.trans e79, r9⟩
    rintro σ' H7 ⟨b, kv, rfl, wdb, hL7, hW7, e7, r7⟩
    refine ⟨_, rfl, .inl ⟨rfl, _, SqL.of hW7⟩, _, rfl, W, _, _, rfl, rfl, hW7, by rw [sizeLine_eq, List.length_map]; omega, ?_⟩
    refine ⟨us.eraseIdx j, vs ++ [w ++ b], _, _, rfl, by rw [upd_ne nLW]; exact hL7, by rw [upd_same, List.map_append]; rfl, by omega, by rw [List.length_append, lv]; rfl, fun x hx => hwu x (mem_erase hx), fun x hx => ?_, apart_last ap5, e7.mut hW0, r7.put nW nWl⟩
    rcases List.mem_append.mp hx with hx | hx
    · exact hwv x hx
    · rw [List.mem_singleton.mp hx]; exact wdb
  · rintro σ' H4 ⟨us, vs, kv, wv, rfl, hL4, hW4, lu, lv, hwu, hwv, ap4, e4, r4⟩
    exact ⟨_, rfl, k W vs H4 hW4 nW nWl hW0 (by omega) (by omega) hwv (List.pairwise_append.mp ap4).2.1 e4 r4⟩
theorem ok__law_draw_way (T : Txt K mg A) : FnOk P w K mg base CX0 3 A.f__law_draw_way A.d__law_draw_way ["state", "words", "used"] (sp__law_draw_way K A) := by
  refine T.F__law_draw_way.ok sc__law_draw_way (fun vs H Q E h => sp3_len h) (fun cdv A0 outer s H vs Q E hr h => ?_)
  have nd := sc__law_draw_way.nd
  refine ⟨_, (pss_cons (ps_set (i := 3) nd rfl (by first | exact Or.inl rfl | exact Or.inr rfl) (pe_call (ok__law_gaps T) (hr.mono (by decide)) (by rfl) T.mg__law_gaps T.k__law_gaps T.b__law_gaps .nil pass0 (pa_cons (pv 1) pa_nil)))
      (pss_cons (ps_set (i := 4) nd rfl (by first | exact Or.inl rfl | exact Or.inr rfl) (pe_call (ok__law_pull T) (hr.mono (by decide)) (by rfl) T.mg__law_pull T.k__law_pull T.b__law_pull .nil pass0 (pa_cons (pv 0) (pa_cons pe_int pa_nil))))
      (pss_cons (ps_set (i := 5) nd rfl (by first | exact Or.inl rfl | exact Or.inr rfl) (pe_call (ok__law_draw_bits T) (hr.mono (by decide)) (by rfl) T.mg__law_draw_bits T.k__law_draw_bits T.b__law_draw_bits .nil pass0 (pa_cons (pv 0) (pa_cons (pe_op op_add pe_int (pe_call (ok__law_pull T) (hr.mono (by decide)) (by rfl) T.mg__law_pull T.k__law_pull T.b__law_pull .nil pass0 (pa_cons (pv 0) (pa_cons pe_int pa_nil)))) pa_nil))))
      (Evl.pss_cut (ps_if (PW.pt (pw_and (pt_cmpR op_gt (pv 4) pe_int (nomark _)) (pw_and1 (pt_cmpR op_gt (pe_callB call_len (by rfl) T.b_len (by decide +kernel) (pa_cons (pv 3) pa_nil)) pe_int (nomark _))))) (pss_cons (ps_set (i := 5) nd rfl (by first | exact Or.inl rfl | exact Or.inr rfl) (pe_ix ix_list (pv 3) (pe_call (ok__law_pull T) (hr.mono (by decide)) (by rfl) T.mg__law_pull T.k__law_pull T.b__law_pull .nil pass0 (pa_cons (pv 0) (pa_cons (pe_callB call_len (by rfl) T.b_len (by decide +kernel) (pa_cons (pv 3) pa_nil)) pa_nil))) (fun _ _ => rfl)))
      (Evl.pss_cut (ps_if (pt_cmpR op_eq (pv 4) pe_int (nomark _)) (pss_one (ps_set (i := 5) nd rfl (by first | exact Or.inl rfl | exact Or.inr rfl) (pe_slice sl_str (pe_op op_add_str (pv 5) (pe_call (ok__law_draw_bits T) (hr.mono (by decide)) (by rfl) T.mg__law_draw_bits T.k__law_draw_bits T.b__law_draw_bits .nil pass0 (pa_cons (pv 0) (pa_cons (pe_call (ok__law_pull T) (hr.mono (by decide)) (by rfl) T.mg__law_pull T.k__law_pull T.b__law_pull .nil pass0 (pa_cons (pv 0) (pa_cons pe_int pa_nil))) pa_nil)))) po_none (po_some pe_int)))) pss_nil)
      (pss_one (ps_if (PW.pt (pw_and (pt_cmpR op_eq (pv 4) pe_int (nomark _)) (pw_and1 (pt_cmpR op_gt (pe_callB call_len_str (by rfl) T.b_len (by decide +kernel) (pa_cons (pv 5) pa_nil)) pe_int (nomark _))))) (pss_one (ps_set (i := 5) nd rfl (by first | exact Or.inl rfl | exact Or.inr rfl) (pe_slice sl_str (pv 5) po_none (po_some (pe_op op_add pe_int (pe_call (ok__law_pull T) (hr.mono (by decide)) (by rfl) T.mg__law_pull T.k__law_pull T.b__law_pull .nil pass0 (pa_cons (pv 0) (pa_cons (pe_callB call_len_str (by rfl) T.b_len (by decide +kernel) (pa_cons (pv 5) pa_nil)) pa_nil)))))))) pss_nil)))) pss_nil)
      (Evl.pss_cut (ps_set (i := 6) nd rfl (by first | exact Or.inl rfl | exact Or.inr rfl) (pe_ix ix_list (pe_lst (pa_cons pe_str (pa_cons pe_str (pa_cons pe_str (pa_cons pe_str pa_nil))))) (pe_call (ok__law_pull T) (hr.mono (by decide)) (by rfl) T.mg__law_pull T.k__law_pull T.b__law_pull .nil pass0 (pa_cons (pv 0) (pa_cons pe_int pa_nil))) (fun _ _ => rfl)))
      (Evl.pss_cut (ps_set (i := 7) nd rfl (by first | exact Or.inl rfl | exact Or.inr rfl) (pe_ix ix_list (pe_lst (pa_cons (pe_tup (pa_cons pe_str pa_nil)) (pa_cons (pe_tup (pa_cons pe_str (pa_cons pe_int pa_nil))) (pa_cons pe_non (pa_cons (pe_tup (pa_cons pe_str (pa_cons pe_int (pa_cons pe_int (pa_cons pe_non pa_nil))))) pa_nil))))) (pe_call (ok__law_pull T) (hr.mono (by decide)) (by rfl) T.mg__law_pull T.k__law_pull T.b__law_pull .nil pass0 (pa_cons (pv 0) (pa_cons pe_int pa_nil))) (fun _ _ => rfl)))
      (Evl.pss_cut (ps_if (PW.pt (pw_and (pt_cmpR op_eq (pv 6) pe_str (nomark _)) (pw_and1 (pt_cmpR op_isN (pv 7) pe_non (nomark _))))) (pss_one (ps_set (i := 7) nd rfl (by first | exact Or.inl rfl | exact Or.inr rfl) (pe_tup (pa_cons pe_str (pa_cons pe_int pa_nil))))) pss_nil)
      (pss_cons (ps_set (i := 8) nd rfl (by first | exact Or.inl rfl | exact Or.inr rfl) (pe_call (ok__law_name T) (hr.mono (by decide)) (by rfl) T.mg__law_name T.k__law_name T.b__law_name .nil pass0 (pa_cons (pv 0) (pa_cons (pe_callTy call_list_of (by rfl) T.b_list (by decide +kernel) (pa_cons (pv 2) pa_nil)) pa_nil))))
      (Evl.pss_cut (ps_if (pt_cmpR op_eq (pe_call (ok__law_pull T) (hr.mono (by decide)) (by rfl) T.mg__law_pull T.k__law_pull T.b__law_pull .nil pass0 (pa_cons (pv 0) (pa_cons pe_int pa_nil))) pe_int (nomark _)) (pss_one (ps_set (i := 8) nd rfl (by first | exact Or.inl rfl | exact Or.inr rfl) (pe_ix ix_list (pv 2) (pe_call (ok__law_pull T) (hr.mono (by decide)) (by rfl) T.mg__law_pull T.k__law_pull T.b__law_pull .nil pass0 (pa_cons (pv 0) (pa_cons (pe_callB call_len (by rfl) T.b_len (by decide +kernel) (pa_cons (pv 2) pa_nil)) pa_nil))) (fun _ _ => rfl)))) pss_nil)
      (pss_one (ps_ret (pe_tup (pa_cons (pv 6) (pa_cons (pv 5) (pa_cons (pv 8) (pa_cons (pv 7) pa_nil)))))))))))))))), ?_⟩
  clear nd hr
  replace h := sp3_of h
  obtain ⟨v_state, v_words, v_used, rfl, h⟩ := h

  obtain ⟨d, p, u, ws, us, rfl, rfl, rfl, r, np, nu, hp, hu, l12, wd, u1, u12, un, k⟩ := h
  refine ⟨_, rfl, _, rfl, p, ws, rfl, hp, l12, fun w hw => (wordy_bits (wd w hw)).2.2, fun g gs H1 hg hg0 mem srt nd lg e1 => ?_⟩
  have r1 := r.same e1
  have ng := r.nep hg0
  refine ⟨_, rfl, _, _, rfl, d, _, rfl, rfl, r1, by decide, small_log (by decide) (by decide), fun tn H2 t0 t1 e2 r2 => ?_⟩
  refine ⟨_, rfl, _, rfl, _, _, rfl, d, _, rfl, rfl, r2, by decide, small_log (by decide) (by decide), fun v3 H3 a0 a1 e3 r3 => ?_⟩
  obtain ⟨n, rfl⟩ := Int.eq_ofNat_of_zero_le a0
  refine ⟨_, _, rfl, rfl, _, _, rfl, d, n + 1, rfl, by show V.int (1 + (n : Int)) = _; rw [Int.add_comm]; rfl, by omega, r3, fun cs H4 lc hc e4 r4 => ?_⟩
  have e04 : Chg d H H4 := (Chg.same e1).trans (e2.trans (e3.trans e4))
  have hg4 := e4 _ _ ng (e3 _ _ ng (e2 _ _ ng hg))
  have w0 : wordy ⟨cs.toArray⟩ := bits_word hc (by omega) (by omega)
  clear e1 e2 e3 e4 r1 r2 r3 hg
  refine ⟨fun σ' H' => ∃ w, σ' = [some (.ref d.p), some (.ref p), some (.ref u), some (.ref g), some (.int tn), some (.str w), none, none, none] ∧ wordy w ∧ Chg d H H' ∧ Rng d H', ?_, ?_⟩
  · refine ⟨_, rfl, _, _, rfl, rfl, _, rfl, iteB (fun _ => ?_) (fun _ => iteF ⟨_, rfl, w0, e04, r4⟩)⟩
    refine ⟨_, rfl, _, _, rfl, .inl ⟨_, SqL.of hg4, rfl⟩, _, _, rfl, rfl, _, rfl, iteB (fun g1 => ?_) (fun _ => ⟨_, rfl, w0, e04, r4⟩)⟩
    have lpos : 0 < gs.length := by
      have := of_decide_eq_true g1
      rw [List.length_map] at this
      omega
    refine ⟨_, rfl, _, rfl, _, rfl, _, _, rfl, .inl ⟨_, SqL.of hg4, rfl⟩, _, _, rfl, d, _, rfl, rfl, r4, by rw [List.length_map]; omega, small_log (by rw [List.length_map]; omega) (by rw [List.length_map]; omega), fun v H5 b0 b1 e5 r5 => ?_⟩
    obtain ⟨j, rfl⟩ := Int.eq_ofNat_of_zero_le b0
    rw [List.length_map] at b1
    have hj : gs[j]? = some gs[j] := List.getElem?_eq_getElem (by omega)
    generalize gs[j] = x at hj
    have wx : wordy x := by
      obtain ⟨_, w, hw, kk, c, h1, h2⟩ := (mem x).mp (List.mem_of_getElem? hj)
      rw [h2]
      exact gap_wordy (wd w hw) h1
    have hg5 := e5 _ _ ng hg4
    refine ⟨g, _, _, .str x, rfl, rfl, SqL.of hg5, atI_nat (by rw [List.getElem?_map, hj]; rfl), ?_⟩
    have e05 := e04.trans e5
    obtain ⟨xb, x1, x8⟩ := wordy_bits wx
    refine ⟨fun σ' H' => ∃ w, σ' = [some (.ref d.p), some (.ref p), some (.ref u), some (.ref g), some (.int tn), some (.str w), none, none, none] ∧ wordy w ∧ Chg d H H' ∧ Rng d H', ?_, ?_⟩
    · refine ⟨_, rfl, rfl, _, rfl, iteB (fun _ => ?_) (fun _ => ⟨_, rfl, wx, e05, r5⟩)⟩
      refine ⟨_, rfl, _, rfl, _, rfl, _, _, rfl, d, _, rfl, rfl, r5, by decide, small_log (by decide) (by decide), fun v6 H6 c0 c1 e6 r6 => ?_⟩
      obtain ⟨m, rfl⟩ := Int.eq_ofNat_of_zero_le c0
      refine ⟨_, _, rfl, d, m, rfl, rfl, by omega, r6, fun cs2 H7 lc2 hc2 e7 r7 => ?_⟩
      have lcs : (⟨cs2.toArray⟩ : Str).length = m := list_len.trans lc2
      refine ⟨_, _, rfl, rfl, by rw [sizeLine_eq, lcs]; omega, _, rfl, _, rfl, by rw [sizeLine_eq, PySem.Str.length_append, lcs]; omega, ?_⟩
      exact ⟨_, rfl, cut_wordy (n := 8) (bits_cat xb hc2) (by rw [PySem.Str.length_append]; omega) (by decide) (by decide), e05.trans (e6.trans e7), r7⟩
    rintro σ' H6 ⟨w, rfl, ww, e6, r6⟩
    obtain ⟨wb, w1, w8⟩ := wordy_bits ww
    refine ⟨_, rfl, rfl, _, rfl, iteB (fun _ => ?_) (fun _ => iteF ⟨_, rfl, ww, e6, r6⟩)⟩
    refine ⟨_, rfl, w, rfl, by rw [sizeLine_eq]; omega, _, _, rfl, rfl, _, rfl, iteB (fun g2 => ?_) (fun _ => ⟨_, rfl, ww, e6, r6⟩)⟩
    refine ⟨_, rfl, _, rfl, _, rfl, w, rfl, by rw [sizeLine_eq]; omega, _, _, rfl, d, _, rfl, rfl, r6, by omega, small_log (by omega) (by omega), fun v7 H7 c0 c1 e7 r7 => ⟨_, _, rfl, rfl, _, rfl, w, rfl, by rw [sizeLine_eq]; omega, ?_⟩⟩
    obtain ⟨m, rfl⟩ := Int.eq_ofNat_of_zero_le c0
    refine ⟨_, by rw [show ((1 : Int) + (m : Int)) = ((m + 1 : Nat) : Int) from by omega]; rfl, cut_wordy (n := m + 1) wb (by omega) (by omega) (by omega), e6.trans e7, r7⟩
  clear e04 r4 hg4 w0 hc lc cs
  rintro σ' H4 ⟨w, rfl, ww, e4, r4⟩
  refine ⟨fun σ' H' => ∃ mk : Bool, σ' = [some (.ref d.p), some (.ref p), some (.ref u), some (.ref g), some (.int tn), some (.str w), some (.str (if mk = true then "door" else "way")), none, none] ∧ Chg d H H' ∧ Rng d H', ?_, ?_⟩
  · refine ⟨(by show 4 ≤ sizeLine; rw [sizeLine_eq]; decide), fun M hM => ⟨_, rfl, _, _, rfl, d, _, rfl, rfl, r4.new hM, by decide, small_log (by decide) (by decide), fun v5 H5 c0 c1 e5 r5 => ?_⟩⟩
    obtain ⟨j, rfl⟩ := Int.eq_ofNat_of_zero_le c0
    have hM5 := e5 _ _ (r4.nep hM) upd_same
    have e45 := e4.trans ((Chg.new hM).trans e5)
    have hj : ∃ mk : Bool, [V.str "way", V.str "way", V.str "door", V.str "door"][j]? = some (V.str (if mk = true then "door" else "way")) := by
      match j, c1 with
      | 0, _ => exact ⟨false, rfl⟩
      | 1, _ => exact ⟨false, rfl⟩
      | 2, _ => exact ⟨true, rfl⟩
      | 3, _ => exact ⟨true, rfl⟩
      | j + 4, h => omega
    obtain ⟨mk, hj⟩ := hj
    exact ⟨M, _, _, _, rfl, rfl, SqL.of hM5, atI_nat hj, mk, rfl, e45, r5⟩
  clear e4 r4
  rintro σ' H4 ⟨mk, rfl, e4, r4⟩
  refine ⟨fun σ' H' => ∃ iv ki, σ' = [some (.ref d.p), some (.ref p), some (.ref u), some (.ref g), some (.int tn), some (.str w), some (.str (if mk = true then "door" else "way")), some iv, none] ∧ InAt H' iv ki ∧ Sml ki ∧ Chg d H H' ∧ Rng d H', ?_, ?_⟩
  · refine ⟨(by show 1 ≤ sizeLine; rw [sizeLine_eq]; decide), fun t1 h1 => ⟨(by show 2 ≤ sizeLine; rw [sizeLine_eq]; decide), fun t2 h2 => ⟨(by show 4 ≤ sizeLine; rw [sizeLine_eq]; decide), fun t3 h3 => ⟨(by show 4 ≤ sizeLine; rw [sizeLine_eq]; decide), fun M hM => ?_⟩⟩⟩⟩
    have s1 := same_new (o := .tup [V.str "nothing"]) h1
    have s2 := same_new (o := .tup [V.str "bits", V.int 1]) h2
    have s3 := same_new (o := .tup [V.str "number", V.int 0, V.int 1, V.non]) h3
    have s4 := same_new (o := .lst [V.ref t1, V.ref t2, V.non, V.ref t3]) hM
    have k1 := s4 _ _ (s3 _ _ (s2 _ _ (upd_same (H := H4) (a := t1) (o := .tup [V.str "nothing"]))))
    have k2 := s4 _ _ (s3 _ _ (upd_same (H := upd H4 t1 (.tup [V.str "nothing"])) (a := t2) (o := .tup [V.str "bits", V.int 1])))
    have k3 := s4 _ _ (upd_same (H := upd (upd H4 t1 (.tup [V.str "nothing"])) t2 (.tup [V.str "bits", V.int 1])) (a := t3) (o := .tup [V.str "number", V.int 0, V.int 1, V.non]))
    have s14 := s1.trans (s2.trans (s3.trans s4))
    have nM := ((((r4.same s1).same s2).same s3)).nep hM
    have r5 := r4.same s14
    have e5 := e4.trans (Chg.same s14)
    have kM : (upd (upd (upd (upd H4 t1 (.tup [V.str "nothing"])) t2 (.tup [V.str "bits", V.int 1])) t3 (.tup [V.str "number", V.int 0, V.int 1, V.non])) M (.lst [V.ref t1, V.ref t2, V.non, V.ref t3])) M = _ := upd_same
    generalize upd (upd (upd (upd H4 t1 (.tup [V.str "nothing"])) t2 (.tup [V.str "bits", V.int 1])) t3 (.tup [V.str "number", V.int 0, V.int 1, V.non])) M (.lst [V.ref t1, V.ref t2, V.non, V.ref t3]) = H5 at k1 k2 k3 kM r5 e5 ⊢
    refine ⟨_, rfl, _, _, rfl, d, _, rfl, rfl, r5, by decide, small_log (by decide) (by decide), fun v6 H6 c0 c1 e6 r6 => ?_⟩
    obtain ⟨j, rfl⟩ := Int.eq_ofNat_of_zero_le c0
    have tk := TupKeep.chg r5 e6
    have kM6 := e6 _ _ nM kM
    obtain ⟨iv, ki, hj, hi, sm⟩ : ∃ iv ki, [V.ref t1, V.ref t2, V.non, V.ref t3][j]? = some iv ∧ InAt H6 iv ki ∧ Sml ki := by
      match j, c1 with
      | 0, _ => exact ⟨_, _, rfl, .nothing (tk _ _ k1), .inr (.inl rfl)⟩
      | 1, _ => exact ⟨_, _, rfl, .bits (tk _ _ k2) (by decide) (by decide), .inr (.inr (.inl rfl))⟩
      | 2, _ => exact ⟨_, _, rfl, .none, .inl rfl⟩
      | 3, _ => exact ⟨_, _, rfl, .num (w := none) (tk _ _ k3) (.inr ⟨rfl, rfl⟩), .inr (.inr (.inr rfl))⟩
      | j + 4, h => omega
    exact ⟨M, _, _, _, rfl, rfl, SqL.of kM6, atI_nat hj, iv, ki, rfl, hi, sm, e5.trans e6, r6⟩
  clear e4 r4
  rintro σ' H4 ⟨iv0, ki0, rfl, hi0, sm0, e4, r4⟩
  refine ⟨fun σ' H' => ∃ iv ki, σ' = [some (.ref d.p), some (.ref p), some (.ref u), some (.ref g), some (.int tn), some (.str w), some (.str (if mk = true then "door" else "way")), some iv, none] ∧ InAt H' iv ki ∧ ((mk = false → ki ≠ .none) ∧ (Sml ki ∨ (mk = false ∧ ki = .bits 2))) ∧ Chg d H H' ∧ Rng d H', ?_, ?_⟩
  · cases mk with
    | true =>
      refine ⟨_, rfl, rfl, _, rfl, iteB (fun z => absurd z (by rw [if_pos rfl, dStrE]; decide +kernel)) (fun _ => iteF ⟨_, _, rfl, hi0, ⟨(fun z => nomatch z), .inl sm0⟩, e4, r4⟩)⟩
    | false =>
      refine ⟨_, rfl, rfl, _, rfl, iteB (fun _ => ?_) (fun z => absurd z (by rw [if_neg (by decide), dStrE]; decide +kernel))⟩
      cases hi0 with
      | none => exact ⟨_, rfl, rfl, _, rfl, iteY ⟨(by show 2 ≤ sizeLine; rw [sizeLine_eq]; decide), fun t ht => ⟨_, _, rfl, .bits upd_same (by decide) (by decide), ⟨(fun _ z => nomatch z), .inr ⟨rfl, rfl⟩⟩, e4.trans (Chg.new ht), r4.new ht⟩⟩⟩
      | nothing h => exact ⟨_, rfl, rfl, _, rfl, iteF ⟨_, _, rfl, .nothing h, ⟨(fun _ z => nomatch z), .inl sm0⟩, e4, r4⟩⟩
      | bits h a b => exact ⟨_, rfl, rfl, _, rfl, iteF ⟨_, _, rfl, .bits h a b, ⟨(fun _ z => nomatch z), .inl sm0⟩, e4, r4⟩⟩
      | num h c => exact ⟨_, rfl, rfl, _, rfl, iteF ⟨_, _, rfl, .num h c, ⟨(fun _ z => nomatch z), .inl sm0⟩, e4, r4⟩⟩
  clear e4 r4 hi0
  rintro σ' H4 ⟨iv, ki, rfl, hi, ⟨nn, sm⟩, e4, r4⟩
  have hu4 := e4 _ _ nu hu
  refine ⟨_, rfl, _, rfl, u, _, rfl, .inl (SqL.of hu4), fun c hcn => ?_⟩
  have c0 := e4.free (r4.nep hcn) hcn
  have sc := same_new (o := .lst (us.map V.str)) hcn
  refine ⟨_, _, rfl, d, c, us, rfl, rfl, r4.nep hcn, r4.nel hcn, r4.same sc, upd_same, by omega, fun nm H5 okn _ e5 r5 => ?_⟩
  have tk5 : TupKeep H4 H5 := (TupKeep.same sc).trans (TupKeep.chg (r4.same sc) e5)
  have hc5 := e5 _ _ (r4.nep hcn) (upd_same (H := H4) (a := c) (o := .lst (us.map V.str)))
  have e6 : Chg d H (upd H5 c (.lst ((us ++ [nm]).map V.str))) := ((e4.trans (Chg.same sc)).trans e5).mut c0
  have r6 : Rng d (upd H5 c (.lst ((us ++ [nm]).map V.str))) := r5.put (r4.nep hcn) (r4.nel hcn)
  have hi6 := hi.keep (tk5.trans (TupKeep.set hc5 (o := .lst ((us ++ [nm]).map V.str))))
  generalize upd H5 c (.lst ((us ++ [nm]).map V.str)) = H6 at e6 r6 hi6 ⊢
  refine ⟨fun σ' H' => ∃ nm, σ' = [some (.ref d.p), some (.ref p), some (.ref u), some (.ref g), some (.int tn), some (.str w), some (.str (if mk = true then "door" else "way")), some iv, some (.str nm)] ∧ okName (.str nm) = true ∧ InAt H' iv ki ∧ Chg d H H' ∧ Rng d H', ?_, ?_⟩
  · refine ⟨_, rfl, _, _, rfl, d, _, rfl, rfl, r6, by decide, small_log (by decide) (by decide), fun v7 H7 c0 c1 e7 r7 => ⟨rfl, _, rfl, iteB (fun _ => ?_) (fun _ => ⟨nm, rfl, okn, hi6.keep (TupKeep.chg r6 e7), e6.trans e7, r7⟩)⟩⟩
    have e67 := e6.trans e7
    have hu7 := e67 _ _ nu hu
    refine ⟨_, rfl, _, rfl, _, rfl, _, _, rfl, .inl ⟨_, SqL.of hu7, rfl⟩, _, _, rfl, d, _, rfl, rfl, r7, by rw [List.length_map]; omega, small_log (by rw [List.length_map]; omega) (by rw [List.length_map]; omega), fun v H8 b0 b1 e8 r8 => ?_⟩
    obtain ⟨j, rfl⟩ := Int.eq_ofNat_of_zero_le b0
    rw [List.length_map] at b1
    have hj : us[j]? = some us[j] := List.getElem?_eq_getElem (by omega)
    have okj := un _ (List.mem_of_getElem? hj)
    exact ⟨u, _, _, .str us[j], rfl, rfl, SqL.of (e8 _ _ nu hu7), atI_nat (by rw [List.getElem?_map, hj]; rfl), _, rfl, okj, (hi6.keep (TupKeep.chg r6 e7)).keep (TupKeep.chg r7 e8), e67.trans e8, r8⟩
  clear e6 r6 hi6 okn
  rintro σ' H7 ⟨nm, rfl, okn, hi7, e7, r7⟩
  refine ⟨_, rfl, _, rfl, _, rfl, _, rfl, (by show 4 ≤ sizeLine; rw [sizeLine_eq]; decide), fun q hq => ?_⟩
  refine k _ ⟨mk, w, nm, ki⟩ _ ⟨q, iv, rfl, upd_same, hi7.keep (TupKeep.new hq)⟩ ⟨ww, okn, ?_⟩ sm (e7.trans (Chg.new hq)) (r7.new hq)
  cases mk with
  | true =>
    show (Td.k ki).door = true
    cases hi7 <;> rfl
  | false =>
    show (Td.k ki).way = true
    have nn := nn rfl
    cases hi7 <;> first | rfl | exact absurd rfl nn
theorem ok__law_way_reason (T : Txt K mg A) : FnOk P w K mg base CX0 1 A.f__law_way_reason A.d__law_way_reason ["ways", "way"] (sp__law_way_reason K A) := by
  refine T.F__law_way_reason.ok sc__law_way_reason (fun vs H Q E h => sp2_len h) (fun cdv A0 outer s H vs Q E hr h => ?_)
  have nd := sc__law_way_reason.nd
  refine ⟨_, (pss_cons (ps_if (pt_cmpR op_ge (pe_callB call_len (by rfl) T.b_len (by decide +kernel) (pa_cons (pv 0) pa_nil)) pe_int (nomark _)) (pss_one (ps_ret pe_str)) pss_nil)
      (pss_cons (ps_if (pt_cmpR op_in_seq (pe_ix ix_tup (pv 1) pe_int (fun _ _ => rfl)) (pe_lc (own := [("one", 2)]) (g := gName 2) (tt := tYes) (by rfl) nd (pi_list (pv 0)) (blkOk_by (own := [("one", 2)]) (N := ["ways", "way", "one"]) (sc := defScope s__law_way_reason) (by decide +kernel)) (fun _ _ _ _ _ => pg_name (i := 2) nd rfl (by first | exact Or.inl rfl | exact Or.inr rfl)) (fun _ _ _ _ _ => pts_nil) (fun _ _ _ _ _ => (pe_ix (ix_tupK (K := K) rfl) (pv 2) pe_int (fun _ _ => rfl)))) (by rfl)) (pss_one (ps_ret pe_str)) pss_nil)
      (pss_cons (ps_for PassesOwn.never rfl (pi_list (pv 0)) (pg_name (i := 2) nd rfl (by first | exact Or.inl rfl | exact Or.inr rfl)) (pss_one (ps_if (PW.pt (pw_or (pt_val (pe_m1 PySem.F.slot_str_startswith PySem.F.type_str_startswith mt_startswith (pe_ix ix_tup (pv 2) pe_int (fun _ _ => rfl)) (pe_ix ix_tup (pv 1) pe_int (fun _ _ => rfl)))) (pw_or1 (pt_val (pe_m1 PySem.F.slot_str_startswith PySem.F.type_str_startswith mt_startswith (pe_ix ix_tup (pv 1) pe_int (fun _ _ => rfl)) (pe_ix ix_tup (pv 2) pe_int (fun _ _ => rfl))))))) (pss_one (ps_ret pe_str)) pss_nil)))
      (pss_one (ps_ret pe_str))))), ?_⟩
  clear nd hr
  replace h := sp2_of h
  obtain ⟨v_ways, v_way, rfl, h⟩ := h

  obtain ⟨p, vs, ds, w, rfl, hp, pd, l12, hd, k⟩ := h
  have lv := pair_lenE pd
  obtain ⟨pw, iw, rfl, hpw, hiw⟩ := hd
  refine ⟨_, rfl, _, _, rfl, .inl ⟨_, SqL.of hp, rfl⟩, _, _, rfl, rfl, _, rfl, iteB (fun g => ?_) (fun g => ?_)⟩
  · have g : 12 ≤ ds.length := by have := of_decide_eq_true g; omega
    have q := k H (fun _ _ z => z)
    rw [show wayWhy (ds.map WD.kd) w.kd = some "many" from if_pos (by rw [List.length_map]; exact g)] at q
    exact q
  have n12 : ¬ 12 ≤ (ds.map WD.kd).length := by have := of_decide_eq_false g; rw [List.length_map]; omega
  refine ⟨_, rfl, _, _, _, _, rfl, rfl, SqT.of hpw, (show atI _ ((2 : Nat) : Int) = _ from atI_nat rfl), _, rfl, ?_⟩
  refine lc_lstG (tt := tYes) (fun _ v (b : Str) => v = V.str b) (fun _ _ _ _ _ q => q) (fun _ _ _ _ _ _ _ q => q) (fun _ => true) WD.name (DAt H) hp pd (by omega) (fun x => rfl) (fun x n H6 Q _ _ _ q => q) ?_ ?_
  · intro y z H6 Q hz mz _ e6 q
    obtain ⟨py, iy, rfl, hpy, _⟩ := hz
    have hy6 := e6 _ _ hpy
    exact ⟨_, rfl, _, _, _, _, rfl, rfl, SqT.of hy6, (show atI _ ((2 : Nat) : Int) = _ from atI_nat rfl), q _ _ (fun _ _ z => z) rfl⟩
  intro D ws H3 hD hD0 e3 pw3
  rw [List.filter_eq_self.mpr fun _ _ => rfl] at pw3
  have ews := pair_strs pw3
  subst ews
  refine ⟨D, _, rfl, .inl (SqL.of hD), rfl, flat_strsE _, _, rfl, ?_⟩
  show if (inV (.str w.name) ((ds.map WD.name).map V.str)) = true then _ else _
  rw [inV_strE, why_name]
  refine iteB (fun g => ?_) (fun g => ?_)
  · have q := k H3 e3
    rw [show wayWhy (ds.map WD.kd) w.kd = some "same" from (if_neg n12).trans (if_pos g)] at q
    exact q
  have n13 : ¬ ((ds.map WD.kd).any fun z => decide (nameK z = nameK w.kd)) = true := by rw [g]; decide
  have hp3 := e3 _ _ hp
  refine ⟨_, rfl, p, rfl, ⟨_, SqL.of hp3⟩, ?_⟩
  refine for_it (walk_list (xs := vs)) (fun j σ' H' => ∃ ov, σ' = [some (.ref p), some (.ref pw), ov] ∧ Same H H' ∧ (ds.take j).any (fun d => pre2 d.word w.word) = false) ⟨_, rfl, e3, rfl⟩ (fun j σ' H' _ ⟨_, _, e, _⟩ => SqL.of (e _ _ hp)) ?_ ?_
  · rintro j y σ' H6 H6' hj ⟨ov, rfl, e6, na⟩ ⟨rfl, hy⟩
    obtain ⟨d, hd2, hdy⟩ := pair_atE pd hy
    obtain ⟨py, iy, rfl, hpy, _⟩ := hdy
    have hy6 := e6 _ _ hpy
    have hw6 := e6 _ _ hpw
    have tk : ds.take (j + 1) = ds.take j ++ [d] := take_snoc hd2
    have wordW : pre2 d.word w.word = true → wayWhy (ds.map WD.kd) w.kd = some "word" := fun z => (if_neg n12).trans ((if_neg n13).trans (if_pos (by
      rw [why_word]
      exact List.any_eq_true.mpr ⟨d, List.mem_of_getElem? hd2, z⟩)))
    refine ⟨_, rfl, _, _, _, _, rfl, rfl, SqT.of hy6, (show atI _ ((1 : Nat) : Int) = _ from atI_nat rfl), ⟨_, rfl⟩, _, rfl, _, _, _, _, rfl, rfl, SqT.of hw6, (show atI _ ((1 : Nat) : Int) = _ from atI_nat rfl), _, _, rfl, rfl, _, rfl, iteB (fun g1 => ?_) (fun g1 => ⟨_, rfl, _, _, _, _, rfl, rfl, SqT.of hw6, (show atI _ ((1 : Nat) : Int) = _ from atI_nat rfl), ⟨_, rfl⟩, _, rfl, _, _, _, _, rfl, rfl, SqT.of hy6, (show atI _ ((1 : Nat) : Int) = _ from atI_nat rfl), _, _, rfl, rfl, _, rfl, iteB (fun g2 => ?_) (fun g2 => ?_)⟩)⟩
    · have q := k _ e6
      rw [wordW (by unfold pre2; rw [g1]; rfl)] at q
      exact q
    · have q := k _ e6
      rw [wordW (by unfold pre2; rw [g1, g2]; rfl)] at q
      exact q
    · refine ⟨_, rfl, e6, ?_⟩
      rw [tk, List.any_append, na]
      show (pre2 d.word w.word || false) = false
      unfold pre2
      rw [g1, g2]
      rfl
  · rintro σ' H6 ⟨ov, rfl, e6, na⟩
    rw [lv, List.take_length] at na
    have q := k _ e6
    rw [show wayWhy (ds.map WD.kd) w.kd = none from (if_neg n12).trans ((if_neg n13).trans (if_neg (by rw [why_word, na]; decide)))] at q
    exact q
theorem kb1_way_words {K : PySem.W.Frag} {mg : Str → Option Value} {A : Ad} (T : Txt K mg A) : KBn K A.d_way_words ["edition", "name", "most"] 2 ["most"] (fun us ws => pick [0, 1, 2] (us ++ ws)) (fun vs zs => pick [0, 1, 2] (vs ++ zs)) :=
  fun_kbn [0, 1, 2] T.F_way_words fun _ _ _ _ _ _ us ws h1 h2 => match us, ws, h1, h2 with | [_, _], [_], _, _ => rfl
theorem ok__law_words_right (T : Txt K mg A) : FnOk P w K mg base CX0 4 A.f__law_words_right A.d__law_words_right ["edition", "name", "ways", "most"] (sp__law_words_right K A) := by
  refine T.F__law_words_right.ok sc__law_words_right (fun vs H Q E h => sp4_len h) (fun cdv A0 outer s H vs Q E hr h => ?_)
  have nd := sc__law_words_right.nd
  refine ⟨_, (pss_cons (ps_set (i := 4) nd rfl (by first | exact Or.inl rfl | exact Or.inr rfl) (pe_call (ok__law_gaps T) (hr.mono (by decide)) (by rfl) T.mg__law_gaps T.k__law_gaps T.b__law_gaps .nil pass0 (pa_cons (pe_lc (own := [("way", 5)]) (g := gName 5) (tt := tYes) (by rfl) nd (pi_list (pv 2)) (blkOk_by (own := [("way", 5)]) (N := ["edition", "name", "ways", "most", "words", "way", "size", "due", "word", "told"]) (sc := defScope s__law_words_right) (by decide +kernel)) (fun _ _ _ _ _ => pg_name (i := 5) nd rfl (by first | exact Or.inl rfl | exact Or.inr rfl)) (fun _ _ _ _ _ => pts_nil) (fun _ _ _ _ _ => (pe_ix (ix_tupK (K := K) rfl) (pv 5) pe_int (fun _ _ => rfl)))) pa_nil)))
      (pss_cons (ps_for PassesOwn.never rfl (pi_tup (pe_tup (pa_cons (pv 3) (pa_cons pe_int pa_nil)))) (pg_name (i := 6) nd rfl (by first | exact Or.inl rfl | exact Or.inr rfl)) (pss_cons (ps_setLc (i := 7) (own := [("word", 8)]) (g := gName 8) (by rfl) nd rfl rfl (sw_true rfl rfl rfl (by decide +kernel)) (pi_list (pv 4)) (blkOk_by (own := [("word", 8)]) (N := ["edition", "name", "ways", "most", "words", "way", "size", "due", "word", "told"]) (sc := defScope s__law_words_right) (by decide +kernel)) (fun _ _ _ _ _ => pg_name (i := 8) nd rfl (by first | exact Or.inl rfl | exact Or.inr rfl)) (fun _ _ _ _ _ => pts_one (pt_cmpR op_le (pe_callB call_len_str (by rfl) T.b_len (by decide +kernel) (pa_cons (pv 8) pa_nil)) (pv 6) (nomark _))) (fun _ _ _ _ _ => (pv 8)))
      (pss_cons (ps_set (i := 9) nd rfl (by first | exact Or.inl rfl | exact Or.inr rfl) (pe_call (ok_way_words T) (hr.mono (by decide)) (by rfl) T.mg_way_words T.k_way_words T.b_way_words .nil pass0 (pa_cons (pv 0) (pa_cons (pv 1) (pa_cons (pv 6) pa_nil)))))
      (pss_cons (ps_if (pt_not (pt_val (pe_call (ok__law_same T) (hr.mono (by decide)) (by rfl) T.mg__law_same T.k__law_same T.b__law_same .nil pass0 (pa_cons (pv 9) (pa_cons (pv 7) pa_nil))))) (pss_one (ps_ret pe_bl)) pss_nil)
      (pss_cons (ps_expr (pe_bm0 PySem.F.plainAttrs_list PySem.F.slot_list_reverse PySem.F.type_list_reverse mt_reverse (pv 9)))
      (pss_cons (ps_expr (pe_bm PySem.F.plainAttrs_list PySem.F.slot_list_append PySem.F.type_list_append mt_append (pv 9) (pa_cons pe_str pa_nil)))
      (pss_one (ps_if (pt_not (pt_val (pe_call (ok__law_same T) (hr.mono (by decide)) (by rfl) T.mg__law_same T.k__law_same T.b__law_same .nil pass0 (pa_cons (by exact (pe_callN (ok_way_words T) (hr.mono (by decide)) (by rfl) T.mg_way_words T.k_way_words (kb1_way_words T) pass0 (by exact (pa_cons (pv 0) (pa_cons (pv 1) pa_nil))) (by exact (pk_cons (pv 6) pk_nil)))) (pa_cons (pv 7) pa_nil))))) (pss_one (ps_ret pe_bl)) pss_nil))))))))
      (pss_one (ps_ret pe_bl)))), ?_⟩
  clear nd hr
  replace h := sp4_of h
  obtain ⟨v_edition, v_name, v_ways, v_most, rfl, h⟩ := h

  obtain ⟨x, tb, r, ct, n, p, vs, ds, m, rfl, he, l20, rfl, okn, hl, rfl, hp, pd, l1, l12, wd, rfl, m16, k⟩ := h
  have lv := pair_lenE pd
  have wl8 : ∀ w ∈ (ds.map WD.kd).map wordK, w.length ≤ 8 := by
    rw [kd_words]
    intro w hw
    obtain ⟨d, hd, rfl⟩ := List.mem_map.mp hw
    exact (wordy_bits (wd d hd)).2.2
  have wl12 : (ds.map WD.kd).length ≤ 12 := by rw [List.length_map]; exact l12
  refine ⟨_, rfl, ?_⟩
  refine lc_lstG (tt := tYes) (fun _ v (b : Str) => v = V.str b) (fun _ _ _ _ _ q => q) (fun _ _ _ _ _ _ _ q => q) (fun _ => true) WD.word (DAt H) hp pd (by omega) (fun x => rfl) (fun x n H6 Q _ _ _ q => q) ?_ ?_
  · intro y z H6 Q hz mz _ e6 q
    obtain ⟨py, iy, rfl, hpy, _⟩ := hz
    have hy6 := e6 _ _ hpy
    exact ⟨_, rfl, _, _, _, _, rfl, rfl, SqT.of hy6, (show atI _ ((1 : Nat) : Int) = _ from atI_nat rfl), q _ _ (fun _ _ z => z) rfl⟩
  intro D ws H1 hD hD0 e1 pw1
  rw [List.filter_eq_self.mpr fun _ _ => rfl] at pw1
  have ews := pair_strs pw1
  subst ews
  refine ⟨_, rfl, D, ds.map WD.word, rfl, hD, by rw [List.length_map]; exact l12, fun w hw => wl8 w (by rw [kd_words]; exact hw), fun G gs H2 hG hG0 mem srt nd l96 e2 => ?_⟩
  have due : ∀ s : Nat, (gs.filter fun w => decide ((w.length : Int) ≤ (s : Int))) = wayW ((ds.map WD.kd).map wordK) s := by
    intro s
    rw [le_int, kd_words]
    refine gaps_due (fun w hw => ?_) (fun z => ?_) mem srt nd s
    · obtain ⟨d, hd, rfl⟩ := List.mem_map.mp hw
      exact wd d hd
    · have := congrArg List.length z
      rw [List.length_map] at this
      have : ds.length = 0 := this
      omega
  have l9 : ∀ s : Nat, (wayW ((ds.map WD.kd).map wordK) s).length ≤ 96 := by
    intro s
    rw [← due s]
    exact Nat.le_trans (List.length_filter_le _ _) l96
  have e12 : Same H H2 := e1.trans e2
  refine ⟨_, rfl, (by show 2 ≤ sizeLine; rw [sizeLine_eq]; decide), fun T hT => ?_⟩
  have sT := same_new (o := .tup [V.int m, V.int 8]) hT
  have hGT := sT _ _ hG
  have hTT : (upd H2 T (.tup [V.int m, V.int 8])) T = some (.tup [V.int m, V.int 8]) := upd_same
  have eT := e12.trans sT
  generalize upd H2 T (.tup [V.int m, V.int 8]) = H3 at sT hGT hTT eT ⊢
  refine ⟨T, rfl, ⟨_, SqT.of hTT⟩, ?_⟩
  refine for_it (walk_tup (xs := [V.int m, V.int 8])) (fun j σ' H' => ∃ a6 a7 a8 a9, σ' = [some (.ref x), some (.str n), some (.ref p), some (.int (m : Int)), some (.ref G), none, a6, a7, a8, a9] ∧ H' G = some (.lst (gs.map V.str)) ∧ H' T = some (.tup [V.int m, V.int 8]) ∧ Same H H') ⟨_, _, _, _, rfl, hGT, hTT, eT⟩ (fun j σ' H' _ ⟨_, _, _, _, _, _, h, _⟩ => SqT.of h) ?_ ?_
  · rintro j y σ' H4 H4' hj ⟨a6, a7, a8, a9, rfl, hG4, hT4, e4⟩ ⟨rfl, hy⟩
    obtain ⟨sz, rfl, s16⟩ : ∃ s : Nat, y = V.int (s : Int) ∧ s ≤ 16 := by
      match j, hy with
      | 0, hy => exact ⟨m, (Option.some.inj hy).symm, m16⟩
      | 1, hy => exact ⟨8, (Option.some.inj hy).symm, by decide⟩
      | j + 2, hy => exact nomatch hy
    refine ⟨_, rfl, ?_⟩
    refine lc_strs (fun w => decide ((w.length : Int) ≤ (sz : Int))) id hG4 (by omega) (fun x => rfl) ?_ ?_ ?_
    · intro z H7 Q hz e7 q
      exact ⟨_, rfl, z, rfl, by rw [sizeLine_eq]; have := (gaps_short gs mem (fun w hw => wl8 w (by rw [kd_words]; exact hw)) z hz); omega, _, rfl, _, _, rfl, rfl, _, rfl, q H7 (fun _ _ z => z)⟩
    · exact fun z H7 Q _ _ e7 q => ⟨_, rfl, q H7 (fun _ _ z => z)⟩
    intro Du H5 hDu hDu0 e5
    rw [List.map_id, due sz] at hDu
    have e05 := e4.trans e5
    refine ⟨_, rfl, _, rfl, _, rfl, _, _, _, rfl, x, tb, r, ct, n, _, sz, rfl, he.same e05, l20, rfl, okn, hl, rfl, s16, wl8, wl12, fun  q H6 hq hq0 e6 => ?_⟩
    have hDu6 := e6 _ _ hDu
    have hG6 := e6 _ _ (e5 _ _ hG4)
    have hT6 := e6 _ _ (e5 _ _ hT4)
    have nqD : q ≠ Du := fun z => by rw [z, hDu] at hq0; cases hq0
    have nqG : q ≠ G := fun z => by rw [z, e5 _ _ hG4] at hq0; cases hq0
    have nqT : q ≠ T := fun z => by rw [z, e5 _ _ hT4] at hq0; cases hq0
    have q0 : H q = none := none_same e05 hq0
    have e06 := e05.trans e6
    have lsz := l9 sz
    refine ⟨_, rfl, _, rfl, _, _, rfl, q, Du, _, rfl, rfl, .inr ⟨hq, hDu6⟩, atoms_str _, by rw [List.length_map]; omega, _, rfl, iteF ?_⟩
    generalize hfw : wayW ((ds.map WD.kd).map wordK) sz = fw at hDu hq hDu6 lsz ⊢
    refine ⟨_, rfl, .inl ⟨rfl, _, SqL.of hq⟩, q, _, rfl, rfl, hq, ?_⟩
    have hq7 : (upd H6 q (.lst (fw.map V.str).reverse)) q = some (.lst (fw.map V.str).reverse) := upd_same
    have hDu7 : (upd H6 q (.lst (fw.map V.str).reverse)) Du = _ := (upd_ne nqD.symm).trans hDu6
    have hG7 : (upd H6 q (.lst (fw.map V.str).reverse)) G = _ := (upd_ne nqG.symm).trans hG6
    have hT7 : (upd H6 q (.lst (fw.map V.str).reverse)) T = _ := (upd_ne nqT.symm).trans hT6
    have e07 : Same H (upd H6 q (.lst (fw.map V.str).reverse)) := same_put q0 e06
    generalize upd H6 q (.lst (fw.map V.str).reverse) = H7 at hq7 hDu7 hG7 hT7 e07 ⊢
    refine ⟨_, rfl, .inl ⟨rfl, _, SqL.of hq7⟩, q, _, _, rfl, rfl, hq7, by rw [sizeLine_eq, List.length_reverse, List.length_map]; omega, ?_⟩
    have hDu8 : (upd H7 q (.lst ((fw.map V.str).reverse ++ [V.str "0"]))) Du = _ := (upd_ne nqD.symm).trans hDu7
    have hG8 : (upd H7 q (.lst ((fw.map V.str).reverse ++ [V.str "0"]))) G = _ := (upd_ne nqG.symm).trans hG7
    have hT8 : (upd H7 q (.lst ((fw.map V.str).reverse ++ [V.str "0"]))) T = _ := (upd_ne nqT.symm).trans hT7
    have e08 : Same H (upd H7 q (.lst ((fw.map V.str).reverse ++ [V.str "0"]))) := same_put q0 e07
    generalize upd H7 q (.lst ((fw.map V.str).reverse ++ [V.str "0"])) = H8 at hDu8 hG8 hT8 e08 ⊢
    clear hq7 hDu7 hG7 hT7
    refine ⟨_, rfl, _, rfl, _, rfl, rfl, rfl, _, _, _, rfl, x, tb, r, ct, n, _, sz, rfl, he.same e08, l20, rfl, okn, hl, rfl, s16, wl8, wl12, fun  q9 H9 hq9 hq90 e9 => ?_⟩
    rw [hfw] at hq9
    exact ⟨_, rfl, _, _, rfl, q9, Du, _, rfl, rfl, .inr ⟨hq9, e9 _ _ hDu8⟩, atoms_str _, by rw [List.length_map]; omega, _, rfl, iteF ⟨_, _, _, _, rfl, e9 _ _ hG8, e9 _ _ hT8, e08.trans e9⟩⟩
  · rintro σ' H4 ⟨a6, a7, a8, a9, rfl, hG4, hT4, e4⟩
    exact k H4 e4
theorem ok__law_later_right (T : Txt K mg A) : FnOk P w K mg base CX0 7 A.f__law_later_right A.d__law_later_right ["edition", "later", "name", "ways"] (sp__law_later_right K A) := by
  refine T.F__law_later_right.ok sc__law_later_right (fun vs H Q E h => sp4_len h) (fun cdv A0 outer s H vs Q E hr h => ?_)
  have nd := sc__law_later_right.nd
  refine ⟨_, (pss_cons (ps_set (i := 4) nd rfl (by first | exact Or.inl rfl | exact Or.inr rfl) (pe_fld (pe_dget (hu_of hr) (pe_prop (pv 1) T.cl_Edition T.pr_Edition_kinds (ok_Edition_kinds T) (hr.mono (by decide)) T.b_Edition_kinds .nil pass0 (by rfl)) (pv 2) (fun _ _ => rfl)) rfl))
      (pss_cons (ps_if (PW.pt (pw_or (pt_not (pt_val (pe_callB call_isi (by rfl) T.b_isinstance (by decide +kernel) (pa_cons (pv 4) (pa_cons (pe_bltn (v := .ty "tuple") (by rfl) T.b_tuple (by decide +kernel) rfl) pa_nil))))) (pw_or1 (pt_cmpR op_ne (pe_callB call_len (by rfl) T.b_len (by decide +kernel) (pa_cons (pv 4) pa_nil)) (pe_callB call_len (by rfl) T.b_len (by decide +kernel) (pa_cons (pv 3) pa_nil)) (nomark _))))) (pss_one (ps_ret pe_bl)) pss_nil)
      (pss_cons (ps_for PassesOwn.never rfl (pi_range1 (by rfl) T.b_range (pa_cons (pe_callB call_len (by rfl) T.b_len (by decide +kernel) (pa_cons (pv 3) pa_nil)) pa_nil)) (pg_name (i := 5) nd rfl (by first | exact Or.inl rfl | exact Or.inr rfl)) (pss_cons (ps_if (pt_cmpR op_ne (pe_callB call_isi (by rfl) T.b_isinstance (by decide +kernel) (pa_cons (pe_ix ix_tup (pv 4) (pv 5) (fun _ _ => rfl)) (pa_cons (pe_glob (v := .ref A.c_Way) (by rfl) T.mg_Way rfl) pa_nil))) (pe_cmpR op_eq (pe_ix ix_tup (pe_ix ix_list (pv 3) (pv 5) (fun _ _ => rfl)) pe_int (fun _ _ => rfl)) pe_str (nomark _)) (nomark _)) (pss_one (ps_ret pe_bl)) pss_nil)
      (pss_cons (ps_if (pt_not (pt_val (pe_call (ok__law_same T) (hr.mono (by decide)) (by rfl) T.mg__law_same T.k__law_same T.b__law_same .nil pass0 (pa_cons (pe_tup (pa_cons (pe_fld (pe_ix ix_tup (pv 4) (pv 5) (fun _ _ => rfl)) rfl) (pa_cons (pe_fld (pe_ix ix_tup (pv 4) (pv 5) (fun _ _ => rfl)) rfl) pa_nil))) (pa_cons (pe_tup (pa_cons (pe_ix ix_tup (pe_ix ix_list (pv 3) (pv 5) (fun _ _ => rfl)) pe_int (fun _ _ => rfl)) (pa_cons (pe_ix ix_tup (pe_ix ix_list (pv 3) (pv 5) (fun _ _ => rfl)) pe_int (fun _ _ => rfl)) pa_nil))) pa_nil))))) (pss_one (ps_ret pe_bl)) pss_nil)
      (pss_one (ps_if (pt_cmpR (op_neWD (op_neO (ok_Way___eq__ T) T.eq_Way T.b_Way___eq__ (hr.mono (by decide))) (op_neO (ok_Door___eq__ T) T.eq_Door T.b_Door___eq__ (hr.mono (by decide)))) (pe_ix ix_tup (pv 4) (pv 5) (fun _ _ => rfl)) (pe_call (ok__law_place T) (hr.mono (by decide)) (by rfl) T.mg__law_place T.k__law_place T.b__law_place .nil pass0 (pa_cons (pe_ix ix_list (pv 3) (pv 5) (fun _ _ => rfl)) pa_nil)) (nomark _)) (pss_one (ps_ret pe_bl)) pss_nil)))))
      (pss_cons (ps_if (pt_cmpR op_ne (pe_callB call_len (by rfl) T.b_len (by decide +kernel) (pa_cons (pe_fld (pe_dget (hu_of hr) (pe_prop (pv 0) T.cl_Edition T.pr_Edition_kinds (ok_Edition_kinds T) (hr.mono (by decide)) T.b_Edition_kinds .nil pass0 (by rfl)) (pv 2) (fun _ _ => rfl)) rfl) pa_nil)) (pe_op op_sub (pe_callB call_len (by rfl) T.b_len (by decide +kernel) (pa_cons (pv 3) pa_nil)) pe_int) (nomark _)) (pss_one (ps_ret pe_bl)) pss_nil)
      (pss_one (ps_ret (pe_and (pe_call (ok__law_same T) (hr.mono (by decide)) (by rfl) T.mg__law_same T.k__law_same T.b__law_same .nil pass0 (pa_cons (pe_tup (pa_cons (pe_fld (pv 1) rfl) (pa_cons (pe_fld (pv 1) rfl) pa_nil))) (pa_cons (pe_tup (pa_cons (pe_fld (pv 0) rfl) (pa_cons (pe_fld (pv 0) rfl) pa_nil))) pa_nil))) (pe_one (pe_cmpR op_eq (pe_callB call_lenD (by rfl) T.b_len (by decide +kernel) (pa_cons (pe_prop (pv 1) T.cl_Edition T.pr_Edition_kinds (ok_Edition_kinds T) (hr.mono (by decide)) T.b_Edition_kinds .nil pass0 (by rfl)) pa_nil)) pe_int (nomark _)))))))))), ?_⟩
  clear nd hr
  replace h := sp4_of h
  obtain ⟨v_edition, v_later, v_name, v_ways, rfl, h⟩ := h

  obtain ⟨x, y, tb, tb2, r, ct, n, ks, p, vs, ds, rfl, rfl, hx, hy, l20, l2, rfl, hl, hl2, rfl, hp, pd, le, l12, ok, k⟩ := h
  have lv := pair_lenE pd
  obtain ⟨dx, _, _, _, _, hx0, _, _, _, _⟩ := hx.at_
  obtain ⟨dy, _, _, _, _, hy0, _, _, _, _⟩ := hy.at_
  have mn : n ∈ tb.names := List.mem_map.mpr ⟨_, look_mem hl, rfl⟩
  have mn2 : n ∈ tb2.names := List.mem_map.mpr ⟨_, look_mem hl2, rfl⟩
  refine ⟨_, rfl, y, dy, _, rfl, hy0, _, rfl, y, tb2, r, ct, rfl, hy, by omega, fun q1 kvs1 H1 hq1 tq1 hq10 e1 => ?_⟩
  obtain ⟨kd, v, hl3, hk, hg⟩ := tq1.get mn2
  obtain rfl : kd = .choice (ds.map WD.kd) := Option.some.inj (hl3.symm.trans hl2)
  refine ⟨_, rfl, q1, v, rfl, hg, ?_⟩
  generalize eks : ds.map WD.kd = kd2 at hk
  cases hk with
  | choice ob et kz ow =>
  obtain ⟨dz, gs, hzx, lx⟩ := ob
  rename_i yz tz vz
  have pz := kats_pair kz
  have lz := pair_lenE pz
  have lk : kd2.length = vs.length := by rw [← eks, List.length_map, lv]
  refine ⟨yz, _, dz, gs, _, rfl, hzx, T.cl_Choice, T.n_Choice_ways, lx _ (List.mem_cons_self ..), ?_⟩
  have vtz : VT K H1 (.ref tz) (.type "tuple") := .tup et
  refine ⟨_, rfl, _, _, _, _, _, rfl, .ty _, vtz.tyx, kit_isa vtz.tag (by decide), _, rfl, iteB (fun z => absurd z (by decide)) (fun _ => ?_)⟩
  refine ⟨_, rfl, _, _, rfl, .inr ⟨_, SqT.of et, rfl⟩, _, rfl, _, _, rfl, .inl ⟨_, SqL.of (e1 _ _ hp), rfl⟩, rfl, _, rfl, iteB (fun z => ?_) (fun _ => ?_)⟩
  · rw [lz, lk, decide_eq_true rfl] at z
    cases z
  refine ⟨_, rfl, _, _, rfl, .inl ⟨_, SqL.of (e1 _ _ hp), rfl⟩, vs.length, rfl, by omega, by omega, for_range (n := vs.length) (fun i σ' H' => ∃ kv : Option V, σ' = [some (.ref x), some (.ref y), some (.str n), some (.ref p), some (.ref tz), kv] ∧ Same H1 H') ⟨_, rfl, fun _ _ z => z⟩ ?_ ?_⟩
  · rintro i σ' H4 hi ⟨kv, rfl, e4⟩
    have hw0 : vs[i]? = some vs[i] := List.getElem?_eq_getElem hi
    generalize vs[i] = wv at hw0
    obtain ⟨d, hd, hdw⟩ := pair_atE pd hw0
    have hkd : kd2[i]? = some d.kd := by rw [← eks, List.getElem?_map, hd]; rfl
    have hzi : vz[i]? = some vz[i] := List.getElem?_eq_getElem (by omega)
    generalize vz[i] = zv at hzi
    have hz0 := hzi
    obtain ⟨dk, hkd2, hkz⟩ := pair_atE pz hzi
    obtain rfl : dk = d.kd := Option.some.inj (hkd2.symm.trans hkd)
    have okd := ok d (List.mem_of_getElem? hd)
    have hatz : atI vz ((0 : Int) + (i : Int)) = some zv := by rw [Int.zero_add]; exact atI_nat hz0
    have hatw : atI vs ((0 : Int) + (i : Int)) = some wv := by rw [Int.zero_add]; exact atI_nat hw0
    have hkz4 := hkz.keep (KI.same e4)
    have vz4 := KAt.vt T hkz4
    have et4 := e4 _ _ et
    have hp4 := e4 _ _ (e1 _ _ hp)
    obtain ⟨pw, iw, rfl, hpw, hiw⟩ := hdw
    have hpw4 := e4 _ _ (e1 _ _ hpw)
    have wdd : (Td.k d.kd).wd = true := by
      obtain ⟨b, _, _, _⟩ := d
      cases b <;> rfl
    refine ⟨_, rfl, _, rfl, _, _, _, _, rfl, rfl, SqT.of et4, hatz, _, _, _, _, _, rfl, .own _, vz4.tyx, kit_isaO vz4.tag (T.kco .way), _, rfl, _, rfl, _, _, _, _, rfl, rfl, SqL.of hp4, hatw, _, _, _, _, rfl, rfl, SqT.of hpw4, atI_nat rfl, rfl, rfl, _, rfl, iteB (fun z => ?_) (fun _ => ?_)⟩
    · rw [mark_way T d, decide_eq_true rfl] at z
      cases z
    obtain ⟨yy, C, dyy, fs, rfl, hyy, cC, nC, hu⟩ := wd_word T hkz4 wdd
    obtain ⟨yy2, C2, dyy2, fs2, eyy, hyy2, cC2, nC2, hu2⟩ := wd_name T hkz4 wdd
    obtain rfl : yy = yy2 := by injection eyy
    rw [kd_word] at hu
    rw [kd_name] at hu2
    refine ⟨_, rfl, _, rfl, _, _, _, _, rfl, rfl, SqT.of et4, hatz, yy, C, dyy, fs, _, rfl, hyy, cC, nC, hu, _, rfl, _, rfl, _, _, _, _, rfl, rfl, SqT.of et4, hatz, yy, C2, dyy2, fs2, _, rfl, hyy2, cC2, nC2, hu2, (by show 2 ≤ sizeLine; rw [sizeLine_eq]; decide), fun t1 ht1 => ?_⟩
    have s1 := same_new (o := .tup [V.str d.word, V.str d.name]) ht1
    have h1t : (upd H4 t1 (.tup [V.str d.word, V.str d.name])) t1 = some (.tup [V.str d.word, V.str d.name]) := upd_same
    generalize upd H4 t1 (.tup [V.str d.word, V.str d.name]) = H5 at s1 h1t ⊢
    have hp5 := s1 _ _ hp4
    have hpw5 := s1 _ _ hpw4
    refine ⟨_, rfl, _, rfl, _, _, _, _, rfl, rfl, SqL.of hp5, hatw, _, _, _, _, rfl, rfl, SqT.of hpw5, atI_nat rfl, _, rfl, _, rfl, _, _, _, _, rfl, rfl, SqL.of hp5, hatw, _, _, _, _, rfl, rfl, SqT.of hpw5, atI_nat rfl, (by show 2 ≤ sizeLine; rw [sizeLine_eq]; decide), fun t2 ht2 => ?_⟩
    have s2 := same_new (o := .tup [V.str d.word, V.str d.name]) ht2
    have h2t : (upd H5 t2 (.tup [V.str d.word, V.str d.name])) t2 = some (.tup [V.str d.word, V.str d.name]) := upd_same
    generalize upd H5 t2 (.tup [V.str d.word, V.str d.name]) = H6 at s2 h2t ⊢
    refine ⟨_, _, rfl, t1, t2, _, rfl, rfl, .inl ⟨s2 _ _ h1t, h2t⟩, atoms_str [d.word, d.name], (by show 2 ≤ _; omega), _, rfl, iteF ?_⟩
    have e6 := e4.trans (s1.trans s2)
    have et6 := e6 _ _ et
    have hp6 := e6 _ _ (e1 _ _ hp)
    have hd6 : DAt H6 (.ref pw) d := ⟨pw, iw, rfl, e6 _ _ (e1 _ _ hpw), hiw.keep (TupKeep.same (e1.trans e6))⟩
    refine ⟨_, rfl, _, rfl, _, _, _, _, rfl, rfl, SqT.of et6, hatz, _, rfl, _, rfl, _, _, _, _, rfl, rfl, SqL.of hp6, hatw, _, rfl, d, hd6, okd, fun z7 H7 hk7 e7 => ?_⟩
    refine ⟨d.kd, (hkz.keep (KI.same e6)).keep (KI.same e7), hk7, wdd, nn_refl _, _, rfl, iteB (fun z => ?_) (fun _ => ⟨_, rfl, e6.trans e7⟩)⟩
    rw [eqk_refl] at z
    cases z
  · rintro σ' H4 ⟨kv, rfl, e4⟩
    clear hzx lx hg hq1 tq1 hq10
    have e14 := e1.trans e4
    refine ⟨_, rfl, x, dx, _, rfl, e14 _ _ hx0, _, rfl, x, tb, r, ct, rfl, hx.same e14, l20, fun q2 kvs2 H5 hq2 tq2 hq20 e5 => ?_⟩
    obtain ⟨kd, v, hl4, hk, hg⟩ := tq2.get mn
    obtain rfl : kd = .choice ks := Option.some.inj (hl4.symm.trans hl)
    refine ⟨_, rfl, q2, v, rfl, hg, ?_⟩
    cases hk with
    | choice ob et2 kz2 ow2 =>
    obtain ⟨dz2, gs2, hzx2, lx2⟩ := ob
    rename_i yz2 tz2 vz2
    have lz2 := pair_lenE (kats_pair kz2)
    have e15 := e14.trans e5
    refine ⟨yz2, _, dz2, gs2, _, rfl, hzx2, T.cl_Choice, T.n_Choice_ways, lx2 _ (List.mem_cons_self ..), ?_⟩
    refine ⟨_, _, rfl, .inr ⟨_, SqT.of et2, rfl⟩, _, rfl, _, _, rfl, .inl ⟨_, SqL.of (e15 _ _ hp), rfl⟩, _, _, rfl, rfl, rfl, _, rfl, iteB (fun z => ?_) (fun _ => ?_)⟩
    · have z : (!decide (V.int (vz2.length : Int) = V.int ((vs.length : Int) - 1))) = true := z
      rw [show ((vs.length : Int) - 1) = (vz2.length : Int) from by omega, decide_eq_true rfl] at z
      cases z
    refine ⟨_, rfl, y, _, dy, _, _, rfl, e15 _ _ hy0, T.cl_Edition, T.n_Edition_root, ed_root, _, rfl, y, _, dy, _, _, rfl, e15 _ _ hy0, T.cl_Edition, T.n_Edition_count, ed_count, (by show 2 ≤ sizeLine; rw [sizeLine_eq]; decide), fun t1 ht1 => ?_⟩
    have s1 := same_new (o := .tup [V.str r, V.int ct]) ht1
    have h1t : (upd H5 t1 (.tup [V.str r, V.int ct])) t1 = some (.tup [V.str r, V.int ct]) := upd_same
    generalize upd H5 t1 (.tup [V.str r, V.int ct]) = H6 at s1 h1t ⊢
    have e16 := e15.trans s1
    refine ⟨_, rfl, x, _, dx, _, _, rfl, e16 _ _ hx0, T.cl_Edition, T.n_Edition_root, ed_root, _, rfl, x, _, dx, _, _, rfl, e16 _ _ hx0, T.cl_Edition, T.n_Edition_count, ed_count, (by show 2 ≤ sizeLine; rw [sizeLine_eq]; decide), fun t2 ht2 => ?_⟩
    have s2 := same_new (o := .tup [V.str r, V.int ct]) ht2
    have h2t : (upd H6 t2 (.tup [V.str r, V.int ct])) t2 = some (.tup [V.str r, V.int ct]) := upd_same
    generalize upd H6 t2 (.tup [V.str r, V.int ct]) = H7 at s2 h2t ⊢
    have e17 := e16.trans s2
    refine ⟨_, _, rfl, t1, t2, _, rfl, rfl, .inl ⟨s2 _ _ h1t, h2t⟩, atoms_ri, (by show 2 ≤ _; omega), _, rfl, iteY ?_⟩
    refine ⟨_, rfl, y, dy, _, rfl, e17 _ _ hy0, _, rfl, y, tb2, r, ct, rfl, hy.same e17, by omega, fun q3 kvs3 H8 hq3 tq3 hq30 e8 => ?_⟩
    refine ⟨q3, kvs3, rfl, hq3, rfl, ?_⟩
    rw [tq3.len, l2]
    exact (congrArg (fun b => Q (V.bl b) H8) (show decide (V.int ((2 : Nat) : Int) = V.int 2) = true from decide_eq_true rfl)).mpr (k H8 (e17.trans e8))
theorem ok_law (T : Txt K mg A) : FnOk P w K mg base CX0 13 A.f_law A.d_law ["script"] (sp_law K A) := by
  refine T.F_law.ok sc_law (fun vs H Q E h => sp1_len h) (fun cdv A0 outer s H vs Q E hr h => ?_)
  have nd := sc_law.nd
  refine ⟨_, (pss_cons (ps_set (i := 1) nd rfl (by first | exact Or.inl rfl | exact Or.inr rfl) (pe_call (ok__law_start T) (hr.mono (by decide)) (by rfl) T.mg__law_start T.k__law_start T.b__law_start .nil pass0 (pa_cons (pv 0) pa_nil)))
      (pss_cons (ps_set (i := 2) nd rfl (by first | exact Or.inl rfl | exact Or.inr rfl) (pe_call (ok__law_pull T) (hr.mono (by decide)) (by rfl) T.mg__law_pull T.k__law_pull T.b__law_pull .nil pass0 (pa_cons (pv 1) (pa_cons pe_int pa_nil))))
      (pss_cons (ps_set (i := 3) nd rfl (by first | exact Or.inl rfl | exact Or.inr rfl) (pe_lst pa_nil))
      (pss_cons (ps_set (i := 4) nd rfl (by first | exact Or.inl rfl | exact Or.inr rfl) (pe_call (ok__law_name T) (hr.mono (by decide)) (by rfl) T.mg__law_name T.k__law_name T.b__law_name .nil pass0 (pa_cons (pv 1) (pa_cons (pv 3) pa_nil))))
      (pss_cons (ps_set (i := 5) nd rfl (by first | exact Or.inl rfl | exact Or.inr rfl) (pe_call (ok__law_name T) (hr.mono (by decide)) (by rfl) T.mg__law_name T.k__law_name T.b__law_name .nil pass0 (pa_cons (pv 1) (pa_cons (pv 3) pa_nil))))
      (pss_cons (ps_set (i := 6) nd rfl (by first | exact Or.inl rfl | exact Or.inr rfl) (pe_lst pa_nil))
      (pss_cons (ps_set (i := 7) nd rfl (by first | exact Or.inl rfl | exact Or.inr rfl) (pe_lst pa_nil))
      (Evl.pss_cut (ps_for PassesOwn.never rfl (pi_list (pe_call (ok__law_draw_many_words T) (hr.mono (by decide)) (by rfl) T.mg__law_draw_many_words T.k__law_draw_many_words T.b__law_draw_many_words .nil pass0 (pa_cons (pv 1) pa_nil))) (pg_name (i := 8) nd rfl (by first | exact Or.inl rfl | exact Or.inr rfl)) (pss_one (ps_expr (pe_bm PySem.F.plainAttrs_list PySem.F.slot_list_append PySem.F.type_list_append mt_append (pv 7) (pa_cons (pe_tup (pa_cons pe_str (pa_cons (pv 8) (pa_cons (pe_call (ok__law_name T) (hr.mono (by decide)) (by rfl) T.mg__law_name T.k__law_name T.b__law_name .nil pass0 (pa_cons (pv 1) (pa_cons (pv 6) pa_nil))) (pa_cons (pe_tup (pa_cons pe_str (pa_cons pe_int (pa_cons pe_int (pa_cons pe_int pa_nil))))) pa_nil))))) pa_nil)))))
      (Evl.pss_cut (ps_for PassesOwn.never rfl (pi_range2 (by rfl) T.b_range (pa_cons pe_int (pa_cons (pe_callB call_len (by rfl) T.b_len (by decide +kernel) (pa_cons (pv 7) pa_nil)) pa_nil))) (pg_name (i := 9) nd rfl (by first | exact Or.inl rfl | exact Or.inr rfl)) (pss_one (ps_if (pt_cmpR op_eq (pe_call (ok__law_pull T) (hr.mono (by decide)) (by rfl) T.mg__law_pull T.k__law_pull T.b__law_pull .nil pass0 (pa_cons (pv 1) (pa_cons pe_int pa_nil))) pe_int (nomark _)) (pss_one (ps_asg (pe_tup (pa_cons pe_str (pa_cons (pe_ix ix_tup (pe_ix ix_list (pv 7) (pv 9) (fun _ _ => rfl)) pe_int (fun _ _ => rfl)) (pa_cons (pe_ix ix_tup (pe_ix ix_list (pv 7) (pv 9) (fun _ _ => rfl)) pe_int (fun _ _ => rfl)) (pa_cons pe_non pa_nil))))) (pg_sub (pv 7) (pv 9) set_list))) pss_nil)))
      (pss_cons (ps_set (i := 10) nd rfl (by first | exact Or.inl rfl | exact Or.inr rfl) pe_dnewK)
      (Evl.pss_cut (ps_asg (by exact (pe_makeS T.mk_Row (ok_Row___init__ T) (hr.mono (by decide)) (by rfl) T.mg_Row T.b_Row___init__ .nil (fun σ => passL0 σ) (by exact (pa_cons (pe_lst (pa_cons (by exact (pe_makeS T.mk_Part (ok_Part___init__ T) (hr.mono (by decide)) (by rfl) T.mg_Part T.b_Part___init__ .nil (fun σ => passL0 σ) (by exact (pa_cons pe_str (pa_cons (by exact (pe_makeS T.mk_Call (ok_Call___init__ T) (hr.mono (by decide)) (by rfl) T.mg_Call T.b_Call___init__ .nil (fun σ => passL0 σ) (by exact (pa_cons (pv 4) pa_nil)))) pa_nil))))) (pa_cons (by exact (pe_makeS T.mk_Part (ok_Part___init__ T) (hr.mono (by decide)) (by rfl) T.mg_Part T.b_Part___init__ .nil (fun σ => passL0 σ) (by exact (pa_cons pe_str (pa_cons (by exact (pe_makeS T.mk_Bits (ok_Bits___init__ T) (hr.mono (by decide)) (by rfl) T.mg_Bits T.b_Bits___init__ .nil (fun σ => passL0 σ) (by exact (pa_cons (pe_op op_add pe_int (pe_call (ok__law_pull T) (hr.mono (by decide)) (by rfl) T.mg__law_pull T.k__law_pull T.b__law_pull .nil pass0 (pa_cons (pv 1) (pa_cons pe_int pa_nil)))) pa_nil)))) pa_nil))))) pa_nil))) pa_nil)))) (pg_sub (pv 10) (pv 5) (set_dict (hu_of hr))))
      (Evl.pss_cut (ps_asg (by exact (pe_makeS T.mk_Choice (ok_Choice___init__ T) (hr.mono (by decide)) (by rfl) T.mg_Choice T.b_Choice___init__ .nil (fun σ => passL0 σ) (by exact (pa_cons (pe_lc (own := [("way", 11)]) (g := gName 11) (tt := tYes) (by rfl) nd (pi_list (pv 7)) (blkOk_by (own := [("way", 11)]) (N := ["script", "state", "most", "names", "name", "other", "used", "ways", "word", "k", "table", "way", "edition", "turn", "one", "reason", "told"]) (sc := defScope s_law) (by decide +kernel)) (fun _ _ _ _ _ => pg_name (i := 11) nd rfl (by first | exact Or.inl rfl | exact Or.inr rfl)) (fun _ _ _ _ _ => pts_nil) (fun _ _ _ _ _ => (pe_call (ok__law_place T) (hr.mono (by decide)) (by rfl) T.mg__law_place T.k__law_place T.b__law_place .nil pass0 (pa_cons (pv 11) pa_nil)))) pa_nil)))) (pg_sub (pv 10) (pv 4) (set_dict (hu_of hr))))
      (Evl.pss_cut (ps_set (i := 12) nd rfl (by first | exact Or.inl rfl | exact Or.inr rfl) (pe_make T.mk_Edition (ok_Edition___init__ T) (hr.mono (by decide)) (by rfl) T.mg_Edition T.b_Edition___init__ .nil pass0 (pa_cons (pv 10) (pa_cons (pe_ix ix_list (pv 3) (pe_call (ok__law_pull T) (hr.mono (by decide)) (by rfl) T.mg__law_pull T.k__law_pull T.b__law_pull .nil pass0 (pa_cons (pv 1) (pa_cons pe_int pa_nil))) (fun _ _ => rfl)) (pa_cons (pe_op op_add pe_int (pe_call (ok__law_pull T) (hr.mono (by decide)) (by rfl) T.mg__law_pull T.k__law_pull T.b__law_pull .nil pass0 (pa_cons (pv 1) (pa_cons pe_int pa_nil)))) pa_nil)))))
      (pss_cons (ps_for PassesOwn.never rfl (pi_range1 (by rfl) T.b_range (pa_cons pe_int pa_nil)) (pg_name (i := 13) nd rfl (by first | exact Or.inl rfl | exact Or.inr rfl)) (pss_cons (ps_if (pt_not (pt_val (pe_call (ok__law_words_right T) (hr.mono (by decide)) (by rfl) T.mg__law_words_right T.k__law_words_right T.b__law_words_right .nil pass0 (pa_cons (pv 12) (pa_cons (pv 4) (pa_cons (pv 7) (pa_cons (pv 2) pa_nil))))))) (pss_one (ps_ret pe_bl)) pss_nil)
      (pss_cons (ps_set (i := 11) nd rfl (by first | exact Or.inl rfl | exact Or.inr rfl) (pe_call (ok__law_draw_way T) (hr.mono (by decide)) (by rfl) T.mg__law_draw_way T.k__law_draw_way T.b__law_draw_way .nil pass0 (pa_cons (pv 1) (pa_cons (pe_lc (own := [("one", 14)]) (g := gName 14) (tt := tYes) (by rfl) nd (pi_list (pv 7)) (blkOk_by (own := [("one", 14)]) (N := ["script", "state", "most", "names", "name", "other", "used", "ways", "word", "k", "table", "way", "edition", "turn", "one", "reason", "told"]) (sc := defScope s_law) (by decide +kernel)) (fun _ _ _ _ _ => pg_name (i := 14) nd rfl (by first | exact Or.inl rfl | exact Or.inr rfl)) (fun _ _ _ _ _ => pts_nil) (fun _ _ _ _ _ => (pe_ix (ix_tupK (K := K) rfl) (pv 14) pe_int (fun _ _ => rfl)))) (pa_cons (pe_lc (own := [("one", 14)]) (g := gName 14) (tt := tYes) (by rfl) nd (pi_list (pv 7)) (blkOk_by (own := [("one", 14)]) (N := ["script", "state", "most", "names", "name", "other", "used", "ways", "word", "k", "table", "way", "edition", "turn", "one", "reason", "told"]) (sc := defScope s_law) (by decide +kernel)) (fun _ _ _ _ _ => pg_name (i := 14) nd rfl (by first | exact Or.inl rfl | exact Or.inr rfl)) (fun _ _ _ _ _ => pts_nil) (fun _ _ _ _ _ => (pe_ix (ix_tupK (K := K) rfl) (pv 14) pe_int (fun _ _ => rfl)))) pa_nil)))))
      (pss_cons (ps_set (i := 15) nd rfl (by first | exact Or.inl rfl | exact Or.inr rfl) (pe_call (ok__law_way_reason T) (hr.mono (by decide)) (by rfl) T.mg__law_way_reason T.k__law_way_reason T.b__law_way_reason .nil pass0 (pa_cons (pv 7) (pa_cons (pv 11) pa_nil))))
      (pss_cons (ps_set (i := 16) nd rfl (by first | exact Or.inl rfl | exact Or.inr rfl) (pe_call (ok__law_taken T) (hr.mono (by decide)) (by rfl) T.mg__law_taken T.k__law_taken T.b__law_taken .nil pass0 (pa_cons (pv 12) (pa_cons (pe_make T.mk_AddWay (ok_AddWay___init__ T) (hr.mono (by decide)) (by rfl) T.mg_AddWay T.b_AddWay___init__ .nil pass0 (pa_cons (pv 4) (pa_cons (pe_call (ok__law_place T) (hr.mono (by decide)) (by rfl) T.mg__law_place T.k__law_place T.b__law_place .nil pass0 (pa_cons (pv 11) pa_nil)) pa_nil))) pa_nil))))
      (pss_one (ps_if (pt_cmpR op_ne (pv 15) pe_str (nomark _)) (pss_one (ps_if (pt_not (pt_val (pe_call (ok__law_same T) (hr.mono (by decide)) (by rfl) T.mg__law_same T.k__law_same T.b__law_same .nil pass0 (pa_cons (pv 16) (pa_cons (pe_tup (pa_cons pe_str (pa_cons (pv 15) pa_nil))) pa_nil))))) (pss_one (ps_ret pe_bl)) pss_nil)) (pss_one (ps_if (pt_cmpR op_ne (pe_ix ix_tup (pv 16) pe_int (fun _ _ => rfl)) pe_str (nomark _)) (pss_one (ps_ret pe_bl)) (pss_cons (ps_expr (pe_bm PySem.F.plainAttrs_list PySem.F.slot_list_append PySem.F.type_list_append mt_append (pv 7) (pa_cons (pv 11) pa_nil)))
      (pss_cons (ps_if (pt_not (pt_val (pe_call (ok__law_later_right T) (hr.mono (by decide)) (by rfl) T.mg__law_later_right T.k__law_later_right T.b__law_later_right .nil pass0 (pa_cons (pv 12) (pa_cons (pe_ix ix_tup (pv 16) pe_int (fun _ _ => rfl)) (pa_cons (pv 4) (pa_cons (pv 7) pa_nil))))))) (pss_one (ps_ret pe_bl)) pss_nil)
      (pss_one (ps_set (i := 12) nd rfl (by first | exact Or.inl rfl | exact Or.inr rfl) (pe_ix ix_tup (pv 16) pe_int (fun _ _ => rfl)))))))))))))))
      (pss_one (ps_ret pe_bl)))))))))))))))), ?_⟩
  clear nd hr
  replace h := sp1_of h
  obtain ⟨v_script, rfl, h⟩ := h

  obtain ⟨l, ns, rfl, hl, hn, k⟩ := h
  refine ⟨_, rfl, _, rfl, l, ns, rfl, hl, hn, fun d H1 hp hl2 e0 r0 => ?_⟩
  refine ⟨_, rfl, _, _, rfl, d, _, rfl, rfl, r0, by decide, small_log (by decide) (by decide), fun v1 H2 a0 a1 e1 r1 => ?_⟩
  obtain ⟨m, rfl⟩ := Int.eq_ofNat_of_zero_le a0
  refine ⟨(by show 0 ≤ sizeLine; rw [sizeLine_eq]; decide), fun N hN => ?_⟩
  have nN := r1.nep hN
  have nNl := r1.nel hN
  have rN := r1.new hN (o := .lst [])
  have hNN : (upd H2 N (.lst [])) N = some (.lst (([] : List Str).map V.str)) := upd_same
  generalize upd H2 N (.lst []) = H3 at rN hNN ⊢
  refine ⟨_, rfl, _, rfl, _, _, rfl, d, N, [], rfl, rfl, nN, nNl, rN, hNN, by decide, fun x H4 okx _ e4 r4 => ?_⟩
  have rx := r4.put nN nNl (o := .lst (([] ++ [x]).map V.str))
  have hNx : (upd H4 N (.lst (([] ++ [x]).map V.str))) N = some (.lst ([x].map V.str)) := upd_same
  generalize upd H4 N (.lst (([] ++ [x]).map V.str)) = H5 at rx hNx ⊢
  refine ⟨_, rfl, _, rfl, _, _, rfl, d, N, [x], rfl, rfl, nN, nNl, rx, hNx, by show 1 ≤ 25; decide, fun y H6 oky nxy0 e6 r6 => ?_⟩
  have nxy : x ≠ y := fun z => nxy0 (by rw [z]; exact List.mem_singleton.mpr rfl)
  have ry := r6.put nN nNl (o := .lst (([x] ++ [y]).map V.str))
  have hNy : (upd H6 N (.lst (([x] ++ [y]).map V.str))) N = some (.lst ([x, y].map V.str)) := upd_same
  generalize upd H6 N (.lst (([x] ++ [y]).map V.str)) = H7 at ry hNy ⊢
  refine ⟨(by show 0 ≤ sizeLine; rw [sizeLine_eq]; decide), fun U hU => ⟨(by show 0 ≤ sizeLine; rw [sizeLine_eq]; decide), fun W hW => ?_⟩⟩
  have nU := ry.nep hU
  have nUl := ry.nel hU
  have r7 := ry.new hU (o := .lst [])
  have nW := r7.nep hW
  have nWl := r7.nel hW
  have r8 := r7.new hW (o := .lst [])
  have nNU : N ≠ U := ne_of_none hNy hU
  have nUW : U ≠ W := ne_of_none upd_same hW
  have nNW : N ≠ W := ne_of_none (by rw [upd_ne nNU]; exact hNy) hW
  have hU8 : (upd (upd H7 U (.lst [])) W (.lst [])) U = some (.lst []) := by rw [upd_ne nUW]; exact upd_same
  have hW8 : (upd (upd H7 U (.lst [])) W (.lst [])) W = some (.lst []) := upd_same
  have hN8 : (upd (upd H7 U (.lst [])) W (.lst [])) N = some (.lst ([x, y].map V.str)) := by rw [upd_ne nNW, upd_ne nNU]; exact hNy
  generalize upd (upd H7 U (.lst [])) W (.lst []) = H8 at r8 hU8 hW8 hN8 ⊢
  clear hU hW r7 ry hNy r6 e6 rx hNx r4 e4 rN hNN hN e1 r1
  refine ⟨fun σ' H' => ∃ (ds : List WD) (vs : List V) (wv : Option V), σ' = [some (.ref l), some (.ref d.p), some (.int (m : Int)), some (.ref N), some (.str x), some (.str y), some (.ref U), some (.ref W), wv, none, none, none, none, none, none, none, none] ∧ H' W = some (.lst vs) ∧ H' N = some (.lst ([x, y].map V.str)) ∧ Paired (DAt H') vs ds ∧ DsOk ds ∧ Rng d H' ∧ ∃ d0, ds[0]? = some d0 ∧ d0.door = false, ?_, ?_⟩
  · refine ⟨_, rfl, _, rfl, d, rfl, r8, fun q ws H9 hq nq nql hq0 l1 l10 wd ap e9 r9 => ?_⟩
    refine ⟨q, rfl, ⟨_, SqL.of hq⟩, ?_⟩
    have nqU : q ≠ U := fun z => by rw [z, hU8] at hq0; cases hq0
    have nqW : q ≠ W := fun z => by rw [z, hW8] at hq0; cases hq0
    refine for_it (walk_list (xs := ws.map V.str)) (fun i σ' H' => ∃ (ds : List WD) (vs : List V) (wv : Option V), σ' = [some (.ref l), some (.ref d.p), some (.int (m : Int)), some (.ref N), some (.str x), some (.str y), some (.ref U), some (.ref W), wv, none, none, none, none, none, none, none, none] ∧ H' q = some (.lst (ws.map V.str)) ∧ H' W = some (.lst vs) ∧ H' U = some (.lst ((ds.map WD.name).map V.str)) ∧ H' N = some (.lst ([x, y].map V.str)) ∧ Paired (DAt H') vs ds ∧ ds.length = i ∧ ds.map WD.word = ws.take i ∧ (ds.map WD.name).Nodup ∧ (∀ d ∈ ds, d.Ok ∧ d.door = false ∧ d.inner = .num 0 2 (some 2)) ∧ Rng d H')
      ⟨[], [], _, rfl, hq, e9 _ _ nW hW8, e9 _ _ nU hU8, e9 _ _ nN hN8, .nil, rfl, rfl, List.nodup_nil, (fun d h => nomatch h), r9⟩ (fun i σ' H' _ ⟨_, _, _, _, h, _⟩ => SqL.of h) ?_ ?_
    · rintro i v σ' Ha Ha' hi ⟨ds, vs, wv, rfl, hqa, hWa, hUa, hNa, pd, ld, ew, nd, all, ra⟩ ⟨rfl, hv⟩
      rw [List.getElem?_map] at hv
      obtain ⟨w, hw, rfl⟩ := Option.map_eq_some_iff.mp hv
      rw [List.length_map] at hi
      have tk : ws.take (i + 1) = ws.take i ++ [w] := take_snoc hw
      have lv := pair_lenE pd
      refine ⟨_, rfl, .inl ⟨rfl, _, SqL.of hWa⟩, _, rfl, _, rfl, _, rfl, _, _, rfl, d, U, ds.map WD.name, rfl, rfl, nU, nUl, ra, hUa, by rw [List.length_map]; omega, fun nm Hb okn nin eb rb => ⟨(by show 4 ≤ sizeLine; rw [sizeLine_eq]; decide), fun t1 ht1 => ⟨(by show 4 ≤ sizeLine; rw [sizeLine_eq]; decide), fun t2 ht2 => ?_⟩⟩⟩
      have hUb := eb _ _ nU hUa
      have k1 : TupKeep Ha' (upd Hb U (.lst ((ds.map WD.name ++ [nm]).map V.str))) := (TupKeep.chg ra eb).trans (TupKeep.set hUb)
      have rc := rb.put nU nUl (o := .lst ((ds.map WD.name ++ [nm]).map V.str))
      have hUc : (upd Hb U (.lst ((ds.map WD.name ++ [nm]).map V.str))) U = some (.lst ((ds.map WD.name ++ [nm]).map V.str)) := upd_same
      have hWc : (upd Hb U (.lst ((ds.map WD.name ++ [nm]).map V.str))) W = some (.lst vs) := by rw [upd_ne nUW.symm]; exact eb _ _ nW hWa
      have hNc : (upd Hb U (.lst ((ds.map WD.name ++ [nm]).map V.str))) N = some (.lst ([x, y].map V.str)) := by rw [upd_ne nNU]; exact eb _ _ nN hNa
      have hqc : (upd Hb U (.lst ((ds.map WD.name ++ [nm]).map V.str))) q = some (.lst (ws.map V.str)) := by rw [upd_ne nqU]; exact eb _ _ nq hqa
      generalize upd Hb U (.lst ((ds.map WD.name ++ [nm]).map V.str)) = Hc at k1 rc hUc hWc hNc hqc ht1 ht2 ⊢
      have s1 := same_new (o := .tup [V.str "number", V.int 0, V.int 2, V.int 2]) ht1
      have h1t : (upd Hc t1 (.tup [V.str "number", V.int 0, V.int 2, V.int 2])) t1 = _ := upd_same
      generalize upd Hc t1 (.tup [V.str "number", V.int 0, V.int 2, V.int 2]) = Hd at s1 h1t ht2 ⊢
      have s2 := same_new (o := .tup [V.str "way", V.str w, V.str nm, V.ref t1]) ht2
      have h2t : (upd Hd t2 (.tup [V.str "way", V.str w, V.str nm, V.ref t1])) t2 = _ := upd_same
      generalize upd Hd t2 (.tup [V.str "way", V.str w, V.str nm, V.ref t1]) = He at s2 h2t ⊢
      have s12 := s1.trans s2
      have hWe := s12 _ _ hWc
      refine ⟨W, _, _, rfl, rfl, hWe, by rw [sizeLine_eq]; omega, ?_⟩
      have k2 : TupKeep He (upd He W (.lst (vs ++ [V.ref t2]))) := TupKeep.set hWe
      refine ⟨ds ++ [⟨false, w, nm, .num 0 2 (some 2)⟩], vs ++ [V.ref t2], _, rfl, by rw [upd_ne nqW]; exact s12 _ _ hqc, upd_same, ?_, by rw [upd_ne nNW]; exact s12 _ _ hNc, ?_, by rw [List.length_append, ld]; rfl, by rw [List.map_append, ew, tk]; rfl, ?_, ?_, (rc.same s12).put nW nWl⟩
      · rw [upd_ne nUW, List.map_append]
        exact s12 _ _ hUc
      · exact paired_snocE ⟨t2, V.ref t1, rfl, k2 _ _ h2t, .num (w := some 2) (k2 _ _ (s2 _ _ h1t)) (.inl ⟨rfl, rfl⟩)⟩ (dats_keep (k1.trans ((TupKeep.same s12).trans k2)) pd)
      · rw [List.map_append]
        refine List.nodup_append.mpr ⟨nd, List.nodup_cons.mpr ⟨(fun z => nomatch z), List.nodup_nil⟩, fun a ha b hb z => ?_⟩
        rw [List.mem_singleton.mp hb] at z
        exact nin (by rw [← show a = nm from z]; exact ha)
      · intro dd hdd
        rcases List.mem_append.mp hdd with hdd | hdd
        · exact all dd hdd
        · rw [List.mem_singleton.mp hdd]
          exact ⟨⟨wd w (List.mem_of_getElem? hw), okn, rfl⟩, rfl, rfl⟩
    · rintro σ' Ha ⟨ds, vs, wv, rfl, hqa, hWa, hUa, hNa, pd, ld, ew, nd, all, ra⟩
      rw [List.length_map] at ld ew
      rw [List.take_length] at ew
      refine ⟨ds, vs, _, rfl, hWa, hNa, pd, ⟨by omega, by omega, fun dd h => (all dd h).1, fun dd h => .inr ⟨(all dd h).2.1, .inl (all dd h).2.2⟩, by rw [ew]; exact ap, nd, ?_⟩, ra, ?_⟩
      · cases ds with
        | nil => have : 0 = ws.length := ld; omega
        | cons d0 ds => exact ⟨d0, List.mem_cons_self .., (all d0 (List.mem_cons_self ..)).2.1⟩
      · cases ds with
        | nil => have : 0 = ws.length := ld; omega
        | cons d0 ds => exact ⟨d0, rfl, (all d0 (List.mem_cons_self ..)).2.1⟩
  clear hU8 hW8 hN8 r8
  rintro σ' H9 ⟨ds, vs, wv, rfl, hW9, hN9, pd9, ok9, r9, d0, hd0, dr0⟩
  refine ⟨fun σ' H' => ∃ (ds : List WD) (vs : List V) (wv kv : Option V), σ' = [some (.ref l), some (.ref d.p), some (.int (m : Int)), some (.ref N), some (.str x), some (.str y), some (.ref U), some (.ref W), wv, kv, none, none, none, none, none, none, none] ∧ H' W = some (.lst vs) ∧ H' N = some (.lst ([x, y].map V.str)) ∧ Paired (DAt H') vs ds ∧ DsOk ds ∧ Rng d H', ?_, ?_⟩
  · have lv := pair_lenE pd9
    have l12 := ok9.l12
    have l1 := ok9.l1
    refine ⟨_, rfl, _, _, rfl, .inl ⟨_, SqL.of hW9, rfl⟩, 1, vs.length, rfl, ⟨by decide, by decide, by omega, by omega⟩, ?_⟩
    refine for_range (n := ((vs.length : Int) - 1).toNat) (fun i σ' H' => ∃ (ds : List WD) (vs1 : List V) (kv : Option V), vs1.length = vs.length ∧ σ' = [some (.ref l), some (.ref d.p), some (.int (m : Int)), some (.ref N), some (.str x), some (.str y), some (.ref U), some (.ref W), wv, kv, none, none, none, none, none, none, none] ∧ (H' W = some (.lst vs1) ∧ H' N = some (.lst ([x, y].map V.str)) ∧ Paired (DAt H') vs1 ds ∧ DsOk ds ∧ Rng d H') ∧ ∃ d0, ds[0]? = some d0 ∧ d0.door = false) ⟨ds, vs, _, rfl, rfl, ⟨hW9, hN9, pd9, ok9, r9⟩, d0, hd0, dr0⟩ ?_ ?_
    · clear hW9 hN9 pd9 ok9 r9 hd0 dr0 lv l12 l1
      rintro i σ' Ha hi ⟨ds, us, kv, lu, rfl, ⟨hWa, hNa, pd, ok, ra⟩, d0, hd0, dr0⟩
      refine ⟨_, rfl, _, _, rfl, d, _, rfl, rfl, ra, by decide, small_log (by decide) (by decide), fun v Hb b0 b1 eb rb => ⟨rfl, _, rfl, iteB (fun _ => ?_) (fun _ => ⟨ds, us, _, lu, rfl, ⟨eb _ _ nW hWa, eb _ _ nN hNa, dats_keep (TupKeep.chg ra eb) pd, ok, rb⟩, d0, hd0, dr0⟩)⟩⟩
      have hWb := eb _ _ nW hWa
      have pdb := dats_keep (TupKeep.chg ra eb) pd
      have hj : us[i + 1]? = some us[i + 1] := List.getElem?_eq_getElem (by omega)
      generalize us[i + 1] = u at hj
      obtain ⟨dd, hdd, hda⟩ := pair_atE pdb hj
      obtain ⟨pw, iw, rfl, hpw, hiw⟩ := hda
      have hatw : atI us ((1 : Int) + (i : Nat)) = some (.ref pw) := by
        rw [show ((1 : Int) + (i : Nat)) = ((i + 1 : Nat) : Int) from by omega]
        exact atI_nat hj
      refine ⟨_, rfl, _, rfl, _, _, _, _, rfl, rfl, SqL.of hWb, hatw, _, _, _, _, rfl, rfl, SqT.of hpw, atI_nat rfl, _, rfl, _, rfl, _, _, _, _, rfl, rfl, SqL.of hWb, hatw, _, _, _, _, rfl, rfl, SqT.of hpw, atI_nat rfl, (by show 4 ≤ sizeLine; rw [sizeLine_eq]; decide), fun t ht => ?_⟩
      have s1 := same_new (o := .tup [V.str "door", V.str dd.word, V.str dd.name, V.non]) ht
      have h1t : (upd Hb t (.tup [V.str "door", V.str dd.word, V.str dd.name, V.non])) t = _ := upd_same
      generalize upd Hb t (.tup [V.str "door", V.str dd.word, V.str dd.name, V.non]) = Hc at s1 h1t ⊢
      have hWc := s1 _ _ hWb
      refine ⟨_, rfl, _, rfl, W, us, _, i + 1, rfl, rfl, hWc, (by rw [show ((1 : Int) + (i : Nat)) = ((i + 1 : Nat) : Int) from by omega]; exact Evl.ixN_nat (by omega)), ?_⟩
      have k2 : TupKeep Hc (upd Hc W (.lst (us.set (i + 1) (V.ref t)))) := TupKeep.set hWc
      refine ⟨ds.set (i + 1) ⟨true, dd.word, dd.name, .none⟩, us.set (i + 1) (V.ref t), _, by rw [List.length_set]; exact lu, rfl, ⟨upd_same, by rw [upd_ne nNW]; exact s1 _ _ (eb _ _ nN hNa), paired_set ⟨t, V.non, rfl, k2 _ _ h1t, .none⟩ (dats_keep ((TupKeep.same s1).trans k2) pdb), ok.setd hdd ⟨d0, hd0, dr0⟩, (rb.same s1).put nW nWl⟩, d0, ?_, dr0⟩
      rw [List.getElem?_set_ne (by omega)]
      exact hd0
    · rintro σ' Ha ⟨ds, us, kv, lu, rfl, h, _⟩
      exact ⟨ds, us, _, _, rfl, h⟩
  clear hW9 hN9 pd9 ok9 r9 hd0 dr0
  rintro σ' HA ⟨ds, vs, wv, kv, rfl, hWA, hNA, pdA, okA, rA⟩
  refine fun T0 hT0 => ?_
  have nT := rA.nep hT0
  have nTl := rA.nel hT0
  have nWT : W ≠ T0 := ne_of_none hWA hT0
  have nNT : N ≠ T0 := ne_of_none hNA hT0
  have sT := same_new (o := .dK []) hT0
  have hTB : (upd HA T0 (.dK [])) T0 = some (.dK []) := upd_same
  have hWB := sT _ _ hWA
  have hNB := sT _ _ hNA
  have pdB := dats_keep (TupKeep.same sT) pdA
  have rB := rA.same sT
  generalize upd HA T0 (.dK []) = HB at sT hTB hWB hNB pdB rB ⊢
  clear hT0 hWA hNA pdA rA sT
  refine ⟨fun σ' H' => ∃ (b : Int) (ro : Addr), 1 ≤ b ∧ b ≤ 3 ∧ σ' = [some (.ref l), some (.ref d.p), some (.int (m : Int)), some (.ref N), some (.str x), some (.str y), some (.ref U), some (.ref W), wv, kv, some (.ref T0), none, none, none, none, none, none] ∧ H' T0 = some (.dK [((.inr y : Key), .ref ro)]) ∧ KAt A H' (.ref ro) (.row [.part "a" (.call x), .part "b" (.bits b)]) ∧ H' W = some (.lst vs) ∧ H' N = some (.lst ([x, y].map V.str)) ∧ Paired (DAt H') vs ds ∧ Rng d H', ?_, ?_⟩
  · refine ⟨_, rfl, fun cx dcx h1 h2 ne => ⟨_, _, rfl, HB, cx, _, rfl, Fresh.mk' h1 h2 ne, .str _, name_short okx, made_ok (call_ok okx) fun K3 k3 hcx => ⟨rfl, ?_⟩⟩⟩
    refine fun px dpx h1 h2 ne => ⟨_, _, _, rfl, K3, px, _, .k (.call x), rfl, Fresh.mk' h1 h2 ne, .str _, name_short pa_ok, hcx, made_ok (part_ok pa_ok rfl) fun K4 k4 hpx => ⟨rfl, ?_⟩⟩
    have r4 := rB.same (k3.trans k4)
    refine ⟨_, rfl, _, _, rfl, d, _, rfl, rfl, r4, by decide, small_log (by decide) (by decide), fun v K5 v0 v1 k5 r5 => ⟨_, _, rfl, rfl, fun bo dbo h1 h2 ne => ⟨_, _, rfl, K5, bo, _, rfl, Fresh.mk' h1 h2 ne, .int _, made_ok (bits_3 (by omega) (by omega)) fun K6 k6 hbo => ⟨rfl, ?_⟩⟩⟩⟩
    have hpx5 := hpx.keep (KI.chg r4 r5 k5)
    refine fun py dpy h1 h2 ne => ⟨_, _, _, rfl, K6, py, _, .k (.bits (1 + v)), rfl, Fresh.mk' h1 h2 ne, .str _, name_short pb_ok, hbo, made_ok (part_ok pb_ok rfl) fun K7 k7 hpy => ⟨rfl, ?_⟩⟩
    refine ⟨(by show 2 ≤ sizeLine; rw [sizeLine_eq]; decide), fun pl hpl => ?_⟩
    have k78 : Same K7 (upd K7 pl (.lst [.ref px, .ref py])) := same_new hpl
    have hpl8 : (upd K7 pl (.lst [.ref px, .ref py])) pl = some (.lst [.ref px, .ref py]) := upd_same
    generalize upd K7 pl (.lst [.ref px, .ref py]) = K8 at k78 hpl8 ⊢
    have hpx8 := hpx5.keep (KI.same (k6.trans (k7.trans k78)))
    refine fun ro dro h1 h2 ne => ⟨_, _, rfl, K8, ro, some [.k (.part "a" (.call x)), .k (.part "b" (.bits (1 + v)))], rfl, Fresh.mk' h1 h2 ne, .lst hpl8 (.cons hpx8 (.cons (hpy.keep (KI.same k78)) .nil)) (by show 2 ≤ 100; decide), made_ok row_okA fun K9 k9 hro => ⟨rfl, ?_⟩⟩
    have c9 : Chg d HB K9 := (Chg.same (k3.trans k4)).trans (k5.trans (Chg.same (k6.trans (k7.trans (k78.trans k9)))))
    have r9 := r5.same (k6.trans (k7.trans (k78.trans k9)))
    have hT9 := c9 _ _ nT hTB
    refine ⟨_, rfl, _, rfl, T0, _, rfl, (show DPut K9 T0 (.str y) (.ref ro) _ from DPut.k (k := (.inr y : Key)) hT9 (by show 0 < sizeLine; rw [sizeLine_eq]; decide)), ?_⟩
    exact ⟨1 + v, ro, by omega, by omega, rfl, upd_same, kat_dict hT9 hro, by rw [upd_ne nWT]; exact c9 _ _ nW hWB, by rw [upd_ne nNT]; exact c9 _ _ nN hNB, dats_keep ((TupKeep.chg rB c9).trans (TupKeep.dict hT9)) pdB, r9.put nT nTl⟩
  clear hTB hWB hNB pdB rB
  rintro σ' HC ⟨b, ro, b1, b3, rfl, hTC, hro, hWC, hNC, pdC, rC⟩
  refine ⟨fun σ' H' => ∃ co : Addr, σ' = [some (.ref l), some (.ref d.p), some (.int (m : Int)), some (.ref N), some (.str x), some (.str y), some (.ref U), some (.ref W), wv, kv, some (.ref T0), none, none, none, none, none, none] ∧ H' T0 = some (.dK [((.inr y : Key), .ref ro), ((.inr x : Key), .ref co)]) ∧ KAt A H' (.ref ro) (.row [.part "a" (.call x), .part "b" (.bits b)]) ∧ KAt A H' (.ref co) (.choice (ds.map WD.kd)) ∧ H' W = some (.lst vs) ∧ H' N = some (.lst ([x, y].map V.str)) ∧ Paired (DAt H') vs ds ∧ Rng d H', ?_, ?_⟩
  · refine ⟨_, rfl, ?_⟩
    refine lc_lstG (tt := tYes) (fun H v k => KAt A H v k) (fun _ _ _ _ e q => q.keep (KI.same e)) (fun D H1 ws v v' b hD q => kat_lst hD q) (fun _ => true) WD.kd (DAt HC) hWC pdC (by rw [pair_lenE pdC]; have := okA.l12; omega) (fun x => rfl) (fun x n H6 Q _ _ _ q => q) ?_ ?_
    · intro y z H6 Q hz mz _ e6 q
      exact ⟨_, rfl, _, rfl, z, hz.keep (TupKeep.same e6), okA.ok z mz, fun x H' hk e => q _ _ e hk⟩
    intro D ws K2 hD hD0 e2 pw
    rw [List.filter_eq_self.mpr fun _ _ => rfl] at pw
    refine fun co dco h1 h2 ne => ⟨_, _, rfl, K2, co, some _, rfl, Fresh.mk' h1 h2 ne, .lst hD (pair_th pw) (by rw [pair_lenE pw, List.length_map]; have := okA.l12; omega), made_ok (seq_choice okA.ways) fun K3 k3 hc => ⟨rfl, ?_⟩⟩
    have e23 := e2.trans k3
    have hT3 := e23 _ _ hTC
    refine ⟨_, rfl, _, rfl, T0, _, rfl, (show DPut K3 T0 (.str x) (.ref co) _ from DPut.k (k := (.inr x : Key)) hT3 (by show 1 < sizeLine; rw [sizeLine_eq]; decide)), ?_⟩
    refine ⟨co, rfl, ?_, kat_dict hT3 (hro.keep (KI.same e23)), kat_dict hT3 hc, by rw [upd_ne nWT]; exact e23 _ _ hWC, by rw [upd_ne nNT]; exact e23 _ _ hNC, dats_keep ((TupKeep.same e23).trans (TupKeep.dict hT3)) pdC, (rC.same e23).put nT nTl⟩
    rw [upd_same, putK_new (kvs := [((.inr y : Key), V.ref ro)])]
    · rfl
    · rw [valV_neg (fun z => nxy (by injection z with z; exact z.symm))]
      rfl
  clear hTC hro hWC hNC pdC rC
  rintro σ' HD ⟨co, rfl, hTD, hro, hco, hWD, hND, pdD, rD⟩
  refine ⟨fun σ' H' => ∃ (e : Addr) (r : Str) (c : Int), σ' = [some (.ref l), some (.ref d.p), some (.int (m : Int)), some (.ref N), some (.str x), some (.str y), some (.ref U), some (.ref W), wv, kv, some (.ref T0), none, some (.ref e), none, none, none, none] ∧ EdAt A H' e (wayTb x y ds b) r c ∧ r ∈ [x, y] ∧ 1 ≤ c ∧ c ≤ 3 ∧ H' W = some (.lst vs) ∧ Paired (DAt H') vs ds ∧ Rng d H', ?_, ?_⟩
  · refine ⟨_, rfl, _, rfl, _, rfl, _, _, rfl, d, _, rfl, rfl, rD, by decide, small_log (by decide) (by decide), fun v Ka v0 v1 ea ra => ?_⟩
    obtain ⟨j, rfl⟩ := Int.eq_ofNat_of_zero_le v0
    have hNa := ea _ _ nN hND
    obtain ⟨r, hr, hrm⟩ : ∃ r, ([x, y].map V.str)[j]? = some (V.str r) ∧ r ∈ [x, y] := by
      match j, v1 with
      | 0, _ => exact ⟨x, rfl, List.mem_cons_self ..⟩
      | 1, _ => exact ⟨y, rfl, List.mem_cons_of_mem _ (List.mem_cons_self ..)⟩
      | j + 2, h => omega
    refine ⟨N, _, _, _, rfl, rfl, SqL.of hNa, atI_nat hr, _, rfl, _, _, rfl, d, _, rfl, rfl, ra, by decide, small_log (by decide) (by decide), fun v2 Kb w0 w1 eb rb => ⟨_, _, rfl, rfl, ?_⟩⟩
    have c2 := ea.trans eb
    have tbD : TbAt A HD T0 (wayTb x y ds b) [((.inr y : Key), .ref ro), ((.inr x : Key), .ref co)] := ⟨.inl hTD, .cons ⟨rfl, hro⟩ (.cons ⟨rfl, hco⟩ .nil)⟩
    have tbb := tbD.kl (KL.chg rD c2)
    have hTb := c2 _ _ nT hTD
    refine fun e de h1 h2 ne => ⟨_, _, _, _, rfl, Kb, e, T0, wayTb x y ds b, _, _, r, 1 + v2, rfl, Fresh.mk' h1 h2 ne, rfl, rfl, rfl, tbb, hTb, way_ok okA okx oky nxy b1 b3 hrm (by omega) (by omega), fun Kc he kc => ⟨rfl, ?_⟩⟩
    exact ⟨e, r, 1 + v2, rfl, he, hrm, by omega, by omega, kc _ _ (c2 _ _ nW hWD), dats_keep ((TupKeep.chg rD c2).trans (TupKeep.same kc)) pdD, rb.same kc⟩
  clear hTD hro hco hWD hND pdD rD
  rintro σ' HE ⟨e, r, c, rfl, heE, hrm, c1, c3, hWE, pdE, rE⟩
  refine ⟨_, rfl, by decide, by decide, ?_⟩
  refine for_range (n := 7) (fun i σ' H' => ∃ (e : Addr) (ds : List WD) (vs : List V) (a11 a13 a15 a16 : Option V), σ' = [some (.ref l), some (.ref d.p), some (.int (m : Int)), some (.ref N), some (.str x), some (.str y), some (.ref U), some (.ref W), wv, kv, some (.ref T0), a11, some (.ref e), a13, none, a15, a16] ∧ EdAt A H' e (wayTb x y ds b) r c ∧ H' W = some (.lst vs) ∧ Paired (DAt H') vs ds ∧ DsOk ds ∧ Rng d H') ⟨e, ds, vs, _, _, _, _, rfl, heE, hWE, pdE, okA, rE⟩ ?_ ?_
  · clear heE hWE pdE okA rE
    rintro i σ' Ha hi ⟨e, ds, vs, a11, a13, a15, a16, rfl, he, hWa, pd, ok, ra⟩
    have lx := (way_look (ds := ds) (b := b) nxy).1
    have okn : okN x := ⟨okx, name_len okx⟩
    have lv := pair_lenE pd
    have l12 := ok.l12
    have lk : (ds.map WD.kd).length ≤ 12 := by rw [List.length_map]; exact l12
    refine ⟨_, rfl, _, rfl, _, rfl, _, rfl, _, _, _, _, rfl, e, wayTb x y ds b, r, c, x, W, vs, ds, m, rfl, he, by show 2 ≤ 20; decide, rfl, okn, lx, rfl, hWa, pd, ok.l1, l12, fun dd hd => (ok.ok dd hd).word, rfl, by omega, fun Hb eb => ⟨_, rfl, iteF ?_⟩⟩
    have hWb := eb _ _ hWa
    have pdb := dats_keep (TupKeep.same eb) pd
    have heb := he.same eb
    have rb := ra.same eb
    clear he hWa pd ra eb
    refine ⟨_, rfl, _, rfl, ?_⟩
    refine lc_lstG (tt := tYes) (fun _ v (b : Str) => v = V.str b) (fun _ _ _ _ _ q => q) (fun _ _ _ _ _ _ _ q => q) (fun _ => true) WD.word (DAt Hb) hWb pdb (by omega) (fun x => rfl) (fun x n H6 Q _ _ _ q => q) ?_ ?_
    · intro y z H6 Q hz mz _ e6 q
      obtain ⟨py, iy, rfl, hpy, _⟩ := hz
      have hy6 := e6 _ _ hpy
      exact ⟨_, rfl, _, _, _, _, rfl, rfl, SqT.of hy6, (show atI _ ((1 : Nat) : Int) = _ from atI_nat rfl), q _ _ (fun _ _ z => z) rfl⟩
    intro D1 ws1 Hc hD1 hD10 ec pw1
    rw [List.filter_eq_self.mpr fun _ _ => rfl] at pw1
    have ews1 := pair_strs pw1
    subst ews1
    have hWc := ec _ _ hWb
    have pdc := dats_keep (TupKeep.same ec) pdb
    refine ⟨_, rfl, ?_⟩
    refine lc_lstG (tt := tYes) (fun _ v (b : Str) => v = V.str b) (fun _ _ _ _ _ q => q) (fun _ _ _ _ _ _ _ q => q) (fun _ => true) WD.name (DAt Hc) hWc pdc (by omega) (fun x => rfl) (fun x n H6 Q _ _ _ q => q) ?_ ?_
    · intro y z H6 Q hz mz _ e6 q
      obtain ⟨py, iy, rfl, hpy, _⟩ := hz
      have hy6 := e6 _ _ hpy
      exact ⟨_, rfl, _, _, _, _, rfl, rfl, SqT.of hy6, (show atI _ ((2 : Nat) : Int) = _ from atI_nat rfl), q _ _ (fun _ _ z => z) rfl⟩
    intro D2 ws2 Hd hD2 hD20 ed pw2
    rw [List.filter_eq_self.mpr fun _ _ => rfl] at pw2
    have ews2 := pair_strs pw2
    subst ews2
    have rc := rb.same ec
    have rd := rc.same ed
    have hWd := ed _ _ hWc
    have pdd := dats_keep (TupKeep.same ed) pdc
    refine ⟨_, _, _, rfl, d, D1, D2, ds.map WD.word, ds.map WD.name, rfl, rfl, rfl, rd, rb.nep hD10, rc.nep hD20, ed _ _ hD1, hD2, by rw [List.length_map]; exact l12, (fun w hw => ?_), by rw [List.length_map]; exact ok.l1, by rw [List.length_map]; exact l12, (fun w hw => ?_), fun wv w He hdw okw smw ee re => ?_⟩
    · obtain ⟨dd, hd, rfl⟩ := List.mem_map.mp hw
      exact (ok.ok dd hd).word
    · obtain ⟨dd, hd, rfl⟩ := List.mem_map.mp hw
      exact (ok.ok dd hd).name
    have hWe := ee _ _ nW hWd
    have pde := dats_keep (TupKeep.chg rd ee) pdd
    have hee := (heb.same (ec.trans ed)).kl (KL.chg rd ee)
    clear hWb pdb heb rb ec hWc pdc hD1 hD10 pw1 ed hD2 hD20 pw2 rc rd hWd pdd ee
    refine ⟨_, rfl, _, rfl, _, _, rfl, W, vs, ds, w, rfl, hWe, pde, l12, hdw, fun Hf ef => ?_⟩
    have hWf := ef _ _ hWe
    have pdf := dats_keep (TupKeep.same ef) pde
    have hef := hee.same ef
    have rf := re.same ef
    have hdwf := hdw.keep (TupKeep.same ef)
    clear hWe pde hee re ef hdw
    refine ⟨_, rfl, _, rfl, _, rfl, _, rfl, w, hdwf, okw, fun z Hg hz eg => ?_⟩
    refine fun o dx h1 h2 ne => ⟨_, _, _, rfl, Hg, o, rfl, Fresh.mk' h1 h2 ne, fun dx2 Hh hh eh => ⟨rfl, ?_⟩⟩
    have egh := eg.trans eh
    refine ⟨_, _, rfl, e, wayTb x y ds b, r, c, o, x, .ref z, w.kd, ds.map WD.kd, rfl, hef.same egh, by show 2 ≤ 20; decide, rfl, ⟨⟨_, hh⟩, hz.keep (KI.same eh), (kd_tw w).2.2⟩, okn, lx, lk, ?_⟩
    have hWh := egh _ _ hWf
    have pdh := dats_keep (TupKeep.same egh) pdf
    have heh := hef.same egh
    have rh := rf.same egh
    have hdwh := hdwf.keep (TupKeep.same egh)
    clear hWf pdf hef rf hdwf eg eh egh hz
    cases why : wayWhy (ds.map WD.kd) w.kd with
    | some yy =>
      refine fun q Hi ei hq => ?_
      refine ⟨_, rfl, rfl, _, rfl, iteB (fun _ => ?_) (fun z => ?_)⟩
      · refine ⟨_, rfl, _, rfl, (by show 2 ≤ sizeLine; rw [sizeLine_eq]; decide), fun t ht => ?_⟩
        have st := same_new (o := .tup [V.str "refused", V.str yy]) ht
        refine ⟨_, _, rfl, q, t, _, rfl, rfl, .inl ⟨st _ _ hq, upd_same⟩, atoms_str ["refused", yy], (by show 2 ≤ _; omega), _, rfl, iteF ?_⟩
        have eit := ei.trans st
        exact ⟨e, ds, vs, _, _, _, _, rfl, heh.same eit, eit _ _ hWh, dats_keep (TupKeep.same eit) pdh, ok, rh.same eit⟩
      · have z : (!decide (V.str yy = V.str "")) = false := z
        rw [dStrE, decide_eq_false (why_ne why)] at z
        cases z
    | none =>
      have ok2 := ok.snoc okw (smw.imp_right fun q => ⟨q.1, .inr q.2⟩) why
      have e2 : (ds ++ [w]).map WD.kd = ds.map WD.kd ++ [w.kd] := by rw [List.map_append]; rfl
      refine ⟨by rw [← e2]; exact ok2.ways, ⟨fun z => if z = x then 0 else 1, by rw [way_set nxy]; exact way_ok ok2 okx oky nxy b1 b3 hrm c1 (by omega)⟩, fun q y2 Hi he2 ei hq => ?_⟩
      rw [way_set nxy] at he2
      refine ⟨_, rfl, rfl, _, rfl, iteB (fun z => ?_) (fun _ => ?_)⟩
      · have z : (!decide (V.str "" = V.str "")) = true := z
        rw [decide_eq_true rfl] at z
        cases z
      refine ⟨_, rfl, _, _, _, _, rfl, rfl, SqT.of hq, (show atI _ ((0 : Nat) : Int) = _ from atI_nat rfl), rfl, _, rfl, iteB (fun z => ?_) (fun _ => ?_)⟩
      · rw [decide_eq_true rfl] at z
        cases z
      have hWi := ei _ _ hWh
      have pdi := dats_keep (TupKeep.same ei) pdh
      refine ⟨_, rfl, .inl ⟨rfl, _, SqL.of hWi⟩, _, rfl, W, _, _, rfl, rfl, hWi, by rw [sizeLine_eq]; omega, ?_⟩
      have kl : KL Hi (upd Hi W (.lst (vs ++ [wv]))) := KL.put hWi pdi ok.l1
      have kt : TupKeep Hi (upd Hi W (.lst (vs ++ [wv]))) := TupKeep.set hWi
      have hqj := kt _ _ hq
      have hej := (heh.same ei).kl kl
      have he2j := he2.kl kl
      have pdj := paired_snocE ((hdwh.keep (TupKeep.same ei)).keep kt) (dats_keep kt pdi)
      have hWj : (upd Hi W (.lst (vs ++ [wv]))) W = some (.lst (vs ++ [wv])) := upd_same
      have rj := (rh.same ei).put nW nWl (o := .lst (vs ++ [wv]))
      generalize upd Hi W (.lst (vs ++ [wv])) = Hj at kl kt hqj hej he2j pdj hWj rj ⊢
      clear kl kt hWi pdi hq he2 ei hWh pdh heh rh hdwh
      refine ⟨_, rfl, _, rfl, _, _, _, _, rfl, rfl, SqT.of hqj, (show atI _ ((1 : Nat) : Int) = _ from atI_nat rfl), _, rfl, _, rfl, _, _, _, _, rfl, e, y2, wayTb x y ds b, wayTb x y (ds ++ [w]) b, r, c, x, ds.map WD.kd, W, vs ++ [wv], ds ++ [w], rfl, rfl, hej, he2j, by show 2 ≤ 20; decide, rfl, rfl, lx, (way_look nxy).1, rfl, hWj, pdj, by rw [List.length_append, List.length_map]; rfl, ok2.l12, ok2.ok, fun Hk ek => ⟨_, rfl, iteF ?_⟩⟩
      have hqk := ek _ _ hqj
      exact ⟨_, rfl, _, _, _, _, rfl, rfl, SqT.of hqk, (show atI _ ((1 : Nat) : Int) = _ from atI_nat rfl), y2, ds ++ [w], vs ++ [wv], _, _, _, _, rfl, he2j.same ek, ek _ _ hWj, dats_keep (TupKeep.same ek) pdj, ok2, rj.same ek⟩
  · rintro σ' Ha ⟨e, ds, vs, a11, a13, a15, a16, rfl, he, hWa, pd, ok, ra⟩
    exact k Ha
end
theorem txt_of {K : PySem.W.Frag} {h : Heap} {mg : Str → Option Value} (X : K.In h) (G : h.Ns mainGlobals mg) (c : SaysP fa fn fc fp tf fx h K) :
    ∃ A : Ad, Txt K mg A ∧ mg "law" = some (.ref A.f_law) ∧ (∀ (s : Shared) (v : Value), BindsTo s A.d_law ⟨[v], []⟩ [("script", v)]) := by
  obtain ⟨e_BadKind___init__, F_BadKind___init__⟩ := c.d.def_ 0 (d := dd_BadKind___init__) rfl
  obtain ⟨e_NoStep___init__, F_NoStep___init__⟩ := c.d.def_ 1 (d := dd_NoStep___init__) rfl
  obtain ⟨e_is_integer, F_is_integer⟩ := c.d.def_ 2 (d := dd_is_integer) rfl
  obtain ⟨e_is_bits, F_is_bits⟩ := c.d.def_ 3 (d := dd_is_bits) rfl
  obtain ⟨e_is_name, F_is_name⟩ := c.d.def_ 4 (d := dd_is_name) rfl
  obtain ⟨e_is_word, F_is_word⟩ := c.d.def_ 5 (d := dd_is_word) rfl
  obtain ⟨e_begins, F_begins⟩ := c.d.def_ 6 (d := dd_begins) rfl
  obtain ⟨e_Nothing___eq__, F_Nothing___eq__⟩ := c.d.def_ 7 (d := dd_Nothing___eq__) rfl
  obtain ⟨e_is_width, F_is_width⟩ := c.d.def_ 8 (d := dd_is_width) rfl
  obtain ⟨e_Number___init__, F_Number___init__⟩ := c.d.def_ 9 (d := dd_Number___init__) rfl
  obtain ⟨e_Number___eq__, F_Number___eq__⟩ := c.d.def_ 10 (d := dd_Number___eq__) rfl
  obtain ⟨e_Bits___init__, F_Bits___init__⟩ := c.d.def_ 11 (d := dd_Bits___init__) rfl
  obtain ⟨e_Bits___eq__, F_Bits___eq__⟩ := c.d.def_ 12 (d := dd_Bits___eq__) rfl
  obtain ⟨e_Call___init__, F_Call___init__⟩ := c.d.def_ 13 (d := dd_Call___init__) rfl
  obtain ⟨e_Call___eq__, F_Call___eq__⟩ := c.d.def_ 14 (d := dd_Call___eq__) rfl
  obtain ⟨e_Items___init__, F_Items___init__⟩ := c.d.def_ 15 (d := dd_Items___init__) rfl
  obtain ⟨e_Items___eq__, F_Items___eq__⟩ := c.d.def_ 16 (d := dd_Items___eq__) rfl
  obtain ⟨e_is_simple, F_is_simple⟩ := c.d.def_ 17 (d := dd_is_simple) rfl
  obtain ⟨e_check_inner, F_check_inner⟩ := c.d.def_ 18 (d := dd_check_inner) rfl
  obtain ⟨e_Way___init__, F_Way___init__⟩ := c.d.def_ 19 (d := dd_Way___init__) rfl
  obtain ⟨e_Way___eq__, F_Way___eq__⟩ := c.d.def_ 20 (d := dd_Way___eq__) rfl
  obtain ⟨e_Door___init__, F_Door___init__⟩ := c.d.def_ 21 (d := dd_Door___init__) rfl
  obtain ⟨e_Door___eq__, F_Door___eq__⟩ := c.d.def_ 22 (d := dd_Door___eq__) rfl
  obtain ⟨e_are_ways, F_are_ways⟩ := c.d.def_ 23 (d := dd_are_ways) rfl
  obtain ⟨e_Choice___init__, F_Choice___init__⟩ := c.d.def_ 24 (d := dd_Choice___init__) rfl
  obtain ⟨e_Part___init__, F_Part___init__⟩ := c.d.def_ 25 (d := dd_Part___init__) rfl
  obtain ⟨e_Room___init__, F_Room___init__⟩ := c.d.def_ 26 (d := dd_Room___init__) rfl
  obtain ⟨e_are_parts, F_are_parts⟩ := c.d.def_ 27 (d := dd_are_parts) rfl
  obtain ⟨e_Row___init__, F_Row___init__⟩ := c.d.def_ 28 (d := dd_Row___init__) rfl
  obtain ⟨e_inner_kinds, F_inner_kinds⟩ := c.d.def_ 29 (d := dd_inner_kinds) rfl
  obtain ⟨e_called, F_called⟩ := c.d.def_ 30 (d := dd_called) rfl
  obtain ⟨e_reached, F_reached⟩ := c.d.def_ 31 (d := dd_reached) rfl
  obtain ⟨e_missing_name, F_missing_name⟩ := c.d.def_ 32 (d := dd_missing_name) rfl
  obtain ⟨e_ring_name, F_ring_name⟩ := c.d.def_ 33 (d := dd_ring_name) rfl
  obtain ⟨e_call_order, F_call_order⟩ := c.d.def_ 34 (d := dd_call_order) rfl
  obtain ⟨e_number_lengths, F_number_lengths⟩ := c.d.def_ 35 (d := dd_number_lengths) rfl
  obtain ⟨e_Lengths___init__, F_Lengths___init__⟩ := c.d.def_ 36 (d := dd_Lengths___init__) rfl
  obtain ⟨e_Lengths_sums, F_Lengths_sums⟩ := c.d.def_ 37 (d := dd_Lengths_sums) rfl
  obtain ⟨e_Lengths_of_kind, F_Lengths_of_kind⟩ := c.d.def_ 38 (d := dd_Lengths_of_kind) rfl
  obtain ⟨e_Lengths_of_body, F_Lengths_of_body⟩ := c.d.def_ 39 (d := dd_Lengths_of_body) rfl
  obtain ⟨e_Lengths_of_named, F_Lengths_of_named⟩ := c.d.def_ 40 (d := dd_Lengths_of_named) rfl
  obtain ⟨e_Lengths_of_row, F_Lengths_of_row⟩ := c.d.def_ 41 (d := dd_Lengths_of_row) rfl
  obtain ⟨e_Lengths_is_long, F_Lengths_is_long⟩ := c.d.def_ 42 (d := dd_Lengths_is_long) rfl
  obtain ⟨e_long_body, F_long_body⟩ := c.d.def_ 43 (d := dd_long_body) rfl
  obtain ⟨e_Plan___init__, F_Plan___init__⟩ := c.d.def_ 44 (d := dd_Plan___init__) rfl
  obtain ⟨e_are_kinds, F_are_kinds⟩ := c.d.def_ 45 (d := dd_are_kinds) rfl
  obtain ⟨e_check_parts, F_check_parts⟩ := c.d.def_ 46 (d := dd_check_parts) rfl
  obtain ⟨e_is_taken, F_is_taken⟩ := c.d.def_ 47 (d := dd_is_taken) rfl
  obtain ⟨e_last_taken, F_last_taken⟩ := c.d.def_ 48 (d := dd_last_taken) rfl
  obtain ⟨e_check_rooms, F_check_rooms⟩ := c.d.def_ 49 (d := dd_check_rooms) rfl
  obtain ⟨e_Edition___init__, F_Edition___init__⟩ := c.d.def_ 50 (d := dd_Edition___init__) rfl
  obtain ⟨e_check_most, F_check_most⟩ := c.d.def_ 51 (d := dd_check_most) rfl
  obtain ⟨e_way_words, F_way_words⟩ := c.d.def_ 52 (d := dd_way_words) rfl
  obtain ⟨e_AddWay___init__, F_AddWay___init__⟩ := c.d.def_ 53 (d := dd_AddWay___init__) rfl
  obtain ⟨e_named, F_named⟩ := c.d.def_ 54 (d := dd_named) rfl
  obtain ⟨e_way_added, F_way_added⟩ := c.d.def_ 55 (d := dd_way_added) rfl
  obtain ⟨e_changed_kind, F_changed_kind⟩ := c.d.def_ 56 (d := dd_changed_kind) rfl
  obtain ⟨e_taken, F_taken⟩ := c.d.def_ 57 (d := dd_taken) rfl
  obtain ⟨e__law_start, F__law_start⟩ := c.d.def_ 58 (d := dd__law_start) rfl
  obtain ⟨e__law_pull, F__law_pull⟩ := c.d.def_ 59 (d := dd__law_pull) rfl
  obtain ⟨e__law_is_int, F__law_is_int⟩ := c.d.def_ 60 (d := dd__law_is_int) rfl
  obtain ⟨e__law_same, F__law_same⟩ := c.d.def_ 61 (d := dd__law_same) rfl
  obtain ⟨e__law_name, F__law_name⟩ := c.d.def_ 62 (d := dd__law_name) rfl
  obtain ⟨e__law_draw_bits, F__law_draw_bits⟩ := c.d.def_ 63 (d := dd__law_draw_bits) rfl
  obtain ⟨e__law_place, F__law_place⟩ := c.d.def_ 64 (d := dd__law_place) rfl
  obtain ⟨e__law_object, F__law_object⟩ := c.d.def_ 65 (d := dd__law_object) rfl
  obtain ⟨e__law_ordered, F__law_ordered⟩ := c.d.def_ 66 (d := dd__law_ordered) rfl
  obtain ⟨e__law_taken, F__law_taken⟩ := c.d.def_ 67 (d := dd__law_taken) rfl
  obtain ⟨e__law_flip, F__law_flip⟩ := c.d.def_ 68 (d := dd__law_flip) rfl
  obtain ⟨e__law_gaps, F__law_gaps⟩ := c.d.def_ 69 (d := dd__law_gaps) rfl
  obtain ⟨e__law_draw_many_words, F__law_draw_many_words⟩ := c.d.def_ 70 (d := dd__law_draw_many_words) rfl
  obtain ⟨e__law_draw_way, F__law_draw_way⟩ := c.d.def_ 71 (d := dd__law_draw_way) rfl
  obtain ⟨e__law_way_reason, F__law_way_reason⟩ := c.d.def_ 72 (d := dd__law_way_reason) rfl
  obtain ⟨e__law_words_right, F__law_words_right⟩ := c.d.def_ 73 (d := dd__law_words_right) rfl
  obtain ⟨e__law_later_right, F__law_later_right⟩ := c.d.def_ 74 (d := dd__law_later_right) rfl
  obtain ⟨e_law, F_law⟩ := c.d.def_ 75 (d := dd_law) rfl
  obtain ⟨e_Edition_kinds, F_Edition_kinds⟩ := c.pro 0 (d := dp_Edition_kinds) rfl
  obtain ⟨e_Counter___init__, F_Counter___init__⟩ := c.clo 0 (d := dc_Counter___init__) rfl
  obtain ⟨e_Machine___init__, F_Machine___init__⟩ := c.clo 1 (d := dc_Machine___init__) rfl
  exact ⟨{ f_BadKind___init__ := (He.ma K (He.ga K "BadKind") "__init__"), d_BadKind___init__ := e_BadKind___init__, f_NoStep___init__ := (He.ma K (He.ga K "NoStep") "__init__"), d_NoStep___init__ := e_NoStep___init__, f_is_integer := (He.ga K "is_integer"), d_is_integer := e_is_integer, f_is_bits := (He.ga K "is_bits"), d_is_bits := e_is_bits, f_is_name := (He.ga K "is_name"), d_is_name := e_is_name, f_is_word := (He.ga K "is_word"), d_is_word := e_is_word, f_begins := (He.ga K "begins"), d_begins := e_begins, f_Nothing___eq__ := (He.ma K (He.ga K "Nothing") "__eq__"), d_Nothing___eq__ := e_Nothing___eq__, f_is_width := (He.ga K "is_width"), d_is_width := e_is_width, f_Number___init__ := (He.ma K (He.ga K "Number") "__init__"), d_Number___init__ := e_Number___init__, f_Number___eq__ := (He.ma K (He.ga K "Number") "__eq__"), d_Number___eq__ := e_Number___eq__, f_Bits___init__ := (He.ma K (He.ga K "Bits") "__init__"), d_Bits___init__ := e_Bits___init__, f_Bits___eq__ := (He.ma K (He.ga K "Bits") "__eq__"), d_Bits___eq__ := e_Bits___eq__, f_Call___init__ := (He.ma K (He.ga K "Call") "__init__"), d_Call___init__ := e_Call___init__, f_Call___eq__ := (He.ma K (He.ga K "Call") "__eq__"), d_Call___eq__ := e_Call___eq__, f_Items___init__ := (He.ma K (He.ga K "Items") "__init__"), d_Items___init__ := e_Items___init__, f_Items___eq__ := (He.ma K (He.ga K "Items") "__eq__"), d_Items___eq__ := e_Items___eq__, f_is_simple := (He.ga K "is_simple"), d_is_simple := e_is_simple, f_check_inner := (He.ga K "check_inner"), d_check_inner := e_check_inner, f_Way___init__ := (He.ma K (He.ga K "Way") "__init__"), d_Way___init__ := e_Way___init__, f_Way___eq__ := (He.ma K (He.ga K "Way") "__eq__"), d_Way___eq__ := e_Way___eq__, f_Door___init__ := (He.ma K (He.ga K "Door") "__init__"), d_Door___init__ := e_Door___init__, f_Door___eq__ := (He.ma K (He.ga K "Door") "__eq__"), d_Door___eq__ := e_Door___eq__, f_are_ways := (He.ga K "are_ways"), d_are_ways := e_are_ways, f_Choice___init__ := (He.ma K (He.ga K "Choice") "__init__"), d_Choice___init__ := e_Choice___init__, f_Part___init__ := (He.ma K (He.ga K "Part") "__init__"), d_Part___init__ := e_Part___init__, f_Room___init__ := (He.ma K (He.ga K "Room") "__init__"), d_Room___init__ := e_Room___init__, f_are_parts := (He.ga K "are_parts"), d_are_parts := e_are_parts, f_Row___init__ := (He.ma K (He.ga K "Row") "__init__"), d_Row___init__ := e_Row___init__, f_inner_kinds := (He.ga K "inner_kinds"), d_inner_kinds := e_inner_kinds, f_called := (He.ga K "called"), d_called := e_called, f_reached := (He.ga K "reached"), d_reached := e_reached, f_missing_name := (He.ga K "missing_name"), d_missing_name := e_missing_name, f_ring_name := (He.ga K "ring_name"), d_ring_name := e_ring_name, f_call_order := (He.ga K "call_order"), d_call_order := e_call_order, f_number_lengths := (He.ga K "number_lengths"), d_number_lengths := e_number_lengths, f_Lengths___init__ := (He.ma K (He.ga K "Lengths") "__init__"), d_Lengths___init__ := e_Lengths___init__, f_Lengths_sums := (He.ma K (He.ga K "Lengths") "sums"), d_Lengths_sums := e_Lengths_sums, f_Lengths_of_kind := (He.ma K (He.ga K "Lengths") "of_kind"), d_Lengths_of_kind := e_Lengths_of_kind, f_Lengths_of_body := (He.ma K (He.ga K "Lengths") "of_body"), d_Lengths_of_body := e_Lengths_of_body, f_Lengths_of_named := (He.ma K (He.ga K "Lengths") "of_named"), d_Lengths_of_named := e_Lengths_of_named, f_Lengths_of_row := (He.ma K (He.ga K "Lengths") "of_row"), d_Lengths_of_row := e_Lengths_of_row, f_Lengths_is_long := (He.ma K (He.ga K "Lengths") "is_long"), d_Lengths_is_long := e_Lengths_is_long, f_long_body := (He.ga K "long_body"), d_long_body := e_long_body, f_Plan___init__ := (He.ma K (He.ga K "Plan") "__init__"), d_Plan___init__ := e_Plan___init__, f_are_kinds := (He.ga K "are_kinds"), d_are_kinds := e_are_kinds, f_check_parts := (He.ga K "check_parts"), d_check_parts := e_check_parts, f_is_taken := (He.ga K "is_taken"), d_is_taken := e_is_taken, f_last_taken := (He.ga K "last_taken"), d_last_taken := e_last_taken, f_check_rooms := (He.ga K "check_rooms"), d_check_rooms := e_check_rooms, f_Edition___init__ := (He.ma K (He.ga K "Edition") "__init__"), d_Edition___init__ := e_Edition___init__, f_check_most := (He.ga K "check_most"), d_check_most := e_check_most, f_way_words := (He.ga K "way_words"), d_way_words := e_way_words, f_AddWay___init__ := (He.ma K (He.ga K "AddWay") "__init__"), d_AddWay___init__ := e_AddWay___init__, f_named := (He.ga K "named"), d_named := e_named, f_way_added := (He.ga K "way_added"), d_way_added := e_way_added, f_changed_kind := (He.ga K "changed_kind"), d_changed_kind := e_changed_kind, f_taken := (He.ga K "taken"), d_taken := e_taken, f__law_start := (He.ga K "_law_start"), d__law_start := e__law_start, f__law_pull := (He.ga K "_law_pull"), d__law_pull := e__law_pull, f__law_is_int := (He.ga K "_law_is_int"), d__law_is_int := e__law_is_int, f__law_same := (He.ga K "_law_same"), d__law_same := e__law_same, f__law_name := (He.ga K "_law_name"), d__law_name := e__law_name, f__law_draw_bits := (He.ga K "_law_draw_bits"), d__law_draw_bits := e__law_draw_bits, f__law_place := (He.ga K "_law_place"), d__law_place := e__law_place, f__law_object := (He.ga K "_law_object"), d__law_object := e__law_object, f__law_ordered := (He.ga K "_law_ordered"), d__law_ordered := e__law_ordered, f__law_taken := (He.ga K "_law_taken"), d__law_taken := e__law_taken, f__law_flip := (He.ga K "_law_flip"), d__law_flip := e__law_flip, f__law_gaps := (He.ga K "_law_gaps"), d__law_gaps := e__law_gaps, f__law_draw_many_words := (He.ga K "_law_draw_many_words"), d__law_draw_many_words := e__law_draw_many_words, f__law_draw_way := (He.ga K "_law_draw_way"), d__law_draw_way := e__law_draw_way, f__law_way_reason := (He.ga K "_law_way_reason"), d__law_way_reason := e__law_way_reason, f__law_words_right := (He.ga K "_law_words_right"), d__law_words_right := e__law_words_right, f__law_later_right := (He.ga K "_law_later_right"), d__law_later_right := e__law_later_right, f_law := (He.ga K "law"), d_law := e_law, f_Edition_kinds := pgA K (He.ma K (He.ga K "Edition") "kinds"), d_Edition_kinds := e_Edition_kinds, p_Edition_kinds := (He.ma K (He.ga K "Edition") "kinds"), f_Counter___init__ := (He.ma K (He.ga K "Counter") "__init__"), d_Counter___init__ := e_Counter___init__, cd_Counter___init__ := cdA K ("Counter", some "__init__"), cc_Counter___init__ := ccA K ("Counter", some "__init__"), f_Machine___init__ := (He.ma K (He.ga K "Machine") "__init__"), d_Machine___init__ := e_Machine___init__, cd_Machine___init__ := cdA K ("Machine", some "__init__"), cc_Machine___init__ := ccA K ("Machine", some "__init__"), c_Nothing := (He.ga K "Nothing"), c_Number := (He.ga K "Number"), c_Bits := (He.ga K "Bits"), c_Call := (He.ga K "Call"), c_Items := (He.ga K "Items"), c_Way := (He.ga K "Way"), c_Door := (He.ga K "Door"), c_Choice := (He.ga K "Choice"), c_Part := (He.ga K "Part"), c_Room := (He.ga K "Room"), c_Row := (He.ga K "Row"), c_Lengths := (He.ga K "Lengths"), c_Counter := (He.ga K "Counter"), c_Machine := (He.ga K "Machine"), c_Edition := (He.ga K "Edition"), c_AddKind := (He.ga K "AddKind"), c_AddWay := (He.ga K "AddWay"), c_BadKind := (He.ga K "BadKind"), c_MissingKind := (He.ga K "MissingKind"), c_RingOfCalls := (He.ga K "RingOfCalls"), c_LongBody := (He.ga K "LongBody"), c_RoomTaken := (He.ga K "RoomTaken"), c_NoKind := (He.ga K "NoKind"), c_NoStep := (He.ga K "NoStep") }, { F_BadKind___init__ := He5.fun_of F_BadKind___init__, b_BadKind___init__ := (He5.fun_of (st := s_BadKind___init__) F_BadKind___init__).binds (ps := ["self", "part"]) fun _ _ _ _ _ _ us hl => match us, hl with | [_, _], _ => rfl, F_NoStep___init__ := He5.fun_of F_NoStep___init__, b_NoStep___init__ := (He5.fun_of (st := s_NoStep___init__) F_NoStep___init__).binds (ps := ["self", "reason"]) fun _ _ _ _ _ _ us hl => match us, hl with | [_, _], _ => rfl, k_is_integer := F_is_integer.kp, F_is_integer := He5.fun_of F_is_integer, b_is_integer := (He5.fun_of (st := s_is_integer) F_is_integer).binds (ps := ["thing"]) fun _ _ _ _ _ _ us hl => match us, hl with | [_], _ => rfl, mg_is_integer := He.glo_ok X G (c.d.fact 0 (f := .glo "is_integer") rfl), k_is_bits := F_is_bits.kp, F_is_bits := He5.fun_of F_is_bits, b_is_bits := (He5.fun_of (st := s_is_bits) F_is_bits).binds (ps := ["thing"]) fun _ _ _ _ _ _ us hl => match us, hl with | [_], _ => rfl, mg_is_bits := He.glo_ok X G (c.d.fact 1 (f := .glo "is_bits") rfl), k_is_name := F_is_name.kp, F_is_name := He5.fun_of F_is_name, b_is_name := (He5.fun_of (st := s_is_name) F_is_name).binds (ps := ["thing"]) fun _ _ _ _ _ _ us hl => match us, hl with | [_], _ => rfl, mg_is_name := He.glo_ok X G (c.d.fact 2 (f := .glo "is_name") rfl), k_is_word := F_is_word.kp, F_is_word := He5.fun_of F_is_word, b_is_word := (He5.fun_of (st := s_is_word) F_is_word).binds (ps := ["thing"]) fun _ _ _ _ _ _ us hl => match us, hl with | [_], _ => rfl, mg_is_word := He.glo_ok X G (c.d.fact 3 (f := .glo "is_word") rfl), k_begins := F_begins.kp, F_begins := He5.fun_of F_begins, b_begins := (He5.fun_of (st := s_begins) F_begins).binds (ps := ["one", "other"]) fun _ _ _ _ _ _ us hl => match us, hl with | [_, _], _ => rfl, mg_begins := He.glo_ok X G (c.d.fact 4 (f := .glo "begins") rfl), F_Nothing___eq__ := He5.fun_of F_Nothing___eq__, b_Nothing___eq__ := (He5.fun_of (st := s_Nothing___eq__) F_Nothing___eq__).binds (ps := ["self", "other"]) fun _ _ _ _ _ _ us hl => match us, hl with | [_, _], _ => rfl, m_Nothing___eq__ := (He.meth_ok (c.d.fact 5 (f := .meth "Nothing" "__eq__") rfl)).at_, i_Nothing___eq__ := (He.meth_ok (c.d.fact 5 (f := .meth "Nothing" "__eq__") rfl)).fn, k_is_width := F_is_width.kp, F_is_width := He5.fun_of F_is_width, b_is_width := (He5.fun_of (st := s_is_width) F_is_width).binds (ps := ["width", "many"]) fun _ _ _ _ _ _ us hl => match us, hl with | [_, _], _ => rfl, mg_is_width := He.glo_ok X G (c.d.fact 6 (f := .glo "is_width") rfl), F_Number___init__ := F_Number___init__, b_Number___init__ := binds_nil rfl (F_Number___init__.binds1 (ps := ["self", "low", "high", "width"]) 4 1 (by simp [dd_Number___init__, He.DefD.dvs]) (by rfl) fun _ _ _ _ _ _ _ us its hu hi => match us, its, hu, hi with | [_, _, _, _], [_], _, _ => ⟨_, rfl, rfl⟩), b1_Number___init__ := binds_non rfl (F_Number___init__.binds1 (ps := ["self", "low", "high", "width"]) 3 0 (by simp [dd_Number___init__, He.DefD.dvs]) (by rfl) fun _ _ _ _ _ _ _ us its hu hi => match us, its, hu, hi with | [_, _, _], [_], _, _ => ⟨_, rfl, rfl⟩), F_Number___eq__ := He5.fun_of F_Number___eq__, b_Number___eq__ := (He5.fun_of (st := s_Number___eq__) F_Number___eq__).binds (ps := ["self", "other"]) fun _ _ _ _ _ _ us hl => match us, hl with | [_, _], _ => rfl, m_Number___eq__ := (He.meth_ok (c.d.fact 7 (f := .meth "Number" "__eq__") rfl)).at_, i_Number___eq__ := (He.meth_ok (c.d.fact 7 (f := .meth "Number" "__eq__") rfl)).fn, F_Bits___init__ := He5.fun_of F_Bits___init__, b_Bits___init__ := (He5.fun_of (st := s_Bits___init__) F_Bits___init__).binds (ps := ["self", "many"]) fun _ _ _ _ _ _ us hl => match us, hl with | [_, _], _ => rfl, F_Bits___eq__ := He5.fun_of F_Bits___eq__, b_Bits___eq__ := (He5.fun_of (st := s_Bits___eq__) F_Bits___eq__).binds (ps := ["self", "other"]) fun _ _ _ _ _ _ us hl => match us, hl with | [_, _], _ => rfl, m_Bits___eq__ := (He.meth_ok (c.d.fact 8 (f := .meth "Bits" "__eq__") rfl)).at_, i_Bits___eq__ := (He.meth_ok (c.d.fact 8 (f := .meth "Bits" "__eq__") rfl)).fn, F_Call___init__ := He5.fun_of F_Call___init__, b_Call___init__ := (He5.fun_of (st := s_Call___init__) F_Call___init__).binds (ps := ["self", "name"]) fun _ _ _ _ _ _ us hl => match us, hl with | [_, _], _ => rfl, F_Call___eq__ := He5.fun_of F_Call___eq__, b_Call___eq__ := (He5.fun_of (st := s_Call___eq__) F_Call___eq__).binds (ps := ["self", "other"]) fun _ _ _ _ _ _ us hl => match us, hl with | [_, _], _ => rfl, m_Call___eq__ := (He.meth_ok (c.d.fact 9 (f := .meth "Call" "__eq__") rfl)).at_, i_Call___eq__ := (He.meth_ok (c.d.fact 9 (f := .meth "Call" "__eq__") rfl)).fn, F_Items___init__ := F_Items___init__, F_Items___eq__ := He5.fun_of F_Items___eq__, b_Items___eq__ := (He5.fun_of (st := s_Items___eq__) F_Items___eq__).binds (ps := ["self", "other"]) fun _ _ _ _ _ _ us hl => match us, hl with | [_, _], _ => rfl, m_Items___eq__ := (He.meth_ok (c.d.fact 10 (f := .meth "Items" "__eq__") rfl)).at_, i_Items___eq__ := (He.meth_ok (c.d.fact 10 (f := .meth "Items" "__eq__") rfl)).fn, k_is_simple := F_is_simple.kp, F_is_simple := He5.fun_of F_is_simple, b_is_simple := (He5.fun_of (st := s_is_simple) F_is_simple).binds (ps := ["thing"]) fun _ _ _ _ _ _ us hl => match us, hl with | [_], _ => rfl, mg_is_simple := He.glo_ok X G (c.d.fact 11 (f := .glo "is_simple") rfl), k_check_inner := F_check_inner.kp, F_check_inner := He5.fun_of F_check_inner, b_check_inner := (He5.fun_of (st := s_check_inner) F_check_inner).binds (ps := ["word", "name", "is_kind"]) fun _ _ _ _ _ _ us hl => match us, hl with | [_, _, _], _ => rfl, mg_check_inner := He.glo_ok X G (c.d.fact 12 (f := .glo "check_inner") rfl), F_Way___init__ := He5.fun_of F_Way___init__, b_Way___init__ := (He5.fun_of (st := s_Way___init__) F_Way___init__).binds (ps := ["self", "word", "name", "kind"]) fun _ _ _ _ _ _ us hl => match us, hl with | [_, _, _, _], _ => rfl, F_Way___eq__ := He5.fun_of F_Way___eq__, b_Way___eq__ := (He5.fun_of (st := s_Way___eq__) F_Way___eq__).binds (ps := ["self", "other"]) fun _ _ _ _ _ _ us hl => match us, hl with | [_, _], _ => rfl, F_Door___init__ := He5.fun_of F_Door___init__, b_Door___init__ := (He5.fun_of (st := s_Door___init__) F_Door___init__).binds (ps := ["self", "word", "name", "kind"]) fun _ _ _ _ _ _ us hl => match us, hl with | [_, _, _, _], _ => rfl, F_Door___eq__ := He5.fun_of F_Door___eq__, b_Door___eq__ := (He5.fun_of (st := s_Door___eq__) F_Door___eq__).binds (ps := ["self", "other"]) fun _ _ _ _ _ _ us hl => match us, hl with | [_, _], _ => rfl, k_are_ways := F_are_ways.kp, F_are_ways := He5.fun_of F_are_ways, b_are_ways := (He5.fun_of (st := s_are_ways) F_are_ways).binds (ps := ["ways"]) fun _ _ _ _ _ _ us hl => match us, hl with | [_], _ => rfl, mg_are_ways := He.glo_ok X G (c.d.fact 13 (f := .glo "are_ways") rfl), F_Choice___init__ := He5.fun_of F_Choice___init__, b_Choice___init__ := (He5.fun_of (st := s_Choice___init__) F_Choice___init__).binds (ps := ["self", "ways"]) fun _ _ _ _ _ _ us hl => match us, hl with | [_, _], _ => rfl, F_Part___init__ := He5.fun_of F_Part___init__, b_Part___init__ := (He5.fun_of (st := s_Part___init__) F_Part___init__).binds (ps := ["self", "name", "kind"]) fun _ _ _ _ _ _ us hl => match us, hl with | [_, _, _], _ => rfl, F_Room___init__ := He5.fun_of F_Room___init__, k_are_parts := F_are_parts.kp, F_are_parts := He5.fun_of F_are_parts, b_are_parts := (He5.fun_of (st := s_are_parts) F_are_parts).binds (ps := ["parts"]) fun _ _ _ _ _ _ us hl => match us, hl with | [_], _ => rfl, mg_are_parts := He.glo_ok X G (c.d.fact 14 (f := .glo "are_parts") rfl), F_Row___init__ := He5.fun_of F_Row___init__, b_Row___init__ := (He5.fun_of (st := s_Row___init__) F_Row___init__).binds (ps := ["self", "parts"]) fun _ _ _ _ _ _ us hl => match us, hl with | [_, _], _ => rfl, k_inner_kinds := F_inner_kinds.kp, F_inner_kinds := He5.fun_of F_inner_kinds, b_inner_kinds := (He5.fun_of (st := s_inner_kinds) F_inner_kinds).binds (ps := ["kind"]) fun _ _ _ _ _ _ us hl => match us, hl with | [_], _ => rfl, mg_inner_kinds := He.glo_ok X G (c.d.fact 15 (f := .glo "inner_kinds") rfl), k_called := F_called.kp, F_called := He5.fun_of F_called, b_called := (He5.fun_of (st := s_called) F_called).binds (ps := ["kind"]) fun _ _ _ _ _ _ us hl => match us, hl with | [_], _ => rfl, mg_called := He.glo_ok X G (c.d.fact 16 (f := .glo "called") rfl), k_reached := F_reached.kp, F_reached := He5.fun_of F_reached, b_reached := (He5.fun_of (st := s_reached) F_reached).binds (ps := ["table", "name"]) fun _ _ _ _ _ _ us hl => match us, hl with | [_, _], _ => rfl, mg_reached := He.glo_ok X G (c.d.fact 17 (f := .glo "reached") rfl), k_missing_name := F_missing_name.kp, F_missing_name := He5.fun_of F_missing_name, b_missing_name := (He5.fun_of (st := s_missing_name) F_missing_name).binds (ps := ["table"]) fun _ _ _ _ _ _ us hl => match us, hl with | [_], _ => rfl, mg_missing_name := He.glo_ok X G (c.d.fact 18 (f := .glo "missing_name") rfl), k_ring_name := F_ring_name.kp, F_ring_name := He5.fun_of F_ring_name, b_ring_name := (He5.fun_of (st := s_ring_name) F_ring_name).binds (ps := ["table"]) fun _ _ _ _ _ _ us hl => match us, hl with | [_], _ => rfl, mg_ring_name := He.glo_ok X G (c.d.fact 19 (f := .glo "ring_name") rfl), k_call_order := F_call_order.kp, F_call_order := He5.fun_of F_call_order, b_call_order := (He5.fun_of (st := s_call_order) F_call_order).binds (ps := ["table"]) fun _ _ _ _ _ _ us hl => match us, hl with | [_], _ => rfl, mg_call_order := He.glo_ok X G (c.d.fact 20 (f := .glo "call_order") rfl), k_number_lengths := F_number_lengths.kp, F_number_lengths := He5.fun_of F_number_lengths, b_number_lengths := (He5.fun_of (st := s_number_lengths) F_number_lengths).binds (ps := ["kind"]) fun _ _ _ _ _ _ us hl => match us, hl with | [_], _ => rfl, mg_number_lengths := He.glo_ok X G (c.d.fact 21 (f := .glo "number_lengths") rfl), F_Lengths___init__ := He5.fun_of F_Lengths___init__, b_Lengths___init__ := (He5.fun_of (st := s_Lengths___init__) F_Lengths___init__).binds (ps := ["self", "table", "count"]) fun _ _ _ _ _ _ us hl => match us, hl with | [_, _, _], _ => rfl, k_Lengths_sums := F_Lengths_sums.kp, F_Lengths_sums := He5.fun_of F_Lengths_sums, b_Lengths_sums := (He5.fun_of (st := s_Lengths_sums) F_Lengths_sums).binds (ps := ["self", "ones", "others"]) fun _ _ _ _ _ _ us hl => match us, hl with | [_, _, _], _ => rfl, m_Lengths_sums := (He.meth_ok (c.d.fact 22 (f := .meth "Lengths" "sums") rfl)).at_, i_Lengths_sums := (He.meth_ok (c.d.fact 22 (f := .meth "Lengths" "sums") rfl)).fn, k_Lengths_of_kind := F_Lengths_of_kind.kp, F_Lengths_of_kind := He5.fun_of F_Lengths_of_kind, b_Lengths_of_kind := (He5.fun_of (st := s_Lengths_of_kind) F_Lengths_of_kind).binds (ps := ["self", "kind"]) fun _ _ _ _ _ _ us hl => match us, hl with | [_, _], _ => rfl, m_Lengths_of_kind := (He.meth_ok (c.d.fact 23 (f := .meth "Lengths" "of_kind") rfl)).at_, i_Lengths_of_kind := (He.meth_ok (c.d.fact 23 (f := .meth "Lengths" "of_kind") rfl)).fn, k_Lengths_of_body := F_Lengths_of_body.kp, F_Lengths_of_body := He5.fun_of F_Lengths_of_body, b_Lengths_of_body := (He5.fun_of (st := s_Lengths_of_body) F_Lengths_of_body).binds (ps := ["self", "word", "kind"]) fun _ _ _ _ _ _ us hl => match us, hl with | [_, _, _], _ => rfl, m_Lengths_of_body := (He.meth_ok (c.d.fact 24 (f := .meth "Lengths" "of_body") rfl)).at_, i_Lengths_of_body := (He.meth_ok (c.d.fact 24 (f := .meth "Lengths" "of_body") rfl)).fn, k_Lengths_of_named := F_Lengths_of_named.kp, F_Lengths_of_named := He5.fun_of F_Lengths_of_named, b_Lengths_of_named := (He5.fun_of (st := s_Lengths_of_named) F_Lengths_of_named).binds (ps := ["self", "kind"]) fun _ _ _ _ _ _ us hl => match us, hl with | [_, _], _ => rfl, m_Lengths_of_named := (He.meth_ok (c.d.fact 25 (f := .meth "Lengths" "of_named") rfl)).at_, i_Lengths_of_named := (He.meth_ok (c.d.fact 25 (f := .meth "Lengths" "of_named") rfl)).fn, k_Lengths_of_row := F_Lengths_of_row.kp, F_Lengths_of_row := He5.fun_of F_Lengths_of_row, b_Lengths_of_row := (He5.fun_of (st := s_Lengths_of_row) F_Lengths_of_row).binds (ps := ["self", "kind"]) fun _ _ _ _ _ _ us hl => match us, hl with | [_, _], _ => rfl, m_Lengths_of_row := (He.meth_ok (c.d.fact 26 (f := .meth "Lengths" "of_row") rfl)).at_, i_Lengths_of_row := (He.meth_ok (c.d.fact 26 (f := .meth "Lengths" "of_row") rfl)).fn, k_Lengths_is_long := F_Lengths_is_long.kp, F_Lengths_is_long := He5.fun_of F_Lengths_is_long, b_Lengths_is_long := (He5.fun_of (st := s_Lengths_is_long) F_Lengths_is_long).binds (ps := ["self", "kind"]) fun _ _ _ _ _ _ us hl => match us, hl with | [_, _], _ => rfl, m_Lengths_is_long := (He.meth_ok (c.d.fact 27 (f := .meth "Lengths" "is_long") rfl)).at_, i_Lengths_is_long := (He.meth_ok (c.d.fact 27 (f := .meth "Lengths" "is_long") rfl)).fn, k_long_body := F_long_body.kp, F_long_body := He5.fun_of F_long_body, b_long_body := (He5.fun_of (st := s_long_body) F_long_body).binds (ps := ["table", "count"]) fun _ _ _ _ _ _ us hl => match us, hl with | [_, _], _ => rfl, mg_long_body := He.glo_ok X G (c.d.fact 28 (f := .glo "long_body") rfl), F_Plan___init__ := F_Plan___init__, b_Plan___init__ := binds_nil rfl (F_Plan___init__.binds1 (ps := ["self", "named", "count", "own"]) 4 1 (by simp [dd_Plan___init__, He.DefD.dvs]) (by rfl) fun _ _ _ _ _ _ _ us its hu hi => match us, its, hu, hi with | [_, _, _, _], [_], _, _ => ⟨_, rfl, rfl⟩), k_are_kinds := F_are_kinds.kp, F_are_kinds := He5.fun_of F_are_kinds, b_are_kinds := (He5.fun_of (st := s_are_kinds) F_are_kinds).binds (ps := ["kinds"]) fun _ _ _ _ _ _ us hl => match us, hl with | [_], _ => rfl, mg_are_kinds := He.glo_ok X G (c.d.fact 29 (f := .glo "are_kinds") rfl), k_check_parts := F_check_parts.kp, F_check_parts := He5.fun_of F_check_parts, b_check_parts := (He5.fun_of (st := s_check_parts) F_check_parts).binds (ps := ["kinds", "root", "count"]) fun _ _ _ _ _ _ us hl => match us, hl with | [_, _, _], _ => rfl, mg_check_parts := He.glo_ok X G (c.d.fact 30 (f := .glo "check_parts") rfl), k_is_taken := F_is_taken.kp, b_is_taken := (He5.fun_of (st := s_is_taken) F_is_taken).binds (ps := ["machine", "name", "index"]) fun _ _ _ _ _ _ us hl => match us, hl with | [_, _, _], _ => rfl, mg_is_taken := He.glo_ok X G (c.d.fact 31 (f := .glo "is_taken") rfl), k_last_taken := F_last_taken.kp, F_last_taken := He5.fun_of F_last_taken, b_last_taken := (He5.fun_of (st := s_last_taken) F_last_taken).binds (ps := ["machine", "name"]) fun _ _ _ _ _ _ us hl => match us, hl with | [_, _], _ => rfl, mg_last_taken := He.glo_ok X G (c.d.fact 32 (f := .glo "last_taken") rfl), k_check_rooms := F_check_rooms.kp, F_check_rooms := He5.fun_of F_check_rooms, b_check_rooms := (He5.fun_of (st := s_check_rooms) F_check_rooms).binds (ps := ["machine"]) fun _ _ _ _ _ _ us hl => match us, hl with | [_], _ => rfl, mg_check_rooms := He.glo_ok X G (c.d.fact 33 (f := .glo "check_rooms") rfl), F_Edition___init__ := He5.fun_of F_Edition___init__, b_Edition___init__ := (He5.fun_of (st := s_Edition___init__) F_Edition___init__).binds (ps := ["self", "kinds", "root", "count"]) fun _ _ _ _ _ _ us hl => match us, hl with | [_, _, _, _], _ => rfl, k_check_most := F_check_most.kp, F_check_most := He5.fun_of F_check_most, b_check_most := (He5.fun_of (st := s_check_most) F_check_most).binds (ps := ["most"]) fun _ _ _ _ _ _ us hl => match us, hl with | [_], _ => rfl, mg_check_most := He.glo_ok X G (c.d.fact 34 (f := .glo "check_most") rfl), k_way_words := F_way_words.kp, F_way_words := He5.fun_of F_way_words, b_way_words := (He5.fun_of (st := s_way_words) F_way_words).binds (ps := ["edition", "name", "most"]) fun _ _ _ _ _ _ us hl => match us, hl with | [_, _, _], _ => rfl, mg_way_words := He.glo_ok X G (c.d.fact 35 (f := .glo "way_words") rfl), F_AddWay___init__ := He5.fun_of F_AddWay___init__, b_AddWay___init__ := (He5.fun_of (st := s_AddWay___init__) F_AddWay___init__).binds (ps := ["self", "name", "way"]) fun _ _ _ _ _ _ us hl => match us, hl with | [_, _, _], _ => rfl, k_named := F_named.kp, F_named := He5.fun_of F_named, b_named := (He5.fun_of (st := s_named) F_named).binds (ps := ["table", "name"]) fun _ _ _ _ _ _ us hl => match us, hl with | [_, _], _ => rfl, mg_named := He.glo_ok X G (c.d.fact 36 (f := .glo "named") rfl), k_way_added := F_way_added.kp, F_way_added := He5.fun_of F_way_added, b_way_added := (He5.fun_of (st := s_way_added) F_way_added).binds (ps := ["table", "step"]) fun _ _ _ _ _ _ us hl => match us, hl with | [_, _], _ => rfl, mg_way_added := He.glo_ok X G (c.d.fact 37 (f := .glo "way_added") rfl), k_changed_kind := F_changed_kind.kp, F_changed_kind := He5.fun_of F_changed_kind, b_changed_kind := (He5.fun_of (st := s_changed_kind) F_changed_kind).binds (ps := ["table", "step"]) fun _ _ _ _ _ _ us hl => match us, hl with | [_, _], _ => rfl, mg_changed_kind := He.glo_ok X G (c.d.fact 38 (f := .glo "changed_kind") rfl), k_taken := F_taken.kp, F_taken := He5.fun_of F_taken, b_taken := (He5.fun_of (st := s_taken) F_taken).binds (ps := ["edition", "step"]) fun _ _ _ _ _ _ us hl => match us, hl with | [_, _], _ => rfl, mg_taken := He.glo_ok X G (c.d.fact 39 (f := .glo "taken") rfl), k__law_start := F__law_start.kp, F__law_start := He5.fun_of F__law_start, b__law_start := (He5.fun_of (st := s__law_start) F__law_start).binds (ps := ["script"]) fun _ _ _ _ _ _ us hl => match us, hl with | [_], _ => rfl, mg__law_start := He.glo_ok X G (c.d.fact 40 (f := .glo "_law_start") rfl), k__law_pull := F__law_pull.kp, F__law_pull := He5.fun_of F__law_pull, b__law_pull := (He5.fun_of (st := s__law_pull) F__law_pull).binds (ps := ["state", "many"]) fun _ _ _ _ _ _ us hl => match us, hl with | [_, _], _ => rfl, mg__law_pull := He.glo_ok X G (c.d.fact 41 (f := .glo "_law_pull") rfl), k__law_is_int := F__law_is_int.kp, F__law_is_int := He5.fun_of F__law_is_int, b__law_is_int := (He5.fun_of (st := s__law_is_int) F__law_is_int).binds (ps := ["told"]) fun _ _ _ _ _ _ us hl => match us, hl with | [_], _ => rfl, mg__law_is_int := He.glo_ok X G (c.d.fact 42 (f := .glo "_law_is_int") rfl), k__law_same := F__law_same.kp, F__law_same := He5.fun_of F__law_same, b__law_same := (He5.fun_of (st := s__law_same) F__law_same).binds (ps := ["told", "due"]) fun _ _ _ _ _ _ us hl => match us, hl with | [_, _], _ => rfl, mg__law_same := He.glo_ok X G (c.d.fact 43 (f := .glo "_law_same") rfl), k__law_name := F__law_name.kp, F__law_name := He5.fun_of F__law_name, b__law_name := (He5.fun_of (st := s__law_name) F__law_name).binds (ps := ["state", "used"]) fun _ _ _ _ _ _ us hl => match us, hl with | [_, _], _ => rfl, mg__law_name := He.glo_ok X G (c.d.fact 44 (f := .glo "_law_name") rfl), k__law_draw_bits := F__law_draw_bits.kp, F__law_draw_bits := He5.fun_of F__law_draw_bits, b__law_draw_bits := (He5.fun_of (st := s__law_draw_bits) F__law_draw_bits).binds (ps := ["state", "many"]) fun _ _ _ _ _ _ us hl => match us, hl with | [_, _], _ => rfl, mg__law_draw_bits := He.glo_ok X G (c.d.fact 45 (f := .glo "_law_draw_bits") rfl), k__law_place := F__law_place.kp, F__law_place := He5.fun_of F__law_place, b__law_place := (He5.fun_of (st := s__law_place) F__law_place).binds (ps := ["place"]) fun _ _ _ _ _ _ us hl => match us, hl with | [_], _ => rfl, mg__law_place := He.glo_ok X G (c.d.fact 46 (f := .glo "_law_place") rfl), k__law_object := F__law_object.kp, F__law_object := He5.fun_of F__law_object, b__law_object := (He5.fun_of (st := s__law_object) F__law_object).binds (ps := ["kind"]) fun _ _ _ _ _ _ us hl => match us, hl with | [_], _ => rfl, mg__law_object := He.glo_ok X G (c.d.fact 47 (f := .glo "_law_object") rfl), k__law_ordered := F__law_ordered.kp, F__law_ordered := He5.fun_of F__law_ordered, b__law_ordered := (He5.fun_of (st := s__law_ordered) F__law_ordered).binds (ps := ["rows"]) fun _ _ _ _ _ _ us hl => match us, hl with | [_], _ => rfl, mg__law_ordered := He.glo_ok X G (c.d.fact 48 (f := .glo "_law_ordered") rfl), k__law_taken := F__law_taken.kp, F__law_taken := He5.fun_of F__law_taken, b__law_taken := (He5.fun_of (st := s__law_taken) F__law_taken).binds (ps := ["edition", "step"]) fun _ _ _ _ _ _ us hl => match us, hl with | [_, _], _ => rfl, mg__law_taken := He.glo_ok X G (c.d.fact 49 (f := .glo "_law_taken") rfl), k__law_flip := F__law_flip.kp, F__law_flip := He5.fun_of F__law_flip, b__law_flip := (He5.fun_of (st := s__law_flip) F__law_flip).binds (ps := ["bit"]) fun _ _ _ _ _ _ us hl => match us, hl with | [_], _ => rfl, mg__law_flip := He.glo_ok X G (c.d.fact 50 (f := .glo "_law_flip") rfl), k__law_gaps := F__law_gaps.kp, F__law_gaps := He5.fun_of F__law_gaps, b__law_gaps := (He5.fun_of (st := s__law_gaps) F__law_gaps).binds (ps := ["words"]) fun _ _ _ _ _ _ us hl => match us, hl with | [_], _ => rfl, mg__law_gaps := He.glo_ok X G (c.d.fact 51 (f := .glo "_law_gaps") rfl), k__law_draw_many_words := F__law_draw_many_words.kp, F__law_draw_many_words := He5.fun_of F__law_draw_many_words, b__law_draw_many_words := (He5.fun_of (st := s__law_draw_many_words) F__law_draw_many_words).binds (ps := ["state"]) fun _ _ _ _ _ _ us hl => match us, hl with | [_], _ => rfl, mg__law_draw_many_words := He.glo_ok X G (c.d.fact 52 (f := .glo "_law_draw_many_words") rfl), k__law_draw_way := F__law_draw_way.kp, F__law_draw_way := He5.fun_of F__law_draw_way, b__law_draw_way := (He5.fun_of (st := s__law_draw_way) F__law_draw_way).binds (ps := ["state", "words", "used"]) fun _ _ _ _ _ _ us hl => match us, hl with | [_, _, _], _ => rfl, mg__law_draw_way := He.glo_ok X G (c.d.fact 53 (f := .glo "_law_draw_way") rfl), k__law_way_reason := F__law_way_reason.kp, F__law_way_reason := He5.fun_of F__law_way_reason, b__law_way_reason := (He5.fun_of (st := s__law_way_reason) F__law_way_reason).binds (ps := ["ways", "way"]) fun _ _ _ _ _ _ us hl => match us, hl with | [_, _], _ => rfl, mg__law_way_reason := He.glo_ok X G (c.d.fact 54 (f := .glo "_law_way_reason") rfl), k__law_words_right := F__law_words_right.kp, F__law_words_right := He5.fun_of F__law_words_right, b__law_words_right := (He5.fun_of (st := s__law_words_right) F__law_words_right).binds (ps := ["edition", "name", "ways", "most"]) fun _ _ _ _ _ _ us hl => match us, hl with | [_, _, _, _], _ => rfl, mg__law_words_right := He.glo_ok X G (c.d.fact 55 (f := .glo "_law_words_right") rfl), k__law_later_right := F__law_later_right.kp, F__law_later_right := He5.fun_of F__law_later_right, b__law_later_right := (He5.fun_of (st := s__law_later_right) F__law_later_right).binds (ps := ["edition", "later", "name", "ways"]) fun _ _ _ _ _ _ us hl => match us, hl with | [_, _, _, _], _ => rfl, mg__law_later_right := He.glo_ok X G (c.d.fact 56 (f := .glo "_law_later_right") rfl), k_law := F_law.kp, F_law := He5.fun_of F_law, b_law := (He5.fun_of (st := s_law) F_law).binds (ps := ["script"]) fun _ _ _ _ _ _ us hl => match us, hl with | [_], _ => rfl, F_Edition_kinds := He5.fun_of F_Edition_kinds, b_Edition_kinds := (He5.fun_of (st := s_Edition_kinds) F_Edition_kinds).binds (ps := ["self"]) fun _ _ _ _ _ _ us hl => match us, hl with | [_], _ => rfl, pr_Edition_kinds := propB_ok (c.at 0 (f := fun K => propB K (He.ga K "Edition") "kinds" (He.ma K (He.ga K "Edition") "kinds") (pgA K (He.ma K (He.ga K "Edition") "kinds"))) rfl), F_Counter___init__ := F_Counter___init__, sn_Counter___init__ := supNB_ok (c.at 1 (f := fun K => supNB K (cdA K ("Counter", some "__init__")) (ccA K ("Counter", some "__init__")) (He.ga K "Counter") supFile) rfl), b_Counter___init__ := binds_nil rfl (F_Counter___init__.binds1 (ps := ["self", "named", "count", "own"]) 4 1 (by simp [dc_Counter___init__, CloD.dvs]) (by rfl) fun _ _ _ _ _ _ us its hu hi => match us, its, hu, hi with | [_, _, _, _], [_], _, _ => ⟨_, rfl, rfl⟩), F_Machine___init__ := F_Machine___init__, sn_Machine___init__ := supNB_ok (c.at 2 (f := fun K => supNB K (cdA K ("Machine", some "__init__")) (ccA K ("Machine", some "__init__")) (He.ga K "Machine") supFile) rfl), b1_Machine___init__ := binds_bl rfl (F_Machine___init__.binds1 (ps := ["self", "named", "count", "own"]) 3 0 (by simp [dc_Machine___init__, CloD.dvs]) (by rfl) fun _ _ _ _ _ _ us its hu hi => match us, its, hu, hi with | [_, _, _], [_], _, _ => ⟨_, rfl, rfl⟩), su_Counter___init___Machine := supCB_ok (c.at 3 (f := fun K => supCB K (He.ga K "Machine") (He.ga K "Counter") (He.ma K (He.ga K "Plan") "__init__")) rfl), sf_Counter___init__ := (c.at 4 (f := fun K => PySem.W.fnIn K (He.ma K (He.ga K "Plan") "__init__")) rfl), st_Counter___init__ := of_decide_eq_true (c.at 5 (f := fun K => decide (PySem.W.typeIn K (.ref (He.ma K (He.ga K "Plan") "__init__")) = some (.type "function"))) rfl), su_Machine___init___Machine := supCB_ok (c.at 6 (f := fun K => supCB K (He.ga K "Machine") (He.ga K "Machine") (He.ma K (He.ga K "Counter") "__init__")) rfl), sf_Machine___init__ := (c.at 7 (f := fun K => PySem.W.fnIn K (He.ma K (He.ga K "Counter") "__init__")) rfl), st_Machine___init__ := of_decide_eq_true (c.at 8 (f := fun K => decide (PySem.W.typeIn K (.ref (He.ma K (He.ga K "Counter") "__init__")) = some (.type "function"))) rfl), mg_Nothing := He.glo_ok X G (c.d.fact 57 (f := .glo "Nothing") rfl), mo_Nothing := (c.at 9 (f := fun K => PySem.W.makesIn K (He.ga K "Nothing")) rfl), io_Nothing := He.eqO_ok (c.at 10 (f := fun K => He.eqO (PySem.W.findIn K (.ref (He.ga K "Nothing")) "__init__") (some (some (.builtin "object.__init__")))) rfl), kc_Nothing := He.keep_ok (c.d.fact 58 (f := .keep "Nothing") rfl), o_Nothing := clsB_ok (c.at 11 (f := fun K => clsB K (He.ga K "Nothing") "Nothing") rfl), isc_Nothing := iscB_ok (c.at 12 (f := fun K => iscB K (He.ga K "Nothing")) rfl) (He.cls_ok (c.d.fact 59 (f := .cls "Nothing") rfl)) (c.at 13 (f := fun K => gnB K) rfl), mg_Number := He.glo_ok X G (c.d.fact 60 (f := .glo "Number") rfl), cl_Number := He.cls_ok (c.d.fact 61 (f := .cls "Number") rfl), mk_Number := He.mkr_ok (c.d.fact 62 (f := .mkr "Number") rfl), o_Number := clsB_ok (c.at 14 (f := fun K => clsB K (He.ga K "Number") "Number") rfl), n_Number_low := He.noat_ok (c.d.fact 63 (f := .noat "Number" "low") rfl), n_Number_high := He.noat_ok (c.d.fact 64 (f := .noat "Number" "high") rfl), n_Number_width := He.noat_ok (c.d.fact 65 (f := .noat "Number" "width") rfl), isc_Number := iscB_ok (c.at 15 (f := fun K => iscB K (He.ga K "Number")) rfl) (He.cls_ok (c.d.fact 61 (f := .cls "Number") rfl)) (c.at 13 (f := fun K => gnB K) rfl), mg_Bits := He.glo_ok X G (c.d.fact 66 (f := .glo "Bits") rfl), cl_Bits := He.cls_ok (c.d.fact 67 (f := .cls "Bits") rfl), mk_Bits := He.mkr_ok (c.d.fact 68 (f := .mkr "Bits") rfl), o_Bits := clsB_ok (c.at 16 (f := fun K => clsB K (He.ga K "Bits") "Bits") rfl), n_Bits_many := He.noat_ok (c.d.fact 69 (f := .noat "Bits" "many") rfl), isc_Bits := iscB_ok (c.at 17 (f := fun K => iscB K (He.ga K "Bits")) rfl) (He.cls_ok (c.d.fact 67 (f := .cls "Bits") rfl)) (c.at 13 (f := fun K => gnB K) rfl), mg_Call := He.glo_ok X G (c.d.fact 70 (f := .glo "Call") rfl), cl_Call := He.cls_ok (c.d.fact 71 (f := .cls "Call") rfl), mk_Call := He.mkr_ok (c.d.fact 72 (f := .mkr "Call") rfl), o_Call := clsB_ok (c.at 18 (f := fun K => clsB K (He.ga K "Call") "Call") rfl), n_Call_name := He.noat_ok (c.d.fact 73 (f := .noat "Call" "name") rfl), isc_Call := iscB_ok (c.at 19 (f := fun K => iscB K (He.ga K "Call")) rfl) (He.cls_ok (c.d.fact 71 (f := .cls "Call") rfl)) (c.at 13 (f := fun K => gnB K) rfl), mg_Items := He.glo_ok X G (c.d.fact 74 (f := .glo "Items") rfl), cl_Items := He.cls_ok (c.d.fact 75 (f := .cls "Items") rfl), o_Items := clsB_ok (c.at 20 (f := fun K => clsB K (He.ga K "Items") "Items") rfl), n_Items_item := He.noat_ok (c.d.fact 76 (f := .noat "Items" "item") rfl), n_Items_width := He.noat_ok (c.d.fact 77 (f := .noat "Items" "width") rfl), isc_Items := iscB_ok (c.at 21 (f := fun K => iscB K (He.ga K "Items")) rfl) (He.cls_ok (c.d.fact 75 (f := .cls "Items") rfl)) (c.at 13 (f := fun K => gnB K) rfl), mg_Way := He.glo_ok X G (c.d.fact 78 (f := .glo "Way") rfl), cl_Way := He.cls_ok (c.d.fact 79 (f := .cls "Way") rfl), mk_Way := He.mkr_ok (c.d.fact 80 (f := .mkr "Way") rfl), o_Way := clsB_ok (c.at 22 (f := fun K => clsB K (He.ga K "Way") "Way") rfl), n_Way_word := He.noat_ok (c.d.fact 81 (f := .noat "Way" "word") rfl), n_Way_name := He.noat_ok (c.d.fact 82 (f := .noat "Way" "name") rfl), n_Way_kind := He.noat_ok (c.d.fact 83 (f := .noat "Way" "kind") rfl), isc_Way := iscB_ok (c.at 23 (f := fun K => iscB K (He.ga K "Way")) rfl) (He.cls_ok (c.d.fact 79 (f := .cls "Way") rfl)) (c.at 13 (f := fun K => gnB K) rfl), eq_Way := eqB_ok (c.at 24 (f := fun K => eqB K (He.ga K "Way") (He.ma K (He.ga K "Way") "__eq__")) rfl), mg_Door := He.glo_ok X G (c.d.fact 84 (f := .glo "Door") rfl), cl_Door := He.cls_ok (c.d.fact 85 (f := .cls "Door") rfl), mk_Door := He.mkr_ok (c.d.fact 86 (f := .mkr "Door") rfl), o_Door := clsB_ok (c.at 25 (f := fun K => clsB K (He.ga K "Door") "Door") rfl), n_Door_word := He.noat_ok (c.d.fact 87 (f := .noat "Door" "word") rfl), n_Door_name := He.noat_ok (c.d.fact 88 (f := .noat "Door" "name") rfl), n_Door_kind := He.noat_ok (c.d.fact 89 (f := .noat "Door" "kind") rfl), isc_Door := iscB_ok (c.at 26 (f := fun K => iscB K (He.ga K "Door")) rfl) (He.cls_ok (c.d.fact 85 (f := .cls "Door") rfl)) (c.at 13 (f := fun K => gnB K) rfl), eq_Door := eqB_ok (c.at 27 (f := fun K => eqB K (He.ga K "Door") (He.ma K (He.ga K "Door") "__eq__")) rfl), mg_Choice := He.glo_ok X G (c.d.fact 90 (f := .glo "Choice") rfl), cl_Choice := He.cls_ok (c.d.fact 91 (f := .cls "Choice") rfl), mk_Choice := He.mkr_ok (c.d.fact 92 (f := .mkr "Choice") rfl), o_Choice := clsB_ok (c.at 28 (f := fun K => clsB K (He.ga K "Choice") "Choice") rfl), n_Choice_ways := He.noat_ok (c.d.fact 93 (f := .noat "Choice" "ways") rfl), isc_Choice := iscB_ok (c.at 29 (f := fun K => iscB K (He.ga K "Choice")) rfl) (He.cls_ok (c.d.fact 91 (f := .cls "Choice") rfl)) (c.at 13 (f := fun K => gnB K) rfl), mg_Part := He.glo_ok X G (c.d.fact 94 (f := .glo "Part") rfl), cl_Part := He.cls_ok (c.d.fact 95 (f := .cls "Part") rfl), mk_Part := He.mkr_ok (c.d.fact 96 (f := .mkr "Part") rfl), o_Part := clsB_ok (c.at 30 (f := fun K => clsB K (He.ga K "Part") "Part") rfl), n_Part_name := He.noat_ok (c.d.fact 97 (f := .noat "Part" "name") rfl), n_Part_kind := He.noat_ok (c.d.fact 98 (f := .noat "Part" "kind") rfl), isc_Part := iscB_ok (c.at 31 (f := fun K => iscB K (He.ga K "Part")) rfl) (He.cls_ok (c.d.fact 95 (f := .cls "Part") rfl)) (c.at 13 (f := fun K => gnB K) rfl), mg_Room := He.glo_ok X G (c.d.fact 99 (f := .glo "Room") rfl), cl_Room := He.cls_ok (c.d.fact 100 (f := .cls "Room") rfl), o_Room := clsB_ok (c.at 32 (f := fun K => clsB K (He.ga K "Room") "Room") rfl), n_Room_word := He.noat_ok (c.d.fact 101 (f := .noat "Room" "word") rfl), n_Room_name := He.noat_ok (c.d.fact 102 (f := .noat "Room" "name") rfl), n_Room_kind := He.noat_ok (c.d.fact 103 (f := .noat "Room" "kind") rfl), isc_Room := iscB_ok (c.at 33 (f := fun K => iscB K (He.ga K "Room")) rfl) (He.cls_ok (c.d.fact 100 (f := .cls "Room") rfl)) (c.at 13 (f := fun K => gnB K) rfl), mg_Row := He.glo_ok X G (c.d.fact 104 (f := .glo "Row") rfl), cl_Row := He.cls_ok (c.d.fact 105 (f := .cls "Row") rfl), mk_Row := He.mkr_ok (c.d.fact 106 (f := .mkr "Row") rfl), o_Row := clsB_ok (c.at 34 (f := fun K => clsB K (He.ga K "Row") "Row") rfl), n_Row_parts := He.noat_ok (c.d.fact 107 (f := .noat "Row" "parts") rfl), isc_Row := iscB_ok (c.at 35 (f := fun K => iscB K (He.ga K "Row")) rfl) (He.cls_ok (c.d.fact 105 (f := .cls "Row") rfl)) (c.at 13 (f := fun K => gnB K) rfl), mg_Lengths := He.glo_ok X G (c.d.fact 108 (f := .glo "Lengths") rfl), cl_Lengths := He.cls_ok (c.d.fact 109 (f := .cls "Lengths") rfl), mk_Lengths := He.mkr_ok (c.d.fact 110 (f := .mkr "Lengths") rfl), n_Lengths_count := He.noat_ok (c.d.fact 111 (f := .noat "Lengths" "count") rfl), n_Lengths_top := He.noat_ok (c.d.fact 112 (f := .noat "Lengths" "top") rfl), n_Lengths_known := He.noat_ok (c.d.fact 113 (f := .noat "Lengths" "known") rfl), mg_Machine := He.glo_ok X G (c.d.fact 114 (f := .glo "Machine") rfl), cl_Machine := He.cls_ok (c.d.fact 115 (f := .cls "Machine") rfl), mk_Machine := He.mkr_ok (c.d.fact 116 (f := .mkr "Machine") rfl), n_Machine_named := He.noat_ok (c.d.fact 117 (f := .noat "Machine" "named") rfl), n_Machine_count := He.noat_ok (c.d.fact 118 (f := .noat "Machine" "count") rfl), n_Machine_own := He.noat_ok (c.d.fact 119 (f := .noat "Machine" "own") rfl), n_Machine_most := He.noat_ok (c.d.fact 120 (f := .noat "Machine" "most") rfl), n_Machine_forms := He.noat_ok (c.d.fact 121 (f := .noat "Machine" "forms") rfl), n_Machine_places := He.noat_ok (c.d.fact 122 (f := .noat "Machine" "places") rfl), n_Machine_nodes := He.noat_ok (c.d.fact 123 (f := .noat "Machine" "nodes") rfl), n_Machine_numbers := He.noat_ok (c.d.fact 124 (f := .noat "Machine" "numbers") rfl), n_Machine_counted := He.noat_ok (c.d.fact 125 (f := .noat "Machine" "counted") rfl), n_Machine_rows := He.noat_ok (c.d.fact 126 (f := .noat "Machine" "rows") rfl), n_Machine_repeated := He.noat_ok (c.d.fact 127 (f := .noat "Machine" "repeated") rfl), n_Machine_lacks := He.noat_ok (c.d.fact 128 (f := .noat "Machine" "lacks") rfl), n_Machine_gone := He.noat_ok (c.d.fact 129 (f := .noat "Machine" "gone") rfl), n_Machine_moved := He.noat_ok (c.d.fact 130 (f := .noat "Machine" "moved") rfl), n_Machine_tuples := He.noat_ok (c.d.fact 131 (f := .noat "Machine" "tuples") rfl), n_Machine_states := He.noat_ok (c.d.fact 132 (f := .noat "Machine" "states") rfl), mg_Edition := He.glo_ok X G (c.d.fact 133 (f := .glo "Edition") rfl), cl_Edition := He.cls_ok (c.d.fact 134 (f := .cls "Edition") rfl), mk_Edition := He.mkr_ok (c.d.fact 135 (f := .mkr "Edition") rfl), n_Edition_table := He.noat_ok (c.d.fact 136 (f := .noat "Edition" "table") rfl), n_Edition_root := He.noat_ok (c.d.fact 137 (f := .noat "Edition" "root") rfl), n_Edition_count := He.noat_ok (c.d.fact 138 (f := .noat "Edition" "count") rfl), n_Edition_machine := He.noat_ok (c.d.fact 139 (f := .noat "Edition" "machine") rfl), n_Edition_own_machine := He.noat_ok (c.d.fact 140 (f := .noat "Edition" "own_machine") rfl), mg_AddKind := He.glo_ok X G (c.d.fact 141 (f := .glo "AddKind") rfl), o_AddKind := clsB_ok (c.at 36 (f := fun K => clsB K (He.ga K "AddKind") "AddKind") rfl), mg_AddWay := He.glo_ok X G (c.d.fact 142 (f := .glo "AddWay") rfl), cl_AddWay := He.cls_ok (c.d.fact 143 (f := .cls "AddWay") rfl), mk_AddWay := He.mkr_ok (c.d.fact 144 (f := .mkr "AddWay") rfl), o_AddWay := clsB_ok (c.at 37 (f := fun K => clsB K (He.ga K "AddWay") "AddWay") rfl), n_AddWay_name := He.noat_ok (c.d.fact 145 (f := .noat "AddWay" "name") rfl), n_AddWay_way := He.noat_ok (c.d.fact 146 (f := .noat "AddWay" "way") rfl), isc_AddWay := iscB_ok (c.at 38 (f := fun K => iscB K (He.ga K "AddWay")) rfl) (He.cls_ok (c.d.fact 143 (f := .cls "AddWay") rfl)) (c.at 13 (f := fun K => gnB K) rfl), mg_BadKind := He.glo_ok X G (c.d.fact 147 (f := .glo "BadKind") rfl), oex_BadKind := oexB_ok (c.at 39 (f := fun K => oexB K (He.ga K "BadKind") [He.ga K "RoomError"]) rfl), ix_BadKind := He.eqO_ok (c.at 40 (f := fun K => He.eqO (PySem.W.findIn K (.ref (He.ga K "BadKind")) "__init__") (some (some (.ref (He.ma K (He.ga K "BadKind") "__init__"))))) rfl), tx_BadKind := of_decide_eq_true (c.at 41 (f := fun K => decide (PySem.W.typeIn K (.ref (He.ma K (He.ga K "BadKind") "__init__")) = some (.type "function"))) rfl), nx_BadKind_part := He.noat_ok (c.d.fact 148 (f := .noat "BadKind" "part") rfl), mg_MissingKind := He.glo_ok X G (c.d.fact 149 (f := .glo "MissingKind") rfl), mg_RingOfCalls := He.glo_ok X G (c.d.fact 150 (f := .glo "RingOfCalls") rfl), mg_LongBody := He.glo_ok X G (c.d.fact 151 (f := .glo "LongBody") rfl), mg_RoomTaken := He.glo_ok X G (c.d.fact 152 (f := .glo "RoomTaken") rfl), mg_NoStep := He.glo_ok X G (c.d.fact 153 (f := .glo "NoStep") rfl), te_NoStep := He.exm_ok (c.d.fact 154 (f := .exm "NoStep" "NoStep" true) rfl), oex_NoStep := oexB_ok (c.at 42 (f := fun K => oexB K (He.ga K "NoStep") [He.ga K "RoomError"]) rfl), xf_NoStep := xfB_ok (c.at 43 (f := fun K => xfB K (He.ga K "NoStep")) rfl), ix_NoStep := He.eqO_ok (c.at 44 (f := fun K => He.eqO (PySem.W.findIn K (.ref (He.ga K "NoStep")) "__init__") (some (some (.ref (He.ma K (He.ga K "NoStep") "__init__"))))) rfl), tx_NoStep := of_decide_eq_true (c.at 45 (f := fun K => decide (PySem.W.typeIn K (.ref (He.ma K (He.ga K "NoStep") "__init__")) = some (.type "function"))) rfl), nx_NoStep_reason := He.noat_ok (c.d.fact 155 (f := .noat "NoStep" "reason") rfl), b_all := He.free_ok X G (c.d.fact 156 (f := .free "all") rfl), b_any := He.free_ok X G (c.d.fact 157 (f := .free "any") rfl), b_bool := He.free_ok X G (c.d.fact 158 (f := .free "bool") rfl), b_dict := He.free_ok X G (c.d.fact 159 (f := .free "dict") rfl), b_enumerate := He.free_ok X G (c.d.fact 160 (f := .free "enumerate") rfl), b_int := He.free_ok X G (c.d.fact 161 (f := .free "int") rfl), b_isinstance := He.free_ok X G (c.d.fact 162 (f := .free "isinstance") rfl), b_len := He.free_ok X G (c.d.fact 163 (f := .free "len") rfl), b_list := He.free_ok X G (c.d.fact 164 (f := .free "list") rfl), b_min := He.free_ok X G (c.d.fact 165 (f := .free "min") rfl), b_range := He.free_ok X G (c.d.fact 166 (f := .free "range") rfl), b_sorted := He.free_ok X G (c.d.fact 167 (f := .free "sorted") rfl), b_str := He.free_ok X G (c.d.fact 168 (f := .free "str") rfl), b_tuple := He.free_ok X G (c.d.fact 169 (f := .free "tuple") rfl), mg_LETTERS := (match He.str_ok X G (c.d.fact 170 (f := .str "LETTERS" "abcdefghijklmnopqrstuvwxyz") rfl) with | ⟨_, e⟩ => ⟨_, e, ⟨_, rfl⟩⟩) }, He.glo_ok X G (c.d.fact 171 (f := .glo "law") rfl), fun s v => (FunD.bindsA (ps := ["script"]) F_law fun _ _ _ _ _ _ us hl => match us, hl with | [_], _ => rfl) s [v] rfl⟩
end My

open PySem PySem.W PySem.Calls PyProof.Rows in
set_option maxRecDepth 100000 in
set_option maxHeartbeats 0 in
theorem PySem.Challenge.cw_roomleft_k41_words_of_further_ways_holds : PySem.Challenge.rw_roomleft_k41_words_of_further_ways.Holds := by
  w_on; o_law
  refine HandSHeadRun.head_any (r := OpenLaw.row PySem.Challenge.rw_roomleft_k41_words_of_further_ways) (q := view (OpenLaw.row PySem.Challenge.rw_roomleft_k41_words_of_further_ways).prog [106]) (H := My.hk) (ob := My.ob) (M := 20000) (loose := My.names) (d := HandSHeadRun.topDef (OpenLaw.row PySem.Challenge.rw_roomleft_k41_words_of_further_ways).prog 106) (kwd := []) My.ob_eq (by kernel_rfl) (fun s => by kernel_rfl) My.run (by kernel_rfl) (by kernel_rfl) (by kernel_rfl) (by rfl) (by first | assumption | decide +kernel) (by decide +kernel) ⟨rfl, rfl, rfl, rfl, rfl, by decide +kernel⟩ ?hw ?hc
  case hw => w_witness2
  case hc =>
    refine L2.walk_ofE (l := PySem.Challenge.rw_roomleft_k41_words_of_further_ways) (n := 63) (k := 13) (x := "script") (CX := L2.CX0) rfl (by decide) (by kernel_rfl) ⟨rfl, by decide, by decide⟩ ?F (fun _ _ _ _ z => z)
    intro w mg fa h Y G hm0
    obtain ⟨K, KX, c⟩ := Y
    have hm : mg ("law" : PySem.Str) = some (.ref fa) := by
      rw [← show (HandSHeadRun.topDef (OpenLaw.row PySem.Challenge.rw_roomleft_k41_words_of_further_ways).prog 106).name = ("law" : PySem.Str) from by kernel_rfl]
      exact hm0
    obtain ⟨A, T, e, b⟩ := My.txt_of KX G c
    have e2 := hm.symm.trans e
    cases e2
    exact ⟨K, A.d_law, My.sp_law0 K, KX, b, fun H a ns hl _ hS => ⟨_, rfl, a, ns, rfl, hS, hl, fun _ => rfl⟩, fun base _ _ => My.ok_law T⟩
#print axioms PySem.Challenge.cw_roomleft_k41_words_of_further_ways_holds
