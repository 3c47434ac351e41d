import PyProof.Rows.All
import Wide.All
import OpenK.AllK
import Wide.FinOn
import HandS.ForMost
import HandS.Wide
import HandS.TupAny
import HandS.IsInst
import HandS.OwnEq
import HandS.MakeKwOnly
import HandS.Evl
import HandS.Codes
import PyProof.InstNe
import KE.DataEq
import HandS.ExcInit
import HandS.ExcField
import HandS.ExcOwn
import HandS.Exc
import HandS.Defaults
import HandS.WordsExc
import HandS.CallSlots
import HandS.TryOnly
import HandS.WideBits
import HandS.Text
import HandS.Walk
import HandS.Iter
import HandS.Zip
import KE.GoesMore
import PyProof.EnumMake
import PyProof.Draws
import HandS.TupSets
import HandS.SetFor
import HandS.SetBool
import HandS.Strs
import HandS.DictComp
import HandS.Property
import KE.KSuper
import KE.DataMinMax
import HandS.SortKw
import HandS.Sort
import HandS.More
import HandS.Small
import KE.KDictDisplayH
import HandS.TupLe
import HandS.Head2
import HandS.HeadHook4
import HandS.HeadNt
import HandS.HeadWalk
import HandS.HeadEnd
import KE.KStateDown
import PySem.Challenge.RW_roomleft_k73_simple_roots_and_their_tabl
set_option Elab.async false
set_option linter.all false
set_option maxRecDepth 100000
set_option maxHeartbeats 4000000
set_option autoImplicit false
namespace My
open PySem L2
/-! promises by the number of arguments -/
def Sp0 (f : Hp → VK → XK → Prop) : Sp := fun vs H Q E => vs = [] ∧ f H Q E
def Sp1 (f : V → Hp → VK → XK → Prop) : Sp := fun vs H Q E => ∃ a, vs = [a] ∧ f a H Q E
def Sp2 (f : V → V → Hp → VK → XK → Prop) : Sp := fun vs H Q E => ∃ a b, vs = [a, b] ∧ f a b H Q E
def Sp3 (f : V → V → V → Hp → VK → XK → Prop) : Sp := fun vs H Q E => ∃ a b c, vs = [a, b, c] ∧ f a b c H Q E
def Sp4 (f : V → V → V → V → Hp → VK → XK → Prop) : Sp := fun vs H Q E => ∃ a b c d, vs = [a, b, c, d] ∧ f a b c d H Q E
def Sp5 (f : V → V → V → V → V → Hp → VK → XK → Prop) : Sp := fun vs H Q E => ∃ a b c d e, vs = [a, b, c, d, e] ∧ f a b c d e H Q E
def Sp6 (f : V → V → V → V → V → V → Hp → VK → XK → Prop) : Sp := fun vs H Q E => ∃ a b c d e g, vs = [a, b, c, d, e, g] ∧ f a b c d e g H Q E
section
variable {vs : List V} {H : Hp} {Q : VK} {E : XK}
theorem sp1_len {f : V → Hp → VK → XK → Prop} (h : Sp1 f vs H Q E) : vs.length = 1 := by obtain ⟨_, rfl, _⟩ := h; rfl
theorem sp2_len {f : V → V → Hp → VK → XK → Prop} (h : Sp2 f vs H Q E) : vs.length = 2 := by obtain ⟨_, _, rfl, _⟩ := h; rfl
theorem sp3_len {f : V → V → V → Hp → VK → XK → Prop} (h : Sp3 f vs H Q E) : vs.length = 3 := by obtain ⟨_, _, _, rfl, _⟩ := h; rfl
theorem sp4_len {f : V → V → V → V → Hp → VK → XK → Prop} (h : Sp4 f vs H Q E) : vs.length = 4 := by obtain ⟨_, _, _, _, rfl, _⟩ := h; rfl
theorem sp5_len {f : V → V → V → V → V → Hp → VK → XK → Prop} (h : Sp5 f vs H Q E) : vs.length = 5 := by obtain ⟨_, _, _, _, _, rfl, _⟩ := h; rfl
theorem sp6_len {f : V → V → V → V → V → V → Hp → VK → XK → Prop} (h : Sp6 f vs H Q E) : vs.length = 6 := by obtain ⟨_, _, _, _, _, _, rfl, _⟩ := h; rfl
theorem sp1_of {f : V → Hp → VK → XK → Prop} (h : Sp1 f vs H Q E) : ∃ a, vs = [a] ∧ f a H Q E := h
theorem sp2_of {f : V → V → Hp → VK → XK → Prop} (h : Sp2 f vs H Q E) : ∃ a b, vs = [a, b] ∧ f a b H Q E := h
theorem sp3_of {f : V → V → V → Hp → VK → XK → Prop} (h : Sp3 f vs H Q E) : ∃ a b c, vs = [a, b, c] ∧ f a b c H Q E := h
theorem sp4_of {f : V → V → V → V → Hp → VK → XK → Prop} (h : Sp4 f vs H Q E) : ∃ a b c d, vs = [a, b, c, d] ∧ f a b c d H Q E := h
theorem sp5_of {f : V → V → V → V → V → Hp → VK → XK → Prop} (h : Sp5 f vs H Q E) : ∃ a b c d e, vs = [a, b, c, d, e] ∧ f a b c d e H Q E := h
theorem sp6_of {f : V → V → V → V → V → V → Hp → VK → XK → Prop} (h : Sp6 f vs H Q E) : ∃ a b c d e g, vs = [a, b, c, d, e, g] ∧ f a b c d e g H Q E := h
end
/-! the drawing state: the list at p, the script's copy at l, its numbers -/
structure Dr where
  p : Addr
  l : Addr
  ns : List Int
/-- all that is tracked stands, but the state itself -/
def Chg (d : Dr) (H H' : Hp) : Prop := ∀ b o, b ≠ d.p → H b = some o → H' b = some o
section
variable {d : Dr} {H H1 H2 H' : Hp} {q : Addr} {o : HO}
theorem Chg.refl : Chg d H H := fun _ _ _ e => e
theorem Chg.trans (a : Chg d H H1) (b : Chg d H1 H2) : Chg d H H2 := fun c o n e => b c o n (a c o n e)
theorem Chg.upd : Chg d H (upd H d.p o) := fun b u n e => by rw [upd_ne n]; exact e
theorem Chg.new (h : H q = none) : Chg d H (L2.upd H q o) := fun b u n e => by rw [upd_ne (ne_of_none e h)]; exact e
theorem Chg.same (h : Same H H') : Chg d H H' := fun b u _ e => h b u e
/-- a thing that was new, changed -/
theorem Chg.mut (e : Chg d H H') (h : H q = none) : Chg d H (L2.upd H' q o) := fun b u n k => by rw [upd_ne (ne_of_none k h)]; exact e b u n k
end
structure RngL (H : Hp) (d : Dr) (i : Nat) (c s : Int) : Prop where
  pl : d.l ≠ d.p
  st : H d.p = some (.lst [.ref d.l, .int i, .int c, .int s])
  ls : H d.l = some (.lst (d.ns.map V.int))
  hi : i ≤ d.ns.length
  hn : d.ns.length ≤ 63
  hc : 0 ≤ c
  hs : 0 ≤ s
  hs2 : s < 2147483647
def Rng (d : Dr) (H : Hp) : Prop := ∃ i c s, RngL H d i c s
theorem RngL.set {H : Hp} {d : Dr} {i : Nat} {c s : Int} (r : RngL H d i c s) {j : Nat} {x t : Int} (hj : j ≤ d.ns.length) (hx : 0 ≤ x) (ht : 0 ≤ t) (ht2 : t < 2147483647) :
    RngL (upd H d.p (.lst [.ref d.l, .int j, .int x, .int t])) d j x t := ⟨r.pl, upd_same, by rw [upd_ne r.pl]; exact r.ls, hj, r.hn, hx, ht, ht2⟩
section
variable {d : Dr} {H H' : Hp} {q : Addr} {o : HO}
theorem Rng.atp (r : Rng d H) : ∃ xs, H d.p = some (.lst xs) ∧ xs.length = 4 := by
  obtain ⟨i, c, s, r⟩ := r
  exact ⟨_, r.st, rfl⟩
theorem Rng.atl (r : Rng d H) : H d.l = some (.lst (d.ns.map V.int)) := by
  obtain ⟨i, c, s, r⟩ := r
  exact r.ls
/-- something else is changed -/
theorem Rng.put (r : Rng d H) (h1 : q ≠ d.p) (h2 : q ≠ d.l) : Rng d (upd H q o) := by
  obtain ⟨i, c, s, r⟩ := r
  exact ⟨i, c, s, r.pl, by rw [upd_ne h1.symm]; exact r.st, by rw [upd_ne h2.symm]; exact r.ls, r.hi, r.hn, r.hc, r.hs, r.hs2⟩
theorem Rng.nep (r : Rng d H) (h : H q = none) : q ≠ d.p := fun z => by
  obtain ⟨xs, e, _⟩ := r.atp
  rw [← z, h] at e
  cases e
theorem Rng.nel (r : Rng d H) (h : H q = none) : q ≠ d.l := fun z => by
  have e := r.atl
  rw [← z, h] at e
  cases e
theorem Rng.new (r : Rng d H) (h : H q = none) : Rng d (upd H q o) := r.put (r.nep h) (r.nel h)
theorem Rng.same (r : Rng d H) (e : Same H H') : Rng d H' := by
  obtain ⟨i, c, s, r⟩ := r
  exact ⟨i, c, s, r.pl, e _ _ r.st, e _ _ r.ls, r.hi, r.hn, r.hc, r.hs, r.hs2⟩
/-- what was free stays apart from the state -/
theorem Chg.free (e : Chg d H H') (n : q ≠ d.p) (h : H' q = none) : H q = none := by
  cases z : H q with
  | none => rfl
  | some o => rw [e q o n z] at h; cases h
end
theorem ne_lst {H : Hp} {p q : Addr} {xs : List V} {o : HO} (h : H p = some (.lst xs)) (h2 : H q = some o) (d : ∀ ys, o ≠ .lst ys) : q ≠ p := fun z => by
  rw [z, h] at h2
  exact d xs (Option.some.inj h2).symm
theorem pos_ {n : Int} (h : 0 < n) : 0 < n := h
theorem heap_gen {G : Hp → Prop} {H0 : Hp} (C : Hp → Prop) (h : C H0) (k : ∀ H1, C H1 → G H1) : G H0 := k _ h
/-! the script -/
theorem start_seq {K : PySem.W.Frag} {H : Hp} {a : Addr} {xs : List V} (h : SqL K H a xs) : SqL K H a xs := h
def sp_law0 (K : PySem.W.Frag) : Sp := Sp1 fun a H Q _ => ∃ (l : Addr) (ns : List Int), a = .ref l ∧ SqL K H l (ns.map V.int) ∧ ns.length ≤ 63 ∧ ∀ H', Q (.bl true) H'
def sp_start (K : PySem.W.Frag) : Sp := Sp1 fun a H Q _ => ∃ (l : Addr) (ns : List Int), a = .ref l ∧ SqL K H l (ns.map V.int) ∧ ns.length ≤ 63 ∧
  ∀ (d : Dr) H', H d.p = none → H d.l = none → Same H H' → Rng d H' → Q (.ref d.p) H'
def sp_pull : Sp := Sp2 fun a b H Q _ => ∃ (d : Dr) (many : Int), a = .ref d.p ∧ b = .int many ∧ Rng d H ∧ 0 < many ∧ many.natAbs.log2 < 9000 ∧
  ∀ (v : Int) H', 0 ≤ v → v < many → Chg d H H' → Rng d H' → Q (.int v) H'
theorem kit_self {K : PySem.W.Frag} {C : Addr} : PySem.W.kitOne K (.ref C) (.ref C) = some true := by
  unfold PySem.W.kitOne
  rw [if_pos (by simp)]
theorem small_log {n : Int} (h0 : 0 < n) (h : n < 1000000000) : n.natAbs.log2 < 9000 := by
  have e : n.natAbs < 2 ^ 30 := by omega
  have := (Nat.log2_lt (by omega)).mpr e
  omega
end My
namespace My
open PySem L2
theorem sp0_len {vs : List V} {H : Hp} {Q : VK} {E : XK} {f : Hp → VK → XK → Prop} (h : Sp0 f vs H Q E) : vs.length = 0 := by obtain ⟨rfl, _⟩ := h; rfl
theorem sp0_of {vs : List V} {H : Hp} {Q : VK} {E : XK} {f : Hp → VK → XK → Prop} (h : Sp0 f vs H Q E) : vs = [] ∧ f H Q E := h
end My

namespace My
open PySem L2
/-- every tracked tuple stands -/
def TupKeep (H H' : Hp) : Prop := ∀ b xs, H b = some (.tup xs) → H' b = some (.tup xs)
theorem TupKeep.refl {H : Hp} : TupKeep H H := fun _ _ e => e
theorem TupKeep.trans {H H1 H2 : Hp} (a : TupKeep H H1) (b : TupKeep H1 H2) : TupKeep H H2 := fun c xs e => b c xs (a c xs e)
theorem TupKeep.chg {d : Dr} {H H' : Hp} (r : Rng d H) (e : Chg d H H') : TupKeep H H' := fun b xs k => by
  obtain ⟨ys, hp, _⟩ := r.atp
  exact e b _ (ne_lst hp k fun ys => by intro z; cases z) k
theorem TupKeep.set {D : Addr} {H : Hp} {xs : List V} {o : HO} (h : H D = some (.lst xs)) : TupKeep H (upd H D o) := fun b ys k => by
  rw [upd_ne (ne_lst h k fun ys => by intro z; cases z)]
  exact k
theorem TupKeep.new {D : Addr} {H : Hp} {o : HO} (h : H D = none) : TupKeep H (upd H D o) := fun b ys k => by
  rw [upd_ne (ne_of_none k h)]
  exact k
/-- [e for k in range(..)], e (and the range's end) drawing from the state -/
theorem lc_draw {σ : St} {H : Hp} {te : TE} {ta : TA} {j : Nat} {vs : List Nat} {d : Dr} (Pn : Nat → Prop) (Φ : V → Hp → Prop) (hΦ : ∀ v H1 H2, TupKeep H1 H2 → Φ v H1 → Φ v H2)
    (hw : ∀ x, wipe ((wipe σ vs).set j (some x)) vs = wipe σ vs) (hn : ∀ n, Pn n → n ≤ 100000)
    (hta : ∀ R : List V → Hp → Prop, (∀ (n : Nat) H1, Pn n → Chg d H H1 → Rng d H1 → R [.int (n : Int)] H1) → ta σ H R)
    (ht : ∀ (x : V) H1 (Q : VK), Rng d H1 → Chg d H H1 → (∀ v H2, Φ v H2 → Chg d H1 H2 → Rng d H2 → Q v H2) → te ((wipe σ vs).set j (some x)) H1 Q) {Q : VK}
    (k : ∀ (n : Nat) D (xs : List V) H', Pn n → D ≠ d.p → D ≠ d.l → H D = none → xs.length = n → (∀ x ∈ xs, Φ x H') → H' D = some (.lst xs) → Chg d H H' → Rng d H' → Q (.ref D) H') :
    tLc (iRng1 ta) (gName j) tYes te vs σ H Q := by
  refine hta _ fun n H1 pn e1 r1 => ?_
  have hn' := hn n pn
  refine ⟨(n : Int), rfl, by omega, by omega, fun D hD => ?_⟩
  have nDp := r1.nep hD
  have nDl := r1.nel hD
  have hD0 := e1.free nDp hD
  refine lc_range (lo := 0) (n := n) (fun i H' => ∃ xs : List V, H' D = some (.lst xs) ∧ xs.length = i ∧ (∀ x ∈ xs, Φ x H') ∧ Chg d H H' ∧ Rng d H')
    ⟨[], upd_same, rfl, fun x hx => by simp at hx, e1.trans (Chg.new hD), r1.new hD⟩ ?_ ?_
  · rintro i H' hi ⟨xs, hxs, hl, hf, e2, r2⟩
    refine ⟨hw _, ?_⟩
    refine ht _ H' _ r2 e2 fun v H3 hv e3 r3 => ?_
    have hD3 : H3 D = some (.lst xs) := e3 D _ nDp hxs
    refine ⟨xs, hD3, ?_, xs ++ [v], upd_same, by rw [List.length_append, hl]; rfl, fun x hx => ?_, (e2.trans e3).mut hD0, r3.put nDp nDl⟩
    · rw [hl, sizeLine_eq]; omega
    · have tk : TupKeep H3 (upd H3 D (.lst (xs ++ [v]))) := TupKeep.set hD3
      rcases List.mem_append.mp hx with hx | hx
      · exact hΦ x _ _ ((TupKeep.chg r2 e3).trans tk) (hf x hx)
      · rw [List.mem_singleton.mp hx]
        exact hΦ v _ _ tk hv
  · rintro H' ⟨xs, hxs, hl, hf, e2, r2⟩
    exact k n D xs H' pn nDp nDl hD0 hl hf hxs e2 r2
theorem q_setLc {wi : TI} {g : TG} {tt : TT} {te : TE} {vs : List Nat} {i : Nat} {tz : TS} {D : Ends} {σ : St} {H : Hp} (h : tLc wi g tt te vs σ H fun x H1 => tz D (σ.set i (some x)) H1) : tSeq (tAsg (tLc wi g tt te vs) (gName i)) tz D σ H := h
/-! texts of drawn signs -/
def Sign (ok : Nat → Prop) (v : V) (_ : Hp) : Prop := ∃ c, ok c ∧ v = .str ⟨#[c]⟩
theorem signs_of {ok : Nat → Prop} {H : Hp} : ∀ {xs : List V}, (∀ x ∈ xs, Sign ok x H) → ∃ cs : List Nat, xs = (cs.map fun c => (⟨#[c]⟩ : Str)).map V.str ∧ (∀ c ∈ cs, ok c) ∧ cs.length = xs.length
  | [], _ => ⟨[], rfl, fun c h => by simp at h, rfl⟩
  | x :: xs, h => by
    obtain ⟨c, hc, rfl⟩ := h x (List.mem_cons_self ..)
    obtain ⟨cs, e, hcs, hl⟩ := signs_of (xs := xs) fun y hy => h y (List.mem_cons_of_mem _ hy)
    refine ⟨c :: cs, by rw [e]; rfl, fun y hy => ?_, by rw [List.length_cons, List.length_cons, hl]⟩
    rcases List.mem_cons.mp hy with rfl | hy
    · exact hc
    · exact hcs y hy
theorem joinL_signs : ∀ cs : List Nat, TL.joinL [] ((cs.map fun c => (⟨#[c]⟩ : Str)).map TL.tl) = cs
  | [] => rfl
  | [c] => rfl
  | c :: e :: r => by
    have ih := joinL_signs (e :: r)
    show [c] ++ ([] ++ TL.joinL [] (((e :: r).map fun c => (⟨#[c]⟩ : Str)).map TL.tl)) = c :: e :: r
    rw [ih]
    rfl
theorem join_signs (z : Str) (hz : TL.tl z = []) (cs : List Nat) : Txt.join z (cs.map fun c => (⟨#[c]⟩ : Str)) = ⟨cs.toArray⟩ := by
  refine TL.ext_tl ?_
  rw [TL.join_eq, TL.tl_join, hz, joinL_signs]
theorem sum_signs (cs : List Nat) : ((cs.map fun c => (⟨#[c]⟩ : Str)).map (·.length)).sum = cs.length := by
  induction cs with
  | nil => rfl
  | cons c r ih => rw [List.map_cons, List.map_cons, List.sum_cons, ih, List.length_cons]; show 1 + r.length = r.length + 1; omega
/-- a sign of a written text, at a drawn place -/
theorem pick_sign {z : Str} {l : List Nat} (e : z.cps.toList = l) {v : Int} (h0 : 0 ≤ v) (h1 : v < (l.length : Int)) : ∃ c, c ∈ l ∧ atI z.cps.toList v = some c := by
  obtain ⟨n, rfl⟩ := Int.eq_ofNat_of_zero_le h0
  have hn : n < l.length := by omega
  refine ⟨l[n], List.getElem_mem hn, ?_⟩
  rw [e]
  exact atI_nat (by simp [hn])
/-- what a def that draws a text promises -/
def sp_text (ok : Nat → Prop) : Sp := Sp2 fun a b H Q _ => ∃ (d : Dr) (n : Nat), a = .ref d.p ∧ b = .int (n : Int) ∧ n ≤ 100000 ∧ Rng d H ∧
  ∀ (cs : List Nat) H', cs.length = n → (∀ c ∈ cs, ok c) → Chg d H H' → Rng d H' → Q (.str ⟨cs.toArray⟩) H'
def letter (c : Nat) : Prop := 97 ≤ c ∧ c ≤ 122
def bit (c : Nat) : Prop := c = 48 ∨ c = 49
theorem abc_eq : (Str.ofString "abcdefghijklmnopqrstuvwxyz").cps.toList = [97, 98, 99, 100, 101, 102, 103, 104, 105, 106, 107, 108, 109, 110, 111, 112, 113, 114, 115, 116, 117, 118, 119, 120, 121, 122] := by decide +kernel
theorem abc_letter : ∀ c ∈ [97, 98, 99, 100, 101, 102, 103, 104, 105, 106, 107, 108, 109, 110, 111, 112, 113, 114, 115, 116, 117, 118, 119, 120, 121, 122], letter c := by
  unfold letter
  decide
theorem bits_eq : (Str.ofString "01").cps.toList = [48, 49] := by decide +kernel
theorem bits_bit : ∀ c ∈ [48, 49], bit c := by
  unfold bit
  decide
theorem tl_empty : TL.tl (Str.ofString "") = [] := by decide +kernel
end My

namespace My
open PySem PySem.Spec PyProof.Rows L2
/-- a class over object alone with an own __eq__ at f and no own __ne__ -/
structure EqC (K : PySem.W.Frag) (C f : Addr) : Prop where
  eq : PySem.W.findIn K (.ref C) "__eq__" = some (some (.ref f))
  fn : PySem.W.isFn K (.ref f) = true
  cls : ∃ nm q N bs hd sn sub ab col dd k0 k1 k2 k3 k5 newId, K.lookup C = some (excClassObj nm q C N bs [.type "object"] hd sn sub ab col dd k0 k1 k2 k3 k5 newId) ∧
    PySem.W.nsOkIn K N = true ∧ PySem.W.nsIn K N "__eq__" = some (some (.ref f)) ∧ PySem.W.nsIn K N "__ne__" = some none
def rEqO (C : Addr) (sp : Sp) : R2 := fun x y H Q => ∃ a b dx dy fs gs, x = .ref a ∧ y = .ref b ∧ H a = some (.ins C dx fs) ∧ H b = some (.ins C dy gs) ∧ sp [.ref a, .ref b] H Q E0
def rNeO (C : Addr) (sp : Sp) : R2 := fun x y H Q => ∃ a b dx dy fs gs, x = .ref a ∧ y = .ref b ∧ H a = some (.ins C dx fs) ∧ H b = some (.ins C dy gs) ∧
  sp [.ref a, .ref b] H (fun v H' => ∃ r, v = .bl r ∧ Q (.bl (!r)) H') E0
/-- one call deeper in the interpreter's own stack -/
abbrev in1X (X : Cx) : Cx := { X with A := X.A.in1 }
theorem inv_in1 {X : Cx} {pins : List (Addr × Obj)} {σ : L2.St} {H : Hp} {s : Shared} (I : L2.Inv X pins σ H s) : Inv (in1X X) pins σ H s :=
  ⟨⟨I.ok.mod, I.ok.kind, I.ok.glob, I.ok.blt, I.ok.above, I.ok.inj, I.ok.has, I.ok.cab, I.ok.hd, I.ok.frames, I.ok.stk, I.ok.exf, I.ok.bs, I.ok.bsz, I.ok.noex, I.ok.exfs, I.ok.funs, I.ok.frf⟩, I.os, I.bare, I.base, I.loc, I.cell, I.free, I.freeC, I.pin, I.hok, I.len⟩
theorem inv_out1 {X : Cx} {pins : List (Addr × Obj)} {σ : L2.St} {H : Hp} {s : Shared} (I : L2.Inv (in1X X) pins σ H s) : Inv X pins σ H s :=
  ⟨⟨I.ok.mod, I.ok.kind, I.ok.glob, I.ok.blt, I.ok.above, I.ok.inj, I.ok.has, I.ok.cab, I.ok.hd, I.ok.frames, I.ok.stk, I.ok.exf, I.ok.bs, I.ok.bsz, I.ok.noex, I.ok.exfs, I.ok.funs, I.ok.frf⟩, I.os, I.bare, I.base, I.loc, I.cell, I.free, I.freeC, I.pin, I.hok, I.len⟩
theorem rel_notni {v : V} {u : Value} (r : RelV v u) : u ≠ .notImplemented := by
  cases v with
  | non => cases r; exact fun z => nomatch z
  | bl _ => cases r; exact fun z => nomatch z
  | int _ => obtain ⟨t, rfl⟩ := r; exact fun z => nomatch z
  | str _ => obtain ⟨t, rfl⟩ := r; exact fun z => nomatch z
  | byt _ => obtain ⟨t, rfl⟩ := r; exact fun z => nomatch z
  | flt _ => obtain ⟨t, rfl⟩ := r; exact fun z => nomatch z
  | ref _ => cases r; exact fun z => nomatch z
  | ty _ => cases r; exact fun z => nomatch z
theorem cmpBack_of {Q : Value → Shared → Prop} {u : Value} {s : Shared} (h : u ≠ .notImplemented) (q : Q u s) : PySem.W.CmpBack Q u s := by
  unfold PySem.W.CmpBack
  cases u <;> first | exact q | exact absurd rfl h
/-- what a class's own dict holds, out of the written part -/
theorem ns_at {K : PySem.W.Frag} {h : Heap} {N : Addr} {m : Str → Option Value} {n : Str} {v : Value} (kin : K.In h) (G : h.Ns N m) (e : PySem.W.nsIn K N n = some (some v)) : m n = some v := by
  obtain ⟨ob, es, ep, gN, dat, _, look⟩ := G
  unfold PySem.W.nsIn at e
  cases q : K.lookup N with
  | none => simp [q] at e
  | some o2 =>
    have z := (kin _ _ q).symm.trans gN
    injection z with z
    subst z
    obtain ⟨cl, di, da, sl⟩ := o2
    simp only at dat
    subst dat
    simp only [q] at e
    cases r : es.toList.find? (·.key.isStr n) with
    | none => simp only [r] at e; split at e <;> simp at e
    | some en =>
      simp only [r, Option.some.injEq] at e
      rw [← look]
      show (es.find? _).map _ = some v
      rw [← Array.find?_toList]
      simp only [r, Option.map_some, e]
section
variable {X : Cx} {C f : Addr} {fd : FuncData} {ps : List Str} {sp : Sp} {n : Nat}
theorem op_eqO (F : FnOk X.prog X.w X.K X.mg X.base CX0 n f fd ps sp) (c : EqC X.K C f) (hb : Binds X.K fd ps []) (hr : Room n X.A) : OpR X (compareOp .Eq) (rEqO C sp) := by
  intro pins s σ H x y u v Q I rx ry h
  obtain ⟨a, b, dx, dy, fs, gs, rfl, rfl, ha, hb', hs⟩ := h
  cases rx
  cases ry
  obtain ⟨mA, J, _⟩ := ins_get I.hok ha
  obtain ⟨mB, J', _⟩ := ins_get I.hok hb'
  obtain ⟨od, J, _⟩ := J.look
  obtain ⟨od', J', _⟩ := J'.look
  obtain ⟨m, hF⟩ := I.fr
  show wpAny (model X.prog X.w) X.A (richCompare .Eq _ _) (EP X pins σ Q) X.xe s
  refine PySem.W.cmp_K (op := .Eq) (tb := .ref C) hr.units0 hF I.ok.mod.kin J J'.type (by simp [PySem.W.notFirst]) c.eq c.fn ?_
  refine thn (run_fn (us := [.ref a, .ref b]) (vs := [.ref a, .ref b]) F hr hb .nil pass0 I (.cons rfl (.cons rfl .nil)) (show sp ([.ref a, .ref b] ++ []) H _ E0 from hs)) fun w s' hw => ?_
  obtain ⟨v, H', I', r, q⟩ := hw
  exact cmpBack_of (rel_notni r) ⟨v, H', I', r, q⟩
theorem op_neO (F : FnOk X.prog X.w X.K X.mg X.base CX0 n f fd ps sp) (c : EqC X.K C f) (hb : Binds X.K fd ps []) (hr : Room (n + 1) X.A) : OpR X (compareOp .NotEq) (rNeO C sp) := by
  intro pins s σ H x y u v Q I rx ry h
  obtain ⟨a, b, dx, dy, fs, gs, rfl, rfl, ha, hb', hs⟩ := h
  cases rx
  cases ry
  have KX := I.kIn
  obtain ⟨mA, J, _⟩ := ins_get I.hok ha
  obtain ⟨mB, J', _⟩ := ins_get I.hok hb'
  obtain ⟨nm, q, N, bs, hd, sn, sub, ab, col, dd, k0, k1, k2, k3, k5, newId, lC, okN, nE, nN⟩ := c.cls
  obtain ⟨of, lf, ef⟩ := Option.map_eq_some_iff.mp (show (X.K.lookup f).map (·.cls) = some (.type "function") from beq_iff_eq.mp c.fn)
  have NN := Heap.Ns.of_isNs (PySem.W.isNs_of_in KX okN)
  have OE : s.heap.OwnEqNoNe a C f "object" [.type "object"] :=
    ⟨_, of, nm, q, N, bs, hd, sn, sub, ab, col, dd, k0, k1, k2, k3, k5, newId, _, _, J.obj, rfl, KX _ _ lC, NN, ns_at KX NN nE, KX _ _ lf, ef, PySem.F.cmp_object.mro, PySem.F.cmp_object.eq.lookup, PySem.W.ns_none_of KX NN nN⟩
  obtain ⟨hp, g, d, tk, os⟩ := s
  refine compareOp_ne_ownEq PySem.F.cmp_object OE J'.obj rfl (by have := hr.un; omega) ?_
  have I1 := inv_in1 I
  refine thn (run_fn (X := in1X X) (us := [.ref a, .ref b]) (vs := [.ref a, .ref b]) F hr.in1 hb .nil pass0 I1 (.cons rfl (.cons rfl .nil)) (show sp ([.ref a, .ref b] ++ []) H _ E0 from hs)) fun w s' hw => ?_
  obtain ⟨v, H', I', r, z, rfl, q⟩ := hw
  cases r
  exact ⟨_, rfl, .bl _, H', inv_out1 I', rfl, q⟩
/-- == of an instance and one of any own class that does not come first -/
def rEqD (K : PySem.W.Frag) (C : Addr) (sp : Sp) : R2 := fun x y H Q => ∃ a b dx fs D dy gs, x = .ref a ∧ y = .ref b ∧ H a = some (.ins C dx fs) ∧ H b = some (.ins D dy gs) ∧ PySem.W.notFirst K C (.ref D) = true ∧ sp [.ref a, .ref b] H Q E0
theorem op_eqD (F : FnOk X.prog X.w X.K X.mg X.base CX0 n f fd ps sp) (he : PySem.W.findIn X.K (.ref C) "__eq__" = some (some (.ref f))) (hfn : PySem.W.isFn X.K (.ref f) = true) (hb : Binds X.K fd ps []) (hr : Room n X.A) : OpR X (compareOp .Eq) (rEqD X.K C sp) := by
  intro pins s σ H x y u v Q I rx ry h
  obtain ⟨a, b, dx, fs, D, dy, gs, rfl, rfl, ha, hb', hn, hs⟩ := h
  cases rx
  cases ry
  obtain ⟨mA, J, _⟩ := ins_get I.hok ha
  obtain ⟨mB, J', _⟩ := ins_get I.hok hb'
  obtain ⟨od, J, _⟩ := J.look
  obtain ⟨od', J', _⟩ := J'.look
  obtain ⟨m, hF⟩ := I.fr
  show wpAny (model X.prog X.w) X.A (richCompare .Eq _ _) (EP X pins σ Q) X.xe s
  refine PySem.W.cmp_K (op := .Eq) (tb := .ref D) hr.units0 hF I.ok.mod.kin J J'.type hn he hfn ?_
  refine thn (run_fn (us := [.ref a, .ref b]) (vs := [.ref a, .ref b]) F hr hb .nil pass0 I (.cons rfl (.cons rfl .nil)) (show sp ([.ref a, .ref b] ++ []) H _ E0 from hs)) fun w s' hw => ?_
  obtain ⟨v, H', I', r, q⟩ := hw
  exact cmpBack_of (rel_notni r) ⟨v, H', I', r, q⟩
end
end My

namespace My
open PySem PySem.Spec PyProof.Rows L2
/-! == and != of data without dicts, at any texts -/
def rEqP (K : PySem.W.Frag) : R2 := fun x y H Q => ∃ d e, Dp K H x d ∧ Dp K H y e ∧ d.plain = true ∧ e.plain = true ∧ d.depth ≤ 60 ∧ Q (.bl (PyData.eqv d e)) H
def rNeP (K : PySem.W.Frag) : R2 := fun x y H Q => ∃ d e, Dp K H x d ∧ Dp K H y e ∧ d.plain = true ∧ e.plain = true ∧ d.depth ≤ 60 ∧ Q (.bl (!PyData.eqv d e)) H
section
variable {X : Cx}
theorem op_eqP (hu : X.A.units + 64 < cLine) : OpR X (compareOp .Eq) (rEqP X.K) := by
  intro pins s σ H x y v u Q I rx ry h
  obtain ⟨d, e, hd, he, pd, pe, dp, q⟩ := h
  obtain ⟨as, r1⟩ := Dp.reads I d x v hd rx
  obtain ⟨bs, r2⟩ := Dp.reads I e y u he ry
  exact SeqAt.eq_plain r1 r2 pd pe (by have := Nat.min_le_left d.depth e.depth; omega) ⟨.bl _, H, I, rfl, q⟩
theorem op_neP (hu : X.A.units + 64 < cLine) : OpR X (compareOp .NotEq) (rNeP X.K) := by
  intro pins s σ H x y v u Q I rx ry h
  obtain ⟨d, e, hd, he, pd, pe, dp, q⟩ := h
  obtain ⟨as, r1⟩ := Dp.reads I d x v hd rx
  obtain ⟨bs, r2⟩ := Dp.reads I e y u he ry
  exact SeqAt.ne_plain r1 r2 pd pe (by have := Nat.min_le_left d.depth e.depth; omega) ⟨.bl _, H, I, rfl, q⟩
end
mutual
theorem Dp.keep {K : PySem.W.Frag} {H H' : Hp} (e : Same H H') : ∀ {d : PyData} {v : V}, Dp K H v d → Dp K H' v d
  | _, _, .non => .non
  | _, _, .bl b => .bl b
  | _, _, .int i => .int i
  | _, _, .str x => .str x
  | _, _, .lst h a => .lst (e.seq h) (DpAll.keep e a)
  | _, _, .tup h a => .tup (h.elim (fun h => .inl (h.elim (fun h => .inl (e _ _ h)) fun ⟨o, h⟩ => .inr ⟨o, e _ _ h⟩)) fun h => .inr h) (DpAll.keep e a)
theorem DpAll.keep {K : PySem.W.Frag} {H H' : Hp} (e : Same H H') : ∀ {ds : List PyData} {vs : List V}, DpAll K H vs ds → DpAll K H' vs ds
  | _, _, .nil => .nil
  | _, _, .cons h a => .cons (Dp.keep e h) (DpAll.keep e a)
end
theorem DpAll.length {K : PySem.W.Frag} {H : Hp} : ∀ {vs : List V} {ds : List PyData}, DpAll K H vs ds → vs.length = ds.length
  | _, _, .nil => rfl
  | _, _, .cons _ a => congrArg Nat.succ (DpAll.length a)
theorem eqv_list (xs ys : List PyData) : PyData.eqv (.list xs) (.list ys) = PyData.eqvAll xs ys := by rw [PyData.eqv]
theorem eqv_tuple (xs ys : List PyData) : PyData.eqv (.tuple xs) (.tuple ys) = PyData.eqvAll xs ys := by rw [PyData.eqv]
/-! keywords: the values by their places -/
def pick {α : Type} (ix : List Nat) (l : List α) : List α := ix.filterMap fun i => l[i]?
theorem pick_rel : ∀ (ix : List Nat) {vs : List V} {us : List Value}, Vals vs us → Vals (pick ix vs) (pick ix us)
  | [], _, _, _ => .nil
  | i :: ix, vs, us, r => by
    have ih := pick_rel ix r
    unfold pick at ih ⊢
    rw [List.filterMap_cons, List.filterMap_cons]
    cases e : vs[i]? with
    | none =>
      rw [r.none_of e]
      exact ih
    | some x =>
      obtain ⟨u, hu, ru⟩ := r.get e
      rw [hu]
      exact .cons ru ih
theorem fun_kbn {K : PySem.W.Frag} {x qual : Str} {st : Stmt} {f : Addr} {fd : FuncData} {ps ks : List Str} {n : Nat} (ix : List Nat) (F : Fun K x qual st f fd)
    (h : ∀ (kV doc pm : Value) (an : Option Addr) (cdv ct : Value) (us ws : List Value), us.length = n → ws.length = ks.length →
      bindArgs (PySem.W.fnOf x qual (defArgs st) (defBody st) (defScope st) .none kV doc pm an cdv ct) ⟨us, ks.zip ws⟩ = pure (ps.zip (pick ix (us ++ ws)))) :
    KBn K fd ps n ks (fun us ws => pick ix (us ++ ws)) (fun vs zs => pick ix (vs ++ zs)) := by
  obtain ⟨oc, od, kV, doc, pm, an, cdv, ct, osl, rfl, lk, hcd⟩ := F.ex
  exact ⟨fun s us ws _ l1 l2 => .of_eq (h kV doc pm an cdv ct us ws l1 l2), fun r1 r2 => pick_rel ix (r1.append r2)⟩
end My

namespace My
open PySem L2
/-! the classes of the program that stand over object alone -/
structure ClsO (K : PySem.W.Frag) (C : Addr) (nm : Str) : Prop where
  ex : ∃ q N bs hd sn sub ab col dd k0 k1 k2 k3 k5 newId, K.lookup C = some (excClassObj nm q C N bs [.type "object"] hd sn sub ab col dd k0 k1 k2 k3 k5 newId)
theorem ClsO.cls {K : PySem.W.Frag} {C : Addr} {nm : Str} (h : ClsO K C nm) : ∃ cd, PySem.W.clsIn K C = some cd ∧ cd.mro = [.ref C, .type "object"] ∧ cd.name = nm := by
  obtain ⟨q, N, bs, hd, sn, sub, ab, col, dd, k0, k1, k2, k3, k5, newId, e⟩ := h.ex
  refine ⟨_, by unfold PySem.W.clsIn; rw [e], rfl, rfl⟩
theorem ClsO.ne {K : PySem.W.Frag} {C D : Addr} {nm nm' : Str} (h : ClsO K C nm) (h' : ClsO K D nm') (n : ¬ nm = nm') : C ≠ D := fun z => by
  subst z
  obtain ⟨cd, e, _, q⟩ := h.cls
  obtain ⟨cd', e', _, q'⟩ := h'.cls
  rw [e] at e'
  cases e'
  exact n (q.symm.trans q')
theorem ClsO.sub {K : PySem.W.Frag} {C : Addr} {nm : Str} (h : ClsO K C nm) (b : Value) : PySem.W.subIn K (.ref C) b = some (decide (b = .ref C ∨ b = .type "object")) := by
  obtain ⟨cd, e, m, _⟩ := h.cls
  show PySem.W.mroIn K C b = _
  unfold PySem.W.mroIn
  rw [e, Option.bind_some, m, if_neg (by simp)]
  congr 1
  simp only [List.contains_cons, List.contains_nil, Bool.or_false]
  rw [Bool.decide_or]
  rfl
theorem ClsO.type {K : PySem.W.Frag} {C : Addr} {nm : Str} (h : ClsO K C nm) : PySem.W.typeIn K (.ref C) = some (.type "type") := by
  obtain ⟨q, N, bs, hd, sn, sub, ab, col, dd, k0, k1, k2, k3, k5, newId, e⟩ := h.ex
  show (K.lookup C).map (·.cls) = _
  rw [e]
  rfl
/-- the built-in types that our values have -/
def tags : List String := ["NoneType", "bool", "int", "str", "list", "tuple", "dict"]
def asks : List String := ["bool", "int", "str", "list", "tuple", "dict"]
inductive TagOk (K : PySem.W.Frag) : Value → Prop where
  | ty {n : String} (h : n ∈ tags) : TagOk K (.type n)
  | own {C : Addr} {nm : Str} (h : ClsO K C nm) : TagOk K (.ref C)
/-- is a thing of type t an instance of c -/
def isa (t c : Value) : Bool := decide (t = c) || (decide (t = .type "bool") && decide (c = .type "int"))
theorem kitB_table : ∀ n ∈ tags, ∀ m ∈ asks, kitB n m = some (decide (n = m) || (decide (n = "bool") && decide (m = "int"))) := by decide +kernel
theorem kitMeta_asks : ∀ m ∈ asks, PySem.W.kitMeta m = true := by decide +kernel
theorem asks_obj : ∀ m ∈ asks, m ≠ "object" := by decide
theorem isa_ty {n m : String} : isa (.type n) (.type m) = (decide (n = m) || (decide (n = "bool") && decide (m = "int"))) := by
  unfold isa
  have h : ∀ a b : String, decide (Value.type a = Value.type b) = decide (a = b) := fun a b => by
    by_cases e : a = b
    · subst e; simp
    · rw [decide_eq_false e, decide_eq_false (fun z => e (by injection z))]
  rw [h, h, h]
theorem kit_isa {K : PySem.W.Frag} {t : Value} (h : TagOk K t) {m : String} (hm : m ∈ asks) : PySem.W.kitOne K t (.type m) = some (isa t (.type m)) := by
  cases h with
  | ty hn => rw [isa_ty]; exact kit_ty (kitB_table _ hn _ hm)
  | own o =>
    unfold PySem.W.kitOne
    rw [if_neg (by simp)]
    show (if PySem.W.kitMeta m = true then PySem.W.subIn K _ (.type m) else none) = _
    rw [if_pos (kitMeta_asks m hm), o.sub]
    congr 1
    unfold isa
    rw [decide_eq_false (by intro z; rcases z with z | z <;> first | (injection z with z; exact asks_obj m hm z) | cases z), decide_eq_false (by intro z; cases z), decide_eq_false (by intro z; cases z)]
    rfl
def allTypes (l : List Value) : Bool := l.all fun v => match v with | .type _ => true | _ => false
theorem tags_mro0 : ∀ n ∈ tags, (fastBuiltinMro n).map allTypes = some true := by decide +kernel
theorem tags_mro (n : String) (h : n ∈ tags) : ∃ l, fastBuiltinMro n = some l ∧ ∀ v ∈ l, ∃ s, v = Value.type s := by
  obtain ⟨l, e, q⟩ := Option.map_eq_some_iff.mp (tags_mro0 n h)
  refine ⟨l, e, fun v hv => ?_⟩
  have z := List.all_eq_true.mp q v hv
  cases v <;> first | exact ⟨_, rfl⟩ | cases z
theorem kit_isaO {K : PySem.W.Frag} {t : Value} (h : TagOk K t) {D : Addr} {nm : Str} (d : ClsO K D nm) : PySem.W.kitOne K t (.ref D) = some (isa t (.ref D)) := by
  have two : ((PySem.W.clsIn K D).isSome && PySem.W.typeIn K (.ref D) == some (.type "type")) = true := by
    obtain ⟨cd, e, _⟩ := d.cls
    rw [e, d.type]
    rfl
  cases h with
  | @ty n hn =>
    unfold PySem.W.kitOne
    rw [if_neg (by simp)]
    show (if _ then PySem.W.subIn K _ (.ref D) else none) = _
    rw [if_pos two]
    obtain ⟨l, e, hl⟩ := tags_mro n hn
    show (fastBuiltinMro n).map _ = _
    rw [e]
    show some _ = some _
    have i1 : isa (.type n) (.ref D) = false := by
      have n1 : ¬ Value.type n = Value.ref D := fun z => by cases z
      have n2 : ¬ Value.ref D = Value.type "int" := fun z => by cases z
      unfold isa
      rw [decide_eq_false n1, decide_eq_false n2, Bool.and_false]
      rfl
    rw [i1]
    congr 1
    rw [Bool.eq_false_iff]
    intro z
    obtain ⟨s, e⟩ := hl _ (List.contains_iff_mem.mp z)
    cases e
  | @own C nm' o =>
    by_cases e : C = D
    · subst e
      unfold isa
      rw [kit_self, decide_eq_true rfl]
      rfl
    · unfold PySem.W.kitOne
      rw [if_neg (by simp; exact e)]
      show (if _ then PySem.W.subIn K _ (.ref D) else none) = _
      rw [if_pos two, o.sub]
      congr 1
      unfold isa
      have n1 : ¬ Value.ref C = Value.ref D := fun z => e (by injection z)
      have n2 : ¬ Value.ref D = Value.ref C := fun z => e (by injection z with z; exact z.symm)
      rw [decide_eq_false n1, decide_eq_false (by intro z; rcases z with z | z; exact n2 z; cases z), decide_eq_false (by intro z; cases z)]
      rfl
theorem kitAny_isa {K : PySem.W.Frag} {t : Value} : ∀ {us : List Value}, (∀ u ∈ us, PySem.W.kitOne K t u = some (isa t u)) → PySem.W.kitAny K t us = some (us.any (isa t))
  | [], _ => rfl
  | u :: us, h => kitAny_cons (h u (List.mem_cons_self ..)) (fun e => by rw [kitAny_isa fun v hv => h v (List.mem_cons_of_mem _ hv), List.any_cons, e]; rfl) (fun e => by rw [List.any_cons, e]; rfl)
/-! typed values: what a value is, as far as isinstance goes -/
inductive VT (K : PySem.W.Frag) (H : Hp) : V → Value → Prop where
  | non : VT K H .non (.type "NoneType")
  | bl (b : Bool) : VT K H (.bl b) (.type "bool")
  | int (i : Int) : VT K H (.int i) (.type "int")
  | str (x : Str) : VT K H (.str x) (.type "str")
  | lst {a : Addr} {xs : List V} (e : H a = some (.lst xs)) : VT K H (.ref a) (.type "list")
  | tup {a : Addr} {xs : List V} (e : H a = some (.tup xs)) : VT K H (.ref a) (.type "tuple")
  | dK {a : Addr} {kvs : List (Key × V)} (e : H a = some (.dK kvs)) : VT K H (.ref a) (.type "dict")
  | ins {a C dx : Addr} {fs : List (Str × V)} {nm : Str} (e : H a = some (.ins C dx fs)) (c : C8.InsC K C) (o : ClsO K C nm) : VT K H (.ref a) (.ref C)
theorem VT.tyx {K : PySem.W.Frag} {H : Hp} {v : V} {t : Value} (h : VT K H v t) : TyX K H v t := by
  cases h with
  | non => exact .base .non
  | bl b => exact .base (.bl b)
  | int i => exact .base (.int i)
  | str x => exact .base (.str x)
  | lst e => exact .base (.lst e)
  | tup e => exact .base (.tup e)
  | dK e => exact .base (.dK e)
  | ins e c o => exact .base (.ins e c.cl c.ha c.hn c.htk c.hm)
theorem VT.tag {K : PySem.W.Frag} {H : Hp} {v : V} {t : Value} (h : VT K H v t) : TagOk K t := by
  cases h <;> first | exact .ty (by decide) | exact .own (by assumption)
/-- each thing keeps its sort -/
def KK (H H' : Hp) : Prop := ∀ a o, H a = some o → ∃ o', H' a = some o' ∧ match o, o' with
  | .lst _, .lst _ => True
  | .tup xs, .tup ys => xs = ys
  | .dK _, .dK _ => True
  | .ins C _ _, .ins C' _ _ => C = C'
  | .lst _, _ => False
  | .tup _, _ => False
  | .dK _, _ => False
  | .ins _ _ _, _ => False
  | _, _ => True
theorem KK.refl {H : Hp} : KK H H := fun a o e => ⟨o, e, by cases o <;> trivial⟩
theorem KK.same {H H' : Hp} (h : Same H H') : KK H H' := fun a o e => ⟨o, h a o e, by cases o <;> trivial⟩
theorem KK.trans {H H1 H2 : Hp} (h : KK H H1) (k : KK H1 H2) : KK H H2 := fun a o e => by
  obtain ⟨o1, e1, r1⟩ := h a o e
  obtain ⟨o2, e2, r2⟩ := k a o1 e1
  refine ⟨o2, e2, ?_⟩
  cases o <;> cases o1 <;> first | (exact r1.elim) | skip
  all_goals (cases o2 <;> first | trivial | exact r2.elim | (exact Eq.trans r1 r2) | skip)
theorem KK.chg {d : Dr} {H H' : Hp} (r : Rng d H) (r' : Rng d H') (e : Chg d H H') : KK H H' := fun a o h => by
  by_cases n : a = d.p
  · obtain ⟨xs, e1, _⟩ := r.atp
    obtain ⟨ys, e2, _⟩ := r'.atp
    rw [n] at h ⊢
    rw [e1] at h
    cases h
    exact ⟨_, e2, trivial⟩
  · exact ⟨o, e a o n h, by cases o <;> trivial⟩
theorem KK.setL {H : Hp} {D : Addr} {xs ys : List V} (h : H D = some (.lst xs)) : KK H (upd H D (.lst ys)) := fun a o e => by
  by_cases n : a = D
  · rw [n] at e ⊢
    rw [h] at e
    cases e
    exact ⟨_, upd_same, trivial⟩
  · exact ⟨o, by rw [upd_ne n]; exact e, by cases o <;> trivial⟩
theorem KK.new {H : Hp} {D : Addr} {o : HO} (h : H D = none) : KK H (upd H D o) := KK.same fun b u e => by rw [upd_ne (ne_of_none e h)]; exact e
theorem VT.keep {K : PySem.W.Frag} {H H' : Hp} (e : KK H H') {v : V} {t : Value} (h : VT K H v t) : VT K H' v t := by
  cases h with
  | non => exact .non
  | bl b => exact .bl b
  | int i => exact .int i
  | str x => exact .str x
  | lst h =>
    obtain ⟨o, e1, r⟩ := e _ _ h
    cases o <;> first | exact .lst e1 | exact r.elim
  | tup h =>
    obtain ⟨o, e1, r⟩ := e _ _ h
    cases o <;> first | exact .tup e1 | exact r.elim
  | dK h =>
    obtain ⟨o, e1, r⟩ := e _ _ h
    cases o <;> first | exact .dK e1 | exact r.elim
  | ins h c o2 =>
    obtain ⟨o, e1, r⟩ := e _ _ h
    cases o with
    | ins C' dx' fs' =>
      have z : _ = C' := r
      subst z
      exact .ins e1 c o2
    | _ => exact r.elim
/-- an integer and no bool -/
def isI : V → Bool
  | .int _ => true
  | _ => false
theorem isI_of {K : PySem.W.Frag} {H : Hp} {v : V} {t : Value} (h : VT K H v t) : isI v = (isa t (.type "int") && !isa t (.type "bool")) := by
  cases h <;> first | rfl | (simp only [isI, isa]; simp)
def isS : V → Bool
  | .str _ => true
  | _ => false
theorem isS_of {K : PySem.W.Frag} {H : Hp} {v : V} {t : Value} (h : VT K H v t) : isS v = isa t (.type "str") := by
  cases h <;> first | rfl | (simp only [isS, isa]; simp)
/-- isinstance(x, T), T built in: the reading -/
theorem isi_ty {K : PySem.W.Frag} {H : Hp} {v : V} {t : Value} {Q : VK} {m : String} (h : VT K H v t) (hm : m ∈ asks) (q : Q (.bl (isa t (.type m))) H) : rIsi K [v, .ty m] H Q :=
  ⟨v, .ty m, t, .type m, _, rfl, .ty m, h.tyx, kit_isa h.tag hm, q⟩
theorem isi_own {K : PySem.W.Frag} {H : Hp} {v : V} {t : Value} {Q : VK} {D : Addr} {nm : Str} (h : VT K H v t) (d : ClsO K D nm) (q : Q (.bl (isa t (.ref D))) H) : rIsi K [v, .ref D] H Q :=
  ⟨v, .ref D, t, .ref D, _, rfl, .own D, h.tyx, kit_isaO h.tag d, q⟩
end My

namespace My
open PySem PySem.Spec PyProof.Rows L2
section
variable {X : Cx} {CX : CXT} {k n : Nat} {f C : Addr} {fd : FuncData} {ps ks : List Str} {sp : Sp} {dvs : List V} {ds : List Value} {E : L2.St → XK} {x : Str} {p pos : Pos} {e : Expr} {es : List Expr} {kws : List Keyword} {t tk : TA}
  {g : List Value → List Value → List Value} {gV : List V → List V → List V}
/-- what a call ends in, where what it raises is wished for at the caller's slots -/
theorem ends_at {pins : List (Addr × Obj)} {σ : L2.St} {H : Hp} {s s' : Shared} {Q : VK} {r : Result} (I : L2.Inv X pins σ H s) (hx : PassesAt CX X σ (E σ)) (hq : CR CX X.stack X.prog X.w H s Q (E σ) r s') {R : Value → Shared → Prop}
    (hr : ∀ u, EP X pins σ Q u s' → R u s') : wants R X.xe r s' := by
  cases r with
  | error er => exact hx pins H s er s' I hq
  | ok fl => cases fl <;> first | exact hr _ (I.after hq) | exact False.elim hq
/-- C(..) where C's __init__ may raise -/
def tMakeS (C : Addr) (sp : Sp) (dvs : List V) (E : L2.St → XK) (t : TA) : TE := fun σ H Q => t σ H fun vs H1 => ∀ x dx, H1 x = none → H1 dx = none → dx ≠ x →
  sp (.ref x :: (vs ++ dvs)) (upd (upd H1 dx (.own x)) x (.ins C dx [])) (fun v H2 => v = .non ∧ Q (.ref x) H2) (E σ)
theorem made_ends {pins : List (Addr × Obj)} {σ : L2.St} {H : Hp} {s : Shared} {Q : VK} {us : List Value} {kw : List (Str × Value)} (M : Mk X.K C f) (I : L2.Inv X pins σ H s) (hx : PassesAt CX X σ (E σ))
    (h : codeAny (model X.prog X.w) (X.A.under (.builtin "type.__call__" ⟨.ref C :: us, kw⟩)) (.call (.ref f) ⟨.ref (s.heap.objs.size + 1) :: us, kw⟩)
      (CR CX X.stack X.prog X.w (upd (upd H s.heap.objs.size (.own (s.heap.objs.size + 1))) (s.heap.objs.size + 1) (.ins C s.heap.objs.size [])) { s with heap := (s.heap.push PySem.W.emptyDict).push (PySem.W.instObj C s.heap.objs.size) }
        (fun v H2 => v = .non ∧ Q (.ref (s.heap.objs.size + 1)) H2) (E σ)) { s with heap := (s.heap.push PySem.W.emptyDict).push (PySem.W.instObj C s.heap.objs.size) }) :
    wpAny (model X.prog X.w) X.A (call (.ref C) us kw) (EP X pins σ Q) X.xe s := by
  have J := Inv.made (C := C) I
  refine wpAny_call (make_map (f := f) I.kIn M.makes M.init (beq_iff_eq.mp M.fn) (codeAny_mono h fun r s' q => ?_))
  cases r with
  | error er => exact hx pins _ _ er s' J q
  | ok fl =>
    cases fl with
    | ret u =>
      obtain ⟨v, H', J', rv, ev, q2⟩ := J.after q
      subst ev
      exact ⟨rv, ⟨V.ref (s.heap.objs.size + 1), H', J', rfl, q2⟩⟩
    | next => exact False.elim q
    | brk => exact False.elim q
    | cont => exact False.elim q
theorem pe_makeS (M : Mk X.K C f) (F : FnOk X.prog X.w X.K X.mg X.base CX k f fd ps sp) (hr : Room (k + 1) X.A) (hg : Gl X x) (hm : X.mg x = some (.ref C)) (hb : L2.Binds X.K fd ps ds) (hd : Vals dvs ds) (hx : ∀ σ, PassesAt CX X σ (E σ))
    (ha : PA X (e :: es) t) (hdb : (x == ("__debug__" : Str)) = false := by decide) (he : starEach (e :: es) X.env = (false, eval e X.env) :: starEach es X.env := by rfl) (hpl : (backTo pos (starEach es X.env)).any (·.1) = false := by rfl) :
    PE X (.Call (.Name x p) (e :: es) [] pos) (tMakeS C sp dvs E t) := by
  refine ⟨fun pins s σ H Q I h => ?_⟩
  refine wpAny_Call_Name_kw (ld_glob I hg hm ?_ hdb)
  refine PySem.W.callWith_K (h₀ := X.base) I.ok.mod.kin M.kp (thn (ha.run pos pins s σ H _ I h) fun us s1 hh => ?_) he hpl
  obtain ⟨vs, H1, I1, r, q⟩ := hh
  refine ⟨I1.kIn, made_ends M I1 (hx σ) ?_⟩
  have q1 := q (s1.heap.objs.size + 1) s1.heap.objs.size (I1.hok.fresh (Nat.le_succ _)) (I1.hok.fresh (Nat.le_refl _)) (Nat.ne_of_lt (Nat.lt_succ_self _))
  have J := Inv.made (C := C) I1
  have r2 : Vals (V.ref (s1.heap.objs.size + 1) :: (vs ++ dvs)) (Value.ref (s1.heap.objs.size + 1) :: (us ++ ds)) := .cons rfl (r.append hd)
  exact F.run _ X.stack _ _ _ _ _ _ (E σ) (hr.make C us []) (J.env0.make C us []) (hb _ (Value.ref (s1.heap.objs.size + 1) :: us) J.kIn (r2.length.symm.trans (F.len _ _ _ _ q1))) r2 q1
/-- C(k = v, ..) where C's __init__ may raise -/
def tMakeKS (C : Addr) (m : Nat) (sp : Sp) (gV : List V → List V → List V) (E : L2.St → XK) (tk : TA) : TE := fun σ H Q => tk σ H fun zs H1 => zs.length = m ∧ ∀ x dx, H1 x = none → H1 dx = none → dx ≠ x →
  sp (gV [.ref x] zs) (upd (upd H1 dx (.own x)) x (.ins C dx [])) (fun v H2 => v = .non ∧ Q (.ref x) H2) (E σ)
theorem pe_makeKS (M : Mk X.K C f) (F : FnOk X.prog X.w X.K X.mg X.base CX k f fd ps sp) (hr : Room (k + 1) X.A) (hg : Gl X x) (hm : X.mg x = some (.ref C)) (hb : KBn X.K fd ps 1 ks g gV) (hx : ∀ σ, PassesAt CX X σ (E σ)) (hkw : PK X kws tk)
    (hall : (backToKw pos (keywordEach kws X.env)).all (·.1.isSome) = true := by rfl) (hks : (backToKw pos (keywordEach kws X.env)).filterMap (·.1) = ks := by rfl) (hdb : (x == ("__debug__" : Str)) = false := by decide)
    (hpl : ((backTo pos (starEach [] X.env)).any (·.1) || (backToKw pos (keywordEach kws X.env)).any (·.1.isNone)) = false := by rfl) :
    PE X (.Call (.Name x p) [] kws pos) (tMakeKS C ks.length sp gV E tk) := by
  refine ⟨fun pins s σ H Q I h => ?_⟩
  refine wpAny_Call_Name_kw (ld_glob I hg hm ?_ hdb)
  refine PySem.W.callWith_KW0 (h₀ := X.base) I.ok.mod.kin M.kp hall ?_ hpl
  refine thn (hkw.run pos pins s σ H _ I h) fun ws s1 hh => ?_
  obtain ⟨zs, H1, I1, r, l2, q⟩ := hh
  refine ⟨I1.kIn, ?_⟩
  rw [hks]
  refine made_ends M I1 (hx σ) ?_
  have q1 := q (s1.heap.objs.size + 1) s1.heap.objs.size (I1.hok.fresh (Nat.le_succ _)) (I1.hok.fresh (Nat.le_refl _)) (Nat.ne_of_lt (Nat.lt_succ_self _))
  have J := Inv.made (C := C) I1
  have r1 : Vals [V.ref (s1.heap.objs.size + 1)] [Value.ref (s1.heap.objs.size + 1)] := .cons rfl .nil
  exact F.run _ X.stack _ _ _ _ _ _ (E σ) (hr.make C [] (ks.zip ws)) (J.env0.make C [] (ks.zip ws)) (hb.to _ _ ws J.kIn rfl (r.length.symm.trans l2)) (hb.rel r1 r) q1
/-- C() of a class without an __init__ of its own -/
def tMakeO (C : Addr) : TE := fun _ H Q => ∀ x dx, H x = none → H dx = none → dx ≠ x → Q (.ref x) (upd (upd H dx (.own x)) x (.ins C dx []))
theorem pe_makeO (mk : PySem.W.makesIn X.K C = true) (hi : PySem.W.findIn X.K (.ref C) "__init__" = some (some (.builtin "object.__init__"))) (kp : PySem.W.keepIn X.K (.ref C) = true) (hg : Gl X x) (hm : X.mg x = some (.ref C))
    (hdb : (x == ("__debug__" : Str)) = false := by decide) : PE X (.Call (.Name x p) [] [] pos) (tMakeO C) := by
  refine ⟨fun pins s σ H Q I h => ?_⟩
  refine wpAny_Call_Name_kw (ld_glob I hg hm ?_ hdb)
  refine PySem.W.callWith_K0 I.kIn kp (wpAny_call ?_)
  have J := Inv.made (C := C) I
  have q1 := h (s.heap.objs.size + 1) s.heap.objs.size (I.hok.fresh (Nat.le_succ _)) (I.hok.fresh (Nat.le_refl _)) (Nat.ne_of_lt (Nat.lt_succ_self _))
  have Y := PySem.W.makes_of (M := model X.prog X.w) I.kIn mk
  show codeAny _ _ (.call (.ref C) ⟨[], []⟩) _ _
  refine make_map0 I.kIn mk hi (fun self => .of_pure (PySem.W.oi_bind self)) ?_
  obtain ⟨hp, gs, dr, tks, os⟩ := s
  have t1 : PySem.W.Looks (model X.prog X.w) ((hp.push PySem.W.emptyDict).push (PySem.W.instObj C hp.objs.size)) (typeOf (.ref (hp.objs.size + 1))) (.ref C) :=
    (PySem.W.Looks.ld (part := none) (by heap_get)).andThen .now
  have t2 : PySem.W.Looks (model X.prog X.w) ((hp.push PySem.W.emptyDict).push (PySem.W.instObj C hp.objs.size)) (isInstance (.ref (hp.objs.size + 1)) (.type "object")) true :=
    t1.andThen (Y.top.keeps fun b o z => Heap.get?_push_of_some (PySem.W.instObj C hp.objs.size) (Heap.get?_push_of_some PySem.W.emptyDict z))
  refine codeAny_call_builtin PySem.W.oi_plain PySem.W.entry_oi (PySem.W.check_slot (M := model X.prog X.w) (s := ⟨(hp.push PySem.W.emptyDict).push (PySem.W.instObj C hp.objs.size), gs, dr, tks, os⟩) (rest := []) (kw := []) PySem.W.oi_kind PySem.W.oi_split t2 (PySem.W.oi_args _) ?_)
  rw [PySem.W.oi_run]
  exact wpAny_pure (And.intro rfl ⟨V.ref (hp.objs.size + 1), _, J, rfl, q1⟩)
end
end My

namespace My
open PySem PySem.Spec PyProof.Rows L2
/-! an own exception with one field -/
/-- what its __init__ promises -/
abbrev sp_exc1 (C : Addr) (f : Str) : Sp := Sp2 fun s v H Q _ => ∃ a, s = .ref a ∧ H a = some (exo a C none) ∧ ∀ dx, H dx = none → dx ≠ a → Q .non (upd (upd H dx (exd dx [(f, v)])) a (exo a C (some dx)))
/-- C(v), as it is raised: its own new dict holds the field -/
theorem mk_exc1 {C : Addr} {f : Str} {v : V} {H : Hp} {R : XK} (k : ∀ d, H d = none → R (.ref C) (some d) (upd H d (.xd [(f, v)]))) : ([v] : List V).length ≤ 1000 ∧ ∀ a, H a = none →
    sp_exc1 C f (.ref a :: ([v] ++ [])) (upd H a (exo a C none)) (fun u H2 => u = .non ∧ ∃ (d : Addr) (fs : List (Str × V)), H2 a = some (exo a C (some d)) ∧ H2 d = some (exd d fs) ∧ H d = none ∧ R (.ref C) (some d) (upd (L2.del H2 a) d (.xd fs))) (fun _ _ _ => False) := by
  refine ⟨by show 1 ≤ 1000; decide, fun a ha => ⟨_, _, rfl, a, rfl, upd_same, fun dx hdx ne => ⟨rfl, dx, [(f, v)], upd_same, ?_, ?_, ?_⟩⟩⟩
  · rw [upd_ne ne, upd_same]
  · rw [upd_ne ne] at hdx
    exact hdx
  · rw [upd_ne ne] at hdx
    have e : upd (L2.del (upd (upd (upd H a (exo a C none)) dx (exd dx [(f, v)])) a (exo a C (some dx))) a) dx (.xd [(f, v)]) = upd H dx (.xd [(f, v)]) := by
      funext b
      by_cases h1 : b = dx
      · rw [h1, upd_same, upd_same]
      · rw [upd_ne h1, upd_ne h1]
        by_cases h2 : b = a
        · rw [h2, L2.del_same, ha]
        · rw [L2.del_ne h2, upd_ne h2, upd_ne h1, upd_ne h2]
    rw [e]
    exact k dx hdx
theorem exm_own {K : PySem.W.Frag} {C D : Addr} {b : Bool} (h1 : PySem.W.subIn K (.ref D) (.type "BaseException") = some true) (h2 : PySem.W.isClsIn K D = true) (h3 : PySem.W.typeIn K (.ref D) = some (.type "type")) (h4 : PySem.W.subIn K (.ref C) (.ref D) = some b) :
    PySem.W.exmOne K (.ref C) (.ref D) = some b := by
  have e2 : (PySem.W.clsIn K D).isSome = true := h2
  simp only [PySem.W.exmOne, PySem.W.kitCls, h1, e2, h3, h4, beq_self_eq_true, Bool.and_self, if_true]
/-! defaults -/
theorem binds_nil {K : PySem.W.Frag} {fd : FuncData} {ps : List Str} {dvs : List V} (h0 : dvs = []) (h : ∃ ds, Vals dvs ds ∧ L2.Binds K fd ps ds) : L2.Binds K fd ps [] := by
  subst h0
  obtain ⟨ds, v, b⟩ := h
  cases v
  exact b
theorem binds_non {K : PySem.W.Frag} {fd : FuncData} {ps : List Str} {dvs : List V} (h0 : dvs = [.non]) (h : ∃ ds, Vals dvs ds ∧ L2.Binds K fd ps ds) : L2.Binds K fd ps [.none] := by
  subst h0
  obtain ⟨ds, v, b⟩ := h
  cases v with
  | cons r t =>
    cases t
    cases r
    exact b
theorem fun_kbnD {K : PySem.W.Frag} {x qual : Str} {params : Arguments} {body : List Stmt} {scope : Scope} {dvs : List V} {kws : List (Str × V)} {f : Addr} {fd : FuncData} {ps ks : List Str} {n : Nat} (ix : List Nat) (F : FunD K x qual params body scope dvs kws f fd) (hd : dvs ≠ [])
    (h : ∀ (T : Addr) (kV doc pm : Value) (an : Option Addr) (cdv ct : Value) (us its ws : List Value), us.length = n → its.length = dvs.length → ws.length = ks.length →
      ∃ k, bindArgs (PySem.W.fnOf x qual params body scope (.ref T) kV doc pm an cdv ct) ⟨us, ks.zip ws⟩ = seqItems? (.ref T) >>= k ∧ k (some its.toArray) = pure (ps.zip (pick ix (us ++ ws ++ its)))) :
    ∃ g, KBn K fd ps n ks g (fun vs zs => pick ix (vs ++ zs ++ dvs)) := by
  obtain ⟨oc, od, dV, kV, doc, pm, an, cdv, ct, osl, rfl, lk, hcd, hD, hK⟩ := F.ex
  rcases hD with ⟨e, _⟩ | ⟨_, T, o, its, m, rfl, lT, oT, rT⟩
  · exact absurd e hd
  · refine ⟨fun us ws => pick ix (us ++ ws ++ its), ⟨fun s us ws kin l1 l2 => ?_, fun r1 r2 => pick_rel ix ((r1.append r2).append rT)⟩⟩
    obtain ⟨k, e1, e2⟩ := h T kV doc pm an cdv ct us its ws l1 rT.length.symm l2
    refine BindsTo.of_looks fun M => ?_
    rw [e1]
    exact looks_items kin lT oT (.of_pure e2)
/-! a text, sign by sign -/
theorem for_str {x : Str} {g : TG} {tb : TS} {D : Ends} {σ : L2.St} {H : Hp} (Pv : Nat → L2.St → Hp → Prop) (h0 : Pv 0 σ H)
    (hs : ∀ i c σ H, x.cps.toList[i]? = some c → Pv i σ H → g (.str ⟨#[c]⟩) σ H fun σ2 H2 => tb { D with nx := Pv (i + 1), ct := Pv (i + 1), bk := D.nx } σ2 H2) (hd : ∀ σ H, Pv x.cps.size σ H → D.nx σ H) :
    ∃ W : Nat → Nat → L2.St → Hp → Prop, (∃ m, W 0 m σ H) ∧ ∀ i m σ H, W i m σ H →
      ((Its x).stop i H ∧ D.nx σ H) ∨ ((Its x).go i H ∧ ∃ N : L2.St → Hp → Prop, (∀ σ' H', N σ' H' → ∃ m', m' < m ∧ W (i + 1) m' σ' H') ∧ ∀ y H', (Its x).yld i H y H' → g y σ H' fun σ2 H2 => tb { D with nx := N, ct := N, bk := D.nx } σ2 H2) := by
  refine ⟨fun i m σ H => m + i = x.cps.size ∧ Pv i σ H, ⟨x.cps.size, by simp, h0⟩, ?_⟩
  rintro i m σ H ⟨hm, p⟩
  by_cases hlt : i < x.cps.size
  · refine .inr ⟨hlt, Pv (i + 1), fun σ' H' p' => ⟨m - 1, by omega, by omega, p'⟩, fun y H' hy => ?_⟩
    obtain ⟨e, c, hc, ey⟩ := hy
    subst e ey
    refine hs i c σ _ ?_ p
    rw [Array.getElem?_toList]
    exact hc
  · have e : i = x.cps.size := by omega
    subst e
    exact .inl ⟨Nat.le_refl _, hd σ H p⟩
end My
namespace My
open PySem PySem.Spec PyProof.Rows L2
/-- a call that raises nothing where it stands -/
theorem passL0 {X : Cx} (σ : L2.St) : PassesAt (L2.CX X.prog X.w) X σ E0 := fun _ _ _ _ _ _ h => by
  obtain ⟨_, _, _, _, _, _, _, _, _, _, _, _, z⟩ := h
  exact z.elim
end My
namespace My
open PySem PySem.Spec PyProof.Rows L2
/-! rules with the written part named, for the bodies of a try -/
theorem ix_listK {X : Cx} {K : PySem.W.Frag} (h : X.K = K) : IxR X (rIxL K) := by subst h; exact ix_list
theorem ix_tupK {X : Cx} {K : PySem.W.Frag} (h : X.K = K) : IxR X (rIxT K) := by subst h; exact ix_tup
theorem pe_fldK {X : Cx} {K : PySem.W.Frag} {e : Expr} {te : TE} {f : Str} {pos : Pos} (hk : X.K = K) (h : PE X e te) (hb : attributeBase e f X.env (eval e X.env) = eval e X.env) : PE X (.Attribute e f pos) (tFld K te f) := by subst hk; exact pe_fld h hb
theorem call_isiK2 {X : Cx} {K : PySem.W.Frag} (h : X.K = K) : CallR X (.builtin "isinstance") (rIsi K) := by subst h; exact call_isi
theorem call_isiTK {X : Cx} {K : PySem.W.Frag} (h : X.K = K) : CallR X (.builtin "isinstance") (rIsiT K) := by subst h; exact call_isiT
theorem call_lenK {X : Cx} {K : PySem.W.Frag} (h : X.K = K) : CallR X (.builtin "len") (fun xs H Q => ∃ x n, xs = [x] ∧ LenV K x H n ∧ Q (.int n) H) := by subst h; exact call_len
theorem call_list_ofK {X : Cx} {K : PySem.W.Frag} (h : X.K = K) : CallR X (.type "list") (fun xs H Q => ∃ p ys, xs = [.ref p] ∧ (SqL K H p ys ∨ SqT K H p ys) ∧ ∀ l, H l = none → Q (.ref l) (upd H l (.lst ys))) := by subst h; exact call_list_of
theorem call_tuple_ofK {X : Cx} {K : PySem.W.Frag} (h : X.K = K) : CallR X (.type "tuple") (fun xs H Q => ∃ p ys, xs = [.ref p] ∧ ((SqL K H p ys ∧ ∀ l, H l = none → Q (.ref l) (upd H l (.tup ys))) ∨ (SqT K H p ys ∧ Q (.ref p) H))) := by subst h; exact call_tuple_of
theorem op_in_seqK {X : Cx} {K : PySem.W.Frag} (h : X.K = K) : OpR X (compareOp .In) (rIn K false) := by subst h; exact op_in_seq
theorem op_notIn_seqK {X : Cx} {K : PySem.W.Frag} (h : X.K = K) : OpR X (compareOp .NotIn) (rIn K true) := by subst h; exact op_notIn_seq
end My

namespace My
open PySem PySem.Spec PyProof.Rows L2 AutoSeq1
/-! enumerate of a tuple -/
theorem new_enum_tup (t : Addr) (its : Array Value) (n : Nat) (dct : Option Addr) (sl : Array (Option Value)) :
    Meets (Builtin.«enumerate.__new__» ⟨[.type "enumerate", .ref t], []⟩) (fun _ R s => s.heap.get? t = some { cls := .type "tuple", dict := dct, data := .seq its n, slots := sl } ∧ R (.ok (.ret (.ref (s.heap.push { cls := .type "tuple_iterator", data := .fields #[.ref t, .int 0 0] }).objs.size)))
      { s with heap := (s.heap.push { cls := .type "tuple_iterator", data := .fields #[.ref t, .int 0 0] }).push { cls := .type "enumerate", data := .fields #[.none, .bool false, .ref s.heap.objs.size, rawInt 0, .none, .none] } }) :=
  .of_wp fun prog w A R s h => by
    obtain ⟨hp, gs, dr, tk, os⟩ := s
    obtain ⟨hl, h⟩ := h
    have sub := sub_enumerate
    have tT : Heap.IsTuple (Shared.heap ⟨hp, gs, dr, tk, os⟩) t its := ⟨_, hl, rfl, n, rfl⟩
    wp_walk using wpAny_loadPart' hl
    refine wpAny_stack_any fun st => wpAny_pure ?_
    split
    · rename_i c _ _ _ _ _
      cases c == Value.type "enumerate" <;> (wp_walk using wpAny_loadPart' hl, wpAny_pyIter_tuple tT; exact ⟨_, rfl, h⟩)
    · (wp_walk using wpAny_loadPart' hl, wpAny_pyIter_tuple tT); exact ⟨_, rfl, h⟩
section
variable {prog : Program} {w : World} {A : Around} {E : Value → Shared → Prop} {s : Shared}
theorem call_enum_tup {t : Addr} {its : Array Value} {Q : Value → Shared → Prop} (tT : s.heap.IsTuple t its)
    (h : ∀ h', IsEnum h' (s.heap.objs.size + 1) s.heap.objs.size 0 .none → h'.IsTupleIter s.heap.objs.size t 0 → (∀ b o, s.heap.get? b = some o → h'.get? b = some o) → Q (.ref (s.heap.objs.size + 1)) { s with heap := h' }) :
    wpAny (model prog w) A (call (.type "enumerate") [.ref t]) Q E s := by
  obtain ⟨⟨c, dct, dt, sl⟩, hl, hc, n, hd⟩ := tT
  obtain rfl : c = .type "tuple" := hc
  obtain rfl : dt = .seq its n := hd
  refine callType_new F.called_enumerate (by decide) (F.typeCall_enumerate_1 _) (F.newCall_enumerate_1 _) (fun obj => F.args_object_init_2 obj _) F.entry_enumerate_new (new_enum_tup t its n dct sl) ⟨hl, ?_⟩
  generalize hi : ({ cls := .type "tuple_iterator", data := .fields #[.ref t, .int 0 0] } : Obj) = io
  have sz : (s.heap.push io).objs.size = s.heap.objs.size + 1 := Heap.size_push ..
  show _ ∧ _
  rw [sz]
  generalize hj : ({ cls := .type "enumerate", data := .fields #[.none, .bool false, .ref s.heap.objs.size, rawInt 0, .none, .none] } : Obj) = eo
  have ge : ((s.heap.push io).push eo).get? (s.heap.objs.size + 1) = some eo := by
    have q := Heap.get?_push_size (s.heap.push io) (o := eo) (by rw [← hj]; rfl)
    rw [sz] at q
    exact q
  have he : IsEnum ((s.heap.push io).push eo) (s.heap.objs.size + 1) s.heap.objs.size 0 .none := by rw [← hj] at ge ⊢; exact ge
  exact ⟨⟨eo, ge, by rw [← hj]⟩, h _ he ⟨io, Heap.get?_push_of_some _ (Heap.get?_push_size _ (by rw [← hi]; rfl)), by rw [← hi], by rw [← hi]; rfl⟩ fun b o x => Heap.get?_push_of_some _ (Heap.get?_push_of_some _ x)⟩
end
/-- the tuple at a, each item in a new pair -/
def IteT (K : PySem.W.Frag) (a : Addr) : It :=
  ⟨fun i H => ∃ (xs : List V) (x : V), SqT K H a xs ∧ xs[i]? = some x, fun i H v H' => ∃ T x, v = .ref T ∧ H T = none ∧ H' = upd H T (.tup [.int (i : Nat), x]) ∧ ∀ xs, SqT K H a xs → xs[i]? = some x, fun i H => ∃ xs : List V, SqT K H a xs ∧ xs.length ≤ i⟩
theorem turn_enumT {P : Program} {w : World} {K : PySem.W.Frag} {elts : List Expr} {kk : Nat} {tpos : Pos} (a e it : Addr) (hat : a ≠ it) :
    Turn P w K (.Tuple elts kk tpos) (IteT K a) [e, it] e (fun i h => (∃ old, IsEnum h e it ((i : Nat) : Int) old) ∧ h.IsTupleIter it a i ∧ e ≠ it ∧ e ≠ a) where
  mem := List.mem_cons_self ..
  obj := fun i h st b hb => by
    obtain ⟨⟨old, he⟩, ⟨o, ho, hc, hd⟩, _⟩ := st
    rcases List.mem_cons.mp hb with z | hb
    · rw [z]; exact ⟨_, he, fun v q => nomatch q⟩
    · rw [List.mem_singleton.mp hb]; exact ⟨o, ho, fun v q => by rw [hd] at q; cases q⟩
  keep := fun i h h' st k => by
    obtain ⟨⟨old, he⟩, hi, ne⟩ := st
    exact ⟨⟨old, k e (List.mem_cons_self ..) _ he⟩, hi.at fun o q => k it (by simp) o q, ne⟩
  item := by
    intro X hP hw hK hc i pins s σ H E I hf st hg
    subst hP hw hK
    obtain ⟨⟨old, he⟩, hit, hne, hea⟩ := st
    obtain ⟨xs, x, hq, hx⟩ := hg
    obtain ⟨its, rv, p, hz⟩ := I.tuple hq
    have pT : s.heap.IsTuple a its.toArray := p
    obtain ⟨u, hu, ru⟩ := rv.get hx
    have hil : i < its.toArray.size := by
      rw [List.size_toArray]
      exact (List.getElem?_eq_some_iff.mp hu).1
    have lte : e < s.heap.objs.size := Heap.lt_size he
    have lti : it < s.heap.objs.size := by obtain ⟨_, q, _⟩ := hit; exact Heap.lt_size q
    have D := Draws.tuple (prog := X.prog) (w := X.w) (A := X.A.in1) (I.ok.hd hc) it a hat its.toArray
    refine wpAny_pyNext_enum_itemD D he ⟨hit, pT⟩ hil hne (by simp [hne, hea]) fun y h' tk hy ho hst hT hsz hk => ?_
    have ey : y = u := by
      have hy2 : its.toArray[i]? = some y := hy
      rw [List.getElem?_toArray, hu] at hy2
      exact (Option.some.inj hy2).symm
    subst ey
    refine ⟨_, rfl, wpAny_letOwnedTupleGo_enum (s := { s with heap := h', toks := tk + 1 }) ho fun h'' he' sb => ?_⟩
    have T2 : h''.get? s.heap.objs.size = some { cls := .type "tuple", data := .seq #[.int i tk, y] } := (sb.2 _ (Nat.ne_of_gt lte)).trans hT
    have I1 : Inv X pins σ (upd H s.heap.objs.size (.tup [.int (i : Nat), x])) { s with heap := h'', toks := tk + 1 } :=
      I.turnedNew (ch := [e, it]) (fun b ob hb q => (sb.2 b (fun z => hb (by simp [z]))).trans (hk b ob (fun z => hb (by simp [z])) (fun z => hb (by simp [z])) q)) hf (Nat.le_refl _)
        ⟨by show 2 ≤ sizeLine; decide, [.int i tk, y], .cons ⟨_, rfl⟩ (.cons ru .nil), ⟨_, T2, rfl, _, rfl⟩⟩
    refine ⟨.ref s.heap.objs.size, _, I1, rfl, ⟨_, x, rfl, I.hok.fresh (Nat.le_refl _), rfl, fun ys hy => by rw [I.tuple_inj hy hq]; exact hx⟩, ⟨⟨y, ?_⟩, hst.1.at fun o q => (sb.2 it (Ne.symm hne)).trans q, hne, hea⟩, fun b hb => ?_⟩
    · rw [show ((i + 1 : Nat) : Int) = (i : Int) + 1 by omega]
      exact he'
    · have lt : b < s.heap.objs.size := by
        rcases List.mem_cons.mp hb with z | hb
        · rw [z]; exact lte
        · rw [List.mem_singleton.mp hb]; exact lti
      rw [upd_ne (Nat.ne_of_lt lt)]
      exact (hf b hb).1
  done := by
    intro X hP hw hK hc i pins s σ H E I hf st hg
    subst hP hw hK
    obtain ⟨⟨old, he⟩, hit, hne, hea⟩ := st
    obtain ⟨xs, hq, hx⟩ := hg
    obtain ⟨its, rv, p, hz⟩ := I.tuple hq
    have pT : s.heap.IsTuple a its.toArray := p
    obtain ⟨f0, f1, f2, f3, f4, f5⟩ := hf it (by simp)
    have hA : X.A.handled = none := I.ok.hd hc
    have hT : s.TypeIs (.ref e) "enumerate" := ⟨_, he, rfl⟩
    unfold pyNext
    refine wpAny_bind (wpAny_attempt (wpAny_callSpecial?_slot (name := Str.ofString "__next__") hT F.slot_enumerate_next (wpAny_call_entry F.slot_enumerate_next hT F.entry_enumerate_next ?_ (F.args_enumerate_next_1 _))))
    show wpAny _ _ (field (.ref e) 2 >>= _) _ _ _
    refine wpAny_bind (wpAny_field he rfl (x := .ref it) rfl ?_)
    have hn : its.toArray[i]? = none := by
      have l := rv.length
      rw [List.getElem?_toArray]
      exact List.getElem?_eq_none (by omega)
    refine wpAny_bind (wpAny_nextOf_tuple_end (A := X.A.in1) hA hit pT hn fun h' x ex hx' => ?_)
    obtain ⟨o, ho, hc⟩ := hx'
    refine wpAny_bind (wpAny_isInstance (T := "StopIteration") (b := true) ⟨o, ho, hc⟩ isSubtype_stop ?_)
    exact wpAny_pure ⟨rfl, I.turned (t' := s.toks) (fun b o hb q => ex b o hb q) f0 f1 f3 f4 f5⟩
  self := fun A i s Q E st h => by
    obtain ⟨⟨_, he⟩, _⟩ := st
    exact wpAny_pyIter_enum he h
/-- enumerate of a list or of a tuple -/
def iEnumA (K : PySem.W.Frag) (ta : TA) : TI := fun σ H R => ta σ H fun vs H1 => ∃ a xs, vs = [.ref a] ∧ ((SqL K H1 a xs ∧ R (Ite K a) H1) ∨ (SqT K H1 a xs ∧ R (IteT K a) H1))
theorem pi_enumA {X : Cx} {e : Expr} {ta : TA} {p pos tpos : Pos} {elts : List Expr} {kk : Nat} (hg : Gl X "enumerate") (hm : X.mg "enumerate" = none) (ha : PA X [e] ta) (hs : starEach [e] X.env = [(false, eval e X.env)] := by rfl) :
    PI X (.Tuple elts kk tpos) (.Call (.Name "enumerate" p) [e] [] pos) (iEnumA X.K ta) := by
  refine ⟨fun pins s σ H R I h => ?_⟩
  refine Call_ (ld_blt I hg hm boot_enumerate (PyProof.Rows.callWith_type1 (thn (ha.run pos pins s σ H _ I h) fun us s1 ⟨vs, H1, I1, r1, q1⟩ => ?_) hs rfl))
  obtain ⟨a, xs, ex, q1⟩ := q1
  subst ex
  cases r1 with
  | cons r rr =>
    cases rr
    cases r
    have fr2 : ∀ b ∈ [s1.heap.objs.size + 1, s1.heap.objs.size], FpOk X pins H1 b := fun b hb => by
      have hle : s1.heap.objs.size ≤ b := by
        rcases List.mem_cons.mp hb with z | hb
        · rw [z]; exact Nat.le_add_right _ _
        · rw [List.mem_singleton.mp hb]; exact Nat.le_refl _
      exact I1.fpOk hle (I1.hok.fresh hle)
    rcases q1 with ⟨hq, q⟩ | ⟨hq, q⟩
    · obtain ⟨its, rv, p', hz⟩ := I1.list hq
      refine call_enumerate_list p'.isList fun h' he hit hsz hk => wpAny_pyIter_enum he ?_
      have I2 : Inv X pins σ H1 { s1 with heap := h' } := I1.kept (t' := s1.toks) hk
      exact ⟨s1.heap.objs.size + 1, [s1.heap.objs.size + 1, s1.heap.objs.size], _, _, H1, rfl, I2, turn_enum a (s1.heap.objs.size + 1) s1.heap.objs.size, ⟨⟨.none, he⟩, hit, Nat.succ_ne_self _⟩, fr2, q⟩
    · obtain ⟨its, rv, p', hz⟩ := I1.tuple hq
      have pT : s1.heap.IsTuple a its.toArray := p'
      have lta : a < s1.heap.objs.size := by obtain ⟨_, z, _⟩ := pT; exact Heap.lt_size z
      refine call_enum_tup pT fun h' he hit hk => wpAny_pyIter_enum he ?_
      have I2 : Inv X pins σ H1 { s1 with heap := h' } := I1.kept (t' := s1.toks) hk
      exact ⟨s1.heap.objs.size + 1, [s1.heap.objs.size + 1, s1.heap.objs.size], _, _, H1, rfl, I2, turn_enumT a (s1.heap.objs.size + 1) s1.heap.objs.size (Nat.ne_of_lt lta), ⟨⟨.none, he⟩, hit, Nat.succ_ne_self _, Nat.ne_of_gt (Nat.lt_succ_of_lt lta)⟩, fr2, q⟩
theorem walk_enumT {K : PySem.W.Frag} {a : Addr} {xs : List V} : Walk (IteT K a) xs.length (fun H => SqT K H a xs) (YPair (fun i => some (.int (i : Nat))) (fun i => xs[i]?)) := by
  refine ⟨fun i _ hi q => ⟨xs, xs[i], q, by simp [hi]⟩, fun _ q => ⟨xs, q, Nat.le_refl _⟩, fun i H v H' _ q y => ?_⟩
  obtain ⟨T, x, h1, h2, h3, h4⟩ := y
  exact ⟨T, .int (i : Nat), x, h1, h2, h3, rfl, h4 xs q⟩
/-- a walk of one of two kinds -/
theorem pi_or {X : Cx} {tg e : Expr} {w1 w2 : TI} (h1 : PI X tg e w1) (h2 : PI X tg e w2) : PI X tg e (fun σ H R => w1 σ H R ∨ w2 σ H R) :=
  ⟨fun pins s σ H R I h => h.elim (h1.run pins s σ H R I) (h2.run pins s σ H R I)⟩
end My

namespace My
open PySem PySem.Spec PyProof.Rows L2
/-! set comprehensions over ints, of one and of two clauses: one theorem for a clause's loop, used at both depths -/
section
variable {prog : Program} {w : World} {A : Around} {R : Result → Shared → Prop} {s : Shared} {e : Expr} {k : Nat} {tg iter : Expr} {ifs : List Expr} {it acc : Value} {env : Env} {body : Value → Env → Sem Unit}
def testsIn (ifs : List Expr) (env : Env) : Sem Bool := forIn ifs true fun c r => if r = true then do let ok ← isTrue c env (eval c env); pure (ForInStep.yield ok) else pure (ForInStep.yield r)
/-- one turn of a clause, as a program -/
def turnOf (e : Expr) (k : Nat) (tg iter : Expr) (ifs : List Expr) (body : Value → Env → Sem Unit) (it acc : Value) (env : Env) := (do
  standAt iter.pos
  match ← pyNext it with
  | none => pure (.done .next)
  | some v =>
    letOwnedTupleGo tg it v
    assign tg env v
    let ok ← testsIn ifs env
    if ok then
      body acc env
    again (.compLoop e k it acc env) : Sem Fin)
/-- what is asked of a turn -/
def TurnR (prog : Program) (w : World) (A : Around) (R : Result → Shared → Prop) (tg : Expr) (ifs : List Expr) (it : Value) (env : Env) (bd : Sem Unit) (I : Nat → Shared → Prop) : Prop :=
  ∀ n s, I n s →
    let M := model prog w
    let B := notedBy M A env fun x s' => R (.error x) s'
    wpAny M A (pyNext it) (fun r s₁ => match r with
      | none => R (.ok .next) s₁
      | some v => wpAny M A (letOwnedTupleGo tg it v) (fun _ s₂ => wpAny M A (assign tg env v) (fun _ s₃ => wpAny M A (testsIn ifs env)
          (fun ok s₄ => if ok = true then wpAny M A bd (fun _ s₅ => ∃ m, m < n ∧ I m s₅) B s₄ else ∃ m, m < n ∧ I m s₄) B s₃) B s₂) B s₁) B s
theorem loopR (hU : A.under (.compLoop e k it acc env) = A) (hD : (model prog w).den (.compLoop e k it acc env) = (compTurn e k it acc env).onRaise (fun x => do noteFrame x env; theTreesLotGoes x)) (hT : compTurn e k it acc env = turnOf e k tg iter ifs body it acc env) (I : Nat → Shared → Prop) (turn : TurnR prog w A R tg ifs it env (body acc env) I) (n : Nat) (h : I n s) :
    codeAny (model prog w) A (.compLoop e k it acc env) R s := by
  refine codeAny_loop rfl I (fun n s hI => ?_) n h
  rw [hD, hU, hT]
  refine wpAny_noted (wpAny_bind (wpAny_standAt (wpAny_bind (wpAny_mono (turn n s hI) (fun r s₁ h₁ => ?_) fun _ _ q => q))))
  cases r with
  | none => exact wpAny_pure h₁
  | some v =>
    refine wpAny_bind (wpAny_mono h₁ (fun _ s₂ h₂ => wpAny_bind (wpAny_mono h₂ (fun _ s₃ h₃ => wpAny_bind (wpAny_mono h₃ (fun ok s₄ h₄ => ?_) fun _ _ q => q)) fun _ _ q => q)) fun _ _ q => q)
    cases ok with
    | false => exact wpAny_pure ⟨rfl, h₄⟩
    | true => exact wpAny_bind (wpAny_mono h₄ (fun _ s₅ h₅ => wpAny_pure ⟨rfl, h₅⟩) fun _ _ q => q)
end

/-! a clause's loop within a comprehension's block -/
def SlotsKept (σ σ' : L2.St) : Prop := σ.length = σ'.length ∧ ∀ (j : Nat) (v : V), σ[j]? = some (some v) → σ'[j]? = some (some v)
theorem SlotsKept.refl (σ : L2.St) : SlotsKept σ σ := ⟨rfl, fun _ _ q => q⟩
theorem SlotsKept.trans {a b c : L2.St} (h : SlotsKept a b) (g : SlotsKept b c) : SlotsKept a c := ⟨h.1.trans g.1, fun j v q => g.2 j v (h.2 j v q)⟩
theorem kept_wipe {σ σ2 : L2.St} {vs : List Nat} (h : wipe σ2 vs = wipe σ vs) : SlotsKept (wipe σ vs) σ2 := ⟨by rw [← h, wipe_length], fun j v q => by rw [← h] at q; exact (wipe_some q).1⟩
/-- the invariant's side of a turn: Tr what the reading says once the item is stored and the tests are passed -/
def ClauseW (J : It) (W : Nat → Nat → Hp → Prop) (σ : L2.St) (g : TG) (tt : TT) (Tr : (Hp → Prop) → L2.St → Hp → Prop) (Qd : Hp → Prop) : Prop := ∀ i m H, W i m H →
  (J.stop i H ∧ Qd H) ∨ (J.go i H ∧ ∃ Nx : Hp → Prop, (∀ H', Nx H' → ∃ m', m' < m ∧ W (i + 1) m' H') ∧ ∀ x H', J.yld i H x H' → g x σ H' fun σ2 H2 => SlotsKept σ σ2 ∧ tt σ2 H2 fun b H3 => if b = true then Tr Nx σ2 H3 else Nx H3)
section
variable {X : Cx} {sB : Shared} {HB : Hp} {scope : Scope} {ce : Env} {fpB : List Addr}
theorem clause_loop {pins : List (Addr × Obj)} {s : Shared} {σ : L2.St} {H : Hp} {R : Result → Shared → Prop} {e : Expr} {k : Nat} {tg iter : Expr} {ifs : List Expr} {acc : Value} {body : Value → Env → Sem Unit} {it : Addr} {fp : List Addr} {tn : Nat → Heap → Prop} {J : It} {g : TG} {tt : TT}
    {W : Nat → Nat → Hp → Prop} {Tr : (Hp → Prop) → L2.St → Hp → Prop} {Qd : Hp → Prop} {m0 : Nat} (hc : X.calm = true) (hU : X.A.under (.compLoop e k (.ref it) acc ce) = X.A) (hD : (model X.prog X.w).den (.compLoop e k (.ref it) acc ce) = (compTurn e k (.ref it) acc ce).onRaise (fun x => do noteFrame x ce; theTreesLotGoes x)) (hT : compTurn e k (.ref it) acc ce = turnOf e k tg iter ifs body (.ref it) acc ce) (T : Turn X.prog X.w X.K tg J fp it tn)
    (pg : PG (X.blk sB HB scope ce fpB) tg g) (pt : PTs (X.blk sB HB scope ce fpB) ifs tt) (I : Inv (X.blk sB HB scope ce fpB) pins σ H s) (st : tn 0 s.heap) (f : ∀ b ∈ fp, FpOk (X.blk sB HB scope ce fpB) pins H b)
    (w0 : W 0 m0 H) (cw : ClauseW J W σ g tt Tr Qd)
    (hbody : ∀ (pp : List (Addr × Obj)) (σ2 : L2.St) (H3 : Hp) (s3 : Shared) (Nx : Hp → Prop), Inv (X.blk sB HB scope ce fpB) pp σ2 H3 s3 → SlotsKept σ σ2 → Tr Nx σ2 H3 →
      wpAny (model X.prog X.w) X.A (body acc ce) (fun _ s4 => ∃ σ4 H4, Inv (X.blk sB HB scope ce fpB) pp σ4 H4 s4 ∧ SlotsKept σ σ4 ∧ Nx H4) (fun _ _ => False) s3)
    (done : ∀ H' s', Inv (X.blk sB HB scope ce fpB) pins σ H' s' → Qd H' → R (.ok .next) s') :
    codeAny (model X.prog X.w) X.A (.compLoop e k (.ref it) acc ce) R s := by
  have stat : ∀ {H' : Hp}, (∀ b ∈ fp, H' b = none) → ∀ b ∈ fp, FpOk (X.blk sB HB scope ce fpB) pins H' b := fun hn b hb => ⟨hn b hb, (f b hb).2⟩
  refine loopR hU hD hT (fun n s' => ∃ i H', Inv (X.blk sB HB scope ce fpB) pins σ H' s' ∧ tn i s'.heap ∧ (∀ b ∈ fp, H' b = none) ∧ W i n H') ?_ m0 ⟨0, H, I, st, fun b hb => (f b hb).1, w0⟩
  rintro n s5 ⟨i, H5, I5, st5, n5, w5⟩
  rcases cw i n H5 w5 with ⟨stop, qd⟩ | ⟨go, Nx, hNx, step⟩
  · refine thnF (T.done (X.blk sB HB scope ce fpB) rfl rfl rfl hc i pins s5 σ H5 (fun _ _ => False) I5 (stat n5) st5 stop) fun r s6 ⟨hr, I6⟩ => ?_
    subst hr
    exact done _ _ I6 qd
  · refine thnF (T.item (X.blk sB HB scope ce fpB) rfl rfl rfl hc i pins s5 σ H5 (fun _ _ => False) I5 (stat n5) st5 go) fun r s6 ⟨u, hr, h6⟩ => ?_
    subst hr
    refine thnF h6 fun _ s7 ⟨x, H7, I7, r7, y7, st7, n7⟩ => ?_
    refine thnF (pg.run _ s7 σ H7 x u _ (I7.pinned (stat n7) (T.obj _ _ st7)) r7 (step x H7 y7)) fun _ s8 ⟨σ8, H8, I8, kept8, q8⟩ => ?_
    refine thnF (pt.run _ s8 σ8 H8 _ I8 q8) fun b s9 ⟨H9, I9, q9⟩ => ?_
    have back : ∀ (σ9 : L2.St) (s' : Shared) (H' : Hp), Inv (X.blk sB HB scope ce fpB) (pins ++ pinsAt fp s7.heap) σ9 H' s' → SlotsKept σ σ9 → Nx H' → ∃ m, m < n ∧ ∃ i H', Inv (X.blk sB HB scope ce fpB) pins σ H' s' ∧ tn i s'.heap ∧ (∀ b ∈ fp, H' b = none) ∧ W i m H' := by
      intro σ9 s' H' I' kp nx
      obtain ⟨m', lt, w'⟩ := hNx H' nx
      have at7 : ∀ b ∈ fp, ∀ o, s7.heap.get? b = some o → s'.heap.get? b = some o ∧ H' b = none := by
        intro b hb o q
        have z := I'.pin (b, o) (List.mem_append_right _ (List.mem_append_right _ (mem_pinsAt hb q)))
        exact ⟨z.1, z.2.1⟩
      refine ⟨m', lt, i + 1, H', I'.unpinned.weak kp.1 kp.2, T.keep _ _ _ st7 (fun b hb o q => (at7 b hb o q).1), ?_, w'⟩
      intro b hb
      obtain ⟨o, q, _⟩ := T.obj _ _ st7 b hb
      exact (at7 b hb o q).2
    cases b with
    | false => exact back σ8 s9 H9 I9 kept8 q9
    | true => exact thnF (hbody _ σ8 H9 s9 Nx I9 kept8 q9) fun _ s10 ⟨σ10, H10, I10, kept10, nx⟩ => back σ10 s10 H10 I10 kept10 nx
end

/-! the block's start, for any maker of the new thing -/
section
variable {X : Cx}
/-- the frame of a comprehension: the first source is walked, the new thing laid at D, the block entered -/
theorem comp_frame {e : Expr} {newAcc : Sem Value} {init : Addr → HO} {pins : List (Addr × Obj)} {s : Shared} {σ : L2.St} {H : Hp} {Q : VK} {tg iter : Expr} {ifs : List Expr} {rest : List Comprehension} {scope : Scope} {own : List (PySem.Str × Nat)} {pos' : Pos} {wi : TI} {g : TG} {tt : TT}
    {body : Value → Env → Sem Unit} {Tr : Addr → (Hp → Prop) → L2.St → Hp → Prop} {Qf : Value → Shared → Prop}
    (hcl : clausesOf e = ⟨tg, iter, ifs, 0⟩ :: rest)
    (hnew : ∀ (s2 : Shared) (σ : L2.St) (H2 : Hp) (Q : Value → Shared → Prop), Inv X pins σ H2 s2 → (∀ (s3 : Shared) (D : Addr), D = s2.heap.objs.size → (∀ b o, s2.heap.get? b = some o → s3.heap.get? b = some o) → s2.heap.objs.size < s3.heap.objs.size → Inv X pins σ (upd H2 D (init D)) s3 → Q (.ref D) s3) → wpAny (model X.prog X.w) X.A newAcc Q X.xe s2)
    (hstart : ∀ (it D : Addr) (ce : Env) (R : Result → Shared → Prop) (s : Shared), codeAny (model X.prog X.w) X.A (.compLoop e 0 (.ref it) (.ref D) ce) R s → (∀ E : Value → Shared → Prop, wpAny (model X.prog X.w) X.A (pyIter (.ref it)) (fun it' s' => codeAny (model X.prog X.w) X.A (.compLoop e 0 it' (.ref D) ce) R s') E s) → codeAny (model X.prog X.w) X.A (.compStart e 0 (.ref it) (.ref D) ce) R s)
    (hU : ∀ (it D : Addr) (ce : Env), X.A.under (.compLoop e 0 (.ref it) (.ref D) ce) = X.A) (hD : ∀ (it D : Addr) (ce : Env), (model X.prog X.w).den (.compLoop e 0 (.ref it) (.ref D) ce) = (compTurn e 0 (.ref it) (.ref D) ce).onRaise (fun x => do noteFrame x ce; theTreesLotGoes x))
    (hT : ∀ (it D : Addr) (ce : Env), compTurn e 0 (.ref it) (.ref D) ce = turnOf e 0 tg iter ifs body (.ref it) (.ref D) ce)
    (hc : X.calm = true) (hN : X.N.Nodup) (I : Inv X pins σ H s) (hi : PI X tg iter wi) (ok : BlkOk X.N X.env.scope scope own) (hs : ∀ x, foldedSetIterable iter X.env x = pure x)
    (hg : ∀ (s : Shared) (H : Hp) (C : Addr) (cl : List (PySem.Str × Addr)) (fp : List Addr), PG (X.blk s H scope (compEnvC scope cl C X.env) fp) tg g) (ht : ∀ (s : Shared) (H : Hp) (C : Addr) (cl : List (PySem.Str × Addr)) (fp : List Addr), PTs (X.blk s H scope (compEnvC scope cl C X.env) fp) ifs tt)
    (hb : ∀ (s0 : Shared) (H0 : Hp) (C : Addr) (cl : List (PySem.Str × Addr)) (fp : List Addr) (D : Addr) (pp : List (Addr × Obj)) (σ2 : L2.St) (H3 : Hp) (s3 : Shared) (Nx : Hp → Prop), Inv (X.blk s0 H0 scope (compEnvC scope cl C X.env) fp) pp σ2 H3 s3 → SlotsKept (wipe σ (own.map (·.2))) σ2 → Tr D Nx σ2 H3 →
      wpAny (model X.prog X.w) X.A (body (.ref D) (compEnvC scope cl C X.env)) (fun _ s4 => ∃ σ4 H4, Inv (X.blk s0 H0 scope (compEnvC scope cl C X.env) fp) pp σ4 H4 s4 ∧ SlotsKept (wipe σ (own.map (·.2))) σ4 ∧ Nx H4) (fun _ _ => False) s3)
    (h : wi σ H fun J H1 => ∀ D, H1 D = none → ∃ W : Nat → Nat → Hp → Prop, (∃ m, W 0 m (upd H1 D (init D))) ∧ ClauseW J W (wipe σ (own.map (·.2))) g tt (Tr D) (fun H2 => Q (.ref D) H2))
    (hQ : ∀ D H' s', Inv X pins σ H' s' → Q (.ref D) H' → Qf (.ref D) s') :
    wpAny (model X.prog X.w) X.A (comprehension e scope X.env pos' newAcc false (eval iter X.env) none) Qf X.xe s := by
  have hfree : ∀ y ∈ scope.names, y.2 = .free → ∃ c, X.env.cells.lookup y.1 = some c := by
    intro y hy q
    rcases ok.free y hy q with k | k
    · exact I.ok.has _ (.inl k)
    · exact I.ok.has _ (.inr k)
  refine wpAny_comprehension_free (use := none) hcl hs (closure_ok hfree) ok.kind (fun y hy q => by rw [ok.uniq y hy, q]) ?_
  refine thn (hi.run pins s σ H _ I h) fun xv s1 hx => thn hx fun itv s2 h2 => ?_
  obtain ⟨it, fp, tn, J, H2, rfl, I2, T, st2, f2, q⟩ := h2
  refine hnew s2 σ H2 _ I2 fun s3 D eD kp grown I3 => newEnv_comp ?_
  have hDn : H2 D = none := I2.hok.fresh (Nat.le_of_eq eD.symm)
  obtain ⟨W, ⟨m0, w0⟩, cw⟩ := q D hDn
  have f3 : ∀ b ∈ fp, FpOk X pins (upd H2 D (init D)) b ∧ b < s3.heap.objs.size := by
    intro b hb
    obtain ⟨o, q, _⟩ := T.obj _ _ st2 b hb
    have lt := Heap.lt_size q
    refine ⟨⟨?_, (f2 b hb).2⟩, Nat.lt_trans lt grown⟩
    rw [upd_ne (by rw [eD]; exact Nat.ne_of_lt lt)]
    exact (f2 b hb).1
  have st3 : tn 0 s3.heap := T.keep _ _ _ st2 fun b _ o q => kp b o q
  have I4 := block_start I3 ok hN f3
  have pg := fun fp' => hg s3 (upd H2 D (init D)) s3.heap.objs.size (cellsFrom (s3.heap.objs.size + 1) scope.names (cloFrom X.env.cells scope.names [])) fp'
  have pt := fun fp' => ht s3 (upd H2 D (init D)) s3.heap.objs.size (cellsFrom (s3.heap.objs.size + 1) scope.names (cloFrom X.env.cells scope.names [])) fp'
  have pb := fun fp' => hb s3 (upd H2 D (init D)) s3.heap.objs.size (cellsFrom (s3.heap.objs.size + 1) scope.names (cloFrom X.env.cells scope.names [])) fp' D
  have nfp : ∀ b ∈ fp, (upd H2 D (init D)) b = none := fun b hb => (f3 b hb).1.1
  have cL : (compEnvC scope (cellsFrom (s3.heap.objs.size + 1) scope.names (cloFrom X.env.cells scope.names [])) s3.heap.objs.size X.env).locals = s3.heap.objs.size := rfl
  show codeAny _ _ (.compStart e 0 (.ref it) (.ref D) (compEnvC scope (cellsFrom (s3.heap.objs.size + 1) scope.names (cloFrom X.env.cells scope.names [])) s3.heap.objs.size X.env)) (compPost (model X.prog X.w) X.A X.xe none Qf (.ref D) s3.heap.objs.size) { s3 with heap := pushCells (s3.heap.push { cls := .type "dict", data := .dict #[] }) scope.names }
  generalize compEnvC scope (cellsFrom (s3.heap.objs.size + 1) scope.names (cloFrom X.env.cells scope.names [])) s3.heap.objs.size X.env = ce at I4 pg pt pb cL ⊢
  generalize upd H2 D (init D) = H3 at I3 I4 pg pt pb w0 nfp f3
  have st4 : tn 0 (pushCells (s3.heap.push { cls := .type "dict", data := .dict #[] }) scope.names) := T.keep _ _ _ st3 fun b _ o q => pushCells_keeps _ _ _ _ (Heap.get?_push_of_some _ q)
  generalize hs4 : ({ s3 with heap := pushCells (s3.heap.push { cls := .type "dict", data := .dict #[] }) scope.names } : Shared) = s4 at I4 ⊢
  have st4 : tn 0 s4.heap := by rw [← hs4]; exact st4
  have f4 : ∀ b ∈ fp, FpOk (X.blk s3 H3 scope ce fp) [] H3 b := by
    intro b hb
    refine ⟨nfp b hb, (I4.ok.exf b hb).1, I4.ok.exfs b hb, .inl hb, fun x c q => (I4.ok.exf b hb).2 x c q, fun p hp => ?_⟩
    exact absurd (show p ∈ ([] : List (Addr × Obj)) ++ [] from hp) (by simp)
  have run : codeAny (model X.prog X.w) X.A (.compLoop e 0 (.ref it) (.ref D) ce) (compPost (model X.prog X.w) X.A X.xe none Qf (.ref D) s3.heap.objs.size) s4 := by
    refine clause_loop hc (hU it D ce) (hD it D ce) (hT it D ce) T (pg fp) (pt fp) I4 st4 f4 w0 cw (pb fp) fun H' s' I6 qq => ?_
    have I7 : Inv X pins σ H' s' := I3.call' (ch := fp) I6.os I6.base I6.hok I6.bare fun b hb => ⟨(f3 b hb).1.2.2.2.1, (f3 b hb).1.2.1, (f3 b hb).1.2.2.2.2.1, (f3 b hb).1.2.2.2.2.2⟩
    have nC : H' s3.heap.objs.size = none := by
      have z : H' ce.locals = none := I6.free
      rw [cL] at z
      exact z
    obtain ⟨m, hn, _⟩ := I6.loc
    have hn : s'.heap.Ns ce.locals m := hn
    rw [cL] at hn
    obtain ⟨f0, f1, f2', f3', f4', f5'⟩ := I3.fpOk (Nat.le_refl _) nC
    exact ⟨m, hn, fun h'' sb => hQ D H' _ (I7.turned (t' := s'.toks) (fun b o hb q => (sb.2 b hb).trans q) f0 f1 f3' f4' f5') qq⟩
  exact hstart it D ce _ s4 run fun E => T.self X.A 0 s4 _ E st4 run
end

/-! sets of ints -/
section
variable {X : Cx}
def noInts : Int → Bool := fun _ => false
theorem new_set {pins : List (Addr × Obj)} (s2 : Shared) (σ : L2.St) (H2 : Hp) (Q : Value → Shared → Prop) (I : Inv X pins σ H2 s2)
    (k : ∀ (s3 : Shared) (D : Addr), D = s2.heap.objs.size → (∀ b o, s2.heap.get? b = some o → s3.heap.get? b = some o) → s2.heap.objs.size < s3.heap.objs.size → Inv X pins σ (upd H2 D (SetO X.w D noInts 0)) s3 → Q (.ref D) s3) :
    wpAny (model X.prog X.w) X.A (newSet (.type "set")) Q X.xe s2 := by
  refine PpSet.newSet_ok (k _ _ rfl (fun b o q => Heap.get?_push_of_some _ q) (by rw [Heap.size_push]; exact Nat.lt_succ_self _) ?_)
  exact I.laid (t' := s2.toks) (fun b o q => Heap.get?_push_of_some _ q) (Nat.le_refl _) (setO_new (setR_fresh X.w))
theorem add_int {pins : List (Addr × Obj)} {σ : L2.St} {H : Hp} {s : Shared} {E : Value → Shared → Prop} {D : Addr} {S : Int → Bool} {n : Nat} {y : Int} {tk : Tok} {Q : Value → Shared → Prop} (I : Inv X pins σ H s) (hD : H D = some (SetO X.w D S n)) (room : n + 1 < scanBound)
    (k : ∀ s', Inv X pins σ (upd H D (SetO X.w D (fun j => S j || decide (j = y)) (if S y = true then n else n + 1))) s' → Q .none s') : wpAny (model X.prog X.w) X.A (call (.builtin "set.add") [.ref D, .int y tk]) Q E s := by
  refine setR_add (setO_get I hD) room fun h' sb new => ?_
  refine k _ (I.write (e := D) (t' := s.toks + 1) (by rw [hD]; trivial) (.inl rfl) (fun b u hb hu => (sb.2 b hb).trans hu) ?_ (setO_new new))
  obtain ⟨o, _, _, _, ho, _⟩ := new
  exact ⟨o, ho⟩
/-- an item for the set at D -/
def trAdd (w : World) (te : TE) (D : Addr) (Nx : Hp → Prop) (σ2 : L2.St) (H3 : Hp) : Prop := te σ2 H3 fun y H4 => ∃ (c : Int) (S : Int → Bool) (n : Nat), y = .int c ∧ H4 D = some (SetO w D S n) ∧ n + 1 < scanBound ∧ Nx (upd H4 D (SetO w D (fun j => S j || decide (j = c)) (if S c = true then n else n + 1)))
def bodyAdd (elt : Expr) (acc : Value) (env : Env) : Sem Unit := do
  let v ← eval elt env
  standAt elt.pos
  let _ ← call (.builtin "set.add") [acc, v]
theorem body_add {elt : Expr} {te : TE} {D : Addr} {Nx : Hp → Prop} {pp : List (Addr × Obj)} {σ σ2 : L2.St} {H3 : Hp} {s3 : Shared} (pe : PE X elt te) (hx : X.xe = fun _ _ => False) (I : Inv X pp σ2 H3 s3) (kp : SlotsKept σ σ2) (h : trAdd X.w te D Nx σ2 H3) :
    wpAny (model X.prog X.w) X.A (bodyAdd elt (.ref D) X.env) (fun _ s4 => ∃ σ4 H4, Inv X pp σ4 H4 s4 ∧ SlotsKept σ σ4 ∧ Nx H4) (fun _ _ => False) s3 := by
  unfold bodyAdd
  have r := pe.run pp s3 σ2 H3 _ I h
  rw [hx] at r
  refine wpAny_bind (thnF r fun z s5 ⟨y, H5, I5, r5, c, S, n, ey, hD, hn, nx⟩ => ?_)
  subst ey
  obtain ⟨tk, rfl⟩ := r5
  refine wpAny_bind (wpAny_standAt (wpAny_bind (add_int I5 hD hn fun s6 I6 => wpAny_pure ⟨σ2, _, I6, kp, nx⟩)))
/-- {elt for tg in iter if ..} -/
def tSc1 (w : World) (wi : TI) (g : TG) (tt : TT) (te : TE) (vs : List Nat) : TE := fun σ H Q => wi σ H fun J H1 => ∀ D, H1 D = none → ∃ W : Nat → Nat → Hp → Prop, (∃ m, W 0 m (upd H1 D (SetO w D noInts 0))) ∧ ClauseW J W (wipe σ vs) g tt (trAdd w te D) (fun H2 => Q (.ref D) H2)
theorem pe_sc1 {elt tg iter : Expr} {ifs : List Expr} {scope : Scope} {own : List (PySem.Str × Nat)} {pos : Pos} {wi : TI} {g : TG} {tt : TT} {te : TE} (hc : X.calm = true) (hN : X.N.Nodup) (hi : PI X tg iter wi) (ok : BlkOk X.N X.env.scope scope own)
    (hg : ∀ (s : Shared) (H : Hp) (C : Addr) (cl : List (PySem.Str × Addr)) (fp : List Addr), PG (X.blk s H scope (compEnvC scope cl C X.env) fp) tg g) (ht : ∀ (s : Shared) (H : Hp) (C : Addr) (cl : List (PySem.Str × Addr)) (fp : List Addr), PTs (X.blk s H scope (compEnvC scope cl C X.env) fp) ifs tt)
    (he : ∀ (s : Shared) (H : Hp) (C : Addr) (cl : List (PySem.Str × Addr)) (fp : List Addr), PE (X.blk s H scope (compEnvC scope cl C X.env) fp) elt te) (hs : ∀ x, foldedSetIterable iter X.env x = pure x := by intro _; rfl) :
    PE X (.SetComp elt [⟨tg, iter, ifs, 0⟩] scope pos) (tSc1 X.w wi g tt te (own.map (·.2))) := by
  refine ⟨fun pins s σ H Q I h => ?_⟩
  rw [PpSet.eval_SetComp]
  exact comp_frame (init := fun D => SetO X.w D noInts 0) (body := bodyAdd elt) (Tr := trAdd X.w te) rfl new_set (fun it D ce R s h0 h1 => PpSet.codeAny_compStart_set h0 (h1 _)) (fun _ _ _ => rfl) (fun _ _ _ => rfl) (fun _ _ _ => rfl) hc hN I hi ok hs hg ht
    (fun s0 H0 C cl fp D pp σ2 H3 s3 Nx I3 kp tr => body_add (he s0 H0 C cl fp) rfl I3 kp tr) h fun D H' s' I' q => ⟨.ref D, H', I', rfl, q⟩
end
section
variable {prog : Program} {w : World} {A : Around} {R : Result → Shared → Prop} {s : Shared} {elt t0 i0 t1 i1 : Expr} {f0 f1 : List Expr} {scope : Scope} {pos : Pos} {it acc : Value} {env : Env}
/-- the second clause, walked within a turn of the first -/
def bodyIn (e i1 : Expr) (acc : Value) (env : Env) : Sem Unit := do
  let x ← eval i1 env
  standAt i1.pos
  let x ← foldedSetIterable i1 env x
  let _ ← runOwn (.compStart e 1 (← holding [x] (pyIter x)) acc env) env
theorem turn_out : compTurn (.SetComp elt [⟨t0, i0, f0, 0⟩, ⟨t1, i1, f1, 0⟩] scope pos) 0 it acc env = turnOf (.SetComp elt [⟨t0, i0, f0, 0⟩, ⟨t1, i1, f1, 0⟩] scope pos) 0 t0 i0 f0 (bodyIn (.SetComp elt [⟨t0, i0, f0, 0⟩, ⟨t1, i1, f1, 0⟩] scope pos) i1) it acc env := by
  unfold turnOf bodyIn
  simp only [bind_assoc]
  rfl
theorem turn_in : compTurn (.SetComp elt [⟨t0, i0, f0, 0⟩, ⟨t1, i1, f1, 0⟩] scope pos) 1 it acc env = turnOf (.SetComp elt [⟨t0, i0, f0, 0⟩, ⟨t1, i1, f1, 0⟩] scope pos) 1 t1 i1 f1 (bodyAdd elt) it acc env := by rfl
theorem start_in (h0 : codeAny (model prog w) A (.compLoop (.SetComp elt [⟨t0, i0, f0, 0⟩, ⟨t1, i1, f1, 0⟩] scope pos) 1 it acc env) R s)
    (h : wpAny (model prog w) A (pyIter it) (fun it' s' => codeAny (model prog w) A (.compLoop (.SetComp elt [⟨t0, i0, f0, 0⟩, ⟨t1, i1, f1, 0⟩] scope pos) 1 it' acc env) R s') (notedBy (model prog w) A env fun x s' => R (.error x) s') s) :
    codeAny (model prog w) A (.compStart (.SetComp elt [⟨t0, i0, f0, 0⟩, ⟨t1, i1, f1, 0⟩] scope pos) 1 it acc env) R s := by
  refine codeAny_of_tree ?_
  show wpAny _ _ ((compStart (.SetComp elt [⟨t0, i0, f0, 0⟩, ⟨t1, i1, f1, 0⟩] scope pos) 1 it acc env).onRaise _) _ _ s
  refine wpAny_notedAt ?_
  unfold compStart
  refine wpAny_bind (wpAny_askSetting (wpAny_ite ?_))
  split
  · first
      | exact wpAny_bind (wpAny_pure (wpAny_pure ⟨rfl, h0⟩))
      | exact wpAny_pure ⟨rfl, h0⟩
  · refine wpAny_bind (wpAny_rule (wpAny_bind (wpAny_standAt (wpAny_bind (wpAny_mono h (fun it' s' h' => wpAny_pure ⟨rfl, h'⟩) fun _ _ x => x)))))
end
section
variable {X : Cx}
/-- a turn of the first clause: the second source's own walk, from whose end Nx is reached -/
def trIn (w : World) (wi1 : TI) (g1 : TG) (tt1 : TT) (te : TE) (vs1 : List Nat) (D : Addr) (Nx : Hp → Prop) (σ2 : L2.St) (H3 : Hp) : Prop :=
  wi1 σ2 H3 fun J1 H4 => ∃ W1 : Nat → Nat → Hp → Prop, (∃ m, W1 0 m H4) ∧ ClauseW J1 W1 (wipe σ2 vs1) g1 tt1 (trAdd w te D) Nx
theorem body_in {sB : Shared} {HB : Hp} {scope : Scope} {ce : Env} {fpB : List Addr} {elt t0 i0 tg1 iter1 : Expr} {f0 ifs1 : List Expr} {pos : Pos} {wi1 : TI} {g1 : TG} {tt1 : TT} {te : TE} {vs vs1 : List Nat} {D : Addr} {Nx : Hp → Prop} {pp : List (Addr × Obj)} {σ0 σ2 : L2.St} {H3 : Hp} {s3 : Shared}
    (hc : X.calm = true) (hv : ∀ i ∈ vs1, i ∈ vs) (hi1 : PI (X.blk sB HB scope ce fpB) tg1 iter1 wi1) (hg1 : PG (X.blk sB HB scope ce fpB) tg1 g1) (ht1 : PTs (X.blk sB HB scope ce fpB) ifs1 tt1) (he : PE (X.blk sB HB scope ce fpB) elt te) (hs1 : ∀ env x, foldedSetIterable iter1 env x = pure x)
    (I : Inv (X.blk sB HB scope ce fpB) pp σ2 H3 s3) (kp : SlotsKept (wipe σ0 vs) σ2) (h : trIn X.w wi1 g1 tt1 te vs1 D Nx σ2 H3) :
    wpAny (model X.prog X.w) X.A (bodyIn (.SetComp elt [⟨t0, i0, f0, 0⟩, ⟨tg1, iter1, ifs1, 0⟩] scope pos) iter1 (.ref D) ce) (fun _ s4 => ∃ σ4 H4, Inv (X.blk sB HB scope ce fpB) pp σ4 H4 s4 ∧ SlotsKept (wipe σ0 vs) σ4 ∧ Nx H4) (fun _ _ => False) s3 := by
  unfold bodyIn
  refine wpAny_bind (thnF (hi1.run pp s3 σ2 H3 _ I h) fun x s4 hx => wpAny_bind (wpAny_standAt (wpAny_bind (wpAny_of_eq (hs1 ce x) (wpAny_bind (wpAny_holding (thnF hx fun itv s5 h5 => ?_)))))))
  obtain ⟨it1, fp1, tn1, J1, H5, rfl, I5, T1, st1, f5, W1, ⟨m1, w1⟩, cw1⟩ := h5
  have kept : SlotsKept (wipe σ0 vs) (wipe σ2 vs1) := by
    refine ⟨kp.1.trans (wipe_length _ _).symm, fun j v q => ?_⟩
    rw [wipe_out fun z => (wipe_some q).2 (hv j z)]
    exact kp.2 j v q
  have run : codeAny (model X.prog X.w) X.A (.compLoop (.SetComp elt [⟨t0, i0, f0, 0⟩, ⟨tg1, iter1, ifs1, 0⟩] scope pos) 1 (.ref it1) (.ref D) ce) (fun r s' => match r with
      | .ok _ => ∃ σ4 H4, Inv (X.blk sB HB scope ce fpB) pp σ4 H4 s' ∧ SlotsKept (wipe σ0 vs) σ4 ∧ Nx H4
      | .error _ => False) s5 := by
    refine clause_loop (W := W1) (body := bodyAdd elt) (Tr := trAdd X.w te D) hc rfl rfl turn_in T1 hg1 ht1 (I5.weak (wipe_length _ _) fun j v q => (wipe_some q).1) st1 f5 w1 cw1 (fun pp' σ6 H6 s6 Nx6 I6 kp6 tr => body_add he rfl I6 kp6 tr) fun H' s' I' nx => ?_
    exact ⟨_, H', I', kept, nx⟩
  refine wpAny_bind (wpAny_runOwn ?_)
  rw [Around.mark_none]
  refine codeAny_mono (start_in run (T1.self X.A 0 s5 _ _ st1 run)) fun r s' hr => ?_
  cases r with
  | ok f => exact wpAny_pure hr
  | error x => exact hr.elim
/-- {elt for tg in iter if .. for tg1 in iter1 if ..} -/
def tSc2 (w : World) (wi : TI) (g : TG) (tt : TT) (wi1 : TI) (g1 : TG) (tt1 : TT) (te : TE) (vs vs1 : List Nat) : TE := fun σ H Q => wi σ H fun J H1 => ∀ D, H1 D = none → ∃ W : Nat → Nat → Hp → Prop, (∃ m, W 0 m (upd H1 D (SetO w D noInts 0))) ∧ ClauseW J W (wipe σ vs) g tt (trIn w wi1 g1 tt1 te vs1 D) (fun H2 => Q (.ref D) H2)
theorem pe_sc2 {elt tg iter tg1 iter1 : Expr} {ifs ifs1 : List Expr} {scope : Scope} {own : List (PySem.Str × Nat)} {vs1 : List Nat} {pos : Pos} {wi wi1 : TI} {g g1 : TG} {tt tt1 : TT} {te : TE} (hc : X.calm = true) (hN : X.N.Nodup) (hi : PI X tg iter wi) (ok : BlkOk X.N X.env.scope scope own) (hv : ∀ i ∈ vs1, i ∈ own.map (·.2))
    (hg : ∀ (s : Shared) (H : Hp) (C : Addr) (cl : List (PySem.Str × Addr)) (fp : List Addr), PG (X.blk s H scope (compEnvC scope cl C X.env) fp) tg g) (ht : ∀ (s : Shared) (H : Hp) (C : Addr) (cl : List (PySem.Str × Addr)) (fp : List Addr), PTs (X.blk s H scope (compEnvC scope cl C X.env) fp) ifs tt)
    (hi1 : ∀ (s : Shared) (H : Hp) (C : Addr) (cl : List (PySem.Str × Addr)) (fp : List Addr), PI (X.blk s H scope (compEnvC scope cl C X.env) fp) tg1 iter1 wi1)
    (hg1 : ∀ (s : Shared) (H : Hp) (C : Addr) (cl : List (PySem.Str × Addr)) (fp : List Addr), PG (X.blk s H scope (compEnvC scope cl C X.env) fp) tg1 g1) (ht1 : ∀ (s : Shared) (H : Hp) (C : Addr) (cl : List (PySem.Str × Addr)) (fp : List Addr), PTs (X.blk s H scope (compEnvC scope cl C X.env) fp) ifs1 tt1)
    (he : ∀ (s : Shared) (H : Hp) (C : Addr) (cl : List (PySem.Str × Addr)) (fp : List Addr), PE (X.blk s H scope (compEnvC scope cl C X.env) fp) elt te) (hs : ∀ x, foldedSetIterable iter X.env x = pure x := by intro _; rfl) (hs1 : ∀ env x, foldedSetIterable iter1 env x = pure x := by intro _ _; rfl) :
    PE X (.SetComp elt [⟨tg, iter, ifs, 0⟩, ⟨tg1, iter1, ifs1, 0⟩] scope pos) (tSc2 X.w wi g tt wi1 g1 tt1 te (own.map (·.2)) vs1) := by
  refine ⟨fun pins s σ H Q I h => ?_⟩
  rw [PpSet.eval_SetComp]
  exact comp_frame (init := fun D => SetO X.w D noInts 0) (body := bodyIn (.SetComp elt [⟨tg, iter, ifs, 0⟩, ⟨tg1, iter1, ifs1, 0⟩] scope pos) iter1) (Tr := trIn X.w wi1 g1 tt1 te vs1) rfl new_set (fun it D ce R s h0 h1 => PpSet.codeAny_compStart_set h0 (h1 _)) (fun _ _ _ => rfl) (fun _ _ _ => rfl) (fun _ _ _ => turn_out) hc hN I hi ok hs hg ht
    (fun s0 H0 C cl fp D pp σ2 H3 s3 Nx I3 kp tr => body_in hc hv (hi1 s0 H0 C cl fp) (hg1 s0 H0 C cl fp) (ht1 s0 H0 C cl fp) (he s0 H0 C cl fp) hs1 I3 kp tr) h fun D H' s' I' q => ⟨.ref D, H', I', rfl, q⟩
end
/-! walks of set comprehensions -/
theorem clause_it {J : It} {n : Nat} {G : Hp → Prop} {Y : Nat → Hp → V → Hp → Prop} (w : Walk J n G Y) {σ : L2.St} {g : TG} {tt : TT} {Tr : (Hp → Prop) → L2.St → Hp → Prop} {Qd : Hp → Prop} {H0 : Hp} (Pv : Nat → Hp → Prop) (h0 : Pv 0 H0) (hG : ∀ i H, i ≤ n → Pv i H → G H)
    (hs : ∀ i x H H', i < n → Pv i H → Y i H x H' → g x σ H' fun σ2 H2 => SlotsKept σ σ2 ∧ tt σ2 H2 fun b H3 => if b = true then Tr (Pv (i + 1)) σ2 H3 else Pv (i + 1) H3) (hd : ∀ H, Pv n H → Qd H) :
    ∃ W : Nat → Nat → Hp → Prop, (∃ m, W 0 m H0) ∧ ClauseW J W σ g tt Tr Qd := by
  refine ⟨fun i m H => m = n - i ∧ i ≤ n ∧ Pv i H, ⟨n, by simp, Nat.zero_le _, h0⟩, ?_⟩
  rintro i m H ⟨rfl, hi, p⟩
  have q := hG i H hi p
  by_cases lt : i < n
  · refine .inr ⟨w.goes i H lt q, Pv (i + 1), fun H' p' => ⟨n - (i + 1), by omega, rfl, lt, p'⟩, fun x H' y => hs i x H H' lt p (w.yields i H x H' lt q y)⟩
  · have e : i = n := by omega
    subst e
    exact .inl ⟨w.stops H q, hd H p⟩
/-! sets of ints as lists -/
def insU (x : Int) : List Int → List Int
  | [] => [x]
  | y :: l => if x < y then x :: y :: l else if x = y then y :: l else y :: insU x l
/-- the members, from low to high, each once -/
def sortU (l : List Int) : List Int := l.foldl (fun acc x => insU x acc) []
theorem insU_mem (x a : Int) : ∀ l : List Int, a ∈ insU x l ↔ a = x ∨ a ∈ l
  | [] => by simp [insU]
  | y :: l => by
    unfold insU
    by_cases h : x < y
    · rw [if_pos h, List.mem_cons]
    · rw [if_neg h]
      by_cases e : x = y
      · subst e
        rw [if_pos rfl]
        simp
      · rw [if_neg e, List.mem_cons, insU_mem x a l, List.mem_cons]
        exact ⟨fun z => z.elim (fun q => .inr (.inl q)) fun q => q.elim .inl fun q => .inr (.inr q), fun z => z.elim (fun q => .inr (.inl q)) fun q => q.elim .inl fun q => .inr (.inr q)⟩
theorem insU_asc (x : Int) : ∀ l : List Int, l.Pairwise (· < ·) → (insU x l).Pairwise (· < ·)
  | [], _ => List.pairwise_singleton _ _
  | y :: l, h => by
    obtain ⟨h1, h2⟩ := List.pairwise_cons.mp h
    unfold insU
    by_cases c : x < y
    · rw [if_pos c]
      refine List.pairwise_cons.mpr ⟨fun a ha => ?_, h⟩
      rcases List.mem_cons.mp ha with e | e
      · rw [e]; exact c
      · exact Int.lt_trans c (h1 a e)
    · rw [if_neg c]
      by_cases e : x = y
      · rw [if_pos e]; exact h
      · rw [if_neg e]
        refine List.pairwise_cons.mpr ⟨fun a ha => ?_, insU_asc x l h2⟩
        rcases (insU_mem x a l).mp ha with q | q
        · rw [q]; omega
        · exact h1 a q
theorem insU_len (x : Int) : ∀ l : List Int, l.Pairwise (· < ·) → (insU x l).length = if x ∈ l then l.length else l.length + 1
  | [], _ => by simp [insU]
  | y :: l, h => by
    obtain ⟨h1, h2⟩ := List.pairwise_cons.mp h
    unfold insU
    by_cases c : x < y
    · have n : x ∉ y :: l := fun z => by
        rcases List.mem_cons.mp z with e | e
        · omega
        · have := h1 x e; omega
      rw [if_pos c, if_neg n]
      rfl
    · rw [if_neg c]
      by_cases e : x = y
      · rw [if_pos e, if_pos (by rw [e]; exact List.mem_cons_self ..)]
      · rw [if_neg e, List.length_cons, insU_len x l h2]
        by_cases m : x ∈ l
        · rw [if_pos m, if_pos (List.mem_cons_of_mem _ m)]; rfl
        · rw [if_neg m, if_neg (fun z => (List.mem_cons.mp z).elim e m)]; rfl
theorem sortU_snoc (l : List Int) (x : Int) : sortU (l ++ [x]) = insU x (sortU l) := by
  unfold sortU
  rw [List.foldl_append]
  rfl
theorem fold_mem (a : Int) : ∀ (l acc : List Int), a ∈ l.foldl (fun acc x => insU x acc) acc ↔ a ∈ l ∨ a ∈ acc
  | [], acc => by simp
  | x :: l, acc => by
    rw [List.foldl_cons, fold_mem a l, insU_mem, List.mem_cons]
    exact ⟨fun z => z.elim (fun q => .inl (.inr q)) fun q => q.elim (fun q => .inl (.inl q)) .inr, fun z => z.elim (fun q => q.elim (fun q => .inr (.inl q)) .inl) fun q => .inr (.inr q)⟩
theorem sortU_mem (a : Int) (l : List Int) : a ∈ sortU l ↔ a ∈ l := by
  unfold sortU
  rw [fold_mem]
  simp
theorem fold_asc : ∀ (l acc : List Int), acc.Pairwise (· < ·) → (l.foldl (fun acc x => insU x acc) acc).Pairwise (· < ·)
  | [], _, h => h
  | x :: l, acc, h => fold_asc l _ (insU_asc x acc h)
theorem sortU_asc (l : List Int) : (sortU l).Pairwise (· < ·) := fold_asc l [] .nil
/-- two rising lists with the same members are one -/
theorem asc_eq : ∀ {l m : List Int}, l.Pairwise (· < ·) → m.Pairwise (· < ·) → (∀ a, a ∈ l ↔ a ∈ m) → l = m
  | [], [], _, _, _ => rfl
  | [], y :: m, _, _, h => nomatch (h y).mpr (List.mem_cons_self ..)
  | x :: l, [], _, _, h => nomatch (h x).mp (List.mem_cons_self ..)
  | x :: l, y :: m, h1, h2, h => by
    obtain ⟨a1, a2⟩ := List.pairwise_cons.mp h1
    obtain ⟨b1, b2⟩ := List.pairwise_cons.mp h2
    have e : x = y := by
      rcases List.mem_cons.mp ((h x).mp (List.mem_cons_self ..)) with q | q
      · exact q
      · rcases List.mem_cons.mp ((h y).mpr (List.mem_cons_self ..)) with q2 | q2
        · exact q2.symm
        · have := b1 x q
          have := a1 y q2
          omega
    subst e
    rw [asc_eq a2 b2 fun a => ⟨fun q => ?_, fun q => ?_⟩]
    · rcases List.mem_cons.mp ((h a).mp (List.mem_cons_of_mem _ q)) with z | z
      · have := a1 a q; omega
      · exact z
    · rcases List.mem_cons.mp ((h a).mpr (List.mem_cons_of_mem _ q)) with z | z
      · have := b1 a q; omega
      · exact z
theorem asc_len : ∀ {l : List Int} {lo hi : Int}, l.Pairwise (· < ·) → (∀ a ∈ l, lo ≤ a ∧ a ≤ hi) → (l.length : Int) ≤ max 0 (hi - lo + 1)
  | [], lo, hi, _, _ => by simp; omega
  | x :: l, lo, hi, h, b => by
    obtain ⟨h1, h2⟩ := List.pairwise_cons.mp h
    obtain ⟨b1, b2⟩ := b x (List.mem_cons_self ..)
    have ih := asc_len (l := l) (lo := x + 1) (hi := hi) h2 fun a ha => ⟨by have := h1 a ha; omega, (b a (List.mem_cons_of_mem _ ha)).2⟩
    rw [List.length_cons]
    omega
theorem sortU_len {l : List Int} {t : Int} (ht : 0 ≤ t) (b : ∀ a ∈ l, 0 ≤ a ∧ a ≤ t) : ((sortU l).length : Int) ≤ t + 1 := by
  have := asc_len (sortU_asc l) (lo := 0) (hi := t) fun a ha => b a ((sortU_mem a l).mp ha)
  omega
/-- the set at D of the ints in l -/
def setO (w : World) (D : Addr) (l : List Int) : HO := SetO w D (fun j => decide (j ∈ l)) (sortU l).length
theorem setO_nil {w : World} {D : Addr} : setO w D [] = SetO w D noInts 0 := by
  unfold setO
  congr 1
theorem setO_snoc {w : World} {D : Addr} {l : List Int} {c : Int} : SetO w D (fun j => decide (j ∈ l) || decide (j = c)) (if decide (c ∈ l) = true then (sortU l).length else (sortU l).length + 1) = setO w D (l ++ [c]) := by
  unfold setO
  congr 1
  · funext j
    rw [← Bool.decide_or]
    exact decide_eq_decide.mpr ⟨fun z => z.elim (fun q => List.mem_append_left _ q) fun q => List.mem_append_right _ (List.mem_singleton.mpr q), fun z => (List.mem_append.mp z).elim .inl fun q => .inr (List.mem_singleton.mp q)⟩
  · rw [sortU_snoc, insU_len _ _ (sortU_asc l)]
    by_cases h : c ∈ l
    · rw [if_pos (decide_eq_true h), if_pos ((sortU_mem c l).mpr h)]
    · rw [if_neg (by simpa using h), if_neg (fun z => h ((sortU_mem c l).mp z))]
theorem kept_set {σ : L2.St} {j : Nat} {x : V} (h : σ[j]? = some none) : SlotsKept σ (σ.set j (some x)) := by
  refine ⟨(List.length_set ..).symm, fun i v q => ?_⟩
  by_cases e : j = i
  · subst e
    rw [h] at q
    cases q
  · rw [List.getElem?_set_ne e]
    exact q
theorem pi_listK {X : Cx} {K : PySem.W.Frag} {tg e : Expr} {te : TE} (h : X.K = K) (he : PE X e te) : PI X tg e (iList K te) := by subst h; exact pi_list he
theorem pi_tupK {X : Cx} {K : PySem.W.Frag} {tg e : Expr} {te : TE} (h : X.K = K) (he : PE X e te) : PI X tg e (iTup K te) := by subst h; exact pi_tup he
end My

namespace My
open PySem PySem.Spec PyProof.Rows L2
/-! sets of ints: set(list), one | other -/
/-- the masks of tables with at most 66 entries -/
def MaskU (m : Nat) : Prop := m = 7 ∨ m = 15 ∨ m = 31 ∨ m = 63 ∨ m = 127 ∨ m = 255
theorem ringU15 : ((List.range 16).all fun j => (List.range 16).any fun b => lcgN 15 b == j) = true := by decide +kernel
theorem ringU63 : ((List.range 64).all fun j => (List.range 64).any fun b => lcgN 63 b == j) = true := by decide +kernel
def invU : List Nat := [0, 1, 70, 239, 156, 109, 2, 123, 120, 25, 254, 71, 148, 5, 58, 83, 240, 49, 182, 159, 140, 157, 114, 43, 104, 73, 110, 247, 132, 53, 170, 3, 224, 97, 38, 79, 124, 205, 226, 219, 88, 121, 222, 167, 116, 101, 26, 179, 208, 145, 150, 255, 108, 253, 82, 139, 72, 169, 78, 87, 100, 149, 138, 99, 192, 193, 6, 175, 92, 45, 194, 59, 56, 217, 190, 7, 84, 197, 250, 19, 176, 241, 118, 95, 76, 93, 50, 235, 40, 9, 46, 183, 68, 245, 106, 195, 160, 33, 230, 15, 60, 141, 162, 155, 24, 57, 158, 103, 52, 37, 218, 115, 144, 81, 86, 191, 44, 189, 18, 75, 8, 105, 14, 23, 36, 85, 74, 35, 128, 129, 198, 111, 28, 237, 130, 251, 248, 153, 126, 199, 20, 133, 186, 211, 112, 177, 54, 31, 12, 29, 242, 171, 232, 201, 238, 119, 4, 181, 42, 131, 96, 225, 166, 207, 252, 77, 98, 91, 216, 249, 94, 39, 244, 229, 154, 51, 80, 17, 22, 127, 236, 125, 210, 11, 200, 41, 206, 215, 228, 21, 10, 227, 64, 65, 134, 47, 220, 173, 66, 187, 184, 89, 62, 135, 212, 69, 122, 147, 48, 113, 246, 223, 204, 221, 178, 107, 168, 137, 174, 55, 196, 117, 234, 67, 32, 161, 102, 143, 188, 13, 34, 27, 152, 185, 30, 231, 180, 165, 90, 243, 16, 209, 214, 63, 172, 61, 146, 203, 136, 233, 142, 151, 164, 213, 202, 163]
theorem ringU255 : ((List.range 256).all fun j => decide (invU.getD j 0 ≤ 255) && (lcgN 255 (invU.getD j 0) == j)) = true := by decide +kernel
theorem ringU {m : Nat} (hm : MaskU m) {j : Nat} (hj : j ≤ m) : ∃ b, b ≤ m ∧ lcgN m b = j := by
  have key : ∀ n : Nat, ((List.range (n + 1)).all fun j => (List.range (n + 1)).any fun b => lcgN n b == j) = true → ∀ j, j ≤ n → ∃ b, b ≤ n ∧ lcgN n b = j := fun n h j hj => by
    obtain ⟨b, hb, e⟩ := List.any_eq_true.mp (List.all_eq_true.mp h j (List.mem_range.mpr (by omega)))
    have := List.mem_range.mp hb
    exact ⟨b, by omega, by simpa using e⟩
  rcases hm with rfl | rfl | rfl | rfl | rfl | rfl
  · exact lcg_all (.inl rfl) hj
  · exact key 15 ringU15 j hj
  · exact lcg_all (.inr (.inl rfl)) hj
  · exact key 63 ringU63 j hj
  · exact lcg_all (.inr (.inr rfl)) hj
  · have h := List.all_eq_true.mp ringU255 j (List.mem_range.mpr (by omega))
    rw [Bool.and_eq_true, decide_eq_true_eq, beq_iff_eq] at h
    exact ⟨_, h.1, h.2⟩
theorem roundU {m : Nat} (hm : MaskU m) : ∀ k, lcgN m (m + 1 + k) = lcgN m k
  | 0 => by rcases hm with rfl | rfl | rfl | rfl | rfl | rfl <;> decide +kernel
  | k + 1 => by
    have := roundU hm k
    show (lcgN m (m + 1 + k) * 5 + 1) % (m + 1) = (lcgN m k * 5 + 1) % (m + 1)
    rw [this]
theorem fromU {m : Nat} (hm : MaskU m) {i j : Nat} (hi : i ≤ m) (hj : j ≤ m) : ∃ k, k ≤ m ∧ lcgI m i k = j := by
  obtain ⟨a, ha, ea⟩ := ringU hm hi
  obtain ⟨b, hb, eb⟩ := ringU hm hj
  subst ea
  by_cases c : a ≤ b
  · exact ⟨b - a, by omega, by rw [lcgN_add, show a + (b - a) = b from by omega, eb]⟩
  · exact ⟨b + (m + 1) - a, by omega, by rw [lcgN_add, show a + (b + (m + 1) - a) = m + 1 + b from by omega, roundU hm, eb]⟩
/-- the slots at which the runs of a search begin -/
def stU (m : Nat) : Nat → Nat → Nat → Nat
  | i, _, 0 => i
  | i, b, t + 1 => stU m (SetTable.leap m i b).1 (SetTable.leap m i b).2 t
theorem stU_run (m b : Nat) : ∀ t n, stU m (runI m b n) (b / 32 ^ n) t = runI m b (n + t)
  | 0, _ => rfl
  | t + 1, n => by
    have e : SetTable.leap m (runI m b n) (b / 32 ^ n) = (runI m b (n + 1), b / 32 ^ (n + 1)) := by
      show ((runI m b n * 5 + 1 + b / 32 ^ n / 32) % (m + 1), b / 32 ^ n / 32) = _
      rw [pow_div]
      rfl
    show stU m (SetTable.leap m (runI m b n) (b / 32 ^ n)).1 (SetTable.leap m (runI m b n) (b / 32 ^ n)).2 t = _
    rw [e, stU_run m b t (n + 1), show n + 1 + t = n + (t + 1) from by omega]
theorem stU_all {m : Nat} (hm : MaskU m) (h : Int) {j : Nat} (hj : j ≤ m) : ∃ t, t < SetTable.turns m ∧ stU m (SetTable.bits h % (m + 1)) (SetTable.bits h) t = j := by
  obtain ⟨k, hk, e⟩ := fromU hm (runI_le m (SetTable.bits h) 12) hj
  refine ⟨12 + k, by unfold SetTable.turns; omega, ?_⟩
  have := stU_run m (SetTable.bits h) (12 + k) 0
  rw [Nat.pow_zero, Nat.div_one, Nat.zero_add, runI_tail (bits_lt h)] at this
  exact this.trans e
theorem freeU (m : Nat) (owner : Array (Option Nat)) : ∀ f i b, (∃ t, t < f ∧ oAt owner (stU m i b t) = none) → ∃ j, SetTable.layClean.free m owner f i b = some j ∧ oAt owner j = none
  | 0, _, _, ⟨_, h, _⟩ => absurd h (Nat.not_lt_zero _)
  | f + 1, i, b, ⟨t, ht, e⟩ => by
    rw [free_succ]
    cases hf : (List.range (SetTable.runEnd m i + 1 - i)).find? fun k => (oAt owner (i + k)).isNone with
    | some k =>
      have q : (oAt owner (i + k)).isNone = true := List.find?_some (p := fun k => (oAt owner (i + k)).isNone) hf
      exact ⟨i + k, rfl, Option.isNone_iff_eq_none.mp q⟩
    | none =>
      cases t with
      | zero =>
        have := List.find?_eq_none.mp hf 0 (List.mem_range.mpr (by have := runEnd_ge m i; omega))
        rw [Nat.add_zero, show oAt owner i = none from e] at this
        exact absurd rfl this
      | succ t => exact freeU m owner f _ _ ⟨t, by omega, e⟩
/-- after k hashes: each number below k sits at one slot -/
structure OwU (m k : Nat) (owner : Array (Option Nat)) : Prop where
  sz : owner.size = m + 1
  pm : (owner.toList.filterMap id).Perm (List.range k)
theorem filt_all : ∀ l : List (Option Nat), (∀ x ∈ l, x ≠ none) → (l.filterMap id).length = l.length
  | [], _ => rfl
  | none :: l, h => absurd rfl (h _ (List.mem_cons_self ..))
  | some x :: l, h => by
    rw [List.filterMap_cons_some (show id (some x) = some x from rfl), List.length_cons, List.length_cons, filt_all l fun y hy => h y (List.mem_cons_of_mem _ hy)]
theorem filt_set {l : List (Option Nat)} {j k : Nat} (h : l[j]? = some none) : ((l.set j (some k)).filterMap id).Perm (k :: l.filterMap id) := by
  induction l generalizing j with
  | nil => cases h
  | cons x l ih =>
    cases j with
    | zero =>
      obtain rfl : x = none := Option.some.inj h
      exact List.Perm.refl _
    | succ j =>
      have := ih (j := j) h
      cases x with
      | none => exact this
      | some y => exact (this.cons y).trans (List.Perm.swap ..)
theorem oAt_none {owner : Array (Option Nat)} {j : Nat} (h : oAt owner j = none) : owner.toList[j]? = some none := by
  unfold oAt at h
  rw [Array.getD_eq_getD_getElem?] at h
  rw [Array.getElem?_toList]
  cases e : owner[j]? with
  | none => rw [e] at h; cases h
  | some x => rw [e] at h; rw [show x = none from h]
theorem OwU.room {m k : Nat} {owner : Array (Option Nat)} (W : OwU m k owner) (hk : k ≤ m) : ∃ j, j ≤ m ∧ oAt owner j = none := by
  refine Classical.byContradiction fun z => ?_
  have key : ∀ x ∈ owner.toList, x ≠ none := fun x hx e => by
    subst e
    obtain ⟨j, hj, e⟩ := List.getElem_of_mem hx
    have hj2 : j < m + 1 := by rw [Array.length_toList, W.sz] at hj; exact hj
    refine z ⟨j, by omega, ?_⟩
    unfold oAt
    rw [Array.getD_eq_getD_getElem?, ← Array.getElem?_toList, List.getElem?_eq_getElem hj, e]
    rfl
  have := filt_all _ key
  rw [W.pm.length_eq, List.length_range, Array.length_toList, W.sz] at this
  omega
theorem OwU.step {m k : Nat} {owner : Array (Option Nat)} (hm : MaskU m) (W : OwU m k owner) (hk : k ≤ m) (h : Int) : ∃ owner', stepF m (some (owner, k)) h = some (owner', k + 1) ∧ OwU m (k + 1) owner' := by
  obtain ⟨j, hj, e⟩ := W.room hk
  obtain ⟨t, ht, et⟩ := stU_all hm h hj
  obtain ⟨i, ei, hi⟩ := freeU m owner (SetTable.turns m) (SetTable.bits h % (m + 1)) (SetTable.bits h) ⟨t, ht, by rw [et]; exact e⟩
  refine ⟨_, stepF_some ei, by rw [Array.size_setIfInBounds]; exact W.sz, ?_⟩
  rw [Array.toList_setIfInBounds, List.range_succ]
  exact (filt_set (oAt_none hi)).trans ((W.pm.cons k).trans (List.perm_append_singleton _ _).symm)
theorem OwU.fold {m : Nat} (hm : MaskU m) : ∀ (rest : List Int) (k : Nat) (owner : Array (Option Nat)), OwU m k owner → k + rest.length ≤ m + 1 → ∃ owner', rest.foldl (stepF m) (some (owner, k)) = some (owner', k + rest.length) ∧ OwU m (k + rest.length) owner'
  | [], k, owner, W, _ => ⟨owner, rfl, W⟩
  | h :: rest, k, owner, W, hl => by
    rw [List.length_cons] at hl
    obtain ⟨o1, e1, W1⟩ := W.step hm (by omega) h
    obtain ⟨o2, e2, W2⟩ := OwU.fold hm rest (k + 1) o1 W1 (by omega)
    rw [List.length_cons, show k + (rest.length + 1) = k + 1 + rest.length from by omega]
    exact ⟨o2, by rw [List.foldl_cons, e1]; exact e2, W2⟩
theorem OwU.lay {m : Nat} (hm : MaskU m) {hs : Array Int} (hn : hs.size ≤ m) : ∃ owner, SetTable.layClean m hs = some owner ∧ OwU m hs.size owner := by
  have W0 : OwU m 0 (Array.replicate (m + 1) none) := by
    refine ⟨Array.size_replicate .., ?_⟩
    rw [Array.toList_replicate]
    have : ∀ n, ((List.replicate n (none : Option Nat)).filterMap id) = [] := fun n => by
      induction n with
      | zero => rfl
      | succ n ih => rw [List.replicate_succ, List.filterMap_cons_none rfl, ih]
    rw [this]
    exact List.Perm.refl _
  obtain ⟨owner, e, W⟩ := OwU.fold hm hs.toList 0 _ W0 (by rw [Array.length_toList]; omega)
  rw [Array.length_toList, Nat.zero_add] at e W
  exact ⟨owner, by rw [layClean_eq, e]; rfl, W⟩
theorem live_all {m : Nat} {owner : Array (Option Nat)} (hs : owner.size = m + 1) : (liveOf m owner).map (·.2) = owner.toList.filterMap id := by
  unfold liveOf
  rw [List.map_filterMap]
  have e : (List.range (m + 1)).map (fun j => owner.getD j none) = owner.toList := by
    refine List.ext_getElem? fun i => ?_
    rw [List.getElem?_map]
    by_cases h : i < m + 1
    · rw [List.getElem?_range h, Option.map_some, Array.getD_eq_getD_getElem?, Array.getElem?_toList, Array.getElem?_eq_getElem (by omega)]
      rfl
    · rw [List.getElem?_eq_none (by rw [List.length_range]; omega), List.getElem?_eq_none (by rw [Array.length_toList]; omega)]
      rfl
  rw [← e, List.filterMap_map]
  refine congrArg (fun f => List.filterMap f (List.range (m + 1))) (funext fun j => ?_)
  show Option.map _ (Option.map _ (owner.getD j none)) = owner.getD j none
  cases owner.getD j none <;> rfl
/-- what a table laid anew holds -/
structure NewT (m n : Nat) (led plain : Bool) (t : SetTable) (order : Array Nat) : Prop where
  pm : order.toList.Perm (List.range n)
  fits : t.fits n = true
  ris : Ris t.place.toList
  led_ : t.led = led
  plain_ : t.plain = plain
  mask_ : t.mask = m
  dm : t.dummies = #[]
theorem laidU {m : Nat} (hm : MaskU m) {hs : Array Int} (hn : hs.size ≤ m) (finger moves : Nat) (led plain : Bool) : ∃ t order, SetTable.laid m finger moves led plain hs = some (t, order) ∧ NewT m hs.size led plain t order := by
  obtain ⟨owner, e, W⟩ := OwU.lay hm hn
  refine ⟨{ mask := m, place := ((liveOf m owner).map (·.1)).toArray, dummies := #[], finger, led, moves, plain }, ((liveOf m owner).map (·.2)).toArray, ?_, ?_, ?_, ?_, rfl, rfl, rfl, rfl⟩
  · unfold SetTable.laid
    rw [e]
    rfl
  · rw [List.toList_toArray, live_all W.sz]
    exact W.pm
  · have l : (liveOf m owner).length = hs.size := by
      have := congrArg List.length (live_all W.sz)
      rw [List.length_map, W.pm.length_eq, List.length_range] at this
      exact this
    unfold SetTable.fits SetTable.fill
    rw [Bool.and_eq_true, beq_iff_eq, decide_eq_true_eq]
    show ((liveOf m owner).map (·.1)).toArray.size = hs.size ∧ ((liveOf m owner).map (·.1)).toArray.size + 0 ≤ m
    rw [List.size_toArray, List.length_map]
    omega
  · refine (ris_live (fun j => owner.getD j none) (List.range (m + 1)) ?_).1
    unfold Ris
    first | exact List.pairwise_lt_range | exact List.pairwise_lt_range _
theorem relaidU (t : SetTable) {wanted m : Nat} (hw : SetTable.sizeAbove wanted - 1 = m) (hm : MaskU m) {hs : Array Int} (hn : hs.size ≤ m) : ∃ t' order, t.relaid hs wanted = some (t', order) ∧ NewT m hs.size t.led t.plain t' order := by
  unfold SetTable.relaid
  rw [hw]
  exact laidU hm hn _ _ _ _
theorem aboveU : ∀ n, n < 133 → MaskU (SetTable.sizeAbove n - 1) ∧ n < SetTable.sizeAbove n ∧ SetTable.sizeAbove n ≤ 256 := by
  have key : ((List.range 133).all fun n => ([7, 15, 31, 63, 127, 255].contains (SetTable.sizeAbove n - 1)) && decide (n < SetTable.sizeAbove n) && decide (SetTable.sizeAbove n ≤ 256)) = true := by decide +kernel
  intro n hn
  have := List.all_eq_true.mp key n (List.mem_range.mpr hn)
  rw [Bool.and_eq_true, Bool.and_eq_true, decide_eq_true_eq, decide_eq_true_eq] at this
  refine ⟨?_, this.1.2, this.2⟩
  have := this.1.1
  simp only [List.contains_cons, List.contains_nil, Bool.or_false, Bool.or_eq_true, beq_iff_eq] at this
  exact this
theorem order_perm {α : Type} (es : Array α) (order : Array Nat) (h : order.toList.Perm (List.range es.size)) : (order.filterMap (es[·]?)).toList.Perm es.toList := by
  rw [Array.toList_filterMap]
  have h1 := h.filterMap (es[·]?)
  have h2 : (List.range es.size).filterMap (es[·]?) = es.toList := by
    have : ∀ n, n ≤ es.size → (List.range n).filterMap (es[·]?) = es.toList.take n := fun n => by
      induction n with
      | zero => intro _; rfl
      | succ n ih =>
        intro hn
        have hx : es[n]? = some es[n] := Array.getElem?_eq_getElem (by omega)
        rw [List.range_succ, List.filterMap_append, ih (by omega), List.take_succ, Array.getElem?_toList, hx, List.filterMap_cons_some hx]
        rfl
    rw [this _ (Nat.le_refl _), List.take_of_length_le (by rw [Array.length_toList]; exact Nat.le_refl _)]
  rw [h2] at h1
  exact h1
end My
namespace My
open PySem PySem.Spec PyProof.Rows L2
section
variable {P : Program} {w : World} {A : Around} {E : Value → Shared → Prop} {s : Shared} {a b : Addr} {S S2 : Int → Bool} {n n2 : Nat}
theorem wp_list {α β : Type} {M : Model} {f : α → β → Sem (ForInStep β)} (I : List α → β → Shared → Prop) {Q : β → Shared → Prop} : ∀ (l : List α) (b : β) (s : Shared), I l b s →
    (∀ x l b s, I (x :: l) b s → wpAny M A (f x b) (fun r s' => ∃ b', r = .yield b' ∧ I l b' s') E s) → (∀ b s, I [] b s → Q b s) → wpAny M A (forIn l b f) Q E s
  | [], b, s, h, _, hq => wpAny_pure (hq _ _ h)
  | x :: l, b, s, h, hs, hq => by
    rw [List.forIn_cons]
    refine wpAny_bind (wpAny_mono (hs x l b s h) (fun r s' ⟨b', e, h'⟩ => ?_) fun _ _ e => e)
    subst e
    exact wp_list I l b' s' h' hs hq
theorem entriesU {o : Obj} {es : Array (Int × Value)} {ep : Nat} {t : SetTable} {Q : Array (Int × Value) → Shared → Prop} (ho : s.heap.get? a = some o) (hd : o.data = .set es ep t) (hf : t.fits es.size = true) (h : Q es s) : wpAny (model P w) A (setEntries a) Q E s := by
  unfold setEntries
  exact wpAny_bind (wpAny_setState_of ho hd hf (wpAny_pure h))
theorem quietU {sets : List Addr} {Q : Bool → Shared → Prop} (hs : ∀ x ∈ sets, ∃ S n, SetR w s.heap x S n) (h : Q true s) : wpAny (model P w) A (setsQuiet sets) Q E s := by
  unfold setsQuiet
  refine wpAny_bind (wp_list (fun l b s' => b = (none, ()) ∧ s' = s ∧ ∀ x ∈ l, ∃ S n, SetR w s.heap x S n) sets _ s ⟨rfl, rfl, hs⟩ ?_ ?_)
  · rintro x l b s' ⟨rfl, rfl, hx⟩
    obtain ⟨S, n, o, es, ep, t, ho, hex, hd, g, nd, hm, hb, hf, r⟩ := hx x (List.mem_cons_self ..)
    refine wpAny_bind (entriesU ho hd hf ?_)
    refine wpAny_bind ?_
    rw [← Array.forIn_toList]
    refine wp_list (fun l b s2 => b = (none, ()) ∧ s2 = s' ∧ ∀ x ∈ l, GoodE x) es.toList _ s' ⟨rfl, rfl, g⟩ ?_ ?_
    · rintro ⟨hh, v⟩ l2 b s2 ⟨rfl, rfl, hg⟩
      obtain ⟨k, tk, e1, e2⟩ := hg _ (List.mem_cons_self ..)
      have e1 : v = .int k tk := e1
      subst e1
      exact wpAny_pure ⟨_, rfl, rfl, rfl, fun y hy => hg y (List.mem_cons_of_mem _ hy)⟩
    · rintro b s2 ⟨rfl, rfl, _⟩
      exact wpAny_pure ⟨_, rfl, rfl, rfl, fun y hy => hx y (List.mem_cons_of_mem _ hy)⟩
  · rintro b s' ⟨rfl, rfl, _⟩
    exact wpAny_pure h
theorem walkU {o : Obj} {es : Array (Int × Value)} {ep : Nat} {t : SetTable} {Q : Array (Int × Value) → Shared → Prop} (ho : s.heap.get? a = some o) (hd : o.data = .set es ep t) (hf : t.fits es.size = true)
    (hl : w.params.followText "set-order" = true ∨ t.led = true) (hp : w.params.followText "set-order" = true ∨ t.plain = true ∨ es.size ≤ 1) (h : ∀ arr : Array (Int × Value), arr.toList.Perm es.toList → Q arr s) : wpAny (model P w) A (setWalk a) Q E s := by
  unfold setWalk
  refine wpAny_bind (wpAny_setState_of ho hd hf ?_)
  dsimp only
  refine wpAny_bind (wpAny_byText ?_)
  by_cases hb : w.params.followText "set-order" = true
  · refine wp_if_pos hb ?_
    exact wpAny_bind (wpAny_askSetting (wpAny_pure (h _ (pick_perm _ _))))
  · refine wp_if_neg hb ?_
    have hl := hl.resolve_left hb
    have hp := hp.resolve_left hb
    refine wp_if_neg (by
      show ¬ ((!t.plain && decide (es.size > 1)) = true)
      rcases hp with hp | hp
      · rw [hp]; simp
      · rw [decide_eq_false (by omega)]; simp) ?_
    refine wpAny_bind (wpAny_of_eq (a := ()) ?_ ?_)
    · show (if (!t.led && decide (es.size > 1)) = true then unsupported "set:maker-not-led" else pure ()) = pure ()
      rw [hl]; rfl
    · exact wpAny_pure (h es (List.Perm.refl _))
/-- the flags of a set's table are let go -/
theorem SetR.flags {o : Obj} {es : Array (Int × Value)} {ep : Nat} {t : SetTable} {S : Int → Bool} {n : Nat} {h : Heap} {a : Addr} (ho : h.get? a = some o) (hd : o.data = .set es ep t) (hex : o.ExactSet) (g : ∀ e ∈ es.toList, GoodE e) (nd : (es.toList.map keyOf).Nodup) (hm : ∀ k, S k = true ↔ k ∈ es.toList.map keyOf)
    (hb : es.size < scanBound) (hf : t.fits es.size = true) (hn : es.size = n) (hr : Ris t.place.toList) {t' : SetTable} (e1 : t'.mask = t.mask) (e2 : t'.place = t.place) (e3 : t'.dummies = t.dummies) (hl : w.params.followText "set-order" = true ∨ t'.led = true) : SetR w (h.update a (Obj.putSet es t')) a S n :=
  ⟨_, es, ep + 1, t', store_at ho hd, hex, rfl, g, nd, hm, hb, by
    unfold SetTable.fits SetTable.fill at hf ⊢
    rw [e1, e2, e3]; exact hf, hn, by rw [e2]; exact hr, hl⟩
theorem unseenU {o : Obj} {es : Array (Int × Value)} {ep : Nat} {t : SetTable} {Q : Array (Int × Value) → Shared → Prop} (ho : s.heap.get? b = some o) (hd : o.data = .set es ep t) (hf : t.fits es.size = true) (Rb : SetR w s.heap b S2 n2)
    (hl : w.params.followText "set-order" = true ∨ t.led = true) (R : SetR w s.heap a S n) (h : ∀ (arr : Array (Int × Value)) h', arr.toList.Perm es.toList → Heap.SameBut a s.heap h' → SetR w h' a S n → Q arr { s with heap := h' }) :
    wpAny (model P w) A (setWalkUnseen b [a] (some a)) Q E s := by
  have same : ∀ arr : Array (Int × Value), arr.toList.Perm es.toList → Q arr s := fun arr p => h arr s.heap p (Heap.SameBut.refl a s.heap) R
  unfold setWalkUnseen
  refine wpAny_bind (wpAny_setState_of ho hd hf ?_)
  dsimp only
  refine wpAny_bind (wpAny_byText ?_)
  by_cases c : (w.params.followText "set-order" || t.led && t.plain || decide (es.size ≤ 1)) = true
  · refine wp_if_pos c (walkU ho hd hf hl ?_ same)
    rw [Bool.or_eq_true, Bool.or_eq_true, Bool.and_eq_true, decide_eq_true_eq] at c
    rcases c with (c | c) | c
    · exact .inl c
    · exact .inr (.inl c.2)
    · exact .inr (.inr c)
  · refine wp_if_neg c ?_
    refine wpAny_bind (quietU (fun x hx => ?_) ?_)
    · rcases List.mem_cons.mp hx with rfl | hx
      · exact ⟨_, _, Rb⟩
      · rw [List.mem_singleton.mp hx]; exact ⟨_, _, R⟩
    refine wp_if_neg (by decide) ?_
    refine wpAny_bind (wpAny_rule ?_)
    obtain ⟨o1, es1, ep1, t1, ho1, hex1, hd1, g1, nd1, hm1, hb1, hf1, hn1, hr1, hl1⟩ := R
    have hbt : w.params.followText "set-order" = false := by
      cases q : w.params.followText "set-order" with
      | false => rfl
      | true => rw [q] at c; exact absurd rfl c
    have hl2 : t.led = true := hl.resolve_left (by rw [hbt]; decide)
    refine wpAny_bind (wpAny_setState_of ho1 hd1 hf1 ?_)
    dsimp only
    split
    · refine wpAny_bind (wpAny_storeSet_of ho1 hd1 ?_ (fits_of_scanBound hb1))
      refine wpAny_pure (h es _ (List.Perm.refl _) (Heap.SameBut.update ..) ?_)
      exact SetR.flags ho1 hd1 hex1 g1 nd1 hm1 hb1 hf1 hn1 hr1 rfl rfl rfl (hl1.imp id fun z => by show (t1.led && t.led) = true; rw [z, hl2]; rfl)
    · exact wpAny_pure (same es (List.Perm.refl _))
theorem relayU {o : Obj} {es : Array (Int × Value)} {ep : Nat} {t : SetTable} {wanted : Nat} {Q : Unit → Shared → Prop} (ho : s.heap.get? a = some o) (hd : o.data = .set es ep t) (hf : t.fits es.size = true) (hw : wanted < 133) (hl : es.size ≤ wanted) (hb : es.size < scanBound)
    (hQ : ∀ es' t' order, NewT (SetTable.sizeAbove wanted - 1) es.size t.led t.plain t' order → es'.toList.Perm es.toList → Q () { s with heap := s.heap.update a (Obj.putSet es' t') }) : wpAny (model P w) A (setRelay a wanted) Q E s := by
  obtain ⟨m1, m2, m3⟩ := aboveU wanted hw
  obtain ⟨t', order, e, N⟩ := relaidU t rfl m1 (hs := es.map (·.1)) (by rw [Array.size_map]; omega)
  rw [Array.size_map] at N
  have pm := order_perm es order N.pm
  have hs2 : (order.filterMap (es[·]?)).size = es.size := by rw [← Array.length_toList, pm.length_eq, Array.length_toList]
  rw [setRelay_eq]
  refine wpAny_bind (wpAny_setState_of ho hd hf ?_)
  dsimp only
  refine wp_if_neg (by rw [sizeLine_eq]; omega) ?_
  try refine wpAny_bind (wpAny_pure ?_)
  rw [e]
  dsimp only
  refine wpAny_bind ?_
  refine wp_if_neg (by rw [hs2]; simp) ?_
  try refine wpAny_bind (wpAny_pure ?_)
  refine wpAny_pure ?_
  dsimp only
  exact wpAny_storeSet_of ho hd (hQ _ t' order N pm) (by rw [hs2]; exact fits_of_scanBound hb)
theorem ite_le {c : Prop} [Decidable c] {k m : Nat} (h : k + 1 ≤ m) : (if c then k else k + 1) ≤ m := by split <;> omega
/-- other ints are put into a set that has some -/
theorem mergeMore {each : Sem Unit} {Q : Unit → Shared → Prop} (R1 : SetR w s.heap a S n) (hn : 1 ≤ n) (R2 : SetR w s.heap b S2 n2) (hne : a ≠ b) (hl : n + n2 ≤ 66)
    (he : ∀ (s' : Shared) (Q' : Unit → Shared → Prop), s'.heap.get? b = s.heap.get? b → Q' () s' → wpAny (model P w) A each Q' E s')
    (hQ : ∀ h' k, Heap.SameBut a s.heap h' → SetR w h' a (fun j => S j || S2 j) k → k ≤ n + n2 → Q () { s with heap := h' }) : wpAny (model P w) A (setMerge a b each) Q E s := by
  obtain ⟨o2, es2, ep2, t2, ho2, hex2, hd2, g2, nd2, hm2, hb2, hf2, hn2, hr2, hl2⟩ := id R2
  unfold setMerge
  refine wp_if_neg (by simpa using hne) ?_
  refine wpAny_bind (wpAny_setState_of ho2 hd2 hf2 ?_)
  dsimp only
  by_cases c : es2.isEmpty = true
  · refine wp_if_pos c ?_
    have e0 : es2 = #[] := Array.isEmpty_iff.mp c
    refine wpAny_pure (hQ s.heap n (Heap.SameBut.refl a s.heap) (R1.congr fun k => ?_) (by omega))
    cases q : S2 k with
    | false => rw [Bool.or_false]
    | true =>
      have := (hm2 k).mp q
      rw [e0] at this
      cases this
  refine wp_if_neg c ?_
  -- the table gets room
  have room : ∀ (Q' : Unit → Shared → Prop), (∀ h', Heap.SameBut a s.heap h' → SetR w h' a S n → Q' () { s with heap := h' }) → wpAny (model P w) A (setRoomFor a es2.size) Q' E s := fun Q' hq => by
    obtain ⟨o, es, ep, t, ho, hex, hd, g, nd, hm, hb, hf, hsz, hr, hled⟩ := id R1
    unfold setRoomFor
    refine wpAny_bind (wpAny_setState_of ho hd hf ?_)
    dsimp only
    have hp : t.place.size = es.size := by
      unfold SetTable.fits at hf
      rw [Bool.and_eq_true, beq_iff_eq] at hf
      exact hf.1
    cases rf : t.roomFor es2.size with
    | none => exact wpAny_pure (hq s.heap (Heap.SameBut.refl a s.heap) R1)
    | some wanted =>
      have ew : wanted = (t.place.size + es2.size) * 2 := by
        unfold SetTable.roomFor at rf
        split at rf
        · exact (Option.some.inj rf).symm
        · cases rf
      refine relayU ho hd hf (by omega) (by omega) hb fun es' t' order N pm => ?_
      have hs' : es'.size = es.size := by rw [← Array.length_toList, pm.length_eq, Array.length_toList]
      refine hq _ (Heap.SameBut.update ..) ⟨_, es', _, t', store_at ho hd, hex, rfl, fun e he => g e (pm.mem_iff.mp he), (pm.map keyOf).nodup_iff.mpr nd, fun k => (hm k).trans (pm.map keyOf).mem_iff.symm, by rw [hs']; exact hb, by rw [hs']; exact N.fits, by rw [hs']; exact hsz, N.ris, hled.imp id fun z => by rw [N.led_]; exact z⟩
  refine wpAny_bind (room _ fun h1 sb1 Ra => ?_)
  have hb1 : h1.get? b = some o2 := by rw [sb1.2 b (fun z => hne z.symm)]; exact ho2
  have Rb : SetR w h1 b S2 n2 := ⟨o2, es2, ep2, t2, hb1, hex2, hd2, g2, nd2, hm2, hb2, hf2, hn2, hr2, hl2⟩
  obtain ⟨o, es, ep, t, ho, hex, hd, g, nd, hm, hb, hf, hsz, hr, hled⟩ := id Ra
  refine wpAny_bind (wpAny_setState_of (s := { s with heap := h1 }) ho hd hf ?_)
  dsimp only
  have hp : t.place.size = es.size := by
    unfold SetTable.fits at hf
    rw [Bool.and_eq_true, beq_iff_eq] at hf
    exact hf.1
  have rd : t.road t2 = .oneByOne := by
    unfold SetTable.road SetTable.fill
    exact if_pos (bne_iff_ne.mpr (by omega))
  rw [rd]
  dsimp only
  refine wpAny_bind (unseenU (s := { s with heap := h1 }) hb1 hd2 hf2 Rb hl2 Ra fun arr h2 pa sb2 Ra2 => ?_)
  refine wpAny_bind ?_
  rw [← Array.forIn_toList]
  have hb2' : h2.get? b = some o2 := by rw [sb2.2 b (fun z => hne z.symm)]; exact hb1
  refine wp_list (fun l _ s' => ∃ done h' k, done ++ l = arr.toList ∧ s' = { s with heap := h' } ∧ Heap.SameBut a s.heap h' ∧ h'.get? b = some o2 ∧ SetR w h' a (fun j => S j || decide (j ∈ done.map keyOf)) k ∧ k ≤ n + done.length) arr.toList _ _
    ⟨[], h2, n, rfl, rfl, sb1.trans sb2, hb2', Ra2.congr fun k => by simp, by simp⟩ ?_ ?_
  · rintro ⟨hh, v⟩ l u s' ⟨done, h', k, e1, rfl, sb3, hb3, Ra3, lk⟩
    have mem : (hh, v) ∈ es2.toList := pa.mem_iff.mp (by rw [← e1]; exact List.mem_append_right _ (List.mem_cons_self ..))
    obtain ⟨z, tk, q1, q2⟩ := g2 _ mem
    have q1 : v = .int z tk := q1
    have q2 : hh = (intKind P w).hash z := q2
    subst q1 q2
    have ld : done.length + 1 ≤ n2 := by
      have l1 := congrArg List.length e1
      have l2 : es2.toList.length = es2.size := Array.length_toList
      rw [List.length_append, List.length_cons, pa.length_eq] at l1
      omega
    refine wpAny_bind (wpAny_holding (setR_add_hashed (s := { s with heap := h' }) Ra3 (by have : scanBound = 4096 := rfl; omega) fun h4 sb4 Ra4 => ?_))
    have hb4 : h4.get? b = some o2 := by rw [sb4.2 b (fun z => hne z.symm)]; exact hb3
    refine wpAny_bind (he { s with heap := h4 } _ (hb4.trans ho2.symm) ?_)
    refine wpAny_bind (wpAny_setState_of (s := { s with heap := h4 }) hb4 hd2 hf2 ?_)
    refine wp_if_neg (by simp) ?_
    refine wpAny_pure ⟨_, rfl, done ++ [((intKind P w).hash z, .int z tk)], h4, _, by rw [List.append_assoc]; exact e1, rfl, sb3.trans sb4, hb4, Ra4.congr fun j => ?_, ?_⟩
    · rw [List.map_append, Bool.or_assoc]
      congr 1
      rw [Bool.eq_iff_iff]
      simp only [Bool.or_eq_true, decide_eq_true_eq, List.mem_append, List.map_cons, List.map_nil, List.mem_singleton]
      exact Iff.rfl
    · rw [List.length_append]
      exact ite_le (by show k + 1 ≤ n + (done.length + 1); omega)
  · rintro u s' ⟨done, h', k, e1, rfl, sb3, hb3, Ra3, lk⟩
    rw [List.append_nil] at e1
    subst e1
    refine wpAny_pure (hQ h' k sb3 (Ra3.congr fun j => ?_) ?_)
    · congr 1
      have : S2 j = true ↔ j ∈ arr.toList.map keyOf := (hm2 j).trans (pa.map keyOf).mem_iff.symm
      cases q : S2 j with
      | true => exact (decide_eq_true (this.mp q)).symm
      | false => exact (decide_eq_false fun z => by rw [this.mpr z] at q; cases q).symm
    · rw [pa.length_eq, Array.length_toList, hn2] at lk
      exact lk
/-- ints are put into a new set -/
theorem mergeNew {each : Sem Unit} {Q : Unit → Shared → Prop} {o : Obj} {ep : Nat} {t : SetTable} (ho : s.heap.get? a = some o) (hex : o.ExactSet) (hd : o.data = .set #[] ep t) (tm : t.mask = 7) (tp : t.place = #[]) (td : t.dummies = #[]) (hled : w.params.followText "set-order" = true ∨ t.led = true)
    (R2 : SetR w s.heap b S2 n2) (hne : a ≠ b) (hl : n2 ≤ 66) (hQ : ∀ h', Heap.SameBut a s.heap h' → SetR w h' a S2 n2 → Q () { s with heap := h' }) : wpAny (model P w) A (setMerge a b each) Q E s := by
  obtain ⟨o2, es2, ep2, t2, ho2, hex2, hd2, g2, nd2, hm2, hb2, hf2, hn2, hr2, hl2⟩ := id R2
  have hf0 : t.fits (#[] : Array (Int × Value)).size = true := by
    unfold SetTable.fits SetTable.fill
    rw [tp, td, tm]
    rfl
  unfold setMerge
  refine wp_if_neg (by simpa using hne) ?_
  refine wpAny_bind (wpAny_setState_of ho2 hd2 hf2 ?_)
  dsimp only
  by_cases c : es2.isEmpty = true
  · refine wp_if_pos c ?_
    have e0 : es2 = #[] := Array.isEmpty_iff.mp c
    subst e0
    refine wpAny_pure (hQ s.heap (Heap.SameBut.refl a s.heap) ⟨o, #[], ep, t, ho, hex, hd, g2, nd2, hm2, hb2, hf0, hn2, by rw [tp]; exact List.Pairwise.nil, hled⟩)
  refine wp_if_neg c ?_
  -- the table gets room
  have room : ∀ (Q' : Unit → Shared → Prop), (∀ h' o' ep' t', Heap.SameBut a s.heap h' → h'.get? a = some o' → o'.ExactSet → o'.data = .set #[] ep' t' → t'.place = #[] → t'.dummies = #[] → MaskU t'.mask → es2.size ≤ t'.mask → (w.params.followText "set-order" = true ∨ t'.led = true) → Q' () { s with heap := h' }) → wpAny (model P w) A (setRoomFor a es2.size) Q' E s := fun Q' hq => by
    unfold setRoomFor
    refine wpAny_bind (wpAny_setState_of ho hd hf0 ?_)
    dsimp only
    cases rf : t.roomFor es2.size with
    | none =>
      refine wpAny_pure (hq s.heap o ep t (Heap.SameBut.refl a s.heap) ho hex hd tp td (.inl tm) ?_ hled)
      unfold SetTable.roomFor SetTable.fill at rf
      rw [tp, td, tm] at rf
      split at rf
      · cases rf
      · rename_i q
        have q : ¬ (0 + 0 + es2.size) * 5 ≥ 7 * 3 := q
        omega
    | some wanted =>
      have ew : wanted = (0 + es2.size) * 2 := by
        unfold SetTable.roomFor at rf
        rw [tp] at rf
        split at rf
        · exact (Option.some.inj rf).symm
        · cases rf
      refine relayU ho hd hf0 (by omega) (Nat.zero_le _) (by decide) fun es' t' order N pm => ?_
      have hs' : es' = #[] := by
        have := pm.length_eq
        rw [Array.length_toList] at this
        exact Array.eq_empty_of_size_eq_zero this
      subst hs'
      have nf := N.fits
      unfold SetTable.fits SetTable.fill at nf
      rw [Bool.and_eq_true, beq_iff_eq, decide_eq_true_eq] at nf
      obtain ⟨m1, m2, m3⟩ := aboveU wanted (by omega)
      refine hq _ _ _ t' (Heap.SameBut.update ..) (store_at ho hd) hex rfl (Array.eq_empty_of_size_eq_zero nf.1) N.dm (by rw [N.mask_]; exact m1) (by rw [N.mask_]; omega) (hled.imp id fun z => by rw [N.led_]; exact z)
  refine wpAny_bind (room _ fun h1 o1 ep1 t1 sb1 ho1 hex1 hd1 tp1 td1 mk1 lm1 led1 => ?_)
  have hb1 : h1.get? b = some o2 := by rw [sb1.2 b (fun z => hne z.symm)]; exact ho2
  have hf1 : t1.fits (#[] : Array (Int × Value)).size = true := by
    unfold SetTable.fits SetTable.fill
    rw [tp1, td1]
    simp
  refine wpAny_bind (wpAny_setState_of (s := { s with heap := h1 }) ho1 hd1 hf1 ?_)
  dsimp only
  have ledb : w.params.followText "set-order" = true ∨ (t1.led && t2.led) = true := by
    rcases led1 with z | z
    · exact .inl z
    · rcases hl2 with y | y
      · exact .inl y
      · exact .inr (by rw [z, y]; rfl)
  have fin : ∀ es' t', es'.toList.Perm es2.toList → t'.fits es2.size = true → Ris t'.place.toList → (w.params.followText "set-order" = true ∨ t'.led = true) → Q () { s with heap := h1.update a (Obj.putSet es' t') } := fun es' t' pm hf hr hl => by
    have hs' : es'.size = es2.size := by rw [← Array.length_toList, pm.length_eq, Array.length_toList]
    exact hQ _ (sb1.trans (Heap.SameBut.update ..)) ⟨_, es', _, t', store_at ho1 hd1, hex1, rfl, fun e he => g2 e (pm.mem_iff.mp he), (pm.map keyOf).nodup_iff.mpr nd2, fun k => (hm2 k).trans (pm.map keyOf).mem_iff.symm, by rw [hs']; exact hb2, by rw [hs']; exact hf, by rw [hs']; exact hn2, hr, hl⟩
  have rd : t1.road t2 = .slotForSlot ∨ t1.road t2 = .clean := by
    unfold SetTable.road SetTable.fill
    rw [if_neg (by rw [tp1, td1]; decide)]
    split
    · exact .inl rfl
    · exact .inr rfl
  rcases rd with rd | rd
  · rw [rd]
    dsimp only
    refine wpAny_storeSet_of (s := { s with heap := h1 }) ho1 hd1 (fin es2 _ (List.Perm.refl _) ?_ hr2 ledb) (fits_of_scanBound hb2)
    unfold SetTable.fits SetTable.fill at hf2 ⊢
    exact hf2
  · rw [rd]
    dsimp only
    obtain ⟨t', order, e, N⟩ := laidU mk1 (hs := es2.map (·.1)) (by rw [Array.size_map]; exact lm1) t1.finger t1.moves (t1.led && t2.led) (t1.plain && t2.plain)
    rw [Array.size_map] at N
    have pm := order_perm es2 order N.pm
    have hs2 : (order.filterMap (es2[·]?)).size = es2.size := by rw [← Array.length_toList, pm.length_eq, Array.length_toList]
    rw [e]
    refine wpAny_bind ?_
    refine wp_if_neg (c := ((order.filterMap (es2[·]?)).size != es2.size) = true) (by rw [hs2]; simp) ?_
    refine wpAny_pure ?_
    dsimp only
    exact wpAny_storeSet_of (s := { s with heap := h1 }) ho1 hd1 (fin _ t' pm N.fits N.ris (by rw [N.led_]; exact ledb)) (by rw [hs2]; exact fits_of_scanBound hb2)
end
end My

namespace My
open PySem PySem.Spec PyProof.Rows L2
theorem entry_set_or : entryFor table "set.__or__" = some Builtin.«frozenset.__or__» :=
  entryFor_alias (id' := "frozenset.__or__") (by kernel_rfl) rfl (by decide +kernel) (by kernel_rfl)
section
variable {P : Program} {w : World} {A : Around} {E : Value → Shared → Prop} {s : Shared} {a b : Addr} {S S2 : Int → Bool} {n n2 : Nat}
theorem copyU {Q : Value → Shared → Prop} (R2 : SetR w s.heap b S2 n2) (hl : n2 ≤ 66) (hQ : ∀ h', (∀ c o, s.heap.get? c = some o → h'.get? c = some o) → SetR w h' s.heap.objs.size S2 n2 → Q (.ref s.heap.objs.size) { s with heap := h' }) :
    wpAny (model P w) A (Builtin.Frozenset.copyOf b) Q E s := by
  have hS : s.heap.SetOf (intKind P w) b S2 n2 := R2.setOf
  have lt := R2.lt
  unfold Builtin.Frozenset.copyOf Builtin.Frozenset.baseOf
  refine wpAny_bind (wpAny_bind (wpAny_isInstance hS.typeIs sub_set_self ?_))
  refine wpAny_pure ?_
  rw [if_pos rfl]
  refine wpAny_bind ?_
  unfold newSet
  refine wpAny_bind (wpAny_byText ?_)
  simp only [newObj]
  refine wpAny_bind (wpAny_alloc (wpAny_pure ?_))
  refine wpAny_bind (wpAny_pure ?_)
  have hget : (s.heap.push { cls := .type "set", dict := none, data := .set #[] 0 (.fresh 0 0 (!w.params.followText "set-order")) }).get? s.heap.objs.size = some { cls := .type "set", dict := none, data := .set #[] 0 (.fresh 0 0 (!w.params.followText "set-order")) } := Heap.get?_push_size _ rfl
  have keep : ∀ c o, s.heap.get? c = some o → (s.heap.push { cls := .type "set", dict := none, data := .set #[] 0 (.fresh 0 0 (!w.params.followText "set-order")) }).get? c = some o := fun c o e => Heap.get?_push_of_some _ e
  refine wpAny_bind (mergeNew (s := { s with heap := s.heap.push { cls := .type "set", dict := none, data := .set #[] 0 (.fresh 0 0 (!w.params.followText "set-order")) } }) hget ⟨rfl, rfl, rfl⟩ rfl rfl rfl rfl ?_ (R2.at fun o e => keep b o e) (Nat.ne_of_gt lt) hl fun h' sb R => ?_)
  · show _ ∨ (!w.params.followText "set-order") = true
    cases w.params.followText "set-order"
    · exact .inr rfl
    · exact .inl rfl
  · refine wpAny_pure (hQ h' (fun c o e => ?_) R)
    have hc : c ≠ s.heap.objs.size := Nat.ne_of_lt (Heap.lt_size e)
    rw [sb.2 c hc]
    exact keep c o e
theorem call_setor {Q : Value → Shared → Prop} (R : SetR w s.heap a S n) (R2 : SetR w s.heap b S2 n2) (hn1 : 1 ≤ n) (hne : a ≠ b) (hl : n + n2 ≤ 66)
    (hQ : ∀ h' k, (∀ c o, s.heap.get? c = some o → h'.get? c = some o) → SetR w h' s.heap.objs.size (fun j => S j || S2 j) k → k ≤ n + n2 → Q (.ref s.heap.objs.size) { s with heap := h' }) :
    wpAny (model P w) A (call (.builtin "set.__or__") [.ref a, .ref b]) Q E s := by
  have hS : s.heap.SetOf (intKind P w) a S n := R.setOf
  have hS2 : s.heap.SetOf (intKind P w) b S2 n2 := R2.setOf
  refine wpAny_call_entry F.slot_set_or hS.typeIs entry_set_or ?_ (F.args_set_or_2 _ _)
  unfold Builtin.«frozenset.__or__»
  refine wpAny_bind (m := Builtin.Frozenset.slot1 "__or__" _) ?_
  unfold Builtin.Frozenset.slot1
  refine wpAny_bind (m := slotArgs "__or__" 1 _) (wpAny_pure ?_)
  refine wpAny_pure ?_
  dsimp only
  rw [if_neg (by decide : ¬ (false = true))]
  have any1 : ∀ (Q' : Bool → Shared → Prop), Q' true s → wpAny (model P w) A.in1 (Builtin.Frozenset.isAnySet (.ref a) <&&> Builtin.Frozenset.isAnySet (.ref b)) Q' E s := fun Q' q => by
    unfold Builtin.Frozenset.isAnySet orM andM
    refine wpAny_bind (wpAny_bind (wpAny_isInstance hS.typeIs sub_set_self ?_))
    refine wpAny_pure ?_
    refine wpAny_bind (wpAny_isInstance hS2.typeIs sub_set_self ?_)
    exact wpAny_pure q
  refine wpAny_bind (any1 _ ?_)
  refine wp_if_neg (by decide) ?_
  refine wpAny_bind (wpAny_pure ?_)
  refine wpAny_bind ?_
  refine wpAny_bind (m := Builtin.Frozenset.copyOf a) (copyU R (by omega) fun h1 k1 R1 => ?_)
  refine wp_if_pos (c := (Value.ref b != Value.ref a) = true) (bne_iff_ne.mpr fun z => hne (by injection z with z; exact z.symm)) ?_
  refine wpAny_bind (wpAny_pure ?_)
  refine wpAny_bind (wpAny_holding ?_)
  have R21 : SetR w h1 b S2 n2 := R2.at fun o e => k1 b o e
  obtain ⟨o2, es2, ep2, t2, ho2, hex2, hd2, g2, nd2, hm2, hb2, hf2, hn2, hr2, hl2⟩ := id R21
  have hneb : s.heap.objs.size ≠ b := Nat.ne_of_gt R2.lt
  unfold Builtin.Frozenset.updateFrom
  refine wpAny_bind (m := Builtin.Frozenset.isAnySet (.ref b)) ?_
  unfold Builtin.Frozenset.isAnySet orM
  have hS21 : h1.SetOf (intKind P w) b S2 n2 := R21.setOf
  refine wpAny_bind (wpAny_isInstance (s := { s with heap := h1 }) hS21.typeIs sub_set_self ?_)
  refine wpAny_pure ?_
  refine wp_if_pos rfl ?_
  refine wpAny_bind (wpAny_pure ?_)
  unfold Builtin.Frozenset.merge
  have epoch : ∀ (s' : Shared) (Q' : Nat → Shared → Prop), s'.heap.get? b = some o2 → Q' ep2 s' → wpAny (model P w) A.in1 (setEpoch b) Q' E s' := fun s' Q' e q => by
    unfold setEpoch
    exact wpAny_bind (wpAny_setState_of e hd2 hf2 (wpAny_pure q))
  refine wpAny_bind (epoch _ _ ho2 ?_)
  refine mergeMore (s := { s with heap := h1 }) R1 hn1 R21 hneb hl (fun s' Q' e q => ?_) fun h2 k sb R2' lk => ?_
  · unfold Builtin.Frozenset.unchanged
    refine wpAny_bind (epoch s' _ (e.trans ho2) ?_)
    exact wp_if_neg (by simp) (wpAny_pure q)
  · refine wpAny_pure ?_
    refine wpAny_pure ⟨_, rfl, hQ h2 k (fun c o e => ?_) R2' lk⟩
    rw [sb.2 c (Nat.ne_of_lt (Heap.lt_size e))]
    exact k1 c o e
end
end My
namespace My
open PySem PySem.Spec PyProof.Rows L2
section
variable {P : Program} {w : World} {A : Around} {E : Value → Shared → Prop} {s : Shared}
/-- a new set, empty -/
abbrev newS (w : World) : Obj := { cls := .type "set", dict := none, data := .set #[] 0 (.fresh 0 0 (!w.params.followText "set-order")) }
set_option maxHeartbeats 3200000 in
theorem set_of_list {l : Addr} {items : Array Value} (ns : List Int) {Q : Value → Shared → Prop} (hA : A.handled = none) (hl : s.heap.IsList l items) (hi : IntsAre items.toList ns) (hb : ns.length + 1 < scanBound)
    (h : ∀ (h' : Heap) (tk c : Nat), SetR w h' s.heap.objs.size (fun j => decide (j ∈ ns)) c → c ≤ ns.length → (∀ b o, s.heap.get? b = some o → h'.get? b = some o) → Q (.ref s.heap.objs.size) { s with heap := h', toks := tk }) :
    wpAny (model P w) A (call (.type "set") [.ref l]) Q E s := by
  have size : items.size = ns.length := (Array.length_toList (xs := items)).symm.trans (IntsAre.length hi)
  obtain ⟨cm, tm, hm⟩ := F.called_set.mro
  have k1 := F.called_set.made; have k2 := F.called_set.sub; have k3 := F.called_set.notType; have k4 := F.called_set.canCreate; have k5 := F.typeCall_set_1 (.ref l)
  refine wpAny_call (codeAny_of_tree ?_); show wpAny _ _ (callAny (.type "set") _) _ _ _
  refine wpAny_pure ⟨Code.quiet_builtin _ (by decide +kernel), codeAny_builtin F.entry_type_call ?_⟩; rw [Around.under_plain (weight_type_call_type "set" [.ref l] []) rfl]
  repeat (any_goals (first | assumption | wp_step))
  refine codeAny_mono (code_set_led1 (.ref l) (E := E) (Q₁ := fun x s₁ => x = .ref s.heap.objs.size ∧ s₁ = { s with heap := s.heap.push (newS w) }) ⟨rfl, rfl⟩) fun r s₁ hr => ?_
  cases r with
  | error e => exact hr
  | ok fl =>
    cases fl with
    | ret x =>
      obtain ⟨rfl, rfl⟩ := hr
      have at1 : (s.heap.push (newS w)).get? s.heap.objs.size = some (newS w) := Heap.get?_push_size _ rfl
      have ty1 : Shared.TypeIs { s with heap := s.heap.push (newS w) } (.ref s.heap.objs.size) "set" := ⟨_, at1, rfl⟩
      have i1 := F.called_set.init.lookup; have i2 := F.called_set.init.bind (.ref s.heap.objs.size)
      repeat (any_goals (first | assumption | wp_step))
      refine codeAny_mono (codeAny_call_builtin (R := wants (fun v s₂ => v = .none ∧ ∃ h' tk c, s₂ = { s with heap := h', toks := tk } ∧ SetR w h' s.heap.objs.size (fun j => decide (j ∈ ns)) c ∧ c ≤ ns.length ∧ (∀ b o, s.heap.get? b = some o → h'.get? b = some o)) E)
        F.called_set.init.plain F.entry_set_init (check_set_init_1 ty1 ?_)) fun r₂ s₂ hr₂ => ?_
      · obtain ⟨⟨c0, d0, x0, l0⟩, ol, hc, z, hd⟩ := hl
        simp only at hc hd
        subst hc hd
        have ol1 : (s.heap.push (newS w)).get? l = some { cls := .type "list", dict := d0, data := .seq items z, slots := l0 } := Heap.get?_push_of_some _ ol
        have s1 := F.sub_list_set; have s2 := F.sub_list_frozenset; have s3 : (Value.type "list" == Value.type "dict") = false := by decide
        have lst : (s.heap.push (newS w)).IsList l items := ⟨_, ol1, rfl, z, rfl⟩
        unfold Builtin.«set.__init__» noKeywords Builtin.Frozenset.updateFrom; generalize hPI : pyIter = PI; wp_walk; subst hPI
        refine wpAny_pyIter_list lst ?_; refine wpAny_bind (wpAny_runValue ?_)
        have hlS : l < s.heap.objs.size := Heap.lt_size ol
        have sz : (s.heap.push (newS w)).objs.size = s.heap.objs.size + 1 := Heap.size_push ..
        have neI : l ≠ (s.heap.push (newS w)).objs.size := by rw [sz]; exact Nat.ne_of_lt (Nat.lt_succ_of_lt hlS)
        have notin : s.heap.objs.size ∉ [(s.heap.push (newS w)).objs.size, l] := by
          rw [sz]; simp only [List.mem_cons, List.not_mem_nil, or_false, not_or]; exact ⟨Nat.ne_of_lt (Nat.lt_succ_self _), Nat.ne_of_gt hlS⟩
        have val : ∀ (i : Nat) (v : Value), items[i]? = some v → ∃ k t, ns[i]? = some k ∧ v = .int k t := fun i v hv => by
          have lt : i < ns.length := by rw [← size]; exact (Array.getElem?_eq_some_iff.mp hv).1
          obtain ⟨t, e⟩ := PyProof.Rows.IntsAre.int_at hi i v ((Array.getElem?_toList ..).trans hv)
          rw [List.getD_eq_getElem?_getD, List.getElem?_eq_getElem lt] at e
          exact ⟨ns[i], t, List.getElem?_eq_getElem lt, e⟩
        refine set_update_ints ((Walks.list (by simp [hA]) _ l neI items).toS) s.heap.objs.size notin ns size hb val (items.size - 0) 0 _ (by omega) (Nat.zero_le _) ⟨⟨_, Heap.get?_push_size _ rfl, rfl, rfl⟩, (lst.push _)⟩ ?st ?en
        case st => exact ⟨0, Nat.le_refl 0, setR_new_at (Heap.get?_push_of_some _ at1)⟩
        case en =>
          intro s' c' mv hc' hS'
          obtain ⟨h', g2, d', tk', os'⟩ := s'
          have q1 : g2 = s.gens := mv.gens
          have q2 : d' = s.drawn := mv.drawn
          have q3 : os' = s.os := mv.os
          subst q1 q2 q3
          refine wpAny_pure ?_
          show wpAny _ _ (ret Value.none) _ _ _
          refine wpAny_pure ⟨rfl, h', tk', c', rfl, hS', by omega, fun b o e => ?_⟩
          have lt := Heap.lt_size e
          refine mv.heap b o ?_ (Heap.get?_push_of_some _ (Heap.get?_push_of_some _ e))
          rw [sz]; simp only [List.mem_cons, List.not_mem_nil, or_false, not_or]
          exact ⟨Nat.ne_of_lt lt, Nat.ne_of_lt (Nat.lt_succ_of_lt lt)⟩
      · cases r₂ with
        | error e => exact hr₂
        | ok fl₂ =>
          cases fl₂ with
          | ret r =>
            obtain ⟨rfl, h', tk, c', rfl, hS', hc', hk'⟩ := hr₂
            repeat (any_goals (first | assumption | wp_step))
            exact h _ _ _ hS' hc' hk'
          | _ => exact hr₂.elim
    | _ => exact hr.elim
end
section
variable {X : Cx}
def rSetOr (w : World) : V → V → Hp → VK → Prop := fun x y H Q => ∃ a b S n S2 n2, x = .ref a ∧ y = .ref b ∧ H a = some (SetO w a S n) ∧ H b = some (SetO w b S2 n2) ∧ a ≠ b ∧ 1 ≤ n ∧ n + n2 ≤ 66 ∧ ∀ p (l : List Int), H p = none → l.Nodup → (∀ j, j ∈ l ↔ (S j || S2 j) = true) → Q (.ref p) (upd H p (SetO w p (fun j => S j || S2 j) l.length))
/-- one | other, of sets of ints -/
theorem op_setor : OpR X (binaryOp .BitOr) (rSetOr X.w) := by
  intro pins s σ H x y v u Q I rx ry h
  obtain ⟨a, b, S, n, S2, n2, rfl, rfl, ha, hb, hne, hn1, hl, q⟩ := h
  cases rx
  cases ry
  have R := setO_get I ha
  have R2 := setO_get I hb
  have t1 : s.heap.SetOf (intKind X.prog X.w) a S n := R.setOf
  have t2 : s.heap.SetOf (intKind X.prog X.w) b S2 n2 := R2.setOf
  refine wpAny_binaryOp_same (op := .BitOr) t1.typeIs t2.typeIs F.fills_set_or F.slot_set_or (call_setor R R2 hn1 hne hl fun h' k kp R' lk => ⟨(by intro z; cases z), ?_⟩)
  obtain ⟨o, es, ep, t, _, _, _, _, nd, hm, _, _, hz, _⟩ := id R'
  have ez : (es.toList.map keyOf).length = k := by rw [List.length_map, Array.length_toList, hz]
  refine ⟨.ref s.heap.objs.size, upd H s.heap.objs.size (SetO X.w s.heap.objs.size _ k), I.laid (t' := s.toks) kp (Nat.le_refl _) (setO_new R'), rfl, ?_⟩
  rw [← ez]
  exact q _ _ (I.hok.fresh (Nat.le_refl _)) nd fun j => (hm j).symm
def rSetL (K : PySem.W.Frag) (w : World) : List V → Hp → VK → Prop := fun xs H Q => ∃ (a : Addr) (ns : List Int), xs = [.ref a] ∧ SqL K H a (ns.map V.int) ∧ ns.length ≤ 1000 ∧ ∀ p c, H p = none → c ≤ ns.length → (1 ≤ ns.length → 1 ≤ c) → Q (.ref p) (upd H p (SetO w p (fun j => decide (j ∈ ns)) c))
/-- set(xs) of a list of ints -/
theorem cr_setL (hc : X.calm = true) : CallR X (.type "set") (rSetL X.K X.w) := by
  intro pins s σ H xs us Q I r h
  obtain ⟨a, ns, rfl, hs, hn, q⟩ := h
  obtain ⟨u, rfl, ru⟩ := r.one
  cases ru
  obtain ⟨its, rv, ⟨o, n, ho, hcl, hdn, hd⟩, hlen⟩ := I.list hs
  refine set_of_list (items := its.toArray) ns (I.ok.hd hc) ⟨o, ho, hcl, n, hd⟩ (ints_of_vals rv) (by have : scanBound = 4096 := rfl; omega) fun h' tk c R lc kp => ?_
  refine ⟨.ref s.heap.objs.size, upd H s.heap.objs.size (SetO X.w s.heap.objs.size _ c), I.laid (t' := tk) kp (Nat.le_refl _) (setO_new R), rfl, q _ c (I.hok.fresh (Nat.le_refl _)) lc fun l1 => ?_⟩
  obtain ⟨o, es, ep, t, _, _, _, _, _, hm, _, _, hz, _⟩ := R
  cases ns with
  | nil => exact absurd l1 (by decide)
  | cons x ns =>
    have := (hm x).mp (by simp)
    rw [← hz]
    cases e : es.toList with
    | nil => rw [e] at this; cases this
    | cons y ys => rw [← Array.length_toList, e]; exact Nat.succ_le_succ (Nat.zero_le _)
end
end My

namespace My
open PySem PySem.Spec PyProof.Rows L2
/-! super().__init__(e, ..) as a def's first statement -/
/-- what is asked of the program: no name `super` of its own at the top -/
class SupP (P : Program) : Prop where
  top : (P.main.scope.names.lookup ("super" : Str)).isSome = false
/-- a def's names: no cells of its own, __class__ alone from without -/
structure SupScope (N ps : List Str) (sc : Scope) : Prop where
  kind : sc.kind = .function
  co : sc.isCoroutine = false
  gen : sc.isGenerator = false
  nd : N.Nodup
  pre : N.take ps.length = ps
  par : ∀ x ∈ ps, sc.names.lookup x = some .local
  nocell : ∀ y ∈ sc.names, y.2 ≠ .cell
  free : ∀ y ∈ sc.names, y.2 = .free → y.1 = "__class__"
  sup : sc.names.lookup ("super" : Str) = some .globalImplicit
  cls : sc.names.lookup ("__class__" : Str) = some .free
/-- what the written part says of the def: its cell __class__ (at cc) holds the class at D, its code names the main file -/
structure SupK (P : Program) (K : PySem.W.Frag) (cda cc D : Addr) : Prop where
  cell : ∃ (cl : Value) (cld : Option Addr) (csl : Array (Option Value)), K.lookup cc = some ⟨cl, cld, .cell (some (.ref D)), csl⟩
  code : ∃ (cl : Value) (cld : Option Addr) (vs : Array Value) (csl : Array (Option Value)) (file : Str) (tf : Tok), K.lookup cda = some ⟨cl, cld, .fields vs, csl⟩ ∧ vs[2]? = some (.str file tf) ∧ ((P.main.file : Str) == file) = true
  cls : ∃ cd, PySem.W.clsIn K D = some cd
  glo : PySem.W.nsIn K mainGlobals "super" = some none
  op : PySem.W.nsIn K cStatics "thirdparty.any" = some none
/-- the class at C below D: what super() finds -/
structure SupC (K : PySem.W.Frag) (C D f2 : Addr) : Prop where
  sub : PySem.W.mroIn K C (.ref D) = some true
  at_ : PySem.W.ks_superIn K C D "__init__" = some (some (.ref f2))
abbrev supEnv (qual : Str) (scope : Scope) (L f cda cc : Addr) : Env := PySem.W.ksEnv qual scope L f (.ref cda) cc
/-- the context of such a def's body -/
def cxSup (CX : CXT) (P : Program) (w : World) (K : PySem.W.Frag) (mg : Str → Option Value) (base : Heap) (N : List Str) (qual : Str) (scope : Scope) (f cda cc : Addr) (A : Around) (outer : List Env) (s : Shared) (H : Hp) (E : XK) : Cx where
  prog := P
  w := w
  K := K
  mg := mg
  base := base
  A := A.deeper (supEnv qual scope s.heap.objs.size f cda cc)
  N := N
  s_0 := s
  H_0 := H
  env := supEnv qual scope s.heap.objs.size f cda cc
  outer := outer
  stack := supEnv qual scope s.heap.objs.size f cda cc :: outer
  ex := []
  calm := true
  fn := fun _ => false
  pn := []
  xe := fun e s' => wpAny (model P w) (A.deeper (supEnv qual scope s.heap.objs.size f cda cc)) (leaving (supEnv qual scope s.heap.objs.size f cda cc) e) (fun _ s'' => CX outer H s E e s'') (fun e' s'' => CX outer H s E e' s'') s'
theorem zip_get {x : Str} : ∀ {ps : List Str} {us : List Value} {i : Nat} {u : Value}, ps.Nodup → ps[i]? = some x → us[i]? = some u → (ps.zip us).reverse.lookup x = some u := by
  intro ps us i u nd h1 h2
  have hm : (x, u) ∈ (ps.zip us).reverse := by
    rw [List.mem_reverse]
    refine List.mem_of_getElem? (i := i) ?_
    rw [List.getElem?_zip_eq_some]
    exact ⟨h1, h2⟩
  have one : ∀ v, (x, v) ∈ (ps.zip us).reverse → v = u := by
    intro v hv
    rw [List.mem_reverse] at hv
    obtain ⟨j, hj⟩ := List.getElem?_of_mem hv
    rw [List.getElem?_zip_eq_some] at hj
    have e : j = i := by
      obtain ⟨a1, a2⟩ := List.getElem?_eq_some_iff.mp hj.1
      obtain ⟨b1, b2⟩ := List.getElem?_eq_some_iff.mp h1
      exact (List.getElem_inj nd).mp (a2.trans b2.symm)
    subst e
    exact Option.some.inj (hj.2.symm.trans h2)
  generalize (ps.zip us).reverse = l at hm one
  induction l with
  | nil => cases hm
  | cons y l ih =>
    obtain ⟨a, b⟩ := y
    rw [List.lookup_cons]
    by_cases e : x = a
    · subst e
      rw [one b (List.mem_cons_self ..)]
      simp
    · have e2 : (x == a) = false := by simpa using e
      rw [e2]
      refine ih ?_ fun v hv => one v (List.mem_cons_of_mem _ hv)
      rcases List.mem_cons.mp hm with z | z
      · injection z with z1 z2
        exact absurd z1 e
      · exact z
section
variable {CX : CXT} {P : Program} {w : World} {K : PySem.W.Frag} {mg : Str → Option Value} {base : Heap} {N ps : List Str} {qual : Str} {scope : Scope} {f cda cc D : Addr} {A : Around} {outer : List Env} {s : Shared} {H : Hp} {E : XK} {us : List Value} {vs : List V}
theorem sup_start {h0 : Heap} {t' : Nat} (S : SupScope N ps scope) (hd : A.handled = none) (e0 : Env0 P w K mg base A outer s H) (hl : vs.length = ps.length) (r : Vals vs us) (F : SupK P K cda cc D) (hns : h0.Ns s.heap.objs.size (fun x => (ps.zip us).reverse.lookup x)) (hk : ∀ b o, s.heap.get? b = some o → h0.get? b = some o) :
    Inv (cxSup CX P w K mg base N qual scope f cda cc A outer s H E) [] (L2.start N vs) H { s with heap := h0, toks := t' } := by
  have hpl : ps.length ≤ N.length := by have := congrArg List.length S.pre; rw [List.length_take] at this; omega
  obtain ⟨cl, cld, csl, hc⟩ := F.cell
  have hcb := e0.mod.kin _ _ hc
  obtain ⟨hcs, hcn⟩ := e0.bs _ _ hcb
  have one : ∀ {x : Str} {c : Addr}, (cxSup CX P w K mg base N qual scope f cda cc A outer s H E).env.cells.lookup x = some c → x = "__class__" ∧ c = cc := by
    intro x c h
    have h : ([("__class__", cc)] : List (Str × Addr)).lookup x = some c := h
    rw [List.lookup_cons] at h
    by_cases e : x = "__class__"
    · subst e
      have z : (("__class__" : Str) == "__class__") = true := by simp
      rw [z] at h
      exact ⟨rfl, (Option.some.inj h).symm⟩
    · have z : (x == ("__class__" : Str)) = false := by simpa using e
      rw [z] at h
      cases h
  have noA : ∀ b : Addr, b ∉ (cxSup CX P w K mg base N qual scope f cda cc A outer s H E).ex := fun b z => absurd (show b ∈ ([] : List Addr) from z) (by simp)
  refine ⟨⟨e0.mod, S.kind, rfl, rfl, Nat.le_refl _, fun y z c h1 h2 => (one h1).1.trans (one h2).1.symm, fun y hy => ?_, fun y c z => (nomatch z), fun _ => hd, Around.frames_deeper e0.frames, .inr ⟨rfl, rfl⟩, fun b z => absurd z (noA b), e0.bs, e0.bsz, fun b _ _ => noA b, fun b z => absurd z (noA b), e0.funs, e0.frf⟩,
    rfl, e0.bare, Un.kept hk, ⟨_, hns, fun i y v h1 h2 h3 => ?_⟩, fun y c h => ?_, e0.hok.fresh (Nat.le_refl _), fun y c h => ?_, fun p hp => absurd (show p ∈ ([] : List (Addr × Obj)) from hp) (by simp), e0.hok.kept hk, ?_⟩
  · have hy : scope.names.lookup y = some .cell ∨ scope.names.lookup y = some .free := hy
    rcases hy with hy | hy
    · exact absurd rfl (S.nocell _ (PySem.mem_of_lookup hy))
    · have e := S.free _ (PySem.mem_of_lookup hy) rfl
      have e : y = "__class__" := e
      subst e
      exact ⟨cc, by show ([(("__class__" : Str), cc)] : List (Str × Addr)).lookup ("__class__" : Str) = some cc; simp [List.lookup]⟩
  · have hi : i < vs.length := by
      unfold L2.start at h2
      by_cases hi : i < vs.length
      · exact hi
      · rw [List.getElem?_append_right (by simpa using hi), List.getElem?_replicate] at h2
        split at h2 <;> cases h2
    have ha : vs[i]? = some v := by
      unfold L2.start at h2
      rw [List.getElem?_append_left (by simpa using hi), List.getElem?_map] at h2
      cases e : vs[i]? with
      | none => rw [e] at h2; cases h2
      | some a => rw [e] at h2; cases h2; rfl
    obtain ⟨u, hu, rv⟩ := r.get ha
    have hp : ps[i]? = some y := by
      rw [← S.pre, List.getElem?_take_of_lt (by omega)]
      exact h1
    have ndP : ps.Nodup := by rw [← S.pre]; exact S.nd.sublist (List.take_sublist _ _)
    exact ⟨u, rv, .inl ⟨S.par y (List.mem_of_getElem? hp), zip_get ndP hp hu⟩⟩
  · obtain ⟨rfl, rfl⟩ := one h
    exact ⟨_, ⟨_, hk _ _ hcs, rfl⟩⟩
  · obtain ⟨rfl, rfl⟩ := one h
    exact hcn
  · unfold L2.start
    show _ = N.length
    rw [List.length_append, List.length_map, List.length_replicate]
    omega
end
section
variable {CX : CXT} {P : Program} {w : World} {K : PySem.W.Frag} {mg : Str → Option Value} {base : Heap}
/-- a def whose body is super().__init__(e, ..) and rest -/
theorem fn_sup [SP0 : SupP P] {CX2 : CXT} {k : Nat} {f cda cc D f2 : Addr} {fd2 : FuncData} {name qual : Str} {params : Arguments} {e : Expr} {es : List Expr} {rest : List Stmt} {p0 p1 p2 p3 p4 : Pos} {scope : Scope} {dV kV doc pm ct oc : Value} {an od : Option Addr} {osl : Array (Option Value)} {N ps ps2 : List Str} {ar : Arg} {sp sp2 : Sp} {ds2 : List Value} {dvs2 : List V} {E2 : XK}
    (lk : K.lookup f = some ⟨oc, od, .func (PySem.W.ksFn name qual params (.Expr (.Call (.Attribute (.Call (.Name "super" p0) [] [] p1) "__init__" p2) (e :: es) [] p3) p4 :: rest) scope dV kV doc pm an (.ref cda) ct cc), osl⟩)
    (hcd : PySem.W.codeIn K (.ref cda) qual = true) (S : SupScope N ps scope) (len : ∀ vs H Q E, sp vs H Q E → vs.length = ps.length) (F : SupK P K cda cc D) (hp : (params.posonlyargs ++ params.args).head? = some ar) (h0 : ps[0]? = some ar.arg)
    (F2 : FnOk P w K mg base CX2 k f2 fd2 ps2 sp2) (fi : PySem.W.fnIn K f2 = true) (ty : PySem.W.typeIn K (.ref f2) = some (.type "function")) (hb2 : Binds K fd2 ps2 ds2) (hd2 : Vals dvs2 ds2)
    (hx : ∀ A outer s H E, Passes CX2 (cxSup CX P w K mg base N qual scope f cda cc A outer s H E) E2)
    (hbody : ∀ (A : Around) (outer : List Env) (s : Shared) (H : Hp) (vs : List V) (Q : VK) (E : XK), Room k (A.deeper (supEnv qual scope s.heap.objs.size f cda cc)) → sp vs H Q E →
      ∃ ta t, PA (cxSup CX P w K mg base N qual scope f cda cc A outer s H E) (e :: es) ta ∧ PSs (cxSup CX P w K mg base N qual scope f cda cc A outer s H E) rest t ∧ ∃ (x C dx : Addr) (fs : List (Str × V)), vs[0]? = some (.ref x) ∧ H x = some (.ins C dx fs) ∧ SupC K C D f2 ∧
        ∀ q, H q = none → ta (L2.start N vs) (upd H q (.met f2 x)) fun us H1 => H1 q = some (.met f2 x) ∧ sp2 (.ref x :: (us ++ dvs2)) H1 (fun _ H2 => t { nx := fun _ H' => Q .non H', rt := Q } (L2.start N vs) H2) E2)
    (hev : ∀ L : Addr, ∃ pl : Sem Bool, eval (.Call (.Attribute (.Call (.Name "super" p0) [] [] p1) "__init__" p2) (e :: es) [] p3) (supEnv qual scope L f cda cc) = (do
      let ov ← attributeBase (.Call (.Name "super" p0) [] [] p1) "__init__" (supEnv qual scope L f cda cc) (eval (.Call (.Name "super" p0) [] [] p1) (supEnv qual scope L f cda cc))
      standAt p2.atName
      let (g, first) ← holding [ov] (getMethod ov "__init__" pl)
      callWith p3 g first (backTo p3 (starEach (e :: es) (supEnv qual scope L f cda cc))) []))
    (hpl : ∀ L : Addr, (backTo p3 (starEach (e :: es) (supEnv qual scope L f cda cc))).any (·.1) = false) :
    FnOk P w K mg base CX (k + 1) f (PySem.W.ksFn name qual params (.Expr (.Call (.Attribute (.Call (.Name "super" p0) [] [] p1) "__init__" p2) (e :: es) [] p3) p4 :: rest) scope dV kV doc pm an (.ref cda) ct cc) ps sp := by
  refine ⟨len, fun A outer s H args us vs Q E hr e0 hb r hsp => ?_⟩
  have hl := len _ _ _ _ hsp
  have KX : K.In s.heap := e0.mod.kin.keeps fun b o e => (e0.bs b o e).1
  have lim : s.heap.NoLimit := e0.mod.nolimit.keeps fun b o e => (e0.bs b o e).1
  refine PySem.ks_codeAny_call_defAt hr.depth (KX _ _ lk) rfl lim (PySem.W.codeRec_of KX hcd) rfl hb S.nocell (fun ⟨n, v⟩ hy => S.par n (List.of_mem_zip hy).1) (fun h₀ hns hk => ?_) S.co S.gen S.kind
  have I0 : Inv (cxSup CX P w K mg base N qual scope f cda cc A outer s H E) [] (L2.start N vs) H { s with heap := h₀, toks := s.toks + (ps.zip us).length } := sup_start S hr.hd e0 hl r F hns hk
  obtain ⟨ta, t, hta, ht, x, C, dx, fs, hvx, hx0, sc, go⟩ := hbody A outer s H vs Q E (hr.deeper _) hsp
  show _root_.PySem.wpAt _ _ (.func _ (supEnv qual scope s.heap.objs.size f cda cc)) (execs _ (supEnv qual scope s.heap.objs.size f cda cc)) _ _ _
  have hux : us[0]? = some (.ref x) := by
    obtain ⟨u, hu, ru⟩ := r.get hvx
    rw [hu]
    exact congrArg some ru
  have ndP : ps.Nodup := by rw [← S.pre]; exact S.nd.sublist (List.take_sublist _ _)
  have hself : (fun y : Str => (ps.zip us).reverse.lookup y) ar.arg = some (.ref x) := zip_get ndP h0 hux
  obtain ⟨pl, hev⟩ := hev s.heap.objs.size
  refine PySem.ks_wpAt_execs_cons (PySem.ks_wpAt_Expr_any (hi := by unfold interactive; simp [S.kind]) (PySem.ks_wpAt_MethodCall (pl := pl) (he := hev) ?_))
  have hD := F.cls
  obtain ⟨cdD, hD⟩ := hD
  obtain ⟨cl, cld, csl, hcc⟩ := F.cell
  obtain ⟨ocl, ocd, vs0, ocs, file, tf, hco, hvs, hfile⟩ := F.code
  have KX0 : K.In h₀ := KX.keeps hk
  obtain ⟨oD, hD1, hD2⟩ : ∃ oD, h₀.get? D = some oD ∧ oD.data = .cls cdD := by
    unfold PySem.W.clsIn at hD
    split at hD
    · rename_i c d cd' sl ho
      cases hD
      exact ⟨_, KX0 _ _ ho, rfl⟩
    · cases hD
  obtain ⟨mb, hb0, hb1⟩ := e0.mod.blt
  have up : ∀ b o, base.get? b = some o → h₀.get? b = some o := fun b o q => hk _ _ (e0.bs b o q).1
  refine PySem.ks_wpAt_super_base (env := supEnv qual scope s.heap.objs.size f cda cc) S.sup S.cls rfl rfl (KX0 _ _ lk) rfl hp rfl (KX0 _ _ hco) rfl hvs hfile SP0.top ?_
  refine PySem.W.ks_loadName_global S.kind S.sup (PySem.Calls.loadGlobal_builtin (env := supEnv qual scope s.heap.objs.size f cda cc) (e0.mod.glob.keeps up) (PySem.W.mg_none_of e0.mod.kin e0.mod.glob F.glo) (hb0.keeps up) ((hb1 _ (by decide +kernel)).trans (by decide +kernel : bootBuiltins "super" = some (.type "super"))) ⟨rfl, ?_⟩)
  refine wpAny_loadName_free S.kind S.cls rfl ⟨_, KX0 _ _ hcc, rfl⟩ ?_
  refine wpAny_loadName_local S.kind (S.par _ (List.mem_of_getElem? h0)) hns hself ?_
  refine PySem.ks_wpAny_isType_cls hD1 hD2 ⟨rfl, ?_⟩
  obtain ⟨mA, hM, _⟩ := ins_get I0.hok hx0
  obtain ⟨od1, IA, _⟩ := hM.look
  refine PySem.ks_wpAny_call_super hD1 hD2 IA.at_ IA.cls (fun c q => ?_) (PySem.W.looks_mroIn KX0 sc.sub) (fun h1 so1 up1 => ?_)
  · have no := IA.no
    unfold PySem.W.notCls at no
    rw [q] at no
    exact Bool.noConfusion no
  have KX1 : K.In h1 := KX0.keeps up1
  have IA1 : PySem.W.InstAt h1 x (PySem.W.instObj C dx) C (some od1) := by
    obtain ⟨a1, a2, a3, a4⟩ := IA
    refine ⟨up1 _ _ a1, a2, a3, ?_⟩
    exact up1 _ _ a4
  obtain ⟨cdC, hC⟩ : ∃ cd, PySem.W.clsIn K C = some cd := by
    have q := sc.at_
    unfold PySem.W.ks_superIn at q
    cases z : PySem.W.clsIn K C with
    | none => rw [z] at q; cases q
    | some cd => exact ⟨cd, rfl⟩
  have hal : PySem.W.alongIn K "__init__" ((cdC.mro.dropWhile (· != .ref D)).drop 1) = some (some (.ref f2)) := by
    have q := sc.at_
    unfold PySem.W.ks_superIn at q
    rw [hC] at q
    exact q
  obtain ⟨of, hof, hofc⟩ : ∃ of, h1.get? f2 = some of ∧ of.cls = .type "function" := by
    have ty' : (K.lookup f2).map (·.cls) = some (.type "function") := ty
    cases z : K.lookup f2 with
    | none => rw [z] at ty'; cases ty'
    | some of => rw [z] at ty'; exact ⟨of, KX1 _ _ z, Option.some.inj ty'⟩
  refine PySem.ks_wpAny_getMethod_super so1 (PySem.W.looks_opaque KX1 F.op) (l₀ := cdC.mro) (fun A Q E s k q => wpAny_bind ((PySem.W.looks_clsIn KX1 hC) A _ E s k (wpAny_pure q))) rfl KX1 hal hof hofc (PySem.W.ks_ne KX1 IA1 hC) rfl ?_
  -- the bound method as a thing of its own
  have grown : h₀.objs.size ≤ h1.objs.size := Nat.le_of_lt (Heap.lt_size so1)
  have new := I0.hok.fresh grown
  have I2 := I0.laid (a := h1.objs.size) (o := .met f2 x) (h' := h1.push (PySem.W.methodObj (.ref f2) (.ref x))) (t' := s.toks + (ps.zip us).length + 1) (fun b u q => Heap.get?_push_of_some _ (up1 _ _ q)) grown (Heap.get?_push_size _ rfl)
  refine callwith_met (X := cxSup CX P w K mg base N qual scope f cda cc A outer s H E) (g := f2) (a := x) (by rw [hpl]; rfl) fi (L2.FK.evalArgs_any (hpl _) (thn (hta.run p3 [] _ _ _ _ I2 (go _ new)) fun us3 s3 h3 => ?_))
  obtain ⟨vs3, H3, I3, r3, hm3, sp3⟩ := h3
  refine ⟨met_P I3 hm3, ?_⟩
  have r2 : Vals ((.ref x :: vs3) ++ dvs2) ((.ref x :: us3) ++ ds2) := Vals.append (Paired.cons (show RelV (V.ref x) (Value.ref x) from rfl) r3) hd2
  have hl2 : ((.ref x :: us3) ++ ds2).length = ps2.length := by rw [← r2.length]; exact F2.len _ _ _ _ sp3
  refine wpAny_call (call_met I3 hm3 (codeAny_mono (F2.run _ _ s3 H3 ⟨.ref x :: us3, []⟩ ((.ref x :: us3) ++ ds2) ((.ref x :: vs3) ++ dvs2) _ E2 (hr.deeper _) I3.env0 (hb2 s3 _ I3.kIn hl2) r2 sp3) fun r s4 hq => ?_))
  cases r with
  | error ev => exact hx A outer s H E [] _ H3 s3 ev s4 I3 hq
  | ok fl =>
    cases fl with
    | next => exact False.elim hq
    | brk => exact False.elim hq
    | cont => exact False.elim hq
    | ret u =>
      obtain ⟨v4, H4, I4, r4, q4⟩ := I3.after hq
      refine wpAt_of_wpAny (wpAny_mono (ht.run [] s4 _ H4 _ I4 q4) (fun fl s' hs => ?_) fun ev s' hs => hs)
      have fin : ∀ {σ' : L2.St} {H' : Hp} {v : V} {u : Value}, Inv (cxSup CX P w K mg base N qual scope f cda cc A outer s H E) [] σ' H' s' → RelV v u → Q v H' → CE outer P w H s Q u s' :=
        fun {σ' H' v u} J rv q => ⟨v, H', J.os, J.bare, J.base, J.hok, rv, q⟩
      cases fl with
      | ret u =>
        obtain ⟨v, σ', H', J, rv, q⟩ := hs
        exact fin J rv q
      | next =>
        obtain ⟨σ', H', J, q⟩ := hs
        exact fin (v := V.non) (u := Value.none) J rfl q
      | brk =>
        obtain ⟨_, _, _, q⟩ := hs
        exact False.elim q
      | cont =>
        obtain ⟨_, _, _, q⟩ := hs
        exact False.elim q
end
end My

namespace My
open PySem PySem.Spec PyProof.Rows L2 SrtR
/-! min(texts, default=d) -/
def strLt (a b : Str) : Bool := decide (a.cps.toList < b.cps.toList)
/-- the first of the least texts -/
def minS (x : Str) (xs : List Str) : Str := xs.foldl (fun a y => if strLt y a then y else a) x
theorem minS_mem : ∀ (xs : List Str) (x : Str), minS x xs = x ∨ minS x xs ∈ xs
  | [], _ => .inl rfl
  | y :: xs, x => by
    show minS (if strLt y x then y else x) xs = x ∨ minS (if strLt y x then y else x) xs ∈ y :: xs
    rcases minS_mem xs (if strLt y x then y else x) with e | e
    · rw [e]
      by_cases h : strLt y x = true
      · rw [if_pos h]; exact .inr (List.mem_cons_self ..)
      · rw [if_neg h]; exact .inl rfl
    · exact .inr (List.mem_cons_of_mem _ e)
theorem minD_texts : ∀ (xs : List Str) (x : Str), PySem.W.minD (.str x) (xs.map .str) = .str (minS x xs)
  | [], _ => rfl
  | y :: xs, x => by
    show PySem.W.minD (if PySem.W.dataLt (.str y) (.str x) = true then PyData.str y else PyData.str x) (xs.map .str) = .str (minS (if strLt y x then y else x) xs)
    have e : (if PySem.W.dataLt (.str y) (.str x) = true then PyData.str y else PyData.str x) = .str (if strLt y x then y else x) := by
      rw [PySem.W.dataLt_str]
      show (if strLt y x = true then _ else _) = _
      by_cases h : strLt y x = true
      · rw [if_pos h, if_pos h]
      · rw [if_neg h, if_neg h]
    rw [e]
    exact minD_texts xs _
theorem reads_texts {h : Heap} : ∀ {ws : List Str} {us : List Value}, Vals (ws.map V.str) us → ReadsAll h us (ws.map PyData.str) []
  | [], _, .nil => .nil
  | w :: ws, _, .cons r t => by
    obtain ⟨tk, rfl⟩ := r
    exact ReadsAll.cons (as := []) (bs := []) (.str w tk) (reads_texts t)
theorem depth_texts : ∀ ws : List Str, PyData.depthAll (ws.map PyData.str) = 0
  | [] => by simp [PyData.depthAll]
  | w :: ws => by simp [PyData.depthAll, PyData.depth, depth_texts ws]
theorem alike_texts (ws : List Str) : PySem.W.AlikeAll (ws.map PyData.str) := by
  refine ⟨fun x hx y hy => ?_, fun x hx => ?_⟩
  · obtain ⟨a, _, rfl⟩ := List.mem_map.mp hx
    obtain ⟨b, _, rfl⟩ := List.mem_map.mp hy
    simp [PySem.W.alike]
  · obtain ⟨a, _, rfl⟩ := List.mem_map.mp hx
    exact fun z => nomatch z
def rMinT (K : PySem.W.Frag) : List V → List V → Hp → VK → Prop := fun vs zs H Q => ∃ (a : Addr) (ws : List Str) (d : V), vs = [.ref a] ∧ zs = [d] ∧ SqL K H a (ws.map V.str) ∧ (ws = [] → Q d H) ∧ ∀ y ys, ws = y :: ys → Q (.str (minS y ys)) H
theorem cr_minT {X : Cx} (hc : X.calm = true) (hr : X.A.units + 1 < cLine) : CallRK X (.builtin "min") ["default"] (rMinT X.K) := by
  intro pins s σ H xs zs us us2 Q I r r2 h
  obtain ⟨a, ws, d, rfl, rfl, hs, h0, h1⟩ := h
  obtain ⟨its, rv, hl, _⟩ := I.list hs
  rw [Vals.ref1 r]
  obtain ⟨du, rfl, rd⟩ := vals1 r2
  show wpAny _ _ (call (.builtin "min") [.ref a] [(Str.ofString "default", du)]) _ _ _
  refine PySem.W.min_list_default (xs := ws.map PyData.str) (I.ok.hd hc) hl.isList (reads_texts (by simpa using rv)) (alike_texts ws) (by rw [depth_texts]; exact hr) (fun e h' tk hk => ?_) fun y ys i v h' tk bs e hv hr hk => ?_
  · have e : ws = [] := List.map_eq_nil_iff.mp e
    exact ⟨d, H, I.kept hk, rd, h0 e⟩
  · cases ws with
    | nil => cases e
    | cons w ws =>
      injection e with e1 e2
      subst e1
      subst e2
      rw [minD_texts] at hr
      cases hr with
      | str z t => exact ⟨.str _, H, I.kept hk, ⟨_, rfl⟩, h1 _ _ rfl⟩
end My

namespace My
open PySem PySem.Spec PyProof.Rows L2
/-! {k: v}, k a tuple -/
def tDisp1T (tk tv : TE) : TE := fun σ H Q => ∀ p, H p = none → tk σ (upd H p (.dT [])) fun x H1 => tv σ H1 fun y H2 => H2 p = some (.dT []) ∧ ∃ (b : Addr) (ks : List Key), x = .ref b ∧ H2 b = some (.tup (ks.map kV)) ∧ Q (.ref p) (upd H2 p (.dT [(ks, y)]))
def onePair (Q : V → V → Hp → Prop) : List (V × V) → Hp → Prop
  | [(x, y)], H => Q x y H
  | _, _ => False
theorem pe_disp1T {X : Cx} {k v : Expr} {pos : Pos} {tk tv : TE} (hu : X.A.units + 1 < cLine) (hk : PE X k tk) (hv : PE X v tv) : PE X (.Dict [some k] [v] pos) (tDisp1T tk tv) := by
  refine ⟨fun pins s σ H Q I q => ?_⟩
  have hn := I.hok.fresh (Nat.le_refl s.heap.objs.size)
  have I1 := I.laid (a := s.heap.objs.size) (o := .dT []) (h' := s.heap.push { cls := .type "dict", data := .dict #[] }) (t' := s.toks) (fun _ _ q => Heap.get?_push_of_some _ q) (Nat.le_refl _) (dt_empty s.heap I.big)
  have shape := zip_pairTrees [some k] [v] X.env pos rfl rfl
  have ln := pairTrees_length [some k] [v] X.env pos rfl rfl
  have h0 : pairTrees [some k] [v] X.env pos ≠ [] := fun e => by
    rw [e] at ln
    cases ln
  have h1 : (pairTrees [some k] [v] X.env pos).length ≤ 15 := by rw [ln]; exact (by decide : 1 ≤ 15)
  rw [arm_eval_Dict, shape, dictDisplay_pairs (pairTrees [some k] [v] X.env pos) h0 (by omega)]
  refine wpAny_bind (wpAny_standAt (wpAny_bind (wpAny_subDictH (knd := tupleKind (mixKind X.prog X.w)) (show X.A.units < cLine by omega) h1 ?_)))
  refine thn ((pps_cons hk hv pps_nil).run pins _ σ _ (onePair fun x y H2 => H2 s.heap.objs.size = some (.dT []) ∧ ∃ (b : Addr) (ks : List Key), x = .ref b ∧ H2 b = some (.tup (ks.map kV)) ∧ Q (.ref s.heap.objs.size) (upd H2 s.heap.objs.size (.dT [(ks, y)]))) I1 (q _ hn)) ?_
  rintro ws s2 ⟨ps, H2, I2, rel, hp⟩
  match ps, hp with
  | [(x, y)], hp =>
    obtain ⟨e, b, ks, rfl, eb, hq⟩ := hp
    cases rel with
    | cons r t =>
      cases t
      rename_i w0
      obtain ⟨u, r0⟩ := w0
      obtain ⟨ru, rv⟩ := r
      obtain rfl : u = Value.ref b := ru
      obtain ⟨z, hd, xs, rk, dd⟩ := dt_of I2.hok e
      cases rk
      refine ⟨[(ks, b, r0)], ⟨rfl, rfl, key_of I2.hok eb, True.intro⟩, dd, fun h' tk dd' hs => wpAny_pure ⟨.ref s.heap.objs.size, _, ?_, rfl, hq⟩⟩
      obtain ⟨q, es, ep, hq2, h2, h3, h4, h5, h6⟩ := dd'
      refine d_write I2 (by rw [e]; exact True.intro) hs ⟨q, hq2⟩ ⟨(by rw [sizeLine_eq]; exact (by decide : 1 ≤ 16777216)), hd, _, (KT.put (show KT H2 [] [] from Paired.nil) ks eb rv).keeps fun c ys ec => ?_, q, es, ep, hq2, h2, h3, h4, h6⟩
      rw [upd_ne (ne_of ec e (fun z => nomatch z))]
      exact ec
end My

namespace My
open PySem PySem.Spec PyProof.Rows L2
/-! name = {k: v for .. in ..} -/
section
variable {X : Cx}
theorem ps_setDc {i : Nat} {y : Str} {py : Pos} {kx vx tg iter : Expr} {ifs : List Expr} {scope : Scope} {own : List (Str × Nat)} {pos spos : Pos} {wi : TI} {g : TG} {tt : TT} {tk tv : TE} (hc : X.calm = true) (hN : X.N.Nodup) (hy : X.N[i]? = some y) (hyl : X.env.scope.names.lookup y = some .local)
    (hsw : swapsWith (.DictComp kx vx [⟨tg, iter, ifs, 0⟩] scope pos) (some (.Name y py)) spos.line X.env = pure true) (hi : PI X tg iter wi) (ok : BlkOk X.N X.env.scope scope own)
    (hg : ∀ (s : Shared) (H : Hp) (C : Addr) (cl : List (Str × Addr)) (fp : List Addr), PG (X.blk s H scope (compEnvC scope cl C X.env) fp) tg g) (ht : ∀ (s : Shared) (H : Hp) (C : Addr) (cl : List (Str × Addr)) (fp : List Addr), PTs (X.blk s H scope (compEnvC scope cl C X.env) fp) ifs tt)
    (hk : ∀ (s : Shared) (H : Hp) (C : Addr) (cl : List (Str × Addr)) (fp : List Addr), PE (X.blk s H scope (compEnvC scope cl C X.env) fp) kx tk)
    (he : ∀ (s : Shared) (H : Hp) (C : Addr) (cl : List (Str × Addr)) (fp : List Addr), PE (X.blk s H scope (compEnvC scope cl C X.env) fp) vx tv) (hs : ∀ x, foldedSetIterable iter X.env x = pure x := by intro _; rfl) :
    PS X (.Assign [.Name y py] (.DictComp kx vx [⟨tg, iter, ifs, 0⟩] scope pos) spos) (tAsg (tDc wi g tt tk tv (own.map (·.2))) (gName i)) := by
  refine ⟨fun pins s σ H D I h => ?_⟩
  rw [exec_Assign_Name_used _ _ _ _ hsw]
  refine wpAny_bind (wpAny_standAt (wpAny_bind ?_))
  show wpAny _ X.A (do let _ ← comprehension (.DictComp kx vx [⟨tg, iter, ifs, 0⟩] scope pos) scope X.env (firstIterPos [⟨tg, iter, ifs, 0⟩] pos) newDict false (eval iter X.env) (some (assign (.Name y py) X.env))) _ _ s
  have h : tDc wi g tt tk tv (own.map (·.2)) σ H (fun x H1 => gName i x σ H1 D.nx) := h
  refine wpAny_bind (thn (dc_core (Qf := fun _ s' => SP X pins D .next s') hc hN I hi ok hg ht hk he hs h fun L C s' m H' I' q hn f => ?_) fun _ s' hq => wpAny_pure (wpAny_pure hq))
  show wpAny _ _ (assign (.Name y py) X.env (.ref L)) _ _ _
  refine wpAny_assign_Name (store_ok2 (v := V.ref L) I' hN hy (.inl hyl) rfl (fun s2 I2 ⟨a, sb, ha⟩ => ?_) (.inr hyl))
  obtain ⟨f0, f1, f2, f3, f4, f5⟩ := f
  have haC : C ≠ a := by
    rcases ha with z | z
    · rw [z]; exact f1
    · exact fun e => f4 y a z e.symm
  refine ⟨m, hn.sameBut sb haC, fun h3 sb3 => ?_⟩
  exact ⟨_, H', I2.turned (t' := s2.toks) (fun b o hb e => (sb3.2 b hb).trans e) f0 f1 f3 f4 f5, q⟩
theorem sw_trueD {kx vx : Expr} {gs : List Comprehension} {scope : Scope} {pos py : Pos} {y : Str} {l : Nat} {env : Env} (hk : env.scope.kind = .function) (hy : env.scope.names.lookup y = some .local) (hl : (py.line == pos.line) = true)
    (ha : (scope.names.any fun (n, k) => n == y && (k == .local || k == .cell)) = false) : swapsWith (.DictComp kx vx gs scope pos) (some (.Name y py)) l env = pure true := by
  have ky : env.kindOf y = some .local := hy
  have hb : env.blockKind = .function := by unfold Env.blockKind; rw [hk]; rfl
  unfold swapsWith
  simp only [hb, ky, ha, Expr.pos, hl]
  rfl
end
/-! the error that an own exception class without __init__ makes is in lib_head's own facts -/
end My

namespace My
open PySem PySem.Spec PyProof.Rows L2
section
variable {X : Cx} {CX : CXT} {k : Nat} {f C : Addr} {fd : FuncData} {ps ks : List Str} {sp : Sp} {E : L2.St → XK} {x : Str} {p pos : Pos} {kws : List Keyword} {tk : TA} {g : List Value → List Value → List Value} {gV : List V → List V → List V} {bmB : List Value} {B newId initId : String}
/-- X(), X an own exception class without __init__ -/
theorem pmk_own0 (F : ExcBaseFacts B newId initId bmB) (q : PySem.W.excIn X.K C bmB newId = true) (gC : X.mg x = some (.ref C)) (kC : PySem.W.keepIn X.K (.ref C) = true) (r : Raises X (.ref C)) (hg : Gl X x) (hdb : (x == ("__debug__" : Str)) = false := by decide) :
    PMk X (.Call (.Name x p) [] [] pos) (fun _ H Q => Q (.ref C) none H) := by
  intro pins s z H Q I h
  refine wpAny_Call_Name_kw (ld_glob I hg gC ?_ hdb)
  refine PySem.W.callWith_K0 (first := []) I.kIn kC ?_
  show wpAny _ _ (call (.ref C) []) _ _ _
  obtain ⟨bm, N, nm, qn, bs, hdct, sn, sub, ab, col, dd, k0, k1, k2, k3, k5, mN, hC, hN, hni, T⟩ := exc_obj I.kIn q
  exact wpAny_call_exc_subT F T hC hN hni (fun h' e hm => mk_of I hm r h (I.hok.gone hm.new)) (by show 0 ≤ sizeLine; omega)
/-- f(k = v, ..), f may raise -/
def tCallK0 (m : Nat) (sp : Sp) (gV : List V → List V → List V) (E : L2.St → XK) (tk : TA) : TE := fun z H Q => tk z H fun zs H2 => zs.length = m ∧ sp (gV [] zs) H2 Q (E z)
theorem pe_callK0 (F : FnOk X.prog X.w X.K X.mg X.base CX k f fd ps sp) (hr : Room k X.A) (hg : Gl X x) (hm : X.mg x = some (.ref f)) (hk : PySem.W.keepIn X.K (.ref f) = true) (hb : KBn X.K fd ps 0 ks g gV) (hx : ∀ z, PassesAt CX X z (E z)) (hkw : PK X kws tk)
    (hall : (backToKw pos (keywordEach kws X.env)).all (·.1.isSome) = true := by rfl) (hks : (backToKw pos (keywordEach kws X.env)).filterMap (·.1) = ks := by rfl) (hdb : (x == ("__debug__" : Str)) = false := by decide)
    (hpl : ((backTo pos (starEach [] X.env)).any (·.1) || (backToKw pos (keywordEach kws X.env)).any (·.1.isNone)) = false := by rfl) : PE X (.Call (.Name x p) [] kws pos) (tCallK0 ks.length sp gV E tk) := by
  refine ⟨fun pins s z H Q I h => wpAny_Call_Name_kw (ld_glob I hg hm (PySem.W.callWith_KW0 (h₀ := X.base) I.ok.mod.kin hk hall (thn (hkw.run pos pins s z H _ I h) fun ws s1 hh => ?_) hpl) hdb)⟩
  obtain ⟨zs, H1, J, r, l2, q⟩ := hh
  refine ⟨J.kIn, ?_⟩
  rw [hks]
  have r2 := hb.rel (.nil : Vals [] []) r
  refine wpAny_call (codeAny_mono (F.run X.A X.stack s1 H1 ⟨[], ks.zip ws⟩ (g [] ws) (gV [] zs) Q (E z) hr J.env0 (hb.to s1 [] ws J.kIn rfl (r.length.symm.trans l2)) r2 q) fun o s' hq => ?_)
  cases o with
  | error e => exact hx z pins H1 s1 e s' J hq
  | ok fl =>
    cases fl with
    | ret u => exact J.after hq
    | next => exact False.elim hq
    | brk => exact False.elim hq
    | cont => exact False.elim hq
end
end My

namespace My
open PySem PySem.Spec PyProof.Rows L2
/-! the head's facts, over all objects that the top has made -/
def propO : Value → Bool
  | .type n => decide (n = "property")
  | _ => false
def keepO (o : Obj) : Bool := match o.data with
  | .func _ => true
  | .cls _ => true
  | .dict _ _ => true
  | .cell _ => true
  | .fields vs => Nat.beq vs.size 19 || (Nat.beq vs.size 6 && propO o.cls)
  | .seq vs _ => match vs.size with
    | 0 => false
    | _ + 1 => true
  | _ => false
def pickO (g : Addr → Option Obj) (a : Addr) : Option (Addr × Obj) := match g a with
  | some o => match keepO o with
    | true => some (a, o)
    | false => none
  | none => none
def frA (g : Addr → Option Obj) (as : List Addr) : PySem.W.Frag := as.filterMap (pickO g)
theorem pickO_of {g : Addr → Option Obj} {a b : Addr} {o : Obj} (h : pickO g b = some (a, o)) : g a = some o ∧ keepO o = true := by
  unfold pickO at h
  cases e : g b with
  | none => rw [e] at h; cases h
  | some u =>
    rw [e] at h
    cases k : keepO u with
    | false => simp only [k] at h; cases h
    | true =>
      simp only [k] at h
      have z := Option.some.inj h
      injection z with z1 z2
      subst z1
      subst z2
      exact ⟨e, k⟩
theorem frA_at {g : Addr → Option Obj} {as : List Addr} {a : Addr} {o : Obj} (h : (frA g as).lookup a = some o) : g a = some o ∧ keepO o = true := by
  obtain ⟨b, _, e⟩ := List.mem_filterMap.mp (He.lookup_mem h)
  exact pickO_of e
theorem frA_in {as : List Addr} {h : Heap} : (frA h.get? as).In h := fun _ _ e => (frA_at e).1
theorem frA_out {g : Addr → Option Obj} {as : List Addr} {a : Addr} {o : Obj} (h : g a = some o) (ht : He.emptyTab o = true) : (frA g as).lookup a = none := by
  cases e : (frA g as).lookup a with
  | none => rfl
  | some u =>
    obtain ⟨h1, h2⟩ := frA_at e
    rw [h] at h1
    rw [← Option.some.inj h1, He.emptyTab_eq ht] at h2
    cases h2
structure SaysA (fa : List He.Fa) (fn : List He.DefD) (tf : List He.Defn) (fx : List (PySem.W.Frag → Bool)) (h : Heap) (K : PySem.W.Frag) : Prop where
  d : He.SaysD fa fn K
  x : fx.all (fun f => f K) = true
  hd : ∀ p ∈ tf, PySem.W.codeHdIn K (He.cT K p).1 (He.cT K p).2 = true
  out : ∀ p ∈ tf, K.lookup (He.cT K p).2 = none
  empty : ∀ p ∈ tf, h.get? (He.cT K p).2 = some { cls := .none, data := .fields #[] }
theorem SaysA.at {fa : List He.Fa} {fn : List He.DefD} {tf : List He.Defn} {fx : List (PySem.W.Frag → Bool)} {h : Heap} {K : PySem.W.Frag} (c : SaysA fa fn tf fx h K) (i : Nat) {f : PySem.W.Frag → Bool} (e : fx[i]? = some f := by rfl) : f K = true :=
  List.all_eq_true.mp c.x f (List.mem_of_getElem? e)
def obsA (as : List Addr) (fa : List He.Fa) (fn : List He.DefD) (tf : List He.Defn) (fx : List (PySem.W.Frag → Bool)) (g : Addr → Option Obj) : He.AlD × Bool := (He.obsD fa fn (frA g as), (fx.all fun f => f (frA g as)) && He.tabsB g tf (frA g as))
theorem saysA_of {as : List Addr} {fa : List He.Fa} {fn : List He.DefD} {tf : List He.Defn} {fx : List (PySem.W.Frag → Bool)} {h : Heap} (e : obsA as fa fn tf fx h.get? = (He.valD fn, true)) : SaysA fa fn tf fx h (frA h.get? as) := by
  have e1 : He.obsD fa fn (frA h.get? as) = He.valD fn := congrArg Prod.fst e
  obtain ⟨h1, h2⟩ := Bool.and_eq_true_iff.mp (show ((fx.all fun f => f (frA h.get? as)) && He.tabsB h.get? tf (frA h.get? as)) = true from congrArg Prod.snd e)
  have key : ∀ p ∈ tf, PySem.W.codeHdIn (frA h.get? as) (He.cT (frA h.get? as) p).1 (He.cT (frA h.get? as) p).2 = true ∧ ∃ o, h.get? (He.cT (frA h.get? as) p).2 = some o ∧ He.emptyTab o = true := fun p hp => by
    obtain ⟨h3, h4⟩ := Bool.and_eq_true_iff.mp (List.all_eq_true.mp h2 p hp)
    refine ⟨h3, ?_⟩
    cases q : h.get? (He.cT (frA h.get? as) p).2 with
    | none => rw [q] at h4; cases h4
    | some o => rw [q] at h4; exact ⟨o, rfl, h4⟩
  refine ⟨e1, h1, fun p hp => (key p hp).1, fun p hp => ?_, fun p hp => ?_⟩
  · obtain ⟨_, o, q, z⟩ := key p hp
    exact frA_out q z
  · obtain ⟨_, o, q, z⟩ := key p hp
    rw [q, He.emptyTab_eq z]
def hookA (as : List Addr) (fa : List He.Fa) (fn : List He.DefD) (tf : List He.Defn) (fx : List (PySem.W.Frag → Bool)) : PySem.W.Hook where
  α := He.AlD × Bool
  obs := fun s => obsA as fa fn tf fx s.heap.get?
  val := fun _ => (He.valD fn, true)
  says := fun _ h => ∃ K : PySem.W.Frag, K.In h ∧ SaysA fa fn tf fx h K
  of := fun _ _ e => ⟨_, frA_in, saysA_of e⟩
  keeps := fun _ _ _ ⟨K, hK, c⟩ k => ⟨K, PySem.W.Frag.In.keeps hK k, ⟨c.d, c.x, c.hd, c.out, fun p hp => k _ _ (c.empty p hp)⟩⟩
theorem obsA_eq {as : List Addr} {fa : List He.Fa} {fn : List He.DefD} {tf : List He.Defn} {fx : List (PySem.W.Frag → Bool)} {g : Addr → Option Obj} {s : Shared} (h : ∀ a, g a = s.heap.get? a) : obsA as fa fn tf fx g = (hookA as fa fn tf fx).obs s := by
  have e : g = s.heap.get? := funext h
  rw [e] <;> rfl
/-! own classes by Bools -/
def slB (sl : Array (Option Value)) (n : String) : Bool := match sl.toList with
  | [_, _, _, _, some (.builtin m), _] => decide (m = n)
  | _ => false
theorem slB_ok {sl : Array (Option Value)} {n : String} (h : slB sl n = true) : ∃ k0 k1 k2 k3 k5, sl = #[k0, k1, k2, k3, some (.builtin n), k5] := by
  unfold slB at h
  split at h
  · rename_i k0 k1 k2 k3 m k5 e
    have z := of_decide_eq_true h
    subst z
    refine ⟨k0, k1, k2, k3, k5, ?_⟩
    obtain ⟨l⟩ := sl
    simp only at e
    rw [e]
  · cases h
/-- the class object at C: its line of classes, its maker -/
def objB (K : PySem.W.Frag) (C : Addr) (tail : List Value) (n : String) (p : ClassData → Bool) : Bool := match K.lookup C with
  | some ⟨.type t, _, .cls cd, sl⟩ => decide (t = "type") && (slB sl n && (decide (cd.mro = .ref C :: tail) && (!cd.hasDel && p cd)))
  | _ => false
theorem objB_ok {K : PySem.W.Frag} {C : Addr} {tail : List Value} {n : String} {p : ClassData → Bool} (h : objB K C tail n p = true) :
    ∃ nm q N bs hd sn sub ab col dd k0 k1 k2 k3 k5, K.lookup C = some (excClassObj nm q C N bs tail hd sn sub ab col dd k0 k1 k2 k3 k5 n) ∧ p { name := nm, bases := bs, mro := .ref C :: tail, ns := N, qualname := q, hasDict := hd, slotNames := sn, subclasses := sub, abstract := ab, collection := col, hasDel := false } = true := by
  unfold objB at h
  split at h
  · rename_i t dd cd sl ho
    obtain ⟨h1, h⟩ := Bool.and_eq_true_iff.mp h
    obtain ⟨h2, h⟩ := Bool.and_eq_true_iff.mp h
    obtain ⟨h3, h⟩ := Bool.and_eq_true_iff.mp h
    obtain ⟨h4, h5⟩ := Bool.and_eq_true_iff.mp h
    have e1 := of_decide_eq_true h1
    subst e1
    obtain ⟨k0, k1, k2, k3, k5, rfl⟩ := slB_ok h2
    obtain ⟨nm, bs, mro, ns, qn, hd, sn, sub, ab, col, del⟩ := cd
    have e3 : mro = .ref C :: tail := of_decide_eq_true h3
    have e4 : del = false := by cases del <;> first | rfl | cases h4
    subst e3
    subst e4
    exact ⟨nm, qn, ns, bs, hd, sn, sub, ab, col, dd, k0, k1, k2, k3, k5, ho, h5⟩
  · cases h
def clsB (K : PySem.W.Frag) (C : Addr) (nm : Str) : Bool := objB K C [.type "object"] "object.__new__" fun cd => decide (cd.name = nm)
theorem clsB_ok {K : PySem.W.Frag} {C : Addr} {nm : Str} (h : clsB K C nm = true) : ClsO K C nm := by
  obtain ⟨nm', q, N, bs, hd, sn, sub, ab, col, dd, k0, k1, k2, k3, k5, e, h2⟩ := objB_ok h
  have z : nm' = nm := of_decide_eq_true h2
  subst z
  exact ⟨q, N, bs, hd, sn, sub, ab, col, dd, k0, k1, k2, k3, k5, _, e⟩
def eqB (K : PySem.W.Frag) (C f : Addr) : Bool := He.eqO (PySem.W.findIn K (.ref C) "__eq__") (some (some (.ref f))) && (PySem.W.isFn K (.ref f) &&
  objB K C [.type "object"] "object.__new__" fun cd => PySem.W.nsOkIn K cd.ns && (He.eqO (PySem.W.nsIn K cd.ns "__eq__") (some (some (.ref f))) && He.eqO (PySem.W.nsIn K cd.ns "__ne__") (some none)))
theorem eqB_ok {K : PySem.W.Frag} {C f : Addr} (h : eqB K C f = true) : EqC K C f := by
  obtain ⟨h1, h⟩ := Bool.and_eq_true_iff.mp h
  obtain ⟨h2, h⟩ := Bool.and_eq_true_iff.mp h
  obtain ⟨nm', q, N, bs, hd, sn, sub, ab, col, dd, k0, k1, k2, k3, k5, e, h3⟩ := objB_ok h
  obtain ⟨h3, h⟩ := Bool.and_eq_true_iff.mp h3
  obtain ⟨h4, h5⟩ := Bool.and_eq_true_iff.mp h
  exact ⟨He.eqO_ok h1, h2, nm', q, N, bs, hd, sn, sub, ab, col, dd, k0, k1, k2, k3, k5, _, e, h3, He.eqO_ok h4, He.eqO_ok h5⟩
def iscB (K : PySem.W.Frag) (C : Addr) : Bool := He.eqO (PySem.W.findIn K (.ref C) "__class__") (some (some (.builtin "object.__class__"))) && decide (PySem.W.mroIn K C (.type "object") = some true)
def gnB (K : PySem.W.Frag) : Bool := He.eqO (PySem.W.specialIn K (.builtin "object.__class__") "__get__") (some (some (.builtin "getset_descriptor.__get__"))) && decide (PySem.W.takesIn K (.builtin "object.__class__") = some true)
theorem iscB_ok {K : PySem.W.Frag} {C : Addr} (h : iscB K C = true) (c : Cls K C) (g : gnB K = true) : C8.InsC K C := by
  obtain ⟨h1, h2⟩ := Bool.and_eq_true_iff.mp h
  obtain ⟨g1, g2⟩ := Bool.and_eq_true_iff.mp g
  exact ⟨c, He.eqO_ok h1, He.eqO_ok g1, of_decide_eq_true g2, of_decide_eq_true h2, kit_self⟩
def veL (up : List Addr) : List Value := up.map Value.ref ++ [.type "ValueError", .type "Exception", .type "BaseException", .type "object"]
theorem veL_ok (up : List Addr) : PySem.HandSPX.refsVE (veL up) = true := by
  unfold veL
  induction up with
  | nil => rfl
  | cons a r ih => exact ih
def oexB (K : PySem.W.Frag) (C : Addr) (up : List Addr) : Bool := objB K C (veL up) "ValueError.__new__" (fun cd => cd.hasDict) && (He.eqO (PySem.W.findIn K (.ref C) "__setattr__") (some (some (.builtin "object.__setattr__"))) &&
  (decide (PySem.W.subIn K (.ref C) (.type "BaseException") = some true) && (decide (PySem.W.typeIn K (.ref C) = some (.type "type")) && PySem.W.keepIn K (.ref C))))
theorem oexB_ok {K : PySem.W.Frag} {C : Addr} {up : List Addr} (h : oexB K C up = true) : OexC K C := by
  obtain ⟨h1, h⟩ := Bool.and_eq_true_iff.mp h
  obtain ⟨h2, h⟩ := Bool.and_eq_true_iff.mp h
  obtain ⟨h3, h⟩ := Bool.and_eq_true_iff.mp h
  obtain ⟨h4, h5⟩ := Bool.and_eq_true_iff.mp h
  obtain ⟨nm', q, N, bs, hd, sn, sub, ab, col, dd, k0, k1, k2, k3, k5, e, h6⟩ := objB_ok h1
  have z : hd = true := h6
  subst z
  exact ⟨⟨nm', q, N, bs, _, sn, sub, ab, col, dd, k0, k1, k2, k3, k5, e, veL_ok up⟩, He.eqO_ok h2, of_decide_eq_true h3, of_decide_eq_true h4, h5⟩
end My

namespace My
open PySem PySem.Spec PyProof.Rows L2
/-! defs that hold a cell __class__: what the top has made of them -/
/-- a def with the one cell __class__ (at cc), its code at cda -/
structure SupD (K : PySem.W.Frag) (x qual : Str) (params : Arguments) (body : List Stmt) (scope : Scope) (dvs : List V) (f : Addr) (fd : FuncData) (cda cc : Addr) : Prop where
  ex : ∃ (oc : Value) (od : Option Addr) (dV kV doc pm : Value) (an : Option Addr) (ct : Value) (osl : Array (Option Value)),
    fd = PySem.W.ksFn x qual params body scope dV kV doc pm an (.ref cda) ct cc ∧ K.lookup f = some ⟨oc, od, .func fd, osl⟩ ∧ PySem.W.codeIn K (.ref cda) qual = true ∧ DflV K dV dvs
  kp : PySem.W.keepIn K (.ref f) = true
section
variable {K : PySem.W.Frag} {x qual : Str} {params : Arguments} {body : List Stmt} {scope : Scope} {dvs : List V} {f cda cc : Addr} {fd : FuncData} {ps ks : List Str}
theorem SupD.binds1 (F : SupD K x qual params body scope dvs f fd cda cc) (n j : Nat) (hd : dvs ≠ []) (hn : n + (dvs.length - j) = ps.length)
    (h : ∀ (T : Addr) (kV doc pm : Value) (an : Option Addr) (ct : Value) (us its : List Value), us.length = n → its.length = dvs.length →
      ∃ k, bindArgs (PySem.W.ksFn x qual params body scope (.ref T) kV doc pm an (.ref cda) ct cc) ⟨us, []⟩ = seqItems? (.ref T) >>= k ∧ k (some its.toArray) = pure (ps.zip (us ++ its.drop j))) : ∃ ds, Vals (dvs.drop j) ds ∧ Binds K fd ps ds := by
  obtain ⟨oc, od, dV, kV, doc, pm, an, ct, osl, rfl, lk, hcd, hD⟩ := F.ex
  rcases hD with ⟨e, _⟩ | ⟨_, T, o, its, m, rfl, lT, oT, rT⟩
  · exact absurd e hd
  · refine ⟨its.drop j, rT.drop j, fun s us X hlen => ?_⟩
    have l1 : its.length = dvs.length := rT.length.symm
    have l2 : us.length = n := by
      rw [List.length_append, List.length_drop, l1] at hlen
      omega
    obtain ⟨k, e1, e2⟩ := h T kV doc pm an ct us its l2 l1
    refine BindsTo.of_looks fun M => ?_
    rw [e1]
    exact looks_items X lT oT (.of_pure e2)
theorem SupD.kbn {n : Nat} (ix : List Nat) (F : SupD K x qual params body scope dvs f fd cda cc) (hd : dvs ≠ [])
    (h : ∀ (T : Addr) (kV doc pm : Value) (an : Option Addr) (ct : Value) (us its ws : List Value), us.length = n → its.length = dvs.length → ws.length = ks.length →
      ∃ k, bindArgs (PySem.W.ksFn x qual params body scope (.ref T) kV doc pm an (.ref cda) ct cc) ⟨us, ks.zip ws⟩ = seqItems? (.ref T) >>= k ∧ k (some its.toArray) = pure (ps.zip (pick ix (us ++ ws ++ its)))) :
    ∃ g, KBn K fd ps n ks g (fun vs zs => pick ix (vs ++ zs ++ dvs)) := by
  obtain ⟨oc, od, dV, kV, doc, pm, an, ct, osl, rfl, lk, hcd, hD⟩ := F.ex
  rcases hD with ⟨e, _⟩ | ⟨_, T, o, its, m, rfl, lT, oT, rT⟩
  · exact absurd e hd
  · refine ⟨fun us ws => pick ix (us ++ ws ++ its), ⟨fun s us ws kin l1 l2 => ?_, fun r1 r2 => pick_rel ix ((r1.append r2).append rT)⟩⟩
    obtain ⟨k, e1, e2⟩ := h T kV doc pm an ct us its ws l1 rT.length.symm l2
    refine BindsTo.of_looks fun M => ?_
    rw [e1]
    exact looks_items kin lT oT (.of_pure e2)
end
theorem binds_bl {K : PySem.W.Frag} {fd : FuncData} {ps : List Str} {dvs : List V} {b : Bool} (h0 : dvs = [.bl b]) (h : ∃ ds, Vals dvs ds ∧ L2.Binds K fd ps ds) : L2.Binds K fd ps [.bool b] := by
  subst h0
  obtain ⟨ds, v, q⟩ := h
  cases v with
  | cons r t =>
    cases t
    cases r
    exact q
/-- what the written part says of such a def, its class at D, its file -/
structure SupN (K : PySem.W.Frag) (cda cc D : Addr) (file : Str) : Prop where
  cell : ∃ (cl : Value) (cld : Option Addr) (csl : Array (Option Value)), K.lookup cc = some ⟨cl, cld, .cell (some (.ref D)), csl⟩
  code : ∃ (cl : Value) (cld : Option Addr) (vs : Array Value) (csl : Array (Option Value)) (tf : Tok), K.lookup cda = some ⟨cl, cld, .fields vs, csl⟩ ∧ vs[2]? = some (.str file tf)
  cls : ∃ cd, PySem.W.clsIn K D = some cd
  glo : PySem.W.nsIn K mainGlobals "super" = some none
  op : PySem.W.nsIn K cStatics "thirdparty.any" = some none
theorem SupN.k {P : Program} {K : PySem.W.Frag} {cda cc D : Addr} {file : Str} (n : SupN K cda cc D file) (e : P.main.file = file) : SupK P K cda cc D := by
  obtain ⟨cl, cld, vs, csl, tf, h1, h2⟩ := n.code
  exact ⟨n.cell, ⟨cl, cld, vs, csl, file, tf, h1, h2, by rw [e]; simp⟩, n.cls, n.glo, n.op⟩
/-- one such def, as it is looked for: where, its name, qualified name, parameters, body, scope, defaults -/
structure CloD where
  at_ : Str × Option Str
  name : Str
  qual : Str
  params : Arguments
  body : List Stmt
  scope : Scope
  dfl : List He.Dv := []
abbrev ClW : Type := Option (Str × Str × Arguments × FuncBody × Scope × Addr × List Str × Addr)
def clW (K : PySem.W.Frag) (p : Str × Option Str) : ClW := match K.lookup (He.fAd K p) with
  | some ⟨_, _, .func fd, _⟩ => some (fd.name, fd.qualname, fd.params, fd.body, fd.scope, fd.globals, fd.closure.map (·.1), fd.builtins)
  | _ => none
def CloD.val (d : CloD) : ClW := some (d.name, d.qual, d.params, .stmts d.body, d.scope, mainGlobals, ["__class__"], builtinsNs)
def CloD.dvs (K : PySem.W.Frag) (d : CloD) : List V := d.dfl.map (He.Dv.v K)
def ccA (K : PySem.W.Frag) (p : Str × Option Str) : Addr := match K.lookup (He.fAd K p) with
  | some ⟨_, _, .func fd, _⟩ => match fd.closure with
    | [(_, c)] => c
    | _ => 0
  | _ => 0
def cdA (K : PySem.W.Frag) (p : Str × Option Str) : Addr := match K.lookup (He.fAd K p) with
  | some ⟨_, _, .func fd, _⟩ => match fd.code with
    | .ref a => a
    | _ => 0
  | _ => 0
def CloD.ok (K : PySem.W.Frag) (d : CloD) : Bool := PySem.W.keepIn K (.ref (He.fAd K d.at_)) && (match K.lookup (He.fAd K d.at_) with
  | some ⟨_, _, .func fd, _⟩ => match fd.code with
    | .ref a => PySem.W.codeIn K (.ref a) d.qual && He.dflB K fd.defaults (d.dvs K)
    | _ => false
  | _ => false)
theorem CloD.supD {K : PySem.W.Frag} {d : CloD} (e : clW K d.at_ = d.val) (c : d.ok K = true) : ∃ fd, SupD K d.name d.qual d.params d.body d.scope (d.dvs K) (He.fAd K d.at_) fd (cdA K d.at_) (ccA K d.at_) := by
  obtain ⟨kp, c2⟩ := Bool.and_eq_true_iff.mp c
  unfold clW at e
  unfold cdA ccA
  cases q : K.lookup (He.fAd K d.at_) with
  | none =>
    rw [q] at c2
    cases c2
  | some o =>
    obtain ⟨oc, od, dt, osl⟩ := o
    rw [q] at c2 e
    cases dt with
    | func fd =>
      obtain ⟨n1, n2, n3, n4, n5, n6, n7, n8, n9, n10, n11, n12, n13, n14, n15⟩ := fd
      have e2 : (some (n1, n2, n3, n4, n5, n6, n7.map (·.1), n15) : ClW) = (some (d.name, d.qual, d.params, FuncBody.stmts d.body, d.scope, mainGlobals, [("__class__" : Str)], builtinsNs) : ClW) := e
      simp only [Option.some.injEq, Prod.mk.injEq] at e2
      obtain ⟨h1, h2, h3, h4, h5, h6, h7, h8⟩ := e2
      subst h1 h2 h3 h4 h5 h6 h8
      obtain ⟨cc, rfl⟩ : ∃ cc : Addr, n7 = [(("__class__" : Str), cc)] := by
        match n7, h7 with
        | [(a, b)], h7 =>
          have h7 := (List.cons_eq_cons.mp h7).1
          exact ⟨b, by rw [show a = _ from h7]⟩
      cases n13 with
      | ref a =>
        have c3 : (PySem.W.codeIn K (.ref a) d.qual && He.dflB K n8 (d.dvs K)) = true := c2
        obtain ⟨k1, k2⟩ := Bool.and_eq_true_iff.mp c3
        exact ⟨_, ⟨oc, od, n8, n9, n10, n11, n12, n14, osl, rfl, q, k1, He.dflB_ok k2⟩, kp⟩
      | _ => cases c2
    | _ => cases c2
def cellB (K : PySem.W.Frag) (cc D : Addr) : Bool := match K.lookup cc with
  | some ⟨_, _, .cell (some (.ref a)), _⟩ => Nat.beq a D
  | _ => false
def codeFB (K : PySem.W.Frag) (cda : Addr) (file : Str) : Bool := match K.lookup cda with
  | some ⟨_, _, .fields vs, _⟩ => match (vs[2]? : Option Value) with
    | some (Value.str f _) => decide (f = file)
    | _ => false
  | _ => false
def supNB (K : PySem.W.Frag) (cda cc D : Addr) (file : Str) : Bool := cellB K cc D && (codeFB K cda file && ((PySem.W.clsIn K D).isSome && (He.eqO (PySem.W.nsIn K mainGlobals "super") (some none) && He.eqO (PySem.W.nsIn K cStatics "thirdparty.any") (some none))))
theorem supNB_ok {K : PySem.W.Frag} {cda cc D : Addr} {file : Str} (h : supNB K cda cc D file = true) : SupN K cda cc D file := by
  obtain ⟨h1, h⟩ := Bool.and_eq_true_iff.mp h
  obtain ⟨h2, h⟩ := Bool.and_eq_true_iff.mp h
  obtain ⟨h3, h⟩ := Bool.and_eq_true_iff.mp h
  obtain ⟨h4, h5⟩ := Bool.and_eq_true_iff.mp h
  refine ⟨?_, ?_, ?_, He.eqO_ok h4, He.eqO_ok h5⟩
  · unfold cellB at h1
    split at h1
    · rename_i cl cld a csl ho
      obtain rfl := Nat.eq_of_beq_eq_true h1
      exact ⟨cl, cld, csl, ho⟩
    · cases h1
  · unfold codeFB at h2
    split at h2
    · rename_i cl cld vs csl ho
      split at h2
      · rename_i f tf hv
        obtain rfl := of_decide_eq_true h2
        exact ⟨cl, cld, vs, csl, tf, ho, hv⟩
      · cases h2
    · cases h2
  · cases q : PySem.W.clsIn K D with
    | none => rw [q] at h3; cases h3
    | some cd => exact ⟨cd, rfl⟩
def supCB (K : PySem.W.Frag) (C D f2 : Addr) : Bool := decide (PySem.W.mroIn K C (.ref D) = some true) && He.eqO (PySem.W.ks_superIn K C D "__init__") (some (some (.ref f2)))
theorem supCB_ok {K : PySem.W.Frag} {C D f2 : Addr} (h : supCB K C D f2 = true) : SupC K C D f2 := by
  obtain ⟨h1, h2⟩ := Bool.and_eq_true_iff.mp h
  exact ⟨of_decide_eq_true h1, He.eqO_ok h2⟩
/-! the head's facts with such defs -/
structure SaysB (fa : List He.Fa) (fn : List He.DefD) (fc : List CloD) (tf : List He.Defn) (fx : List (PySem.W.Frag → Bool)) (h : Heap) (K : PySem.W.Frag) : Prop extends SaysA fa fn tf fx h K where
  k : fc.map (fun d => clW K d.at_) = fc.map CloD.val
  ko : fc.all (fun d => d.ok K) = true
theorem SaysB.clo {fa : List He.Fa} {fn : List He.DefD} {fc : List CloD} {tf : List He.Defn} {fx : List (PySem.W.Frag → Bool)} {h : Heap} {K : PySem.W.Frag} (c : SaysB fa fn fc tf fx h K) (i : Nat) {d : CloD} (e : fc[i]? = some d := by rfl) :
    ∃ fd, SupD K d.name d.qual d.params d.body d.scope (d.dvs K) (He.fAd K d.at_) fd (cdA K d.at_) (ccA K d.at_) := by
  have e2 : (fc.map fun d => clW K d.at_)[i]? = (fc.map CloD.val)[i]? := by rw [c.k]
  rw [List.getElem?_map, List.getElem?_map, e] at e2
  exact CloD.supD (Option.some.inj e2) (List.all_eq_true.mp c.ko d (List.mem_of_getElem? e))
def obsB (as : List Addr) (fa : List He.Fa) (fn : List He.DefD) (fc : List CloD) (tf : List He.Defn) (fx : List (PySem.W.Frag → Bool)) (g : Addr → Option Obj) : (He.AlD × Bool) × (List ClW × Bool) := (obsA as fa fn tf fx g, (fc.map fun d => clW (frA g as) d.at_, fc.all fun d => d.ok (frA g as)))
theorem saysB_of {as : List Addr} {fa : List He.Fa} {fn : List He.DefD} {fc : List CloD} {tf : List He.Defn} {fx : List (PySem.W.Frag → Bool)} {h : Heap} (e : obsB as fa fn fc tf fx h.get? = ((He.valD fn, true), (fc.map CloD.val, true))) : SaysB fa fn fc tf fx h (frA h.get? as) :=
  ⟨saysA_of (congrArg (fun z => z.1) e), congrArg (fun z => z.2.1) e, congrArg (fun z => z.2.2) e⟩
def hookB (as : List Addr) (fa : List He.Fa) (fn : List He.DefD) (fc : List CloD) (tf : List He.Defn) (fx : List (PySem.W.Frag → Bool)) : PySem.W.Hook where
  α := (He.AlD × Bool) × (List ClW × Bool)
  obs := fun s => obsB as fa fn fc tf fx s.heap.get?
  val := fun _ => ((He.valD fn, true), (fc.map CloD.val, true))
  says := fun _ h => ∃ K : PySem.W.Frag, K.In h ∧ SaysB fa fn fc tf fx h K
  of := fun _ _ e => ⟨_, frA_in, saysB_of e⟩
  keeps := fun _ _ _ ⟨K, hK, c⟩ k => ⟨K, PySem.W.Frag.In.keeps hK k, ⟨⟨c.d, c.x, c.hd, c.out, fun p hp => k _ _ (c.empty p hp)⟩, c.k, c.ko⟩⟩
theorem obsB_eq {as : List Addr} {fa : List He.Fa} {fn : List He.DefD} {fc : List CloD} {tf : List He.Defn} {fx : List (PySem.W.Frag → Bool)} {g : Addr → Option Obj} {s : Shared} (h : ∀ a, g a = s.heap.get? a) : obsB as fa fn fc tf fx g = (hookB as fa fn fc tf fx).obs s := by
  have e : g = s.heap.get? := funext h
  rw [e] <;> rfl
end My

namespace My
open PySem PySem.Spec PyProof.Rows L2
/-! defs behind a property: what the top has made of them -/
def pgA (K : PySem.W.Frag) (p : Addr) : Addr := match PySem.W.recIn K p "property" with
  | some (.ref g :: _) => g
  | _ => 0
def getB (K : PySem.W.Frag) (p g : Addr) : Bool := match PySem.W.recIn K p "property" with
  | some (.ref a :: _) => Nat.beq a g
  | _ => false
def propB (K : PySem.W.Frag) (C : Addr) (f : Str) (p g : Addr) : Bool := He.eqO (PySem.W.findIn K (.ref C) f) (some (some (.ref p))) &&
  (He.eqO (PySem.W.specialIn K (.ref p) "__get__") (some (some (.builtin "property.__get__"))) && (decide (PySem.W.takesIn K (.ref p) = some true) && getB K p g))
theorem propB_ok {K : PySem.W.Frag} {C : Addr} {f : Str} {p g : Addr} (h : propB K C f p g = true) : PropOf K C f p g := by
  obtain ⟨h1, h⟩ := Bool.and_eq_true_iff.mp h
  obtain ⟨h2, h⟩ := Bool.and_eq_true_iff.mp h
  obtain ⟨h3, h4⟩ := Bool.and_eq_true_iff.mp h
  refine ⟨He.eqO_ok h1, He.eqO_ok h2, of_decide_eq_true h3, ?_⟩
  unfold getB at h4
  split at h4
  · rename_i a rest e
    obtain rfl := Nat.eq_of_beq_eq_true h4
    exact ⟨rest, e⟩
  · cases h4
/-! the head's facts with such defs (and with defs that hold a cell) -/
structure SaysP (fa : List He.Fa) (fn : List He.DefD) (fc : List CloD) (fp : List He5.DefA) (tf : List He.Defn) (fx : List (PySem.W.Frag → Bool)) (h : Heap) (K : PySem.W.Frag) : Prop extends SaysB fa fn fc tf fx h K where
  kp : fp.map (fun d => He5.fnA K (d.at_ K)) = fp.map He5.DefA.val
  kpo : fp.all (fun d => d.ok K) = true
theorem SaysP.pro {fa : List He.Fa} {fn : List He.DefD} {fc : List CloD} {fp : List He5.DefA} {tf : List He.Defn} {fx : List (PySem.W.Frag → Bool)} {h : Heap} {K : PySem.W.Frag} (c : SaysP fa fn fc fp tf fx h K) (i : Nat) {d : He5.DefA} (e : fp[i]? = some d := by rfl) :
    ∃ fd, FunD K d.name d.qual d.params d.body d.scope (d.dvs K) (d.kws K) (d.at_ K) fd := by
  have e2 : (fp.map fun d => He5.fnA K (d.at_ K))[i]? = (fp.map He5.DefA.val)[i]? := by rw [c.kp]
  rw [List.getElem?_map, List.getElem?_map, e] at e2
  exact He5.DefA.funD (Option.some.inj e2) (List.all_eq_true.mp c.kpo d (List.mem_of_getElem? e))
abbrev AlP : Type := ((He.AlD × Bool) × (List ClW × Bool)) × (List He5.FnW × Bool)
def obsP (as : List Addr) (fa : List He.Fa) (fn : List He.DefD) (fc : List CloD) (fp : List He5.DefA) (tf : List He.Defn) (fx : List (PySem.W.Frag → Bool)) (g : Addr → Option Obj) : AlP := (obsB as fa fn fc tf fx g, (fp.map fun d => He5.fnA (frA g as) (d.at_ (frA g as)), fp.all fun d => d.ok (frA g as)))
theorem saysP_of {as : List Addr} {fa : List He.Fa} {fn : List He.DefD} {fc : List CloD} {fp : List He5.DefA} {tf : List He.Defn} {fx : List (PySem.W.Frag → Bool)} {h : Heap} (e : obsP as fa fn fc fp tf fx h.get? = (((He.valD fn, true), (fc.map CloD.val, true)), (fp.map He5.DefA.val, true))) : SaysP fa fn fc fp tf fx h (frA h.get? as) :=
  ⟨saysB_of (congrArg (fun z => z.1) e), congrArg (fun z => z.2.1) e, congrArg (fun z => z.2.2) e⟩
def hookP (as : List Addr) (fa : List He.Fa) (fn : List He.DefD) (fc : List CloD) (fp : List He5.DefA) (tf : List He.Defn) (fx : List (PySem.W.Frag → Bool)) : PySem.W.Hook where
  α := AlP
  obs := fun s => obsP as fa fn fc fp tf fx s.heap.get?
  val := fun _ => (((He.valD fn, true), (fc.map CloD.val, true)), (fp.map He5.DefA.val, true))
  says := fun _ h => ∃ K : PySem.W.Frag, K.In h ∧ SaysP fa fn fc fp tf fx h K
  of := fun _ _ e => ⟨_, frA_in, saysP_of e⟩
  keeps := fun _ _ _ ⟨K, hK, c⟩ k => ⟨K, PySem.W.Frag.In.keeps hK k, ⟨⟨⟨c.d, c.x, c.hd, c.out, fun p hp => k _ _ (c.empty p hp)⟩, c.k, c.ko⟩, c.kp, c.kpo⟩⟩
theorem obsP_eq {as : List Addr} {fa : List He.Fa} {fn : List He.DefD} {fc : List CloD} {fp : List He5.DefA} {tf : List He.Defn} {fx : List (PySem.W.Frag → Bool)} {g : Addr → Option Obj} {s : Shared} (h : ∀ a, g a = s.heap.get? a) : obsP as fa fn fc fp tf fx g = (hookP as fa fn fc fp tf fx).obs s := by
  have e : g = s.heap.get? := funext h
  rw [e] <;> rfl
end My
namespace My
open PySem PySem.W PySem.Calls PyProof.Rows HandSHeadRun
/-! the run in parts: what the views look at, and each part of what is observed, by a kernel run of its own (each run's memory is free before the next) -/
def RunA (r : OpenRow) (q : Program) (M : Nat) (loose : List PySem.Str) (w : World) : Prop :=
  ∀ os : OsState, (endF (stepQ (denQ tabQ) r.prog w) M r.prog w os).map (fun s => (looksF r.prog (boot_heap w.params) s.abs, seenQ q loose (importedModules r.prog.main.body) (fun s => xlAt q [] s && recOk r.toRowW.records s) s.abs)) = some (true, openGood q loose)
def RunO {α : Type} (r : OpenRow) (M : Nat) (w : World) (o : SharedT → α) (v : α) : Prop :=
  ∀ os : OsState, (endF (stepQ (denQ tabQ) r.prog w) M r.prog w os).map o = some v
theorem run_join {r : OpenRow} {q : Program} {H : Hook} {ob : SharedT → H.α} {M : Nat} {loose : List PySem.Str} {w : World} {α β : Type} {oB : SharedT → α} {oC : SharedT → β} {vB : α} {vC : β}
    (a : RunA r q M loose w) (b : RunO r M w oB vB) (c : RunO r M w oC vC) (j : ∀ s, oB s = vB → oC s = vC → ob s = H.val w) : RunEq r q H ob M loose w := by
  intro os
  obtain ⟨s, hs, e1⟩ := Option.map_eq_some_iff.mp (a os)
  have e2 := b os
  have e3 := c os
  rw [hs] at e2 e3 ⊢
  have e2 := Option.some.inj e2
  have e3 := Option.some.inj e3
  have e4 := j s e2 e3
  injection e1 with e5 e6
  show some (_, _, ob s) = _
  rw [e5, e6, e4]
theorem obsP_join {as : List Addr} {fa : List He.Fa} {fn : List He.DefD} {fc : List CloD} {fp : List He5.DefA} {tf : List He.Defn} {fx : List (PySem.W.Frag → Bool)} {g : Addr → Option Obj}
    (b : obsP as fa [] [] [] tf fx g = (((He.valD [], true), ([], true)), ([], true))) (c : obsP as [] fn fc fp [] [] g = (((He.valD fn, true), (fc.map CloD.val, true)), (fp.map He5.DefA.val, true))) :
    obsP as fa fn fc fp tf fx g = (((He.valD fn, true), (fc.map CloD.val, true)), (fp.map He5.DefA.val, true)) := by
  have b1 : (fa.all (fun f => f.ok (frA g as)) && true) = true := congrArg (fun z : AlP => z.1.1.1.1) b
  have b2 : ((fx.all fun f => f (frA g as)) && He.tabsB g tf (frA g as)) = true := congrArg (fun z : AlP => z.1.1.2) b
  have c1 : (true && fn.all fun d => d.ok (frA g as)) = true := congrArg (fun z : AlP => z.1.1.1.1) c
  have c2 : fn.map (fun d => He.fnW (frA g as) d.at_) = fn.map He.DefD.val := congrArg (fun z : AlP => z.1.1.1.2) c
  have c3 : (fc.map fun d => clW (frA g as) d.at_, fc.all fun d => d.ok (frA g as)) = (fc.map CloD.val, true) := congrArg (fun z : AlP => z.1.2) c
  have c4 : (fp.map fun d => He5.fnA (frA g as) (d.at_ (frA g as)), fp.all fun d => d.ok (frA g as)) = (fp.map He5.DefA.val, true) := congrArg (fun z : AlP => z.2) c
  rw [Bool.and_true] at b1
  rw [Bool.true_and] at c1
  have d1 : He.obsD fa fn (frA g as) = He.valD fn := by
    show (fa.all (fun f => f.ok (frA g as)) && fn.all (fun d => d.ok (frA g as)), fn.map fun d => He.fnW (frA g as) d.at_) = (true, fn.map He.DefD.val)
    rw [b1, c1, c2]
    rfl
  show (((He.obsD fa fn (frA g as), ((fx.all fun f => f (frA g as)) && He.tabsB g tf (frA g as))), (fc.map fun d => clW (frA g as) d.at_, fc.all fun d => d.ok (frA g as))), (fp.map fun d => He5.fnA (frA g as) (d.at_ (frA g as)), fp.all fun d => d.ok (frA g as))) = _
  rw [d1, b2, c3, c4]
end My
namespace My
open PySem L2

def top (i : Nat) : Stmt := PySem.Challenge.pw_roomleft_k73_simple_roots_and_their_tabl.main.body.getD i (.Pass ⟨0, 0, 0, 0⟩)
abbrev s__wall : Stmt := top 0
abbrev s_BadKind___init__ : Stmt := inClass (top 3) 0
abbrev s_BadEdition___init__ : Stmt := inClass (top 4) 0
abbrev s_MissingKind___init__ : Stmt := inClass (top 5) 0
abbrev s_RingOfCalls___init__ : Stmt := inClass (top 6) 0
abbrev s_LongBody___init__ : Stmt := inClass (top 7) 0
abbrev s_RoomTaken___init__ : Stmt := inClass (top 8) 0
abbrev s_is_integer : Stmt := top 11
abbrev s_is_bits : Stmt := top 12
abbrev s_is_name : Stmt := top 13
abbrev s_is_word : Stmt := top 14
abbrev s_begins : Stmt := top 15
abbrev s_Nothing___eq__ : Stmt := inClass (top 16) 0
abbrev s_is_width : Stmt := top 17
abbrev s_Number___init__ : Stmt := inClass (top 18) 0
abbrev s_Number___eq__ : Stmt := inClass (top 18) 1
abbrev s_Bits___init__ : Stmt := inClass (top 19) 0
abbrev s_Bits___eq__ : Stmt := inClass (top 19) 1
abbrev s_Call___init__ : Stmt := inClass (top 20) 0
abbrev s_Call___eq__ : Stmt := inClass (top 20) 1
abbrev s_Items___init__ : Stmt := inClass (top 21) 0
abbrev s_Items___eq__ : Stmt := inClass (top 21) 1
abbrev s_is_simple : Stmt := top 22
abbrev s_check_inner : Stmt := top 23
abbrev s_Way___init__ : Stmt := inClass (top 24) 0
abbrev s_Way___eq__ : Stmt := inClass (top 24) 1
abbrev s_Door___init__ : Stmt := inClass (top 25) 0
abbrev s_Door___eq__ : Stmt := inClass (top 25) 1
abbrev s_are_ways : Stmt := top 26
abbrev s_Choice___init__ : Stmt := inClass (top 27) 0
abbrev s_Choice___eq__ : Stmt := inClass (top 27) 1
abbrev s_Part___init__ : Stmt := inClass (top 28) 0
abbrev s_Part___eq__ : Stmt := inClass (top 28) 1
abbrev s_Room___init__ : Stmt := inClass (top 29) 0
abbrev s_Room___eq__ : Stmt := inClass (top 29) 1
abbrev s_are_parts : Stmt := top 30
abbrev s_Row___init__ : Stmt := inClass (top 31) 0
abbrev s_Row___eq__ : Stmt := inClass (top 31) 1
abbrev s_number_form : Stmt := top 33
abbrev s_Plan___init__ : Stmt := inClass (top 34) 0
abbrev s_Plan_form_named : Stmt := inClass (top 34) 1
abbrev s_Plan_form_of : Stmt := inClass (top 34) 2
abbrev s_Plan_kept : Stmt := inClass (top 34) 3
abbrev s_Plan_body_of : Stmt := inClass (top 34) 4
abbrev s_Plan_branch_of : Stmt := inClass (top 34) 5
abbrev s_Plan_part_of : Stmt := inClass (top 34) 6
abbrev s_Plan_thread : Stmt := inClass (top 34) 7
abbrev s_Plan_begin : Stmt := inClass (top 34) 8
abbrev s_Plan_begin_row : Stmt := inClass (top 34) 9
abbrev s_Plan_inside : Stmt := inClass (top 34) 10
abbrev s_resolved : Stmt := top 38
abbrev s_wide_form : Stmt := top 39
abbrev s_are_numbers_alike : Stmt := top 40
abbrev s_are_leaves_alike : Stmt := top 41
abbrev s_are_named_alike : Stmt := top 42
abbrev s_Needs___init__ : Stmt := inClass (top 43) 0
abbrev s_Needs_of_kinds : Stmt := inClass (top 43) 1
abbrev s_Needs_of_roots : Stmt := inClass (top 43) 2
abbrev s_Needs_of_triple : Stmt := inClass (top 43) 3
abbrev s_Needs_of_pair : Stmt := inClass (top 43) 4
abbrev s_way_pairs : Stmt := top 44
abbrev s_beginning : Stmt := top 45
abbrev s_part_pairs : Stmt := top 46
abbrev s_table : Stmt := top 47
abbrev s_is_triple : Stmt := top 48
abbrev s_are_kept : Stmt := top 49
abbrev s_check_table : Stmt := top 50
abbrev s_inner_kinds : Stmt := top 52
abbrev s_called : Stmt := top 53
abbrev s_reached : Stmt := top 54
abbrev s_missing_name : Stmt := top 55
abbrev s_ring_name : Stmt := top 56
abbrev s_call_order : Stmt := top 57
abbrev s_number_lengths : Stmt := top 59
abbrev s_Lengths___init__ : Stmt := inClass (top 60) 0
abbrev s_Lengths_sums : Stmt := inClass (top 60) 1
abbrev s_Lengths_of_kind : Stmt := inClass (top 60) 2
abbrev s_Lengths_of_items : Stmt := inClass (top 60) 3
abbrev s_Lengths_of_body : Stmt := inClass (top 60) 4
abbrev s_Lengths_of_named : Stmt := inClass (top 60) 5
abbrev s_Lengths_of_row : Stmt := inClass (top 60) 6
abbrev s_Lengths_is_long : Stmt := inClass (top 60) 7
abbrev s_long_body : Stmt := top 61
abbrev s_single : Stmt := top 63
abbrev s_shifted : Stmt := top 64
abbrev s_plus : Stmt := top 65
abbrev s_times : Stmt := top 66
abbrev s_rounds : Stmt := top 67
abbrev s_Counter___init__ : Stmt := inClass (top 68) 0
abbrev s_Counter_counts : Stmt := inClass (top 68) 1
abbrev s_Counter_counts_from : Stmt := inClass (top 68) 2
abbrev s_Counter_counts_row : Stmt := inClass (top 68) 3
abbrev s_Counter_counts_ahead : Stmt := inClass (top 68) 4
abbrev s_Counter_counts_of : Stmt := inClass (top 68) 5
abbrev s_Counter_counts_simple : Stmt := inClass (top 68) 6
abbrev s_Counter_counts_items : Stmt := inClass (top 68) 7
abbrev s_Counter_repeats : Stmt := inClass (top 68) 8
abbrev s_Counter_ends : Stmt := inClass (top 68) 9
abbrev s_Counter_ends_from : Stmt := inClass (top 68) 10
abbrev s_Counter_counts_body : Stmt := inClass (top 68) 11
abbrev s_Counter_least : Stmt := inClass (top 68) 12
abbrev s_Counter_least_from : Stmt := inClass (top 68) 13
abbrev s_Counter_least_of : Stmt := inClass (top 68) 14
abbrev s_Counter_least_simple : Stmt := inClass (top 68) 15
abbrev s_Machine___init__ : Stmt := inClass (top 70) 0
abbrev s_Machine_state : Stmt := inClass (top 70) 1
abbrev s_Machine_threads : Stmt := inClass (top 70) 2
abbrev s_Machine_start : Stmt := inClass (top 70) 3
abbrev s_Machine_start_row : Stmt := inClass (top 70) 4
abbrev s_Machine_move : Stmt := inClass (top 70) 5
abbrev s_Machine_lack : Stmt := inClass (top 70) 6
abbrev s_Machine_go : Stmt := inClass (top 70) 7
abbrev s_Machine_go_of : Stmt := inClass (top 70) 8
abbrev s_Machine_wrap : Stmt := inClass (top 70) 9
abbrev s_Machine_go_simple : Stmt := inClass (top 70) 10
abbrev s_Machine_go_items : Stmt := inClass (top 70) 11
abbrev s_Machine_begin_rounds : Stmt := inClass (top 70) 12
abbrev s_Machine_go_word : Stmt := inClass (top 70) 13
abbrev s_Machine_go_size : Stmt := inClass (top 70) 14
abbrev s_Machine_begin_body : Stmt := inClass (top 70) 15
abbrev s_Machine_in_body : Stmt := inClass (top 70) 16
abbrev s_Machine_go_body : Stmt := inClass (top 70) 17
abbrev s_Machine_go_room : Stmt := inClass (top 70) 18
abbrev s_Machine_go_part : Stmt := inClass (top 70) 19
abbrev s_Machine_in_rest : Stmt := inClass (top 70) 20
abbrev s_within : Stmt := top 71
abbrev s_are_kinds : Stmt := top 73
abbrev s_check_parts : Stmt := top 74
abbrev s_is_taken : Stmt := top 75
abbrev s_last_taken : Stmt := top 76
abbrev s_check_rooms : Stmt := top 77
abbrev s_Edition___init__ : Stmt := inClass (top 78) 0
abbrev s_Edition___eq__ : Stmt := inClass (top 78) 2
abbrev s__law_start : Stmt := top 80
abbrev s__law_pull : Stmt := top 81
abbrev s__law_big : Stmt := top 82
abbrev s__law_word : Stmt := top 83
abbrev s__law_names : Stmt := top 84
abbrev s__law_kind : Stmt := top 85
abbrev s__law_inner : Stmt := top 86
abbrev s__law_edition : Stmt := top 87
abbrev s__law_short : Stmt := top 88
abbrev s__law_code : Stmt := top 89
abbrev s__law_number_bits : Stmt := top 90
abbrev s__law_number : Stmt := top 91
abbrev s__law_bent_number : Stmt := top 92
abbrev s__law_leaf : Stmt := top 93
abbrev s__law_bent_leaf : Stmt := top 94
abbrev s__law_called : Stmt := top 95
abbrev s__law_numbers_alike : Stmt := top 96
abbrev s__law_alike : Stmt := top 97
abbrev s_law : Stmt := top 98
def supFile : Str := PySem.Challenge.pw_roomleft_k73_simple_roots_and_their_tabl.main.file
/-- the program of the row -/
def P : PySem.Program := (PySem.W.OpenLaw.row PySem.Challenge.rw_roomleft_k73_simple_roots_and_their_tabl).prog
theorem supP : SupP P := ⟨by kernel_rfl⟩
theorem supF : P.main.file = supFile := by kernel_rfl
def dd_BadKind___init__ : He.DefD := ⟨("BadKind", some "__init__"), "__init__", "BadKind.__init__", defArgs s_BadKind___init__, defBody s_BadKind___init__, defScope s_BadKind___init__, [], []⟩
def dd_is_integer : He.DefD := ⟨("is_integer", none), "is_integer", "is_integer", defArgs s_is_integer, defBody s_is_integer, defScope s_is_integer, [], []⟩
def dd_is_bits : He.DefD := ⟨("is_bits", none), "is_bits", "is_bits", defArgs s_is_bits, defBody s_is_bits, defScope s_is_bits, [], []⟩
def dd_is_name : He.DefD := ⟨("is_name", none), "is_name", "is_name", defArgs s_is_name, defBody s_is_name, defScope s_is_name, [], []⟩
def dd_is_word : He.DefD := ⟨("is_word", none), "is_word", "is_word", defArgs s_is_word, defBody s_is_word, defScope s_is_word, [], []⟩
def dd_begins : He.DefD := ⟨("begins", none), "begins", "begins", defArgs s_begins, defBody s_begins, defScope s_begins, [], []⟩
def dd_is_width : He.DefD := ⟨("is_width", none), "is_width", "is_width", defArgs s_is_width, defBody s_is_width, defScope s_is_width, [], []⟩
def dd_Number___init__ : He.DefD := ⟨("Number", some "__init__"), "__init__", "Number.__init__", defArgs s_Number___init__, defBody s_Number___init__, defScope s_Number___init__, [.non], []⟩
def dd_Bits___init__ : He.DefD := ⟨("Bits", some "__init__"), "__init__", "Bits.__init__", defArgs s_Bits___init__, defBody s_Bits___init__, defScope s_Bits___init__, [], []⟩
def dd_Call___init__ : He.DefD := ⟨("Call", some "__init__"), "__init__", "Call.__init__", defArgs s_Call___init__, defBody s_Call___init__, defScope s_Call___init__, [], []⟩
def dd_Items___init__ : He.DefD := ⟨("Items", some "__init__"), "__init__", "Items.__init__", defArgs s_Items___init__, defBody s_Items___init__, defScope s_Items___init__, [.non], []⟩
def dd_is_simple : He.DefD := ⟨("is_simple", none), "is_simple", "is_simple", defArgs s_is_simple, defBody s_is_simple, defScope s_is_simple, [], []⟩
def dd_check_inner : He.DefD := ⟨("check_inner", none), "check_inner", "check_inner", defArgs s_check_inner, defBody s_check_inner, defScope s_check_inner, [], []⟩
def dd_Way___init__ : He.DefD := ⟨("Way", some "__init__"), "__init__", "Way.__init__", defArgs s_Way___init__, defBody s_Way___init__, defScope s_Way___init__, [], []⟩
def dd_Door___init__ : He.DefD := ⟨("Door", some "__init__"), "__init__", "Door.__init__", defArgs s_Door___init__, defBody s_Door___init__, defScope s_Door___init__, [], []⟩
def dd_are_ways : He.DefD := ⟨("are_ways", none), "are_ways", "are_ways", defArgs s_are_ways, defBody s_are_ways, defScope s_are_ways, [], []⟩
def dd_Choice___init__ : He.DefD := ⟨("Choice", some "__init__"), "__init__", "Choice.__init__", defArgs s_Choice___init__, defBody s_Choice___init__, defScope s_Choice___init__, [], []⟩
def dd_Part___init__ : He.DefD := ⟨("Part", some "__init__"), "__init__", "Part.__init__", defArgs s_Part___init__, defBody s_Part___init__, defScope s_Part___init__, [], []⟩
def dd_Room___init__ : He.DefD := ⟨("Room", some "__init__"), "__init__", "Room.__init__", defArgs s_Room___init__, defBody s_Room___init__, defScope s_Room___init__, [], []⟩
def dd_are_parts : He.DefD := ⟨("are_parts", none), "are_parts", "are_parts", defArgs s_are_parts, defBody s_are_parts, defScope s_are_parts, [], []⟩
def dd_Row___init__ : He.DefD := ⟨("Row", some "__init__"), "__init__", "Row.__init__", defArgs s_Row___init__, defBody s_Row___init__, defScope s_Row___init__, [], []⟩
def dd_number_form : He.DefD := ⟨("number_form", none), "number_form", "number_form", defArgs s_number_form, defBody s_number_form, defScope s_number_form, [], []⟩
def dd_Plan___init__ : He.DefD := ⟨("Plan", some "__init__"), "__init__", "Plan.__init__", defArgs s_Plan___init__, defBody s_Plan___init__, defScope s_Plan___init__, [.bl false], []⟩
def dd_resolved : He.DefD := ⟨("resolved", none), "resolved", "resolved", defArgs s_resolved, defBody s_resolved, defScope s_resolved, [], []⟩
def dd_wide_form : He.DefD := ⟨("wide_form", none), "wide_form", "wide_form", defArgs s_wide_form, defBody s_wide_form, defScope s_wide_form, [], []⟩
def dd_are_numbers_alike : He.DefD := ⟨("are_numbers_alike", none), "are_numbers_alike", "are_numbers_alike", defArgs s_are_numbers_alike, defBody s_are_numbers_alike, defScope s_are_numbers_alike, [], []⟩
def dd_are_leaves_alike : He.DefD := ⟨("are_leaves_alike", none), "are_leaves_alike", "are_leaves_alike", defArgs s_are_leaves_alike, defBody s_are_leaves_alike, defScope s_are_leaves_alike, [], []⟩
def dd_are_named_alike : He.DefD := ⟨("are_named_alike", none), "are_named_alike", "are_named_alike", defArgs s_are_named_alike, defBody s_are_named_alike, defScope s_are_named_alike, [], []⟩
def dd_Needs___init__ : He.DefD := ⟨("Needs", some "__init__"), "__init__", "Needs.__init__", defArgs s_Needs___init__, defBody s_Needs___init__, defScope s_Needs___init__, [], []⟩
def dd_Needs_of_kinds : He.DefD := ⟨("Needs", some "of_kinds"), "of_kinds", "Needs.of_kinds", defArgs s_Needs_of_kinds, defBody s_Needs_of_kinds, defScope s_Needs_of_kinds, [], []⟩
def dd_Needs_of_roots : He.DefD := ⟨("Needs", some "of_roots"), "of_roots", "Needs.of_roots", defArgs s_Needs_of_roots, defBody s_Needs_of_roots, defScope s_Needs_of_roots, [], []⟩
def dd_Needs_of_triple : He.DefD := ⟨("Needs", some "of_triple"), "of_triple", "Needs.of_triple", defArgs s_Needs_of_triple, defBody s_Needs_of_triple, defScope s_Needs_of_triple, [], []⟩
def dd_table : He.DefD := ⟨("table", none), "table", "table", defArgs s_table, defBody s_table, defScope s_table, [], []⟩
def dd_is_triple : He.DefD := ⟨("is_triple", none), "is_triple", "is_triple", defArgs s_is_triple, defBody s_is_triple, defScope s_is_triple, [], []⟩
def dd_are_kept : He.DefD := ⟨("are_kept", none), "are_kept", "are_kept", defArgs s_are_kept, defBody s_are_kept, defScope s_are_kept, [], []⟩
def dd_check_table : He.DefD := ⟨("check_table", none), "check_table", "check_table", defArgs s_check_table, defBody s_check_table, defScope s_check_table, [], []⟩
def dd_inner_kinds : He.DefD := ⟨("inner_kinds", none), "inner_kinds", "inner_kinds", defArgs s_inner_kinds, defBody s_inner_kinds, defScope s_inner_kinds, [], []⟩
def dd_called : He.DefD := ⟨("called", none), "called", "called", defArgs s_called, defBody s_called, defScope s_called, [], []⟩
def dd_reached : He.DefD := ⟨("reached", none), "reached", "reached", defArgs s_reached, defBody s_reached, defScope s_reached, [], []⟩
def dd_missing_name : He.DefD := ⟨("missing_name", none), "missing_name", "missing_name", defArgs s_missing_name, defBody s_missing_name, defScope s_missing_name, [], []⟩
def dd_ring_name : He.DefD := ⟨("ring_name", none), "ring_name", "ring_name", defArgs s_ring_name, defBody s_ring_name, defScope s_ring_name, [], []⟩
def dd_call_order : He.DefD := ⟨("call_order", none), "call_order", "call_order", defArgs s_call_order, defBody s_call_order, defScope s_call_order, [], []⟩
def dd_number_lengths : He.DefD := ⟨("number_lengths", none), "number_lengths", "number_lengths", defArgs s_number_lengths, defBody s_number_lengths, defScope s_number_lengths, [], []⟩
def dd_Lengths___init__ : He.DefD := ⟨("Lengths", some "__init__"), "__init__", "Lengths.__init__", defArgs s_Lengths___init__, defBody s_Lengths___init__, defScope s_Lengths___init__, [], []⟩
def dd_Lengths_sums : He.DefD := ⟨("Lengths", some "sums"), "sums", "Lengths.sums", defArgs s_Lengths_sums, defBody s_Lengths_sums, defScope s_Lengths_sums, [], []⟩
def dd_Lengths_of_kind : He.DefD := ⟨("Lengths", some "of_kind"), "of_kind", "Lengths.of_kind", defArgs s_Lengths_of_kind, defBody s_Lengths_of_kind, defScope s_Lengths_of_kind, [], []⟩
def dd_Lengths_of_items : He.DefD := ⟨("Lengths", some "of_items"), "of_items", "Lengths.of_items", defArgs s_Lengths_of_items, defBody s_Lengths_of_items, defScope s_Lengths_of_items, [], []⟩
def dd_Lengths_of_body : He.DefD := ⟨("Lengths", some "of_body"), "of_body", "Lengths.of_body", defArgs s_Lengths_of_body, defBody s_Lengths_of_body, defScope s_Lengths_of_body, [], []⟩
def dd_Lengths_of_named : He.DefD := ⟨("Lengths", some "of_named"), "of_named", "Lengths.of_named", defArgs s_Lengths_of_named, defBody s_Lengths_of_named, defScope s_Lengths_of_named, [], []⟩
def dd_Lengths_of_row : He.DefD := ⟨("Lengths", some "of_row"), "of_row", "Lengths.of_row", defArgs s_Lengths_of_row, defBody s_Lengths_of_row, defScope s_Lengths_of_row, [], []⟩
def dd_Lengths_is_long : He.DefD := ⟨("Lengths", some "is_long"), "is_long", "Lengths.is_long", defArgs s_Lengths_is_long, defBody s_Lengths_is_long, defScope s_Lengths_is_long, [], []⟩
def dd_long_body : He.DefD := ⟨("long_body", none), "long_body", "long_body", defArgs s_long_body, defBody s_long_body, defScope s_long_body, [], []⟩
def dd_are_kinds : He.DefD := ⟨("are_kinds", none), "are_kinds", "are_kinds", defArgs s_are_kinds, defBody s_are_kinds, defScope s_are_kinds, [], []⟩
def dd_check_parts : He.DefD := ⟨("check_parts", none), "check_parts", "check_parts", defArgs s_check_parts, defBody s_check_parts, defScope s_check_parts, [], []⟩
def dd_is_taken : He.DefD := ⟨("is_taken", none), "is_taken", "is_taken", defArgs s_is_taken, defBody s_is_taken, defScope s_is_taken, [], []⟩
def dd_last_taken : He.DefD := ⟨("last_taken", none), "last_taken", "last_taken", defArgs s_last_taken, defBody s_last_taken, defScope s_last_taken, [], []⟩
def dd_check_rooms : He.DefD := ⟨("check_rooms", none), "check_rooms", "check_rooms", defArgs s_check_rooms, defBody s_check_rooms, defScope s_check_rooms, [], []⟩
def dd_Edition___init__ : He.DefD := ⟨("Edition", some "__init__"), "__init__", "Edition.__init__", defArgs s_Edition___init__, defBody s_Edition___init__, defScope s_Edition___init__, [], []⟩
def dd__law_start : He.DefD := ⟨("_law_start", none), "_law_start", "_law_start", defArgs s__law_start, defBody s__law_start, defScope s__law_start, [], []⟩
def dd__law_pull : He.DefD := ⟨("_law_pull", none), "_law_pull", "_law_pull", defArgs s__law_pull, defBody s__law_pull, defScope s__law_pull, [], []⟩
def dd__law_big : He.DefD := ⟨("_law_big", none), "_law_big", "_law_big", defArgs s__law_big, defBody s__law_big, defScope s__law_big, [], []⟩
def dd__law_word : He.DefD := ⟨("_law_word", none), "_law_word", "_law_word", defArgs s__law_word, defBody s__law_word, defScope s__law_word, [], []⟩
def dd__law_names : He.DefD := ⟨("_law_names", none), "_law_names", "_law_names", defArgs s__law_names, defBody s__law_names, defScope s__law_names, [], []⟩
def dd__law_kind : He.DefD := ⟨("_law_kind", none), "_law_kind", "_law_kind", defArgs s__law_kind, defBody s__law_kind, defScope s__law_kind, [], []⟩
def dd__law_edition : He.DefD := ⟨("_law_edition", none), "_law_edition", "_law_edition", defArgs s__law_edition, defBody s__law_edition, defScope s__law_edition, [], []⟩
def dd__law_short : He.DefD := ⟨("_law_short", none), "_law_short", "_law_short", defArgs s__law_short, defBody s__law_short, defScope s__law_short, [], []⟩
def dd__law_code : He.DefD := ⟨("_law_code", none), "_law_code", "_law_code", defArgs s__law_code, defBody s__law_code, defScope s__law_code, [], []⟩
def dd__law_number_bits : He.DefD := ⟨("_law_number_bits", none), "_law_number_bits", "_law_number_bits", defArgs s__law_number_bits, defBody s__law_number_bits, defScope s__law_number_bits, [], []⟩
def dd__law_number : He.DefD := ⟨("_law_number", none), "_law_number", "_law_number", defArgs s__law_number, defBody s__law_number, defScope s__law_number, [], []⟩
def dd__law_bent_number : He.DefD := ⟨("_law_bent_number", none), "_law_bent_number", "_law_bent_number", defArgs s__law_bent_number, defBody s__law_bent_number, defScope s__law_bent_number, [], []⟩
def dd__law_leaf : He.DefD := ⟨("_law_leaf", none), "_law_leaf", "_law_leaf", defArgs s__law_leaf, defBody s__law_leaf, defScope s__law_leaf, [], []⟩
def dd__law_bent_leaf : He.DefD := ⟨("_law_bent_leaf", none), "_law_bent_leaf", "_law_bent_leaf", defArgs s__law_bent_leaf, defBody s__law_bent_leaf, defScope s__law_bent_leaf, [], []⟩
def dd__law_called : He.DefD := ⟨("_law_called", none), "_law_called", "_law_called", defArgs s__law_called, defBody s__law_called, defScope s__law_called, [], []⟩
def dd__law_numbers_alike : He.DefD := ⟨("_law_numbers_alike", none), "_law_numbers_alike", "_law_numbers_alike", defArgs s__law_numbers_alike, defBody s__law_numbers_alike, defScope s__law_numbers_alike, [], []⟩
def dd__law_alike : He.DefD := ⟨("_law_alike", none), "_law_alike", "_law_alike", defArgs s__law_alike, defBody s__law_alike, defScope s__law_alike, [], []⟩
def dd_law : He.DefD := ⟨("law", none), "law", "law", defArgs s_law, defBody s_law, defScope s_law, [], []⟩
def fp : List He5.DefA := []
def dc_Counter___init__ : CloD := ⟨("Counter", some "__init__"), "__init__", "Counter.__init__", defArgs s_Counter___init__, defBody s_Counter___init__, defScope s_Counter___init__, [.bl false]⟩
def dc_Machine___init__ : CloD := ⟨("Machine", some "__init__"), "__init__", "Machine.__init__", defArgs s_Machine___init__, defBody s_Machine___init__, defScope s_Machine___init__, [.bl false]⟩
def fn_0 : List He.DefD := [dd_BadKind___init__,
  dd_is_integer,
  dd_is_bits,
  dd_is_name,
  dd_is_word,
  dd_begins,
  dd_is_width,
  dd_Number___init__,
  dd_Bits___init__,
  dd_Call___init__,
  dd_Items___init__,
  dd_is_simple,
  dd_check_inner,
  dd_Way___init__,
  dd_Door___init__,
  dd_are_ways,
  dd_Choice___init__,
  dd_Part___init__,
  dd_Room___init__,
  dd_are_parts,
  dd_Row___init__,
  dd_number_form,
  dd_Plan___init__,
  dd_resolved,
  dd_wide_form,
  dd_are_numbers_alike,
  dd_are_leaves_alike,
  dd_are_named_alike,
  dd_Needs___init__,
  dd_Needs_of_kinds]
def fn_1 : List He.DefD := [dd_Needs_of_roots,
  dd_Needs_of_triple,
  dd_table,
  dd_is_triple,
  dd_are_kept,
  dd_check_table,
  dd_inner_kinds,
  dd_called,
  dd_reached,
  dd_missing_name,
  dd_ring_name,
  dd_call_order,
  dd_number_lengths,
  dd_Lengths___init__,
  dd_Lengths_sums,
  dd_Lengths_of_kind,
  dd_Lengths_of_items,
  dd_Lengths_of_body,
  dd_Lengths_of_named,
  dd_Lengths_of_row,
  dd_Lengths_is_long,
  dd_long_body,
  dd_are_kinds,
  dd_check_parts,
  dd_is_taken,
  dd_last_taken,
  dd_check_rooms,
  dd_Edition___init__,
  dd__law_start,
  dd__law_pull]
def fn_2 : List He.DefD := [dd__law_big,
  dd__law_word,
  dd__law_names,
  dd__law_kind,
  dd__law_edition,
  dd__law_short,
  dd__law_code,
  dd__law_number_bits,
  dd__law_number,
  dd__law_bent_number,
  dd__law_leaf,
  dd__law_bent_leaf,
  dd__law_called,
  dd__law_numbers_alike,
  dd__law_alike,
  dd_law]
def fn : List He.DefD := fn_0 ++ (fn_1 ++ (fn_2))
def fa_0 : List He.Fa := [.glo "is_integer",
  .glo "is_bits",
  .glo "is_name",
  .glo "is_word",
  .glo "begins",
  .glo "is_width",
  .glo "is_simple",
  .glo "check_inner",
  .glo "are_ways",
  .glo "are_parts",
  .glo "number_form",
  .glo "resolved",
  .glo "wide_form",
  .glo "are_numbers_alike",
  .glo "are_leaves_alike",
  .glo "are_named_alike",
  .meth "Needs" "of_kinds",
  .meth "Needs" "of_roots",
  .meth "Needs" "of_triple",
  .glo "table",
  .glo "is_triple",
  .glo "are_kept",
  .glo "check_table",
  .glo "inner_kinds",
  .glo "called",
  .glo "reached",
  .glo "missing_name",
  .glo "ring_name",
  .glo "call_order",
  .glo "number_lengths"]
def fa_1 : List He.Fa := [.meth "Lengths" "sums",
  .meth "Lengths" "of_kind",
  .meth "Lengths" "of_items",
  .meth "Lengths" "of_body",
  .meth "Lengths" "of_named",
  .meth "Lengths" "of_row",
  .meth "Lengths" "is_long",
  .glo "long_body",
  .glo "are_kinds",
  .glo "check_parts",
  .glo "is_taken",
  .glo "last_taken",
  .glo "check_rooms",
  .glo "_law_start",
  .glo "_law_pull",
  .glo "_law_big",
  .glo "_law_word",
  .glo "_law_names",
  .glo "_law_kind",
  .glo "_law_edition",
  .glo "_law_short",
  .glo "_law_code",
  .glo "_law_number_bits",
  .glo "_law_number",
  .glo "_law_bent_number",
  .glo "_law_leaf",
  .glo "_law_bent_leaf",
  .glo "_law_called",
  .glo "_law_numbers_alike",
  .glo "_law_alike"]
def fa_2 : List He.Fa := [.glo "Nothing",
  .keep "Nothing",
  .cls "Nothing",
  .glo "Number",
  .cls "Number",
  .mkr "Number",
  .noat "Number" "low",
  .noat "Number" "high",
  .noat "Number" "width",
  .glo "Bits",
  .cls "Bits",
  .mkr "Bits",
  .noat "Bits" "many",
  .glo "Call",
  .cls "Call",
  .mkr "Call",
  .noat "Call" "name",
  .glo "Items",
  .cls "Items",
  .mkr "Items",
  .noat "Items" "item",
  .noat "Items" "width",
  .glo "Way",
  .cls "Way",
  .noat "Way" "word",
  .noat "Way" "name",
  .noat "Way" "kind",
  .glo "Door",
  .cls "Door",
  .noat "Door" "word"]
def fa_3 : List He.Fa := [.noat "Door" "name",
  .noat "Door" "kind",
  .glo "Choice",
  .cls "Choice",
  .noat "Choice" "ways",
  .glo "Part",
  .cls "Part",
  .noat "Part" "name",
  .noat "Part" "kind",
  .glo "Room",
  .cls "Room",
  .noat "Room" "word",
  .noat "Room" "name",
  .noat "Room" "kind",
  .glo "Row",
  .cls "Row",
  .noat "Row" "parts",
  .glo "Needs",
  .cls "Needs",
  .mkr "Needs",
  .noat "Needs" "writer",
  .noat "Needs" "reader",
  .glo "Lengths",
  .cls "Lengths",
  .mkr "Lengths",
  .noat "Lengths" "count",
  .noat "Lengths" "top",
  .noat "Lengths" "known",
  .glo "Machine",
  .cls "Machine"]
def fa_4 : List He.Fa := [.mkr "Machine",
  .noat "Machine" "named",
  .noat "Machine" "count",
  .noat "Machine" "own",
  .noat "Machine" "most",
  .noat "Machine" "forms",
  .noat "Machine" "places",
  .noat "Machine" "nodes",
  .noat "Machine" "numbers",
  .noat "Machine" "counted",
  .noat "Machine" "rows",
  .noat "Machine" "repeated",
  .noat "Machine" "lacks",
  .noat "Machine" "gone",
  .noat "Machine" "moved",
  .noat "Machine" "tuples",
  .noat "Machine" "states",
  .glo "Edition",
  .cls "Edition",
  .mkr "Edition",
  .noat "Edition" "table",
  .noat "Edition" "root",
  .noat "Edition" "count",
  .noat "Edition" "machine",
  .noat "Edition" "own_machine",
  .glo "BadKind",
  .noat "BadKind" "part",
  .free "all",
  .free "any",
  .free "bool"]
def fa_5 : List He.Fa := [.free "dict",
  .free "enumerate",
  .free "int",
  .free "isinstance",
  .free "len",
  .free "list",
  .free "max",
  .free "min",
  .free "range",
  .free "set",
  .free "sorted",
  .free "str",
  .free "tuple",
  .str "LETTERS" "abcdefghijklmnopqrstuvwxyz",
  .str "ALIKE" "alike",
  .str "LET" "let",
  .glo "law"]
def fa : List He.Fa := fa_0 ++ (fa_1 ++ (fa_2 ++ (fa_3 ++ (fa_4 ++ (fa_5)))))
def fx_0 : List (PySem.W.Frag → Bool) := [fun K => supNB K (cdA K ("Counter", some "__init__")) (ccA K ("Counter", some "__init__")) (He.ga K "Counter") supFile,
  fun K => supNB K (cdA K ("Machine", some "__init__")) (ccA K ("Machine", some "__init__")) (He.ga K "Machine") supFile,
  fun K => supCB K (He.ga K "Machine") (He.ga K "Counter") (He.ma K (He.ga K "Plan") "__init__"),
  fun K => PySem.W.fnIn K (He.ma K (He.ga K "Plan") "__init__"),
  fun K => decide (PySem.W.typeIn K (.ref (He.ma K (He.ga K "Plan") "__init__")) = some (.type "function")),
  fun K => supCB K (He.ga K "Machine") (He.ga K "Machine") (He.ma K (He.ga K "Counter") "__init__"),
  fun K => PySem.W.fnIn K (He.ma K (He.ga K "Counter") "__init__"),
  fun K => decide (PySem.W.typeIn K (.ref (He.ma K (He.ga K "Counter") "__init__")) = some (.type "function")),
  fun K => PySem.W.makesIn K (He.ga K "Nothing"),
  fun K => He.eqO (PySem.W.findIn K (.ref (He.ga K "Nothing")) "__init__") (some (some (.builtin "object.__init__"))),
  fun K => clsB K (He.ga K "Nothing") "Nothing",
  fun K => iscB K (He.ga K "Nothing"),
  fun K => gnB K,
  fun K => clsB K (He.ga K "Number") "Number",
  fun K => iscB K (He.ga K "Number"),
  fun K => clsB K (He.ga K "Bits") "Bits",
  fun K => iscB K (He.ga K "Bits"),
  fun K => clsB K (He.ga K "Call") "Call",
  fun K => iscB K (He.ga K "Call"),
  fun K => clsB K (He.ga K "Items") "Items"]
def fx_1 : List (PySem.W.Frag → Bool) := [fun K => iscB K (He.ga K "Items"),
  fun K => clsB K (He.ga K "Way") "Way",
  fun K => iscB K (He.ga K "Way"),
  fun K => clsB K (He.ga K "Door") "Door",
  fun K => iscB K (He.ga K "Door"),
  fun K => clsB K (He.ga K "Choice") "Choice",
  fun K => iscB K (He.ga K "Choice"),
  fun K => clsB K (He.ga K "Part") "Part",
  fun K => iscB K (He.ga K "Part"),
  fun K => clsB K (He.ga K "Room") "Room",
  fun K => iscB K (He.ga K "Room"),
  fun K => clsB K (He.ga K "Row") "Row",
  fun K => iscB K (He.ga K "Row"),
  fun K => oexB K (He.ga K "BadKind") [He.ga K "RoomError"],
  fun K => He.eqO (PySem.W.findIn K (.ref (He.ga K "BadKind")) "__init__") (some (some (.ref (He.ma K (He.ga K "BadKind") "__init__")))),
  fun K => decide (PySem.W.typeIn K (.ref (He.ma K (He.ga K "BadKind") "__init__")) = some (.type "function"))]
def fx : List (PySem.W.Frag → Bool) := fx_0 ++ (fx_1)
def tf : List He.Defn := []
def names_0 : List PySem.Str := ["_wall",
  "RoomError",
  "BadKind",
  "BadEdition",
  "MissingKind",
  "RingOfCalls",
  "LongBody",
  "RoomTaken",
  "LETTERS",
  "is_integer",
  "is_bits",
  "is_name",
  "is_word",
  "begins",
  "Nothing",
  "is_width",
  "Number",
  "Bits",
  "Call",
  "Items",
  "is_simple",
  "check_inner",
  "Way",
  "Door",
  "are_ways",
  "Choice",
  "Part",
  "Room",
  "are_parts",
  "Row"]
def names_1 : List PySem.Str := ["number_form",
  "Plan",
  "ALIKE",
  "LET",
  "resolved",
  "wide_form",
  "are_numbers_alike",
  "are_leaves_alike",
  "are_named_alike",
  "Needs",
  "way_pairs",
  "beginning",
  "part_pairs",
  "table",
  "is_triple",
  "are_kept",
  "check_table",
  "inner_kinds",
  "called",
  "reached",
  "missing_name",
  "ring_name",
  "call_order",
  "number_lengths",
  "Lengths",
  "long_body",
  "single",
  "shifted",
  "plus",
  "times"]
def names_2 : List PySem.Str := ["rounds",
  "Counter",
  "Machine",
  "within",
  "are_kinds",
  "check_parts",
  "is_taken",
  "last_taken",
  "check_rooms",
  "Edition",
  "_law_start",
  "_law_pull",
  "_law_big",
  "_law_word",
  "_law_names",
  "_law_kind",
  "_law_inner",
  "_law_edition",
  "_law_short",
  "_law_code",
  "_law_number_bits",
  "_law_number",
  "_law_bent_number",
  "_law_leaf",
  "_law_bent_leaf",
  "_law_called",
  "_law_numbers_alike",
  "_law_alike"]
def names : List PySem.Str := names_0 ++ (names_1 ++ (names_2))
def ads : List Addr := mainGlobals :: [0, 1, 2, 3, 4, 5, 6, 7, 8, 9, 10, 11, 12, 13, 14, 15, 16, 17, 18, 19, 20, 21, 22, 23, 24, 25, 26, 27, 28, 29, 30, 31, 47, 48, 50, 51, 69, 70, 88, 89, 107, 108, 126, 127, 145, 146, 154, 155, 161, 162, 168, 169, 175, 176, 182, 183, 199, 200, 210, 211, 219, 225, 226, 235, 236, 253, 254, 263, 264, 281, 282, 291, 292, 304, 310, 311, 320, 321, 331, 332, 338, 339, 352, 353, 362, 363, 380, 381, 390, 391, 401, 402, 415, 416, 425, 426, 443, 444, 453, 454, 471, 472, 481, 482, 492, 493, 506, 507, 516, 517, 527, 528, 536, 542, 543, 611, 612, 622, 623, 629, 630, 636, 637, 643, 644, 650, 651, 664, 665, 671, 672, 678, 679, 685, 686, 695, 696, 721, 722, 728, 729, 735, 736, 740, 741, 745, 746, 752, 753, 759, 760, 764, 765, 771, 772, 776, 777, 783, 784, 797, 798, 802, 803, 807, 808, 814, 815, 819, 820, 824, 825, 831, 832, 838, 839, 841, 842, 850, 851, 888, 893, 900, 901, 1000, 1001, 1007, 1012, 1019, 1020, 1146, 1147, 1162, 1163, 1169, 1170, 1176, 1177, 1183, 1184, 1188, 1189, 1200, 1201, 1216, 1217, 1227, 1228, 1234, 1235, 1241, 1242, 1246, 1247, 1251, 1252, 1256, 1257, 1270, 1271, 1277, 1278, 1282, 1283, 1289, 1290, 1296, 1297, 1303, 1304, 1310, 1311, 1317, 1318, 1324, 1325, 1331, 1332, 1338, 1339, 1345, 1346]
def fc : List CloD := [dc_Counter___init__, dc_Machine___init__]
abbrev hk : PySem.W.Hook := hookP ads fa fn fc fp tf fx
def ob (s : PySem.W.SharedT) : AlP := obsP ads fa fn fc fp tf fx (HandSHeadRun.getT s)
theorem ob_eq (s : PySem.W.SharedT) : ob s = hk.obs s.abs := obsP_eq (HandSHeadRun.getT_eq s)
def obB (s : PySem.W.SharedT) : AlP := obsP ads fa [] [] [] tf fx (HandSHeadRun.getT s)
def obC (s : PySem.W.SharedT) : AlP := obsP ads [] fn fc fp [] [] (HandSHeadRun.getT s)
theorem runA (w : World) : RunA (PySem.W.OpenLaw.row PySem.Challenge.rw_roomleft_k73_simple_roots_and_their_tabl) (PySem.W.view (PySem.W.OpenLaw.row PySem.Challenge.rw_roomleft_k73_simple_roots_and_their_tabl).prog [98]) 20000 names w := by
  intro os
  kernel_rfl
theorem runB (w : World) : RunO (PySem.W.OpenLaw.row PySem.Challenge.rw_roomleft_k73_simple_roots_and_their_tabl) 20000 w obB (((He.valD [], true), ([], true)), ([], true)) := by
  intro os
  kernel_rfl
theorem runC (w : World) : RunO (PySem.W.OpenLaw.row PySem.Challenge.rw_roomleft_k73_simple_roots_and_their_tabl) 20000 w obC (((He.valD fn, true), (fc.map CloD.val, true)), (fp.map He5.DefA.val, true)) := by
  intro os
  kernel_rfl
theorem run (w : World) : HandSHeadRun.RunEq (PySem.W.OpenLaw.row PySem.Challenge.rw_roomleft_k73_simple_roots_and_their_tabl) (PySem.W.view (PySem.W.OpenLaw.row PySem.Challenge.rw_roomleft_k73_simple_roots_and_their_tabl).prog [98]) hk ob 20000 names w := run_join (runA w) (runB w) (runC w) fun s b c => obsP_join b c
structure Ad where
  f_BadKind___init__ : Addr
  d_BadKind___init__ : FuncData
  f_is_integer : Addr
  d_is_integer : FuncData
  f_is_bits : Addr
  d_is_bits : FuncData
  f_is_name : Addr
  d_is_name : FuncData
  f_is_word : Addr
  d_is_word : FuncData
  f_begins : Addr
  d_begins : FuncData
  f_is_width : Addr
  d_is_width : FuncData
  f_Number___init__ : Addr
  d_Number___init__ : FuncData
  f_Bits___init__ : Addr
  d_Bits___init__ : FuncData
  f_Call___init__ : Addr
  d_Call___init__ : FuncData
  f_Items___init__ : Addr
  d_Items___init__ : FuncData
  f_is_simple : Addr
  d_is_simple : FuncData
  f_check_inner : Addr
  d_check_inner : FuncData
  f_Way___init__ : Addr
  d_Way___init__ : FuncData
  f_Door___init__ : Addr
  d_Door___init__ : FuncData
  f_are_ways : Addr
  d_are_ways : FuncData
  f_Choice___init__ : Addr
  d_Choice___init__ : FuncData
  f_Part___init__ : Addr
  d_Part___init__ : FuncData
  f_Room___init__ : Addr
  d_Room___init__ : FuncData
  f_are_parts : Addr
  d_are_parts : FuncData
  f_Row___init__ : Addr
  d_Row___init__ : FuncData
  f_number_form : Addr
  d_number_form : FuncData
  f_Plan___init__ : Addr
  d_Plan___init__ : FuncData
  f_resolved : Addr
  d_resolved : FuncData
  f_wide_form : Addr
  d_wide_form : FuncData
  f_are_numbers_alike : Addr
  d_are_numbers_alike : FuncData
  f_are_leaves_alike : Addr
  d_are_leaves_alike : FuncData
  f_are_named_alike : Addr
  d_are_named_alike : FuncData
  f_Needs___init__ : Addr
  d_Needs___init__ : FuncData
  f_Needs_of_kinds : Addr
  d_Needs_of_kinds : FuncData
  f_Needs_of_roots : Addr
  d_Needs_of_roots : FuncData
  f_Needs_of_triple : Addr
  d_Needs_of_triple : FuncData
  f_table : Addr
  d_table : FuncData
  f_is_triple : Addr
  d_is_triple : FuncData
  f_are_kept : Addr
  d_are_kept : FuncData
  f_check_table : Addr
  d_check_table : FuncData
  f_inner_kinds : Addr
  d_inner_kinds : FuncData
  f_called : Addr
  d_called : FuncData
  f_reached : Addr
  d_reached : FuncData
  f_missing_name : Addr
  d_missing_name : FuncData
  f_ring_name : Addr
  d_ring_name : FuncData
  f_call_order : Addr
  d_call_order : FuncData
  f_number_lengths : Addr
  d_number_lengths : FuncData
  f_Lengths___init__ : Addr
  d_Lengths___init__ : FuncData
  f_Lengths_sums : Addr
  d_Lengths_sums : FuncData
  f_Lengths_of_kind : Addr
  d_Lengths_of_kind : FuncData
  f_Lengths_of_items : Addr
  d_Lengths_of_items : FuncData
  f_Lengths_of_body : Addr
  d_Lengths_of_body : FuncData
  f_Lengths_of_named : Addr
  d_Lengths_of_named : FuncData
  f_Lengths_of_row : Addr
  d_Lengths_of_row : FuncData
  f_Lengths_is_long : Addr
  d_Lengths_is_long : FuncData
  f_long_body : Addr
  d_long_body : FuncData
  f_Counter___init__ : Addr
  d_Counter___init__ : FuncData
  cd_Counter___init__ : Addr
  cc_Counter___init__ : Addr
  f_Machine___init__ : Addr
  d_Machine___init__ : FuncData
  cd_Machine___init__ : Addr
  cc_Machine___init__ : Addr
  f_are_kinds : Addr
  d_are_kinds : FuncData
  f_check_parts : Addr
  d_check_parts : FuncData
  f_is_taken : Addr
  d_is_taken : FuncData
  f_last_taken : Addr
  d_last_taken : FuncData
  f_check_rooms : Addr
  d_check_rooms : FuncData
  f_Edition___init__ : Addr
  d_Edition___init__ : FuncData
  f__law_start : Addr
  d__law_start : FuncData
  f__law_pull : Addr
  d__law_pull : FuncData
  f__law_big : Addr
  d__law_big : FuncData
  f__law_word : Addr
  d__law_word : FuncData
  f__law_names : Addr
  d__law_names : FuncData
  f__law_kind : Addr
  d__law_kind : FuncData
  f__law_edition : Addr
  d__law_edition : FuncData
  f__law_short : Addr
  d__law_short : FuncData
  f__law_code : Addr
  d__law_code : FuncData
  f__law_number_bits : Addr
  d__law_number_bits : FuncData
  f__law_number : Addr
  d__law_number : FuncData
  f__law_bent_number : Addr
  d__law_bent_number : FuncData
  f__law_leaf : Addr
  d__law_leaf : FuncData
  f__law_bent_leaf : Addr
  d__law_bent_leaf : FuncData
  f__law_called : Addr
  d__law_called : FuncData
  f__law_numbers_alike : Addr
  d__law_numbers_alike : FuncData
  f__law_alike : Addr
  d__law_alike : FuncData
  f_law : Addr
  d_law : FuncData
  c_Nothing : Addr
  c_Number : Addr
  c_Bits : Addr
  c_Call : Addr
  c_Items : Addr
  c_Way : Addr
  c_Door : Addr
  c_Choice : Addr
  c_Part : Addr
  c_Room : Addr
  c_Row : Addr
  c_Needs : Addr
  c_Lengths : Addr
  c_Counter : Addr
  c_Machine : Addr
  c_Edition : Addr
  c_BadKind : Addr

structure Txt (K : PySem.W.Frag) (mg : Str → Option Value) (A : Ad) : Prop where
  F_BadKind___init__ : Fun K "__init__" "BadKind.__init__" s_BadKind___init__ A.f_BadKind___init__ A.d_BadKind___init__
  b_BadKind___init__ : Binds K A.d_BadKind___init__ ["self", "part"] []
  F_is_integer : Fun K "is_integer" "is_integer" s_is_integer A.f_is_integer A.d_is_integer
  k_is_integer : PySem.W.keepIn K (.ref A.f_is_integer) = true
  b_is_integer : Binds K A.d_is_integer ["thing"] []
  mg_is_integer : mg "is_integer" = some (.ref A.f_is_integer)
  F_is_bits : Fun K "is_bits" "is_bits" s_is_bits A.f_is_bits A.d_is_bits
  k_is_bits : PySem.W.keepIn K (.ref A.f_is_bits) = true
  b_is_bits : Binds K A.d_is_bits ["thing"] []
  mg_is_bits : mg "is_bits" = some (.ref A.f_is_bits)
  F_is_name : Fun K "is_name" "is_name" s_is_name A.f_is_name A.d_is_name
  k_is_name : PySem.W.keepIn K (.ref A.f_is_name) = true
  b_is_name : Binds K A.d_is_name ["thing"] []
  mg_is_name : mg "is_name" = some (.ref A.f_is_name)
  F_is_word : Fun K "is_word" "is_word" s_is_word A.f_is_word A.d_is_word
  k_is_word : PySem.W.keepIn K (.ref A.f_is_word) = true
  b_is_word : Binds K A.d_is_word ["thing"] []
  mg_is_word : mg "is_word" = some (.ref A.f_is_word)
  F_begins : Fun K "begins" "begins" s_begins A.f_begins A.d_begins
  k_begins : PySem.W.keepIn K (.ref A.f_begins) = true
  b_begins : Binds K A.d_begins ["one", "other"] []
  mg_begins : mg "begins" = some (.ref A.f_begins)
  F_is_width : Fun K "is_width" "is_width" s_is_width A.f_is_width A.d_is_width
  k_is_width : PySem.W.keepIn K (.ref A.f_is_width) = true
  b_is_width : Binds K A.d_is_width ["width", "many"] []
  mg_is_width : mg "is_width" = some (.ref A.f_is_width)
  F_Number___init__ : FunD K "__init__" "Number.__init__" (defArgs s_Number___init__) (defBody s_Number___init__) (defScope s_Number___init__) [.non] [] A.f_Number___init__ A.d_Number___init__
  b_Number___init__ : Binds K A.d_Number___init__ ["self", "low", "high", "width"] []
  F_Bits___init__ : Fun K "__init__" "Bits.__init__" s_Bits___init__ A.f_Bits___init__ A.d_Bits___init__
  b_Bits___init__ : Binds K A.d_Bits___init__ ["self", "many"] []
  F_Call___init__ : Fun K "__init__" "Call.__init__" s_Call___init__ A.f_Call___init__ A.d_Call___init__
  b_Call___init__ : Binds K A.d_Call___init__ ["self", "name"] []
  F_Items___init__ : FunD K "__init__" "Items.__init__" (defArgs s_Items___init__) (defBody s_Items___init__) (defScope s_Items___init__) [.non] [] A.f_Items___init__ A.d_Items___init__
  b_Items___init__ : Binds K A.d_Items___init__ ["self", "item", "width"] []
  F_is_simple : Fun K "is_simple" "is_simple" s_is_simple A.f_is_simple A.d_is_simple
  k_is_simple : PySem.W.keepIn K (.ref A.f_is_simple) = true
  b_is_simple : Binds K A.d_is_simple ["thing"] []
  mg_is_simple : mg "is_simple" = some (.ref A.f_is_simple)
  F_check_inner : Fun K "check_inner" "check_inner" s_check_inner A.f_check_inner A.d_check_inner
  k_check_inner : PySem.W.keepIn K (.ref A.f_check_inner) = true
  b_check_inner : Binds K A.d_check_inner ["word", "name", "is_kind"] []
  mg_check_inner : mg "check_inner" = some (.ref A.f_check_inner)
  F_Way___init__ : Fun K "__init__" "Way.__init__" s_Way___init__ A.f_Way___init__ A.d_Way___init__
  F_Door___init__ : Fun K "__init__" "Door.__init__" s_Door___init__ A.f_Door___init__ A.d_Door___init__
  F_are_ways : Fun K "are_ways" "are_ways" s_are_ways A.f_are_ways A.d_are_ways
  k_are_ways : PySem.W.keepIn K (.ref A.f_are_ways) = true
  b_are_ways : Binds K A.d_are_ways ["ways"] []
  mg_are_ways : mg "are_ways" = some (.ref A.f_are_ways)
  F_Choice___init__ : Fun K "__init__" "Choice.__init__" s_Choice___init__ A.f_Choice___init__ A.d_Choice___init__
  F_Part___init__ : Fun K "__init__" "Part.__init__" s_Part___init__ A.f_Part___init__ A.d_Part___init__
  F_Room___init__ : Fun K "__init__" "Room.__init__" s_Room___init__ A.f_Room___init__ A.d_Room___init__
  F_are_parts : Fun K "are_parts" "are_parts" s_are_parts A.f_are_parts A.d_are_parts
  k_are_parts : PySem.W.keepIn K (.ref A.f_are_parts) = true
  b_are_parts : Binds K A.d_are_parts ["parts"] []
  mg_are_parts : mg "are_parts" = some (.ref A.f_are_parts)
  F_Row___init__ : Fun K "__init__" "Row.__init__" s_Row___init__ A.f_Row___init__ A.d_Row___init__
  F_number_form : Fun K "number_form" "number_form" s_number_form A.f_number_form A.d_number_form
  k_number_form : PySem.W.keepIn K (.ref A.f_number_form) = true
  b_number_form : Binds K A.d_number_form ["kind"] []
  mg_number_form : mg "number_form" = some (.ref A.f_number_form)
  F_Plan___init__ : FunD K "__init__" "Plan.__init__" (defArgs s_Plan___init__) (defBody s_Plan___init__) (defScope s_Plan___init__) [.bl false] [] A.f_Plan___init__ A.d_Plan___init__
  b_Plan___init__ : Binds K A.d_Plan___init__ ["self", "named", "count", "own"] []
  F_resolved : Fun K "resolved" "resolved" s_resolved A.f_resolved A.d_resolved
  k_resolved : PySem.W.keepIn K (.ref A.f_resolved) = true
  b_resolved : Binds K A.d_resolved ["edition", "kind"] []
  mg_resolved : mg "resolved" = some (.ref A.f_resolved)
  F_wide_form : Fun K "wide_form" "wide_form" s_wide_form A.f_wide_form A.d_wide_form
  k_wide_form : PySem.W.keepIn K (.ref A.f_wide_form) = true
  b_wide_form : Binds K A.d_wide_form ["kind"] []
  mg_wide_form : mg "wide_form" = some (.ref A.f_wide_form)
  F_are_numbers_alike : Fun K "are_numbers_alike" "are_numbers_alike" s_are_numbers_alike A.f_are_numbers_alike A.d_are_numbers_alike
  k_are_numbers_alike : PySem.W.keepIn K (.ref A.f_are_numbers_alike) = true
  b_are_numbers_alike : Binds K A.d_are_numbers_alike ["one", "other"] []
  mg_are_numbers_alike : mg "are_numbers_alike" = some (.ref A.f_are_numbers_alike)
  F_are_leaves_alike : Fun K "are_leaves_alike" "are_leaves_alike" s_are_leaves_alike A.f_are_leaves_alike A.d_are_leaves_alike
  k_are_leaves_alike : PySem.W.keepIn K (.ref A.f_are_leaves_alike) = true
  b_are_leaves_alike : Binds K A.d_are_leaves_alike ["one", "other"] []
  mg_are_leaves_alike : mg "are_leaves_alike" = some (.ref A.f_are_leaves_alike)
  F_are_named_alike : Fun K "are_named_alike" "are_named_alike" s_are_named_alike A.f_are_named_alike A.d_are_named_alike
  k_are_named_alike : PySem.W.keepIn K (.ref A.f_are_named_alike) = true
  b_are_named_alike : Binds K A.d_are_named_alike ["one", "other"] []
  mg_are_named_alike : mg "are_named_alike" = some (.ref A.f_are_named_alike)
  F_Needs___init__ : Fun K "__init__" "Needs.__init__" s_Needs___init__ A.f_Needs___init__ A.d_Needs___init__
  b_Needs___init__ : Binds K A.d_Needs___init__ ["self", "writer", "reader"] []
  F_Needs_of_kinds : Fun K "of_kinds" "Needs.of_kinds" s_Needs_of_kinds A.f_Needs_of_kinds A.d_Needs_of_kinds
  k_Needs_of_kinds : PySem.W.keepIn K (.ref A.f_Needs_of_kinds) = true
  b_Needs_of_kinds : Binds K A.d_Needs_of_kinds ["self", "one", "other", "word"] []
  m_Needs_of_kinds : PySem.W.findIn K (.ref A.c_Needs) "of_kinds" = some (some (.ref A.f_Needs_of_kinds))
  i_Needs_of_kinds : PySem.W.isFn K (.ref A.f_Needs_of_kinds) = true
  F_Needs_of_roots : Fun K "of_roots" "Needs.of_roots" s_Needs_of_roots A.f_Needs_of_roots A.d_Needs_of_roots
  k_Needs_of_roots : PySem.W.keepIn K (.ref A.f_Needs_of_roots) = true
  b_Needs_of_roots : Binds K A.d_Needs_of_roots ["self"] []
  m_Needs_of_roots : PySem.W.findIn K (.ref A.c_Needs) "of_roots" = some (some (.ref A.f_Needs_of_roots))
  i_Needs_of_roots : PySem.W.isFn K (.ref A.f_Needs_of_roots) = true
  F_Needs_of_triple : Fun K "of_triple" "Needs.of_triple" s_Needs_of_triple A.f_Needs_of_triple A.d_Needs_of_triple
  k_Needs_of_triple : PySem.W.keepIn K (.ref A.f_Needs_of_triple) = true
  b_Needs_of_triple : Binds K A.d_Needs_of_triple ["self", "triple"] []
  m_Needs_of_triple : PySem.W.findIn K (.ref A.c_Needs) "of_triple" = some (some (.ref A.f_Needs_of_triple))
  i_Needs_of_triple : PySem.W.isFn K (.ref A.f_Needs_of_triple) = true
  F_table : Fun K "table" "table" s_table A.f_table A.d_table
  k_table : PySem.W.keepIn K (.ref A.f_table) = true
  b_table : Binds K A.d_table ["writer", "reader"] []
  mg_table : mg "table" = some (.ref A.f_table)
  F_is_triple : Fun K "is_triple" "is_triple" s_is_triple A.f_is_triple A.d_is_triple
  k_is_triple : PySem.W.keepIn K (.ref A.f_is_triple) = true
  b_is_triple : Binds K A.d_is_triple ["writer", "reader", "thing"] []
  mg_is_triple : mg "is_triple" = some (.ref A.f_is_triple)
  F_are_kept : Fun K "are_kept" "are_kept" s_are_kept A.f_are_kept A.d_are_kept
  k_are_kept : PySem.W.keepIn K (.ref A.f_are_kept) = true
  b_are_kept : Binds K A.d_are_kept ["needed", "held"] []
  mg_are_kept : mg "are_kept" = some (.ref A.f_are_kept)
  F_check_table : Fun K "check_table" "check_table" s_check_table A.f_check_table A.d_check_table
  k_check_table : PySem.W.keepIn K (.ref A.f_check_table) = true
  b_check_table : Binds K A.d_check_table ["writer", "reader", "thing"] []
  mg_check_table : mg "check_table" = some (.ref A.f_check_table)
  F_inner_kinds : Fun K "inner_kinds" "inner_kinds" s_inner_kinds A.f_inner_kinds A.d_inner_kinds
  k_inner_kinds : PySem.W.keepIn K (.ref A.f_inner_kinds) = true
  b_inner_kinds : Binds K A.d_inner_kinds ["kind"] []
  mg_inner_kinds : mg "inner_kinds" = some (.ref A.f_inner_kinds)
  F_called : Fun K "called" "called" s_called A.f_called A.d_called
  k_called : PySem.W.keepIn K (.ref A.f_called) = true
  b_called : Binds K A.d_called ["kind"] []
  mg_called : mg "called" = some (.ref A.f_called)
  F_reached : Fun K "reached" "reached" s_reached A.f_reached A.d_reached
  k_reached : PySem.W.keepIn K (.ref A.f_reached) = true
  b_reached : Binds K A.d_reached ["table", "name"] []
  mg_reached : mg "reached" = some (.ref A.f_reached)
  F_missing_name : Fun K "missing_name" "missing_name" s_missing_name A.f_missing_name A.d_missing_name
  k_missing_name : PySem.W.keepIn K (.ref A.f_missing_name) = true
  b_missing_name : Binds K A.d_missing_name ["table"] []
  mg_missing_name : mg "missing_name" = some (.ref A.f_missing_name)
  F_ring_name : Fun K "ring_name" "ring_name" s_ring_name A.f_ring_name A.d_ring_name
  k_ring_name : PySem.W.keepIn K (.ref A.f_ring_name) = true
  b_ring_name : Binds K A.d_ring_name ["table"] []
  mg_ring_name : mg "ring_name" = some (.ref A.f_ring_name)
  F_call_order : Fun K "call_order" "call_order" s_call_order A.f_call_order A.d_call_order
  k_call_order : PySem.W.keepIn K (.ref A.f_call_order) = true
  b_call_order : Binds K A.d_call_order ["table"] []
  mg_call_order : mg "call_order" = some (.ref A.f_call_order)
  F_number_lengths : Fun K "number_lengths" "number_lengths" s_number_lengths A.f_number_lengths A.d_number_lengths
  k_number_lengths : PySem.W.keepIn K (.ref A.f_number_lengths) = true
  b_number_lengths : Binds K A.d_number_lengths ["kind"] []
  mg_number_lengths : mg "number_lengths" = some (.ref A.f_number_lengths)
  F_Lengths___init__ : Fun K "__init__" "Lengths.__init__" s_Lengths___init__ A.f_Lengths___init__ A.d_Lengths___init__
  b_Lengths___init__ : Binds K A.d_Lengths___init__ ["self", "table", "count"] []
  F_Lengths_sums : Fun K "sums" "Lengths.sums" s_Lengths_sums A.f_Lengths_sums A.d_Lengths_sums
  k_Lengths_sums : PySem.W.keepIn K (.ref A.f_Lengths_sums) = true
  b_Lengths_sums : Binds K A.d_Lengths_sums ["self", "ones", "others"] []
  m_Lengths_sums : PySem.W.findIn K (.ref A.c_Lengths) "sums" = some (some (.ref A.f_Lengths_sums))
  i_Lengths_sums : PySem.W.isFn K (.ref A.f_Lengths_sums) = true
  F_Lengths_of_kind : Fun K "of_kind" "Lengths.of_kind" s_Lengths_of_kind A.f_Lengths_of_kind A.d_Lengths_of_kind
  k_Lengths_of_kind : PySem.W.keepIn K (.ref A.f_Lengths_of_kind) = true
  b_Lengths_of_kind : Binds K A.d_Lengths_of_kind ["self", "kind"] []
  m_Lengths_of_kind : PySem.W.findIn K (.ref A.c_Lengths) "of_kind" = some (some (.ref A.f_Lengths_of_kind))
  i_Lengths_of_kind : PySem.W.isFn K (.ref A.f_Lengths_of_kind) = true
  F_Lengths_of_items : Fun K "of_items" "Lengths.of_items" s_Lengths_of_items A.f_Lengths_of_items A.d_Lengths_of_items
  k_Lengths_of_items : PySem.W.keepIn K (.ref A.f_Lengths_of_items) = true
  b_Lengths_of_items : Binds K A.d_Lengths_of_items ["self", "kind"] []
  m_Lengths_of_items : PySem.W.findIn K (.ref A.c_Lengths) "of_items" = some (some (.ref A.f_Lengths_of_items))
  i_Lengths_of_items : PySem.W.isFn K (.ref A.f_Lengths_of_items) = true
  F_Lengths_of_body : Fun K "of_body" "Lengths.of_body" s_Lengths_of_body A.f_Lengths_of_body A.d_Lengths_of_body
  k_Lengths_of_body : PySem.W.keepIn K (.ref A.f_Lengths_of_body) = true
  b_Lengths_of_body : Binds K A.d_Lengths_of_body ["self", "word", "kind"] []
  m_Lengths_of_body : PySem.W.findIn K (.ref A.c_Lengths) "of_body" = some (some (.ref A.f_Lengths_of_body))
  i_Lengths_of_body : PySem.W.isFn K (.ref A.f_Lengths_of_body) = true
  F_Lengths_of_named : Fun K "of_named" "Lengths.of_named" s_Lengths_of_named A.f_Lengths_of_named A.d_Lengths_of_named
  k_Lengths_of_named : PySem.W.keepIn K (.ref A.f_Lengths_of_named) = true
  b_Lengths_of_named : Binds K A.d_Lengths_of_named ["self", "kind"] []
  m_Lengths_of_named : PySem.W.findIn K (.ref A.c_Lengths) "of_named" = some (some (.ref A.f_Lengths_of_named))
  i_Lengths_of_named : PySem.W.isFn K (.ref A.f_Lengths_of_named) = true
  F_Lengths_of_row : Fun K "of_row" "Lengths.of_row" s_Lengths_of_row A.f_Lengths_of_row A.d_Lengths_of_row
  k_Lengths_of_row : PySem.W.keepIn K (.ref A.f_Lengths_of_row) = true
  b_Lengths_of_row : Binds K A.d_Lengths_of_row ["self", "kind"] []
  m_Lengths_of_row : PySem.W.findIn K (.ref A.c_Lengths) "of_row" = some (some (.ref A.f_Lengths_of_row))
  i_Lengths_of_row : PySem.W.isFn K (.ref A.f_Lengths_of_row) = true
  F_Lengths_is_long : Fun K "is_long" "Lengths.is_long" s_Lengths_is_long A.f_Lengths_is_long A.d_Lengths_is_long
  k_Lengths_is_long : PySem.W.keepIn K (.ref A.f_Lengths_is_long) = true
  b_Lengths_is_long : Binds K A.d_Lengths_is_long ["self", "kind"] []
  m_Lengths_is_long : PySem.W.findIn K (.ref A.c_Lengths) "is_long" = some (some (.ref A.f_Lengths_is_long))
  i_Lengths_is_long : PySem.W.isFn K (.ref A.f_Lengths_is_long) = true
  F_long_body : Fun K "long_body" "long_body" s_long_body A.f_long_body A.d_long_body
  k_long_body : PySem.W.keepIn K (.ref A.f_long_body) = true
  b_long_body : Binds K A.d_long_body ["table", "count"] []
  mg_long_body : mg "long_body" = some (.ref A.f_long_body)
  F_Counter___init__ : SupD K "__init__" "Counter.__init__" (defArgs s_Counter___init__) (defBody s_Counter___init__) (defScope s_Counter___init__) [.bl false] A.f_Counter___init__ A.d_Counter___init__ A.cd_Counter___init__ A.cc_Counter___init__
  sn_Counter___init__ : SupN K A.cd_Counter___init__ A.cc_Counter___init__ A.c_Counter supFile
  su_Counter___init___Machine : SupC K A.c_Machine A.c_Counter A.f_Plan___init__
  sf_Counter___init__ : PySem.W.fnIn K A.f_Plan___init__ = true
  st_Counter___init__ : PySem.W.typeIn K (.ref A.f_Plan___init__) = some (.type "function")
  b_Counter___init__ : Binds K A.d_Counter___init__ ["self", "named", "count", "own"] []
  F_Machine___init__ : SupD K "__init__" "Machine.__init__" (defArgs s_Machine___init__) (defBody s_Machine___init__) (defScope s_Machine___init__) [.bl false] A.f_Machine___init__ A.d_Machine___init__ A.cd_Machine___init__ A.cc_Machine___init__
  sn_Machine___init__ : SupN K A.cd_Machine___init__ A.cc_Machine___init__ A.c_Machine supFile
  b1_Machine___init__ : Binds K A.d_Machine___init__ ["self", "named", "count", "own"] [Value.bool false]
  su_Machine___init___Machine : SupC K A.c_Machine A.c_Machine A.f_Counter___init__
  sf_Machine___init__ : PySem.W.fnIn K A.f_Counter___init__ = true
  st_Machine___init__ : PySem.W.typeIn K (.ref A.f_Counter___init__) = some (.type "function")
  F_are_kinds : Fun K "are_kinds" "are_kinds" s_are_kinds A.f_are_kinds A.d_are_kinds
  k_are_kinds : PySem.W.keepIn K (.ref A.f_are_kinds) = true
  b_are_kinds : Binds K A.d_are_kinds ["kinds"] []
  mg_are_kinds : mg "are_kinds" = some (.ref A.f_are_kinds)
  F_check_parts : Fun K "check_parts" "check_parts" s_check_parts A.f_check_parts A.d_check_parts
  k_check_parts : PySem.W.keepIn K (.ref A.f_check_parts) = true
  b_check_parts : Binds K A.d_check_parts ["kinds", "root", "count"] []
  mg_check_parts : mg "check_parts" = some (.ref A.f_check_parts)
  k_is_taken : PySem.W.keepIn K (.ref A.f_is_taken) = true
  b_is_taken : Binds K A.d_is_taken ["machine", "name", "index"] []
  mg_is_taken : mg "is_taken" = some (.ref A.f_is_taken)
  F_last_taken : Fun K "last_taken" "last_taken" s_last_taken A.f_last_taken A.d_last_taken
  k_last_taken : PySem.W.keepIn K (.ref A.f_last_taken) = true
  b_last_taken : Binds K A.d_last_taken ["machine", "name"] []
  mg_last_taken : mg "last_taken" = some (.ref A.f_last_taken)
  F_check_rooms : Fun K "check_rooms" "check_rooms" s_check_rooms A.f_check_rooms A.d_check_rooms
  k_check_rooms : PySem.W.keepIn K (.ref A.f_check_rooms) = true
  b_check_rooms : Binds K A.d_check_rooms ["machine"] []
  mg_check_rooms : mg "check_rooms" = some (.ref A.f_check_rooms)
  F_Edition___init__ : Fun K "__init__" "Edition.__init__" s_Edition___init__ A.f_Edition___init__ A.d_Edition___init__
  b_Edition___init__ : Binds K A.d_Edition___init__ ["self", "kinds", "root", "count"] []
  F__law_start : Fun K "_law_start" "_law_start" s__law_start A.f__law_start A.d__law_start
  k__law_start : PySem.W.keepIn K (.ref A.f__law_start) = true
  b__law_start : Binds K A.d__law_start ["script"] []
  mg__law_start : mg "_law_start" = some (.ref A.f__law_start)
  F__law_pull : Fun K "_law_pull" "_law_pull" s__law_pull A.f__law_pull A.d__law_pull
  k__law_pull : PySem.W.keepIn K (.ref A.f__law_pull) = true
  b__law_pull : Binds K A.d__law_pull ["state", "many"] []
  mg__law_pull : mg "_law_pull" = some (.ref A.f__law_pull)
  F__law_big : Fun K "_law_big" "_law_big" s__law_big A.f__law_big A.d__law_big
  k__law_big : PySem.W.keepIn K (.ref A.f__law_big) = true
  b__law_big : Binds K A.d__law_big ["state", "many"] []
  mg__law_big : mg "_law_big" = some (.ref A.f__law_big)
  F__law_word : Fun K "_law_word" "_law_word" s__law_word A.f__law_word A.d__law_word
  k__law_word : PySem.W.keepIn K (.ref A.f__law_word) = true
  b__law_word : Binds K A.d__law_word ["state", "size"] []
  mg__law_word : mg "_law_word" = some (.ref A.f__law_word)
  F__law_names : Fun K "_law_names" "_law_names" s__law_names A.f__law_names A.d__law_names
  k__law_names : PySem.W.keepIn K (.ref A.f__law_names) = true
  b__law_names : Binds K A.d__law_names ["state", "many"] []
  mg__law_names : mg "_law_names" = some (.ref A.f__law_names)
  F__law_kind : Fun K "_law_kind" "_law_kind" s__law_kind A.f__law_kind A.d__law_kind
  k__law_kind : PySem.W.keepIn K (.ref A.f__law_kind) = true
  b__law_kind : Binds K A.d__law_kind ["told"] []
  mg__law_kind : mg "_law_kind" = some (.ref A.f__law_kind)
  F__law_edition : Fun K "_law_edition" "_law_edition" s__law_edition A.f__law_edition A.d__law_edition
  k__law_edition : PySem.W.keepIn K (.ref A.f__law_edition) = true
  b__law_edition : Binds K A.d__law_edition ["spec"] []
  mg__law_edition : mg "_law_edition" = some (.ref A.f__law_edition)
  F__law_short : Fun K "_law_short" "_law_short" s__law_short A.f__law_short A.d__law_short
  k__law_short : PySem.W.keepIn K (.ref A.f__law_short) = true
  b__law_short : Binds K A.d__law_short ["kind"] []
  mg__law_short : mg "_law_short" = some (.ref A.f__law_short)
  F__law_code : Fun K "_law_code" "_law_code" s__law_code A.f__law_code A.d__law_code
  k__law_code : PySem.W.keepIn K (.ref A.f__law_code) = true
  b__law_code : Binds K A.d__law_code ["number", "size"] []
  mg__law_code : mg "_law_code" = some (.ref A.f__law_code)
  F__law_number_bits : Fun K "_law_number_bits" "_law_number_bits" s__law_number_bits A.f__law_number_bits A.d__law_number_bits
  k__law_number_bits : PySem.W.keepIn K (.ref A.f__law_number_bits) = true
  b__law_number_bits : Binds K A.d__law_number_bits ["kind", "value"] []
  mg__law_number_bits : mg "_law_number_bits" = some (.ref A.f__law_number_bits)
  F__law_number : Fun K "_law_number" "_law_number" s__law_number A.f__law_number A.d__law_number
  k__law_number : PySem.W.keepIn K (.ref A.f__law_number) = true
  b__law_number : Binds K A.d__law_number ["state"] []
  mg__law_number : mg "_law_number" = some (.ref A.f__law_number)
  F__law_bent_number : Fun K "_law_bent_number" "_law_bent_number" s__law_bent_number A.f__law_bent_number A.d__law_bent_number
  k__law_bent_number : PySem.W.keepIn K (.ref A.f__law_bent_number) = true
  b__law_bent_number : Binds K A.d__law_bent_number ["state", "kind"] []
  mg__law_bent_number : mg "_law_bent_number" = some (.ref A.f__law_bent_number)
  F__law_leaf : Fun K "_law_leaf" "_law_leaf" s__law_leaf A.f__law_leaf A.d__law_leaf
  k__law_leaf : PySem.W.keepIn K (.ref A.f__law_leaf) = true
  b__law_leaf : Binds K A.d__law_leaf ["state"] []
  mg__law_leaf : mg "_law_leaf" = some (.ref A.f__law_leaf)
  F__law_bent_leaf : Fun K "_law_bent_leaf" "_law_bent_leaf" s__law_bent_leaf A.f__law_bent_leaf A.d__law_bent_leaf
  k__law_bent_leaf : PySem.W.keepIn K (.ref A.f__law_bent_leaf) = true
  b__law_bent_leaf : Binds K A.d__law_bent_leaf ["state", "kind"] []
  mg__law_bent_leaf : mg "_law_bent_leaf" = some (.ref A.f__law_bent_leaf)
  F__law_called : Fun K "_law_called" "_law_called" s__law_called A.f__law_called A.d__law_called
  k__law_called : PySem.W.keepIn K (.ref A.f__law_called) = true
  b__law_called : Binds K A.d__law_called ["state", "kind"] []
  mg__law_called : mg "_law_called" = some (.ref A.f__law_called)
  F__law_numbers_alike : Fun K "_law_numbers_alike" "_law_numbers_alike" s__law_numbers_alike A.f__law_numbers_alike A.d__law_numbers_alike
  k__law_numbers_alike : PySem.W.keepIn K (.ref A.f__law_numbers_alike) = true
  b__law_numbers_alike : Binds K A.d__law_numbers_alike ["one", "other"] []
  mg__law_numbers_alike : mg "_law_numbers_alike" = some (.ref A.f__law_numbers_alike)
  F__law_alike : Fun K "_law_alike" "_law_alike" s__law_alike A.f__law_alike A.d__law_alike
  k__law_alike : PySem.W.keepIn K (.ref A.f__law_alike) = true
  b__law_alike : Binds K A.d__law_alike ["one", "other"] []
  mg__law_alike : mg "_law_alike" = some (.ref A.f__law_alike)
  F_law : Fun K "law" "law" s_law A.f_law A.d_law
  k_law : PySem.W.keepIn K (.ref A.f_law) = true
  b_law : Binds K A.d_law ["script"] []
  mg_Nothing : mg "Nothing" = some (.ref A.c_Nothing)
  mo_Nothing : PySem.W.makesIn K A.c_Nothing = true
  io_Nothing : PySem.W.findIn K (.ref A.c_Nothing) "__init__" = some (some (.builtin "object.__init__"))
  kc_Nothing : PySem.W.keepIn K (.ref A.c_Nothing) = true
  o_Nothing : ClsO K A.c_Nothing "Nothing"
  isc_Nothing : C8.InsC K A.c_Nothing
  mg_Number : mg "Number" = some (.ref A.c_Number)
  cl_Number : Cls K A.c_Number
  mk_Number : Mk K A.c_Number A.f_Number___init__
  o_Number : ClsO K A.c_Number "Number"
  n_Number_low : NoAttr K A.c_Number "low"
  n_Number_high : NoAttr K A.c_Number "high"
  n_Number_width : NoAttr K A.c_Number "width"
  isc_Number : C8.InsC K A.c_Number
  mg_Bits : mg "Bits" = some (.ref A.c_Bits)
  cl_Bits : Cls K A.c_Bits
  mk_Bits : Mk K A.c_Bits A.f_Bits___init__
  o_Bits : ClsO K A.c_Bits "Bits"
  n_Bits_many : NoAttr K A.c_Bits "many"
  isc_Bits : C8.InsC K A.c_Bits
  mg_Call : mg "Call" = some (.ref A.c_Call)
  cl_Call : Cls K A.c_Call
  mk_Call : Mk K A.c_Call A.f_Call___init__
  o_Call : ClsO K A.c_Call "Call"
  n_Call_name : NoAttr K A.c_Call "name"
  isc_Call : C8.InsC K A.c_Call
  mg_Items : mg "Items" = some (.ref A.c_Items)
  cl_Items : Cls K A.c_Items
  mk_Items : Mk K A.c_Items A.f_Items___init__
  o_Items : ClsO K A.c_Items "Items"
  n_Items_item : NoAttr K A.c_Items "item"
  n_Items_width : NoAttr K A.c_Items "width"
  isc_Items : C8.InsC K A.c_Items
  mg_Way : mg "Way" = some (.ref A.c_Way)
  cl_Way : Cls K A.c_Way
  o_Way : ClsO K A.c_Way "Way"
  n_Way_word : NoAttr K A.c_Way "word"
  n_Way_name : NoAttr K A.c_Way "name"
  n_Way_kind : NoAttr K A.c_Way "kind"
  isc_Way : C8.InsC K A.c_Way
  mg_Door : mg "Door" = some (.ref A.c_Door)
  cl_Door : Cls K A.c_Door
  o_Door : ClsO K A.c_Door "Door"
  n_Door_word : NoAttr K A.c_Door "word"
  n_Door_name : NoAttr K A.c_Door "name"
  n_Door_kind : NoAttr K A.c_Door "kind"
  isc_Door : C8.InsC K A.c_Door
  mg_Choice : mg "Choice" = some (.ref A.c_Choice)
  cl_Choice : Cls K A.c_Choice
  o_Choice : ClsO K A.c_Choice "Choice"
  n_Choice_ways : NoAttr K A.c_Choice "ways"
  isc_Choice : C8.InsC K A.c_Choice
  mg_Part : mg "Part" = some (.ref A.c_Part)
  cl_Part : Cls K A.c_Part
  o_Part : ClsO K A.c_Part "Part"
  n_Part_name : NoAttr K A.c_Part "name"
  n_Part_kind : NoAttr K A.c_Part "kind"
  isc_Part : C8.InsC K A.c_Part
  mg_Room : mg "Room" = some (.ref A.c_Room)
  cl_Room : Cls K A.c_Room
  o_Room : ClsO K A.c_Room "Room"
  n_Room_word : NoAttr K A.c_Room "word"
  n_Room_name : NoAttr K A.c_Room "name"
  n_Room_kind : NoAttr K A.c_Room "kind"
  isc_Room : C8.InsC K A.c_Room
  mg_Row : mg "Row" = some (.ref A.c_Row)
  cl_Row : Cls K A.c_Row
  o_Row : ClsO K A.c_Row "Row"
  n_Row_parts : NoAttr K A.c_Row "parts"
  isc_Row : C8.InsC K A.c_Row
  mg_Needs : mg "Needs" = some (.ref A.c_Needs)
  cl_Needs : Cls K A.c_Needs
  mk_Needs : Mk K A.c_Needs A.f_Needs___init__
  n_Needs_writer : NoAttr K A.c_Needs "writer"
  n_Needs_reader : NoAttr K A.c_Needs "reader"
  mg_Lengths : mg "Lengths" = some (.ref A.c_Lengths)
  cl_Lengths : Cls K A.c_Lengths
  mk_Lengths : Mk K A.c_Lengths A.f_Lengths___init__
  n_Lengths_count : NoAttr K A.c_Lengths "count"
  n_Lengths_top : NoAttr K A.c_Lengths "top"
  n_Lengths_known : NoAttr K A.c_Lengths "known"
  mg_Machine : mg "Machine" = some (.ref A.c_Machine)
  cl_Machine : Cls K A.c_Machine
  mk_Machine : Mk K A.c_Machine A.f_Machine___init__
  n_Machine_named : NoAttr K A.c_Machine "named"
  n_Machine_count : NoAttr K A.c_Machine "count"
  n_Machine_own : NoAttr K A.c_Machine "own"
  n_Machine_most : NoAttr K A.c_Machine "most"
  n_Machine_forms : NoAttr K A.c_Machine "forms"
  n_Machine_places : NoAttr K A.c_Machine "places"
  n_Machine_nodes : NoAttr K A.c_Machine "nodes"
  n_Machine_numbers : NoAttr K A.c_Machine "numbers"
  n_Machine_counted : NoAttr K A.c_Machine "counted"
  n_Machine_rows : NoAttr K A.c_Machine "rows"
  n_Machine_repeated : NoAttr K A.c_Machine "repeated"
  n_Machine_lacks : NoAttr K A.c_Machine "lacks"
  n_Machine_gone : NoAttr K A.c_Machine "gone"
  n_Machine_moved : NoAttr K A.c_Machine "moved"
  n_Machine_tuples : NoAttr K A.c_Machine "tuples"
  n_Machine_states : NoAttr K A.c_Machine "states"
  mg_Edition : mg "Edition" = some (.ref A.c_Edition)
  cl_Edition : Cls K A.c_Edition
  mk_Edition : Mk K A.c_Edition A.f_Edition___init__
  n_Edition_table : NoAttr K A.c_Edition "table"
  n_Edition_root : NoAttr K A.c_Edition "root"
  n_Edition_count : NoAttr K A.c_Edition "count"
  n_Edition_machine : NoAttr K A.c_Edition "machine"
  n_Edition_own_machine : NoAttr K A.c_Edition "own_machine"
  mg_BadKind : mg "BadKind" = some (.ref A.c_BadKind)
  oex_BadKind : OexC K A.c_BadKind
  ix_BadKind : PySem.W.findIn K (.ref A.c_BadKind) "__init__" = some (some (.ref A.f_BadKind___init__))
  tx_BadKind : PySem.W.typeIn K (.ref A.f_BadKind___init__) = some (.type "function")
  nx_BadKind_part : PySem.W.findIn K (.ref A.c_BadKind) "part" = some none
  b_all : mg "all" = none
  b_any : mg "any" = none
  b_bool : mg "bool" = none
  b_dict : mg "dict" = none
  b_enumerate : mg "enumerate" = none
  b_int : mg "int" = none
  b_isinstance : mg "isinstance" = none
  b_len : mg "len" = none
  b_list : mg "list" = none
  b_max : mg "max" = none
  b_min : mg "min" = none
  b_range : mg "range" = none
  b_set : mg "set" = none
  b_sorted : mg "sorted" = none
  b_str : mg "str" = none
  b_tuple : mg "tuple" = none
  mg_LETTERS : ∃ u, mg "LETTERS" = some u ∧ RelV (.str "abcdefghijklmnopqrstuvwxyz") u
  mg_ALIKE : ∃ u, mg "ALIKE" = some u ∧ RelV (.str "alike") u
  mg_LET : ∃ u, mg "LET" = some u ∧ RelV (.str "let") u
abbrev N_BadKind___init__ : List Str := ["self", "part"]
theorem sc_BadKind___init__ : FnScope ["self", "part"] ["self", "part"] (defScope s_BadKind___init__) := ⟨rfl, rfl, rfl, by decide +kernel, rfl, by decide +kernel, by decide +kernel⟩
abbrev N_is_integer : List Str := ["thing"]
theorem sc_is_integer : FnScope ["thing"] ["thing"] (defScope s_is_integer) := ⟨rfl, rfl, rfl, by decide +kernel, rfl, by decide +kernel, by decide +kernel⟩
abbrev N_is_bits : List Str := ["thing", "sign"]
theorem sc_is_bits : FnScope ["thing", "sign"] ["thing"] (defScope s_is_bits) := ⟨rfl, rfl, rfl, by decide +kernel, rfl, by decide +kernel, by decide +kernel⟩
abbrev N_is_name : List Str := ["thing", "sign"]
theorem sc_is_name : FnScope ["thing", "sign"] ["thing"] (defScope s_is_name) := ⟨rfl, rfl, rfl, by decide +kernel, rfl, by decide +kernel, by decide +kernel⟩
abbrev N_is_word : List Str := ["thing"]
theorem sc_is_word : FnScope ["thing"] ["thing"] (defScope s_is_word) := ⟨rfl, rfl, rfl, by decide +kernel, rfl, by decide +kernel, by decide +kernel⟩
abbrev N_begins : List Str := ["one", "other"]
theorem sc_begins : FnScope ["one", "other"] ["one", "other"] (defScope s_begins) := ⟨rfl, rfl, rfl, by decide +kernel, rfl, by decide +kernel, by decide +kernel⟩
abbrev N_is_width : List Str := ["width", "many"]
theorem sc_is_width : FnScope ["width", "many"] ["width", "many"] (defScope s_is_width) := ⟨rfl, rfl, rfl, by decide +kernel, rfl, by decide +kernel, by decide +kernel⟩
abbrev N_Number___init__ : List Str := ["self", "low", "high", "width"]
theorem sc_Number___init__ : FnScope ["self", "low", "high", "width"] ["self", "low", "high", "width"] (defScope s_Number___init__) := ⟨rfl, rfl, rfl, by decide +kernel, rfl, by decide +kernel, by decide +kernel⟩
abbrev N_Bits___init__ : List Str := ["self", "many"]
theorem sc_Bits___init__ : FnScope ["self", "many"] ["self", "many"] (defScope s_Bits___init__) := ⟨rfl, rfl, rfl, by decide +kernel, rfl, by decide +kernel, by decide +kernel⟩
abbrev N_Call___init__ : List Str := ["self", "name"]
theorem sc_Call___init__ : FnScope ["self", "name"] ["self", "name"] (defScope s_Call___init__) := ⟨rfl, rfl, rfl, by decide +kernel, rfl, by decide +kernel, by decide +kernel⟩
abbrev N_Items___init__ : List Str := ["self", "item", "width"]
theorem sc_Items___init__ : FnScope ["self", "item", "width"] ["self", "item", "width"] (defScope s_Items___init__) := ⟨rfl, rfl, rfl, by decide +kernel, rfl, by decide +kernel, by decide +kernel⟩
abbrev N_is_simple : List Str := ["thing"]
theorem sc_is_simple : FnScope ["thing"] ["thing"] (defScope s_is_simple) := ⟨rfl, rfl, rfl, by decide +kernel, rfl, by decide +kernel, by decide +kernel⟩
abbrev N_check_inner : List Str := ["word", "name", "is_kind"]
theorem sc_check_inner : FnScope ["word", "name", "is_kind"] ["word", "name", "is_kind"] (defScope s_check_inner) := ⟨rfl, rfl, rfl, by decide +kernel, rfl, by decide +kernel, by decide +kernel⟩
abbrev N_Way___init__ : List Str := ["self", "word", "name", "kind"]
theorem sc_Way___init__ : FnScope ["self", "word", "name", "kind"] ["self", "word", "name", "kind"] (defScope s_Way___init__) := ⟨rfl, rfl, rfl, by decide +kernel, rfl, by decide +kernel, by decide +kernel⟩
abbrev N_Door___init__ : List Str := ["self", "word", "name", "kind"]
theorem sc_Door___init__ : FnScope ["self", "word", "name", "kind"] ["self", "word", "name", "kind"] (defScope s_Door___init__) := ⟨rfl, rfl, rfl, by decide +kernel, rfl, by decide +kernel, by decide +kernel⟩
abbrev N_are_ways : List Str := ["ways", "plain", "at", "way", "other"]
theorem sc_are_ways : FnScope ["ways", "plain", "at", "way", "other"] ["ways"] (defScope s_are_ways) := ⟨rfl, rfl, rfl, by decide +kernel, rfl, by decide +kernel, by decide +kernel⟩
abbrev N_Choice___init__ : List Str := ["self", "ways"]
theorem sc_Choice___init__ : FnScope ["self", "ways"] ["self", "ways"] (defScope s_Choice___init__) := ⟨rfl, rfl, rfl, by decide +kernel, rfl, by decide +kernel, by decide +kernel⟩
abbrev N_Part___init__ : List Str := ["self", "name", "kind"]
theorem sc_Part___init__ : FnScope ["self", "name", "kind"] ["self", "name", "kind"] (defScope s_Part___init__) := ⟨rfl, rfl, rfl, by decide +kernel, rfl, by decide +kernel, by decide +kernel⟩
abbrev N_Room___init__ : List Str := ["self", "word", "name", "kind"]
theorem sc_Room___init__ : FnScope ["self", "word", "name", "kind"] ["self", "word", "name", "kind"] (defScope s_Room___init__) := ⟨rfl, rfl, rfl, by decide +kernel, rfl, by decide +kernel, by decide +kernel⟩
abbrev N_are_parts : List Str := ["parts", "at", "part", "other"]
theorem sc_are_parts : FnScope ["parts", "at", "part", "other"] ["parts"] (defScope s_are_parts) := ⟨rfl, rfl, rfl, by decide +kernel, rfl, by decide +kernel, by decide +kernel⟩
abbrev N_Row___init__ : List Str := ["self", "parts"]
theorem sc_Row___init__ : FnScope ["self", "parts"] ["self", "parts"] (defScope s_Row___init__) := ⟨rfl, rfl, rfl, by decide +kernel, rfl, by decide +kernel, by decide +kernel⟩
abbrev N_number_form : List Str := ["kind", "many", "short"]
theorem sc_number_form : FnScope ["kind", "many", "short"] ["kind"] (defScope s_number_form) := ⟨rfl, rfl, rfl, by decide +kernel, rfl, by decide +kernel, by decide +kernel⟩
abbrev N_Plan___init__ : List Str := ["self", "named", "count", "own"]
theorem sc_Plan___init__ : FnScope ["self", "named", "count", "own"] ["self", "named", "count", "own"] (defScope s_Plan___init__) := ⟨rfl, rfl, rfl, by decide +kernel, rfl, by decide +kernel, by decide +kernel⟩
abbrev N_resolved : List Str := ["edition", "kind", "name"]
theorem sc_resolved : FnScope ["edition", "kind", "name"] ["edition", "kind"] (defScope s_resolved) := ⟨rfl, rfl, rfl, by decide +kernel, rfl, by decide +kernel, by decide +kernel⟩
abbrev N_wide_form : List Str := ["kind", "form"]
theorem sc_wide_form : FnScope ["kind", "form"] ["kind"] (defScope s_wide_form) := ⟨rfl, rfl, rfl, by decide +kernel, rfl, by decide +kernel, by decide +kernel⟩
abbrev N_are_numbers_alike : List Str := ["one", "other", "first", "second"]
theorem sc_are_numbers_alike : FnScope ["one", "other", "first", "second"] ["one", "other"] (defScope s_are_numbers_alike) := ⟨rfl, rfl, rfl, by decide +kernel, rfl, by decide +kernel, by decide +kernel⟩
abbrev N_are_leaves_alike : List Str := ["one", "other"]
theorem sc_are_leaves_alike : FnScope ["one", "other"] ["one", "other"] (defScope s_are_leaves_alike) := ⟨rfl, rfl, rfl, by decide +kernel, rfl, by decide +kernel, by decide +kernel⟩
abbrev N_are_named_alike : List Str := ["one", "other"]
theorem sc_are_named_alike : FnScope ["one", "other"] ["one", "other"] (defScope s_are_named_alike) := ⟨rfl, rfl, rfl, by decide +kernel, rfl, by decide +kernel, by decide +kernel⟩
abbrev N_Needs___init__ : List Str := ["self", "writer", "reader"]
theorem sc_Needs___init__ : FnScope ["self", "writer", "reader"] ["self", "writer", "reader"] (defScope s_Needs___init__) := ⟨rfl, rfl, rfl, by decide +kernel, rfl, by decide +kernel, by decide +kernel⟩
abbrev N_Needs_of_kinds : List Str := ["self", "one", "other", "word", "first", "second"]
theorem sc_Needs_of_kinds : FnScope ["self", "one", "other", "word", "first", "second"] ["self", "one", "other", "word"] (defScope s_Needs_of_kinds) := ⟨rfl, rfl, rfl, by decide +kernel, rfl, by decide +kernel, by decide +kernel⟩
abbrev N_Needs_of_roots : List Str := ["self"]
theorem sc_Needs_of_roots : FnScope ["self"] ["self"] (defScope s_Needs_of_roots) := ⟨rfl, rfl, rfl, by decide +kernel, rfl, by decide +kernel, by decide +kernel⟩
abbrev N_Needs_of_triple : List Str := ["self", "triple", "one", "other", "pairs", "found", "at", "inner", "mate", "word", "needed"]
theorem sc_Needs_of_triple : FnScope ["self", "triple", "one", "other", "pairs", "found", "at", "inner", "mate", "word", "needed"] ["self", "triple"] (defScope s_Needs_of_triple) := ⟨rfl, rfl, rfl, by decide +kernel, rfl, by decide +kernel, by decide +kernel⟩
abbrev N_table : List Str := ["writer", "reader", "needs", "waiting", "found", "triple", "further"]
theorem sc_table : FnScope ["writer", "reader", "needs", "waiting", "found", "triple", "further"] ["writer", "reader"] (defScope s_table) := ⟨rfl, rfl, rfl, by decide +kernel, rfl, by decide +kernel, by decide +kernel⟩
abbrev N_is_triple : List Str := ["writer", "reader", "thing", "part"]
theorem sc_is_triple : FnScope ["writer", "reader", "thing", "part"] ["writer", "reader", "thing"] (defScope s_is_triple) := ⟨rfl, rfl, rfl, by decide +kernel, rfl, by decide +kernel, by decide +kernel⟩
abbrev N_are_kept : List Str := ["needed", "held", "triple"]
theorem sc_are_kept : FnScope ["needed", "held", "triple"] ["needed", "held"] (defScope s_are_kept) := ⟨rfl, rfl, rfl, by decide +kernel, rfl, by decide +kernel, by decide +kernel⟩
abbrev N_check_table : List Str := ["writer", "reader", "thing", "held", "triple", "needs"]
theorem sc_check_table : FnScope ["writer", "reader", "thing", "held", "triple", "needs"] ["writer", "reader", "thing"] (defScope s_check_table) := ⟨rfl, rfl, rfl, by decide +kernel, rfl, by decide +kernel, by decide +kernel⟩
abbrev N_inner_kinds : List Str := ["kind", "way", "part"]
theorem sc_inner_kinds : FnScope ["kind", "way", "part"] ["kind"] (defScope s_inner_kinds) := ⟨rfl, rfl, rfl, by decide +kernel, rfl, by decide +kernel, by decide +kernel⟩
abbrev N_called : List Str := ["kind", "names", "inner"]
theorem sc_called : FnScope ["kind", "names", "inner"] ["kind"] (defScope s_called) := ⟨rfl, rfl, rfl, by decide +kernel, rfl, by decide +kernel, by decide +kernel⟩
abbrev N_reached : List Str := ["table", "name", "found", "waiting", "one"]
theorem sc_reached : FnScope ["table", "name", "found", "waiting", "one"] ["table", "name"] (defScope s_reached) := ⟨rfl, rfl, rfl, by decide +kernel, rfl, by decide +kernel, by decide +kernel⟩
abbrev N_missing_name : List Str := ["table", "missing", "name", "one"]
theorem sc_missing_name : FnScope ["table", "missing", "name", "one"] ["table"] (defScope s_missing_name) := ⟨rfl, rfl, rfl, by decide +kernel, rfl, by decide +kernel, by decide +kernel⟩
abbrev N_ring_name : List Str := ["table", "name"]
theorem sc_ring_name : FnScope ["table", "name"] ["table"] (defScope s_ring_name) := ⟨rfl, rfl, rfl, by decide +kernel, rfl, by decide +kernel, by decide +kernel⟩
abbrev N_call_order : List Str := ["table", "done", "name", "one"]
theorem sc_call_order : FnScope ["table", "done", "name", "one"] ["table"] (defScope s_call_order) := ⟨rfl, rfl, rfl, by decide +kernel, rfl, by decide +kernel, by decide +kernel⟩
abbrev N_number_lengths : List Str := ["kind", "many", "least"]
theorem sc_number_lengths : FnScope ["kind", "many", "least"] ["kind"] (defScope s_number_lengths) := ⟨rfl, rfl, rfl, by decide +kernel, rfl, by decide +kernel, by decide +kernel⟩
abbrev N_Lengths___init__ : List Str := ["self", "table", "count", "name"]
theorem sc_Lengths___init__ : FnScope ["self", "table", "count", "name"] ["self", "table", "count"] (defScope s_Lengths___init__) := ⟨rfl, rfl, rfl, by decide +kernel, rfl, by decide +kernel, by decide +kernel⟩
abbrev N_Lengths_sums : List Str := ["self", "ones", "others", "one", "other"]
theorem sc_Lengths_sums : FnScope ["self", "ones", "others", "one", "other"] ["self", "ones", "others"] (defScope s_Lengths_sums) := ⟨rfl, rfl, rfl, by decide +kernel, rfl, by decide +kernel, by decide +kernel⟩
abbrev N_Lengths_of_kind : List Str := ["self", "kind", "one"]
theorem sc_Lengths_of_kind : FnScope ["self", "kind", "one"] ["self", "kind"] (defScope s_Lengths_of_kind) := ⟨rfl, rfl, rfl, by decide +kernel, rfl, by decide +kernel, by decide +kernel⟩
abbrev N_Lengths_of_items : List Str := ["self", "kind", "item", "found", "step", "rounds", "turn", "more"]
theorem sc_Lengths_of_items : FnScope ["self", "kind", "item", "found", "step", "rounds", "turn", "more"] ["self", "kind"] (defScope s_Lengths_of_items) := ⟨rfl, rfl, rfl, by decide +kernel, rfl, by decide +kernel, by decide +kernel⟩
abbrev N_Lengths_of_body : List Str := ["self", "word", "kind", "inner", "one"]
theorem sc_Lengths_of_body : FnScope ["self", "word", "kind", "inner", "one"] ["self", "word", "kind"] (defScope s_Lengths_of_body) := ⟨rfl, rfl, rfl, by decide +kernel, rfl, by decide +kernel, by decide +kernel⟩
abbrev N_Lengths_of_named : List Str := ["self", "kind", "found", "way", "one"]
theorem sc_Lengths_of_named : FnScope ["self", "kind", "found", "way", "one"] ["self", "kind"] (defScope s_Lengths_of_named) := ⟨rfl, rfl, rfl, by decide +kernel, rfl, by decide +kernel, by decide +kernel⟩
abbrev N_Lengths_of_row : List Str := ["self", "kind", "found", "part"]
theorem sc_Lengths_of_row : FnScope ["self", "kind", "found", "part"] ["self", "kind"] (defScope s_Lengths_of_row) := ⟨rfl, rfl, rfl, by decide +kernel, rfl, by decide +kernel, by decide +kernel⟩
abbrev N_Lengths_is_long : List Str := ["self", "kind"]
theorem sc_Lengths_is_long : FnScope ["self", "kind"] ["self", "kind"] (defScope s_Lengths_is_long) := ⟨rfl, rfl, rfl, by decide +kernel, rfl, by decide +kernel, by decide +kernel⟩
abbrev N_long_body : List Str := ["table", "count", "lengths", "name", "inner", "way", "part", "one"]
theorem sc_long_body : FnScope ["table", "count", "lengths", "name", "inner", "way", "part", "one"] ["table", "count"] (defScope s_long_body) := ⟨rfl, rfl, rfl, by decide +kernel, rfl, by decide +kernel, by decide +kernel⟩
abbrev N_are_kinds : List Str := ["kinds", "name"]
theorem sc_are_kinds : FnScope ["kinds", "name"] ["kinds"] (defScope s_are_kinds) := ⟨rfl, rfl, rfl, by decide +kernel, rfl, by decide +kernel, by decide +kernel⟩
abbrev N_check_parts : List Str := ["kinds", "root", "count"]
theorem sc_check_parts : FnScope ["kinds", "root", "count"] ["kinds", "root", "count"] (defScope s_check_parts) := ⟨rfl, rfl, rfl, by decide +kernel, rfl, by decide +kernel, by decide +kernel⟩
abbrev N_last_taken : List Str := ["machine", "name", "kind", "index"]
theorem sc_last_taken : FnScope ["machine", "name", "kind", "index"] ["machine", "name"] (defScope s_last_taken) := ⟨rfl, rfl, rfl, by decide +kernel, rfl, by decide +kernel, by decide +kernel⟩
abbrev N_check_rooms : List Str := ["machine", "wrong", "left_out", "name", "one", "inner"]
theorem sc_check_rooms : FnScope ["machine", "wrong", "left_out", "name", "one", "inner"] ["machine"] (defScope s_check_rooms) := ⟨rfl, rfl, rfl, by decide +kernel, rfl, by decide +kernel, by decide +kernel⟩
abbrev N_Edition___init__ : List Str := ["self", "kinds", "root", "count", "table", "name", "missing", "ring", "too_long", "machine"]
theorem sc_Edition___init__ : FnScope ["self", "kinds", "root", "count", "table", "name", "missing", "ring", "too_long", "machine"] ["self", "kinds", "root", "count"] (defScope s_Edition___init__) := ⟨rfl, rfl, rfl, by decide +kernel, rfl, by decide +kernel, by decide +kernel⟩
abbrev N__law_start : List Str := ["script"]
theorem sc__law_start : FnScope ["script"] ["script"] (defScope s__law_start) := ⟨rfl, rfl, rfl, by decide +kernel, rfl, by decide +kernel, by decide +kernel⟩
abbrev N__law_pull : List Str := ["state", "many", "cell", "number"]
theorem sc__law_pull : FnScope ["state", "many", "cell", "number"] ["state", "many"] (defScope s__law_pull) := ⟨rfl, rfl, rfl, by decide +kernel, rfl, by decide +kernel, by decide +kernel⟩
abbrev N__law_big : List Str := ["state", "many", "number", "k"]
theorem sc__law_big : FnScope ["state", "many", "number", "k"] ["state", "many"] (defScope s__law_big) := ⟨rfl, rfl, rfl, by decide +kernel, rfl, by decide +kernel, by decide +kernel⟩
abbrev N__law_word : List Str := ["state", "size", "letters", "k"]
theorem sc__law_word : FnScope ["state", "size", "letters", "k"] ["state", "size"] (defScope s__law_word) := ⟨rfl, rfl, rfl, by decide +kernel, rfl, by decide +kernel, by decide +kernel⟩
abbrev N__law_names : List Str := ["state", "many", "letters", "head", "first", "step", "size", "k"]
theorem sc__law_names : FnScope ["state", "many", "letters", "head", "first", "step", "size", "k"] ["state", "many"] (defScope s__law_names) := ⟨rfl, rfl, rfl, by decide +kernel, rfl, by decide +kernel, by decide +kernel⟩
abbrev N__law_kind : List Str := ["told", "inners", "one"]
theorem sc__law_kind : FnScope ["told", "inners", "one"] ["told"] (defScope s__law_kind) := ⟨rfl, rfl, rfl, by decide +kernel, rfl, by decide +kernel, by decide +kernel⟩
abbrev N__law_edition : List Str := ["spec", "kinds", "name"]
theorem sc__law_edition : FnScope ["spec", "kinds", "name"] ["spec"] (defScope s__law_edition) := ⟨rfl, rfl, rfl, by decide +kernel, rfl, by decide +kernel, by decide +kernel⟩
abbrev N__law_short : List Str := ["kind", "many", "size"]
theorem sc__law_short : FnScope ["kind", "many", "size"] ["kind"] (defScope s__law_short) := ⟨rfl, rfl, rfl, by decide +kernel, rfl, by decide +kernel, by decide +kernel⟩
abbrev N__law_code : List Str := ["number", "size", "k"]
theorem sc__law_code : FnScope ["number", "size", "k"] ["number", "size"] (defScope s__law_code) := ⟨rfl, rfl, rfl, by decide +kernel, rfl, by decide +kernel, by decide +kernel⟩
abbrev N__law_number_bits : List Str := ["kind", "value", "size", "short", "code"]
theorem sc__law_number_bits : FnScope ["kind", "value", "size", "short", "code"] ["kind", "value"] (defScope s__law_number_bits) := ⟨rfl, rfl, rfl, by decide +kernel, rfl, by decide +kernel, by decide +kernel⟩
abbrev N__law_number : List Str := ["state", "low", "many", "turn", "size"]
theorem sc__law_number : FnScope ["state", "low", "many", "turn", "size"] ["state"] (defScope s__law_number) := ⟨rfl, rfl, rfl, by decide +kernel, rfl, by decide +kernel, by decide +kernel⟩
abbrev N__law_bent_number : List Str := ["state", "kind", "tag", "low", "high", "width", "turn", "size"]
theorem sc__law_bent_number : FnScope ["state", "kind", "tag", "low", "high", "width", "turn", "size"] ["state", "kind"] (defScope s__law_bent_number) := ⟨rfl, rfl, rfl, by decide +kernel, rfl, by decide +kernel, by decide +kernel⟩
abbrev N__law_leaf : List Str := ["state", "turn", "kind"]
theorem sc__law_leaf : FnScope ["state", "turn", "kind"] ["state"] (defScope s__law_leaf) := ⟨rfl, rfl, rfl, by decide +kernel, rfl, by decide +kernel, by decide +kernel⟩
abbrev N__law_bent_leaf : List Str := ["state", "kind", "turn"]
theorem sc__law_bent_leaf : FnScope ["state", "kind", "turn"] ["state", "kind"] (defScope s__law_bent_leaf) := ⟨rfl, rfl, rfl, by decide +kernel, rfl, by decide +kernel, by decide +kernel⟩
abbrev N__law_called : List Str := ["state", "kind", "names", "many", "spec", "k"]
theorem sc__law_called : FnScope ["state", "kind", "names", "many", "spec", "k"] ["state", "kind"] (defScope s__law_called) := ⟨rfl, rfl, rfl, by decide +kernel, rfl, by decide +kernel, by decide +kernel⟩
abbrev N__law_numbers_alike : List Str := ["one", "other", "places", "kind", "place", "value"]
theorem sc__law_numbers_alike : FnScope ["one", "other", "places", "kind", "place", "value"] ["one", "other"] (defScope s__law_numbers_alike) := ⟨rfl, rfl, rfl, by decide +kernel, rfl, by decide +kernel, by decide +kernel⟩
abbrev N__law_alike : List Str := ["one", "other"]
theorem sc__law_alike : FnScope ["one", "other"] ["one", "other"] (defScope s__law_alike) := ⟨rfl, rfl, rfl, by decide +kernel, rfl, by decide +kernel, by decide +kernel⟩
abbrev N_law : List Str := ["script", "state", "first", "second", "k", "one", "other", "writer", "reader", "due", "told"]
theorem sc_law : FnScope ["script", "state", "first", "second", "k", "one", "other", "writer", "reader", "due", "told"] ["script"] (defScope s_law) := ⟨rfl, rfl, rfl, by decide +kernel, rfl, by decide +kernel, by decide +kernel⟩
/-! the kinds, told as plain data -/
inductive Kd where
  | num (lo hi : Int) (w : Option Int)
  | bits (n : Int)
  | call (s : Str)
  | items (i : Kd) (w : Option Int)
  | nothing
  | none
  | way (word name : Str) (k : Kd)
  | door (word name : Str) (k : Kd)
  | part (name : Str) (k : Kd)
  | room (word name : Str) (k : Kd)
  | choice (ks : List Kd)
  | row (ks : List Kd)
inductive Kc where
  | num | bits | call | items | nothing | way | door | part | room | choice | row
  deriving DecidableEq
def Kd.cls : Kd → Option Kc
  | .num _ _ _ => some .num
  | .bits _ => some .bits
  | .call _ => some .call
  | .items _ _ => some .items
  | .nothing => some .nothing
  | .none => Option.none
  | .way _ _ _ => some .way
  | .door _ _ _ => some .door
  | .part _ _ => some .part
  | .room _ _ _ => some .room
  | .choice _ => some .choice
  | .row _ => some .row
def Ad.kc (A : Ad) : Kc → Addr
  | .num => A.c_Number
  | .bits => A.c_Bits
  | .call => A.c_Call
  | .items => A.c_Items
  | .nothing => A.c_Nothing
  | .way => A.c_Way
  | .door => A.c_Door
  | .part => A.c_Part
  | .room => A.c_Room
  | .choice => A.c_Choice
  | .row => A.c_Row
def kcName : Kc → Str
  | .num => "Number"
  | .bits => "Bits"
  | .call => "Call"
  | .items => "Items"
  | .nothing => "Nothing"
  | .way => "Way"
  | .door => "Door"
  | .part => "Part"
  | .room => "Room"
  | .choice => "Choice"
  | .row => "Row"
theorem kcName_ne (c d : Kc) (n : c ≠ d) : ¬ kcName c = kcName d := by
  cases c <;> cases d <;> first | exact absurd rfl n | (show ¬ Str.ofString _ = Str.ofString _; decide +kernel)
mutual
def Kd.eqk : Kd → Kd → Bool
  | .num a b w, .num a' b' w' => decide (a = a') && (decide (b = b') && decide (w = w'))
  | .bits n, .bits m => decide (n = m)
  | .call s, .call t => decide (s = t)
  | .items i w, .items j x => i.eqk j && decide (w = x)
  | .nothing, .nothing => true
  | .none, .none => true
  | .way w n k, .way w' n' k' => decide (w = w') && (decide (n = n') && k.eqk k')
  | .door w n k, .door w' n' k' => decide (w = w') && (decide (n = n') && k.eqk k')
  | .part n k, .part n' k' => decide (n = n') && k.eqk k'
  | .room w n k, .room w' n' k' => decide (w = w') && (decide (n = n') && k.eqk k')
  | .choice ks, .choice js => Kd.eqAll ks js
  | .row ks, .row js => Kd.eqAll ks js
  | _, _ => false
def Kd.eqAll : List Kd → List Kd → Bool
  | [], [] => true
  | k :: ks, j :: js => k.eqk j && Kd.eqAll ks js
  | _, _ => false
end
mutual
/-- nowhere None meets an instance -/
def Kd.nn : Kd → Kd → Bool
  | .door _ _ k, .door _ _ k' => decide (k.cls = Option.none) == decide (k'.cls = Option.none)
  | .room _ _ k, .room _ _ k' => decide (k.cls = Option.none) == decide (k'.cls = Option.none)
  | .choice ks, .choice js => Kd.nnAll ks js
  | .row ks, .row js => Kd.nnAll ks js
  | _, _ => true
def Kd.nnAll : List Kd → List Kd → Bool
  | k :: ks, j :: js => k.nn j && Kd.nnAll ks js
  | _, _ => true
end
def oi : Option Int → V
  | some i => .int i
  | none => .non
def oiOf : V → Option Int
  | .int i => some i
  | _ => none
def intOf : V → Int
  | .int i => i
  | _ => 0
def strOf : V → Str
  | .str x => x
  | _ => Str.empty
/-- an instance of C with these fields -/
def Ob (C : Addr) (H : Hp) (x : Addr) (l : List (Str × V)) : Prop := ∃ dx fs, H x = some (.ins C dx fs) ∧ ∀ p ∈ l, fs.lookup p.1 = some p.2
/-- each instance and each tuple stands, each thing keeps its sort -/
structure KI (H H' : Hp) : Prop where
  k : KK H H'
  i : ∀ b C dx fs, H b = some (.ins C dx fs) → H' b = some (.ins C dx fs)
  t : TupKeep H H'
theorem KI.same {H H' : Hp} (e : Same H H') : KI H H' := ⟨KK.same e, fun b C dx fs h => e _ _ h, fun b xs h => e _ _ h⟩
theorem KI.refl {H : Hp} : KI H H := KI.same fun _ _ h => h
theorem KI.trans {H H1 H2 : Hp} (a : KI H H1) (b : KI H1 H2) : KI H H2 := ⟨a.k.trans b.k, fun c C dx fs h => b.i _ _ _ _ (a.i _ _ _ _ h), a.t.trans b.t⟩
theorem KI.chg {d : Dr} {H H' : Hp} (r : Rng d H) (r' : Rng d H') (e : Chg d H H') : KI H H' := by
  obtain ⟨ys, hp, _⟩ := r.atp
  exact ⟨KK.chg r r' e, fun b C dx fs h => e _ _ (ne_lst hp h fun ys => by intro z; cases z) h, TupKeep.chg r e⟩
theorem KI.setL {H : Hp} {D : Addr} {xs ys : List V} (h : H D = some (.lst xs)) : KI H (upd H D (.lst ys)) :=
  ⟨KK.setL h, fun b C dx fs h2 => by rw [upd_ne (ne_lst h h2 fun ys => by intro z; cases z)]; exact h2, TupKeep.set h⟩
theorem KI.new {H : Hp} {D : Addr} {o : HO} (h : H D = none) : KI H (upd H D o) := KI.same fun b u e => by rw [upd_ne (ne_of_none e h)]; exact e
theorem Ob.keep {C : Addr} {H H' : Hp} {x : Addr} {l : List (Str × V)} (e : KI H H') (h : Ob C H x l) : Ob C H' x l := by
  obtain ⟨dx, fs, h1, h2⟩ := h
  exact ⟨dx, fs, e.i _ _ _ _ h1, h2⟩
/-- what a thing is: a kind (None among them), or of another built-in type -/
inductive Td where
  | k (d : Kd)
  | raw (n : String)
def Td.cls : Td → Option Kc
  | .k d => d.cls
  | .raw _ => none
def Td.kd : Td → Kd
  | .k d => d
  | .raw _ => .none
def Td.tag (A : Ad) : Td → Value
  | .k d => match d.cls with
    | some c => .ref (A.kc c)
    | none => .type "NoneType"
  | .raw n => .type n
def Td.item (t : Td) : Bool := [Kc.num, .bits, .call].any fun c => decide (t.cls = some c)
def Td.simple (t : Td) : Bool := [Kc.num, .bits, .items, .call].any fun c => decide (t.cls = some c)
def Td.way (t : Td) : Bool := t.simple || decide (t.cls = some .nothing)
def Td.isNone : Td → Bool
  | .k .none => true
  | _ => false
def Td.door (t : Td) : Bool := t.isNone || (t.simple || decide (t.cls = some .nothing))
def Td.room (t : Td) : Bool := t.isNone || t.simple
def Td.wd (t : Td) : Bool := [Kc.way, .door].any fun c => decide (t.cls = some c)
def Td.pr (t : Td) : Bool := [Kc.part, .room].any fun c => decide (t.cls = some c)
mutual
inductive KAt (A : Ad) (H : Hp) : V → Kd → Prop where
  | num {x : Addr} {lo hi : Int} {w : Option Int} (h : Ob A.c_Number H x [("low", .int lo), ("high", .int hi), ("width", oi w)]) : KAt A H (.ref x) (.num lo hi w)
  | bits {x : Addr} {n : Int} (h : Ob A.c_Bits H x [("many", .int n)]) : KAt A H (.ref x) (.bits n)
  | call {x : Addr} {s : Str} (h : Ob A.c_Call H x [("name", .str s)]) : KAt A H (.ref x) (.call s)
  | items {x : Addr} {v : V} {i : Kd} {w : Option Int} (h : Ob A.c_Items H x [("item", v), ("width", oi w)]) (k : KAt A H v i) (o : (Td.k i).item = true) : KAt A H (.ref x) (.items i w)
  | nothing {x : Addr} (h : Ob A.c_Nothing H x []) : KAt A H (.ref x) .nothing
  | none : KAt A H .non .none
  | way {x : Addr} {v : V} {i : Kd} {w n : Str} (h : Ob A.c_Way H x [("word", .str w), ("name", .str n), ("kind", v)]) (k : KAt A H v i) (o : (Td.k i).way = true) : KAt A H (.ref x) (.way w n i)
  | door {x : Addr} {v : V} {i : Kd} {w n : Str} (h : Ob A.c_Door H x [("word", .str w), ("name", .str n), ("kind", v)]) (k : KAt A H v i) (o : (Td.k i).door = true) : KAt A H (.ref x) (.door w n i)
  | part {x : Addr} {v : V} {i : Kd} {n : Str} (h : Ob A.c_Part H x [("name", .str n), ("kind", v)]) (k : KAt A H v i) (o : (Td.k i).simple = true) : KAt A H (.ref x) (.part n i)
  | room {x : Addr} {v : V} {i : Kd} {w n : Str} (h : Ob A.c_Room H x [("word", .str w), ("name", .str n), ("kind", v)]) (k : KAt A H v i) (o : (Td.k i).room = true) : KAt A H (.ref x) (.room w n i)
  | choice {x t : Addr} {vs : List V} {ks : List Kd} (h : Ob A.c_Choice H x [("ways", .ref t)]) (e : H t = some (.tup vs)) (k : KAts A H vs ks) (o : ∀ z ∈ ks, (Td.k z).wd = true) : KAt A H (.ref x) (.choice ks)
  | row {x t : Addr} {vs : List V} {ks : List Kd} (h : Ob A.c_Row H x [("parts", .ref t)]) (e : H t = some (.tup vs)) (k : KAts A H vs ks) (o : ∀ z ∈ ks, (Td.k z).pr = true) : KAt A H (.ref x) (.row ks)
inductive KAts (A : Ad) (H : Hp) : List V → List Kd → Prop where
  | nil : KAts A H [] []
  | cons {v : V} {k : Kd} {vs : List V} {ks : List Kd} (h : KAt A H v k) (t : KAts A H vs ks) : KAts A H (v :: vs) (k :: ks)
end
mutual
theorem KAt.keep {A : Ad} {H H' : Hp} (e : KI H H') : ∀ {v : V} {d : Kd}, KAt A H v d → KAt A H' v d
  | _, _, .num h => .num (h.keep e)
  | _, _, .bits h => .bits (h.keep e)
  | _, _, .call h => .call (h.keep e)
  | _, _, .items h k o => .items (h.keep e) (k.keep e) o
  | _, _, .nothing h => .nothing (h.keep e)
  | _, _, .none => .none
  | _, _, .way h k o => .way (h.keep e) (k.keep e) o
  | _, _, .door h k o => .door (h.keep e) (k.keep e) o
  | _, _, .part h k o => .part (h.keep e) (k.keep e) o
  | _, _, .room h k o => .room (h.keep e) (k.keep e) o
  | _, _, .choice h t k o => .choice (h.keep e) (e.t _ _ t) (KAts.keep e k) o
  | _, _, .row h t k o => .row (h.keep e) (e.t _ _ t) (KAts.keep e k) o
theorem KAts.keep {A : Ad} {H H' : Hp} (e : KI H H') : ∀ {vs : List V} {ds : List Kd}, KAts A H vs ds → KAts A H' vs ds
  | _, _, .nil => .nil
  | _, _, .cons h t => .cons (h.keep e) (KAts.keep e t)
end
def Th (A : Ad) (K : PySem.W.Frag) (H : Hp) (v : V) : Td → Prop
  | .k d => KAt A H v d
  | .raw n => n ∈ asks ∧ VT K H v (.type n)
section
variable {K : PySem.W.Frag} {mg : Str → Option Value} {A : Ad} {H H' : Hp} {v : V} {t : Td} {d : Kd}
theorem Th.keep (e : KI H H') (h : Th A K H v t) : Th A K H' v t := by
  cases t with
  | k d => exact KAt.keep e h
  | raw n => exact ⟨h.1, h.2.keep e.k⟩
theorem Txt.kco (T : Txt K mg A) (c : Kc) : ClsO K (A.kc c) (kcName c) := by
  cases c
  · exact T.o_Number
  · exact T.o_Bits
  · exact T.o_Call
  · exact T.o_Items
  · exact T.o_Nothing
  · exact T.o_Way
  · exact T.o_Door
  · exact T.o_Part
  · exact T.o_Room
  · exact T.o_Choice
  · exact T.o_Row
theorem Txt.kci (T : Txt K mg A) (c : Kc) : C8.InsC K (A.kc c) := by
  cases c
  · exact T.isc_Number
  · exact T.isc_Bits
  · exact T.isc_Call
  · exact T.isc_Items
  · exact T.isc_Nothing
  · exact T.isc_Way
  · exact T.isc_Door
  · exact T.isc_Part
  · exact T.isc_Room
  · exact T.isc_Choice
  · exact T.isc_Row
theorem Txt.kcne (T : Txt K mg A) {c d : Kc} (n : c ≠ d) : A.kc c ≠ A.kc d := (T.kco c).ne (T.kco d) (kcName_ne c d n)
theorem Ob.vt (T : Txt K mg A) (c : Kc) {x : Addr} {l : List (Str × V)} (h : Ob (A.kc c) H x l) : VT K H (.ref x) (.ref (A.kc c)) := by
  obtain ⟨dx, fs, h1, _⟩ := h
  exact .ins h1 (T.kci c) (T.kco c)
theorem KAt.vt (T : Txt K mg A) (h : KAt A H v d) : VT K H v (Td.tag A (.k d)) := by
  cases h with
  | num h => exact h.vt T .num
  | bits h => exact h.vt T .bits
  | call h => exact h.vt T .call
  | items h _ _ => exact h.vt T .items
  | nothing h => exact h.vt T .nothing
  | none => exact .non
  | way h _ _ => exact h.vt T .way
  | door h _ _ => exact h.vt T .door
  | part h _ _ => exact h.vt T .part
  | room h _ _ => exact h.vt T .room
  | choice h _ _ _ => exact h.vt T .choice
  | row h _ _ _ => exact h.vt T .row
theorem Th.vt (T : Txt K mg A) (h : Th A K H v t) : VT K H v (t.tag A) := by
  cases t with
  | k d => exact KAt.vt T h
  | raw n => exact h.2
theorem isa_raw {n : String} {C : Addr} : isa (.type n) (.ref C) = false := by
  have n1 : ¬ Value.type n = Value.ref C := fun z => by cases z
  have n2 : ¬ Value.ref C = Value.type "int" := fun z => by cases z
  unfold isa
  rw [decide_eq_false n1, decide_eq_false n2, Bool.and_false]
  rfl
theorem isa_own (T : Txt K mg A) (c d : Kc) : isa (.ref (A.kc c)) (.ref (A.kc d)) = decide (c = d) := by
  unfold isa
  rw [decide_eq_false (show ¬ Value.ref (A.kc c) = Value.type "bool" from fun z => by cases z), Bool.false_and, Bool.or_false]
  by_cases e : c = d
  · subst e; simp
  · rw [decide_eq_false e, decide_eq_false fun z => T.kcne e (by injection z)]
/-- isinstance(thing, C) -/
theorem isa_kc (T : Txt K mg A) (t : Td) (c : Kc) : isa (t.tag A) (.ref (A.kc c)) = decide (t.cls = some c) := by
  cases t with
  | raw n => rw [show Td.tag A (.raw n) = .type n from rfl, isa_raw]; rfl
  | k d =>
    show isa (match d.cls with | some c => Value.ref (A.kc c) | none => .type "NoneType") _ = decide (d.cls = some c)
    cases d.cls with
    | none => rw [isa_raw]; rfl
    | some e =>
      rw [isa_own T]
      by_cases z : e = c
      · subst z; simp
      · rw [decide_eq_false z, decide_eq_false fun q => z (by injection q)]
end
/-! what is a name, a word, a width -/
def okBits : V → Bool
  | .str x => x.cps.toList.all fun c => decide (c = 48) || decide (c = 49)
  | _ => false
def okName : V → Bool
  | .str x => decide (1 ≤ x.length) && (decide (x.length ≤ 8) && x.cps.toList.all fun c => decide (97 ≤ c) && decide (c ≤ 122))
  | _ => false
def okWord (v : V) : Bool := okBits v && (decide (1 ≤ (strOf v).length) && decide ((strOf v).length ≤ 8))
def okW : V → Int → Bool
  | .non, _ => true
  | .int i, n => decide (1 ≤ i) && (decide (i ≤ 60) && decide (n ≤ 2 ^ i.toNat))
  | _, _ => false
theorem iteB {c : Bool} {P Q : Prop} (h1 : c = true → P) (h2 : c = false → Q) : if c = true then P else Q := by
  cases c
  · exact h2 rfl
  · exact h1 rfl
theorem not_t {b : Bool} (h : (!b) = true) : b = false := by cases b <;> first | rfl | cases h
theorem not_f {b : Bool} (h : (!b) = false) : b = true := by cases b <;> first | rfl | cases h
theorem sign_dec {c n : Nat} {s : Str} (h : s = ⟨#[n]⟩) : decide (V.str ⟨#[c]⟩ = V.str s) = decide (c = n) := by
  subst h
  by_cases e : c = n
  · subst e; simp
  · rw [decide_eq_false e, decide_eq_false]
    intro z
    injection z with z
    injection z with z
    exact e (by simpa using z)
theorem sgn0 : (Str.ofString "0") = ⟨#[48]⟩ := by decide +kernel
theorem sgn1 : (Str.ofString "1") = ⟨#[49]⟩ := by decide +kernel
/-- a text that is not too long for len -/
def Short (v : V) : Prop := (strOf v).length ≤ 1000000
theorem short_le {x : Str} (h : Short (.str x)) : x.length ≤ sizeLine := by
  rw [sizeLine_eq]
  have : x.length ≤ 1000000 := h
  omega
theorem str_of {K : PySem.W.Frag} {H : Hp} {v : V} {t : Value} (h : VT K H v t) (e : isa t (.type "str") = true) : ∃ x, v = .str x := by
  rw [← isS_of h] at e
  cases v <;> first | exact ⟨_, rfl⟩ | cases e
theorem nstr_of {K : PySem.W.Frag} {H : Hp} {v : V} {t : Value} (h : VT K H v t) (e : isa t (.type "str") = false) : okBits v = false ∧ okName v = false := by
  rw [← isS_of h] at e
  cases v <;> first | exact ⟨rfl, rfl⟩ | cases e
theorem take_all {l : List Nat} {f : Nat → Bool} {i c : Nat} (h : (l.take i).all f = true) (hc : l[i]? = some c) (hf : f c = true) : (l.take (i + 1)).all f = true := by
  rw [List.take_succ, hc, List.all_append, h]
  simp [hf]
theorem not_all {l : List Nat} {f : Nat → Bool} {i c : Nat} (hc : l[i]? = some c) (hf : f c = false) : l.all f = false := by
  rw [Bool.eq_false_iff]
  intro z
  have := List.all_eq_true.mp z c (List.mem_of_getElem? hc)
  rw [hf] at this
  cases this
theorem full_all {x : Str} {f : Nat → Bool} (h : (x.cps.toList.take x.cps.size).all f = true) : x.cps.toList.all f = true := by
  rw [← Array.length_toList, List.take_length] at h
  exact h
theorem abc_mem (c : Nat) : decide (c ∈ (Str.ofString "abcdefghijklmnopqrstuvwxyz").cps.toList) = (decide (97 ≤ c) && decide (c ≤ 122)) := by
  rw [abc_eq]
  by_cases h : 97 ≤ c ∧ c ≤ 122
  · obtain ⟨h1, h2⟩ := h
    rw [decide_eq_true h1, decide_eq_true h2]
    have : c = 97 ∨ c = 98 ∨ c = 99 ∨ c = 100 ∨ c = 101 ∨ c = 102 ∨ c = 103 ∨ c = 104 ∨ c = 105 ∨ c = 106 ∨ c = 107 ∨ c = 108 ∨ c = 109 ∨ c = 110 ∨ c = 111 ∨ c = 112 ∨ c = 113 ∨ c = 114 ∨ c = 115 ∨ c = 116 ∨ c = 117 ∨ c = 118 ∨ c = 119 ∨ c = 120 ∨ c = 121 ∨ c = 122 := by omega
    rw [decide_eq_true (by simpa using this)]
    rfl
  · rw [decide_eq_false]
    · by_cases h1 : 97 ≤ c
      · rw [decide_eq_true h1, decide_eq_false fun h2 => h ⟨h1, h2⟩]; rfl
      · rw [decide_eq_false h1]; rfl
    · intro z
      have := abc_letter c z
      exact h this
theorem intOf_isI {v : V} (h : isI v = true) : v = .int (intOf v) := by
  cases v <;> first | rfl | cases h
/-! what each class makes of its arguments -/
def mkNum (a b w : V) : Except Str Kd :=
  if isI a = false then .error "low" else if isI b = false ∨ intOf b ≤ intOf a ∨ 2 ^ 60 ≤ intOf b - intOf a then .error "high" else
  if okW w (intOf b - intOf a + 1) = false then .error "width" else .ok (.num (intOf a) (intOf b) (oiOf w))
def mkBits (v : V) : Except Str Kd := if isI v = false ∨ intOf v < 1 ∨ 16 < intOf v then .error "many" else .ok (.bits (intOf v))
def mkCall (v : V) : Except Str Kd := if okName v = false then .error "name" else .ok (.call (strOf v))
def mkItems (t : Td) (w : V) : Except Str Kd :=
  if t.item = false then .error "item" else if w ≠ .non ∧ (isI w = false ∨ intOf w < 1 ∨ 3 < intOf w) then .error "width" else .ok (.items t.kd (oiOf w))
def chk (w n : V) (b : Bool) : Option Str := if okWord w = false then some "word" else if okName n = false then some "name" else if b = false then some "kind" else none
def mkInner (f : Str → Str → Kd → Kd) (w n : V) (t : Td) (b : Bool) : Except Str Kd := match chk w n b with
  | some p => .error p
  | none => .ok (f (strOf w) (strOf n) t.kd)
def mkPart (n : V) (t : Td) : Except Str Kd := if okName n = false then .error "name" else if t.simple = false then .error "kind" else .ok (.part (strOf n) t.kd)
/-- what a making ends in: an own error with the first part that is not as told, or the made thing -/
def Made (A : Ad) (x : Addr) (r : Except Str Kd) (H : Hp) (Q : VK) (E : XK) : Prop := match r with
  | .error p => ∀ (H' : Hp) (d : Addr), Same H H' → H' d = some (.xd [("part", .str p)]) → E (.ref A.c_BadKind) (some d) H'
  | .ok k => ∀ H', Same H H' → KAt A H' (.ref x) k → Q .non H'
/-- the fresh thing at x in H, H0 ahead of it -/
structure Fresh (C : Addr) (x : Addr) (H0 H : Hp) : Prop where
  no : H0 x = none
  s : Same H0 H
  at' : ∃ dx, H x = some (.ins C dx [])
theorem Fresh.mk' {C x dx : Addr} {H : Hp} (h1 : H x = none) (h2 : H dx = none) (ne : dx ≠ x) : Fresh C x H (upd (upd H dx (.own x)) x (.ins C dx [])) :=
  ⟨h1, fun b o e => by rw [upd_ne (ne_of_none e h1), upd_ne (ne_of_none e h2)]; exact e, dx, upd_same⟩
abbrev sp_BadKind___init__ (_ : PySem.W.Frag) (A : Ad) : Sp := sp_exc1 A.c_BadKind "part"
abbrev sp_is_integer (K : PySem.W.Frag) (_ : Ad) : Sp := Sp1 fun v H Q _ => ∃ t, VT K H v t ∧ Q (.bl (isI v)) H
abbrev sp_is_bits (K : PySem.W.Frag) (_ : Ad) : Sp := Sp1 fun v H Q _ => ∃ t, VT K H v t ∧ Q (.bl (okBits v)) H
abbrev sp_is_name (K : PySem.W.Frag) (_ : Ad) : Sp := Sp1 fun v H Q _ => ∃ t, VT K H v t ∧ Short v ∧ Q (.bl (okName v)) H
abbrev sp_is_word (K : PySem.W.Frag) (_ : Ad) : Sp := Sp1 fun v H Q _ => ∃ t, VT K H v t ∧ Short v ∧ Q (.bl (okWord v)) H
def pre2 (x y : Str) : Bool := PySem.Txt.startswith x y || PySem.Txt.startswith y x
abbrev sp_begins (_ : PySem.W.Frag) (_ : Ad) : Sp := Sp2 fun v w H Q _ => ∃ x y, v = .str x ∧ w = .str y ∧ Q (.bl (pre2 x y)) H
abbrev sp_is_width (K : PySem.W.Frag) (_ : Ad) : Sp := Sp2 fun v w H Q _ => ∃ t n, VT K H v t ∧ w = .int n ∧ Q (.bl (okW v n)) H
abbrev sp_is_simple (K : PySem.W.Frag) (A : Ad) : Sp := Sp1 fun v H Q _ => ∃ t, Th A K H v t ∧ ∀ H', Same H H' → Q (.bl t.simple) H'
abbrev sp_check_inner (K : PySem.W.Frag) (A : Ad) : Sp := Sp3 fun w n b H Q E => ∃ t1 t2 c, VT K H w t1 ∧ VT K H n t2 ∧ Short w ∧ Short n ∧ b = .bl c ∧ (match chk w n c with
  | some p => ∀ (H' : Hp) (d : Addr), Same H H' → H' d = some (.xd [("part", .str p)]) → E (.ref A.c_BadKind) (some d) H'
  | none => Q .non H)
abbrev sp_Number___init__ (K : PySem.W.Frag) (A : Ad) : Sp := Sp4 fun s a b w H Q E => ∃ (H0 : Hp) (x : Addr) (ta tb tw : Value), s = .ref x ∧ Fresh A.c_Number x H0 H ∧ VT K H0 a ta ∧ VT K H0 b tb ∧ VT K H0 w tw ∧ Made A x (mkNum a b w) H0 Q E
abbrev sp_Bits___init__ (K : PySem.W.Frag) (A : Ad) : Sp := Sp2 fun s a H Q E => ∃ (H0 : Hp) (x : Addr) (ta : Value), s = .ref x ∧ Fresh A.c_Bits x H0 H ∧ VT K H0 a ta ∧ Made A x (mkBits a) H0 Q E
abbrev sp_Call___init__ (K : PySem.W.Frag) (A : Ad) : Sp := Sp2 fun s a H Q E => ∃ (H0 : Hp) (x : Addr) (ta : Value), s = .ref x ∧ Fresh A.c_Call x H0 H ∧ VT K H0 a ta ∧ Short a ∧ Made A x (mkCall a) H0 Q E
abbrev sp_Items___init__ (K : PySem.W.Frag) (A : Ad) : Sp := Sp3 fun s a w H Q E => ∃ (H0 : Hp) (x : Addr) (t : Td) (tw : Value), s = .ref x ∧ Fresh A.c_Items x H0 H ∧ Th A K H0 a t ∧ VT K H0 w tw ∧ Made A x (mkItems t w) H0 Q E
abbrev sp_inner (C : Addr) (f : Str → Str → Kd → Kd) (ok : Td → Bool) (K : PySem.W.Frag) (A : Ad) : Sp := Sp4 fun s w n k H Q E => ∃ (H0 : Hp) (x : Addr) (tw tn : Value) (t : Td), s = .ref x ∧ Fresh C x H0 H ∧ VT K H0 w tw ∧ VT K H0 n tn ∧ Short w ∧ Short n ∧ Th A K H0 k t ∧ Made A x (mkInner f w n t (ok t)) H0 Q E
abbrev sp_Way___init__ (K : PySem.W.Frag) (A : Ad) : Sp := sp_inner A.c_Way .way Td.way K A
abbrev sp_Door___init__ (K : PySem.W.Frag) (A : Ad) : Sp := sp_inner A.c_Door .door Td.door K A
abbrev sp_Room___init__ (K : PySem.W.Frag) (A : Ad) : Sp := sp_inner A.c_Room .room Td.room K A
abbrev sp_Part___init__ (K : PySem.W.Frag) (A : Ad) : Sp := Sp3 fun s n k H Q E => ∃ (H0 : Hp) (x : Addr) (tn : Value) (t : Td), s = .ref x ∧ Fresh A.c_Part x H0 H ∧ VT K H0 n tn ∧ Short n ∧ Th A K H0 k t ∧ Made A x (mkPart n t) H0 Q E
/-- C.__eq__ -/
abbrev spEq (c : Kc) (A : Ad) : Sp := Sp2 fun v w H Q _ => ∃ d e, KAt A H v d ∧ d.cls = some c ∧ KAt A H w e ∧ d.nn e = true ∧ Q (.bl (d.eqk e)) H
abbrev sp_Number___eq__ (_ : PySem.W.Frag) (A : Ad) : Sp := spEq .num A
abbrev sp_Bits___eq__ (_ : PySem.W.Frag) (A : Ad) : Sp := spEq .bits A
abbrev sp_Call___eq__ (_ : PySem.W.Frag) (A : Ad) : Sp := spEq .call A
abbrev sp_Items___eq__ (_ : PySem.W.Frag) (A : Ad) : Sp := spEq .items A
abbrev sp_Nothing___eq__ (_ : PySem.W.Frag) (A : Ad) : Sp := spEq .nothing A
abbrev sp_Way___eq__ (_ : PySem.W.Frag) (A : Ad) : Sp := spEq .way A
abbrev sp_Door___eq__ (_ : PySem.W.Frag) (A : Ad) : Sp := spEq .door A
abbrev sp_Part___eq__ (_ : PySem.W.Frag) (A : Ad) : Sp := spEq .part A
abbrev sp_Room___eq__ (_ : PySem.W.Frag) (A : Ad) : Sp := spEq .room A
abbrev sp_Choice___eq__ (_ : PySem.W.Frag) (A : Ad) : Sp := spEq .choice A
abbrev sp_Row___eq__ (_ : PySem.W.Frag) (A : Ad) : Sp := spEq .row A
/-! a choice's ways, a row's parts -/
def Td.word : Td → Str
  | .k (.way w _ _) => w
  | .k (.door w _ _) => w
  | .k (.room w _ _) => w
  | _ => Str.empty
def Td.name : Td → Str
  | .k (.way _ n _) => n
  | .k (.door _ n _) => n
  | .k (.part n _) => n
  | .k (.room _ n _) => n
  | _ => Str.empty
/-- the one behind the others: it clashes with none of them -/
def clearW (seen : List Td) (t : Td) : Bool := seen.all fun o => !(pre2 t.word o.word) && !decide (t.name = o.name)
def clearP (seen : List Td) (t : Td) : Bool := seen.all fun o => !decide (t.name = o.name)
def goodW : List Td → List Td → Bool
  | _, [] => true
  | seen, t :: ts => t.wd && (clearW seen t && goodW (seen ++ [t]) ts)
def goodP : List Td → List Td → Bool
  | _, [] => true
  | seen, t :: ts => t.pr && (clearP seen t && goodP (seen ++ [t]) ts)
def okWays (ts : List Td) : Bool := decide (1 ≤ ts.length) && (decide (ts.length ≤ 12) && (goodW [] ts && ts.any fun t => decide (t.cls = some .way)))
def okParts (ts : List Td) : Bool := decide (1 ≤ ts.length) && (decide (ts.length ≤ 8) && (goodP [] ts && match ts.getLast? with
  | some t => decide (t.cls = some .part)
  | none => false))
/-- a list or a tuple of things, or another thing -/
inductive Seqs (A : Ad) (K : PySem.W.Frag) (H : Hp) : V → Option (List Td) → Prop where
  | lst {a : Addr} {vs : List V} {ts : List Td} (e : H a = some (.lst vs)) (h : Paired (Th A K H) vs ts) (n : vs.length ≤ 100) : Seqs A K H (.ref a) (some ts)
  | tup {a : Addr} {vs : List V} {ts : List Td} (e : H a = some (.tup vs)) (h : Paired (Th A K H) vs ts) (n : vs.length ≤ 100) : Seqs A K H (.ref a) (some ts)
  | no {v : V} {t : Value} (h : VT K H v t) (n1 : t ≠ .type "list") (n2 : t ≠ .type "tuple") : Seqs A K H v none
def mkSeq (f : List Kd → Kd) (ok : List Td → Bool) (p : Str) : Option (List Td) → Except Str Kd
  | some ts => if ok ts = false then .error p else .ok (f (ts.map Td.kd))
  | none => .error p
def okSeq (ok : List Td → Bool) : Option (List Td) → Bool
  | some ts => ok ts
  | none => false
abbrev sp_are_ways (K : PySem.W.Frag) (A : Ad) : Sp := Sp1 fun v H Q _ => ∃ o, Seqs A K H v o ∧ ∀ H', Same H H' → Q (.bl (okSeq okWays o)) H'
abbrev sp_are_parts (K : PySem.W.Frag) (A : Ad) : Sp := Sp1 fun v H Q _ => ∃ o, Seqs A K H v o ∧ ∀ H', Same H H' → Q (.bl (okSeq okParts o)) H'
abbrev sp_Choice___init__ (K : PySem.W.Frag) (A : Ad) : Sp := Sp2 fun s v H Q E => ∃ (H0 : Hp) (x : Addr) (o : Option (List Td)), s = .ref x ∧ Fresh A.c_Choice x H0 H ∧ Seqs A K H0 v o ∧ Made A x (mkSeq .choice okWays "ways" o) H0 Q E
abbrev sp_Row___init__ (K : PySem.W.Frag) (A : Ad) : Sp := Sp2 fun s v H Q E => ∃ (H0 : Hp) (x : Addr) (o : Option (List Td)), s = .ref x ∧ Fresh A.c_Row x H0 H ∧ Seqs A K H0 v o ∧ Made A x (mkSeq .row okParts "parts" o) H0 Q E

theorem same_new {H : Hp} {p : Addr} {o : HO} (h : H p = none) : Same H (upd H p o) := fun b u e => by rw [upd_ne (ne_of_none e h)]; exact e
theorem same_put {H0 H : Hp} {x : Addr} {o : HO} (no : H0 x = none) (s : Same H0 H) : Same H0 (upd H x o) := fun b u e => by rw [upd_ne (ne_of_none e no)]; exact s b u e
theorem Fresh.go {C x : Addr} {H0 H H' : Hp} (f : Fresh C x H0 H) (e : Same H H') : Fresh C x H0 H' := ⟨f.no, f.s.trans e, by obtain ⟨dx, h⟩ := f.at'; exact ⟨dx, e _ _ h⟩⟩
theorem raise_bad {A : Ad} {H0 H : Hp} {p : Str} {E : XK} (sm : Same H0 H) (k : ∀ (H' : Hp) (d : Addr), Same H0 H' → H' d = some (.xd [("part", .str p)]) → E (.ref A.c_BadKind) (some d) H') : ([V.str p] : List V).length ≤ 1000 ∧ ∀ a, H a = none →
    sp_exc1 A.c_BadKind "part" (.ref a :: ([V.str p] ++ [])) (upd H a (exo a A.c_BadKind none)) (fun u H2 => u = .non ∧ ∃ (d : Addr) (fs : List (Str × V)), H2 a = some (exo a A.c_BadKind (some d)) ∧ H2 d = some (exd d fs) ∧ H d = none ∧ E (.ref A.c_BadKind) (some d) (upd (L2.del H2 a) d (.xd fs))) (fun _ _ _ => False) :=
  mk_exc1 fun d hd => k _ d (sm.trans (same_new hd)) upd_same
theorem nI {i : Int} : ¬ isI (.int i) = false := fun z => nomatch z
theorem int_ex {v : V} (h : isI v = true) : ∃ i, v = .int i := by cases v <;> first | exact ⟨_, rfl⟩ | cases h
theorem iteY {P Q : Prop} (h : P) : if true = true then P else Q := by rw [if_pos rfl]; exact h
theorem okW_oi {v : V} {n : Int} (h : okW v n = true) : v = oi (oiOf v) := by cases v <;> first | rfl | cases h
theorem put1 {f : Str} {a : V} : ∀ p ∈ [(f, a)], (putF f a []).lookup p.1 = some p.2 := by
  intro p hp
  rw [List.mem_singleton.mp hp, lookup_putF, if_pos rfl]
theorem put2 {f g : Str} {a b : V} (n : ¬ f = g) : ∀ p ∈ [(f, a), (g, b)], (putF g b (putF f a [])).lookup p.1 = some p.2 := by
  intro p hp
  rcases List.mem_cons.mp hp with e | hp
  · rw [e, lookup_putF, if_neg n, lookup_putF, if_pos rfl]
  · rw [List.mem_singleton.mp hp, lookup_putF, if_pos rfl]
theorem put3 {f g h : Str} {a b c : V} (n1 : ¬ f = g) (n2 : ¬ f = h) (n3 : ¬ g = h) : ∀ p ∈ [(f, a), (g, b), (h, c)], (putF h c (putF g b (putF f a []))).lookup p.1 = some p.2 := by
  intro p hp
  rcases List.mem_cons.mp hp with e | hp
  · rw [e, lookup_putF, if_neg n2, lookup_putF, if_neg n1, lookup_putF, if_pos rfl]
  · rcases List.mem_cons.mp hp with e | hp
    · rw [e, lookup_putF, if_neg n3, lookup_putF, if_pos rfl]
    · rw [List.mem_singleton.mp hp, lookup_putF, if_pos rfl]
theorem put_len {fs : List (Str × V)} {f : Str} {v : V} {n : Nat} (h : fs.length ≤ n) : (putF f v fs).length ≤ n + 1 := Nat.le_trans (length_putF _ _ _) (Nat.succ_le_succ h)
theorem any_kc {K : PySem.W.Frag} {mg : Str → Option Value} {A : Ad} {H : Hp} {v : V} {t : Td} (T : Txt K mg A) (h : Th A K H v t) (cs : List Kc) : PySem.W.kitAny K (t.tag A) (cs.map fun c => Value.ref (A.kc c)) = some (cs.any fun c => decide (t.cls = some c)) := by
  rw [kitAny_isa]
  · rw [List.any_map]
    congr 1
    congr 1
    funext c
    exact isa_kc T t c
  · intro u hu
    obtain ⟨c, _, rfl⟩ := List.mem_map.mp hu
    exact kit_isaO (h.vt T).tag (T.kco c)
theorem eqk_ne {d e : Kd} (h : d.cls ≠ e.cls) : d.eqk e = false := by
  cases d <;> cases e <;> first | rfl | exact absurd rfl h
theorem dI {a b : Int} : decide (V.int a = V.int b) = decide (a = b) := decide_eq_decide.mpr ⟨fun h => by injection h, fun h => by rw [h]⟩
theorem dS {a b : Str} : decide (V.str a = V.str b) = decide (a = b) := decide_eq_decide.mpr ⟨fun h => by injection h, fun h => by rw [h]⟩
theorem dO {a b : Option Int} : decide (oi a = oi b) = decide (a = b) := by
  cases a <;> cases b
  · rfl
  · rfl
  · rfl
  · show decide (V.int _ = V.int _) = _
    rw [dI]
    exact decide_eq_decide.mpr ⟨fun h => by rw [h], fun h => by injection h⟩
theorem scal_oi {a b : Option Int} : scal (oi a) (oi b) = true := by cases a <;> cases b <;> rfl
theorem kat_ins {A : Ad} {H : Hp} {v : V} {d : Kd} {c : Kc} (h : KAt A H v d) (e : d.cls = some c) : ∃ x dx fs, v = .ref x ∧ H x = some (.ins (A.kc c) dx fs) := by
  have go : ∀ {C x : Addr} {l : List (Str × V)}, Ob C H x l → A.kc c = C → ∃ x' dx fs, V.ref x = .ref x' ∧ H x' = some (.ins (A.kc c) dx fs) := fun {C x l} h q => by
    obtain ⟨dx, fs, h1, _⟩ := h
    exact ⟨x, dx, fs, rfl, by rw [q]; exact h1⟩
  cases h <;> first | (cases e; done) | skip
  all_goals (have q := Option.some.inj e; subst q; exact go (by assumption) rfl)
theorem kat_non {A : Ad} {H : Hp} {v : V} {d : Kd} (h : KAt A H v d) (e : d.cls = none) : v = .non ∧ d = .none := by
  cases h <;> first | exact ⟨rfl, rfl⟩ | cases e
theorem kc_first {K : PySem.W.Frag} {mg : Str → Option Value} {A : Ad} (T : Txt K mg A) (c d : Kc) : PySem.W.notFirst K (A.kc c) (.ref (A.kc d)) = true := by
  unfold PySem.W.notFirst
  by_cases e : c = d
  · subst e; simp
  · rw [(T.kco d).sub, decide_eq_false]
    · simp
    · rintro (z | z)
      · exact T.kcne e (by injection z)
      · cases z
/-- == of kinds: the classes' own __eq__ at hand -/
inductive EqFs (X : Cx) (A : Ad) : List Kc → Prop where
  | nil : EqFs X A []
  | cons {c : Kc} {cs : List Kc} {f : Addr} {fd : FuncData} {n : Nat} (F : FnOk X.prog X.w X.K X.mg X.base CX0 n f fd ["self", "other"] (spEq c A)) (m : PySem.W.findIn X.K (.ref (A.kc c)) "__eq__" = some (some (.ref f))) (i : PySem.W.isFn X.K (.ref f) = true)
      (b : Binds X.K fd ["self", "other"] []) (r : Room n X.A) (t : EqFs X A cs) : EqFs X A (c :: cs)
def rEqKd (A : Ad) (L : List Kc) : R2 := fun x y H Q => ∃ d e, KAt A H x d ∧ KAt A H y e ∧ (d.cls = none ↔ e.cls = none) ∧ (∀ c, d.cls = some c → c ∈ L) ∧ d.nn e = true ∧ Q (.bl (d.eqk e)) H
theorem EqFs.op {X : Cx} {A : Ad} {c : Kc} : ∀ {L : List Kc}, EqFs X A L → c ∈ L → OpR X (compareOp .Eq) (rEqD X.K (A.kc c) (spEq c A))
  | _, .cons F m i b r t, h => by
    rcases List.mem_cons.mp h with e | h
    · subst e; exact op_eqD F m i b r
    · exact EqFs.op t h
theorem op_eqKd {X : Cx} {A : Ad} {L : List Kc} (T : Txt X.K X.mg A) (F : EqFs X A L) : OpR X (compareOp .Eq) (rEqKd A L) := by
  intro pins s σ H x y u v Q I rx ry h
  obtain ⟨d, e, hd, he, nn, hc, hn, q⟩ := h
  cases z : d.cls with
  | none =>
    obtain ⟨rfl, rfl⟩ := kat_non hd z
    obtain ⟨rfl, rfl⟩ := kat_non he (nn.mp z)
    exact op_eq pins s σ H _ _ u v Q I rx ry ⟨rfl, q⟩
  | some c =>
    obtain ⟨a, dx, fs, rfl, ha⟩ := kat_ins hd z
    cases z2 : e.cls with
    | none => rw [nn.mpr z2] at z; cases z
    | some c2 =>
      obtain ⟨b, dy, gs, rfl, hb⟩ := kat_ins he z2
      exact F.op (hc c z) pins s σ H _ _ u v Q I rx ry ⟨a, b, dx, fs, _, dy, gs, rfl, rfl, ha, hb, kc_first T c c2, _, _, rfl, d, e, hd, z, he, hn, q⟩

theorem chk_none {w n : V} {b : Bool} (h : chk w n b = none) : w = .str (strOf w) ∧ n = .str (strOf n) ∧ b = true := by
  unfold chk at h
  by_cases h1 : okWord w = false
  · rw [if_pos h1] at h; cases h
  rw [if_neg h1] at h
  by_cases h2 : okName n = false
  · rw [if_pos h2] at h; cases h
  rw [if_neg h2] at h
  by_cases h3 : b = false
  · rw [if_pos h3] at h; cases h
  refine ⟨?_, ?_, by simpa using h3⟩
  · cases w <;> first | rfl | exact absurd rfl h1
  · cases n <;> first | rfl | exact absurd rfl h2
theorem inner_go {A : Ad} {x : Addr} {f : Str → Str → Kd → Kd} {w n : V} {t : Td} {b : Bool} {H0 H : Hp} {Q : VK} {E : XK} {G : Prop} (sm : Same H0 H) (k : Made A x (mkInner f w n t b) H0 Q E)
    (g : chk w n b = none → (∀ H', Same H0 H' → KAt A H' (.ref x) (f (strOf w) (strOf n) t.kd) → Q .non H') → G) : (match chk w n b with
      | some p => ∀ (H' : Hp) (d : Addr), Same H H' → H' d = some (.xd [("part", .str p)]) → E (.ref A.c_BadKind) (some d) H'
      | none => G) := by
  unfold mkInner at k
  cases e : chk w n b with
  | some p =>
    rw [e] at k
    exact fun H' d s h => k H' d (sm.trans s) h
  | none =>
    rw [e] at k
    exact g e k
theorem th_non {K : PySem.W.Frag} {A : Ad} {H : Hp} {v : V} {t : Td} (h : Th A K H v t) : decide (v = V.non) = t.isNone := by
  cases t with
  | k d => cases h <;> rfl
  | raw n =>
    obtain ⟨h1, h2⟩ := h
    show _ = false
    rw [decide_eq_false]
    intro z
    subst z
    cases h2
    exact absurd h1 (by decide)
theorem kd_of {t : Td} {c : Kc} (h : t.cls = some c) : t = .k t.kd := by cases t <;> first | rfl | cases h
theorem any_of {t : Td} {L : List Kc} (h : (L.any fun c => decide (t.cls = some c)) = true) : ∃ c, c ∈ L ∧ t.cls = some c := by
  obtain ⟨c, h1, h2⟩ := List.any_eq_true.mp h
  exact ⟨c, h1, of_decide_eq_true h2⟩
theorem any_kd {t : Td} {L : List Kc} (h : (L.any fun c => decide (t.cls = some c)) = true) : t = .k t.kd := by
  obtain ⟨c, _, e⟩ := any_of h
  exact kd_of e
theorem any_mem {d : Kd} {L : List Kc} (h : (L.any fun c => decide ((Td.k d).cls = some c)) = true) : (∀ c, d.cls = some c → c ∈ L) ∧ d.cls ≠ none := by
  obtain ⟨c, h1, e⟩ := any_of h
  have e' : d.cls = some c := e
  exact ⟨fun c' e2 => by rw [e'] at e2; injection e2 with e2; rw [← e2]; exact h1, by rw [e']; exact fun z => nomatch z⟩
abbrev wayL : List Kc := [.num, .bits, .items, .call, .nothing]
theorem way_any {t : Td} (h : t.way = true) : (wayL.any fun c => decide (t.cls = some c)) = true := by
  unfold Td.way Td.simple at h
  simp only [wayL, List.any_cons, List.any_nil, Bool.or_false, Bool.or_eq_true] at h ⊢
  rcases h with (h | h | h | h) | h <;> simp only [h, true_or, or_true]
theorem simple_way {t : Td} (h : t.simple = true) : t.way = true := by unfold Td.way; rw [h]; rfl
theorem door_way {d : Kd} (h : (Td.k d).door = true) (n : d.cls ≠ none) : (Td.k d).way = true := by
  cases d <;> first | exact absurd rfl n | exact h
theorem room_simple {d : Kd} (h : (Td.k d).room = true) (n : d.cls ≠ none) : (Td.k d).simple = true := by
  cases d <;> first | exact absurd rfl n | exact h
theorem nn_flat {d e : Kd} (h : d.cls ≠ none → (Td.k d).way = true) : d.nn e = true := by
  cases d <;> first | rfl | exact nomatch (show false = true from h (fun z => nomatch z))
theorem iff_no {d e : Kd} (h1 : d.cls ≠ none) (h2 : e.cls ≠ none) : d.cls = none ↔ e.cls = none := ⟨fun z => absurd z h1, fun z => absurd z h2⟩
theorem iff_of {d e : Kd} (h : (decide (d.cls = none) == decide (e.cls = none)) = true) : d.cls = none ↔ e.cls = none := by
  rw [beq_iff_eq, decide_eq_decide] at h
  exact h
theorem isa_cls {K : PySem.W.Frag} {mg : Str → Option Value} {A : Ad} (T : Txt K mg A) {t : Td} {c : Kc} {b : Bool} (h : isa (t.tag A) (.ref (A.kc c)) = b) : decide (t.cls = some c) = b := (isa_kc T t c).symm.trans h

theorem any_lt {K : PySem.W.Frag} {H : Hp} {v : V} {t : Value} (h : VT K H v t) : PySem.W.kitAny K t [.type "list", .type "tuple"] = some (isa t (.type "list") || (isa t (.type "tuple") || false)) :=
  kitAny_isa fun u hu => by
    rcases List.mem_cons.mp hu with e | hu
    · rw [e]; exact kit_isa h.tag (by decide)
    · rw [List.mem_singleton.mp hu]; exact kit_isa h.tag (by decide)
theorem isa_not {t : Value} {n : String} (h : t ≠ .type n) (hb : n ≠ "int") : isa t (.type n) = false := by
  unfold isa
  rw [decide_eq_false h, decide_eq_false (show ¬ Value.type n = Value.type "int" from fun z => hb (by injection z)), Bool.and_false]
  rfl
theorem isa_self {t : Value} : isa t t = true := by
  unfold isa
  rw [decide_eq_true rfl]
  rfl
theorem paired_at {R : V → Td → Prop} : ∀ {xs : List V} {ts : List Td} {j : Nat} {y : V}, Paired R xs ts → xs[j]? = some y → ∃ t, ts[j]? = some t ∧ R y t
  | _, _, _, _, .nil, h => by simp at h
  | _, _, 0, _, .cons h t, e => by
    have q := Option.some.inj e
    subst q
    exact ⟨_, rfl, h⟩
  | _, _, j + 1, _, .cons h t, e => paired_at (j := j) t e
theorem paired_len {R : V → Td → Prop} : ∀ {xs : List V} {ts : List Td}, Paired R xs ts → xs.length = ts.length
  | _, _, .nil => rfl
  | _, _, .cons _ t => congrArg Nat.succ (paired_len t)
theorem ths_keep {A : Ad} {K : PySem.W.Frag} {H H' : Hp} (e : KI H H') : ∀ {xs : List V} {ts : List Td}, Paired (Th A K H) xs ts → Paired (Th A K H') xs ts
  | _, _, .nil => .nil
  | _, _, .cons h t => .cons (h.keep e) (ths_keep e t)
theorem Seqs.keep {A : Ad} {K : PySem.W.Frag} {H H' : Hp} {v : V} {o : Option (List Td)} (e : Same H H') (h : Seqs A K H v o) : Seqs A K H' v o := by
  cases h with
  | lst h1 h2 n => exact .lst (e _ _ h1) (ths_keep (KI.same e) h2) n
  | tup h1 h2 n => exact .tup (e _ _ h1) (ths_keep (KI.same e) h2) n
  | no h1 n1 n2 => exact .no (h1.keep (KK.same e)) n1 n2
theorem goodW_app (l r : List Td) : ∀ s, goodW s (l ++ r) = (goodW s l && goodW (s ++ l) r) := by
  induction l with
  | nil => intro s; simp [goodW]
  | cons t l ih =>
    intro s
    show (t.wd && (clearW s t && goodW (s ++ [t]) (l ++ r))) = ((t.wd && (clearW s t && goodW (s ++ [t]) l)) && goodW (s ++ t :: l) r)
    rw [ih, List.append_assoc, Bool.and_assoc, Bool.and_assoc]
    rfl
theorem goodP_app (l r : List Td) : ∀ s, goodP s (l ++ r) = (goodP s l && goodP (s ++ l) r) := by
  induction l with
  | nil => intro s; simp [goodP]
  | cons t l ih =>
    intro s
    show (t.pr && (clearP s t && goodP (s ++ [t]) (l ++ r))) = ((t.pr && (clearP s t && goodP (s ++ [t]) l)) && goodP (s ++ t :: l) r)
    rw [ih, List.append_assoc, Bool.and_assoc, Bool.and_assoc]
    rfl
theorem split_at {ts : List Td} {i : Nat} {t : Td} (h : ts[i]? = some t) : ts = ts.take i ++ t :: ts.drop (i + 1) := by
  obtain ⟨h1, h2⟩ := List.getElem?_eq_some_iff.mp h
  rw [← h2, List.getElem_cons_drop, List.take_append_drop]
theorem take_one {ts : List Td} {i : Nat} {t : Td} (h : ts[i]? = some t) : ts.take (i + 1) = ts.take i ++ [t] := by
  rw [List.take_succ, h]
  rfl
theorem goodW_bad {ts : List Td} {i : Nat} {t : Td} (h : ts[i]? = some t) (w : t.wd = false) : goodW [] ts = false := by
  rw [split_at h, goodW_app]
  simp [goodW, w]
theorem goodW_bad2 {ts : List Td} {i : Nat} {t : Td} (h : ts[i]? = some t) (w : clearW (ts.take i) t = false) : goodW [] ts = false := by
  rw [split_at h, goodW_app]
  simp [goodW, w]
theorem goodW_step {ts : List Td} {i : Nat} {t : Td} (h : ts[i]? = some t) (g : goodW [] (ts.take i) = true) (w : t.wd = true) (c : clearW (ts.take i) t = true) : goodW [] (ts.take (i + 1)) = true := by
  rw [take_one h, goodW_app, g]
  simp [goodW, w, c]
theorem goodP_bad {ts : List Td} {i : Nat} {t : Td} (h : ts[i]? = some t) (w : t.pr = false) : goodP [] ts = false := by
  rw [split_at h, goodP_app]
  simp [goodP, w]
theorem goodP_bad2 {ts : List Td} {i : Nat} {t : Td} (h : ts[i]? = some t) (w : clearP (ts.take i) t = false) : goodP [] ts = false := by
  rw [split_at h, goodP_app]
  simp [goodP, w]
theorem goodP_step {ts : List Td} {i : Nat} {t : Td} (h : ts[i]? = some t) (g : goodP [] (ts.take i) = true) (w : t.pr = true) (c : clearP (ts.take i) t = true) : goodP [] (ts.take (i + 1)) = true := by
  rw [take_one h, goodP_app, g]
  simp [goodP, w, c]
theorem goodW_wd : ∀ {l s : List Td}, goodW s l = true → ∀ o ∈ l, o.wd = true
  | [], _, _, o, h => by simp at h
  | t :: l, s, g, o, h => by
    simp only [goodW, Bool.and_eq_true] at g
    rcases List.mem_cons.mp h with e | h
    · rw [e]; exact g.1
    · exact goodW_wd g.2.2 o h
theorem goodP_pr : ∀ {l s : List Td}, goodP s l = true → ∀ o ∈ l, o.pr = true
  | [], _, _, o, h => by simp at h
  | t :: l, s, g, o, h => by
    simp only [goodP, Bool.and_eq_true] at g
    rcases List.mem_cons.mp h with e | h
    · rw [e]; exact g.1
    · exact goodP_pr g.2.2 o h
theorem all_step {l : List Td} {f : Td → Bool} {j : Nat} {t : Td} (h : (l.take j).all f = true) (hc : l[j]? = some t) (hf : f t = true) : (l.take (j + 1)).all f = true := by
  rw [List.take_succ, hc, List.all_append, h]
  simp [hf]
theorem all_bad {l : List Td} {f : Td → Bool} {j : Nat} {t : Td} (hc : l[j]? = some t) (hf : f t = false) : l.all f = false := by
  rw [Bool.eq_false_iff]
  intro z
  have := List.all_eq_true.mp z t (List.mem_of_getElem? hc)
  rw [hf] at this
  cases this
theorem cut_to {xs : List V} {i : Nat} : cutV xs none (some (i : Int)) = xs.take i := by
  unfold cutV
  rw [HT.sIx_none, HT.sIx_nat, List.drop_zero, Nat.sub_zero]
  by_cases h : i ≤ xs.length
  · rw [Nat.min_eq_left h]
  · rw [Nat.min_eq_right (by omega), List.take_length, List.take_of_length_le (by omega)]
theorem seql_same {K : PySem.W.Frag} {H H' : Hp} {a : Addr} {xs : List V} (e : Same H H') (h : SqL K H a xs) : SqL K H' a xs := e.seq h
/-- a way's or a door's word and name -/
theorem wd_fld {K : PySem.W.Frag} {mg : Str → Option Value} {A : Ad} {H : Hp} {v : V} {t : Td} (T : Txt K mg A) (h : Th A K H v t) (w : t.wd = true) : ∃ x C dx fs, v = .ref x ∧ H x = some (.ins C dx fs) ∧ Cls K C ∧ NoAttr K C "word" ∧ NoAttr K C "name" ∧
    fs.lookup ("word" : Str) = some (.str t.word) ∧ fs.lookup ("name" : Str) = some (.str t.name) := by
  have q := any_kd w
  rw [q] at h w ⊢
  generalize t.kd = d at h w
  have h2 : KAt A H v d := h
  cases h2 with
  | way ob _ _ =>
    obtain ⟨dx, fs, h1, lk⟩ := ob
    exact ⟨_, _, dx, fs, rfl, h1, T.cl_Way, T.n_Way_word, T.n_Way_name, lk _ (List.mem_cons_self ..), lk _ (List.mem_cons_of_mem _ (List.mem_cons_self ..))⟩
  | door ob _ _ =>
    obtain ⟨dx, fs, h1, lk⟩ := ob
    exact ⟨_, _, dx, fs, rfl, h1, T.cl_Door, T.n_Door_word, T.n_Door_name, lk _ (List.mem_cons_self ..), lk _ (List.mem_cons_of_mem _ (List.mem_cons_self ..))⟩
  | _ => exact nomatch (show false = true from w)
theorem pr_fld {K : PySem.W.Frag} {mg : Str → Option Value} {A : Ad} {H : Hp} {v : V} {t : Td} (T : Txt K mg A) (h : Th A K H v t) (w : t.pr = true) : ∃ x C dx fs, v = .ref x ∧ H x = some (.ins C dx fs) ∧ Cls K C ∧ NoAttr K C "name" ∧
    fs.lookup ("name" : Str) = some (.str t.name) := by
  have q := any_kd w
  rw [q] at h w ⊢
  generalize t.kd = d at h w
  have h2 : KAt A H v d := h
  cases h2 with
  | part ob _ _ =>
    obtain ⟨dx, fs, h1, lk⟩ := ob
    exact ⟨_, _, dx, fs, rfl, h1, T.cl_Part, T.n_Part_name, lk _ (List.mem_cons_self ..)⟩
  | room ob _ _ =>
    obtain ⟨dx, fs, h1, lk⟩ := ob
    exact ⟨_, _, dx, fs, rfl, h1, T.cl_Room, T.n_Room_name, lk _ (List.mem_cons_of_mem _ (List.mem_cons_self ..))⟩
  | _ => exact nomatch (show false = true from w)
theorem kats_of {A : Ad} {K : PySem.W.Frag} {H : Hp} : ∀ {xs : List V} {ts : List Td}, Paired (Th A K H) xs ts → (∀ t ∈ ts, t = .k t.kd) → KAts A H xs (ts.map Td.kd)
  | _, _, .nil, _ => .nil
  | _, _, .cons h t, w => .cons (by
      have h2 := h
      rw [w _ (List.mem_cons_self ..)] at h2
      exact h2) (kats_of t fun o ho => w o (List.mem_cons_of_mem _ ho))
theorem okWays_good {ts : List Td} (h : okWays ts = true) : goodW [] ts = true := by
  simp only [okWays, Bool.and_eq_true] at h
  exact h.2.2.1
theorem okParts_good {ts : List Td} (h : okParts ts = true) : goodP [] ts = true := by
  simp only [okParts, Bool.and_eq_true] at h
  exact h.2.2.1
theorem heap_gen2 {α : Type} {G : Hp → α → Prop} {H0 : Hp} {q : α} (C : Hp → Prop) (h : C H0) (k : ∀ H1, C H1 → G H1 q) : G H0 q := k _ h
theorem item_way {t : Td} (h : t.item = true) : t.way = true := by
  unfold Td.way Td.simple
  unfold Td.item at h
  simp only [List.any_cons, List.any_nil, Bool.or_false, Bool.or_eq_true] at h ⊢
  rcases h with h | h | h <;> simp only [h, true_or, or_true]
theorem eqk_cls {d e : Kd} {c : Kc} (dc : d.cls = some c) (q : decide ((Td.k e).cls = some c) = false) : d.eqk e = false :=
  eqk_ne (by rw [dc]; exact fun w => of_decide_eq_false q w.symm)
theorem made_cases {A : Ad} {x : Addr} {r : Except Str Kd} {H : Hp} {Q : VK} {E : XK} (he : ∀ p, r = .error p → ∀ (H' : Hp) (d : Addr), Same H H' → H' d = some (.xd [("part", .str p)]) → E (.ref A.c_BadKind) (some d) H') (hk : ∀ k, r = .ok k → ∀ H', Same H H' → KAt A H' (.ref x) k → Q .non H') : Made A x r H Q E := by
  cases r with
  | error p => exact he p rfl
  | ok k => exact hk k rfl
theorem made_ok {A : Ad} {x : Addr} {r : Except Str Kd} {kd : Kd} {H : Hp} {Q : VK} {E : XK} (e : r = .ok kd) (hk : ∀ H', Same H H' → KAt A H' (.ref x) kd → Q .non H') : Made A x r H Q E := by
  subst e
  exact hk
mutual
theorem eqk_refl : ∀ k : Kd, k.eqk k = true
  | .num a b w => by simp [Kd.eqk]
  | .bits n => by simp [Kd.eqk]
  | .call s => by simp [Kd.eqk]
  | .items i w => by simp [Kd.eqk, eqk_refl i]
  | .nothing => rfl
  | .none => rfl
  | .way w n k => by simp [Kd.eqk, eqk_refl k]
  | .door w n k => by simp [Kd.eqk, eqk_refl k]
  | .part n k => by simp [Kd.eqk, eqk_refl k]
  | .room w n k => by simp [Kd.eqk, eqk_refl k]
  | .choice ks => by simp [Kd.eqk, eqAll_refl ks]
  | .row ks => by simp [Kd.eqk, eqAll_refl ks]
theorem eqAll_refl : ∀ ks : List Kd, Kd.eqAll ks ks = true
  | [] => rfl
  | k :: ks => by simp [Kd.eqAll, eqk_refl k, eqAll_refl ks]
end
mutual
theorem nn_refl : ∀ k : Kd, k.nn k = true
  | .num _ _ _ => rfl
  | .bits _ => rfl
  | .call _ => rfl
  | .items _ _ => rfl
  | .nothing => rfl
  | .none => rfl
  | .way _ _ _ => rfl
  | .door _ _ _ => by simp [Kd.nn]
  | .part _ _ => rfl
  | .room _ _ _ => by simp [Kd.nn]
  | .choice ks => by simp [Kd.nn, nnAll_refl ks]
  | .row ks => by simp [Kd.nn, nnAll_refl ks]
theorem nnAll_refl : ∀ ks : List Kd, Kd.nnAll ks ks = true
  | [] => rfl
  | k :: ks => by simp [Kd.nnAll, nn_refl k, nnAll_refl ks]
end
/-- two like kinds: the reading of == -/
theorem eqkd_same {A : Ad} {L : List Kc} {x y : V} {H : Hp} {Q : VK} {d : Kd} {c : Kc} (hx : KAt A H x d) (hy : KAt A H y d) (hc : d.cls = some c) (hl : c ∈ L) (q : Q (.bl true) H) : rEqKd A L x y H Q :=
  ⟨d, d, hx, hy, Iff.rfl, fun c' e => by rw [hc] at e; injection e with e; rw [← e]; exact hl, nn_refl d, by rw [eqk_refl]; exact q⟩
theorem ite_err {c : Prop} [Decidable c] {p : Str} {r : Except Str Kd} {k : Kd} (h : (if c then Except.error p else r) = .ok k) : ¬ c ∧ r = .ok k := by
  by_cases hc : c
  · rw [if_pos hc] at h; cases h
  · rw [if_neg hc] at h; exact ⟨hc, h⟩
theorem mkNum_ok {a b w : V} {k : Kd} (h : mkNum a b w = .ok k) : a = .int (intOf a) ∧ b = .int (intOf b) ∧ w = oi (oiOf w) ∧ k = .num (intOf a) (intOf b) (oiOf w) := by
  obtain ⟨h1, h⟩ := ite_err h
  obtain ⟨h2, h⟩ := ite_err h
  obtain ⟨h3, h⟩ := ite_err h
  have e := Except.ok.inj h
  exact ⟨intOf_isI (by simpa using h1), intOf_isI (by cases z : isI b with | true => rfl | false => exact absurd (.inl z) h2), okW_oi (by simpa using h3), e.symm⟩
theorem mkBits_ok {v : V} {k : Kd} (h : mkBits v = .ok k) : v = .int (intOf v) ∧ k = .bits (intOf v) := by
  obtain ⟨h1, h⟩ := ite_err h
  have e := Except.ok.inj h
  exact ⟨intOf_isI (by cases z : isI v with | true => rfl | false => exact absurd (.inl z) h1), e.symm⟩
theorem mkCall_ok {v : V} {k : Kd} (h : mkCall v = .ok k) : v = .str (strOf v) ∧ k = .call (strOf v) := by
  obtain ⟨h1, h⟩ := ite_err h
  have e := Except.ok.inj h
  exact ⟨by cases v <;> first | rfl | exact absurd rfl h1, e.symm⟩
theorem mkItems_ok {t : Td} {w : V} {k : Kd} (h : mkItems t w = .ok k) : t.item = true ∧ w = oi (oiOf w) ∧ k = .items t.kd (oiOf w) := by
  obtain ⟨h1, h⟩ := ite_err h
  obtain ⟨h2, h⟩ := ite_err h
  have e := Except.ok.inj h
  refine ⟨by simpa using h1, ?_, e.symm⟩
  by_cases z : w = .non
  · rw [z]; rfl
  · cases w <;> first | rfl | exact absurd ⟨z, .inl rfl⟩ h2
theorem KI.new2 {H : Hp} {D : Addr} {o o2 : HO} (h : H D = none) : KI H (upd (upd H D o) D o2) := KI.same fun b u e => by rw [upd_ne (ne_of_none e h), upd_ne (ne_of_none e h)]; exact e
theorem Chg.new2 {d : Dr} {H : Hp} {D : Addr} {o o2 : HO} (h : H D = none) : Chg d H (L2.upd (L2.upd H D o) D o2) := fun b u n e => by rw [upd_ne (ne_of_none e h), upd_ne (ne_of_none e h)]; exact e
theorem Rng.new2 {d : Dr} {H : Hp} {D : Addr} {o o2 : HO} (r : Rng d H) (h : H D = none) : Rng d (upd (upd H D o) D o2) := (r.new h).put (r.nep h) (r.nel h)
theorem pick_at {xs : List V} {v : Int} (h0 : 0 ≤ v) (h1 : v < (xs.length : Int)) : ∃ x, x ∈ xs ∧ atI xs v = some x := by
  obtain ⟨n, rfl⟩ := Int.eq_ofNat_of_zero_le h0
  have hn : n < xs.length := by omega
  exact ⟨xs[n], List.getElem_mem hn, atI_nat (by simp [hn])⟩
theorem cut_tup {xs : List V} {i : Nat} (h : i < xs.length) : ¬ (HT.sIx xs.length 0 none = 0 ∧ HT.sIx xs.length xs.length (some (i : Int)) = xs.length) := by
  rintro ⟨_, w⟩
  rw [HT.sIx_nat] at w
  omega

/-! ================= tables of kinds ================= -/
mutual
theorem KAt.keepIT {A : Ad} {H H' : Hp} (i : ∀ b C dx fs, H b = some (.ins C dx fs) → H' b = some (.ins C dx fs)) (t : ∀ b xs, H b = some (.tup xs) → H' b = some (.tup xs)) : ∀ {v : V} {d : Kd}, KAt A H v d → KAt A H' v d
  | _, _, .num ⟨dx, fs, h1, h2⟩ => .num ⟨dx, fs, i _ _ _ _ h1, h2⟩
  | _, _, .bits ⟨dx, fs, h1, h2⟩ => .bits ⟨dx, fs, i _ _ _ _ h1, h2⟩
  | _, _, .call ⟨dx, fs, h1, h2⟩ => .call ⟨dx, fs, i _ _ _ _ h1, h2⟩
  | _, _, .items ⟨dx, fs, h1, h2⟩ k o => .items ⟨dx, fs, i _ _ _ _ h1, h2⟩ (k.keepIT i t) o
  | _, _, .nothing ⟨dx, fs, h1, h2⟩ => .nothing ⟨dx, fs, i _ _ _ _ h1, h2⟩
  | _, _, .none => .none
  | _, _, .way ⟨dx, fs, h1, h2⟩ k o => .way ⟨dx, fs, i _ _ _ _ h1, h2⟩ (k.keepIT i t) o
  | _, _, .door ⟨dx, fs, h1, h2⟩ k o => .door ⟨dx, fs, i _ _ _ _ h1, h2⟩ (k.keepIT i t) o
  | _, _, .part ⟨dx, fs, h1, h2⟩ k o => .part ⟨dx, fs, i _ _ _ _ h1, h2⟩ (k.keepIT i t) o
  | _, _, .room ⟨dx, fs, h1, h2⟩ k o => .room ⟨dx, fs, i _ _ _ _ h1, h2⟩ (k.keepIT i t) o
  | _, _, .choice ⟨dx, fs, h1, h2⟩ e k o => .choice ⟨dx, fs, i _ _ _ _ h1, h2⟩ (t _ _ e) (KAts.keepIT i t k) o
  | _, _, .row ⟨dx, fs, h1, h2⟩ e k o => .row ⟨dx, fs, i _ _ _ _ h1, h2⟩ (t _ _ e) (KAts.keepIT i t k) o
theorem KAts.keepIT {A : Ad} {H H' : Hp} (i : ∀ b C dx fs, H b = some (.ins C dx fs) → H' b = some (.ins C dx fs)) (t : ∀ b xs, H b = some (.tup xs) → H' b = some (.tup xs)) : ∀ {vs : List V} {ds : List Kd}, KAts A H vs ds → KAts A H' vs ds
  | _, _, .nil => .nil
  | _, _, .cons h r => .cons (h.keepIT i t) (KAts.keepIT i t r)
end
abbrev Tb := List (Str × Kd)
def Tb.names (tb : Tb) : List Str := tb.map (·.1)
/-- an entry of the dict, an entry of the table -/
def EntAt (A : Ad) (H : Hp) (kv : Key × V) (x : Str × Kd) : Prop := kv.1 = .inr x.1 ∧ KAt A H kv.2 x.2
structure TbAt (A : Ad) (H : Hp) (p : Addr) (tb : Tb) (kvs : List (Key × V)) : Prop where
  rd : Rd H p (.dK kvs)
  en : Paired (EntAt A H) kvs tb
theorem paired_impE {α β : Type} {R S : α → β → Prop} (f : ∀ a b, R a b → S a b) : ∀ {xs : List α} {ys : List β}, Paired R xs ys → Paired S xs ys
  | _, _, .nil => .nil
  | _, _, .cons h t => .cons (f _ _ h) (paired_impE f t)
theorem pair_lenE {α β : Type} {R : α → β → Prop} : ∀ {xs : List α} {ts : List β}, Paired R xs ts → xs.length = ts.length
  | _, _, .nil => rfl
  | _, _, .cons _ t => congrArg Nat.succ (pair_lenE t)
theorem pair_getE {α β : Type} {R : α → β → Prop} : ∀ {xs : List α} {ys : List β} {j : Nat}, Paired R xs ys → ∀ (h : j < xs.length) (h2 : j < ys.length), R xs[j] ys[j]
  | _, _, 0, .cons h t, _, _ => h
  | _, _, j + 1, .cons h t, h1, h2 => pair_getE (j := j) t (Nat.lt_of_succ_lt_succ h1) (Nat.lt_of_succ_lt_succ h2)
  | _, _, _, .nil, h1, _ => absurd h1 (Nat.not_lt_zero _)
theorem paired_snocE {α β : Type} {R : α → β → Prop} {v : α} {t : β} (h : R v t) : ∀ {xs : List α} {ys : List β}, Paired R xs ys → Paired R (xs ++ [v]) (ys ++ [t])
  | _, _, .nil => .cons h .nil
  | _, _, .cons a t => .cons a (paired_snocE h t)
theorem Rd.same {H H' : Hp} {p : Addr} {u : HO} (e : Same H H') (h : Rd H p u) : Rd H' p u := by
  rcases h with h | ⟨o, h⟩
  · exact .inl (e _ _ h)
  · exact .inr ⟨o, e _ _ h⟩
theorem TbAt.same {A : Ad} {H H' : Hp} {p : Addr} {tb : Tb} {kvs : List (Key × V)} (e : Same H H') (h : TbAt A H p tb kvs) : TbAt A H' p tb kvs :=
  ⟨Rd.same e h.rd, paired_impE (fun _ _ q => ⟨q.1, q.2.keep (KI.same e)⟩) h.en⟩
theorem TbAt.len {A : Ad} {H : Hp} {p : Addr} {tb : Tb} {kvs : List (Key × V)} (h : TbAt A H p tb kvs) : kvs.length = tb.length := pair_lenE h.en
theorem TbAt.keys {A : Ad} {H : Hp} {p : Addr} {tb : Tb} {kvs : List (Key × V)} (h : TbAt A H p tb kvs) : kvs.map (·.1) = tb.names.map Sum.inr := by
  have e := h.en
  clear h
  induction e with
  | nil => rfl
  | cons a t ih => exact List.cons_eq_cons.mpr ⟨a.1, ih⟩
theorem ents_val {A : Ad} {H : Hp} {n : Str} : ∀ {kvs : List (Key × V)} {tb : Tb}, Paired (EntAt A H) kvs tb → (∃ k v, tb.lookup n = some k ∧ valV kvs (.inr n : Key) = some v ∧ KAt A H v k) ∨ (n ∉ tb.names ∧ tb.lookup n = none ∧ valV kvs (.inr n : Key) = none)
  | _, _, .nil => .inr ⟨(fun z => nomatch z), rfl, rfl⟩
  | kv :: kvs, x :: tb, .cons a t => by
    obtain ⟨m, k⟩ := x
    obtain ⟨a1, a2⟩ := a
    by_cases e : n = m
    · subst e
      exact .inl ⟨k, kv.2, by simp [List.lookup], valV_pos a1, a2⟩
    · have e2 : (n == m) = false := by simpa using e
      have e3 : ¬ kv.1 = (.inr n : Key) := by
        rw [a1]
        intro z
        injection z with z
        exact e z.symm
      rw [valV_neg e3, List.lookup_cons, e2]
      rcases ents_val t with q | ⟨q1, q2, q3⟩
      · exact .inl q
      · exact .inr ⟨fun z => by rcases List.mem_cons.mp z with z | z; exact e z; exact q1 z, q2, q3⟩
theorem look_mem {tb : Tb} {n : Str} {k : Kd} (h : tb.lookup n = some k) : (n, k) ∈ tb := PySem.mem_of_lookup h
theorem look_has {tb : Tb} {n : Str} (h : n ∈ tb.names) : ∃ k, tb.lookup n = some k := by
  induction tb with
  | nil => cases h
  | cons x tb ih =>
    obtain ⟨m, k⟩ := x
    by_cases e : n = m
    · subst e
      exact ⟨k, by simp [List.lookup]⟩
    · have e2 : (n == m) = false := by simpa using e
      rw [List.lookup_cons, e2]
      refine ih ?_
      rcases List.mem_cons.mp h with z | z
      · exact absurd z e
      · exact z
/-- table[name] -/
theorem TbAt.get {A : Ad} {H : Hp} {p : Addr} {tb : Tb} {kvs : List (Key × V)} {n : Str} (h : TbAt A H p tb kvs) (hn : n ∈ tb.names) : ∃ k v, tb.lookup n = some k ∧ KAt A H v k ∧ DGet H p (.str n) (some v) := by
  obtain ⟨k0, e0⟩ := look_has hn
  rcases ents_val (n := n) h.en with ⟨k, v, h1, h2, h3⟩ | ⟨q, _⟩
  · exact ⟨k, v, h1, h3, .inl ⟨kvs, .inr n, h.rd, rfl, h2.symm⟩⟩
  · exact absurd hn q
/-- name in table -/
theorem TbAt.has {A : Ad} {H : Hp} {p : Addr} {tb : Tb} {kvs : List (Key × V)} (n : Str) (h : TbAt A H p tb kvs) : ∃ o : Option V, DGet H p (.str n) o ∧ o.isSome = decide (n ∈ tb.names) := by
  rcases ents_val (n := n) h.en with ⟨k, v, h1, h2, h3⟩ | ⟨q, _, q3⟩
  · refine ⟨some v, .inl ⟨kvs, .inr n, h.rd, rfl, h2.symm⟩, ?_⟩
    have m : n ∈ tb.names := List.mem_map.mpr ⟨_, look_mem h1, rfl⟩
    rw [decide_eq_true m]
    rfl
  · refine ⟨none, .inl ⟨kvs, .inr n, h.rd, rfl, q3.symm⟩, ?_⟩
    rw [decide_eq_false q]
    rfl
/-- kinds that can stand under a name -/
def Kd.top (k : Kd) : Bool := match k with
  | .choice ks => decide (ks.length ≤ 12)
  | .row ks => decide (ks.length ≤ 8)
  | .num _ _ _ => true
  | .bits _ => true
  | .items _ _ => true
  | .call _ => true
  | _ => false
/-- the kind in a place -/
def inK : Kd → Kd
  | .way _ _ k => k
  | .door _ _ k => k
  | .part _ k => k
  | .room _ _ k => k
  | z => z
def notNon : Kd → Bool
  | .none => false
  | _ => true
/-- the kinds within a kind that stands under a name -/
def innersK : Kd → List Kd
  | .choice ks => (ks.map inK).filter notNon
  | .row ks => (ks.map inK).filter notNon
  | k => [k]
def callOf : Kd → List Str
  | .call n => [n]
  | .items (.call n) _ => [n]
  | _ => []
def callsK (k : Kd) : List Str := (innersK k).flatMap callOf
/-- the called names that are not there, in the table's order -/
def missK (tb : Tb) : List Str := tb.flatMap fun x => (callsK x.2).filter fun n => decide (n ∉ tb.names)
/-- the table's names from low to high -/
def Sorts (ns ys : List Str) : Prop := ys.Perm ns ∧ PyProof.Rows.sortedS ys = true
inductive Reach (tb : Tb) : Str → Str → Prop where
  | one {a b : Str} {k : Kd} (h : tb.lookup a = some k) (m : b ∈ callsK k) : Reach tb a b
  | more {a b c : Str} {k : Kd} (r : Reach tb a b) (h : tb.lookup b = some k) (m : c ∈ callsK k) : Reach tb a c
/-- each name calls names of lower rank alone, which are there -/
structure Ranked (tb : Tb) (rk : Str → Nat) : Prop where
  nd : tb.names.Nodup
  lo : ∀ n k, tb.lookup n = some k → ∀ c ∈ callsK k, c ∈ tb.names ∧ rk c < rk n
theorem Ranked.reach {tb : Tb} {rk : Str → Nat} (R : Ranked tb rk) {a b : Str} (h : Reach tb a b) : rk b < rk a := by
  induction h with
  | one h m => exact (R.lo _ _ h _ m).2
  | more _ h m ih => exact Nat.lt_trans (R.lo _ _ h _ m).2 ih
theorem Ranked.miss {tb : Tb} {rk : Str → Nat} (R : Ranked tb rk) : missK tb = [] := by
  refine List.flatMap_eq_nil_iff.mpr fun x hx => ?_
  refine List.filter_eq_nil_iff.mpr fun n hn => ?_
  obtain ⟨m, k⟩ := x
  have hm : m ∈ tb.names := List.mem_map.mpr ⟨_, hx, rfl⟩
  have hl : tb.lookup m = some k := by
    have nd := R.nd
    revert hx nd
    clear hm hn R
    induction tb with
    | nil => intro h; cases h
    | cons y tb ih =>
      intro hx nd
      obtain ⟨m', k'⟩ := y
      rcases List.mem_cons.mp hx with e | hx
      · injection e with e1 e2
        subst e1
        subst e2
        simp [List.lookup]
      · obtain ⟨n1, n2⟩ := List.nodup_cons.mp (show (m' :: Tb.names tb).Nodup from nd)
        have ne : ¬ m = m' := fun e => n1 (e ▸ List.mem_map.mpr ⟨_, hx, rfl⟩)
        have e2 : (m == m') = false := by simpa using ne
        rw [List.lookup_cons, e2]
        exact ih hx n2
  have := (R.lo _ _ hl n hn).1
  simp [this]
abbrev Called (A : Ad) (k : Kd) : Prop := k.top = true
abbrev sp_inner_kinds (_ : PySem.W.Frag) (A : Ad) : Sp := Sp1 fun v H Q _ => ∃ k, KAt A H v k ∧ k.top = true ∧ ∀ p us H', H' p = some (.lst us) → H p = none → Same H H' → KAts A H' us (innersK k) → Q (.ref p) H'
abbrev sp_called (_ : PySem.W.Frag) (A : Ad) : Sp := Sp1 fun v H Q _ => ∃ k, KAt A H v k ∧ k.top = true ∧ ∀ p H', H' p = some (.lst ((callsK k).map V.str)) → H p = none → Same H H' → Q (.ref p) H'
/-- a table all of whose kinds can stand there -/
def TbTop (tb : Tb) : Prop := ∀ x ∈ tb, x.2.top = true
abbrev sp_reached (_ : PySem.W.Frag) (A : Ad) : Sp := Sp2 fun v n H Q _ => ∃ (p : Addr) (tb : Tb) (kvs : List (Key × V)) (x : Str), v = .ref p ∧ n = .str x ∧ TbAt A H p tb kvs ∧ TbTop tb ∧ tb.names.Nodup ∧ tb.length ≤ 20 ∧ missK tb = [] ∧ x ∈ tb.names ∧
  ∀ (q : Addr) (ws : List Str) (H' : Hp), H' q = some (.lst (ws.map V.str)) → Same H H' → (∀ y, y ∈ ws ↔ Reach tb x y) → Q (.ref q) H'
abbrev sp_missing_name (_ : PySem.W.Frag) (A : Ad) : Sp := Sp1 fun v H Q _ => ∃ (p : Addr) (tb : Tb) (kvs : List (Key × V)), v = .ref p ∧ TbAt A H p tb kvs ∧ H p = some (.dK kvs) ∧ TbTop tb ∧ tb.names.Nodup ∧ tb.length ≤ 20 ∧
  ∀ H', Same H H' → Q (match missK tb with | [] => .non | y :: ys => .str (minS y ys)) H'
abbrev sp_ring_name (_ : PySem.W.Frag) (A : Ad) : Sp := Sp1 fun v H Q _ => ∃ (p : Addr) (tb : Tb) (kvs : List (Key × V)), v = .ref p ∧ TbAt A H p tb kvs ∧ TbTop tb ∧ tb.names.Nodup ∧ tb.length ≤ 20 ∧ missK tb = [] ∧
  ∀ H', Same H H' → ((∀ n ∈ tb.names, ¬ Reach tb n n) → Q .non H') ∧ (∀ n ys i, Sorts tb.names ys → ys[i]? = some n → Reach tb n n → (∀ m ∈ ys.take i, ¬ Reach tb m m) → Q (.str n) H')
/-- each name behind those that its kind calls -/
def Topo (tb : Tb) (ds : List Str) : Prop := ∀ i n, ds[i]? = some n → ∀ k, tb.lookup n = some k → ∀ c ∈ callsK k, c ∈ ds.take i
abbrev sp_call_order (_ : PySem.W.Frag) (A : Ad) : Sp := Sp1 fun v H Q _ => ∃ (p : Addr) (tb : Tb) (kvs : List (Key × V)) (rk : Str → Nat), v = .ref p ∧ TbAt A H p tb kvs ∧ H p = some (.dK kvs) ∧ TbTop tb ∧ tb.length ≤ 20 ∧ Ranked tb rk ∧
  ∀ q ds H', H' q = some (.lst (ds.map V.str)) → H q = none → Same H H' → ds.Perm tb.names → Topo tb ds → Q (.ref q) H'
theorem pair_atE {α β : Type} {R : α → β → Prop} : ∀ {xs : List α} {ys : List β} {j : Nat} {x : α}, Paired R xs ys → xs[j]? = some x → ∃ y, ys[j]? = some y ∧ R x y
  | _, _, 0, _, .cons h t, e => by
    have e := Option.some.inj e
    subst e
    exact ⟨_, rfl, h⟩
  | _, _, j + 1, _, .cons h t, e => pair_atE (j := j) t e
  | _, _, _, _, .nil, e => nomatch e
theorem inV_strE {y : Str} : ∀ ws : List Str, inV (.str y) (ws.map V.str) = decide (y ∈ ws)
  | [] => rfl
  | w :: ws => by
    have ih := inV_strE (y := y) ws
    show (eqV (.str w) (.str y) || inV (.str y) (ws.map V.str)) = _
    rw [ih]
    show ((w == y) || decide (y ∈ ws)) = _
    by_cases e : w = y
    · subst e; simp
    · have : (w == y) = false := by simpa using e
      rw [this, Bool.false_or]
      exact decide_eq_decide.mpr ⟨fun h => List.mem_cons_of_mem _ h, fun h => (List.mem_cons.mp h).elim (fun z => absurd z.symm e) id⟩
theorem flat_strsE : ∀ ws : List Str, (ws.map V.str).all flatV = true
  | [] => rfl
  | _ :: ws => flat_strsE ws
theorem nodup_le : ∀ {l m : List Str}, l.Nodup → (∀ x ∈ l, x ∈ m) → l.length ≤ m.length
  | [], _, _, _ => Nat.zero_le _
  | a :: l, m, nd, h => by
    have ha := h a (List.mem_cons_self ..)
    obtain ⟨n1, n2⟩ := List.nodup_cons.mp nd
    have ih := nodup_le (l := l) (m := m.erase a) n2 fun b hb => (List.mem_erase_of_ne (fun (z : b = a) => n1 (z ▸ hb))).mpr (h b (List.mem_cons_of_mem _ hb))
    rw [List.length_erase_of_mem ha] at ih
    have := List.length_pos_of_mem ha
    rw [List.length_cons]
    omega
theorem nodup_snocE {l : List Str} {x : Str} (h : l.Nodup) (n : x ∉ l) : (l ++ [x]).Nodup := by
  refine List.nodup_append.mpr ⟨h, List.nodup_cons.mpr ⟨(fun z => nomatch z), List.nodup_nil⟩, fun a ha b hb e => ?_⟩
  rw [List.mem_singleton.mp hb] at e
  exact n (e ▸ ha)
/-- the dict at p is walked -/
structure Frz (H H' : Hp) (p : Addr) (od : Obj) (u : HO) : Prop where
  at_ : H' p = some (.frz od u)
  kp : ∀ b o, b ≠ p → H b = some o → H' b = some o
theorem Frz.start {H : Hp} {p : Addr} {od : Obj} {u : HO} : Frz H (upd H p (.frz od u)) p od u := ⟨upd_same, fun b o n h => by rw [upd_ne n]; exact h⟩
theorem Frz.go {H H1 H2 : Hp} {p : Addr} {od : Obj} {u : HO} (f : Frz H H1 p od u) (e : Same H1 H2) : Frz H H2 p od u := ⟨e _ _ f.at_, fun b o n h => e _ _ (f.kp b o n h)⟩
theorem Frz.put {H H1 : Hp} {p q : Addr} {od : Obj} {u o : HO} (f : Frz H H1 p od u) (n : H q = none) (nq : q ≠ p) : Frz H (upd H1 q o) p od u := ⟨by rw [upd_ne nq.symm]; exact f.at_, fun b v nb h => by rw [upd_ne (ne_of_none h n)]; exact f.kp b v nb h⟩
theorem Frz.back {H H1 : Hp} {p : Addr} {od : Obj} {u : HO} (f : Frz H H1 p od u) (h : H p = some u) : Same H (upd H1 p u) := fun b o q => by
  by_cases e : b = p
  · subst e
    rw [upd_same, ← h, q]
  · rw [upd_ne e]
    exact f.kp b o e q
theorem Frz.kat {A : Ad} {H H1 : Hp} {p : Addr} {od : Obj} {kvs : List (Key × V)} {v : V} {k : Kd} (f : Frz H H1 p od (.dK kvs)) (h : H p = some (.dK kvs)) (hk : KAt A H v k) : KAt A H1 v k :=
  hk.keepIT (fun b C dx fs q => f.kp b _ (fun z => by rw [z, h] at q; cases q) q) (fun b xs q => f.kp b _ (fun z => by rw [z, h] at q; cases q) q)
theorem Frz.tb {A : Ad} {H H1 : Hp} {p : Addr} {od : Obj} {kvs : List (Key × V)} {tb : Tb} (f : Frz H H1 p od (.dK kvs)) (h : H p = some (.dK kvs)) (t : TbAt A H p tb kvs) : TbAt A H1 p tb kvs :=
  ⟨.inr ⟨od, f.at_⟩, paired_impE (fun _ _ q => ⟨q.1, f.kat h q.2⟩) t.en⟩
theorem TbTop.look {tb : Tb} (h : TbTop tb) {n : Str} {k : Kd} (e : tb.lookup n = some k) : k.top = true := h _ (look_mem e)
theorem miss_calls {tb : Tb} (h : missK tb = []) {n : Str} {k : Kd} (e : tb.lookup n = some k) : ∀ c ∈ callsK k, c ∈ tb.names := by
  intro c hc
  have q := List.flatMap_eq_nil_iff.mp h _ (look_mem e)
  have q2 := List.filter_eq_nil_iff.mp q c hc
  simpa using q2
theorem ents_at {A : Ad} {H : Hp} {kvs : List (Key × V)} {tb : Tb} {i : Nat} {k : Key} {v : V} (h : Paired (EntAt A H) kvs tb) (e : kvs[i]? = some (k, v)) : ∃ x, tb[i]? = some x ∧ k = .inr x.1 ∧ KAt A H v x.2 := by
  obtain ⟨x, hx, a, b⟩ := pair_atE h e
  exact ⟨x, hx, a, b⟩
theorem names_at {tb : Tb} {i : Nat} {x : Str × Kd} (h : tb[i]? = some x) : x.1 ∈ tb.names := List.mem_map.mpr ⟨x, List.mem_of_getElem? h, rfl⟩
theorem look_nd : ∀ {tb : Tb} {x : Str × Kd}, tb.names.Nodup → x ∈ tb → tb.lookup x.1 = some x.2
  | y :: tb, x, nd, h => by
    obtain ⟨m, k⟩ := y
    obtain ⟨n1, n2⟩ := List.nodup_cons.mp (show (m :: Tb.names tb).Nodup from nd)
    rcases List.mem_cons.mp h with e | h
    · subst e
      simp [List.lookup]
    · have ne : ¬ x.1 = m := fun e => n1 (e ▸ List.mem_map.mpr ⟨_, h, rfl⟩)
      have e2 : (x.1 == m) = false := by simpa using ne
      rw [List.lookup_cons, e2]
      exact look_nd n2 h
/-- [f(x) for x in e if p(x)] over a tuple -/
theorem lc_tupF {α β : Type} {K : PySem.W.Frag} {σ : L2.St} {H : Hp} {t0 te : TE} {tt : TT} {j : Nat} {vs : List Nat} {a : Addr} {xs : List V} {es : List α} {Q : VK} (S : Hp → V → β → Prop) (hS : ∀ H1 H2 v b, Same H1 H2 → S H1 v b → S H2 v b) (hset : ∀ D H1 ws v v' b, H1 D = some (.lst ws) → S H1 v b → S (upd H1 D (.lst (ws ++ [v']))) v b) (p : α → Bool) (f : α → β) (R : V → α → Prop)
    (hg : ∀ Q', Q' (.ref a) H → t0 σ H Q') (hxs : H a = some (.tup xs)) (hp : Paired R xs es) (hl : xs.length ≤ 100000) (hw : ∀ x, wipe ((wipe σ vs).set j (some x)) vs = wipe σ vs)
    (htt : ∀ (x : V) (e : α) H1 (Q : Bool → Hp → Prop), R x e → e ∈ es → Same H H1 → Q (p e) H1 → tt ((wipe σ vs).set j (some x)) H1 Q)
    (ht : ∀ (x : V) (e : α) H1 (Q : VK), R x e → e ∈ es → p e = true → Same H H1 → (∀ v H2, Same H1 H2 → S H2 v (f e) → Q v H2) → te ((wipe σ vs).set j (some x)) H1 Q)
    (k : ∀ D (ws : List V) H', H' D = some (.lst ws) → H D = none → Same H H' → Paired (S H') ws ((es.filter p).map f) → Q (.ref D) H') : tLc (iTup K t0) (gName j) tt te vs σ H Q := by
  refine hg _ ⟨a, rfl, ⟨_, SqT.of hxs⟩, fun D hD => ?_⟩
  have hlen := pair_lenE hp
  refine lc_it (walk_tup (xs := xs)) (fun i H' => ∃ ws : List V, H' D = some (.lst ws) ∧ ws.length ≤ i ∧ Paired (S H') ws (((es.take i).filter p).map f) ∧ Same H H') ⟨[], upd_same, Nat.le_refl 0, .nil, same_new hD⟩ (fun i H' _ ⟨_, _, _, _, e⟩ => SqT.of (e _ _ hxs)) ?_ ?_
  · rintro i x H1 H2 hi ⟨ws, hws, lw, hpw, e1⟩ ⟨rfl, hx⟩
    obtain ⟨e, he, hr⟩ := pair_atE hp hx
    have me := List.mem_of_getElem? he
    refine ⟨hw _, htt x e _ _ hr me e1 ?_⟩
    have tk : es.take (i + 1) = es.take i ++ [e] := by rw [List.take_succ, he]; rfl
    cases hpe : p e with
    | false =>
      refine iteF ⟨ws, hws, by omega, ?_, e1⟩
      rw [tk, List.filter_append, List.map_append]
      simp only [List.filter_cons, hpe, List.filter_nil, Bool.false_eq_true, if_false, List.map_nil, List.append_nil]
      exact hpw
    | true =>
      refine iteY (ht x e _ _ hr me hpe e1 fun v H3 e3 hs => ?_)
      refine ⟨ws, e3 _ _ hws, by rw [sizeLine_eq]; omega, ws ++ [v], upd_same, by rw [List.length_append]; show ws.length + 1 ≤ i + 1; omega, ?_, same_put hD (e1.trans e3)⟩
      rw [tk, List.filter_append, List.map_append]
      simp only [List.filter_cons, hpe, List.filter_nil, if_true, List.map_cons, List.map_nil]
      have p3 := paired_impE (fun v b => hS _ _ v b e3) hpw
      exact paired_snocE (hset D H3 ws v v _ (e3 _ _ hws) hs) (paired_impE (fun u b q => hset D H3 ws u v b (e3 _ _ hws) q) p3)
  · rintro H1 ⟨ws, hws, lw, hpw, e1⟩
    rw [hlen, List.take_length] at hpw
    exact k D ws H1 hws hD e1 hpw
/-- the same over a list that has come already -/
theorem lc_lstG {α β : Type} {K : PySem.W.Frag} {σ : L2.St} {H : Hp} {te : TE} {tt : TT} {j : Nat} {vs : List Nat} {a : Addr} {xs : List V} {es : List α} {Qd : Addr → Hp → Prop} (S : Hp → V → β → Prop) (hS : ∀ H1 H2 v b, Same H1 H2 → S H1 v b → S H2 v b) (hset : ∀ D H1 ws v v' b, H1 D = some (.lst ws) → S H1 v b → S (upd H1 D (.lst (ws ++ [v']))) v b) (p : α → Bool) (f : α → β) (R : V → α → Prop)
    (hxs : H a = some (.lst xs)) (hp : Paired R xs es) (hl : xs.length ≤ 100000) (hw : ∀ x, wipe ((wipe σ vs).set j (some x)) vs = wipe σ vs)
    (htt : ∀ (x : V) (e : α) H1 (Q : Bool → Hp → Prop), R x e → e ∈ es → Same H H1 → Q (p e) H1 → tt ((wipe σ vs).set j (some x)) H1 Q)
    (ht : ∀ (x : V) (e : α) H1 (Q : VK), R x e → e ∈ es → p e = true → Same H H1 → (∀ v H2, Same H1 H2 → S H2 v (f e) → Q v H2) → te ((wipe σ vs).set j (some x)) H1 Q)
    (k : ∀ D (ws : List V) H', H' D = some (.lst ws) → H D = none → Same H H' → Paired (S H') ws ((es.filter p).map f) → Qd D H') :
    ∃ a', V.ref a = V.ref a' ∧ (∃ xs, SqL K H a' xs) ∧ ∀ D, H D = none → ∃ W : Nat → Nat → Hp → Prop, (∃ m, W 0 m (upd H D (.lst []))) ∧ ∀ i m H, W i m H →
      ((Itl K a').stop i H ∧ Qd D H) ∨ ((Itl K a').go i H ∧ ∃ Nx : Hp → Prop, (∀ H', Nx H' → ∃ m', m' < m ∧ W (i + 1) m' H') ∧ ∀ x H', (Itl K a').yld i H x H' → gName j x (wipe σ vs) H' fun σ2 H2 => wipe σ2 vs = wipe σ vs ∧ tt σ2 H2 fun b H3 =>
        if b = true then te σ2 H3 fun y H4 => ∃ acc, H4 D = some (.lst acc) ∧ acc.length < sizeLine ∧ Nx (upd H4 D (.lst (acc ++ [y]))) else Nx H3) := by
  refine ⟨a, rfl, ⟨_, SqL.of hxs⟩, fun D hD => ?_⟩
  have hlen := pair_lenE hp
  refine lc_it (walk_list (xs := xs)) (fun i H' => ∃ ws : List V, H' D = some (.lst ws) ∧ ws.length ≤ i ∧ Paired (S H') ws (((es.take i).filter p).map f) ∧ Same H H') ⟨[], upd_same, Nat.le_refl 0, .nil, same_new hD⟩ (fun i H' _ ⟨_, _, _, _, e⟩ => SqL.of (e _ _ hxs)) ?_ ?_
  · rintro i x H1 H2 hi ⟨ws, hws, lw, hpw, e1⟩ ⟨rfl, hx⟩
    obtain ⟨e, he, hr⟩ := pair_atE hp hx
    have me := List.mem_of_getElem? he
    refine ⟨hw _, htt x e _ _ hr me e1 ?_⟩
    have tk : es.take (i + 1) = es.take i ++ [e] := by rw [List.take_succ, he]; rfl
    cases hpe : p e with
    | false =>
      refine iteF ⟨ws, hws, by omega, ?_, e1⟩
      rw [tk, List.filter_append, List.map_append]
      simp only [List.filter_cons, hpe, List.filter_nil, Bool.false_eq_true, if_false, List.map_nil, List.append_nil]
      exact hpw
    | true =>
      refine iteY (ht x e _ _ hr me hpe e1 fun v H3 e3 hs => ?_)
      refine ⟨ws, e3 _ _ hws, by rw [sizeLine_eq]; omega, ws ++ [v], upd_same, by rw [List.length_append]; show ws.length + 1 ≤ i + 1; omega, ?_, same_put hD (e1.trans e3)⟩
      rw [tk, List.filter_append, List.map_append]
      simp only [List.filter_cons, hpe, List.filter_nil, if_true, List.map_cons, List.map_nil]
      have p3 := paired_impE (fun v b => hS _ _ v b e3) hpw
      exact paired_snocE (hset D H3 ws v v _ (e3 _ _ hws) hs) (paired_impE (fun u b q => hset D H3 ws u v b (e3 _ _ hws) q) p3)
  · rintro H1 ⟨ws, hws, lw, hpw, e1⟩
    rw [hlen, List.take_length] at hpw
    exact k D ws H1 hws hD e1 hpw
/-- the same over a tuple that has come already -/
theorem lc_tupG {α β : Type} {K : PySem.W.Frag} {σ : L2.St} {H : Hp} {te : TE} {tt : TT} {j : Nat} {vs : List Nat} {a : Addr} {xs : List V} {es : List α} {Qd : Addr → Hp → Prop} (S : Hp → V → β → Prop) (hS : ∀ H1 H2 v b, Same H1 H2 → S H1 v b → S H2 v b) (hset : ∀ D H1 ws v v' b, H1 D = some (.lst ws) → S H1 v b → S (upd H1 D (.lst (ws ++ [v']))) v b) (p : α → Bool) (f : α → β) (R : V → α → Prop)
    (hxs : H a = some (.tup xs)) (hp : Paired R xs es) (hl : xs.length ≤ 100000) (hw : ∀ x, wipe ((wipe σ vs).set j (some x)) vs = wipe σ vs)
    (htt : ∀ (x : V) (e : α) H1 (Q : Bool → Hp → Prop), R x e → e ∈ es → Same H H1 → Q (p e) H1 → tt ((wipe σ vs).set j (some x)) H1 Q)
    (ht : ∀ (x : V) (e : α) H1 (Q : VK), R x e → e ∈ es → p e = true → Same H H1 → (∀ v H2, Same H1 H2 → S H2 v (f e) → Q v H2) → te ((wipe σ vs).set j (some x)) H1 Q)
    (k : ∀ D (ws : List V) H', H' D = some (.lst ws) → H D = none → Same H H' → Paired (S H') ws ((es.filter p).map f) → Qd D H') :
    ∃ a', V.ref a = V.ref a' ∧ (∃ xs, SqT K H a' xs) ∧ ∀ D, H D = none → ∃ W : Nat → Nat → Hp → Prop, (∃ m, W 0 m (upd H D (.lst []))) ∧ ∀ i m H, W i m H →
      ((Itt K a').stop i H ∧ Qd D H) ∨ ((Itt K a').go i H ∧ ∃ Nx : Hp → Prop, (∀ H', Nx H' → ∃ m', m' < m ∧ W (i + 1) m' H') ∧ ∀ x H', (Itt K a').yld i H x H' → gName j x (wipe σ vs) H' fun σ2 H2 => wipe σ2 vs = wipe σ vs ∧ tt σ2 H2 fun b H3 =>
        if b = true then te σ2 H3 fun y H4 => ∃ acc, H4 D = some (.lst acc) ∧ acc.length < sizeLine ∧ Nx (upd H4 D (.lst (acc ++ [y]))) else Nx H3) := by
  refine ⟨a, rfl, ⟨_, SqT.of hxs⟩, fun D hD => ?_⟩
  have hlen := pair_lenE hp
  refine lc_it (walk_tup (xs := xs)) (fun i H' => ∃ ws : List V, H' D = some (.lst ws) ∧ ws.length ≤ i ∧ Paired (S H') ws (((es.take i).filter p).map f) ∧ Same H H') ⟨[], upd_same, Nat.le_refl 0, .nil, same_new hD⟩ (fun i H' _ ⟨_, _, _, _, e⟩ => SqT.of (e _ _ hxs)) ?_ ?_
  · rintro i x H1 H2 hi ⟨ws, hws, lw, hpw, e1⟩ ⟨rfl, hx⟩
    obtain ⟨e, he, hr⟩ := pair_atE hp hx
    have me := List.mem_of_getElem? he
    refine ⟨hw _, htt x e _ _ hr me e1 ?_⟩
    have tk : es.take (i + 1) = es.take i ++ [e] := by rw [List.take_succ, he]; rfl
    cases hpe : p e with
    | false =>
      refine iteF ⟨ws, hws, by omega, ?_, e1⟩
      rw [tk, List.filter_append, List.map_append]
      simp only [List.filter_cons, hpe, List.filter_nil, Bool.false_eq_true, if_false, List.map_nil, List.append_nil]
      exact hpw
    | true =>
      refine iteY (ht x e _ _ hr me hpe e1 fun v H3 e3 hs => ?_)
      refine ⟨ws, e3 _ _ hws, by rw [sizeLine_eq]; omega, ws ++ [v], upd_same, by rw [List.length_append]; show ws.length + 1 ≤ i + 1; omega, ?_, same_put hD (e1.trans e3)⟩
      rw [tk, List.filter_append, List.map_append]
      simp only [List.filter_cons, hpe, List.filter_nil, if_true, List.map_cons, List.map_nil]
      have p3 := paired_impE (fun v b => hS _ _ v b e3) hpw
      exact paired_snocE (hset D H3 ws v v _ (e3 _ _ hws) hs) (paired_impE (fun u b q => hset D H3 ws u v b (e3 _ _ hws) q) p3)
  · rintro H1 ⟨ws, hws, lw, hpw, e1⟩
    rw [hlen, List.take_length] at hpw
    exact k D ws H1 hws hD e1 hpw
/-- the same over a list -/
theorem lc_lstF {α β : Type} {K : PySem.W.Frag} {σ : L2.St} {H : Hp} {t0 te : TE} {tt : TT} {j : Nat} {vs : List Nat} {a : Addr} {xs : List V} {es : List α} {Q : VK} (S : Hp → V → β → Prop) (hS : ∀ H1 H2 v b, Same H1 H2 → S H1 v b → S H2 v b) (hset : ∀ D H1 ws v v' b, H1 D = some (.lst ws) → S H1 v b → S (upd H1 D (.lst (ws ++ [v']))) v b) (p : α → Bool) (f : α → β) (R : V → α → Prop)
    (hg : ∀ Q', Q' (.ref a) H → t0 σ H Q') (hxs : H a = some (.lst xs)) (hp : Paired R xs es) (hl : xs.length ≤ 100000) (hw : ∀ x, wipe ((wipe σ vs).set j (some x)) vs = wipe σ vs)
    (htt : ∀ (x : V) (e : α) H1 (Q : Bool → Hp → Prop), R x e → e ∈ es → Same H H1 → Q (p e) H1 → tt ((wipe σ vs).set j (some x)) H1 Q)
    (ht : ∀ (x : V) (e : α) H1 (Q : VK), R x e → e ∈ es → p e = true → Same H H1 → (∀ v H2, Same H1 H2 → S H2 v (f e) → Q v H2) → te ((wipe σ vs).set j (some x)) H1 Q)
    (k : ∀ D (ws : List V) H', H' D = some (.lst ws) → H D = none → Same H H' → Paired (S H') ws ((es.filter p).map f) → Q (.ref D) H') : tLc (iList K t0) (gName j) tt te vs σ H Q :=
  hg _ (lc_lstG (Qd := fun D H => Q (.ref D) H) S hS hset p f R hxs hp hl hw htt ht k)
theorem kats_pair {A : Ad} {H : Hp} : ∀ {vs : List V} {ks : List Kd}, KAts A H vs ks → Paired (fun v k => KAt A H v k) vs ks
  | _, _, .nil => .nil
  | _, _, .cons h t => .cons h (kats_pair t)
theorem kats_ofp {A : Ad} {H : Hp} : ∀ {vs : List V} {ks : List Kd}, Paired (fun v k => KAt A H v k) vs ks → KAts A H vs ks
  | _, _, .nil => .nil
  | _, _, .cons h t => .cons h (kats_ofp t)
/-- the kind of a place, read -/
theorem wd_kind {K : PySem.W.Frag} {mg : Str → Option Value} {A : Ad} (T : Txt K mg A) {H : Hp} {v : V} {k : Kd} (h : KAt A H v k) (w : (Td.k k).wd = true ∨ (Td.k k).pr = true) : ∃ x C dx fs u, v = .ref x ∧ H x = some (.ins C dx fs) ∧ Cls K C ∧ NoAttr K C "kind" ∧ fs.lookup ("kind" : Str) = some u ∧ KAt A H u (inK k) := by
  cases h with
  | way h k o => obtain ⟨dx, fs, h1, h2⟩ := h; exact ⟨_, _, dx, fs, _, rfl, h1, T.cl_Way, T.n_Way_kind, h2 _ (List.mem_cons_of_mem _ (List.mem_cons_of_mem _ (List.mem_cons_self ..))), k⟩
  | door h k o => obtain ⟨dx, fs, h1, h2⟩ := h; exact ⟨_, _, dx, fs, _, rfl, h1, T.cl_Door, T.n_Door_kind, h2 _ (List.mem_cons_of_mem _ (List.mem_cons_of_mem _ (List.mem_cons_self ..))), k⟩
  | part h k o => obtain ⟨dx, fs, h1, h2⟩ := h; exact ⟨_, _, dx, fs, _, rfl, h1, T.cl_Part, T.n_Part_kind, h2 _ (List.mem_cons_of_mem _ (List.mem_cons_self ..)), k⟩
  | room h k o => obtain ⟨dx, fs, h1, h2⟩ := h; exact ⟨_, _, dx, fs, _, rfl, h1, T.cl_Room, T.n_Room_kind, h2 _ (List.mem_cons_of_mem _ (List.mem_cons_of_mem _ (List.mem_cons_self ..))), k⟩
  | _ => rcases w with w | w <;> cases w
theorem non_kd {A : Ad} {H : Hp} {v : V} {k : Kd} (h : KAt A H v k) : (!decide (v = V.non)) = notNon k := by
  cases h <;> rfl
def callOf1 : Kd → List Str
  | .call n => [n]
  | _ => []
theorem call_item {i : Kd} {w : Option Int} (o : (Td.k i).item = true) : callOf (.items i w) = callOf1 i := by
  cases i <;> first | rfl | cases o
theorem calls_le : ∀ ks : List Kd, (ks.flatMap callOf).length ≤ ks.length
  | [] => Nat.le_refl _
  | k :: ks => by
    have := calls_le ks
    have h1 : (callOf k).length ≤ 1 := by
      unfold callOf
      split <;> first | exact Nat.le_refl _ | exact Nat.zero_le _
    rw [List.flatMap_cons, List.length_append, List.length_cons]
    omega
theorem inners_len {k : Kd} (h : k.top = true) : (innersK k).length ≤ 12 := by
  cases k with
  | choice ks =>
    have := of_decide_eq_true h
    have h2 := List.length_filter_le notNon (ks.map inK)
    rw [List.length_map] at h2
    show (List.filter notNon (ks.map inK)).length ≤ 12
    omega
  | row ks =>
    have := of_decide_eq_true h
    have h2 := List.length_filter_le notNon (ks.map inK)
    rw [List.length_map] at h2
    show (List.filter notNon (ks.map inK)).length ≤ 12
    omega
  | _ => exact Nat.succ_le_succ (Nat.zero_le _)
theorem calls_len {k : Kd} (h : k.top = true) : (callsK k).length ≤ 12 := Nat.le_trans (calls_le _) (inners_len h)
theorem strs_pair : ∀ ws : List Str, Paired (fun v (n : Str) => v = V.str n) (ws.map V.str) ws
  | [] => .nil
  | _ :: ws => .cons rfl (strs_pair ws)
theorem pair_strs : ∀ {vs : List V} {ws : List Str}, Paired (fun v (n : Str) => v = V.str n) vs ws → vs = ws.map V.str
  | _, _, .nil => rfl
  | _, _, .cons h t => by rw [h, pair_strs t]; rfl
theorem miss_le {tb : Tb} (top : TbTop tb) {ns : List Str} : ∀ i : Nat, ((tb.take i).flatMap fun x => (callsK x.2).filter fun n => decide (n ∉ ns)).length ≤ 12 * i
  | 0 => Nat.le_refl _
  | i + 1 => by
    have ih := miss_le top (ns := ns) i
    rw [List.take_succ, List.flatMap_append, List.length_append]
    cases e : tb[i]? with
    | none =>
      rw [Option.toList_none, List.flatMap_nil, List.length_nil]
      omega
    | some y =>
      have l2 := calls_len (top y (List.mem_of_getElem? e))
      have l3 := List.length_filter_le (fun n => decide (n ∉ ns)) (callsK y.2)
      rw [Option.toList_some, List.flatMap_cons, List.flatMap_nil, List.append_nil]
      omega
theorem hu_of {k : Nat} {A : Around} (r : Room k A) : A.units + 1 < cLine := by have := r.un; omega
theorem last_app {ws : List Str} {y : Str} (h : ws[ws.length - 1]? = some y) : ws = ws.dropLast ++ [y] := by
  have ne : ws ≠ [] := fun z => by rw [z] at h; cases h
  have e := List.dropLast_concat_getLast ne
  have q : ws.getLast ne = y := by
    rw [List.getLast_eq_getElem]
    exact (List.getElem?_eq_some_iff.mp h).2
  rw [q] at e
  exact e.symm
theorem pair_bls : ∀ {vs : List V} {ws : List Bool}, Paired (fun v (n : Bool) => v = V.bl n) vs ws → vs = ws.map V.bl
  | _, _, .nil => rfl
  | _, _, .cons h t => by rw [h, pair_bls t]; rfl
theorem all_map {α : Type} {f : α → Bool} : ∀ {l : List α}, ((l.filter fun _ => true).map f).all id = true → ∀ c ∈ l, f c = true := by
  intro l h c hc
  have e : l.filter (fun _ => true) = l := by simp
  rw [e, List.all_map] at h
  exact List.all_eq_true.mp h c hc
theorem map_all {ds : List Str} {l : List Str} (h : ∀ c ∈ l, c ∈ ds) : ((l.filter fun _ => true).map fun n => decide (n ∈ ds)).all id = true := by
  have e : l.filter (fun _ => true) = l := by simp
  rw [e, List.all_map]
  exact List.all_eq_true.mpr fun c hc => decide_eq_true (h c hc)
theorem topo_snoc {tb : Tb} {ds : List Str} {y : Str} {k : Kd} (h : Topo tb ds) (e : tb.lookup y = some k) (a : ∀ c ∈ callsK k, c ∈ ds) : Topo tb (ds ++ [y]) := by
  intro i n hn k' hk c hc
  rcases Nat.lt_or_ge i ds.length with l | l
  · rw [List.getElem?_append_left l] at hn
    rw [List.take_append_of_le_length (by omega)]
    exact h i n hn k' hk c hc
  · rw [List.getElem?_append_right l] at hn
    have i0 : i - ds.length = 0 := by
      rcases Nat.eq_zero_or_pos (i - ds.length) with z | z
      · exact z
      · rw [List.getElem?_eq_none (by simp; omega)] at hn
        cases hn
    rw [i0] at hn
    have hn := Option.some.inj hn
    subst hn
    rw [e] at hk
    have hk := Option.some.inj hk
    subst hk
    have ei : i = ds.length := by omega
    subst ei
    rw [List.take_append_of_le_length (Nat.le_refl _), List.take_length]
    exact a c hc
theorem min_of (rk : Str → Nat) : ∀ {l : List Str}, l ≠ [] → ∃ z ∈ l, ∀ y ∈ l, rk z ≤ rk y
  | [], h => absurd rfl h
  | [x], _ => ⟨x, List.mem_cons_self .., fun y hy => by rw [List.mem_singleton.mp hy]; exact Nat.le_refl _⟩
  | x :: y :: l, _ => by
    obtain ⟨z, hz, hm⟩ := min_of rk (l := y :: l) (fun q => nomatch q)
    by_cases h : rk x ≤ rk z
    · exact ⟨x, List.mem_cons_self .., fun w hw => by
        rcases List.mem_cons.mp hw with q | q
        · rw [q]; exact Nat.le_refl _
        · exact Nat.le_trans h (hm w q)⟩
    · exact ⟨z, List.mem_cons_of_mem _ hz, fun w hw => by
        rcases List.mem_cons.mp hw with q | q
        · rw [q]; omega
        · exact hm w q⟩
/-- a name that is not done, all of whose calls are -/
theorem next_name {tb : Tb} {rk : Str → Nat} (R : Ranked tb rk) {ds : List Str} (nd : ds.Nodup) (l : ds.length < tb.length) : ∃ z, z ∈ tb.names ∧ z ∉ ds ∧ ∀ k, tb.lookup z = some k → ∀ c ∈ callsK k, c ∈ ds := by
  have ne : tb.names.filter (fun n => decide (n ∉ ds)) ≠ [] := fun e => by
    have q := List.filter_eq_nil_iff.mp e
    have h := nodup_le R.nd (m := ds) fun x hx => by simpa using q x hx
    rw [show tb.names.length = tb.length from List.length_map ..] at h
    omega
  obtain ⟨z, hz, hm⟩ := min_of rk ne
  obtain ⟨z1, z2⟩ := List.mem_filter.mp hz
  refine ⟨z, z1, of_decide_eq_true z2, fun k hk c hc => ?_⟩
  obtain ⟨c1, c2⟩ := R.lo _ _ hk c hc
  by_cases h : c ∈ ds
  · exact h
  · have := hm c (List.mem_filter.mpr ⟨c1, decide_eq_true h⟩)
    omega
theorem perm_of {ds ns : List Str} (h : ds.Nodup) (h2 : ns.Nodup) (s : ∀ y ∈ ds, y ∈ ns) (l : ns.length ≤ ds.length) : ds.Perm ns := by
  refine (List.perm_ext_iff_of_nodup h h2).mpr fun a => ⟨s a, fun ha => ?_⟩
  by_cases q : a ∈ ds
  · exact q
  · have := nodup_le (l := a :: ds) (m := ns) (List.nodup_cons.mpr ⟨q, h⟩) fun x hx => by
      rcases List.mem_cons.mp hx with z | z
      · rw [z]; exact ha
      · exact s x z
    rw [List.length_cons] at this
    omega

/-! ================= sets of ints drawn together ================= -/
theorem room_set {l : List Int} (b : ∀ a ∈ l, 0 ≤ a ∧ a ≤ 1000) : (sortU l).length + 1 < scanBound := by
  have := sortU_len (t := 1000) (by decide) b
  have e : scanBound = 4096 := rfl
  omega
theorem int_at {as : List Int} {n : Nat} {x : V} (h : (as.map V.int)[n]? = some x) : ∃ z, as[n]? = some z ∧ x = .int z := by
  rw [List.getElem?_map] at h
  obtain ⟨z, h1, h2⟩ := Option.map_eq_some_iff.mp h
  exact ⟨z, h1, h2.symm⟩
theorem take_snoc {α : Type} {l : List α} {n : Nat} {x : α} (h : l[n]? = some x) : l.take (n + 1) = l.take n ++ [x] := by rw [List.take_succ, h]; rfl
/-- {f(x) for x in e} over a list of ints -/
theorem sc1_ints {w : World} {K : PySem.W.Frag} {σ : L2.St} {H : Hp} {t0 te : TE} {i : Nat} {vs : List Nat} {a : Addr} {as : List Int} {Q : VK} (f : Int → Int)
    (hg : ∀ Q', Q' (.ref a) H → t0 σ H Q') (ha : H a = some (.lst (as.map V.int))) (hi : (wipe σ vs)[i]? = some none)
    (ht : ∀ x H1 (Q' : VK), x ∈ as → Same H H1 → Q' (.int (f x)) H1 → te ((wipe σ vs).set i (some (.int x))) H1 Q') (hf : ∀ x ∈ as, 0 ≤ f x ∧ f x ≤ 1000)
    (k : ∀ D H', H' D = some (setO w D (as.map f)) → H D = none → Same H H' → Q (.ref D) H') : tSc1 w (iList K t0) (gName i) tYes te vs σ H Q := by
  refine hg _ ⟨a, rfl, ⟨_, SqL.of ha⟩, fun D hD => ?_⟩
  rw [← setO_nil]
  refine clause_it (walk_list (xs := as.map V.int)) (fun n H' => H' D = some (setO w D ((as.take n).map f)) ∧ Same H H') ⟨upd_same, same_new hD⟩ (fun n H' _ q => SqL.of (q.2 _ _ ha)) ?_ ?_
  · rintro n x H1 H2 hn ⟨hD1, e1⟩ ⟨rfl, hx⟩
    obtain ⟨z, hz, rfl⟩ := int_at hx
    refine ⟨kept_set hi, ?_⟩
    dsimp only [tYes]
    rw [if_pos rfl]
    refine ht z _ _ (List.mem_of_getElem? hz) e1 ⟨f z, _, _, rfl, hD1, room_set fun c hc => ?_, ?_, same_put hD e1⟩
    · obtain ⟨y, hy, rfl⟩ := List.mem_map.mp hc
      exact hf y (List.mem_of_mem_take hy)
    · rw [upd_same, setO_snoc, take_snoc hz, List.map_append]
      rfl
  · rintro H1 ⟨hD1, e1⟩
    rw [List.length_map, List.take_length] at hD1
    exact k D H1 hD1 hD e1
/-- {f(x, y) for x in e for y in d} over lists of ints -/
theorem sc2_ints {w : World} {K : PySem.W.Frag} {σ : L2.St} {H : Hp} {t0 t1 te : TE} {i j : Nat} {vs vs1 : List Nat} {a b : Addr} {as bs : List Int} {Q : VK} (f : Int → Int → Int)
    (hg : ∀ Q', Q' (.ref a) H → t0 σ H Q') (ha : H a = some (.lst (as.map V.int))) (hb : ∀ x H1 (Q' : VK), Q' (.ref b) H1 → t1 ((wipe σ vs).set i (some x)) H1 Q') (hbb : H b = some (.lst (bs.map V.int)))
    (hi : (wipe σ vs)[i]? = some none) (hj : ∀ x, (wipe ((wipe σ vs).set i (some x)) vs1)[j]? = some none)
    (ht : ∀ x y H1 (Q' : VK), x ∈ as → y ∈ bs → Same H H1 → Q' (.int (f x y)) H1 → te ((wipe ((wipe σ vs).set i (some (.int x))) vs1).set j (some (.int y))) H1 Q') (hf : ∀ x ∈ as, ∀ y ∈ bs, 0 ≤ f x y ∧ f x y ≤ 1000)
    (k : ∀ D H', H' D = some (setO w D (as.flatMap fun x => bs.map (f x))) → H D = none → Same H H' → Q (.ref D) H') : tSc2 w (iList K t0) (gName i) tYes (iList K t1) (gName j) tYes te vs vs1 σ H Q := by
  refine hg _ ⟨a, rfl, ⟨_, SqL.of ha⟩, fun D hD => ?_⟩
  rw [← setO_nil]
  have bnd : ∀ n, ∀ c ∈ (as.take n).flatMap (fun x => bs.map (f x)), 0 ≤ c ∧ c ≤ 1000 := fun n c hc => by
    obtain ⟨x, hx, hc⟩ := List.mem_flatMap.mp hc
    obtain ⟨y, hy, rfl⟩ := List.mem_map.mp hc
    exact hf x (List.mem_of_mem_take hx) y hy
  refine clause_it (walk_list (xs := as.map V.int)) (fun n H' => H' D = some (setO w D ((as.take n).flatMap fun x => bs.map (f x))) ∧ Same H H') ⟨upd_same, same_new hD⟩ (fun n H' _ q => SqL.of (q.2 _ _ ha)) ?_ ?_
  · rintro n x H1 H2 hn ⟨hD1, e1⟩ ⟨rfl, hx⟩
    obtain ⟨z, hz, rfl⟩ := int_at hx
    have mz := List.mem_of_getElem? hz
    refine ⟨kept_set hi, ?_⟩
    dsimp only [tYes]
    rw [if_pos rfl]
    refine hb _ _ _ ⟨b, rfl, ⟨_, SqL.of (e1 _ _ hbb)⟩, ?_⟩
    refine clause_it (walk_list (xs := bs.map V.int)) (fun m H' => H' D = some (setO w D (((as.take n).flatMap fun x => bs.map (f x)) ++ (bs.take m).map (f z))) ∧ Same H H') ⟨by rw [List.take_zero, List.map_nil, List.append_nil]; exact hD1, e1⟩ (fun n H' _ q => SqL.of (q.2 _ _ hbb)) ?_ ?_
    · rintro m y H3 H4 hm ⟨hD3, e3⟩ ⟨rfl, hy⟩
      obtain ⟨u, hu, rfl⟩ := int_at hy
      have mu := List.mem_of_getElem? hu
      refine ⟨kept_set (hj _), ?_⟩
      dsimp only [tYes]
      rw [if_pos rfl]
      refine ht z u _ _ mz mu e3 ⟨f z u, _, _, rfl, hD3, room_set fun c hc => ?_, ?_, same_put hD e3⟩
      · rcases List.mem_append.mp hc with q | q
        · exact bnd n c q
        · obtain ⟨v, hv, rfl⟩ := List.mem_map.mp q
          exact hf z mz v (List.mem_of_mem_take hv)
      · rw [upd_same, setO_snoc, take_snoc hu, List.map_append, ← List.append_assoc]
        rfl
    · rintro H3 ⟨hD3, e3⟩
      rw [List.length_map, List.take_length] at hD3
      refine ⟨?_, e3⟩
      rw [hD3, take_snoc hz, List.flatMap_append]
      simp
  · rintro H1 ⟨hD1, e1⟩
    rw [List.length_map, List.take_length] at hD1
    exact k D H1 hD1 hD e1
/-- sorted(set) -/
theorem sorted_setO {w : World} {H : Hp} {D : Addr} {l : List Int} {Q : VK} {t : Int} (hD : H D = some (setO w D l)) (t0 : 0 ≤ t) (t62 : t ≤ 62) (b : ∀ a ∈ l, 0 ≤ a ∧ a ≤ t) (k : ∀ p, H p = none → Q (.ref p) (upd H p (.lst ((sortU l).map V.int)))) : rSortedSet w [V.ref D] H Q := by
  refine ⟨D, _, _, rfl, hD, by have := sortU_len t0 b; omega, fun ns p asc mem _ hp => ?_⟩
  have e : ns = sortU l := asc_eq asc (sortU_asc l) fun a => by rw [mem a, sortU_mem]; exact ⟨fun q => of_decide_eq_true q, fun q => decide_eq_true q⟩
  rw [e]
  exact k p hp

theorem sortU_nd : ∀ (n : Nat) {l : List Int}, l.length = n → l.Nodup → (sortU l).length = n
  | 0, l, e, _ => by rw [List.eq_nil_of_length_eq_zero e]; rfl
  | n + 1, l, e, h => by
    rcases List.eq_nil_or_concat l with z | ⟨m, x, rfl⟩
    · rw [z] at e; cases e
    · rw [List.concat_eq_append] at h e ⊢
      obtain ⟨h1, _, h3⟩ := List.nodup_append.mp h
      have em : m.length = n := by simpa using e
      rw [sortU_snoc, insU_len _ _ (sortU_asc m), sortU_nd n em h1, if_neg fun q => h3 x ((sortU_mem x m).mp q) x (List.mem_singleton.mpr rfl) rfl]
/-! ================= lengths of own messages ================= -/
/-- an instance of Lengths: its count, its top, its known lengths -/
def LenAt (A : Ad) (H : Hp) (x : Addr) (c : Int) (kd : Addr) : Prop := ∃ dx, H x = some (.ins A.c_Lengths dx [("count", .int c), ("top", .int (2 ^ c.toNat)), ("known", .ref kd)])
abbrev sp_Lengths_sums (_ : PySem.W.Frag) (A : Ad) : Sp := Sp3 fun v a b H Q _ => ∃ (x kd p q : Addr) (c : Int) (as bs : List Int), v = .ref x ∧ a = .ref p ∧ b = .ref q ∧ LenAt A H x c kd ∧ 0 ≤ c ∧ c ≤ 5 ∧ H p = some (.lst (as.map V.int)) ∧ H q = some (.lst (bs.map V.int)) ∧ (∀ z ∈ as, 0 ≤ z) ∧ (∀ z ∈ bs, 0 ≤ z) ∧
  ∀ (r : Addr) H', H' r = some (.lst ((sortU (as.flatMap fun x => bs.map fun y => min (2 ^ c.toNat) (x + y))).map V.int)) → H r = none → Same H H' → Q (.ref r) H'
theorem min2_eq {t s : Int} : (if s < t then s else t) = min t s := by
  rw [Int.min_def]
  split <;> split <;> omega
theorem top_32 {c : Int} (c0 : 0 ≤ c) (c5 : c ≤ 5) : (1 : Int) ≤ 2 ^ c.toNat ∧ (2 : Int) ^ c.toNat ≤ 32 := by
  obtain ⟨n, rfl⟩ := Int.eq_ofNat_of_zero_le c0
  have : n = 0 ∨ n = 1 ∨ n = 2 ∨ n = 3 ∨ n = 4 ∨ n = 5 := by omega
  rcases this with rfl | rfl | rfl | rfl | rfl | rfl <;> decide
abbrev lenFs (c kd : V) (t : V) : List (Str × V) := [("count", c), ("top", t), ("known", kd)]
theorem len_fs {c kd t : V} : (lenFs c kd t).lookup ("count" : Str) = some c ∧ (lenFs c kd t).lookup ("top" : Str) = some t ∧ (lenFs c kd t).lookup ("known" : Str) = some kd := by
  have e1 : (("top" : Str) == ("count" : Str)) = false := by decide +kernel
  have e2 : (("known" : Str) == ("count" : Str)) = false := by decide +kernel
  have e3 : (("known" : Str) == ("top" : Str)) = false := by decide +kernel
  refine ⟨by simp [List.lookup], ?_, ?_⟩
  · simp only [List.lookup_cons, e1]
    simp
  · simp only [List.lookup_cons, e2, e3]
    simp
theorem len_no {c kd t : V} {m : Str} (h : ¬ m = "count" ∧ ¬ m = "top" ∧ ¬ m = "known") : (lenFs c kd t).lookup m = none := by
  have e1 : (m == ("count" : Str)) = false := by simpa using h.1
  have e2 : (m == ("top" : Str)) = false := by simpa using h.2.1
  have e3 : (m == ("known" : Str)) = false := by simpa using h.2.2
  show List.lookup m [("count", c), ("top", t), ("known", kd)] = none
  rw [List.lookup_cons, e1, List.lookup_cons, e2, List.lookup_cons, e3]
  rfl
mutual
/-- within the bounds of the constructors -/
def Kd.fit : Kd → Prop
  | .num lo hi w => lo < hi ∧ hi - lo < 2 ^ 60 ∧ ∀ i, w = some i → 1 ≤ i ∧ i ≤ 60
  | .bits n => 1 ≤ n ∧ n ≤ 16
  | .call x => x.length ≤ 8
  | .items k w => k.fit ∧ ∀ i, w = some i → 1 ≤ i ∧ i ≤ 3
  | .nothing => True
  | .none => True
  | .way w n k => w.length ≤ 8 ∧ n.length ≤ 8 ∧ k.fit
  | .door w n k => w.length ≤ 8 ∧ n.length ≤ 8 ∧ k.fit
  | .part n k => n.length ≤ 8 ∧ k.fit
  | .room w n k => w.length ≤ 8 ∧ n.length ≤ 8 ∧ k.fit
  | .choice ks => Kd.fitAll ks
  | .row ks => Kd.fitAll ks
def Kd.fitAll : List Kd → Prop
  | [] => True
  | k :: ks => k.fit ∧ Kd.fitAll ks
end
theorem fitAll_mem : ∀ {ks : List Kd}, Kd.fitAll ks → ∀ z ∈ ks, z.fit
  | k :: ks, h, z, hz => by
    rw [Kd.fitAll] at h
    rcases List.mem_cons.mp hz with e | e
    · rw [e]; exact h.1
    · exact fitAll_mem h.2 z e
def lensN (lo hi : Int) (w : Option Int) : List Int := match w with
  | some w => [w]
  | none => if hi - lo + 1 = 1 * 2 ^ ((Builtin.Int.intBits (hi - lo + 1) : Int) - 1).toNat then [(Builtin.Int.intBits (hi - lo + 1) : Int) - 1] else [(Builtin.Int.intBits (hi - lo + 1) : Int) - 1, (Builtin.Int.intBits (hi - lo + 1) : Int) - 1 + 1]
def sumsL (t : Int) (as bs : List Int) : List Int := sortU (as.flatMap fun x => bs.map fun y => min t (x + y))
abbrev Kn := List (Str × List Int)
/-- the lengths of a Number, a Bits, a Call -/
def lensF (t : Int) (kn : Kn) : Kd → List Int
  | .num lo hi w => (lensN lo hi w).map (min t)
  | .bits n => [min t n]
  | .call x => (kn.lookup x).getD []
  | _ => []
/-- more and more items -/
def roundsL (t : Int) (step : List Int) : Nat → List Int → List Int
  | 0, f => f
  | n + 1, f => if sortU (f ++ sumsL t f step) = f then f else roundsL t step n (sortU (f ++ sumsL t f step))
def itemsL (t : Int) (it : List Int) : Option Int → List Int
  | none => roundsL t (sumsL t [1] it) t.toNat [1]
  | some w => roundsL t it (2 ^ w.toNat - 1) [min t w]
def lensK (t : Int) (kn : Kn) : Kd → List Int
  | .nothing => [0]
  | .num lo hi w => (lensN lo hi w).map (min t)
  | .bits n => [min t n]
  | .call x => (kn.lookup x).getD []
  | .items k w => itemsL t (lensF t kn k) w
  | _ => []
def bodyL (t c : Int) (kn : Kn) (w : Str) : Kd → List Int
  | .none => []
  | k => sumsL t [(w.length : Nat) + c] ((lensK t kn k).filter fun x => decide (x < t))
def wayL1 (t c : Int) (kn : Kn) : Kd → List Int
  | .way w _ k => sumsL t [(w.length : Nat)] (lensK t kn k)
  | .door w _ k => bodyL t c kn w k
  | _ => []
def rowL1 (t c : Int) (kn : Kn) (f : List Int) : Kd → List Int
  | .part _ k => sumsL t f (lensK t kn k)
  | .room w _ k => sumsL t f (0 :: bodyL t c kn w k)
  | _ => []
def namedL (t c : Int) (kn : Kn) : Kd → List Int
  | .row ks => ks.foldl (rowL1 t c kn) [0]
  | .choice ks => sortU (ks.flatMap (wayL1 t c kn))
  | k => lensK t kn k
def KnAt (H : Hp) (kd : Addr) (kn : Kn) : Prop := ∃ kvs : List (Key × V), H kd = some (.dK kvs) ∧ Paired (fun (kv : Key × V) (x : Str × List Int) => kv.1 = .inr x.1 ∧ ∃ q, q ≠ kd ∧ kv.2 = .ref q ∧ H q = some (.lst (x.2.map V.int))) kvs kn
theorem KnAt.same {H H' : Hp} {kd : Addr} {kn : Kn} (e : Same H H') (h : KnAt H kd kn) : KnAt H' kd kn := by
  obtain ⟨kvs, h1, h2⟩ := h
  exact ⟨kvs, e _ _ h1, paired_impE (fun _ _ ⟨a, q, n, b, c⟩ => ⟨a, q, n, b, e _ _ c⟩) h2⟩
theorem KnAt.get {H : Hp} {kd : Addr} {kn : Kn} {n : Str} {l : List Int} (h : KnAt H kd kn) (e : kn.lookup n = some l) : ∃ q, DGet H kd (.str n) (some (.ref q)) ∧ H q = some (.lst (l.map V.int)) := by
  obtain ⟨kvs, h1, h2⟩ := h
  have key : ∃ q, valV kvs (.inr n : Key) = some (.ref q) ∧ H q = some (.lst (l.map V.int)) := by
    clear h1
    induction h2 with
    | nil => cases e
    | cons a t ih =>
      rename_i kv x kvs tb
      obtain ⟨m, l'⟩ := x
      obtain ⟨a1, q, _, a2, a3⟩ := a
      rw [List.lookup_cons] at e
      by_cases en : n = m
      · subst en
        have z : (n == n) = true := by simp
        rw [z] at e
        have e := Option.some.inj e
        subst e
        exact ⟨q, by rw [valV_pos a1, a2], a3⟩
      · have z : (n == m) = false := by simpa using en
        rw [z] at e
        have ne : ¬ kv.1 = (.inr n : Key) := by
          rw [a1]
          intro w
          injection w with w
          exact en w.symm
        rw [valV_neg ne]
        exact ih e
  obtain ⟨q, k1, k2⟩ := key
  exact ⟨q, .inl ⟨kvs, .inr n, .inl h1, rfl, k1.symm⟩, k2⟩
def Nneg (kn : Kn) : Prop := ∀ x ∈ kn, (∀ z ∈ x.2, 0 ≤ z) ∧ x.2.length ≤ 100
/-- all that is known of an instance of Lengths -/
structure Lens (A : Ad) (H : Hp) (x : Addr) (c : Int) (kd : Addr) (kn : Kn) : Prop where
  at_ : LenAt A H x c kd
  kat : KnAt H kd kn
  c0 : 0 ≤ c
  c5 : c ≤ 5
  nn : Nneg kn
theorem Lens.same {A : Ad} {H H' : Hp} {x kd : Addr} {c : Int} {kn : Kn} (e : Same H H') (h : Lens A H x c kd kn) : Lens A H' x c kd kn := ⟨by obtain ⟨dx, q⟩ := h.at_; exact ⟨dx, e _ _ q⟩, h.kat.same e, h.c0, h.c5, h.nn⟩
abbrev tp (c : Int) : Int := 2 ^ c.toNat
/-- what a kind calls is known -/
def Knows1 (kn : Kn) : Kd → Prop
  | .call x => ∃ l, kn.lookup x = some l
  | _ => True
def Knows (kn : Kn) : Kd → Prop
  | .call x => ∃ l, kn.lookup x = some l
  | .items k _ => Knows1 kn k
  | _ => True
theorem Knows1.to {kn : Kn} {k : Kd} (h : Knows1 kn k) (f : (Td.k k).item = true) : Knows kn k := by
  cases k <;> first | exact h | trivial | cases f
def isSi : Kd → Bool
  | .nothing => true
  | .num _ _ _ => true
  | .bits _ => true
  | .call _ => true
  | .items _ _ => true
  | _ => false
/-- no Items -/
def isFl : Kd → Bool
  | .items _ _ => false
  | k => isSi k
theorem lensF_eq {t : Int} {kn : Kn} {k : Kd} (h : isFl k = true) (n : k ≠ .nothing) : lensF t kn k = lensK t kn k := by
  cases k <;> first | rfl | exact absurd rfl n | cases h
theorem fl_item {k : Kd} (h : (Td.k k).item = true) : isFl k = true ∧ isSi k = true ∧ k ≠ .nothing := by
  cases k <;> first | exact ⟨rfl, rfl, fun e => Kd.noConfusion e⟩ | cases h
theorem dp_ints {K : PySem.W.Frag} {H : Hp} : ∀ as : List Int, DpAll K H (as.map V.int) (as.map PySem.PyData.int)
  | [] => .nil
  | a :: as => .cons (.int a) (dp_ints as)
theorem eqv_intsA : ∀ as bs : List Int, PySem.PyData.eqvAll (as.map PySem.PyData.int) (bs.map PySem.PyData.int) = decide (as = bs)
  | [], [] => rfl
  | [], _ :: _ => rfl
  | _ :: _, [] => rfl
  | a :: as, b :: bs => by
    rw [List.map_cons, List.map_cons, PySem.PyData.eqvAll, eqv_intsA as bs]
    by_cases e : a = b
    · subst e
      simp [PySem.PyData.eqv]
    · simp [PySem.PyData.eqv, e]
theorem plain_ints : ∀ as : List Int, PySem.PyData.plainAll (as.map PySem.PyData.int) = true
  | [] => rfl
  | _ :: as => by
    rw [List.map_cons, PySem.PyData.plainAll, plain_ints as]
    rfl
/-- == of two lists of ints -/
theorem eq_ints {K : PySem.W.Frag} {H : Hp} {a b : Addr} {as bs : List Int} {Q : VK} (ha : H a = some (.lst (as.map V.int))) (hb : H b = some (.lst (bs.map V.int))) (q : Q (.bl (decide (as = bs))) H) : rEqP K (.ref a) (.ref b) H Q := by
  refine ⟨.list (as.map .int), .list (bs.map .int), .lst (SqL.of ha) (dp_ints as), .lst (SqL.of hb) (dp_ints bs), ?_, ?_, ?_, ?_⟩
  · rw [PySem.PyData.plain]; exact plain_ints as
  · rw [PySem.PyData.plain]; exact plain_ints bs
  · have key : ∀ l : List Int, PySem.PyData.depthAll (l.map .int) ≤ 1 := fun l => by
      induction l with
      | nil => exact (by decide : 0 ≤ 1)
      | cons x l ih => rw [List.map_cons, PySem.PyData.depthAll]; simp only [PySem.PyData.depth]; omega
    rw [PySem.PyData.depth]
    have := key as
    omega
  · rw [PySem.PyData.eqv, eqv_intsA]
    exact q
/-- sorted(set(as) | set(bs)) -/
theorem sorted_or {K : PySem.W.Frag} {w : World} {te1 te2 : TE} {σ : St} {H : Hp} {Q : VK} {a : Addr} {as bs : List Int} {t : Int} (t0 : 0 ≤ t) (t32 : t ≤ 32) (h1 : ∀ Q' : VK, Q' (.ref a) H → te1 σ H Q') (ha : H a = some (.lst (as.map V.int)))
    (h2 : ∀ (H4 : Hp) (Q' : VK), Same H H4 → (∀ b H5, H5 b = some (.lst (bs.map V.int)) → Same H4 H5 → Q' (.ref b) H5) → te2 σ H4 Q') (la : as.length ≤ 33) (lb : bs.length ≤ 33) (pos : 1 ≤ as.length) (lo : ∀ z ∈ as ++ bs, 0 ≤ z ∧ z ≤ t)
    (k : ∀ p H', H' p = some (.lst ((sortU (as ++ bs)).map V.int)) → Same H H' → Q (.ref p) H') : tCB (rSortedSet w) (tCons (tOp (rSetOr w) (tCB (rSetL K w) (tCons te1 tNil)) (tCB (rSetL K w) (tCons te2 tNil))) tNil) σ H Q := by
  refine h1 _ ⟨a, as, rfl, SqL.of ha, by omega, fun s1 c1 hs1 lc1 gc1 => ?_⟩
  have k4 := same_new (o := SetO w s1 (fun j => decide (j ∈ as)) c1) hs1
  have h14 : (upd H s1 (SetO w s1 (fun j => decide (j ∈ as)) c1)) s1 = some (SetO w s1 (fun j => decide (j ∈ as)) c1) := upd_same
  refine h2 _ _ k4 fun b H5 hb e5 => ?_
  refine ⟨b, bs, rfl, SqL.of hb, by omega, fun s2 c2 hs2 lc2 _ => ?_⟩
  have h15 := e5 _ _ h14
  have ns : s1 ≠ s2 := fun z => by rw [z, hs2] at h15; cases h15
  have k6 := same_new (o := SetO w s2 (fun j => decide (j ∈ bs)) c2) hs2
  refine ⟨s1, s2, _, _, _, _, rfl, rfl, k6 _ _ h15, upd_same, ns, gc1 pos, by omega, fun u l hu nd mem => ?_⟩
  have l33 : l.length ≤ 33 := by
    have q := sortU_len (l := l) t0 fun x hx => by
      have y := (mem x).mp hx
      rw [Bool.or_eq_true, decide_eq_true_eq, decide_eq_true_eq] at y
      exact lo x (List.mem_append.mpr y)
    rw [sortU_nd _ rfl nd] at q
    omega
  refine ⟨u, _, _, rfl, upd_same, by omega, fun ns p9 asc mem2 _ hp9 => ?_⟩
  have en : ns = sortU (as ++ bs) := asc_eq asc (sortU_asc _) fun x => by rw [mem2 x, sortU_mem, Bool.or_eq_true, decide_eq_true_eq, decide_eq_true_eq, List.mem_append]
  subst en
  exact k p9 _ upd_same (k4.trans (e5.trans (k6.trans ((same_new hu).trans (same_new hp9)))))
abbrev sp_number_lengths (_ : PySem.W.Frag) (A : Ad) : Sp := Sp1 fun v H Q _ => ∃ lo hi w, KAt A H v (.num lo hi w) ∧ (Kd.num lo hi w).fit ∧ ∀ p H', H' p = some (.lst ((lensN lo hi w).map V.int)) → H p = none → Same H H' → Q (.ref p) H'
abbrev sp_Lengths_of_kind (_ : PySem.W.Frag) (A : Ad) : Sp := Sp2 fun v a H Q _ => ∃ (x kd : Addr) (c : Int) (kn : Kn) (k : Kd), v = .ref x ∧ Lens A H x c kd kn ∧ KAt A H a k ∧ k.fit ∧ isSi k = true ∧ Knows kn k ∧ ∀ p H', H' p = some (.lst ((lensK (tp c) kn k).map V.int)) → Same H H' → Q (.ref p) H'
abbrev sp_Lengths_of_kind0 (_ : PySem.W.Frag) (A : Ad) : Sp := Sp2 fun v a H Q _ => ∃ (x kd : Addr) (c : Int) (kn : Kn) (k : Kd), v = .ref x ∧ Lens A H x c kd kn ∧ KAt A H a k ∧ k.fit ∧ isFl k = true ∧ Knows kn k ∧ ∀ p H', H' p = some (.lst ((lensK (tp c) kn k).map V.int)) → Same H H' → Q (.ref p) H'
abbrev sp_Lengths_of_items (_ : PySem.W.Frag) (A : Ad) : Sp := Sp2 fun v a H Q _ => ∃ (x kd : Addr) (c : Int) (kn : Kn) (k : Kd) (w : Option Int), v = .ref x ∧ Lens A H x c kd kn ∧ KAt A H a (.items k w) ∧ (Kd.items k w).fit ∧ Knows1 kn k ∧ ∀ p H', H' p = some (.lst ((lensK (tp c) kn (.items k w)).map V.int)) → Same H H' → Q (.ref p) H'
abbrev sp_Lengths_of_body (_ : PySem.W.Frag) (A : Ad) : Sp := Sp3 fun v w a H Q _ => ∃ (x kd : Addr) (c : Int) (kn : Kn) (k : Kd) (y : Str), v = .ref x ∧ w = .str y ∧ y.length ≤ 8 ∧ Lens A H x c kd kn ∧ KAt A H a k ∧ k.fit ∧ (k = .none ∨ isSi k = true) ∧ Knows kn k ∧ ∀ p H', H' p = some (.lst ((bodyL (tp c) c kn y k).map V.int)) → Same H H' → Q (.ref p) H'
abbrev sp_Lengths_of_row (_ : PySem.W.Frag) (A : Ad) : Sp := Sp2 fun v a H Q _ => ∃ (x kd : Addr) (c : Int) (kn : Kn) (ks : List Kd), v = .ref x ∧ Lens A H x c kd kn ∧ KAt A H a (.row ks) ∧ (Kd.row ks).fit ∧ ks.length ≤ 8 ∧ (∀ z ∈ ks, Knows kn (inK z)) ∧ ∀ p H', H' p = some (.lst ((namedL (tp c) c kn (.row ks)).map V.int)) → H p = none → Same H H' → Q (.ref p) H'
abbrev sp_Lengths_of_named (_ : PySem.W.Frag) (A : Ad) : Sp := Sp2 fun v a H Q _ => ∃ (x kd : Addr) (c : Int) (kn : Kn) (k : Kd), v = .ref x ∧ Lens A H x c kd kn ∧ KAt A H a k ∧ k.fit ∧ k.top = true ∧ (∀ z ∈ innersK k, Knows kn z) ∧ ∀ p H', H' p = some (.lst ((namedL (tp c) c kn k).map V.int)) → Same H H' → Q (.ref p) H'
theorem bits_pos {m : Int} (h : 2 ≤ m) (h2 : m ≤ 2 ^ 60) : 2 ≤ (Builtin.Int.intBits m : Int) ∧ (Builtin.Int.intBits m : Int) ≤ 61 := by
  obtain ⟨n, rfl⟩ := Int.eq_ofNat_of_zero_le (by omega : 0 ≤ m)
  have n0 : n ≠ 0 := by omega
  have e : Builtin.Int.intBits (n : Int) = n.log2 + 1 := by
    unfold Builtin.Int.intBits
    simp [n0]
  rw [e]
  have l1 : n.log2 < 61 := (Nat.log2_lt n0).mpr (by omega)
  have l2 : 1 ≤ n.log2 := by
    rcases Nat.lt_or_ge n.log2 1 with q | q
    · have := (Nat.log2_lt n0).mp q
      omega
    · exact q
  omega
theorem ints_pair : ∀ ws : List Int, Paired (fun v (n : Int) => v = V.int n) (ws.map V.int) ws
  | [] => .nil
  | _ :: ws => .cons rfl (ints_pair ws)
theorem pair_ints : ∀ {vs : List V} {ws : List Int}, Paired (fun v (n : Int) => v = V.int n) vs ws → vs = ws.map V.int
  | _, _, .nil => rfl
  | _, _, .cons h t => by rw [h, pair_ints t]; rfl
theorem lensN_len {lo hi : Int} {w : Option Int} : (lensN lo hi w).length ≤ 2 := by
  cases w with
  | some i => exact (by decide : 1 ≤ 2)
  | none =>
    show (if _ then _ else _ : List Int).length ≤ 2
    split <;> simp
theorem lensN_nn {lo hi : Int} {w : Option Int} (h : (Kd.num lo hi w).fit) : ∀ z ∈ lensN lo hi w, 0 ≤ z := by
  rw [Kd.fit] at h
  obtain ⟨h1, h2, h3⟩ := h
  intro z hz
  cases w with
  | some i =>
    rw [lensN, List.mem_singleton] at hz
    have := h3 i rfl
    omega
  | none =>
    obtain ⟨b1, b2⟩ := bits_pos (m := hi - lo + 1) (by omega) (by omega)
    rw [lensN] at hz
    split at hz
    · rw [List.mem_singleton] at hz
      omega
    · rcases List.mem_cons.mp hz with e | e
      · omega
      · rw [List.mem_singleton] at e
        omega
theorem lensF_nn {t c : Int} {kn : Kn} {k : Kd} (nn : Nneg kn) (hf : k.fit) (hk : Knows1 kn k) (t0 : 0 ≤ t) : (∀ z ∈ lensF t kn k, 0 ≤ z) ∧ (lensF t kn k).length ≤ 100 := by
  cases k with
  | num lo hi w =>
    refine ⟨fun z hz => ?_, ?_⟩
    · obtain ⟨y, hy, rfl⟩ := List.mem_map.mp hz
      have := lensN_nn hf y hy
      omega
    · rw [lensF, List.length_map]
      exact Nat.le_trans lensN_len (by decide)
  | bits n =>
    rw [Kd.fit] at hf
    refine ⟨fun z hz => ?_, by simp [lensF]⟩
    rw [lensF, List.mem_singleton] at hz
    omega
  | call x =>
    obtain ⟨l, hl⟩ := hk
    have e : lensF t kn (.call x) = l := by rw [lensF, hl]; rfl
    rw [e]
    exact nn _ (PySem.mem_of_lookup hl)
  | _ => exact ⟨fun z hz => (nomatch (show z ∈ ([] : List Int) from hz)), Nat.zero_le _⟩
/-- a row of sums that stay between 0 and 32 -/
def Low (t : Int) (l : List Int) : Prop := ∀ z ∈ l, 0 ≤ z ∧ z ≤ t
theorem sums_low {t : Int} {as bs : List Int} (t0 : 0 ≤ t) (ha : ∀ z ∈ as, 0 ≤ z) (hb : ∀ z ∈ bs, 0 ≤ z) : Low t (sumsL t as bs) := fun z hz => by
  obtain ⟨y, hy, hz⟩ := List.mem_flatMap.mp ((sortU_mem _ _).mp hz)
  obtain ⟨u, hu, rfl⟩ := List.mem_map.mp hz
  have := ha y hy
  have := hb u hu
  exact ⟨by omega, by omega⟩
/-- a row of lengths in order -/
structure LowA (t : Int) (l : List Int) : Prop where
  low : Low t l
  len : (l.length : Int) ≤ t + 1
  pos : 1 ≤ l.length
theorem LowA.more {t : Int} {f st : List Int} (t0 : 0 ≤ t) (h : LowA t f) (hs : ∀ z ∈ st, 0 ≤ z) : LowA t (sortU (f ++ sumsL t f st)) := by
  have lo : Low t (f ++ sumsL t f st) := fun z hz => by
    rcases List.mem_append.mp hz with q | q
    · exact h.low z q
    · exact sums_low t0 (fun a ha => (h.low a ha).1) hs z q
  refine ⟨fun z hz => lo z ((sortU_mem _ _).mp hz), sortU_len t0 lo, ?_⟩
  obtain ⟨a, l, e⟩ : ∃ a l, f = a :: l := by
    cases f with
    | nil => exact absurd h.pos (by decide)
    | cons a l => exact ⟨a, l, rfl⟩
  have m : a ∈ sortU (f ++ sumsL t f st) := (sortU_mem _ _).mpr (by rw [e]; exact List.mem_cons_self ..)
  exact List.length_pos_of_mem m
theorem rounds_low {t : Int} {st : List Int} (t0 : 0 ≤ t) (hs : ∀ z ∈ st, 0 ≤ z) : ∀ (n : Nat) {f : List Int}, LowA t f → LowA t (roundsL t st n f)
  | 0, f, h => h
  | n + 1, f, h => by
    rw [roundsL]
    split
    · exact h
    · exact rounds_low t0 hs n (h.more t0 hs)
theorem items_low {t : Int} {it : List Int} {w : Option Int} (t1 : 1 ≤ t) (hs : ∀ z ∈ it, 0 ≤ z) (hw : ∀ i, w = some i → 1 ≤ i ∧ i ≤ 3) : LowA t (itemsL t it w) := by
  have one : ∀ a : Int, 0 ≤ a → a ≤ t → LowA t [a] := fun a a0 a1 => ⟨fun z hz => by rw [List.mem_singleton.mp hz]; exact ⟨a0, a1⟩, by show ((1 : Nat) : Int) ≤ _; omega, Nat.le_refl 1⟩
  cases w with
  | none => exact rounds_low (by omega) (fun z hz => (sums_low (by omega) (fun a ha => by rw [List.mem_singleton.mp ha]; omega) hs z hz).1) _ (one 1 (by omega) t1)
  | some i =>
    have := hw i rfl
    exact rounds_low (by omega) hs _ (one _ (by omega) (by omega))
theorem lensK_nn {t c : Int} {kn : Kn} {k : Kd} (c0 : 0 ≤ c) (c5 : c ≤ 5) (nn : Nneg kn) (hf : k.fit) (hk : Knows kn k) (et : t = tp c := by rfl) : (∀ z ∈ lensK t kn k, 0 ≤ z) ∧ (lensK t kn k).length ≤ 100 := by
  have t0 : 0 ≤ t := by rw [et]; exact Int.le_of_lt (Int.pow_pos (by decide))
  cases k with
  | nothing => exact ⟨fun z hz => by rw [lensK, List.mem_singleton] at hz; omega, by simp [lensK]⟩
  | num lo hi w =>
    refine ⟨fun z hz => ?_, ?_⟩
    · obtain ⟨y, hy, rfl⟩ := List.mem_map.mp hz
      have := lensN_nn hf y hy
      omega
    · rw [lensK, List.length_map]
      exact Nat.le_trans lensN_len (by decide)
  | bits n =>
    rw [Kd.fit] at hf
    refine ⟨fun z hz => ?_, by simp [lensK]⟩
    rw [lensK, List.mem_singleton] at hz
    omega
  | call x =>
    obtain ⟨l, hl⟩ := hk
    have e : lensK t kn (.call x) = l := by rw [lensK, hl]; rfl
    rw [e]
    exact nn _ (PySem.mem_of_lookup hl)
  | items i w =>
    rw [Kd.fit] at hf
    obtain ⟨t1, t32⟩ := top_32 c0 c5
    have r := items_low (t := t) (w := w) (by rw [et]; exact t1) (lensF_nn (c := c) nn hf.1 hk t0).1 hf.2
    refine ⟨fun z hz => (r.low z hz).1, ?_⟩
    have := r.len
    have e2 : t ≤ 32 := by rw [et]; exact t32
    show (itemsL _ _ _).length ≤ 100
    omega
  | _ => exact ⟨fun z hz => (nomatch (show z ∈ ([] : List Int) from hz)), Nat.zero_le _⟩
theorem knows_in {kn : Kn} {ks : List Kd} (h : ∀ z ∈ (ks.map inK).filter notNon, Knows kn z) : ∀ z ∈ ks, Knows kn (inK z) := fun z hz => by
  cases e : notNon (inK z) with
  | true => exact h _ (List.mem_filter.mpr ⟨List.mem_map_of_mem hz, e⟩)
  | false =>
    have : inK z = .none := by
      cases q : inK z <;> first | rfl | (rw [q] at e; cases e)
    rw [this]
    trivial
theorem sums_len {t : Int} {as bs : List Int} (t0 : 0 ≤ t) (t32 : t ≤ 32) (ha : ∀ z ∈ as, 0 ≤ z) (hb : ∀ z ∈ bs, 0 ≤ z) : (sumsL t as bs).length ≤ 33 := by
  have := sortU_len (l := as.flatMap fun x => bs.map fun y => min t (x + y)) t0 fun z hz => by
    obtain ⟨y, hy, hz⟩ := List.mem_flatMap.mp hz
    obtain ⟨u, hu, rfl⟩ := List.mem_map.mp hz
    have := ha y hy
    have := hb u hu
    exact ⟨by omega, by omega⟩
  show (sortU _).length ≤ 33
  omega
/-- what is told of the own messages of a kind: few, none below 0 -/
def Few (l : List Int) : Prop := (∀ z ∈ l, 0 ≤ z) ∧ l.length ≤ 33
theorem sums_few {t : Int} {as bs : List Int} (t0 : 0 ≤ t) (t32 : t ≤ 32) (ha : ∀ z ∈ as, 0 ≤ z) (hb : ∀ z ∈ bs, 0 ≤ z) : Few (sumsL t as bs) := ⟨fun z hz => (sums_low t0 ha hb z hz).1, sums_len t0 t32 ha hb⟩
theorem body_few {c : Int} {kn : Kn} {w : Str} {k : Kd} (c0 : 0 ≤ c) (c5 : c ≤ 5) (nn : Nneg kn) (hf : k.fit) (hk : Knows kn k) : Few (bodyL (tp c) c kn w k) := by
  obtain ⟨t1, t32⟩ := top_32 c0 c5
  have key : ∀ l : List Int, (∀ z ∈ l, 0 ≤ z) → Few (sumsL (tp c) [(w.length : Nat) + c] (l.filter fun x => decide (x < tp c))) := fun l h => sums_few (by show (0 : Int) ≤ 2 ^ c.toNat; omega) t32 (fun z hz => by rw [List.mem_singleton.mp hz]; omega) fun z hz => h z (List.mem_filter.mp hz).1
  have nnk := (lensK_nn c0 c5 nn hf hk).1
  cases k with
  | none => exact ⟨fun z hz => (nomatch (show z ∈ ([] : List Int) from hz)), Nat.zero_le _⟩
  | _ => exact key _ nnk
theorem way_few {c : Int} {kn : Kn} {z : Kd} (c0 : 0 ≤ c) (c5 : c ≤ 5) (nn : Nneg kn) (hf : z.fit) (hk : Knows kn (inK z)) : Few (wayL1 (tp c) c kn z) := by
  obtain ⟨t1, t32⟩ := top_32 c0 c5
  cases z with
  | way w n k =>
    rw [Kd.fit] at hf
    exact sums_few (by show (0 : Int) ≤ 2 ^ c.toNat; omega) t32 (fun z hz => by rw [List.mem_singleton.mp hz]; omega) (lensK_nn c0 c5 nn hf.2.2 hk).1
  | door w n k =>
    rw [Kd.fit] at hf
    exact body_few c0 c5 nn hf.2.2 hk
  | _ => exact ⟨fun z hz => (nomatch (show z ∈ ([] : List Int) from hz)), Nat.zero_le _⟩
theorem flat_few {α : Type} {f : α → List Int} : ∀ {l : List α}, (∀ a ∈ l, Few (f a)) → (∀ z ∈ l.flatMap f, 0 ≤ z) ∧ (l.flatMap f).length ≤ 33 * l.length
  | [], _ => ⟨fun z hz => (nomatch hz), Nat.le_refl _⟩
  | a :: l, h => by
    have h1 := h a (List.mem_cons_self ..)
    have h2 := flat_few fun b hb => h b (List.mem_cons_of_mem _ hb)
    rw [List.flatMap_cons, List.length_append, List.length_cons]
    refine ⟨fun z hz => ?_, ?_⟩
    · rcases List.mem_append.mp hz with q | q
      · exact h1.1 z q
      · exact h2.1 z q
    · have := h1.2
      have := h2.2
      omega
theorem si_of {k : Kd} (h : (Td.k k).way = true ∨ (Td.k k).simple = true) (f : k.fit) : isSi k = true := by
  cases k <;> first | rfl | (rw [Kd.fit] at f; exact f.elim) | (rcases h with h | h <;> cases h)
theorem si_door {k : Kd} (h : (Td.k k).door = true) (f : k.fit) : k = .none ∨ isSi k = true := by
  cases k <;> first | exact .inl rfl | exact .inr rfl | (rw [Kd.fit] at f; exact f.elim) | cases h
theorem si_room {k : Kd} (h : (Td.k k).room = true) (f : k.fit) : k = .none ∨ isSi k = true := by
  cases k <;> first | exact .inl rfl | exact .inr rfl | (rw [Kd.fit] at f; exact f.elim) | cases h
/-- no sum beyond the top -/
theorem sums_top {t : Int} {as bs : List Int} : ∀ z ∈ sumsL t as bs, z ≤ t := fun z hz => by
  obtain ⟨y, hy, hz⟩ := List.mem_flatMap.mp ((sortU_mem _ _).mp hz)
  obtain ⟨u, hu, rfl⟩ := List.mem_map.mp hz
  omega
theorem body_top {t c : Int} {kn : Kn} {w : Str} {k : Kd} : ∀ z ∈ bodyL t c kn w k, z ≤ t := by
  cases k with
  | none => exact fun z hz => (nomatch (show z ∈ ([] : List Int) from hz))
  | _ => exact fun z hz => sums_top z hz
theorem way_top {t c : Int} {kn : Kn} {z : Kd} : ∀ a ∈ wayL1 t c kn z, a ≤ t := by
  cases z with
  | way w n k => exact sums_top
  | door w n k => exact body_top
  | _ => exact fun z hz => (nomatch (show z ∈ ([] : List Int) from hz))
theorem ways_low {t c : Int} {kn : Kn} (_ : 0 ≤ t) (ks : List Kd) : ∀ a ∈ ks.flatMap (wayL1 t c kn), a ≤ t := fun a ha => by
  obtain ⟨z, _, hz⟩ := List.mem_flatMap.mp ha
  exact way_top a hz
theorem flat_one {α : Type} {f : α → List Int} {a : α} : [a].flatMap f = f a := by simp
theorem none_same {H H' : Hp} {p : Addr} (e : Same H H') (h : H' p = none) : H p = none := by
  cases z : H p with
  | none => rfl
  | some o => rw [e _ _ z] at h; cases h
theorem row_few {c : Int} {kn : Kn} {z : Kd} {f : List Int} (c0 : 0 ≤ c) (c5 : c ≤ 5) (nn : Nneg kn) (hf : z.fit) (hk : Knows kn (inK z)) (h : Few f) : Few (rowL1 (tp c) c kn f z) := by
  obtain ⟨t1, t32⟩ := top_32 c0 c5
  have tt : (0 : Int) ≤ tp c := by show (0 : Int) ≤ 2 ^ c.toNat; omega
  cases z with
  | part n k =>
    rw [Kd.fit] at hf
    exact sums_few tt t32 h.1 (lensK_nn c0 c5 nn hf.2 hk).1
  | room w n k =>
    rw [Kd.fit] at hf
    refine sums_few tt t32 h.1 fun z hz => ?_
    rcases List.mem_cons.mp hz with e | e
    · omega
    · exact (body_few c0 c5 nn hf.2.2 hk).1 z e
  | _ => exact ⟨fun z hz => (nomatch (show z ∈ ([] : List Int) from hz)), Nat.zero_le _⟩
theorem rows_few {c : Int} {kn : Kn} (c0 : 0 ≤ c) (c5 : c ≤ 5) (nn : Nneg kn) : ∀ (ks : List Kd), (∀ z ∈ ks, z.fit) → (∀ z ∈ ks, Knows kn (inK z)) → Few (ks.foldl (rowL1 (tp c) c kn) [0]) := by
  have key : ∀ (ks : List Kd) (f : List Int), Few f → (∀ z ∈ ks, z.fit) → (∀ z ∈ ks, Knows kn (inK z)) → Few (ks.foldl (rowL1 (tp c) c kn) f) := by
    intro ks
    induction ks with
    | nil => exact fun f h _ _ => h
    | cons z ks ih => exact fun f h hf hk => ih _ (row_few c0 c5 nn (hf z (List.mem_cons_self ..)) (hk z (List.mem_cons_self ..)) h) (fun a ha => hf a (List.mem_cons_of_mem _ ha)) fun a ha => hk a (List.mem_cons_of_mem _ ha)
  exact fun ks => key ks [0] ⟨fun z hz => by rw [List.mem_singleton.mp hz]; omega, by decide⟩
/-- what is known of each name is what its kind tells -/
def FixL (tb : Tb) (c : Int) (kn : Kn) : Prop := ∀ n k, tb.lookup n = some k → kn.lookup n = some (namedL (tp c) c kn k)
abbrev sp_Lengths___init__ (_ : PySem.W.Frag) (A : Ad) : Sp := Sp3 fun s v a H Q _ => ∃ (H0 : Hp) (x p : Addr) (tb : Tb) (kvs : List (Key × V)) (rk : Str → Nat) (c : Int), s = .ref x ∧ Fresh A.c_Lengths x H0 H ∧ v = .ref p ∧ a = .int c ∧ TbAt A H0 p tb kvs ∧ H0 p = some (.dK kvs) ∧ TbTop tb ∧ (∀ z ∈ tb, z.2.fit) ∧ tb.length ≤ 20 ∧ Ranked tb rk ∧ 0 ≤ c ∧ c ≤ 5 ∧
  ∀ kd kn H', Lens A H' x c kd kn → FixL tb c kn → Same H0 H' → Q .non H'

abbrev sp_Lengths_is_long (_ : PySem.W.Frag) (A : Ad) : Sp := Sp2 fun v a H Q _ => ∃ (x kd : Addr) (c : Int) (kn : Kn) (k : Kd), v = .ref x ∧ Lens A H x c kd kn ∧ KAt A H a k ∧ k.fit ∧ isSi k = true ∧ Knows kn k ∧ ∀ H', Same H H' → Q (.bl (decide (tp c ∈ lensK (tp c) kn k))) H'
/-- no room and no door that holds a kind one of whose own messages may be as long as the top -/
def NoLong (tb : Tb) (c : Int) : Prop := ∀ kn, FixL tb c kn → ∀ z ∈ tb, ∀ ks, z.2 = .choice ks ∨ z.2 = .row ks → ∀ k ∈ ks, (∃ w n, k = .door w n (inK k) ∨ k = .room w n (inK k)) → inK k ≠ .none → tp c ∉ lensK (tp c) kn (inK k)
abbrev sp_long_body (_ : PySem.W.Frag) (A : Ad) : Sp := Sp2 fun v a H Q _ => ∃ (p : Addr) (tb : Tb) (kvs : List (Key × V)) (rk : Str → Nat) (c : Int), v = .ref p ∧ a = .int c ∧ TbAt A H p tb kvs ∧ H p = some (.dK kvs) ∧ TbTop tb ∧ (∀ z ∈ tb, z.2.fit) ∧ tb.length ≤ 20 ∧ Ranked tb rk ∧ 0 ≤ c ∧ c ≤ 5 ∧
  NoLong tb c ∧ ∀ H', Same H H' → Q .non H'
structure Fresh2 (C : Addr) (x : Addr) (H0 H : Hp) (dx : Addr) (fs : List (Str × V)) : Prop where
  no : H0 x = none
  s : Same H0 H
  at' : H x = some (.ins C dx fs)
theorem put2E {c t : V} : putF "top" t (putF "count" c []) = ([(("count" : Str), c), (("top" : Str), t)] : List (Str × V)) := by
  show (if ("count" : Str) = ("top" : Str) then _ else _) = ([(("count" : Str), c), (("top" : Str), t)] : List (Str × V))
  rw [if_neg (by decide +kernel)]
  rfl
theorem put3E {c t kd : V} : putF "known" kd (putF "top" t (putF "count" c [])) = lenFs c kd t := by
  rw [put2E]
  show (if ("count" : Str) = ("known" : Str) then _ else (("count" : Str), c) :: (if ("top" : Str) = ("known" : Str) then _ else _)) = lenFs c kd t
  rw [if_neg (by decide +kernel), if_neg (by decide +kernel)]
  rfl
/-- what is known behind the names ds -/
def knL (tb : Tb) (c : Int) (ds : List Str) : Kn := ds.foldl (fun kn n => kn ++ [(n, namedL (tp c) c kn ((tb.lookup n).getD .none))]) []
theorem knL_snoc {tb : Tb} {c : Int} {ds : List Str} {n : Str} : knL tb c (ds ++ [n]) = knL tb c ds ++ [(n, namedL (tp c) c (knL tb c ds) ((tb.lookup n).getD .none))] := by
  unfold knL
  rw [List.foldl_append]
  rfl
theorem snoc_ind {α : Type} {P : List α → Prop} (h0 : P []) (h : ∀ l a, P l → P (l ++ [a])) (l : List α) : P l := by
  have : ∀ m : List α, P m.reverse := fun m => by
    induction m with
    | nil => exact h0
    | cons a m ih => rw [List.reverse_cons]; exact h _ _ ih
  have q := this l.reverse
  rwa [List.reverse_reverse] at q
theorem knL_names {tb : Tb} {c : Int} (ds : List Str) : (knL tb c ds).map (·.1) = ds := by
  induction ds using snoc_ind with
  | h0 => rfl
  | h l a ih => rw [knL_snoc, List.map_append, ih]; rfl
theorem knL_len {tb : Tb} {c : Int} (ds : List Str) : (knL tb c ds).length = ds.length := by
  have := congrArg List.length (knL_names (tb := tb) (c := c) ds)
  rwa [List.length_map] at this
theorem kn_look {n : Str} : ∀ {kn : Kn}, n ∈ kn.map (·.1) → ∃ l, kn.lookup n = some l
  | x :: kn, h => by
    obtain ⟨m, l⟩ := x
    rw [List.lookup_cons]
    by_cases e : n = m
    · subst e
      exact ⟨l, by simp⟩
    · have e2 : (n == m) = false := by simpa using e
      rw [e2]
      rcases List.mem_cons.mp h with z | z
      · exact absurd z e
      · exact kn_look z
theorem kn_lookN {n : Str} : ∀ {kn : Kn}, n ∉ kn.map (·.1) → kn.lookup n = none
  | [], _ => rfl
  | x :: kn, h => by
    obtain ⟨m, l⟩ := x
    have e2 : (n == m) = false := by
      have : n ≠ m := fun z => h (z ▸ List.mem_cons_self ..)
      simpa using this
    rw [List.lookup_cons, e2]
    exact kn_lookN fun z => h (List.mem_cons_of_mem _ z)
theorem knL_has {tb : Tb} {c : Int} {n : Str} (ds : List Str) (h : n ∈ ds) : ∃ l, (knL tb c ds).lookup n = some l := kn_look (by rw [knL_names]; exact h)
theorem knL_none {tb : Tb} {c : Int} {n : Str} {ds : List Str} (h : n ∉ ds) : (knL tb c ds).lookup n = none := kn_lookN (by rw [knL_names]; exact h)
theorem kn_none {H : Hp} {kd : Addr} {n : Str} : ∀ {kvs : List (Key × V)} {kn : Kn}, Paired (fun (kv : Key × V) (x : Str × List Int) => kv.1 = .inr x.1 ∧ ∃ q, q ≠ kd ∧ kv.2 = .ref q ∧ H q = some (.lst (x.2.map V.int))) kvs kn → kn.lookup n = none → valV kvs (.inr n : Key) = none
  | _, _, .nil, _ => rfl
  | kv :: kvs, x :: kn, .cons a t, e => by
    obtain ⟨m, l⟩ := x
    obtain ⟨a1, _⟩ := a
    rw [List.lookup_cons] at e
    by_cases en : n = m
    · subst en
      have z : (n == n) = true := by simp
      rw [z] at e
      cases e
    · have z : (n == m) = false := by simpa using en
      rw [z] at e
      have ne : ¬ kv.1 = (.inr n : Key) := by
        rw [a1]
        intro w
        injection w with w
        exact en w.symm
      rw [valV_neg ne]
      exact kn_none t e
theorem knows_of {kn : Kn} {k : Kd} (h : ∀ m ∈ callsK k, ∃ l, kn.lookup m = some l) : ∀ z ∈ innersK k, Knows kn z := fun z hz => by
  cases z with
  | call m => exact h m (List.mem_flatMap.mpr ⟨_, hz, List.mem_singleton.mpr rfl⟩)
  | items i w =>
    cases i with
    | call m => exact h m (List.mem_flatMap.mpr ⟨_, hz, List.mem_singleton.mpr rfl⟩)
    | _ => trivial
  | _ => trivial
theorem nodup_take {ds : List Str} {i : Nat} {n : Str} (h : ds.Nodup) (e : ds[i]? = some n) : n ∉ ds.take i := by
  have h2 := h.sublist (List.take_sublist (i + 1) ds)
  rw [take_snoc e] at h2
  obtain ⟨_, _, h3⟩ := List.nodup_append.mp h2
  exact fun m => h3 n m n (List.mem_singleton.mpr rfl) rfl
theorem named_ok {c : Int} {kn : Kn} {k : Kd} (c0 : 0 ≤ c) (c5 : c ≤ 5) (nn : Nneg kn) (top : k.top = true) (hf : k.fit) (hk : ∀ z ∈ innersK k, Knows kn z) : (∀ z ∈ namedL (tp c) c kn k, 0 ≤ z) ∧ (namedL (tp c) c kn k).length ≤ 100 := by
  obtain ⟨t1, t32⟩ := top_32 c0 c5
  have tt : (0 : Int) ≤ tp c := by show (0 : Int) ≤ 2 ^ c.toNat; omega
  cases k with
  | row ks =>
    have := rows_few c0 c5 nn ks (fitAll_mem (by rw [Kd.fit] at hf; exact hf)) (knows_in hk)
    exact ⟨this.1, Nat.le_trans this.2 (by decide)⟩
  | choice ks =>
    have fa := fitAll_mem (by rw [Kd.fit] at hf; exact hf)
    have kin := knows_in hk
    obtain ⟨nnz, _⟩ := flat_few (l := ks) (f := wayL1 (tp c) c kn) fun a ha => way_few c0 c5 nn (fa a ha) (kin a ha)
    have le := ways_low (t := tp c) (c := c) (kn := kn) tt ks
    refine ⟨fun z hz => nnz z ((sortU_mem _ _).mp hz), ?_⟩
    have := sortU_len tt fun z hz => ⟨nnz z hz, le z hz⟩
    have e : tp c ≤ 32 := t32
    show (sortU _).length ≤ 100
    omega
  | _ => exact lensK_nn c0 c5 nn hf (hk _ (List.mem_singleton.mpr rfl))
/-- the same names known alike -/
def Alike (kn kn' : Kn) (ns : List Str) : Prop := ∀ n ∈ ns, kn.lookup n = kn'.lookup n
theorem lensK_alike {t : Int} {kn kn' : Kn} {k : Kd} (h : Alike kn kn' (callOf k)) : lensK t kn k = lensK t kn' k := by
  cases k with
  | call x => rw [lensK, lensK, h x (List.mem_singleton.mpr rfl)]
  | items i w =>
    show itemsL t _ w = itemsL t _ w
    cases i with
    | call x => rw [lensF, lensF, h x (List.mem_singleton.mpr rfl)]
    | _ => rfl
  | _ => rfl
theorem body_alike {t c : Int} {kn kn' : Kn} {w : Str} {k : Kd} (h : Alike kn kn' (callOf k)) : bodyL t c kn w k = bodyL t c kn' w k := by
  have e := lensK_alike (t := t) h
  cases k with
  | none => rfl
  | _ => show sumsL _ _ _ = sumsL _ _ _; rw [e]
theorem inner_mem {ks : List Kd} {z : Kd} {n : Str} (hz : z ∈ ks) (h : n ∈ callOf (inK z)) : n ∈ ((ks.map inK).filter notNon).flatMap callOf := by
  refine List.mem_flatMap.mpr ⟨inK z, List.mem_filter.mpr ⟨List.mem_map_of_mem hz, ?_⟩, h⟩
  cases e : inK z <;> first | rfl | (rw [e] at h; cases h)
theorem way_alike {t c : Int} {kn kn' : Kn} {z : Kd} (h : Alike kn kn' (callOf (inK z))) : wayL1 t c kn z = wayL1 t c kn' z := by
  cases z with
  | way w n k => show sumsL _ _ _ = sumsL _ _ _; rw [lensK_alike (k := k) h]
  | door w n k => exact body_alike h
  | _ => rfl
theorem rowL_alike {t c : Int} {kn kn' : Kn} {z : Kd} {f : List Int} (h : Alike kn kn' (callOf (inK z))) : rowL1 t c kn f z = rowL1 t c kn' f z := by
  cases z with
  | part n k => show sumsL _ _ _ = sumsL _ _ _; rw [lensK_alike (k := k) h]
  | room w n k => show sumsL _ _ (0 :: _) = sumsL _ _ (0 :: _); rw [body_alike (k := k) h]
  | _ => rfl
theorem named_alike {t c : Int} {kn kn' : Kn} {k : Kd} (h : Alike kn kn' (callsK k)) : namedL t c kn k = namedL t c kn' k := by
  cases k with
  | row ks =>
    have key : ∀ (l : List Kd) (f : List Int), (∀ z ∈ l, z ∈ ks) → l.foldl (rowL1 t c kn) f = l.foldl (rowL1 t c kn') f := by
      intro l
      induction l with
      | nil => exact fun _ _ => rfl
      | cons z l ih =>
        intro f hl
        rw [List.foldl_cons, List.foldl_cons, rowL_alike fun n hn => h n (inner_mem (hl z (List.mem_cons_self ..)) hn)]
        exact ih _ fun a ha => hl a (List.mem_cons_of_mem _ ha)
    exact key ks [0] fun _ h => h
  | choice ks =>
    have key : ∀ (l : List Kd), (∀ z ∈ l, z ∈ ks) → l.flatMap (wayL1 t c kn) = l.flatMap (wayL1 t c kn') := by
      intro l
      induction l with
      | nil => exact fun _ => rfl
      | cons z l ih =>
        intro hl
        rw [List.flatMap_cons, List.flatMap_cons, way_alike fun n hn => h n (inner_mem (hl z (List.mem_cons_self ..)) hn), ih fun a ha => hl a (List.mem_cons_of_mem _ ha)]
    show sortU _ = sortU _
    rw [key ks fun _ h => h]
  | call x => exact lensK_alike (t := t) fun n hn => h n (List.mem_flatMap.mpr ⟨_, List.mem_singleton.mpr rfl, hn⟩)
  | items i w => exact lensK_alike (t := t) fun n hn => h n (List.mem_flatMap.mpr ⟨_, List.mem_singleton.mpr rfl, hn⟩)
  | _ => rfl
theorem kn_app {n : Str} {l : List Int} {kn' : Kn} : ∀ {kn : Kn}, kn.lookup n = some l → (kn ++ kn').lookup n = some l
  | x :: kn, h => by
    obtain ⟨m, l'⟩ := x
    rw [List.lookup_cons] at h
    rw [List.cons_append, List.lookup_cons]
    cases e : n == m with
    | true => rw [e] at h; exact h
    | false => rw [e] at h; exact kn_app h
theorem kn_appN {n : Str} {kn' : Kn} : ∀ {kn : Kn}, kn.lookup n = none → (kn ++ kn').lookup n = kn'.lookup n
  | [], _ => rfl
  | x :: kn, h => by
    obtain ⟨m, l'⟩ := x
    rw [List.lookup_cons] at h
    rw [List.cons_append, List.lookup_cons]
    cases e : n == m with
    | true => rw [e] at h; cases h
    | false => rw [e] at h; exact kn_appN h
/-- what is known early stays -/
theorem knL_ext {tb : Tb} {c : Int} (ds es : List Str) : ∃ kn', knL tb c (ds ++ es) = knL tb c ds ++ kn' := by
  induction es using snoc_ind with
  | h0 => exact ⟨[], by simp⟩
  | h l a ih =>
    obtain ⟨kn', e⟩ := ih
    rw [← List.append_assoc, knL_snoc, e]
    exact ⟨kn' ++ [(a, namedL (tp c) c (knL tb c ds ++ kn') ((tb.lookup a).getD .none))], by rw [List.append_assoc]⟩
theorem fix_of {tb : Tb} {c : Int} {rk : Str → Nat} {ds : List Str} (rd : Ranked tb rk) (perm : ds.Perm tb.names) (topo : Topo tb ds) : FixL tb c (knL tb c ds) := by
  intro n k hk
  have hn : n ∈ ds := perm.mem_iff.mpr (List.mem_map.mpr ⟨_, look_mem hk, rfl⟩)
  have nd : ds.Nodup := perm.nodup_iff.mpr rd.nd
  obtain ⟨i, hi, rfl⟩ := List.mem_iff_getElem.mp hn
  have e1 : ds[i]? = some ds[i] := by simp [hi]
  have sp : ds = (ds.take i ++ [ds[i]]) ++ ds.drop (i + 1) := by rw [← take_snoc e1, List.take_append_drop]
  have tk : ds.take i ++ [ds[i]] = ds.take (i + 1) := (take_snoc e1).symm
  obtain ⟨kn2, h2⟩ := knL_ext (tb := tb) (c := c) (ds.take i ++ [ds[i]]) (ds.drop (i + 1))
  rw [← sp, knL_snoc, hk] at h2
  have al : Alike (knL tb c (ds.take i)) (knL tb c ds) (callsK k) := by
    intro m hm
    obtain ⟨l, hl⟩ := knL_has (tb := tb) (c := c) _ (topo i _ e1 k hk m hm)
    rw [hl, h2, List.append_assoc, kn_app hl]
  rw [← named_alike al, h2, List.append_assoc, kn_appN (knL_none (nodup_take nd e1))]
  show (((ds[i], _) :: [] ++ kn2 : Kn)).lookup ds[i] = _
  rw [List.cons_append, List.lookup_cons]
  simp
theorem inV_intE {y : Int} : ∀ ws : List Int, inV (.int y) (ws.map V.int) = decide (y ∈ ws)
  | [] => rfl
  | w :: ws => by
    have ih := inV_intE (y := y) ws
    show (eqV (.int w) (.int y) || inV (.int y) (ws.map V.int)) = _
    rw [ih]
    show (decide (w = y) || decide (y ∈ ws)) = _
    by_cases e : w = y
    · subst e; simp
    · rw [decide_eq_false e, Bool.false_or]
      exact decide_eq_decide.mpr ⟨fun h => List.mem_cons_of_mem _ h, fun h => (List.mem_cons.mp h).elim (fun z => absurd z.symm e) id⟩
theorem flat_intsE : ∀ ws : List Int, (ws.map V.int).all flatV = true
  | [] => rfl
  | _ :: ws => flat_intsE ws
theorem knows_fix {tb : Tb} {rk : Str → Nat} {c : Int} {kn : Kn} {n : Str} {k : Kd} (rd : Ranked tb rk) (fx : FixL tb c kn) (h : tb.lookup n = some k) : ∀ z ∈ innersK k, Knows kn z := knows_of fun m hm => by
  obtain ⟨k2, h2⟩ := look_has (rd.lo n k h m hm).1
  exact ⟨_, fx m k2 h2⟩
theorem in_mem {k : Kd} {ks : List Kd} {z : Kd} (h : k = .choice ks ∨ k = .row ks) (m : z ∈ ks) (n : notNon (inK z) = true) : inK z ∈ innersK k := by
  rcases h with rfl | rfl <;> exact List.mem_filter.mpr ⟨List.mem_map_of_mem m, n⟩
theorem in_si {A : Ad} {H : Hp} {v : V} {z : Kd} {w m : Str} (h : KAt A H v z) (f : z.fit) (e : z = .door w m (inK z) ∨ z = .room w m (inK z)) (n : inK z ≠ .none) : (inK z).fit ∧ isSi (inK z) = true := by
  cases h with
  | door ob kk oo =>
    rw [Kd.fit] at f
    exact ⟨f.2.2, (si_door oo f.2.2).resolve_left n⟩
  | room ob kk oo =>
    rw [Kd.fit] at f
    exact ⟨f.2.2, (si_room oo f.2.2).resolve_left n⟩
  | _ => rcases e with e | e <;> cases e

/-! ================= the machine, newly made ================= -/
/-- the fields that Plan.__init__ stores -/
abbrev planFs (nm cn ow mo fo pl no nu : V) : List (Str × V) := putF "numbers" nu (putF "nodes" no (putF "places" pl (putF "forms" fo (putF "most" mo (putF "own" ow (putF "count" cn (putF "named" nm [])))))))
/-- what those fields hold at first -/
structure PlanNew (H : Hp) (fo pl no nu : Addr) : Prop where
  fo : H fo = some (.lst [])
  pl : H pl = some (.dK [])
  no : ∃ t, H no = some (.lst [.ref t]) ∧ H t = some (.tup [.str "whole"])
  nu : H nu = some (.dT [([.inr "whole"], .int 0)])
theorem PlanNew.same {H H' : Hp} {fo pl no nu : Addr} (e : Same H H') (h : PlanNew H fo pl no nu) : PlanNew H' fo pl no nu := ⟨e _ _ h.fo, e _ _ h.pl, by obtain ⟨t, a, b⟩ := h.no; exact ⟨t, e _ _ a, e _ _ b⟩, e _ _ h.nu⟩
theorem free_of {H H' : Hp} {b : Addr} (e : Same H H') (h : H' b = none) : H b = none := by
  cases z : H b with
  | none => rfl
  | some o => rw [e _ _ z] at h; cases h
abbrev sp_Plan___init__ (_ : PySem.W.Frag) (A : Ad) : Sp := Sp4 fun s v a b H Q _ => ∃ (H0 : Hp) (x p : Addr) (c : Int) (own : Bool), s = .ref x ∧ Fresh A.c_Machine x H0 H ∧ v = .ref p ∧ a = .int c ∧ b = .bl own ∧ 0 ≤ c ∧ c ≤ 5 ∧
  ∀ dx (fo pl no nu : Addr) H', H' x = some (.ins A.c_Machine dx (planFs (.ref p) (.int c) (.bl own) (.int (2 ^ c.toNat - 1)) (.ref fo) (.ref pl) (.ref no) (.ref nu))) → PlanNew H' fo pl no nu → (∀ b ∈ [fo, pl, no, nu], H0 b = none) → Same H0 H' → Q .non H'
/-- a new object o at a, then the field f of x holds v -/
theorem put_obj {H0 H : Hp} {x C dx a : Addr} {fs : List (Str × V)} {f : Str} {v : V} {o : HO} (no : H0 x = none) (e : Same H0 H) (hx : H x = some (.ins C dx fs)) (ha : H a = none) :
    (upd (upd H a o) x (.ins C dx (putF f v fs))) x = some (.ins C dx (putF f v fs)) ∧ Same H0 (upd (upd H a o) x (.ins C dx (putF f v fs))) ∧ (upd (upd H a o) x (.ins C dx (putF f v fs))) a = some o ∧ ∀ b u, b ≠ x → H b = some u → (upd (upd H a o) x (.ins C dx (putF f v fs))) b = some u := by
  have na : a ≠ x := fun z => by rw [z, hx] at ha; cases ha
  refine ⟨upd_same, same_put no (e.trans (same_new ha)), by rw [upd_ne na, upd_same], fun b u nb hb => ?_⟩
  rw [upd_ne nb, upd_ne (ne_of_none hb ha)]
  exact hb
theorem PlanNew.keepX {H H' : Hp} {x C dx fo pl no nu : Addr} {fs : List (Str × V)} (h : PlanNew H fo pl no nu) (hx : H x = some (.ins C dx fs)) (k : ∀ b u, b ≠ x → H b = some u → H' b = some u) : PlanNew H' fo pl no nu := by
  obtain ⟨h1, h2, ⟨t, h3, h4⟩, h5⟩ := h
  exact ⟨k _ _ (fun z => by rw [z, hx] at h1; cases h1) h1, k _ _ (fun z => by rw [z, hx] at h2; cases h2) h2, ⟨t, k _ _ (fun z => by rw [z, hx] at h3; cases h3) h3, k _ _ (fun z => by rw [z, hx] at h4; cases h4) h4⟩, k _ _ (fun z => by rw [z, hx] at h5; cases h5) h5⟩
abbrev countFs (nm cn ow mo fo pl no nu ct ro re la : V) : List (Str × V) := putF "lacks" la (putF "repeated" re (putF "rows" ro (putF "counted" ct (planFs nm cn ow mo fo pl no nu))))
structure CountNew (H : Hp) (ct ro re la : Addr) : Prop where
  ct : H ct = some (.dT [])
  ro : H ro = some (.dT [])
  re : H re = some (.dT [])
  la : H la = some (.dK [])
theorem CountNew.keepX {H H' : Hp} {x C dx ct ro re la : Addr} {fs : List (Str × V)} (h : CountNew H ct ro re la) (hx : H x = some (.ins C dx fs)) (k : ∀ b u, b ≠ x → H b = some u → H' b = some u) : CountNew H' ct ro re la := by
  obtain ⟨h1, h2, h3, h4⟩ := h
  exact ⟨k _ _ (fun z => by rw [z, hx] at h1; cases h1) h1, k _ _ (fun z => by rw [z, hx] at h2; cases h2) h2, k _ _ (fun z => by rw [z, hx] at h3; cases h3) h3, k _ _ (fun z => by rw [z, hx] at h4; cases h4) h4⟩
theorem CountNew.same {H H' : Hp} {ct ro re la : Addr} (e : Same H H') (h : CountNew H ct ro re la) : CountNew H' ct ro re la := ⟨e _ _ h.ct, e _ _ h.ro, e _ _ h.re, e _ _ h.la⟩
abbrev sp_Counter___init__ (_ : PySem.W.Frag) (A : Ad) : Sp := Sp4 fun s v a b H Q _ => ∃ (H0 : Hp) (x p : Addr) (c : Int) (own : Bool), s = .ref x ∧ Fresh A.c_Machine x H0 H ∧ v = .ref p ∧ a = .int c ∧ b = .bl own ∧ 0 ≤ c ∧ c ≤ 5 ∧
  ∀ dx (fo pl no nu ct ro re la : Addr) H', H' x = some (.ins A.c_Machine dx (countFs (.ref p) (.int c) (.bl own) (.int (2 ^ c.toNat - 1)) (.ref fo) (.ref pl) (.ref no) (.ref nu) (.ref ct) (.ref ro) (.ref re) (.ref la))) → PlanNew H' fo pl no nu → CountNew H' ct ro re la → pl ≠ la → (∀ b ∈ [fo, pl, no, nu, ct, ro, re, la], H0 b = none) → Same H0 H' → Q .non H'
abbrev machFs (nm cn ow mo fo pl no nu ct ro re la go mv tu st : V) : List (Str × V) := putF "states" st (putF "tuples" tu (putF "moved" mv (putF "gone" go (countFs nm cn ow mo fo pl no nu ct ro re la))))
structure MachNew (H : Hp) (go mv tu st : Addr) : Prop where
  ne : go ≠ mv
  go : H go = some (.dT [])
  mv : H mv = some (.dT [])
  tu : ∃ t, H tu = some (.lst [.ref t]) ∧ H t = some (.tup [.int 0])
  st : H st = some (.dT [([.inl 0], .int 0)])
abbrev sp_Machine___init__ (_ : PySem.W.Frag) (A : Ad) : Sp := Sp4 fun s v a b H Q _ => ∃ (H0 : Hp) (x p : Addr) (c : Int) (own : Bool), s = .ref x ∧ Fresh A.c_Machine x H0 H ∧ v = .ref p ∧ a = .int c ∧ b = .bl own ∧ 0 ≤ c ∧ c ≤ 5 ∧
  ∀ dx (fo pl no nu ct ro re la go mv tu st : Addr) H', H' x = some (.ins A.c_Machine dx (machFs (.ref p) (.int c) (.bl own) (.int (2 ^ c.toNat - 1)) (.ref fo) (.ref pl) (.ref no) (.ref nu) (.ref ct) (.ref ro) (.ref re) (.ref la) (.ref go) (.ref mv) (.ref tu) (.ref st))) → PlanNew H' fo pl no nu → CountNew H' ct ro re la → MachNew H' go mv tu st → pl ≠ la → (∀ b ∈ [fo, pl, no, nu, ct, ro, re, la, go, mv, tu, st], H0 b = none) → Same H0 H' → Q .non H'

/-! ================= editions without rooms ================= -/
def isRoom : Kd → Bool
  | .room _ _ _ => true
  | _ => false
def NoRoom (tb : Tb) : Prop := ∀ z ∈ tb, ∀ ks, z.2 = .row ks → ∀ k ∈ ks, isRoom k = false
abbrev sp_is_taken (_ : PySem.W.Frag) (_ : Ad) : Sp := fun _ _ _ _ => False
abbrev sp_last_taken (_ : PySem.W.Frag) (A : Ad) : Sp := Sp2 fun v a H Q _ => ∃ (m p dm : Addr) (fs : List (Str × V)) (tb : Tb) (kvs : List (Key × V)) (n : Str), v = .ref m ∧ a = .str n ∧ H m = some (.ins A.c_Machine dm fs) ∧ fs.lookup ("named" : Str) = some (.ref p) ∧ TbAt A H p tb kvs ∧ TbTop tb ∧ n ∈ tb.names ∧ NoRoom tb ∧
  ∀ H', Same H H' → Q .non H'
abbrev sp_check_rooms (_ : PySem.W.Frag) (A : Ad) : Sp := Sp1 fun v H Q _ => ∃ (m p dm : Addr) (fs : List (Str × V)) (tb : Tb) (kvs : List (Key × V)) (rk : Str → Nat), v = .ref m ∧ H m = some (.ins A.c_Machine dm fs) ∧ fs.lookup ("named" : Str) = some (.ref p) ∧ TbAt A H p tb kvs ∧ H p = some (.dK kvs) ∧ TbTop tb ∧ tb.length ≤ 20 ∧ Ranked tb rk ∧ NoRoom tb ∧
  ∀ H', Same H H' → Q .non H'
def okN (n : Str) : Prop := okName (.str n) = true ∧ n.length ≤ 8
abbrev sp_are_kinds (_ : PySem.W.Frag) (A : Ad) : Sp := Sp1 fun v H Q _ => ∃ (p : Addr) (tb : Tb) (kvs : List (Key × V)), v = .ref p ∧ TbAt A H p tb kvs ∧ H p = some (.dK kvs) ∧ TbTop tb ∧ tb.names.Nodup ∧ (∀ n ∈ tb.names, okN n) ∧ 1 ≤ tb.length ∧ tb.length ≤ 20 ∧
  ∀ H', Same H H' → Q (.bl true) H'
abbrev sp_check_parts (_ : PySem.W.Frag) (A : Ad) : Sp := Sp3 fun v a b H Q _ => ∃ (p : Addr) (tb : Tb) (kvs : List (Key × V)) (r : Str) (c : Int), v = .ref p ∧ a = .str r ∧ b = .int c ∧ TbAt A H p tb kvs ∧ H p = some (.dK kvs) ∧ TbTop tb ∧ tb.names.Nodup ∧ (∀ n ∈ tb.names, okN n) ∧ 1 ≤ tb.length ∧ tb.length ≤ 20 ∧ r ∈ tb.names ∧ okN r ∧ 1 ≤ c ∧ c ≤ 5 ∧
  ∀ H', Same H H' → Q .non H'
theorem Frz.new {H H1 : Hp} {p q : Addr} {od : Obj} {u o : HO} (f : Frz H H1 p od u) (n : H1 q = none) : Frz H (upd H1 q o) p od u := by
  have nq : q ≠ p := fun z => by rw [z, f.at_] at n; cases n
  refine f.put ?_ nq
  cases z : H q with
  | none => rfl
  | some v => rw [f.kp _ _ nq z] at n; cases n
theorem top_any {k : Kd} (h : k.top = true) : ([Kc.num, .bits, .items, .call, .choice, .row].any fun c => decide ((Td.k k).cls = some c)) = true := by
  cases k <;> first | rfl | cases h
theorem any_no {α : Type} : ∀ (l : List α), (((l.filter fun _ => true).map fun _ => false).any id) = false
  | [] => rfl
  | a :: l => by
    have := any_no l
    simpa using this
theorem not_room {k : Kd} (h : isRoom k = false) : decide ((Td.k k).cls = some Kc.room) = false := by
  cases k <;> first | rfl | cases h
/-- a table that makes an edition: no rooms, no body that may be too long -/
structure EdOk (tb : Tb) (r : Str) (c : Int) (rk : Str → Nat) : Prop where
  top : TbTop tb
  nms : ∀ n ∈ tb.names, okN n
  l1 : 1 ≤ tb.length
  l20 : tb.length ≤ 20
  hr : r ∈ tb.names
  hrn : okN r
  c1 : 1 ≤ c
  c5 : c ≤ 5
  fits : ∀ z ∈ tb, z.2.fit
  rd : Ranked tb rk
  nor : NoRoom tb
  nol : NoLong tb c
theorem EdOk.noring {tb : Tb} {r : Str} {c : Int} {rk : Str → Nat} (h : EdOk tb r c rk) : ∀ n ∈ tb.names, ¬ Reach tb n n := fun n _ q => Nat.lt_irrefl _ (h.rd.reach q)
abbrev edFs (tb r c m om : V) : List (Str × V) := putF "own_machine" om (putF "machine" m (putF "count" c (putF "root" r (putF "table" tb []))))
/-- a machine that has done nothing yet -/
def MachAt (A : Ad) (H : Hp) (m p : Addr) (c : Int) (own : Bool) : Prop := ∃ (dx fo pl no nu ct ro re la go mv tu st : Addr), H m = some (.ins A.c_Machine dx (machFs (.ref p) (.int c) (.bl own) (.int (2 ^ c.toNat - 1)) (.ref fo) (.ref pl) (.ref no) (.ref nu) (.ref ct) (.ref ro) (.ref re) (.ref la) (.ref go) (.ref mv) (.ref tu) (.ref st))) ∧ PlanNew H fo pl no nu ∧ CountNew H ct ro re la ∧ MachNew H go mv tu st ∧ pl ≠ la
theorem MachNew.same {H H' : Hp} {go mv tu st : Addr} (e : Same H H') (h : MachNew H go mv tu st) : MachNew H' go mv tu st := ⟨h.ne, e _ _ h.go, e _ _ h.mv, by obtain ⟨t, a, b⟩ := h.tu; exact ⟨t, e _ _ a, e _ _ b⟩, e _ _ h.st⟩
theorem MachAt.same {A : Ad} {H H' : Hp} {m p : Addr} {c : Int} {own : Bool} (e : Same H H') (h : MachAt A H m p c own) : MachAt A H' m p c own := by
  obtain ⟨dx, fo, pl, no, nu, ct, ro, re, la, go, mv, tu, st, h1, h2, h3, h4, h5⟩ := h
  exact ⟨dx, fo, pl, no, nu, ct, ro, re, la, go, mv, tu, st, e _ _ h1, h2.same e, h3.same e, h4.same e, h5⟩
/-- the edition at x -/
structure EdAt (A : Ad) (H : Hp) (x : Addr) (tb : Tb) (r : Str) (c : Int) : Prop where
  at_ : ∃ dx p kvs m om, H x = some (.ins A.c_Edition dx (edFs (.ref p) (.str r) (.int c) (.ref m) (.ref om))) ∧ TbAt A H p tb kvs ∧ H p = some (.dK kvs) ∧ MachAt A H m p c false ∧ MachAt A H om p c true
  top : TbTop tb
  nd : tb.names.Nodup
theorem EdAt.same {A : Ad} {H H' : Hp} {x : Addr} {tb : Tb} {r : Str} {c : Int} (e : Same H H') (h : EdAt A H x tb r c) : EdAt A H' x tb r c := by
  obtain ⟨dx, p, kvs, m, om, h1, h2, h3, h4, h5⟩ := h.at_
  exact ⟨⟨dx, p, kvs, m, om, e _ _ h1, h2.same e, e _ _ h3, h4.same e, h5.same e⟩, h.top, h.nd⟩
/-- a machine that has done nothing yet, its tables new since G -/
def MachAtN (A : Ad) (G H : Hp) (m p : Addr) (c : Int) (own : Bool) : Prop := ∃ (dx fo pl no nu ct ro re la go mv tu st : Addr), H m = some (.ins A.c_Machine dx (machFs (.ref p) (.int c) (.bl own) (.int (2 ^ c.toNat - 1)) (.ref fo) (.ref pl) (.ref no) (.ref nu) (.ref ct) (.ref ro) (.ref re) (.ref la) (.ref go) (.ref mv) (.ref tu) (.ref st))) ∧ PlanNew H fo pl no nu ∧ CountNew H ct ro re la ∧ MachNew H go mv tu st ∧ pl ≠ la ∧ ∀ b ∈ [fo, pl, no, nu, ct, ro, re, la, go, mv, tu, st], G b = none
theorem MachAtN.at {A : Ad} {G H : Hp} {m p : Addr} {c : Int} {own : Bool} (h : MachAtN A G H m p c own) : MachAt A H m p c own := by
  obtain ⟨dx, fo, pl, no, nu, ct, ro, re, la, go, mv, tu, st, h1, h2, h3, h4, h5, _⟩ := h
  exact ⟨dx, fo, pl, no, nu, ct, ro, re, la, go, mv, tu, st, h1, h2, h3, h4, h5⟩
theorem MachAtN.same {A : Ad} {G H H' : Hp} {m p : Addr} {c : Int} {own : Bool} (e : Same H H') (h : MachAtN A G H m p c own) : MachAtN A G H' m p c own := by
  obtain ⟨dx, fo, pl, no, nu, ct, ro, re, la, go, mv, tu, st, h1, h2, h3, h4, h5, h6⟩ := h
  exact ⟨dx, fo, pl, no, nu, ct, ro, re, la, go, mv, tu, st, e _ _ h1, h2.same e, h3.same e, h4.same e, h5, h6⟩
/-- the edition at x, its machines' tables new since G -/
structure EdNew (A : Ad) (G H : Hp) (x : Addr) (tb : Tb) (r : Str) (c : Int) : Prop where
  at_ : ∃ dx p kvs m om, H x = some (.ins A.c_Edition dx (edFs (.ref p) (.str r) (.int c) (.ref m) (.ref om))) ∧ TbAt A H p tb kvs ∧ H p = some (.dK kvs) ∧ MachAtN A G H m p c false ∧ MachAtN A G H om p c true ∧ G p = none
  top : TbTop tb
  nd : tb.names.Nodup
theorem EdNew.at {A : Ad} {G H : Hp} {x : Addr} {tb : Tb} {r : Str} {c : Int} (h : EdNew A G H x tb r c) : EdAt A H x tb r c := by
  obtain ⟨dx, p, kvs, m, om, h1, h2, h3, h4, h5, _⟩ := h.at_
  exact ⟨⟨dx, p, kvs, m, om, h1, h2, h3, h4.at, h5.at⟩, h.top, h.nd⟩
theorem EdNew.same {A : Ad} {G H H' : Hp} {x : Addr} {tb : Tb} {r : Str} {c : Int} (e : Same H H') (h : EdNew A G H x tb r c) : EdNew A G H' x tb r c := by
  obtain ⟨dx, p, kvs, m, om, h1, h2, h3, h4, h5, h6⟩ := h.at_
  exact ⟨⟨dx, p, kvs, m, om, e _ _ h1, h2.same e, e _ _ h3, h4.same e, h5.same e, h6⟩, h.top, h.nd⟩
abbrev sp_Edition___init__ (_ : PySem.W.Frag) (A : Ad) : Sp := Sp4 fun s v a b H Q _ => ∃ (H0 : Hp) (x p : Addr) (tb : Tb) (kvs : List (Key × V)) (rk : Str → Nat) (r : Str) (c : Int), s = .ref x ∧ Fresh A.c_Edition x H0 H ∧ v = .ref p ∧ a = .str r ∧ b = .int c ∧ TbAt A H0 p tb kvs ∧ H0 p = some (.dK kvs) ∧ EdOk tb r c rk ∧
  ∀ H', EdAt A H' x tb r c → Same H0 H' → EdNew A H0 H' x tb r c → Q .non H'
/-- edition.table.get(name) is a choice -/
def chOf (tb : Tb) (v : V) : Option (List Kd) := if okName v = false then none else match tb.lookup (strOf v) with
  | some (.choice ks) => some ks
  | _ => none
def wordK : Kd → Str
  | .way w _ _ => w
  | .door w _ _ => w
  | _ => Str.empty
/-- the words one behind another: each a word that clashes with none ahead of it -/
def fitsGo (told : List Str) : List V → Bool
  | [] => true
  | x :: xs => if okWord x = false ∨ (told.any fun o => pre2 (strOf x) o) = true then false else fitsGo (told ++ [strOf x]) xs
def fitsV (told : List Str) : Option (List V) → Bool
  | some xs => decide (1 ≤ xs.length) && (decide (xs.length ≤ 6) && fitsGo told xs)
  | none => false
/-- a list of things, or another thing -/
inductive Things (K : PySem.W.Frag) (H : Hp) : V → Option (List V) → Prop where
  | lst {a : Addr} {vs : List V} (e : H a = some (.lst vs)) (h : ∀ x ∈ vs, Short x ∧ ∃ t, VT K H x t) (n : vs.length ≤ 1000) : Things K H (.ref a) (some vs)
  | no {v : V} {t : Value} (h : VT K H v t) (n : t ≠ .type "list") : Things K H v none
theorem okName_str {v : V} (h : okName v = true) : ∃ n, v = .str n := by
  cases v <;> first | exact ⟨_, rfl⟩ | cases h
theorem okWord_str {v : V} (h : okWord v = true) : ∃ n, v = .str n := by
  cases v <;> first | exact ⟨_, rfl⟩ | cases h
theorem ed_table {tb r c m om : V} : (edFs tb r c m om).lookup ("table" : Str) = some tb := by
  have n1 : ¬ ("table" : Str) = "own_machine" := by decide +kernel
  have n2 : ¬ ("table" : Str) = "machine" := by decide +kernel
  have n3 : ¬ ("table" : Str) = "count" := by decide +kernel
  have n4 : ¬ ("table" : Str) = "root" := by decide +kernel
  rw [lookup_putF, if_neg n1, lookup_putF, if_neg n2, lookup_putF, if_neg n3, lookup_putF, if_neg n4, lookup_putF, if_pos rfl]
theorem dc_it {J : It} {n : Nat} {G : Hp → Prop} {Y : Nat → Hp → V → Hp → Prop} (w : Walk J n G Y) {g : TG} {tt : TT} {tk tv : TE} {vs : List Nat} {σ : L2.St} {H1 : Hp} {D : Addr} {Qd : Hp → Prop} (Pv : Nat → Hp → Prop) (h0 : Pv 0 (upd H1 D (.dK []))) (hG : ∀ i H, i ≤ n → Pv i H → G H)
    (hs : ∀ i x H H', i < n → Pv i H → Y i H x H' → g x (wipe σ vs) H' fun σ2 H2 => wipe σ2 vs = wipe σ vs ∧ tt σ2 H2 fun b H3 =>
      if b = true then tk σ2 H3 fun y H4 => tv σ2 H4 fun z H5 => ∃ kvs k, y = kV k ∧ H5 D = some (.dK kvs) ∧ kvs.length < sizeLine ∧ Pv (i + 1) (upd H5 D (.dK (putK kvs k z))) else Pv (i + 1) H3) (hd : ∀ H, Pv n H → Qd H) :
    ∃ W : Nat → Nat → Hp → Prop, (∃ m, W 0 m (upd H1 D (.dK []))) ∧ ∀ i m H, W i m H →
      (J.stop i H ∧ Qd H) ∨ (J.go i H ∧ ∃ Nx : Hp → Prop, (∀ H', Nx H' → ∃ m', m' < m ∧ W (i + 1) m' H') ∧ ∀ x H', J.yld i H x H' → g x (wipe σ vs) H' fun σ2 H2 => wipe σ2 vs = wipe σ vs ∧ tt σ2 H2 fun b H3 =>
        if b = true then tk σ2 H3 fun y H4 => tv σ2 H4 fun z H5 => ∃ kvs k, y = kV k ∧ H5 D = some (.dK kvs) ∧ kvs.length < sizeLine ∧ Nx (upd H5 D (.dK (putK kvs k z))) else Nx H3) := by
  refine ⟨fun i m H => m = n - i ∧ i ≤ n ∧ Pv i H, ⟨n, by simp, Nat.zero_le _, h0⟩, ?_⟩
  rintro i m H ⟨rfl, hi, p⟩
  have q := hG i H hi p
  by_cases hlt : i < n
  · refine .inr ⟨w.goes i H hlt q, Pv (i + 1), fun H' p' => ⟨n - (i + 1), by omega, rfl, hlt, p'⟩, fun x H' y => hs i x H H' hlt p (w.yields i H x H' hlt q y)⟩
  · have e : i = n := by omega
    subst e
    exact .inl ⟨w.stops H q, hd H p⟩
theorem KAt.keepD {A : Ad} {H : Hp} {D : Addr} {kvs : List (Key × V)} {o : HO} {v : V} {k : Kd} (h : H D = some (.dK kvs)) (hk : KAt A H v k) : KAt A (upd H D o) v k :=
  hk.keepIT (fun b C dx fs e => by rw [upd_ne (fun z => by rw [z, h] at e; cases e)]; exact e) (fun b xs e => by rw [upd_ne (fun z => by rw [z, h] at e; cases e)]; exact e)
theorem KAt.keepF {A : Ad} {H : Hp} {D : Addr} {od : Obj} {kvs : List (Key × V)} {o : HO} {v : V} {k : Kd} (h : H D = some (.frz od (.dK kvs))) (hk : KAt A H v k) : KAt A (upd H D o) v k :=
  hk.keepIT (fun b C dx fs e => by rw [upd_ne (fun z => by rw [z, h] at e; cases e)]; exact e) (fun b xs e => by rw [upd_ne (fun z => by rw [z, h] at e; cases e)]; exact e)
theorem take_fresh {tb : Tb} {i : Nat} {y : Str × Kd} {o : Kd} (nd : tb.names.Nodup) (h : tb[i]? = some y) : ¬ (tb.take i).lookup y.1 = some o := fun e => by
  have m : (y.1, o) ∈ tb.take i := PySem.mem_of_lookup e
  have m2 : y.1 ∈ (tb.names).take i := by
    rw [show tb.names.take i = (tb.take i).map (·.1) from List.map_take.symm]
    exact List.mem_map.mpr ⟨_, m, rfl⟩
  refine nodup_take nd (i := i) (n := y.1) ?_ m2
  show (tb.map (·.1))[i]? = some y.1
  rw [List.getElem?_map, h]
  rfl
theorem mach_named {nm cn ow mo fo pl no nu ct ro re la go mv tu st : V} : (machFs nm cn ow mo fo pl no nu ct ro re la go mv tu st).lookup ("named" : Str) = some nm := by
  have n1 : ¬ ("named" : Str) = "states" := by decide +kernel
  have n2 : ¬ ("named" : Str) = "tuples" := by decide +kernel
  have n3 : ¬ ("named" : Str) = "moved" := by decide +kernel
  have n4 : ¬ ("named" : Str) = "gone" := by decide +kernel
  have n5 : ¬ ("named" : Str) = "lacks" := by decide +kernel
  have n6 : ¬ ("named" : Str) = "repeated" := by decide +kernel
  have n7 : ¬ ("named" : Str) = "rows" := by decide +kernel
  have n8 : ¬ ("named" : Str) = "counted" := by decide +kernel
  have n9 : ¬ ("named" : Str) = "numbers" := by decide +kernel
  have n10 : ¬ ("named" : Str) = "nodes" := by decide +kernel
  have n11 : ¬ ("named" : Str) = "places" := by decide +kernel
  have n12 : ¬ ("named" : Str) = "forms" := by decide +kernel
  have n13 : ¬ ("named" : Str) = "most" := by decide +kernel
  have n14 : ¬ ("named" : Str) = "own" := by decide +kernel
  have n15 : ¬ ("named" : Str) = "count" := by decide +kernel
  rw [lookup_putF, if_neg n1, lookup_putF, if_neg n2, lookup_putF, if_neg n3, lookup_putF, if_neg n4, lookup_putF, if_neg n5, lookup_putF, if_neg n6, lookup_putF, if_neg n7, lookup_putF, if_neg n8, lookup_putF, if_neg n9, lookup_putF, if_neg n10, lookup_putF, if_neg n11, lookup_putF, if_neg n12, lookup_putF, if_neg n13, lookup_putF, if_neg n14, lookup_putF, if_neg n15, lookup_putF, if_pos rfl]
theorem TbAt.getR {A : Ad} {H : Hp} {p : Addr} {tb : Tb} {kvs : List (Key × V)} {n : Str} (h : TbAt A H p tb kvs) (hn : n ∈ tb.names) : ∃ k v, tb.lookup n = some k ∧ KAt A H v k ∧ valV kvs (.inr n : Key) = some v := by
  rcases ents_val (n := n) h.en with ⟨k, v, h1, h2, h3⟩ | ⟨q, _⟩
  · exact ⟨k, v, h1, h3, h2⟩
  · exact absurd hn q
theorem MachNew.keepX {H H' : Hp} {x C dx go mv tu st : Addr} {fs : List (Str × V)} (h : MachNew H go mv tu st) (hx : H x = some (.ins C dx fs)) (k : ∀ b u, b ≠ x → H b = some u → H' b = some u) : MachNew H' go mv tu st := by
  obtain ⟨h6, h1, h2, ⟨t, h3, h4⟩, h5⟩ := h
  exact ⟨h6, k _ _ (fun z => by rw [z, hx] at h1; cases h1) h1, k _ _ (fun z => by rw [z, hx] at h2; cases h2) h2, ⟨t, k _ _ (fun z => by rw [z, hx] at h3; cases h3) h3, k _ _ (fun z => by rw [z, hx] at h4; cases h4) h4⟩, k _ _ (fun z => by rw [z, hx] at h5; cases h5) h5⟩
theorem MachAt.keepX {A : Ad} {H H' : Hp} {m p x C dx : Addr} {c : Int} {own : Bool} {fs : List (Str × V)} (h : MachAt A H m p c own) (nm : m ≠ x) (hx : H x = some (.ins C dx fs)) (k : ∀ b u, b ≠ x → H b = some u → H' b = some u) : MachAt A H' m p c own := by
  obtain ⟨dm, fo, pl, no, nu, ct, ro, re, la, go, mv, tu, st, h1, h2, h3, h4, h5⟩ := h
  exact ⟨dm, fo, pl, no, nu, ct, ro, re, la, go, mv, tu, st, k _ _ nm h1, h2.keepX hx k, h3.keepX hx k, h4.keepX hx k, h5⟩
theorem MachAtN.keepX {A : Ad} {G H H' : Hp} {m p x C dx : Addr} {c : Int} {own : Bool} {fs : List (Str × V)} (h : MachAtN A G H m p c own) (nm : m ≠ x) (hx : H x = some (.ins C dx fs)) (k : ∀ b u, b ≠ x → H b = some u → H' b = some u) : MachAtN A G H' m p c own := by
  obtain ⟨dm, fo, pl, no, nu, ct, ro, re, la, go, mv, tu, st, h1, h2, h3, h4, h5, h6⟩ := h
  exact ⟨dm, fo, pl, no, nu, ct, ro, re, la, go, mv, tu, st, k _ _ nm h1, h2.keepX hx k, h3.keepX hx k, h4.keepX hx k, h5, h6⟩
/-- the word of a way or a door, read -/
theorem wd_word {K : PySem.W.Frag} {mg : Str → Option Value} {A : Ad} (T : Txt K mg A) {H : Hp} {v : V} {k : Kd} (h : KAt A H v k) (w : (Td.k k).wd = true) : ∃ x C dx fs, v = .ref x ∧ H x = some (.ins C dx fs) ∧ Cls K C ∧ NoAttr K C "word" ∧ fs.lookup ("word" : Str) = some (.str (wordK k)) := by
  cases h with
  | way h k o => obtain ⟨dx, fs, h1, h2⟩ := h; exact ⟨_, _, dx, fs, rfl, h1, T.cl_Way, T.n_Way_word, h2 _ (List.mem_cons_self ..)⟩
  | door h k o => obtain ⟨dx, fs, h1, h2⟩ := h; exact ⟨_, _, dx, fs, rfl, h1, T.cl_Door, T.n_Door_word, h2 _ (List.mem_cons_self ..)⟩
  | _ => cases w
theorem fits_no {told : List Str} {xs : List V} (h : fitsGo told xs = false) : fitsV told (some xs) = false := by
  show (decide (1 ≤ xs.length) && (decide (xs.length ≤ 6) && fitsGo told xs)) = false
  rw [h, Bool.and_false, Bool.and_false]
theorem any_begins {y : Str} (l : List Str) : (((l.filter fun _ => true).map fun o => pre2 y o).any id) = l.any fun o => pre2 y o := by
  rw [List.filter_eq_self.mpr fun _ _ => rfl, List.any_map]
  rfl
theorem ch_look {tb : Tb} {v : V} {ks : List Kd} (h : chOf tb v = some ks) : tb.lookup (strOf v) = some (.choice ks) := by
  unfold chOf at h
  split at h
  · cases h
  · split at h
    · rename_i e
      rw [e, Option.some.inj h]
    · cases h
theorem ch_len {tb : Tb} {v : V} {ks : List Kd} (h : chOf tb v = some ks) (top : TbTop tb) : ks.length ≤ 12 := of_decide_eq_true (top.look (ch_look h))
theorem fitsGo_bad {told : List Str} {x : V} {xs : List V} (h : okWord x = false) : fitsGo told (x :: xs) = false := by
  rw [fitsGo, if_pos (.inl h)]
theorem fitsGo_clash {told : List Str} {x : V} {xs : List V} (h : (told.any fun o => pre2 (strOf x) o) = true) : fitsGo told (x :: xs) = false := by
  rw [fitsGo, if_pos (.inr h)]
theorem fitsGo_go {told : List Str} {x : V} {xs : List V} (h1 : okWord x = true) (h2 : (told.any fun o => pre2 (strOf x) o) = false) : fitsGo told (x :: xs) = fitsGo (told ++ [strOf x]) xs := by
  rw [fitsGo, if_neg]
  rintro (z | z)
  · rw [h1] at z; cases z
  · rw [h2] at z; cases z
theorem drop_at {α : Type} {l : List α} {i : Nat} {x : α} (h : l[i]? = some x) : l.drop i = x :: l.drop (i + 1) := by
  obtain ⟨hi, e⟩ := List.getElem?_eq_some_iff.mp h
  rw [List.drop_eq_getElem_cons hi, e]
theorem inner_ok {f : Str → Str → Kd → Kd} {w n : Str} {t : Td} {b : Bool} (hw : okWord (.str w) = true) (hn : okName (.str n) = true) (hb : b = true) : mkInner f (.str w) (.str n) t b = .ok (f w n t.kd) := by
  have e : chk (.str w) (.str n) b = none := by
    unfold chk
    rw [if_neg (by rw [hw]; decide), if_neg (by rw [hn]; decide), if_neg (by rw [hb]; decide)]
  unfold mkInner
  rw [e]
  rfl
theorem part_ok {n : Str} {t : Td} (hn : okName (.str n) = true) (ht : t.simple = true) : mkPart (.str n) t = .ok (.part n t.kd) := (if_neg (by rw [hn]; decide)).trans (if_neg (by rw [ht]; decide))
theorem name_len {n : Str} (h : okName (.str n) = true) : n.length ≤ 8 := by
  have h2 : (decide (1 ≤ n.length) && (decide (n.length ≤ 8) && n.cps.toList.all fun c => decide (97 ≤ c) && decide (c ≤ 122))) = true := h
  simp only [Bool.and_eq_true, decide_eq_true_eq] at h2
  exact h2.2.1
theorem name_short {n : Str} (h : okName (.str n) = true) : Short (.str n) := by
  have := name_len h
  show n.length ≤ 1000000
  omega
/-- those behind clash with none ahead -/
theorem good_of : ∀ (ts seen : List Td), (∀ t ∈ ts, t.wd = true) → (seen ++ ts).Pairwise (fun o t => pre2 t.word o.word = false ∧ ¬ t.name = o.name) → goodW seen ts = true
  | [], _, _, _ => rfl
  | t :: ts, seen, h, pw => by
    have q := List.pairwise_append.mp pw
    rw [goodW, h t (List.mem_cons_self ..), Bool.true_and]
    have c : clearW seen t = true := List.all_eq_true.mpr fun o ho => by
      obtain ⟨a, b⟩ := q.2.2 o ho t (List.mem_cons_self ..)
      rw [a, decide_eq_false b]
      rfl
    rw [c, Bool.true_and]
    exact good_of ts (seen ++ [t]) (fun x hx => h x (List.mem_cons_of_mem _ hx)) (by rw [List.append_assoc]; exact pw)
theorem fitAll_of : ∀ {ks : List Kd}, (∀ z ∈ ks, z.fit) → Kd.fitAll ks
  | [], _ => by rw [Kd.fitAll]; trivial
  | k :: ks, h => by rw [Kd.fitAll]; exact ⟨h k (List.mem_cons_self ..), fitAll_of fun z hz => h z (List.mem_cons_of_mem _ hz)⟩
theorem kats_snoc {A : Ad} {H : Hp} {v : V} {k : Kd} : ∀ {us : List V} {ks : List Kd}, KAts A H us ks → KAt A H v k → KAts A H (us ++ [v]) (ks ++ [k])
  | _, _, .nil, h => .cons h .nil
  | _, _, .cons a t, h => .cons a (kats_snoc t h)
theorem kats_th {A : Ad} {K : PySem.W.Frag} {H : Hp} : ∀ {us : List V} {ks : List Kd}, KAts A H us ks → Paired (Th A K H) us (ks.map Td.k)
  | _, _, .nil => .nil
  | _, _, .cons a t => .cons a (kats_th t)
theorem kats_len {A : Ad} {H : Hp} {us : List V} {ks : List Kd} (h : KAts A H us ks) : us.length = ks.length := pair_lenE (kats_pair h)
theorem call_ok {x : Str} (h : okName (.str x) = true) : mkCall (.str x) = .ok (.call x) := if_neg (by rw [h]; decide)

/-! ================= words ================= -/
theorem app_all {f : Nat → Bool} {x : Str} {c : Nat} : ((x ++ (⟨#[c]⟩ : Str)).cps.toList.all f) = (x.cps.toList.all f && f c) := by
  rw [PySem.Str.cps_append, Array.toList_append, List.all_append]
  simp
theorem app_len1 {x : Str} {c : Nat} : (x ++ (⟨#[c]⟩ : Str)).length = x.length + 1 := PySem.Str.length_append _ _
theorem php {f : Nat → Str} (inj : ∀ a b, f a = f b → a = b) : ∀ (l : List Nat) (ws : List Str), l.Nodup → (∀ a ∈ l, f a ∈ ws) → l.length ≤ ws.length
  | [], _, _, _ => Nat.zero_le _
  | a :: l, ws, nd, h => by
    have ha := h a (List.mem_cons_self ..)
    have nd2 := List.nodup_cons.mp nd
    have ih := php inj l (ws.erase (f a)) nd2.2 fun b hb => (List.mem_erase_of_ne (fun z => nd2.1 (by rw [← inj b a z]; exact hb))).mpr (h b (List.mem_cons_of_mem _ hb))
    rw [List.length_erase_of_mem ha] at ih
    have : 0 < ws.length := List.length_pos_of_mem ha
    rw [List.length_cons]
    omega
def abcL : List Nat := [97, 98, 99, 100, 101, 102, 103, 104, 105, 106, 107, 108, 109, 110, 111, 112, 113, 114, 115, 116, 117, 118, 119, 120, 121, 122]
theorem abc_nodup : abcL.Nodup := by decide
theorem letter_ok {c : Nat} (h : letter c) : (decide (97 ≤ c) && decide (c ≤ 122)) = true := by rw [decide_eq_true h.1, decide_eq_true h.2]; rfl
theorem bit_ok {c : Nat} (h : bit c) : (decide (c = 48) || decide (c = 49)) = true := by
  rcases h with h | h
  · rw [h]; rfl
  · rw [h]; rfl
theorem mem_erase {α : Type} {x : α} {zs : List α} {j : Nat} (h : x ∈ zs.eraseIdx j) : x ∈ zs := List.mem_of_mem_eraseIdx h
def wordy (w : Str) : Prop := okWord (.str w) = true
theorem wordy_of {w : Str} (h : okBits (.str w) = true) (h1 : 1 ≤ w.length) (h8 : w.length ≤ 8) : wordy w := by
  show (okBits (.str w) && (decide (1 ≤ w.length) && decide (w.length ≤ 8))) = true
  rw [h, decide_eq_true h1, decide_eq_true h8]
  rfl
theorem wordy_bits {w : Str} (h : wordy w) : okBits (.str w) = true ∧ 1 ≤ w.length ∧ w.length ≤ 8 := by
  have h2 : (okBits (.str w) && (decide (1 ≤ w.length) && decide (w.length ≤ 8))) = true := h
  simp only [Bool.and_eq_true, decide_eq_true_eq] at h2
  exact ⟨h2.1, h2.2.1, h2.2.2⟩
theorem bits_app {x : Str} {c : Nat} (h : okBits (.str x) = true) (hc : bit c) : okBits (.str (x ++ (⟨#[c]⟩ : Str))) = true := by
  show ((x ++ (⟨#[c]⟩ : Str)).cps.toList.all _) = true
  rw [app_all, bit_ok hc, Bool.and_true]
  exact h
def Apart (w x : Str) : Prop := pre2 w x = false
theorem sw_iff (x y : Str) : PySem.Txt.startswith x y = true ↔ y.cps.toList <+: x.cps.toList := by
  unfold PySem.Txt.startswith
  rw [PySem.StrLaws.subAt_eq, List.drop_zero, List.prefix_iff_eq_take, Bool.and_eq_true, beq_iff_eq, decide_eq_true_eq]
  constructor
  · rintro ⟨_, h⟩
    rw [← h]
    simp
  · intro h
    refine ⟨?_, h.symm⟩
    have := congrArg List.length h
    rw [List.length_take] at this
    show 0 + y.cps.size ≤ x.cps.size
    rw [← Array.length_toList, ← Array.length_toList]
    omega
theorem apart_iff (w x : Str) : Apart w x ↔ ¬ x.cps.toList <+: w.cps.toList ∧ ¬ w.cps.toList <+: x.cps.toList := by
  unfold Apart pre2
  rw [Bool.or_eq_false_iff, ← sw_iff, ← sw_iff, Bool.not_eq_true, Bool.not_eq_true]
theorem apart_symm {w x : Str} (h : Apart w x) : Apart x w := (apart_iff _ _).mpr ((apart_iff _ _).mp h).symm
theorem app_list {x : Str} {c : Nat} : (x ++ (⟨#[c]⟩ : Str)).cps.toList = x.cps.toList ++ [c] := by
  rw [PySem.Str.cps_append, Array.toList_append]
theorem apart_app {w x : Str} {c : Nat} (h : Apart w x) : Apart w (x ++ (⟨#[c]⟩ : Str)) := by
  obtain ⟨h1, h2⟩ := (apart_iff _ _).mp h
  refine (apart_iff _ _).mpr ⟨fun z => ?_, fun z => ?_⟩
  · rw [app_list] at z
    exact h1 ((List.prefix_append _ _).trans z)
  · rw [app_list] at z
    rcases List.prefix_concat_iff.mp z with z | z
    · exact h1 (z ▸ List.prefix_append _ _)
    · exact h2 z
theorem apart_two {x : Str} {a b : Nat} (n : a ≠ b) : Apart (x ++ (⟨#[a]⟩ : Str)) (x ++ (⟨#[b]⟩ : Str)) := by
  have go : ∀ {a b : Nat}, a ≠ b → ¬ x.cps.toList ++ [b] <+: x.cps.toList ++ [a] := fun n z => by
    rw [List.prefix_append_right_inj, List.cons_prefix_cons] at z
    exact n z.1.symm
  refine (apart_iff _ _).mpr ⟨fun z => ?_, fun z => ?_⟩
  · rw [app_list, app_list] at z
    exact go n z
  · rw [app_list, app_list] at z
    exact go n.symm z
theorem pick_perm : ∀ (l : List Str) (i : Nat) (h : i < l.length), (l[i] :: l.eraseIdx i).Perm l
  | x :: l, 0, _ => List.Perm.refl _
  | x :: l, i + 1, h => (List.Perm.swap _ _ _).trans ((pick_perm l i (Nat.lt_of_succ_lt_succ h)).cons x)
theorem pw_pick {zs : List Str} {j : Nat} {k : Str} (h : zs.Pairwise Apart) (hj : zs[j]? = some k) : (k :: zs.eraseIdx j).Pairwise Apart := by
  obtain ⟨l, e⟩ := List.getElem?_eq_some_iff.mp hj
  have := pick_perm zs j l
  rw [e] at this
  exact (this.pairwise_iff (fun h => apart_symm h)).mpr h
theorem pw01 : [("0" : Str), "1"].Pairwise Apart := by
  refine .cons (fun x hx => ?_) (.cons (fun x hx => by cases hx) .nil)
  rw [List.mem_singleton.mp hx]
  show pre2 "0" "1" = false
  decide +kernel
theorem pw_step {zs : List Str} {j : Nat} {k : Str} (h : zs.Pairwise Apart) (hj : zs[j]? = some k) : (zs.eraseIdx j ++ [k ++ "0", k ++ "1"]).Pairwise Apart := by
  obtain ⟨h1, h2⟩ := List.pairwise_cons.mp (pw_pick h hj)
  have t0 : ("0" : Str) = ⟨#[48]⟩ := sgn0
  have t1 : ("1" : Str) = ⟨#[49]⟩ := sgn1
  refine List.pairwise_append.mpr ⟨h2, ?_, fun a ha b hb => ?_⟩
  · refine .cons (fun x hx => ?_) (.cons (fun x hx => by cases hx) .nil)
    rw [List.mem_singleton.mp hx, t0, t1]
    exact apart_two (by decide)
  · have q := apart_symm (h1 a ha)
    rcases List.mem_cons.mp hb with e | hb
    · rw [e, t0]; exact apart_app q
    · rw [List.mem_singleton.mp hb, t1]; exact apart_app q
theorem pw_move {us vs : List Str} {j : Nat} (hj : j < us.length) (h : (us ++ vs).Pairwise Apart) : (us.eraseIdx j ++ (vs ++ [us[j]])).Pairwise Apart := by
  have p : (us.eraseIdx j ++ (vs ++ [us[j]])).Perm (us ++ vs) := by
    have a : (us.eraseIdx j ++ (vs ++ [us[j]])).Perm (us[j] :: (us.eraseIdx j ++ vs)) := by
      rw [← List.append_assoc]
      exact List.perm_append_comm
    exact a.trans ((pick_perm us j hj).append_right vs)
  exact (p.pairwise_iff (fun h => apart_symm h)).mpr h
/-- [f(w) for w in e if p(w)] over a list of texts; the tests may make things -/
theorem lc_strs {K : PySem.W.Frag} {σ : L2.St} {H : Hp} {te : TE} {tt : TT} {j : Nat} {vs : List Nat} {a : Addr} {ws : List Str} {Qd : Addr → Hp → Prop} (p : Str → Bool) (f : Str → Str)
    (hxs : H a = some (.lst (ws.map V.str))) (hl : ws.length ≤ 100000) (hw : ∀ x, wipe ((wipe σ vs).set j (some x)) vs = wipe σ vs)
    (htt : ∀ (w : Str) H1 (Q : Bool → Hp → Prop), w ∈ ws → Same H H1 → (∀ H2, Same H1 H2 → Q (p w) H2) → tt ((wipe σ vs).set j (some (.str w))) H1 Q)
    (ht : ∀ (w : Str) H1 (Q : VK), w ∈ ws → p w = true → Same H H1 → (∀ H2, Same H1 H2 → Q (.str (f w)) H2) → te ((wipe σ vs).set j (some (.str w))) H1 Q)
    (k : ∀ D H', H' D = some (.lst (((ws.filter p).map f).map V.str)) → H D = none → Same H H' → Qd D H') :
    ∃ a', V.ref a = V.ref a' ∧ (∃ xs, SqL K H a' xs) ∧ ∀ D, H D = none → ∃ W : Nat → Nat → Hp → Prop, (∃ m, W 0 m (upd H D (.lst []))) ∧ ∀ i m H, W i m H →
      ((Itl K a').stop i H ∧ Qd D H) ∨ ((Itl K a').go i H ∧ ∃ Nx : Hp → Prop, (∀ H', Nx H' → ∃ m', m' < m ∧ W (i + 1) m' H') ∧ ∀ x H', (Itl K a').yld i H x H' → gName j x (wipe σ vs) H' fun σ2 H2 => wipe σ2 vs = wipe σ vs ∧ tt σ2 H2 fun b H3 =>
        if b = true then te σ2 H3 fun y H4 => ∃ acc, H4 D = some (.lst acc) ∧ acc.length < sizeLine ∧ Nx (upd H4 D (.lst (acc ++ [y]))) else Nx H3) := by
  refine ⟨a, rfl, ⟨_, SqL.of hxs⟩, fun D hD => ?_⟩
  refine lc_it (walk_list (xs := ws.map V.str)) (fun i H' => H' D = some (.lst ((((ws.take i).filter p).map f).map V.str)) ∧ Same H H') ⟨upd_same, same_new hD⟩ (fun i H' _ q => SqL.of (q.2 _ _ hxs)) ?_ ?_
  · rintro i x H1 H2 hi ⟨hD1, e1⟩ ⟨rfl, hx⟩
    rw [List.getElem?_map] at hx
    obtain ⟨w, hw0, rfl⟩ := Option.map_eq_some_iff.mp hx
    have mw := List.mem_of_getElem? hw0
    have tk : ws.take (i + 1) = ws.take i ++ [w] := take_snoc hw0
    refine ⟨hw _, htt w _ _ mw e1 fun H3 e3 => ?_⟩
    cases hp : p w with
    | false =>
      refine iteF ⟨?_, e1.trans e3⟩
      rw [tk, List.filter_append]
      simp only [List.filter_cons, hp, List.filter_nil, Bool.false_eq_true, if_false, List.append_nil]
      exact e3 _ _ hD1
    | true =>
      refine iteY (ht w _ _ mw hp (e1.trans e3) fun H4 e4 => ?_)
      refine ⟨_, e4 _ _ (e3 _ _ hD1), ?_, ?_, same_put hD (e1.trans (e3.trans e4))⟩
      · rw [sizeLine_eq, List.length_map, List.length_map]
        have := List.length_filter_le p (ws.take i)
        have := List.length_take_le' i ws
        omega
      · rw [upd_same, tk, List.filter_append, List.map_append, List.map_append]
        simp only [List.filter_cons, hp, List.filter_nil, if_true, List.map_cons, List.map_nil]
  · rintro H1 ⟨hD1, e1⟩
    rw [List.length_map, List.take_length] at hD1
    exact k D H1 hD1 hD e1
/-- any([f(w) for w in e]) over a list of texts -/
theorem any_strs {K : PySem.W.Frag} {σ : L2.St} {H : Hp} {t0 te : TE} {j : Nat} {vs : List Nat} {a : Addr} {ws : List Str} {Q : VK} (f : Str → Bool)
    (hg : ∀ Q', Q' (.ref a) H → t0 σ H Q') (hxs : H a = some (.lst (ws.map V.str))) (hl : ws.length ≤ 100000) (hw : ∀ x, wipe ((wipe σ vs).set j (some x)) vs = wipe σ vs)
    (ht : ∀ (w : Str) H1 (Q : VK), w ∈ ws → Same H H1 → Q (.bl (f w)) H1 → te ((wipe σ vs).set j (some (.str w))) H1 Q)
    (k : ∀ H', Same H H' → Q (.bl (ws.any f)) H') : tCB (rAny K) (tCons (tLc (iList K t0) (gName j) tYes te vs) tNil) σ H Q := by
  dsimp only [tCB, tCons, tNil]
  refine lc_lstF (tt := tYes) (fun _ v (b : Bool) => v = V.bl b) (fun _ _ _ _ _ q => q) (fun _ _ _ _ _ _ _ q => q) (fun _ => true) f (fun v (n : Str) => v = V.str n) hg hxs (strs_pair _) (by rw [List.length_map]; exact hl) hw (fun x n H6 Q _ _ _ q => q) ?_ ?_
  · rintro z n H6 Q rfl hn _ e6 q
    exact ht n H6 Q hn e6 (q _ _ (fun _ _ z => z) rfl)
  intro D bs H6 hD hD0 e6 pw
  have ebs := pair_bls pw
  subst ebs
  refine ⟨D, _, rfl, SqL.of hD, ?_⟩
  have e : (((ws.filter fun _ => true).map f).any id) = ws.any f := by
    rw [List.filter_eq_self.mpr fun _ _ => rfl, List.any_map]
    rfl
  rw [e]
  exact k H6 e6
/-! ================= tables of two editions, on leaves ================= -/
/-- the form of a Number as a tuple -/
def formV (lo hi : Int) (w : Option Int) : List V := match w with
  | some w => [.str "wide", .int lo, .int w, .int (hi - lo + 1 - 1)]
  | none => [.str "tight", .int lo, .int ((Builtin.Int.intBits (hi - lo + 1) : Int) - 1), .int (1 * 2 ^ ((Builtin.Int.intBits (hi - lo + 1) : Int) - 1 + 1).toNat - (hi - lo + 1))]
structure WF where
  wide : Bool
  lo : Int
  s : Int
  x : Int
deriving DecidableEq
def WF.vals (f : WF) : List V := [.str (if f.wide = true then "wide" else "tight"), .int f.lo, .int f.s, .int f.x]
def WF.data (f : WF) : List PySem.PyData := [.str (if f.wide = true then "wide" else "tight"), .int f.lo, .int f.s, .int f.x]
def wfOf (lo hi : Int) (w : Option Int) : WF := match w with
  | some w => ⟨true, lo, w, hi - lo + 1 - 1⟩
  | none => if 1 * 2 ^ ((Builtin.Int.intBits (hi - lo + 1) : Int) - 1 + 1).toNat - (hi - lo + 1) = 1 * 2 ^ ((Builtin.Int.intBits (hi - lo + 1) : Int) - 1).toNat then ⟨true, lo, (Builtin.Int.intBits (hi - lo + 1) : Int) - 1, 1 * 2 ^ ((Builtin.Int.intBits (hi - lo + 1) : Int) - 1 + 1).toNat - (hi - lo + 1) - 1⟩
    else ⟨false, lo, (Builtin.Int.intBits (hi - lo + 1) : Int) - 1, 1 * 2 ^ ((Builtin.Int.intBits (hi - lo + 1) : Int) - 1 + 1).toNat - (hi - lo + 1)⟩
/-- each integer of the one by the same bits in the other -/
def alF (a b : WF) : Bool :=
  if a.lo ≠ b.lo then false else if a.wide = false then decide (a = b) else if a.s ≠ b.s then false else if b.wide = true then decide (a.x ≤ b.x) else decide (a.x < b.x)
def lfAl : Kd → Kd → Bool
  | .num lo hi w, .num lo2 hi2 w2 => alF (wfOf lo hi w) (wfOf lo2 hi2 w2)
  | .bits n, .bits m => decide (n = m)
  | .nothing, .nothing => true
  | _, _ => false
def namAl : Kd → Kd → Bool
  | .choice _, .choice _ => true
  | .row _, .row _ => true
  | _, _ => false
/-- a leaf: no call, no choice, no row -/
def Kd.leaf : Kd → Bool
  | .num _ _ _ => true
  | .bits _ => true
  | _ => false
def alL : Kd → Kd → Bool
  | .items i w, .items j u => if w = u then lfAl i j else false
  | a, b => lfAl a b
/-- what a kind leads to through calls -/
inductive Res (tb : Tb) : Kd → Kd → Prop where
  | done {k : Kd} (h : k.cls ≠ some .call) : Res tb k k
  | step {n : Str} {k k' : Kd} (h : tb.lookup n = some k) (r : Res tb k k') : Res tb (.call n) k'
theorem Res.one {tb : Tb} {k a b : Kd} (h : Res tb k a) (g : Res tb k b) : a = b := by
  induction h with
  | done h =>
    cases g with
    | done _ => rfl
    | step _ _ => exact absurd rfl h
  | step h r ih =>
    cases g with
    | done g => exact absurd rfl g
    | step g r2 =>
      rw [h] at g
      cases g
      exact ih r2
abbrev sp_number_form (_ : PySem.W.Frag) (A : Ad) : Sp := Sp1 fun v H Q _ => ∃ lo hi w, KAt A H v (.num lo hi w) ∧ (Kd.num lo hi w).fit ∧ ∀ p H', H' p = some (.tup (formV lo hi w)) → H p = none → Same H H' → Q (.ref p) H'
abbrev sp_wide_form (_ : PySem.W.Frag) (A : Ad) : Sp := Sp1 fun v H Q _ => ∃ lo hi w, KAt A H v (.num lo hi w) ∧ (Kd.num lo hi w).fit ∧ ∀ p H', H' p = some (.tup (wfOf lo hi w).vals) → Same H H' → Q (.ref p) H'
abbrev sp_are_numbers_alike (_ : PySem.W.Frag) (A : Ad) : Sp := Sp2 fun v u H Q _ => ∃ lo hi w lo2 hi2 w2, KAt A H v (.num lo hi w) ∧ (Kd.num lo hi w).fit ∧ KAt A H u (.num lo2 hi2 w2) ∧ (Kd.num lo2 hi2 w2).fit ∧ ∀ H', Same H H' → Q (.bl (alF (wfOf lo hi w) (wfOf lo2 hi2 w2))) H'
abbrev sp_are_leaves_alike (_ : PySem.W.Frag) (A : Ad) : Sp := Sp2 fun v u H Q _ => ∃ k k2, KAt A H v k ∧ k.fit ∧ KAt A H u k2 ∧ k2.fit ∧ ∀ H', Same H H' → Q (.bl (lfAl k k2)) H'
abbrev sp_are_named_alike (_ : PySem.W.Frag) (A : Ad) : Sp := Sp2 fun v u H Q _ => ∃ k k2, KAt A H v k ∧ KAt A H u k2 ∧ Q (.bl (namAl k k2)) H
theorem dp_wf {K : PySem.W.Frag} {H : Hp} {p : Addr} {f : WF} (h : H p = some (.tup f.vals)) : Dp K H (.ref p) (.tuple f.data) :=
  .tup (SqT.of h) (.cons (.str _) (.cons (.int _) (.cons (.int _) (.cons (.int _) .nil))))
theorem eqv_wf (a b : WF) : PySem.PyData.eqv (.tuple a.data) (.tuple b.data) = decide (a = b) := by
  obtain ⟨aw, al, as, ax⟩ := a
  obtain ⟨bw, bl, bs, bx⟩ := b
  have e1 : (("wide" : Str) == ("tight" : Str)) = false := by decide +kernel
  have e2 : (("tight" : Str) == ("wide" : Str)) = false := by decide +kernel
  cases aw <;> cases bw <;> simp [WF.data, PySem.PyData.eqv, PySem.PyData.eqvAll, e1, e2, Bool.decide_and, Bool.and_assoc] <;> rfl
theorem eq_wf {K : PySem.W.Frag} {H : Hp} {p q : Addr} {a b : WF} {Q : VK} (ha : H p = some (.tup a.vals)) (hb : H q = some (.tup b.vals)) (k : Q (.bl (decide (a = b))) H) : rEqP K (.ref p) (.ref q) H Q := by
  refine ⟨_, _, dp_wf ha, dp_wf hb, rfl, rfl, by simp [WF.data, PySem.PyData.depth, PySem.PyData.depthAll], ?_⟩
  rw [eqv_wf]
  exact k
abbrev ndsFs (w r : V) : List (Str × V) := putF "reader" r (putF "writer" w [])
theorem nds_fs {w r : V} : (ndsFs w r).lookup ("writer" : Str) = some w ∧ (ndsFs w r).lookup ("reader" : Str) = some r := ⟨put2 (f := "writer") (g := "reader") (a := w) (b := r) (by decide +kernel) _ (List.mem_cons_self ..), put2 (f := "writer") (g := "reader") (a := w) (b := r) (by decide +kernel) _ (List.mem_cons_of_mem _ (List.mem_cons_self ..))⟩
theorem nds_no {w r : V} {m : Str} (h : ¬ m = "writer" ∧ ¬ m = "reader") : (ndsFs w r).lookup m = none := by
  have e1 : (m == ("writer" : Str)) = false := by simpa using h.1
  have e2 : (m == ("reader" : Str)) = false := by simpa using h.2
  have e : ndsFs w r = ([(("writer" : Str), w), (("reader" : Str), r)] : List (Str × V)) := by
    show (if ("writer" : Str) = ("reader" : Str) then _ else _) = _
    rw [if_neg (by decide +kernel)]
    rfl
  rw [e, List.lookup_cons, e1, List.lookup_cons, e2]
  rfl
/-- an instance of Needs -/
def NdsAt (A : Ad) (H : Hp) (n x y : Addr) : Prop := ∃ dn, H n = some (.ins A.c_Needs dn (ndsFs (.ref x) (.ref y)))
theorem NdsAt.same {A : Ad} {H H' : Hp} {n x y : Addr} (e : Same H H') (h : NdsAt A H n x y) : NdsAt A H' n x y := by
  obtain ⟨dn, q⟩ := h
  exact ⟨dn, e _ _ q⟩
/-- a made edition with all that is known of it -/
structure EdK (A : Ad) (H : Hp) (x : Addr) (tb : Tb) (r : Str) (c : Int) (rk : Str → Nat) : Prop where
  ed : EdAt A H x tb r c
  ok : EdOk tb r c rk
theorem EdK.same {A : Ad} {H H' : Hp} {x : Addr} {tb : Tb} {r : Str} {c : Int} {rk : Str → Nat} (e : Same H H') (h : EdK A H x tb r c rk) : EdK A H' x tb r c rk := ⟨h.ed.same e, h.ok⟩
/-- what a kind calls is there -/
def Calls (tb : Tb) (k : Kd) : Prop := ∀ n, k = .call n → n ∈ tb.names
theorem Res.fit {tb : Tb} {k k' : Kd} (h : Res tb k k') (f : ∀ z ∈ tb, z.2.fit) (g : k.fit) : k'.fit := by
  induction h with
  | done _ => exact g
  | step e _ ih => exact ih (f _ (PySem.mem_of_lookup e))
theorem Res.cls {tb : Tb} {k k' : Kd} (h : Res tb k k') : k'.cls ≠ some .call := by
  induction h with
  | done h => exact h
  | step _ _ ih => exact ih
/-- a kind's place in the order of the calls -/
def rkK (rk : Str → Nat) : Kd → Nat
  | .call n => rk n + 1
  | _ => 0
abbrev sp_resolved (_ : PySem.W.Frag) (A : Ad) : Sp := Sp2 fun v a H Q _ => ∃ (x : Addr) (tb : Tb) (r : Str) (c : Int) (rk : Str → Nat) (k : Kd), v = .ref x ∧ EdK A H x tb r c rk ∧ KAt A H a k ∧ Calls tb k ∧ ∀ p H' nv kv k', Res tb k k' → H' p = some (.tup [nv, kv]) → KAt A H' kv k' → Same H H' → Q (.ref p) H'
abbrev sp_Needs___init__ (_ : PySem.W.Frag) (A : Ad) : Sp := Sp3 fun s v a H Q _ => ∃ (H0 : Hp) (n x y : Addr), s = .ref n ∧ Fresh A.c_Needs n H0 H ∧ v = .ref x ∧ a = .ref y ∧ ∀ H', NdsAt A H' n x y → Same H0 H' → Q .non H'
/-- needed by a kind at v beside one at a: nothing, or it cannot be -/
def Needed (b : Bool) (H : Hp) (Q : VK) : Prop := if b = true then ∀ p H', H' p = some (.lst []) → H p = none → Same H H' → Q (.ref p) H' else ∀ H', Same H H' → Q .non H'
/-- leaves after all calls: neither choices nor rows; items of leaves -/
def Lf2 : Kd → Bool
  | .num _ _ _ => true
  | .bits _ => true
  | .items i _ => i.leaf
  | _ => false
abbrev sp_Needs_of_kinds0 (_ : PySem.W.Frag) (A : Ad) : Sp := Sp4 fun s v a b H Q _ => ∃ (n x y : Addr) (tb tb2 : Tb) (r r2 : Str) (c c2 : Int) (rk rk2 : Str → Nat) (k k2 : Kd), s = .ref n ∧ NdsAt A H n x y ∧ EdK A H x tb r c rk ∧ EdK A H y tb2 r2 c2 rk2 ∧ KAt A H v k ∧ k.leaf = true ∧ k.fit ∧ KAt A H a k2 ∧ k2.leaf = true ∧ k2.fit ∧ b = .str "alike" ∧ Needed (lfAl k k2) H Q
abbrev sp_Needs_of_kinds (_ : PySem.W.Frag) (A : Ad) : Sp := Sp4 fun s v a b H Q _ => ∃ (n x y : Addr) (tb tb2 : Tb) (r r2 : Str) (c c2 : Int) (rk rk2 : Str → Nat) (k k2 l l2 : Kd), s = .ref n ∧ NdsAt A H n x y ∧ EdK A H x tb r c rk ∧ EdK A H y tb2 r2 c2 rk2 ∧ KAt A H v k ∧ Calls tb k ∧ k.fit ∧ KAt A H a k2 ∧ Calls tb2 k2 ∧ k2.fit ∧ Res tb k l ∧ Lf2 l = true ∧ Res tb2 k2 l2 ∧ Lf2 l2 = true ∧ b = .str "alike" ∧ Needed (alL l l2) H Q
abbrev sp_Needs_of_roots (_ : PySem.W.Frag) (A : Ad) : Sp := Sp1 fun s H Q _ => ∃ (n x y : Addr) (tb tb2 : Tb) (r r2 : Str) (c c2 : Int) (rk rk2 : Str → Nat) (l l2 : Kd), s = .ref n ∧ NdsAt A H n x y ∧ EdK A H x tb r c rk ∧ EdK A H y tb2 r2 c2 rk2 ∧ Res tb (.call r) l ∧ Lf2 l = true ∧ Res tb2 (.call r2) l2 ∧ Lf2 l2 = true ∧ Needed (alL l l2) H Q
abbrev sp_Needs_of_triple (_ : PySem.W.Frag) (_ : Ad) : Sp := Sp2 fun _ _ _ _ _ => False
abbrev sp_table (_ : PySem.W.Frag) (A : Ad) : Sp := Sp2 fun v a H Q _ => ∃ (x y : Addr) (tb tb2 : Tb) (r r2 : Str) (c c2 : Int) (rk rk2 : Str → Nat) (l l2 : Kd), v = .ref x ∧ a = .ref y ∧ EdK A H x tb r c rk ∧ EdK A H y tb2 r2 c2 rk2 ∧ Res tb (.call r) l ∧ Lf2 l = true ∧ Res tb2 (.call r2) l2 ∧ Lf2 l2 = true ∧ Needed (alL l l2) H Q
abbrev sp_is_triple (_ : PySem.W.Frag) (A : Ad) : Sp := Sp3 fun v a b H Q _ => ∃ (x y t : Addr) (tb tb2 : Tb) (r r2 n n2 : Str) (c c2 : Int) (rk rk2 : Str → Nat) (k k2 : Kd), v = .ref x ∧ a = .ref y ∧ b = .ref t ∧ H t = some (.tup [.str n, .str n2, .str "alike"]) ∧ EdK A H x tb r c rk ∧ EdK A H y tb2 r2 c2 rk2 ∧ tb.lookup n = some k ∧ tb2.lookup n2 = some k2 ∧ ∀ H', Same H H' → Q (.bl (namAl k k2)) H'
abbrev sp_are_kept (_ : PySem.W.Frag) (_ : Ad) : Sp := Sp2 fun v a H Q _ => (v = .non ∧ Q (.bl false) H) ∨ ∃ p, v = .ref p ∧ H p = some (.lst []) ∧ Q (.bl true) H
/-- what check_table is asked about -/
inductive Asked (H : Hp) (tb tb2 : Tb) : V → Option Bool → Prop where
  | non : Asked H tb tb2 .non (some false)
  | tup {p : Addr} (h : H p = some (.tup [])) : Asked H tb tb2 (.ref p) (some false)
  | lst {p : Addr} (h : H p = some (.lst [])) : Asked H tb tb2 (.ref p) none
  | one {p t : Addr} {n n2 : Str} {k k2 : Kd} (h : H p = some (.lst [.ref t])) (ht : H t = some (.tup [.str n, .str n2, .str "alike"])) (e : tb.lookup n = some k) (e2 : tb2.lookup n2 = some k2) (no : namAl k k2 = false) : Asked H tb tb2 (.ref p) (some false)
abbrev sp_check_table (_ : PySem.W.Frag) (A : Ad) : Sp := Sp3 fun v a b H Q _ => ∃ (x y : Addr) (tb tb2 : Tb) (r r2 : Str) (c c2 : Int) (rk rk2 : Str → Nat) (l l2 : Kd) (o : Option Bool), v = .ref x ∧ a = .ref y ∧ Asked H tb tb2 b o ∧ EdK A H x tb r c rk ∧ EdK A H y tb2 r2 c2 rk2 ∧ Res tb (.call r) l ∧ Lf2 l = true ∧ Res tb2 (.call r2) l2 ∧ Lf2 l2 = true ∧ ∀ H', Same H H' → Q (.bl (o.getD (alL l l2))) H'
theorem Needed.after {b : Bool} {H H2 : Hp} {Q : VK} (h : Needed b H Q) (e : Same H H2) : Needed b H2 Q := by
  unfold Needed at h ⊢
  cases b with
  | true => exact iteY fun p H' hp hp0 e2 => by rw [if_pos rfl] at h; exact h p H' hp (none_same e hp0) (e.trans e2)
  | false => exact iteF fun H' e2 => by rw [if_neg Bool.false_ne_true] at h; exact h H' (e.trans e2)
theorem oi_inj {a b : Option Int} (h : oi a = oi b) : a = b := by
  cases a <;> cases b <;> first | rfl | cases h <;> rfl
theorem ed_root' {tb r c m om : V} : (edFs tb r c m om).lookup ("root" : Str) = some r := by
  show List.lookup _ (putF "own_machine" om (putF "machine" m (putF "count" c (putF "root" r (putF "table" tb []))))) = _
  rw [lookup_putF, if_neg (by decide +kernel), lookup_putF, if_neg (by decide +kernel), lookup_putF, if_neg (by decide +kernel), lookup_putF, if_pos rfl]
theorem names_of {tb : Tb} {n : Str} {k : Kd} (h : tb.lookup n = some k) : n ∈ tb.names := List.mem_map_of_mem (f := Prod.fst) (PySem.mem_of_lookup h)
abbrev sp__law_start (K : PySem.W.Frag) (_ : Ad) : Sp := sp_start K
abbrev sp_law (K : PySem.W.Frag) (_ : Ad) : Sp := sp_law0 K
abbrev sp__law_pull (_ : PySem.W.Frag) (_ : Ad) : Sp := sp_pull
abbrev sp__law_big (_ : PySem.W.Frag) (_ : Ad) : Sp := sp_pull
abbrev sp__law_word (_ : PySem.W.Frag) (_ : Ad) : Sp := sp_text letter
/-! ================= a number by its binary digits (plain) ================= -/
/-- so many binary digits of a number -/
def bn : Nat → Nat → List Nat
  | 0, _ => []
  | k + 1, n => bn k (n / 2) ++ [48 + n % 2]
def bnS (k n : Nat) : Str := ⟨(bn k n).toArray⟩
theorem bn_len : ∀ k n, (bn k n).length = k
  | 0, _ => rfl
  | k + 1, n => by rw [bn, List.length_append, bn_len k]; rfl
theorem bn_bit : ∀ k n, ∀ x ∈ bn k n, x = 48 ∨ x = 49
  | 0, _, x, h => nomatch h
  | k + 1, n, x, h => by
    rw [bn] at h
    rcases List.mem_append.mp h with h | h
    · exact bn_bit k _ x h
    · rw [List.mem_singleton.mp h]
      omega
theorem bn_zero : ∀ k, bn k 0 = List.replicate k 48
  | 0 => rfl
  | k + 1 => by rw [bn, Nat.zero_div, bn_zero k, List.replicate_succ']
theorem bn_cons : ∀ k n, bn (k + 1) n = (48 + n / 2 ^ k % 2) :: bn k n
  | 0, n => by rw [bn, bn, bn, Nat.pow_zero, Nat.div_one]; rfl
  | k + 1, n => by
    rw [bn, bn_cons k (n / 2), bn, Nat.div_div_eq_div_mul, Nat.pow_succ, Nat.mul_comm 2 (2 ^ k)]
    rfl

theorem bn_inj : ∀ (k : Nat) {n m : Nat}, n < 2 ^ k → m < 2 ^ k → bn k n = bn k m → n = m
  | 0, n, m, h, h2, _ => by
    have a : n = 0 := by simpa using h
    have b : m = 0 := by simpa using h2
    rw [a, b]
  | k + 1, n, m, h, h2, e => by
    rw [bn, bn] at e
    have e1 := List.append_inj' e rfl
    have q := bn_inj k (n := n / 2) (m := m / 2) (by rw [Nat.pow_succ] at h; omega) (by rw [Nat.pow_succ] at h2; omega) e1.1
    have r : 48 + n % 2 = 48 + m % 2 := (List.cons.inj e1.2).1
    omega
/-! ================= leaves as the law tells them: tuples ================= -/
inductive LfAt (H : Hp) : V → Kd → Prop where
  | num {a : Addr} {lo hi : Int} {w : Option Int} (h : H a = some (.tup [.str "number", .int lo, .int hi, oi w])) : LfAt H (.ref a) (.num lo hi w)
  | bits {a : Addr} {n : Int} (h : H a = some (.tup [.str "bits", .int n])) : LfAt H (.ref a) (.bits n)
  | items {a : Addr} {v : V} {i : Kd} {w : Option Int} (h : H a = some (.tup [.str "items", v, oi w])) (k : LfAt H v i) : LfAt H (.ref a) (.items i w)
  | call {a : Addr} {x : Str} (h : H a = some (.tup [.str "call", .str x])) : LfAt H (.ref a) (.call x)
theorem LfAt.keep {H H' : Hp} (t : TupKeep H H') {v : V} {k : Kd} (h : LfAt H v k) : LfAt H' v k := by
  induction h with
  | num h => exact .num (t _ _ h)
  | bits h => exact .bits (t _ _ h)
  | items h _ ih => exact .items (t _ _ h) ih
  | call h => exact .call (t _ _ h)
theorem TupKeep.same {H H' : Hp} (e : Same H H') : TupKeep H H' := fun b _ h => e b _ h
structure OkNum (lo hi : Int) (w : Option Int) : Prop where
  lt : lo < hi
  r60 : hi - lo < 2 ^ 60
  w60 : ∀ i, w = some i → 1 ≤ i ∧ i ≤ 60 ∧ hi - lo < 2 ^ i.toNat
def OkLeaf : Kd → Prop
  | .num lo hi w => OkNum lo hi w
  | .bits n => 1 ≤ n ∧ n ≤ 16
  | _ => False
def OkL : Kd → Prop
  | .items i w => OkLeaf i ∧ ∀ j, w = some j → 1 ≤ j ∧ j ≤ 3
  | k => OkLeaf k
/-- a name: a head, a letter, a tail -/
def nmS (hs : List Nat) (x : Nat) (ts : List Nat) : Str := ⟨(hs ++ x :: ts).toArray⟩
abbrev sp__law_names (_ : PySem.W.Frag) (_ : Ad) : Sp := Sp2 fun v a H Q _ => ∃ (d : Dr) (n : Nat), v = .ref d.p ∧ a = .int ((n : Nat) : Int) ∧ n ≤ 26 ∧ Rng d H ∧ ∀ (p : Addr) (ys : List Str) H', H' p = some (.lst (ys.map V.str)) → H p = none → p ≠ d.p → ys.length = n → ys.Nodup → (∀ y ∈ ys, okN y) → Chg d H H' → Rng d H' → Q (.ref p) H'
abbrev sp__law_kind0 (_ : PySem.W.Frag) (A : Ad) : Sp := Sp1 fun v H Q _ => ∃ k, LfAt H v k ∧ (OkLeaf k ∨ ∃ x, k = .call x ∧ okN x) ∧ ∀ v' H', KAt A H' v' k → Same H H' → Q v' H'
abbrev sp__law_kind (_ : PySem.W.Frag) (A : Ad) : Sp := Sp1 fun v H Q _ => ∃ k, LfAt H v k ∧ (OkL k ∨ ∃ x, k = .call x ∧ okN x) ∧ ∀ v' H', KAt A H' v' k → Same H H' → Q v' H'
abbrev sp__law_number (_ : PySem.W.Frag) (_ : Ad) : Sp := Sp1 fun v H Q _ => ∃ (d : Dr), v = .ref d.p ∧ Rng d H ∧ ∀ a lo hi w H', LfAt H' a (.num lo hi w) → OkNum lo hi w → Chg d H H' → Rng d H' → Q a H'
abbrev sp__law_bent_number (_ : PySem.W.Frag) (_ : Ad) : Sp := Sp2 fun v u H Q _ => ∃ (d : Dr) (lo hi : Int) (w : Option Int), v = .ref d.p ∧ Rng d H ∧ LfAt H u (.num lo hi w) ∧ OkNum lo hi w ∧ ∀ a lo hi w H', LfAt H' a (.num lo hi w) → OkNum lo hi w → Chg d H H' → Rng d H' → Q a H'
abbrev sp__law_leaf (_ : PySem.W.Frag) (_ : Ad) : Sp := Sp1 fun v H Q _ => ∃ (d : Dr), v = .ref d.p ∧ Rng d H ∧ ∀ a k H', LfAt H' a k → OkL k → Chg d H H' → Rng d H' → Q a H'
abbrev sp__law_bent_leaf (_ : PySem.W.Frag) (_ : Ad) : Sp := Sp2 fun v u H Q _ => ∃ (d : Dr) (k : Kd), v = .ref d.p ∧ Rng d H ∧ LfAt H u k ∧ OkL k ∧ ∀ a k H', LfAt H' a k → OkL k → Chg d H H' → Rng d H' → Q a H'
/-- the size and the short codes of a number -/
def szN (lo hi : Int) (w : Option Int) : Int × Int := match w with
  | some w => (w, hi - lo + 1)
  | none => ((Builtin.Int.intBits (hi - lo + 1) : Int) - 1, 1 * 2 ^ ((Builtin.Int.intBits (hi - lo + 1) : Int) - 1 + 1).toNat - (hi - lo + 1))
abbrev sp__law_short (_ : PySem.W.Frag) (_ : Ad) : Sp := Sp1 fun v H Q _ => ∃ lo hi w, LfAt H v (.num lo hi w) ∧ OkNum lo hi w ∧ ∀ p H', H' p = some (.tup [.int (szN lo hi w).1, .int (szN lo hi w).2]) → Same H H' → Q (.ref p) H'
abbrev sp__law_code (_ : PySem.W.Frag) (_ : Ad) : Sp := Sp2 fun v a H Q _ => ∃ (n k : Nat), v = .int ((n : Nat) : Int) ∧ a = .int ((k : Nat) : Int) ∧ k ≤ 100 ∧ ∀ H', Same H H' → Q (.str (bnS k n)) H'
/-- the bits of a value -/
def nbS (lo hi : Int) (w : Option Int) (v : Int) : Str := if v - lo < (szN lo hi w).2 then bnS (szN lo hi w).1.toNat (v - lo).toNat else bnS ((szN lo hi w).1 + 1).toNat (v - lo + (szN lo hi w).2).toNat
abbrev sp__law_number_bits (_ : PySem.W.Frag) (_ : Ad) : Sp := Sp2 fun v a H Q _ => ∃ (lo hi : Int) (w : Option Int) (x : Int), LfAt H v (.num lo hi w) ∧ OkNum lo hi w ∧ a = .int x ∧ lo ≤ x ∧ x ≤ hi ∧ ∀ H', Same H H' → Q (.str (nbS lo hi w x)) H'
/-- a table of a leaf reached through calls -/
def tbOf (k : Kd) : List Str → Tb
  | [] => []
  | a :: ys => (a, k) :: tbOf (.call a) ys
abbrev sp__law_called (_ : PySem.W.Frag) (_ : Ad) : Sp := Sp2 fun v u H Q _ => ∃ (d : Dr) (k : Kd), v = .ref d.p ∧ Rng d H ∧ LfAt H u k ∧ ∀ (q p : Addr) (kvs : List (Key × V)) (ys : List Str) (r : Str) (c : Int) H', H' q = some (.lst [.ref p, .str r, .int c]) → H' p = some (.dK kvs) → Paired (fun (kv : Key × V) (e : Str × Kd) => kv.1 = .inr e.1 ∧ LfAt H' kv.2 e.2) kvs (tbOf k ys) → ys.Nodup → (∀ y ∈ ys, okN y) → ys.length ≤ 3 → ys.getLast? = some r → 1 ≤ c → c ≤ 5 → q ≠ d.p → p ≠ d.p → Chg d H H' → Rng d H' → Q (.ref q) H'
abbrev sp__law_edition (_ : PySem.W.Frag) (A : Ad) : Sp := Sp1 fun v H Q _ => ∃ (q p : Addr) (kvs : List (Key × V)) (k : Kd) (ys : List Str) (r : Str) (c : Int), v = .ref q ∧ H q = some (.lst [.ref p, .str r, .int c]) ∧ H p = some (.dK kvs) ∧ Paired (fun (kv : Key × V) (e : Str × Kd) => kv.1 = .inr e.1 ∧ LfAt H kv.2 e.2) kvs (tbOf k ys) ∧ OkL k ∧ ys.Nodup ∧ (∀ y ∈ ys, okN y) ∧ ys.length ≤ 3 ∧ ys.getLast? = some r ∧ 1 ≤ c ∧ c ≤ 5 ∧ ∀ x rk H', EdK A H' x (tbOf k ys) r c rk → Same H H' → Q (.ref x) H'
/-- the writer's value at a place, alike in both -/
def okAt (lo hi : Int) (w : Option Int) (lo2 hi2 : Int) (w2 : Option Int) (v : Int) : Bool := if v < lo2 ∨ v > hi2 then false else decide (nbS lo hi w v = nbS lo2 hi2 w2 v)
def placesN (lo hi : Int) (w : Option Int) (lo2 hi2 : Int) (w2 : Option Int) : List Int := [lo, hi, hi2, hi2 + 1, lo + (szN lo hi w).2 - 1, lo + (szN lo hi w).2, lo2 + (szN lo2 hi2 w2).2 - 1, lo2 + (szN lo2 hi2 w2).2]
def lawAl (lo hi : Int) (w : Option Int) (lo2 hi2 : Int) (w2 : Option Int) : Bool := (placesN lo hi w lo2 hi2 w2).all fun x => okAt lo hi w lo2 hi2 w2 (max lo (min hi x))
def lawLf : Kd → Kd → Bool
  | .num lo hi w, .num lo2 hi2 w2 => lawAl lo hi w lo2 hi2 w2
  | .bits n, .bits m => decide (n = m)
  | _, _ => false
def lawL : Kd → Kd → Bool
  | .items i w, .items j u => if w = u then lawLf i j else false
  | .items _ _, _ => false
  | _, .items _ _ => false
  | a, b => lawLf a b
abbrev sp__law_numbers_alike (_ : PySem.W.Frag) (_ : Ad) : Sp := Sp2 fun v u H Q _ => ∃ lo hi w lo2 hi2 w2, LfAt H v (.num lo hi w) ∧ OkNum lo hi w ∧ LfAt H u (.num lo2 hi2 w2) ∧ OkNum lo2 hi2 w2 ∧ ∀ H', Same H H' → Q (.bl (lawAl lo hi w lo2 hi2 w2)) H'
abbrev sp__law_alike0 (_ : PySem.W.Frag) (_ : Ad) : Sp := Sp2 fun v u H Q _ => ∃ k k2, LfAt H v k ∧ OkLeaf k ∧ LfAt H u k2 ∧ OkLeaf k2 ∧ ∀ H', Same H H' → Q (.bl (lawLf k k2)) H'
abbrev sp__law_alike (_ : PySem.W.Frag) (_ : Ad) : Sp := Sp2 fun v u H Q _ => ∃ k k2, LfAt H v k ∧ OkL k ∧ LfAt H u k2 ∧ OkL k2 ∧ ∀ H', Same H H' → Q (.bl (lawL k k2)) H'
theorem ib_facts {m : Int} (h : 1 ≤ m) (h60 : m < 2 ^ 60) : 1 ≤ Builtin.Int.intBits m ∧ Builtin.Int.intBits m ≤ 60 ∧ m < 2 ^ Builtin.Int.intBits m ∧ 2 ^ (Builtin.Int.intBits m - 1) ≤ m := by
  obtain ⟨n, rfl⟩ := Int.eq_ofNat_of_zero_le (by omega : 0 ≤ m)
  have n0 : n ≠ 0 := by omega
  have e : Builtin.Int.intBits (n : Int) = n.log2 + 1 := by
    unfold Builtin.Int.intBits
    simp [n0]
  rw [e]
  have l1 : n.log2 < 60 := (Nat.log2_lt n0).mpr (by omega)
  have l2 : n < 2 ^ (n.log2 + 1) := (Nat.log2_lt n0).mp (Nat.lt_succ_self _)
  have l3 : 2 ^ n.log2 ≤ n := Nat.log2_self_le n0
  refine ⟨by omega, by omega, ?_, ?_⟩
  · have : ((n : Nat) : Int) < ((2 ^ (n.log2 + 1) : Nat) : Int) := by omega
    rw [Int.natCast_pow] at this
    exact this
  · rw [Nat.add_sub_cancel]
    have : ((2 ^ n.log2 : Nat) : Int) ≤ ((n : Nat) : Int) := by omega
    rw [Int.natCast_pow] at this
    exact this
/-- a number's size and short codes, as naturals -/
structure Sz (lo hi : Int) (w : Option Int) (L S M : Nat) : Prop where
  m : hi - lo + 1 = ((M : Nat) : Int)
  m2 : 2 ≤ M
  s : szN lo hi w = (((L : Nat) : Int), ((S : Nat) : Int))
  l1 : 1 ≤ L
  l60 : L ≤ 60
  s1 : 1 ≤ S
  sl : S ≤ 2 ^ L
  sm : S ≤ M
  ms : M ≠ S → M + S = 2 ^ (L + 1)
  wf : wfOf lo hi w = if M = S then ⟨true, lo, ((L : Nat) : Int), ((S : Nat) : Int) - 1⟩ else ⟨false, lo, ((L : Nat) : Int), ((S : Nat) : Int)⟩
theorem pow_cast (n : Nat) : ((2 ^ n : Nat) : Int) = (2 : Int) ^ n := Int.natCast_pow 2 n
theorem sz_of {lo hi : Int} {w : Option Int} (h : OkNum lo hi w) : ∃ L S M, Sz lo hi w L S M := by
  obtain ⟨h1, h2, h3⟩ := h
  obtain ⟨M, hM⟩ := Int.eq_ofNat_of_zero_le (by omega : 0 ≤ hi - lo + 1)
  have hM : hi - lo + 1 = ((M : Nat) : Int) := hM
  have m2 : 2 ≤ M := by omega
  cases w with
  | some i =>
    obtain ⟨i1, i2, i3⟩ := h3 i rfl
    obtain ⟨L, rfl⟩ := Int.eq_ofNat_of_zero_le (by omega : 0 ≤ i)
    have q : M ≤ 2 ^ L := by
      have : hi - lo < 2 ^ L := by simpa using i3
      rw [← pow_cast] at this
      omega
    refine ⟨L, M, M, hM, m2, ?_, by omega, by omega, by omega, q, Nat.le_refl _, fun z => absurd rfl z, ?_⟩
    · rw [szN, hM]
    · rw [if_pos rfl]
      show (⟨true, lo, _, hi - lo + 1 - 1⟩ : WF) = _
      rw [hM]
  | none =>
    have n0 : M ≠ 0 := by omega
    have e : Builtin.Int.intBits ((M : Nat) : Int) = M.log2 + 1 := by
      unfold Builtin.Int.intBits
      simp [n0]
    have l2 : M < 2 ^ (M.log2 + 1) := (Nat.log2_lt n0).mp (Nat.lt_succ_self _)
    have l3 : 2 ^ M.log2 ≤ M := Nat.log2_self_le n0
    have l4 : 1 ≤ M.log2 := by
      rcases Nat.lt_or_ge M.log2 1 with q | q
      · have := (Nat.log2_lt n0).mp q
        omega
      · exact q
    have l5 : M.log2 ≤ 60 := by
      have : M.log2 < 61 := (Nat.log2_lt n0).mpr (by omega)
      omega
    generalize M.log2 = L at *
    have p := Nat.pow_succ (n := 2) (m := L)
    have e1 : ((L + 1 : Nat) : Int) - 1 = ((L : Nat) : Int) := by omega
    have e2 : (((L : Nat) : Int) + 1).toNat = L + 1 := by omega
    have e3 : (1 : Int) * 2 ^ (L + 1) - ((M : Nat) : Int) = ((2 ^ (L + 1) - M : Nat) : Int) := by
      rw [Int.one_mul, ← pow_cast]
      omega
    refine ⟨L, 2 ^ (L + 1) - M, M, hM, m2, ?_, l4, l5, by omega, by omega, by omega, fun _ => by omega, ?_⟩
    · rw [szN, hM, e]
      show (((L + 1 : Nat) : Int) - 1, (1 : Int) * 2 ^ (((L + 1 : Nat) : Int) - 1 + 1).toNat - ((M : Nat) : Int)) = _
      rw [e1, e2, e3]
    · rw [wfOf, hM, e]
      show (if (1 : Int) * 2 ^ (((L + 1 : Nat) : Int) - 1 + 1).toNat - ((M : Nat) : Int) = 1 * 2 ^ (((L + 1 : Nat) : Int) - 1).toNat then (⟨true, lo, ((L + 1 : Nat) : Int) - 1, (1 : Int) * 2 ^ (((L + 1 : Nat) : Int) - 1 + 1).toNat - ((M : Nat) : Int) - 1⟩ : WF) else ⟨false, lo, ((L + 1 : Nat) : Int) - 1, (1 : Int) * 2 ^ (((L + 1 : Nat) : Int) - 1 + 1).toNat - ((M : Nat) : Int)⟩) = _
      rw [e1, e2, e3, Int.toNat_natCast, Int.one_mul, ← pow_cast]
      by_cases c : M = 2 ^ (L + 1) - M
      · rw [if_pos (by omega), if_pos c]
      · rw [if_neg (by omega), if_neg c]
theorem nb_eq {lo hi : Int} {w : Option Int} {L S M : Nat} (h : Sz lo hi w L S M) (c : Nat) : nbS lo hi w (lo + ((c : Nat) : Int)) = if c < S then bnS L c else bnS (L + 1) (c + S) := by
  rw [nbS, h.s]
  have e : lo + ((c : Nat) : Int) - lo = ((c : Nat) : Int) := by omega
  rw [e]
  by_cases q : c < S
  · rw [if_pos (by omega), if_pos q, Int.toNat_natCast, Int.toNat_natCast]
  · rw [if_neg (by omega), if_neg q]
    show bnS (((L : Nat) : Int) + 1).toNat (((c : Nat) : Int) + ((S : Nat) : Int)).toNat = _
    rw [show (((L : Nat) : Int) + 1).toNat = L + 1 from by omega, show (((c : Nat) : Int) + ((S : Nat) : Int)).toNat = c + S from by omega]
theorem bnS_inj {k j n m : Nat} (h : bnS k n = bnS j m) : k = j ∧ bn k n = bn j m := by
  have e : bn k n = bn j m := by
    have := congrArg (fun x : Str => x.cps.toList) h
    exact this
  have l := congrArg List.length e
  rw [bn_len, bn_len] at l
  exact ⟨l, e⟩
theorem ok_all {lo hi lo2 hi2 : Int} {w w2 : Option Int} (h : OkNum lo hi w) (h2 : OkNum lo2 hi2 w2) (e : alF (wfOf lo hi w) (wfOf lo2 hi2 w2) = true) {v : Int} (v1 : lo ≤ v) (v2 : v ≤ hi) : okAt lo hi w lo2 hi2 w2 v = true := by
  obtain ⟨L, S, M, z⟩ := sz_of h
  obtain ⟨L2, S2, M2, z2⟩ := sz_of h2
  have key : lo = lo2 ∧ L = L2 ∧ ((M = S ∧ M ≤ S2) ∨ (M = M2 ∧ S = S2)) := by
    rw [z.wf, z2.wf] at e
    unfold alF at e
    by_cases c : M = S <;> by_cases c2 : M2 = S2 <;> simp [c, c2] at e <;> have := z.sm <;> have := z2.sm <;> have := z.ms <;> have := z2.ms
    · obtain ⟨a, b, d⟩ := e
      exact ⟨a, by omega, .inl ⟨c, by omega⟩⟩
    · obtain ⟨a, b, d⟩ := e
      exact ⟨a, by omega, .inl ⟨c, by omega⟩⟩
    · obtain ⟨a, b, d⟩ := e
      refine ⟨a, by omega, .inr ⟨?_, by omega⟩⟩
      have e1 := z.ms c
      have e2 := z2.ms c2
      have : L = L2 := by omega
      subst this
      omega
  obtain ⟨rfl, rfl, k⟩ := key
  obtain ⟨c, rfl⟩ : ∃ c : Nat, v = lo + ((c : Nat) : Int) := ⟨(v - lo).toNat, by omega⟩
  have m1 := z.m
  have m2 := z2.m
  have cM : c < M := by omega
  have sm2 := z2.sm
  unfold okAt
  rw [nb_eq z, nb_eq z2]
  rcases k with ⟨k1, k2⟩ | ⟨k1, k2⟩
  · rw [if_neg (by omega), if_pos (by omega), if_pos (by omega)]
    simp
  · subst k2
    rw [if_neg (by omega)]
    simp
theorem al_of {lo hi lo2 hi2 : Int} {w w2 : Option Int} (h : OkNum lo hi w) (h2 : OkNum lo2 hi2 w2) (e1 : okAt lo hi w lo2 hi2 w2 lo = true) (e2 : okAt lo hi w lo2 hi2 w2 hi = true) : alF (wfOf lo hi w) (wfOf lo2 hi2 w2) = true := by
  obtain ⟨L, S, M, z⟩ := sz_of h
  obtain ⟨L2, S2, M2, z2⟩ := sz_of h2
  have hm := z.m
  have hm2 := z2.m
  have := z.m2
  have := z2.m2
  have s1 := z.s1
  have s2 := z2.s1
  unfold okAt at e1 e2
  by_cases b1 : lo < lo2 ∨ lo > hi2
  · rw [if_pos b1] at e1; cases e1
  by_cases b2 : hi < lo2 ∨ hi > hi2
  · rw [if_pos b2] at e2; cases e2
  rw [if_neg b1] at e1
  rw [if_neg b2] at e2
  have e1 := of_decide_eq_true e1
  have e2 := of_decide_eq_true e2
  obtain ⟨c, hc⟩ : ∃ c : Nat, lo = lo2 + ((c : Nat) : Int) := ⟨(lo - lo2).toNat, by omega⟩
  have a1 := nb_eq z 0
  rw [if_pos (by omega), show lo + ((0 : Nat) : Int) = lo from by omega] at a1
  have a2 := nb_eq z2 c
  rw [← hc] at a2
  rw [a1, a2] at e1
  have p2 := Nat.pow_succ (n := 2) (m := L2)
  have cM : c < M2 := by omega
  have c0 : c = 0 ∧ L = L2 := by
    by_cases q : c < S2
    · rw [if_pos q] at e1
      obtain ⟨f1, f2⟩ := bnS_inj e1
      subst f1
      have := bn_inj L (n := 0) (m := c) (Nat.two_pow_pos L) (by have := z2.sl; omega) f2
      exact ⟨this.symm, rfl⟩
    · rw [if_neg q] at e1
      obtain ⟨f1, f2⟩ := bnS_inj e1
      subst f1
      have ne : M2 ≠ S2 := by omega
      have := z2.ms ne
      have := bn_inj (L2 + 1) (n := 0) (m := c + S2) (Nat.two_pow_pos _) (by omega) f2
      omega
  obtain ⟨rfl, rfl⟩ := c0
  have el : lo = lo2 := by omega
  subst el
  have b1 := nb_eq z (M - 1)
  have b2' := nb_eq z2 (M - 1)
  have eh : lo + ((M - 1 : Nat) : Int) = hi := by omega
  rw [eh] at b1 b2'
  rw [b1, b2'] at e2
  rw [z.wf, z2.wf]
  unfold alF
  have sm := z.sm
  have sm2 := z2.sm
  by_cases q : M = S
  · rw [if_pos (by omega)] at e2
    have q2 : M - 1 < S2 := by
      by_cases r : M - 1 < S2
      · exact r
      · rw [if_neg r] at e2
        have := (bnS_inj e2).1
        omega
    by_cases c2 : M2 = S2 <;> simp [q, c2] <;> omega
  · rw [if_neg (by omega)] at e2
    have r : ¬ M - 1 < S2 := fun r => by
      rw [if_pos r] at e2
      have := (bnS_inj e2).1
      omega
    rw [if_neg r] at e2
    have x1 := z.ms q
    have c2 : M2 ≠ S2 := by omega
    have x2 := z2.ms c2
    have := bn_inj (L + 1) (n := M - 1 + S) (m := M - 1 + S2) (by omega) (by omega) (bnS_inj e2).2
    have : S = S2 := by omega
    subst this
    rw [if_neg q, if_neg c2]
    simp
/-- the law's comparison is the program's -/
theorem law_al {lo hi lo2 hi2 : Int} {w w2 : Option Int} (h : OkNum lo hi w) (h2 : OkNum lo2 hi2 w2) : lawAl lo hi w lo2 hi2 w2 = alF (wfOf lo hi w) (wfOf lo2 hi2 w2) := by
  have l := h.lt
  cases e : alF (wfOf lo hi w) (wfOf lo2 hi2 w2) with
  | true => exact List.all_eq_true.mpr fun x _ => ok_all h h2 e (by omega) (by omega)
  | false =>
    cases e2 : lawAl lo hi w lo2 hi2 w2 with
    | false => rfl
    | true =>
      have a := List.all_eq_true.mp e2
      have a1 := a lo (List.mem_cons_self ..)
      have a2 := a hi (List.mem_cons_of_mem _ (List.mem_cons_self ..))
      rw [show max lo (min hi lo) = lo from by omega] at a1
      rw [show max lo (min hi hi) = hi from by omega] at a2
      rw [al_of h h2 a1 a2] at e
      cases e
theorem law_l {k k2 : Kd} (h : OkL k) (h2 : OkL k2) : lawL k k2 = alL k k2 := by
  have key : ∀ {a b : Kd}, OkLeaf a → OkLeaf b → lawLf a b = lfAl a b := fun {a b} ha hb => by
    cases a <;> first | exact ha.elim | skip
    all_goals cases b <;> first | exact hb.elim | rfl | exact law_al ha hb
  cases k with
  | items i w =>
    cases k2 with
    | items j u => show (if w = u then lawLf i j else false) = if w = u then lfAl i j else false; rw [key h.1 h2.1]
    | _ => first | rfl | exact h2.elim
  | num lo hi w =>
    cases k2 with
    | items j u => rfl
    | num lo2 hi2 w2 => exact key (a := .num lo hi w) (b := .num lo2 hi2 w2) h h2
    | bits m => exact key (a := .num lo hi w) (b := .bits m) h h2
    | _ => exact h2.elim
  | bits n =>
    cases k2 with
    | items j u => rfl
    | num lo2 hi2 w2 => exact key (a := .bits n) (b := .num lo2 hi2 w2) h h2
    | bits m => exact key (a := .bits n) (b := .bits m) h h2
    | _ => exact h2.elim
  | _ => exact h.elim
theorem bn_get : ∀ (k n i : Nat), i < k → (bn k n)[i]? = some (48 + n / 2 ^ (k - 1 - i) % 2)
  | k + 1, n, 0, _ => by rw [bn_cons]; rfl
  | k + 1, n, i + 1, h => by
    rw [bn_cons, List.getElem?_cons_succ, bn_get k n i (by omega), show k + 1 - 1 - (i + 1) = k - 1 - i from by omega]
theorem digit_at {n k i : Nat} (h : i < k) : atI (Str.ofString "01").cps.toList (Builtin.bitAnd (((n : Nat) : Int) / 2 ^ (((k : Nat) : Int) - 1 - (0 + ((i : Nat) : Int))).toNat) 1) = some (48 + n / 2 ^ (k - 1 - i) % 2) := by
  have e : (((k : Nat) : Int) - 1 - (0 + ((i : Nat) : Int))).toNat = k - 1 - i := by omega
  rw [e, ← pow_cast, show (((n : Nat) : Int) / ((2 ^ (k - 1 - i) : Nat) : Int)) = ((n / 2 ^ (k - 1 - i) : Nat) : Int) from (Int.natCast_ediv _ _).symm]
  generalize n / 2 ^ (k - 1 - i) = m
  rw [show (1 : Int) = ((1 : Nat) : Int) from rfl, PyProof.Rows.bitAnd_pp (Int.natCast_nonneg _) (Int.natCast_nonneg _), Int.toNat_natCast, Int.toNat_natCast, Nat.and_one_is_mod, bits_eq]
  rcases Nat.mod_two_eq_zero_or_one m with q | q <;> rw [q] <;> rfl
theorem max2_eq {i j : Int} : (if j > i then j else i) = max i j := by
  rw [Int.max_def]
  split <;> split <;> omega
theorem min3_eq {i j : Int} : (if j < i then j else i) = min i j := by
  rw [Int.min_def]
  split <;> split <;> omega
theorem law_no {lo hi lo2 hi2 x : Int} {w w2 : Option Int} (m : x ∈ placesN lo hi w lo2 hi2 w2) (h : okAt lo hi w lo2 hi2 w2 (max lo (min hi x)) = false) : lawAl lo hi w lo2 hi2 w2 = false := by
  cases e : lawAl lo hi w lo2 hi2 w2 with
  | false => rfl
  | true => rw [List.all_eq_true.mp e x m] at h; cases h
theorem wide_ok {m t : Int} (h : 1 ≤ m) (h60 : m < 2 ^ 60) (t0 : 0 ≤ t) : 1 ≤ min 60 ((Builtin.Int.intBits m : Int) + t) ∧ min 60 ((Builtin.Int.intBits m : Int) + t) ≤ 60 ∧ m < 2 ^ (min 60 ((Builtin.Int.intBits m : Int) + t)).toNat := by
  obtain ⟨f1, f2, f3, _⟩ := ib_facts h h60
  generalize Builtin.Int.intBits m = b at *
  refine ⟨by omega, by omega, Int.lt_of_lt_of_le f3 ?_⟩
  rw [← pow_cast, ← pow_cast]
  have : 2 ^ b ≤ 2 ^ (min 60 ((b : Int) + t)).toNat := Nat.pow_le_pow_right (by decide) (by omega)
  omega
theorem mkNum_leaf {lo hi : Int} {w : Option Int} (h : OkNum lo hi w) : mkNum (.int lo) (.int hi) (oi w) = .ok (.num lo hi w) := by
  obtain ⟨h1, h2, h3⟩ := h
  have e : okW (oi w) (hi - lo + 1) = true := by
    cases w with
    | none => rfl
    | some i =>
      obtain ⟨i1, i2, i3⟩ := h3 i rfl
      show (decide (1 ≤ i) && (decide (i ≤ 60) && decide (hi - lo + 1 ≤ 2 ^ i.toNat))) = true
      rw [decide_eq_true i1, decide_eq_true i2, decide_eq_true (by omega)]
      rfl
  have eo : oiOf (oi w) = w := by cases w <;> rfl
  have n1 : ¬ isI (.int lo) = false := fun z => nomatch (show true = false from z)
  have n2 : ¬ (isI (.int hi) = false ∨ intOf (.int hi) ≤ intOf (.int lo) ∨ 2 ^ 60 ≤ intOf (.int hi) - intOf (.int lo)) := fun z => z.elim (fun z => nomatch (show true = false from z)) (fun z => z.elim (fun z => by have z : hi ≤ lo := z; omega) (fun z => by have z : 2 ^ 60 ≤ hi - lo := z; omega))
  have n3 : ¬ okW (oi w) (intOf (.int hi) - intOf (.int lo) + 1) = false := fun z => by rw [show okW (oi w) (intOf (.int hi) - intOf (.int lo) + 1) = true from e] at z; cases z
  unfold mkNum
  rw [if_neg n1, if_neg n2, if_neg n3, eo]
  rfl
theorem oi_vt {K : PySem.W.Frag} {H : Hp} (w : Option Int) : ∃ t, VT K H (oi w) t := by
  cases w with
  | none => exact ⟨_, .non⟩
  | some i => exact ⟨_, .int i⟩
theorem wide_up {m i j : Int} (h : m < 2 ^ i.toNat) (ij : i ≤ j) : m < 2 ^ j.toNat := by
  refine Int.lt_of_lt_of_le h ?_
  rw [← pow_cast, ← pow_cast]
  have : 2 ^ i.toNat ≤ 2 ^ j.toNat := Nat.pow_le_pow_right (by decide) (by omega)
  omega
theorem okL_of {k : Kd} (h : OkLeaf k) : OkL k := by
  cases k <;> first | exact h | exact h.elim
theorem four_at {v : Int} (h0 : 0 ≤ v) (h1 : v < 4) : ∃ w : Option Int, atI [V.non, .int 1, .int 2, .int 3] v = some (oi w) ∧ ∀ j, w = some j → 1 ≤ j ∧ j ≤ 3 := by
  have : v = 0 ∨ v = 1 ∨ v = 2 ∨ v = 3 := by omega
  rcases this with rfl | rfl | rfl | rfl
  · exact ⟨none, rfl, fun j h => nomatch h⟩
  · exact ⟨some 1, rfl, fun j h => by cases h; decide⟩
  · exact ⟨some 2, rfl, fun j h => by cases h; decide⟩
  · exact ⟨some 3, rfl, fun j h => by cases h; decide⟩
theorem mkBits_leaf {n : Int} (h1 : 1 ≤ n) (h2 : n ≤ 16) : mkBits (.int n) = .ok (.bits n) := if_neg (fun z => z.elim (fun z => nomatch (show true = false from z)) fun z => z.elim (fun z => by have z : n < 1 := z; omega) fun z => by have z : 16 < n := z; omega)
theorem mkItems_leaf {i : Kd} {w : Option Int} (h : (Td.k i).item = true) (h3 : ∀ j, w = some j → 1 ≤ j ∧ j ≤ 3) : mkItems (.k i) (oi w) = .ok (.items i w) := by
  have n1 : ¬ (Td.k i).item = false := by rw [h]; decide
  have eo : oiOf (oi w) = w := by cases w <;> rfl
  have n2 : ¬ (oi w ≠ .non ∧ (isI (oi w) = false ∨ intOf (oi w) < 1 ∨ 3 < intOf (oi w))) := fun z => by
    cases w with
    | none => exact z.1 rfl
    | some j =>
      obtain ⟨j1, j3⟩ := h3 j rfl
      exact z.2.elim (fun z => nomatch (show true = false from z)) fun z => z.elim (fun z => by have z : j < 1 := z; omega) fun z => by have z : 3 < j := z; omega
  unfold mkItems
  rw [if_neg n1, if_neg n2, eo]
  rfl
theorem leaf_item {k : Kd} (h : OkLeaf k) : (Td.k k).item = true := by cases k <;> first | rfl | exact h.elim
def NmAt (hs : List Nat) (f st : Int) (j : Nat) (y : Str) : Prop := ∃ ts, y = nmS hs (97 + ((f + (0 + ((j : Nat) : Int)) * st) % 26).toNat) ts ∧ ts.length ≤ 3 ∧ ∀ c ∈ ts, letter c
theorem abc_at {x : Int} (h0 : 0 ≤ x) (h1 : x < 26) : atI (Str.ofString "abcdefghijklmnopqrstuvwxyz").cps.toList x = some (97 + x.toNat) := by
  obtain ⟨n, rfl⟩ := Int.eq_ofNat_of_zero_le h0
  have key : ((List.range 26).all fun n => decide (atI [97, 98, 99, 100, 101, 102, 103, 104, 105, 106, 107, 108, 109, 110, 111, 112, 113, 114, 115, 116, 117, 118, 119, 120, 121, 122] ((n : Nat) : Int) = some (97 + n))) = true := by decide +kernel
  rw [abc_eq]
  exact of_decide_eq_true (List.all_eq_true.mp key n (List.mem_range.mpr (by omega)))
theorem nm_cat {hs ts : List Nat} {c : Nat} : ((⟨hs.toArray⟩ : Str) ++ (⟨#[c]⟩ : Str)) ++ (⟨ts.toArray⟩ : Str) = nmS hs c ts := by
  show (⟨hs.toArray ++ #[c] ++ ts.toArray⟩ : Str) = ⟨(hs ++ c :: ts).toArray⟩
  congr 1
  simp
theorem nm_ok {hs : List Nat} {f st : Int} {j : Nat} {y : Str} (h : NmAt hs f st j y) (hl : hs.length ≤ 4) (hc : ∀ c ∈ hs, letter c) : okN y := by
  obtain ⟨ts, rfl, tl, tc⟩ := h
  have e : (nmS hs (97 + ((f + (0 + ((j : Nat) : Int)) * st) % 26).toNat) ts).length = hs.length + (ts.length + 1) := by
    show (hs ++ _ :: ts).toArray.size = _
    simp
  refine ⟨?_, by rw [e]; omega⟩
  show (decide (1 ≤ _) && (decide (_ ≤ 8) && _)) = true
  rw [decide_eq_true (by rw [e]; omega), decide_eq_true (by rw [e]; omega), Bool.true_and, Bool.true_and, List.all_eq_true]
  intro c m
  have m : c ∈ hs ++ (97 + ((f + (0 + ((j : Nat) : Int)) * st) % 26).toNat) :: ts := m
  have lc : letter c := by
    rcases List.mem_append.mp m with q | q
    · exact hc c q
    · rcases List.mem_cons.mp q with q | q
      · unfold letter
        omega
      · exact tc c q
  rw [decide_eq_true lc.1, decide_eq_true lc.2]
  rfl
theorem nm_nodup {hs : List Nat} {f v : Int} {ys : List Str} (v0 : 0 ≤ v) (v6 : v < 6) (l : ys.length ≤ 26) (h : ∀ j y, ys[j]? = some y → NmAt hs f (2 * v + 1) j y) : ys.Nodup := by
  refine List.pairwise_iff_getElem.mpr fun i j hi hj ij e => ?_
  obtain ⟨t1, e1, _⟩ := h i ys[i] (List.getElem?_eq_getElem hi)
  obtain ⟨t2, e2, _⟩ := h j ys[j] (List.getElem?_eq_getElem hj)
  rw [e1, e2] at e
  have e3 : hs ++ (97 + ((f + (0 + ((i : Nat) : Int)) * (2 * v + 1)) % 26).toNat) :: t1 = hs ++ (97 + ((f + (0 + ((j : Nat) : Int)) * (2 * v + 1)) % 26).toNat) :: t2 := congrArg (fun x : Str => x.cps.toList) e
  have e4 := (List.cons.inj (List.append_cancel_left e3)).1
  have : v = 0 ∨ v = 1 ∨ v = 2 ∨ v = 3 ∨ v = 4 ∨ v = 5 := by omega
  rcases this with rfl | rfl | rfl | rfl | rfl | rfl <;> omega
theorem TupKeep.dict {D : Addr} {H : Hp} {kvs : List (Key × V)} {o : HO} (h : H D = some (.dK kvs)) : TupKeep H (upd H D o) := fun b xs e => by
  rw [upd_ne (fun z => by rw [z, h] at e; cases e)]
  exact e
abbrev LfP (H : Hp) (kv : Key × V) (e : Str × Kd) : Prop := kv.1 = .inr e.1 ∧ LfAt H kv.2 e.2
theorem val_no {P : Key × V → Str × Kd → Prop} {n : Str} : ∀ {kvs : List (Key × V)} {tb : Tb}, Paired (fun kv e => kv.1 = .inr e.1 ∧ P kv e) kvs tb → n ∉ tb.map (·.1) → valV kvs (.inr n : Key) = none
  | _, _, .nil, _ => rfl
  | _, _, .cons h t, m => by
    rw [valV_neg (fun z => m (by
      rw [h.1] at z
      have := Sum.inr.inj z
      rw [← this]
      exact List.mem_cons_self ..))]
    exact val_no t fun z => m (List.mem_cons_of_mem _ z)
theorem tbOf_names : ∀ (k : Kd) (ys : List Str), (tbOf k ys).map (·.1) = ys
  | _, [] => rfl
  | k, a :: ys => by rw [tbOf, List.map_cons, tbOf_names]
theorem tb_ent {k : Kd} {ys : List Str} (hk : OkL k ∨ ∃ x, k = .call x ∧ okN x) (ok : ∀ y ∈ ys, okN y) : ∀ e ∈ tbOf k ys, OkL e.2 ∨ ∃ x, e.2 = .call x ∧ okN x := by
  induction ys generalizing k with
  | nil => exact fun e he => nomatch he
  | cons a ys ih =>
    intro e he
    rcases List.mem_cons.mp he with q | q
    · rw [q]; exact hk
    · exact ih (.inr ⟨a, rfl, ok a (List.mem_cons_self ..)⟩) (fun y hy => ok y (List.mem_cons_of_mem _ hy)) e q
theorem leaf_plain {k : Kd} (h : OkL k) : callsK k = [] ∧ k.top = true ∧ k.fit ∧ (∀ ks, k ≠ .row ks ∧ k ≠ .choice ks) ∧ k.cls ≠ some .call ∧ Lf2 k = true := by
  cases k with
  | num lo hi w => exact ⟨rfl, rfl, by rw [Kd.fit]; exact ⟨h.lt, h.r60, fun i hi => ⟨(h.w60 i hi).1, (h.w60 i hi).2.1⟩⟩, fun ks => ⟨nofun, nofun⟩, nofun, rfl⟩
  | bits n => exact ⟨rfl, rfl, by rw [Kd.fit]; exact h, fun ks => ⟨nofun, nofun⟩, nofun, rfl⟩
  | items i w =>
    have hi : OkLeaf i := h.1
    cases i with
    | num lo hi2 w2 => exact ⟨rfl, rfl, by rw [Kd.fit, Kd.fit]; exact ⟨⟨hi.lt, hi.r60, fun i hi3 => ⟨(hi.w60 i hi3).1, (hi.w60 i hi3).2.1⟩⟩, h.2⟩, fun ks => ⟨nofun, nofun⟩, nofun, rfl⟩
    | bits n => exact ⟨rfl, rfl, by rw [Kd.fit, Kd.fit]; exact ⟨hi, h.2⟩, fun ks => ⟨nofun, nofun⟩, nofun, rfl⟩
    | _ => exact hi.elim
  | _ => exact h.elim
theorem tb_facts {k : Kd} {ys : List Str} {r : Str} {c : Int} (hk : OkL k) (nd : ys.Nodup) (ok : ∀ y ∈ ys, okN y) (l3 : ys.length ≤ 3) (gl : ys.getLast? = some r) (c1 : 1 ≤ c) (c5 : c ≤ 5) : EdOk (tbOf k ys) r c (fun z => ys.idxOf z) ∧ Res (tbOf k ys) (.call r) k := by
  obtain ⟨p1, p2, p3, p4, p5, _⟩ := leaf_plain hk
  have nm := tbOf_names k ys
  have nd2 : (tbOf k ys).names.Nodup := by rw [show (tbOf k ys).names = ys from nm]; exact nd
  have rm : r ∈ ys := List.mem_of_getLast? gl
  have len : (tbOf k ys).length = ys.length := by rw [← List.length_map (f := Prod.fst), nm]
  have pos : 1 ≤ ys.length := List.length_pos_of_mem rm
  have ent : ∀ e ∈ tbOf k ys, e.2 = k ∨ ∃ x, e.2 = .call x ∧ okN x ∧ x ∈ ys ∧ ys.idxOf x < ys.idxOf e.1 := by
    match ys, l3, nd with
    | [a], _, _ =>
      intro e he
      rw [List.mem_singleton.mp he]
      exact .inl rfl
    | [a, b], _, nd =>
      have ab : a ≠ b := fun z => by subst z; simp at nd
      intro e he
      rcases List.mem_cons.mp he with q | q
      · rw [q]; exact .inl rfl
      · rw [List.mem_singleton.mp q]
        refine .inr ⟨a, rfl, ok a (List.mem_cons_self ..), List.mem_cons_self .., ?_⟩
        have q1 : (a == b) = false := by simpa using ab
        simp [List.idxOf_cons, q1]
    | [a, b, c], _, nd =>
      have ab : a ≠ b := fun z => by subst z; simp at nd
      have ac : a ≠ c := fun z => by subst z; simp at nd
      have bc : b ≠ c := fun z => by subst z; simp at nd
      intro e he
      rcases List.mem_cons.mp he with q | q
      · rw [q]; exact .inl rfl
      · rcases List.mem_cons.mp q with q | q
        · rw [q]
          refine .inr ⟨a, rfl, ok a (List.mem_cons_self ..), List.mem_cons_self .., ?_⟩
          have q1 : (a == b) = false := by simpa using ab
          simp [List.idxOf_cons, q1]
        · rw [List.mem_singleton.mp q]
          refine .inr ⟨b, rfl, ok b (List.mem_cons_of_mem _ (List.mem_cons_self ..)), List.mem_cons_of_mem _ (List.mem_cons_self ..), ?_⟩
          have q1 : (a == b) = false := by simpa using ab
          have q2 : (a == c) = false := by simpa using ac
          have q3 : (b == c) = false := by simpa using bc
          simp [List.idxOf_cons, q1, q2, q3]
  have nocr : ∀ e ∈ tbOf k ys, ∀ ks, e.2 ≠ .row ks ∧ e.2 ≠ .choice ks := fun e he ks => by
    rcases ent e he with q | ⟨x, q, _⟩
    · rw [q]; exact p4 ks
    · rw [q]; exact ⟨nofun, nofun⟩
  refine ⟨⟨fun e he => ?_, fun n hn => ok n (by rw [← nm]; exact hn), by rw [len]; exact pos, by rw [len]; omega, by rw [show (tbOf k ys).names = ys from nm]; exact rm, ok r rm, c1, c5, fun e he => ?_, ⟨nd2, fun n kk h m hm => ?_⟩, fun e he ks h => absurd h (nocr e he ks).1, fun kn fx e he ks h => absurd h (fun z => z.elim (nocr e he ks).2 (nocr e he ks).1)⟩, ?_⟩
  · rcases ent e he with q | ⟨x, q, _⟩
    · rw [q]; exact p2
    · rw [q]; rfl
  · rcases ent e he with q | ⟨x, q, ox, _⟩
    · rw [q]; exact p3
    · rw [q, Kd.fit]; exact ox.2
  · rcases ent _ (PySem.mem_of_lookup h) with q | ⟨x, q, _, xm, lt⟩
    · have q : kk = k := q
      rw [q, p1] at hm
      cases hm
    · have q : kk = .call x := q
      rw [q] at hm
      have em : m = x := List.mem_singleton.mp hm
      rw [em]
      exact ⟨by rw [show (tbOf k ys).names = ys from nm]; exact xm, lt⟩
  · have lk : ∀ e ∈ tbOf k ys, (tbOf k ys).lookup e.1 = some e.2 := fun e he => look_nd nd2 he
    match ys, l3, gl, lk with
    | [a], _, gl, lk =>
      cases gl
      exact .step (lk (a, k) (List.mem_cons_self ..)) (.done p5)
    | [a, b], _, gl, lk =>
      cases gl
      exact .step (lk (b, .call a) (List.mem_cons_of_mem _ (List.mem_cons_self ..))) (.step (lk (a, k) (List.mem_cons_self ..)) (.done p5))
    | [a, b, c], _, gl, lk =>
      cases gl
      exact .step (lk (c, .call b) (List.mem_cons_of_mem _ (List.mem_cons_of_mem _ (List.mem_cons_self ..)))) (.step (lk (b, .call a) (List.mem_cons_of_mem _ (List.mem_cons_self ..))) (.step (lk (a, k) (List.mem_cons_self ..)) (.done p5)))
theorem val_yes {P : V → Kd → Prop} {n : Str} {kk : Kd} : ∀ {kvs : List (Key × V)} {tb : Tb}, Paired (fun kv e => kv.1 = .inr e.1 ∧ P kv.2 e.2) kvs tb → tb.lookup n = some kk → ∃ v, valV kvs (.inr n : Key) = some v ∧ P v kk
  | _, _, .nil, e => nomatch e
  | kv :: _, x :: tb, .cons h t, e => by
    obtain ⟨m, k⟩ := x
    rw [List.lookup_cons] at e
    by_cases q : n = m
    · subst q
      have z : (n == n) = true := by simp
      rw [z] at e
      have e := Option.some.inj e
      subst e
      exact ⟨kv.2, valV_pos h.1, h.2⟩
    · have z : (n == m) = false := by simpa using q
      rw [z] at e
      obtain ⟨v, g1, g2⟩ := val_yes t e
      refine ⟨v, ?_, g2⟩
      rw [valV_neg (fun y => q (by rw [h.1] at y; exact (Sum.inr.inj y).symm))]
      exact g1
theorem tb_root {k : Kd} {ys : List Str} {r : Str} (hk : OkL k) (ok : ∀ y ∈ ys, okN y) (gl : ys.getLast? = some r) : ∃ kk, (tbOf k ys).lookup r = some kk ∧ ∀ k2, namAl kk k2 = false := by
  have rm : r ∈ (tbOf k ys).names := by rw [show (tbOf k ys).names = ys from tbOf_names k ys]; exact List.mem_of_getLast? gl
  obtain ⟨kk, h⟩ := look_has rm
  refine ⟨kk, h, fun k2 => ?_⟩
  rcases tb_ent (.inl hk) ok _ (PySem.mem_of_lookup h) with q | ⟨x, q, _⟩
  · have p4 := (leaf_plain q).2.2.2.1
    have q : OkL kk := q
    cases kk <;> first | rfl | exact q.elim
  · have q : kk = .call x := q
    rw [q]
    rfl
theorem dp_nil {K : PySem.W.Frag} {H : Hp} {a : Addr} (h : H a = some (.lst [])) : Dp K H (.ref a) (.list []) := .lst (SqL.of h) .nil

section
variable {K : PySem.W.Frag} {mg : Str → Option Value} {base : Heap} {A : Ad}{w : World} 
theorem ok_BadKind___init__ (T : Txt K mg A) : FnOk P w K mg base CX0 1 A.f_BadKind___init__ A.d_BadKind___init__ ["self", "part"] (sp_BadKind___init__ K A) := by
  refine T.F_BadKind___init__.ok sc_BadKind___init__ (fun vs H Q E h => sp2_len h) (fun cdv A0 outer s H vs Q E hr h => ?_)
  have nd := sc_BadKind___init__.nd
  refine ⟨_, (pss_one (ps_ost (pv 0) (pv 1))), ?_⟩
  clear nd hr
  replace h := sp2_of h
  obtain ⟨v_self, v_part, rfl, h⟩ := h

  obtain ⟨a, rfl, ha, k⟩ := h
  exact ⟨_, rfl, _, rfl, a, A.c_BadKind, rfl, T.oex_BadKind, T.nx_BadKind_part, .inl ⟨ha, fun dx h n => k dx h n⟩⟩
theorem ok_is_integer (T : Txt K mg A) : FnOk P w K mg base CX0 1 A.f_is_integer A.d_is_integer ["thing"] (sp_is_integer K A) := by
  refine T.F_is_integer.ok sc_is_integer (fun vs H Q E h => sp1_len h) (fun cdv A0 outer s H vs Q E hr h => ?_)
  have nd := sc_is_integer.nd
  refine ⟨_, (pss_one (ps_ret (pe_and (pe_callB call_isi (by rfl) T.b_isinstance (by decide +kernel) (pa_cons (pv 0) (pa_cons (pe_bltn (v := .ty "int") (by rfl) T.b_int (by decide +kernel) rfl) pa_nil))) (pe_one (pe_not (pe_callB call_isi (by rfl) T.b_isinstance (by decide +kernel) (pa_cons (pv 0) (pa_cons (pe_bltn (v := .ty "bool") (by rfl) T.b_bool (by decide +kernel) rfl) pa_nil)))))))), ?_⟩
  clear nd hr
  replace h := sp1_of h
  obtain ⟨v_thing, rfl, h⟩ := h

  obtain ⟨t, hv, k⟩ := h
  rw [isI_of hv] at k
  refine ⟨_, rfl, _, _, _, _, _, rfl, .ty _, hv.tyx, kit_isa hv.tag (by decide), _, rfl, iteB (fun h1 => ?_) (fun h1 => ?_)⟩
  · refine ⟨_, rfl, _, _, _, _, _, rfl, .ty _, hv.tyx, kit_isa hv.tag (by decide), _, rfl, ?_⟩
    rw [h1, Bool.true_and] at k
    exact k
  · rw [h1, Bool.false_and] at k
    exact k
theorem ok_is_bits (T : Txt K mg A) : FnOk P w K mg base CX0 1 A.f_is_bits A.d_is_bits ["thing"] (sp_is_bits K A) := by
  refine T.F_is_bits.ok sc_is_bits (fun vs H Q E h => sp1_len h) (fun cdv A0 outer s H vs Q E hr h => ?_)
  have nd := sc_is_bits.nd
  refine ⟨_, (pss_cons (ps_if (pt_not (pt_val (pe_callB call_isi (by rfl) T.b_isinstance (by decide +kernel) (pa_cons (pv 0) (pa_cons (pe_bltn (v := .ty "str") (by rfl) T.b_str (by decide +kernel) rfl) pa_nil))))) (pss_one (ps_ret pe_bl)) pss_nil)
      (pss_cons (ps_for PassesOwn.never rfl (pi_str (pv 0)) (pg_name (i := 1) nd rfl (by first | exact Or.inl rfl | exact Or.inr rfl)) (pss_one (ps_if (PW.pt (pw_and (pt_cmpR op_ne (pv 1) pe_str (nomark _)) (pw_and1 (pt_cmpR op_ne (pv 1) pe_str (nomark _))))) (pss_one (ps_ret pe_bl)) pss_nil)))
      (pss_one (ps_ret pe_bl)))), ?_⟩
  clear nd hr
  replace h := sp1_of h
  obtain ⟨v_thing, rfl, h⟩ := h

  obtain ⟨t, hv, k⟩ := h
  refine ⟨_, rfl, _, _, _, _, _, rfl, .ty _, hv.tyx, kit_isa hv.tag (by decide), _, rfl, iteB (fun h1 => ?_) (fun h1 => ?_)⟩
  · rw [(nstr_of hv (by simpa using h1)).1] at k
    exact k
  obtain ⟨x, rfl⟩ := str_of hv (by simpa using h1)
  refine ⟨_, rfl, x, rfl, for_str (fun i σ' H' => ∃ c, σ' = [some (.str x), c] ∧ H' = H ∧ (x.cps.toList.take i).all (fun c => decide (c = 48) || decide (c = 49)) = true) ⟨_, rfl, rfl, rfl⟩ ?_ ?_⟩
  · rintro i c σ' H' hc ⟨_, rfl, rfl, ha⟩
    refine ⟨_, rfl, rfl, _, rfl, ?_⟩
    rw [sign_dec sgn0]
    refine iteB (fun h0 => ⟨_, rfl, rfl, _, rfl, ?_⟩) (fun h0 => ?_)
    · rw [sign_dec sgn1]
      refine iteB (fun h2 => ?_) (fun h2 => ?_)
      · have e : okBits (.str x) = false := not_all hc (by simp at h0 h2; simp [h0, h2])
        rw [e] at k
        exact k
      · exact ⟨_, rfl, rfl, take_all ha hc (by simp at h2; simp [h2])⟩
    · refine iteF ?_
      exact ⟨_, rfl, rfl, take_all ha hc (by simp at h0; simp [h0])⟩
  · rintro σ' H' ⟨_, rfl, rfl, ha⟩
    have e : okBits (.str x) = true := full_all ha
    rw [e] at k
    exact k
theorem ok_is_name (T : Txt K mg A) : FnOk P w K mg base CX0 1 A.f_is_name A.d_is_name ["thing"] (sp_is_name K A) := by
  refine T.F_is_name.ok sc_is_name (fun vs H Q E h => sp1_len h) (fun cdv A0 outer s H vs Q E hr h => ?_)
  have nd := sc_is_name.nd
  refine ⟨_, (pss_cons (ps_if (PW.pt (pw_or (pt_not (pt_val (pe_callB call_isi (by rfl) T.b_isinstance (by decide +kernel) (pa_cons (pv 0) (pa_cons (pe_bltn (v := .ty "str") (by rfl) T.b_str (by decide +kernel) rfl) pa_nil))))) (pw_or (pt_cmpR op_lt (pe_callB call_len_str (by rfl) T.b_len (by decide +kernel) (pa_cons (pv 0) pa_nil)) pe_int (nomark _)) (pw_or1 (pt_cmpR op_gt (pe_callB call_len_str (by rfl) T.b_len (by decide +kernel) (pa_cons (pv 0) pa_nil)) pe_int (nomark _)))))) (pss_one (ps_ret pe_bl)) pss_nil)
      (pss_cons (ps_for PassesOwn.never rfl (pi_str (pv 0)) (pg_name (i := 1) nd rfl (by first | exact Or.inl rfl | exact Or.inr rfl)) (pss_one (ps_if (pt_cmpR op_notIn_sign (pv 1) (C8.pe_gc (by rfl) T.mg_LETTERS) (by rfl)) (pss_one (ps_ret pe_bl)) pss_nil)))
      (pss_one (ps_ret pe_bl)))), ?_⟩
  clear nd hr
  replace h := sp1_of h
  obtain ⟨v_thing, rfl, h⟩ := h

  obtain ⟨t, hv, hs, k⟩ := h
  refine ⟨_, rfl, _, _, _, _, _, rfl, .ty _, hv.tyx, kit_isa hv.tag (by decide), _, rfl, iteB (fun h1 => ?_) (fun h1 => ?_)⟩
  · rw [(nstr_of hv (by simpa using h1)).2] at k
    exact ite2 (fun _ => k) (fun z => absurd rfl z)
  obtain ⟨x, rfl⟩ := str_of hv (by simpa using h1)
  have hl := short_le hs
  refine ⟨_, rfl, x, rfl, hl, _, _, rfl, rfl, _, rfl, iteB (fun h2 => ?_) (fun h2 => ?_)⟩
  · have e : okName (.str x) = false := by simp only [okName, decide_eq_false (by have := of_decide_eq_true h2; omega : ¬ 1 ≤ x.length), Bool.false_and]
    rw [e] at k
    exact ite2 (fun _ => k) (fun z => absurd rfl z)
  refine ⟨_, rfl, x, rfl, hl, _, _, rfl, rfl, _, rfl, iteB (fun h3 => ?_) (fun h3 => ?_)⟩
  · have e : okName (.str x) = false := by simp at h3; simp only [okName, decide_eq_false (by omega : ¬ x.length ≤ 8), Bool.false_and, Bool.and_false]
    rw [e] at k
    exact k
  have l1 : 1 ≤ x.length := by simp at h2; omega
  have l2 : x.length ≤ 8 := by simp at h3; omega
  refine ⟨_, rfl, x, rfl, for_str (fun i σ' H' => ∃ c, σ' = [some (.str x), c] ∧ H' = H ∧ (x.cps.toList.take i).all (fun c => decide (97 ≤ c) && decide (c ≤ 122)) = true) ⟨_, rfl, rfl, rfl⟩ ?_ ?_⟩
  · rintro i c σ' H' hc ⟨_, rfl, rfl, ha⟩
    refine ⟨_, rfl, c, _, rfl, rfl, _, rfl, ?_⟩
    rw [abc_mem]
    refine iteB (fun h0 => ?_) (fun h0 => ?_)
    · have e : okName (.str x) = false := by
        simp only [okName, not_all (f := fun c => decide (97 ≤ c) && decide (c ≤ 122)) hc (not_t h0), Bool.and_false]
      rw [e] at k
      exact k
    · exact ⟨_, rfl, rfl, take_all ha hc (not_f h0)⟩
  · rintro σ' H' ⟨_, rfl, rfl, ha⟩
    have e : okName (.str x) = true := by simp only [okName, full_all ha, decide_eq_true l1, decide_eq_true l2, Bool.and_self]
    rw [e] at k
    exact k
theorem ok_is_word (T : Txt K mg A) : FnOk P w K mg base CX0 2 A.f_is_word A.d_is_word ["thing"] (sp_is_word K A) := by
  refine T.F_is_word.ok sc_is_word (fun vs H Q E h => sp1_len h) (fun cdv A0 outer s H vs Q E hr h => ?_)
  have nd := sc_is_word.nd
  refine ⟨_, (pss_one (ps_ret (pe_and (pe_call (ok_is_bits T) (hr.mono (by decide)) (by rfl) T.mg_is_bits T.k_is_bits T.b_is_bits .nil pass0 (pa_cons (pv 0) pa_nil)) (pe_one (pe_chain op_le op_le pe_int (pe_callB call_len_str (by rfl) T.b_len (by decide +kernel) (pa_cons (pv 0) pa_nil)) pe_int))))), ?_⟩
  clear nd hr
  replace h := sp1_of h
  obtain ⟨v_thing, rfl, h⟩ := h

  obtain ⟨t, hv, hs, k⟩ := h
  refine ⟨_, rfl, _, rfl, t, hv, _, rfl, iteB (fun h1 => ?_) (fun h1 => ?_)⟩
  · obtain ⟨x, rfl⟩ : ∃ x, v_thing = .str x := by
      cases v_thing <;> first | exact ⟨_, rfl⟩ | cases h1
    have e : okWord (.str x) = (decide (1 ≤ x.length) && decide (x.length ≤ 8)) := by
      unfold okWord
      rw [h1, Bool.true_and]
      rfl
    rw [e] at k
    refine ⟨_, rfl, x, rfl, short_le hs, _, _, rfl, rfl, _, rfl, iteB (fun h2 => ?_) (fun h2 => ?_)⟩
    · refine ⟨_, _, rfl, rfl, ?_⟩
      have e2 : decide (1 ≤ x.length) = true := decide_eq_true (by have := of_decide_eq_true h2; omega)
      have e3 : decide (x.length ≤ 8) = decide (((x.length : Nat) : Int) ≤ 8) := decide_eq_decide.mpr (by omega)
      rw [e2, Bool.true_and, e3] at k
      exact k
    · have e2 : decide (1 ≤ x.length) = false := decide_eq_false (by have := of_decide_eq_false h2; omega)
      rw [e2, Bool.false_and] at k
      exact k
  · have e : okWord v_thing = false := by unfold okWord; rw [h1, Bool.false_and]
    rw [e] at k
    exact k
theorem ok_begins (T : Txt K mg A) : FnOk P w K mg base CX0 1 A.f_begins A.d_begins ["one", "other"] (sp_begins K A) := by
  refine T.F_begins.ok sc_begins (fun vs H Q E h => sp2_len h) (fun cdv A0 outer s H vs Q E hr h => ?_)
  have nd := sc_begins.nd
  refine ⟨_, (pss_one (ps_ret (pe_or (pe_m1 PySem.F.slot_str_startswith PySem.F.type_str_startswith mt_startswith (pv 0) (pv 1)) (pe_one (pe_m1 PySem.F.slot_str_startswith PySem.F.type_str_startswith mt_startswith (pv 1) (pv 0)))))), ?_⟩
  clear nd hr
  replace h := sp2_of h
  obtain ⟨v_one, v_other, rfl, h⟩ := h

  obtain ⟨x, y, rfl, rfl, k⟩ := h
  refine ⟨_, rfl, ⟨_, rfl⟩, _, rfl, _, _, rfl, rfl, _, rfl, iteB (fun g => ?_) (fun g => ?_)⟩
  · rw [show pre2 x y = true by unfold pre2; rw [g]; rfl] at k
    exact k
  · rw [show pre2 x y = PySem.Txt.startswith y x by unfold pre2; rw [g]; rfl] at k
    exact ⟨_, rfl, ⟨_, rfl⟩, _, rfl, _, _, rfl, rfl, k⟩
theorem ok_is_width (T : Txt K mg A) : FnOk P w K mg base CX0 2 A.f_is_width A.d_is_width ["width", "many"] (sp_is_width K A) := by
  refine T.F_is_width.ok sc_is_width (fun vs H Q E h => sp2_len h) (fun cdv A0 outer s H vs Q E hr h => ?_)
  have nd := sc_is_width.nd
  refine ⟨_, (pss_cons (ps_if (pt_cmpR op_isN (pv 0) pe_non (nomark _)) (pss_one (ps_ret pe_bl)) pss_nil)
      (pss_one (ps_ret (pe_and (pe_call (ok_is_integer T) (hr.mono (by decide)) (by rfl) T.mg_is_integer T.k_is_integer T.b_is_integer .nil pass0 (pa_cons (pv 0) pa_nil)) (pe_and (pe_chain op_le op_le pe_int (pv 0) pe_int) (pe_one (pe_cmpR op_ge (pe_op op_shl pe_int (pv 0)) (pv 1) (nomark _)))))))), ?_⟩
  clear nd hr
  replace h := sp2_of h
  obtain ⟨v_width, v_many, rfl, h⟩ := h

  obtain ⟨t, n, hv, rfl, k⟩ := h
  refine ⟨_, rfl, rfl, _, rfl, iteB (fun h1 => ?_) (fun h1 => ?_)⟩
  · have e : v_width = .non := by simpa using h1
    subst e
    exact k
  refine ⟨_, rfl, _, rfl, t, hv, _, rfl, iteB (fun h2 => ?_) (fun h2 => ?_)⟩
  · have e := intOf_isI h2
    generalize intOf v_width = i at e
    subst e
    have eq : okW (.int i) n = (decide (1 ≤ i) && (decide (i ≤ 60) && decide (n ≤ 2 ^ i.toNat))) := rfl
    rw [eq] at k
    refine ⟨_, rfl, _, _, rfl, rfl, _, rfl, iteB (fun h3 => ?_) (fun h3 => ?_)⟩
    · rw [h3, Bool.true_and] at k
      refine ⟨_, _, rfl, rfl, _, rfl, iteB (fun h4 => ?_) (fun h4 => ?_)⟩
      · rw [h4, Bool.true_and] at k
        have g1 := of_decide_eq_true h3
        have g2 := of_decide_eq_true h4
        refine ⟨_, rfl, _, _, rfl, rfl, ⟨by omega, by omega, by decide⟩, _, rfl, _, _, rfl, rfl, ?_⟩
        rw [Int.one_mul]
        exact k
      · rw [h4, Bool.false_and] at k
        exact k
    · rw [h3, Bool.false_and] at k
      exact ⟨_, rfl, iteF k⟩
  · have e : okW v_width n = false := by
      cases v_width <;> first | rfl | exact absurd h2 Bool.noConfusion | simp at h1 | cases h2
    rw [e] at k
    exact k
theorem ok_Number___init__ (T : Txt K mg A) : FnOk P w K mg base (L2.CX P w) 3 A.f_Number___init__ A.d_Number___init__ ["self", "low", "high", "width"] (sp_Number___init__ K A) := by
  refine T.F_Number___init__.ok sc_Number___init__ (fun vs H Q E h => sp4_len h) (fun cdv A0 outer s H vs Q E hr h => ?_)
  have nd := sc_Number___init__.nd
  refine ⟨_, (pss_cons (ps_if (pt_not (pt_val (pe_call (ok_is_integer T) (hr.mono (by decide)) (by rfl) T.mg_is_integer T.k_is_integer T.b_is_integer .nil pass0 (pa_cons (pv 1) pa_nil)))) (pss_one (ps_raise rfl (takes_of rfl rfl rfl rfl) (pmk_oex T.oex_BadKind T.ix_BadKind T.tx_BadKind (ok_BadKind___init__ T) (hr.mono (by decide)) T.b_BadKind___init__ .nil pass0 (by rfl) T.mg_BadKind (pa_cons pe_str pa_nil)))) pss_nil)
      (pss_cons (ps_if (PW.pt (pw_or (pt_not (pt_val (pe_call (ok_is_integer T) (hr.mono (by decide)) (by rfl) T.mg_is_integer T.k_is_integer T.b_is_integer .nil pass0 (pa_cons (pv 2) pa_nil)))) (pw_or (pt_cmpR op_le (pv 2) (pv 1) (nomark _)) (pw_or1 (pt_cmpR op_ge (pe_op op_sub (pv 2) (pv 1)) (pe_op op_shl pe_int pe_int) (nomark _)))))) (pss_one (ps_raise rfl (takes_of rfl rfl rfl rfl) (pmk_oex T.oex_BadKind T.ix_BadKind T.tx_BadKind (ok_BadKind___init__ T) (hr.mono (by decide)) T.b_BadKind___init__ .nil pass0 (by rfl) T.mg_BadKind (pa_cons pe_str pa_nil)))) pss_nil)
      (pss_cons (ps_if (pt_not (pt_val (pe_call (ok_is_width T) (hr.mono (by decide)) (by rfl) T.mg_is_width T.k_is_width T.b_is_width .nil pass0 (pa_cons (pv 3) (pa_cons (pe_op op_add (pe_op op_sub (pv 2) (pv 1)) pe_int) pa_nil))))) (pss_one (ps_raise rfl (takes_of rfl rfl rfl rfl) (pmk_oex T.oex_BadKind T.ix_BadKind T.tx_BadKind (ok_BadKind___init__ T) (hr.mono (by decide)) T.b_BadKind___init__ .nil pass0 (by rfl) T.mg_BadKind (pa_cons pe_str pa_nil)))) pss_nil)
      (pss_cons (ps_fld (pv 0) (pv 1) rfl)
      (pss_cons (ps_fld (pv 0) (pv 2) rfl)
      (pss_one (ps_fld (pv 0) (pv 3) rfl))))))), ?_⟩
  clear nd hr
  replace h := sp4_of h
  obtain ⟨v_self, v_low, v_high, v_width, rfl, h⟩ := h

  obtain ⟨H0, x, ta, tb, tw, rfl, fr, va, vb, vw, k⟩ := h
  replace va := va.keep (KK.same fr.s)
  replace vb := vb.keep (KK.same fr.s)
  replace vw := vw.keep (KK.same fr.s)
  refine ⟨_, rfl, _, rfl, ta, va, _, rfl, iteB (fun h1 => ?_) (fun h1 => ?_)⟩
  · rw [show mkNum v_low v_high v_width = .error "low" from if_pos (not_t h1)] at k
    exact raise_bad fr.s k
  obtain ⟨i, rfl⟩ := int_ex (not_f h1)
  refine ⟨_, rfl, _, rfl, tb, vb, _, rfl, iteB (fun h2 => iteY ?_) (fun h2 => ?_)⟩
  · rw [show mkNum (.int i) v_high v_width = .error "high" from (if_neg nI).trans (if_pos (.inl (not_t h2)))] at k
    exact raise_bad fr.s k
  obtain ⟨j, rfl⟩ := int_ex (not_f h2)
  refine ⟨_, rfl, _, rfl, _, _, rfl, rfl, _, rfl, iteB (fun h3 => iteY ?_) (fun h3 => ?_)⟩
  · rw [show mkNum (.int i) (.int j) v_width = .error "high" from (if_neg nI).trans (if_pos (.inr (.inl (of_decide_eq_true h3))))] at k
    exact raise_bad fr.s k
  refine ⟨_, rfl, _, rfl, _, _, rfl, rfl, _, _, rfl, rfl, ⟨by decide, by decide, by decide⟩, _, _, rfl, rfl, _, rfl, iteB (fun h4 => ?_) (fun h4 => ?_)⟩
  · rw [show mkNum (.int i) (.int j) v_width = .error "high" from (if_neg nI).trans (if_pos (.inr (.inr (of_decide_eq_true h4))))] at k
    exact raise_bad fr.s k
  have nh : ¬ (isI (.int j) = false ∨ j ≤ i ∨ 2 ^ 60 ≤ j - i) := by
    have g3 := of_decide_eq_false h3
    have g4 : ¬ (1 * 2 ^ 60 : Int) ≤ j - i := of_decide_eq_false h4
    rintro (z | z | z)
    · cases z
    · exact g3 z
    · exact g4 (by rw [Int.one_mul]; exact z)
  refine ⟨_, rfl, _, rfl, _, rfl, _, _, rfl, rfl, _, _, rfl, rfl, _, _, rfl, tw, _, vw, rfl, _, rfl, iteB (fun h5 => ?_) (fun h5 => ?_)⟩
  · rw [show mkNum (.int i) (.int j) v_width = .error "width" from (if_neg nI).trans ((if_neg nh).trans (if_pos (not_t h5)))] at k
    exact raise_bad fr.s k
  have ew := okW_oi (not_f h5)
  rw [show mkNum (.int i) (.int j) v_width = .ok (.num i j (oiOf v_width)) from (if_neg nI).trans ((if_neg nh).trans (if_neg (by rw [show okW v_width (intOf (.int j) - intOf (.int i) + 1) = true from not_f h5]; decide)))] at k
  obtain ⟨dx, hx⟩ := fr.at'
  refine ⟨_, rfl, _, rfl, x, _, dx, _, rfl, hx, T.cl_Number, T.n_Number_low, Nat.lt_of_le_of_lt (Nat.le_refl 0 : _ ≤ 0) (by decide : 0 < 1000), ?_⟩
  refine ⟨_, rfl, _, rfl, x, _, dx, _, rfl, upd_same, T.cl_Number, T.n_Number_high, Nat.lt_of_le_of_lt (put_len (Nat.zero_le _) : _ ≤ 1) (by decide : 1 < 1000), ?_⟩
  refine ⟨_, rfl, _, rfl, x, _, dx, _, rfl, upd_same, T.cl_Number, T.n_Number_width, Nat.lt_of_le_of_lt (put_len (put_len (Nat.zero_le _)) : _ ≤ 2) (by decide : 2 < 1000), ?_⟩
  refine k _ (same_put fr.no (same_put fr.no (same_put fr.no fr.s))) (.num ⟨dx, _, upd_same, ?_⟩)
  rw [← ew]
  exact put3 (show ¬ (Str.ofString "low") = Str.ofString "high" by decide +kernel) (show ¬ (Str.ofString "low") = Str.ofString "width" by decide +kernel) (show ¬ (Str.ofString "high") = Str.ofString "width" by decide +kernel)
theorem ok_Bits___init__ (T : Txt K mg A) : FnOk P w K mg base (L2.CX P w) 3 A.f_Bits___init__ A.d_Bits___init__ ["self", "many"] (sp_Bits___init__ K A) := by
  refine T.F_Bits___init__.okX sc_Bits___init__ (fun vs H Q E h => sp2_len h) (fun cdv A0 outer s H vs Q E hr h => ?_)
  have nd := sc_Bits___init__.nd
  refine ⟨_, (pss_cons (ps_if (PW.pt (pw_or (pt_not (pt_val (pe_call (ok_is_integer T) (hr.mono (by decide)) (by rfl) T.mg_is_integer T.k_is_integer T.b_is_integer .nil pass0 (pa_cons (pv 1) pa_nil)))) (pw_or (pt_cmpR op_lt (pv 1) pe_int (nomark _)) (pw_or1 (pt_cmpR op_gt (pv 1) pe_int (nomark _)))))) (pss_one (ps_raise rfl (takes_of rfl rfl rfl rfl) (pmk_oex T.oex_BadKind T.ix_BadKind T.tx_BadKind (ok_BadKind___init__ T) (hr.mono (by decide)) T.b_BadKind___init__ .nil pass0 (by rfl) T.mg_BadKind (pa_cons pe_str pa_nil)))) pss_nil)
      (pss_one (ps_fld (pv 0) (pv 1) rfl))), ?_⟩
  clear nd hr
  replace h := sp2_of h
  obtain ⟨v_self, v_many, rfl, h⟩ := h

  obtain ⟨H0, x, ta, rfl, fr, va, k⟩ := h
  replace va := va.keep (KK.same fr.s)
  refine ⟨_, rfl, _, rfl, ta, va, _, rfl, iteB (fun h1 => iteY ?_) (fun h1 => ?_)⟩
  · rw [show mkBits v_many = .error "many" from if_pos (.inl (not_t h1))] at k
    exact raise_bad fr.s k
  obtain ⟨i, rfl⟩ := int_ex (not_f h1)
  refine ⟨_, rfl, _, _, rfl, rfl, _, rfl, iteB (fun h2 => iteY ?_) (fun h2 => ?_)⟩
  · rw [show mkBits (.int i) = .error "many" from if_pos (.inr (.inl (of_decide_eq_true h2)))] at k
    exact raise_bad fr.s k
  refine ⟨_, rfl, _, _, rfl, rfl, _, rfl, iteB (fun h3 => ?_) (fun h3 => ?_)⟩
  · rw [show mkBits (.int i) = .error "many" from if_pos (.inr (.inr (of_decide_eq_true h3)))] at k
    exact raise_bad fr.s k
  rw [show mkBits (.int i) = .ok (.bits i) from if_neg (by
    rintro (z | z | z)
    · cases z
    · exact of_decide_eq_false h2 z
    · exact of_decide_eq_false h3 z)] at k
  obtain ⟨dx, hx⟩ := fr.at'
  refine ⟨_, rfl, _, rfl, x, _, dx, _, rfl, hx, T.cl_Bits, T.n_Bits_many, Nat.lt_of_le_of_lt (Nat.le_refl 0 : _ ≤ 0) (by decide : 0 < 1000), ?_⟩
  exact k _ (same_put fr.no fr.s) (.bits ⟨dx, _, upd_same, put1⟩)
theorem ok_Call___init__ (T : Txt K mg A) : FnOk P w K mg base (L2.CX P w) 3 A.f_Call___init__ A.d_Call___init__ ["self", "name"] (sp_Call___init__ K A) := by
  refine T.F_Call___init__.okX sc_Call___init__ (fun vs H Q E h => sp2_len h) (fun cdv A0 outer s H vs Q E hr h => ?_)
  have nd := sc_Call___init__.nd
  refine ⟨_, (pss_cons (ps_if (pt_not (pt_val (pe_call (ok_is_name T) (hr.mono (by decide)) (by rfl) T.mg_is_name T.k_is_name T.b_is_name .nil pass0 (pa_cons (pv 1) pa_nil)))) (pss_one (ps_raise rfl (takes_of rfl rfl rfl rfl) (pmk_oex T.oex_BadKind T.ix_BadKind T.tx_BadKind (ok_BadKind___init__ T) (hr.mono (by decide)) T.b_BadKind___init__ .nil pass0 (by rfl) T.mg_BadKind (pa_cons pe_str pa_nil)))) pss_nil)
      (pss_one (ps_fld (pv 0) (pv 1) rfl))), ?_⟩
  clear nd hr
  replace h := sp2_of h
  obtain ⟨v_self, v_name, rfl, h⟩ := h

  obtain ⟨H0, x, ta, rfl, fr, va, sa, k⟩ := h
  replace va := va.keep (KK.same fr.s)
  refine ⟨_, rfl, _, rfl, ta, va, sa, _, rfl, iteB (fun h1 => ?_) (fun h1 => ?_)⟩
  · rw [show mkCall v_name = .error "name" from if_pos (not_t h1)] at k
    exact raise_bad fr.s k
  rw [show mkCall v_name = .ok (.call (strOf v_name)) from if_neg (by rw [not_f h1]; decide)] at k
  obtain ⟨z, rfl⟩ : ∃ z, v_name = .str z := by
    cases v_name <;> first | exact ⟨_, rfl⟩ | cases h1
  obtain ⟨dx, hx⟩ := fr.at'
  refine ⟨_, rfl, _, rfl, x, _, dx, _, rfl, hx, T.cl_Call, T.n_Call_name, Nat.lt_of_le_of_lt (Nat.le_refl 0 : _ ≤ 0) (by decide : 0 < 1000), ?_⟩
  exact k _ (same_put fr.no fr.s) (.call ⟨dx, _, upd_same, put1⟩)
theorem ok_Items___init__ (T : Txt K mg A) : FnOk P w K mg base (L2.CX P w) 3 A.f_Items___init__ A.d_Items___init__ ["self", "item", "width"] (sp_Items___init__ K A) := by
  refine T.F_Items___init__.ok sc_Items___init__ (fun vs H Q E h => sp3_len h) (fun cdv A0 outer s H vs Q E hr h => ?_)
  have nd := sc_Items___init__.nd
  refine ⟨_, (pss_cons (ps_if (pt_not (pt_val (pe_callB call_isiT (by rfl) T.b_isinstance (by decide +kernel) (pa_cons (pv 1) (pa_cons (pe_tup (pa_cons (pe_glob (v := .ref A.c_Number) (by rfl) T.mg_Number rfl) (pa_cons (pe_glob (v := .ref A.c_Bits) (by rfl) T.mg_Bits rfl) (pa_cons (pe_glob (v := .ref A.c_Call) (by rfl) T.mg_Call rfl) pa_nil)))) pa_nil))))) (pss_one (ps_raise rfl (takes_of rfl rfl rfl rfl) (pmk_oex T.oex_BadKind T.ix_BadKind T.tx_BadKind (ok_BadKind___init__ T) (hr.mono (by decide)) T.b_BadKind___init__ .nil pass0 (by rfl) T.mg_BadKind (pa_cons pe_str pa_nil)))) pss_nil)
      (pss_cons (ps_if (PW.pt (pw_and (pt_cmpR op_notN (pv 2) pe_non (nomark _)) (pw_and1 (PW.pt (pw_or (pt_not (pt_val (pe_call (ok_is_integer T) (hr.mono (by decide)) (by rfl) T.mg_is_integer T.k_is_integer T.b_is_integer .nil pass0 (pa_cons (pv 2) pa_nil)))) (pw_or (pt_cmpR op_lt (pv 2) pe_int (nomark _)) (pw_or1 (pt_cmpR op_gt (pv 2) pe_int (nomark _))))))))) (pss_one (ps_raise rfl (takes_of rfl rfl rfl rfl) (pmk_oex T.oex_BadKind T.ix_BadKind T.tx_BadKind (ok_BadKind___init__ T) (hr.mono (by decide)) T.b_BadKind___init__ .nil pass0 (by rfl) T.mg_BadKind (pa_cons pe_str pa_nil)))) pss_nil)
      (pss_cons (ps_fld (pv 0) (pv 1) rfl)
      (pss_one (ps_fld (pv 0) (pv 2) rfl))))), ?_⟩
  clear nd hr
  replace h := sp3_of h
  obtain ⟨v_self, v_item, v_width, rfl, h⟩ := h

  obtain ⟨H0, x, t, tw, rfl, fr, ht, vw, k⟩ := h
  replace vw := vw.keep (KK.same fr.s)
  have ht1 := ht.keep (KI.same fr.s)
  refine ⟨_, rfl, (by show 3 ≤ sizeLine; rw [sizeLine_eq]; decide), fun p hp => ⟨_, p, _, _, _, _, rfl, upd_same, .cons (.own _) (.cons (.own _) (.cons (.own _) .nil)), ((ht1.keep (KI.new hp)).vt T).tyx, any_kc T ht1 [.num, .bits, .call], _, rfl, iteB (fun h1 => ?_) (fun h1 => ?_)⟩⟩
  · rw [show mkItems t v_width = .error "item" from if_pos (not_t h1)] at k
    exact raise_bad (fr.s.trans (same_new hp)) k
  have hi : t.item = true := not_f h1
  replace fr := fr.go (same_new hp (o := .tup [V.ref A.c_Number, V.ref A.c_Bits, V.ref A.c_Call]))
  replace vw := vw.keep (KK.new hp (o := .tup [V.ref A.c_Number, V.ref A.c_Bits, V.ref A.c_Call]))
  refine heap_gen (fun H1 => Fresh A.c_Items x H0 H1 ∧ VT K H1 v_width tw) ⟨fr, vw⟩ fun H1 ⟨fr, vw⟩ => ?_
  have q := any_kd hi
  rw [q] at ht hi k
  have fin : (v_width = oi (oiOf v_width)) → ¬ (v_width ≠ .non ∧ (isI v_width = false ∨ intOf v_width < 1 ∨ 3 < intOf v_width)) → ∀ Q1 : Prop, ((∀ H', Same H0 H' → KAt A H' (.ref x) (.items t.kd (oiOf v_width)) → Q .non H') → Q1) → Q1 := fun _ n Q1 g => by
    rw [show mkItems (.k t.kd) v_width = .ok (.items t.kd (oiOf v_width)) from (if_neg (by rw [hi]; decide)).trans (if_neg n)] at k
    exact g k
  refine ⟨_, rfl, rfl, _, rfl, iteB (fun h2 => ?_) (fun h2 => iteF ?_)⟩
  · have n2 : v_width ≠ .non := of_decide_eq_false (not_t h2)
    refine ⟨_, rfl, _, rfl, tw, vw, _, rfl, iteB (fun h3 => iteY ?_) (fun h3 => ?_)⟩
    · rw [show mkItems (.k t.kd) v_width = .error "width" from (if_neg (by rw [hi]; decide)).trans (if_pos ⟨n2, .inl (not_t h3)⟩)] at k
      exact raise_bad fr.s k
    obtain ⟨i, rfl⟩ := int_ex (not_f h3)
    refine ⟨_, rfl, _, _, rfl, rfl, _, rfl, iteB (fun h4 => iteY ?_) (fun h4 => ?_)⟩
    · rw [show mkItems (.k t.kd) (.int i) = .error "width" from (if_neg (by rw [hi]; decide)).trans (if_pos ⟨n2, .inr (.inl (of_decide_eq_true h4))⟩)] at k
      exact raise_bad fr.s k
    refine ⟨_, rfl, _, _, rfl, rfl, _, rfl, iteB (fun h5 => ?_) (fun h5 => ?_)⟩
    · rw [show mkItems (.k t.kd) (.int i) = .error "width" from (if_neg (by rw [hi]; decide)).trans (if_pos ⟨n2, .inr (.inr (of_decide_eq_true h5))⟩)] at k
      exact raise_bad fr.s k
    refine fin rfl (by
      rintro ⟨_, z | z | z⟩
      · cases z
      · exact of_decide_eq_false h4 z
      · exact of_decide_eq_false h5 z) _ fun k => ?_
    obtain ⟨dx, hx⟩ := fr.at'
    refine ⟨_, rfl, _, rfl, x, _, dx, _, rfl, hx, T.cl_Items, T.n_Items_item, Nat.lt_of_le_of_lt (Nat.le_refl 0 : _ ≤ 0) (by decide : 0 < 1000), ?_⟩
    refine ⟨_, rfl, _, rfl, x, _, dx, _, rfl, upd_same, T.cl_Items, T.n_Items_width, Nat.lt_of_le_of_lt (put_len (Nat.zero_le _) : _ ≤ 1) (by decide : 1 < 1000), ?_⟩
    exact k _ (same_put fr.no (same_put fr.no fr.s)) (.items ⟨dx, _, upd_same, put2 (show ¬ (Str.ofString "item") = Str.ofString "width" by decide +kernel)⟩ (KAt.keep (KI.same (same_put fr.no (same_put fr.no fr.s))) ht) hi)
  · have e2 : v_width = .non := of_decide_eq_true (not_f h2)
    subst e2
    refine fin rfl (by rintro ⟨z, _⟩; exact z rfl) _ fun k => ?_
    obtain ⟨dx, hx⟩ := fr.at'
    refine ⟨_, rfl, _, rfl, x, _, dx, _, rfl, hx, T.cl_Items, T.n_Items_item, Nat.lt_of_le_of_lt (Nat.le_refl 0 : _ ≤ 0) (by decide : 0 < 1000), ?_⟩
    refine ⟨_, rfl, _, rfl, x, _, dx, _, rfl, upd_same, T.cl_Items, T.n_Items_width, Nat.lt_of_le_of_lt (put_len (Nat.zero_le _) : _ ≤ 1) (by decide : 1 < 1000), ?_⟩
    exact k _ (same_put fr.no (same_put fr.no fr.s)) (.items ⟨dx, _, upd_same, put2 (show ¬ (Str.ofString "item") = Str.ofString "width" by decide +kernel)⟩ (KAt.keep (KI.same (same_put fr.no (same_put fr.no fr.s))) ht) hi)
theorem ok_is_simple (T : Txt K mg A) : FnOk P w K mg base CX0 1 A.f_is_simple A.d_is_simple ["thing"] (sp_is_simple K A) := by
  refine T.F_is_simple.ok sc_is_simple (fun vs H Q E h => sp1_len h) (fun cdv A0 outer s H vs Q E hr h => ?_)
  have nd := sc_is_simple.nd
  refine ⟨_, (pss_one (ps_ret (pe_callB call_isiT (by rfl) T.b_isinstance (by decide +kernel) (pa_cons (pv 0) (pa_cons (pe_tup (pa_cons (pe_glob (v := .ref A.c_Number) (by rfl) T.mg_Number rfl) (pa_cons (pe_glob (v := .ref A.c_Bits) (by rfl) T.mg_Bits rfl) (pa_cons (pe_glob (v := .ref A.c_Items) (by rfl) T.mg_Items rfl) (pa_cons (pe_glob (v := .ref A.c_Call) (by rfl) T.mg_Call rfl) pa_nil))))) pa_nil))))), ?_⟩
  clear nd hr
  replace h := sp1_of h
  obtain ⟨v_thing, rfl, h⟩ := h

  obtain ⟨t, ht, k⟩ := h
  refine ⟨_, rfl, (by show 4 ≤ sizeLine; rw [sizeLine_eq]; decide), fun p hp => ⟨_, p, _, _, _, _, rfl, upd_same, .cons (.own _) (.cons (.own _) (.cons (.own _) (.cons (.own _) .nil))), ((ht.keep (KI.new hp)).vt T).tyx, any_kc T ht [.num, .bits, .items, .call], k _ (same_new hp)⟩⟩
theorem ok_check_inner (T : Txt K mg A) : FnOk P w K mg base (L2.CX P w) 3 A.f_check_inner A.d_check_inner ["word", "name", "is_kind"] (sp_check_inner K A) := by
  refine T.F_check_inner.okX sc_check_inner (fun vs H Q E h => sp3_len h) (fun cdv A0 outer s H vs Q E hr h => ?_)
  have nd := sc_check_inner.nd
  refine ⟨_, (pss_cons (ps_if (pt_not (pt_val (pe_call (ok_is_word T) (hr.mono (by decide)) (by rfl) T.mg_is_word T.k_is_word T.b_is_word .nil pass0 (pa_cons (pv 0) pa_nil)))) (pss_one (ps_raise rfl (takes_of rfl rfl rfl rfl) (pmk_oex T.oex_BadKind T.ix_BadKind T.tx_BadKind (ok_BadKind___init__ T) (hr.mono (by decide)) T.b_BadKind___init__ .nil pass0 (by rfl) T.mg_BadKind (pa_cons pe_str pa_nil)))) pss_nil)
      (pss_cons (ps_if (pt_not (pt_val (pe_call (ok_is_name T) (hr.mono (by decide)) (by rfl) T.mg_is_name T.k_is_name T.b_is_name .nil pass0 (pa_cons (pv 1) pa_nil)))) (pss_one (ps_raise rfl (takes_of rfl rfl rfl rfl) (pmk_oex T.oex_BadKind T.ix_BadKind T.tx_BadKind (ok_BadKind___init__ T) (hr.mono (by decide)) T.b_BadKind___init__ .nil pass0 (by rfl) T.mg_BadKind (pa_cons pe_str pa_nil)))) pss_nil)
      (pss_one (ps_if (pt_not (pt_val (pv 2))) (pss_one (ps_raise rfl (takes_of rfl rfl rfl rfl) (pmk_oex T.oex_BadKind T.ix_BadKind T.tx_BadKind (ok_BadKind___init__ T) (hr.mono (by decide)) T.b_BadKind___init__ .nil pass0 (by rfl) T.mg_BadKind (pa_cons pe_str pa_nil)))) pss_nil)))), ?_⟩
  clear nd hr
  replace h := sp3_of h
  obtain ⟨v_word, v_name, v_is_kind, rfl, h⟩ := h

  obtain ⟨t1, t2, c, hw, hn, sw, sn, rfl, k⟩ := h
  refine ⟨_, rfl, _, rfl, t1, hw, sw, _, rfl, iteB (fun h1 => ?_) (fun h1 => ?_)⟩
  · rw [show chk v_word v_name c = some "word" from if_pos (not_t h1)] at k
    exact raise_bad (fun _ _ z => z) k
  refine ⟨_, rfl, _, rfl, t2, hn, sn, _, rfl, iteB (fun h2 => ?_) (fun h2 => ?_)⟩
  · rw [show chk v_word v_name c = some "name" from (if_neg (by rw [not_f h1]; decide)).trans (if_pos (not_t h2))] at k
    exact raise_bad (fun _ _ z => z) k
  refine ⟨_, rfl, _, rfl, iteB (fun h3 => ?_) (fun h3 => ?_)⟩
  · rw [show chk v_word v_name c = some "kind" from (if_neg (by rw [not_f h1]; decide)).trans ((if_neg (by rw [not_f h2]; decide)).trans (if_pos (not_t h3)))] at k
    exact raise_bad (fun _ _ z => z) k
  · rw [show chk v_word v_name c = none from (if_neg (by rw [not_f h1]; decide)).trans ((if_neg (by rw [not_f h2]; decide)).trans (if_neg (by rw [not_f h3]; decide)))] at k
    exact k
theorem ok_Way___init__ (T : Txt K mg A) : FnOk P w K mg base (L2.CX P w) 4 A.f_Way___init__ A.d_Way___init__ ["self", "word", "name", "kind"] (sp_Way___init__ K A) := by
  refine T.F_Way___init__.okX sc_Way___init__ (fun vs H Q E h => sp4_len h) (fun cdv A0 outer s H vs Q E hr h => ?_)
  have nd := sc_Way___init__.nd
  refine ⟨_, (pss_cons (ps_expr (by exact (pe_callS (ok_check_inner T) (hr.mono (by decide)) (by rfl) T.mg_check_inner T.k_check_inner T.b_check_inner (fun σ => passAt (W := fun cls d _ H => E cls d H) (takes_of rfl rfl rfl rfl) σ) (by exact (pa_cons (pv 1) (pa_cons (pv 2) (pa_cons (pe_or (pe_call (ok_is_simple T) (hr.mono (by decide)) (by rfl) T.mg_is_simple T.k_is_simple T.b_is_simple .nil pass0 (pa_cons (pv 3) pa_nil)) (pe_one (pe_callB call_isi (by rfl) T.b_isinstance (by decide +kernel) (pa_cons (pv 3) (pa_cons (pe_glob (v := .ref A.c_Nothing) (by rfl) T.mg_Nothing rfl) pa_nil))))) pa_nil)))))))
      (pss_cons (ps_fld (pv 0) (pv 1) rfl)
      (pss_cons (ps_fld (pv 0) (pv 2) rfl)
      (pss_one (ps_fld (pv 0) (pv 3) rfl))))), ?_⟩
  clear nd hr
  replace h := sp4_of h
  obtain ⟨v_self, v_word, v_name, v_kind, rfl, h⟩ := h

  obtain ⟨H0, x, tw, tn, t, rfl, fr, vw, vn, sw, sn, ht, k⟩ := h
  refine ⟨_, rfl, _, rfl, _, rfl, _, rfl, t, ht.keep (KI.same fr.s), fun H1 e1 => ⟨_, rfl, iteB (fun g1 => ?_) (fun g1 => ?_)⟩⟩
  · have hb : t.way = true := by unfold Td.way; rw [g1]; rfl
    have q := any_kd g1
    rw [q] at ht k hb
    rw [hb] at k
    refine ⟨_, _, _, rfl, tw, tn, _, vw.keep (KK.same (fr.s.trans e1)), vn.keep (KK.same (fr.s.trans e1)), sw, sn, rfl, inner_go (fr.s.trans e1) k fun ce k => ?_⟩
    obtain ⟨ew, en, et⟩ := chk_none ce
    replace et := hb.trans et
    replace fr := fr.go e1
    obtain ⟨dx, hx⟩ := fr.at'
    refine ⟨_, rfl, _, rfl, x, _, dx, _, rfl, hx, T.cl_Way, T.n_Way_word, Nat.lt_of_le_of_lt (Nat.le_refl 0 : _ ≤ 0) (by decide : 0 < 1000), ?_⟩
    refine ⟨_, rfl, _, rfl, x, _, dx, _, rfl, upd_same, T.cl_Way, T.n_Way_name, Nat.lt_of_le_of_lt (put_len (Nat.zero_le _) : _ ≤ 1) (by decide : 1 < 1000), ?_⟩
    refine ⟨_, rfl, _, rfl, x, _, dx, _, rfl, upd_same, T.cl_Way, T.n_Way_kind, Nat.lt_of_le_of_lt (put_len (put_len (Nat.zero_le _)) : _ ≤ 2) (by decide : 2 < 1000), ?_⟩
    refine k _ (same_put fr.no (same_put fr.no (same_put fr.no fr.s))) (.way (w := strOf v_word) (n := strOf v_name) ⟨dx, _, upd_same, ?_⟩ (KAt.keep (KI.same (same_put fr.no (same_put fr.no (same_put fr.no fr.s)))) ht) et)
    rw [← ew, ← en]
    exact put3 (show ¬ (Str.ofString "word") = Str.ofString "name" by decide +kernel) (show ¬ (Str.ofString "word") = Str.ofString "kind" by decide +kernel) (show ¬ (Str.ofString "name") = Str.ofString "kind" by decide +kernel)
  · have hi : Th A K H1 v_kind t := ht.keep (KI.same (fr.s.trans e1))
    refine ⟨_, rfl, _, _, _, _, _, rfl, .own _, (hi.vt T).tyx, kit_isaO (hi.vt T).tag (T.kco .nothing), ?_⟩
    have hb : t.way = isa (t.tag A) (.ref (A.kc .nothing)) := by unfold Td.way; rw [g1, Bool.false_or]; exact (isa_kc T t .nothing).symm
    rw [hb] at k
    refine ⟨_, _, _, rfl, tw, tn, _, vw.keep (KK.same (fr.s.trans e1)), vn.keep (KK.same (fr.s.trans e1)), sw, sn, rfl, inner_go (fr.s.trans e1) k fun ce k => ?_⟩
    obtain ⟨ew, en, et⟩ := chk_none ce
    have q : t = .k t.kd := kd_of (of_decide_eq_true ((isa_kc T t .nothing).symm.trans et))
    replace et := hb.trans et
    rw [q] at ht et
    replace fr := fr.go e1
    obtain ⟨dx, hx⟩ := fr.at'
    refine ⟨_, rfl, _, rfl, x, _, dx, _, rfl, hx, T.cl_Way, T.n_Way_word, Nat.lt_of_le_of_lt (Nat.le_refl 0 : _ ≤ 0) (by decide : 0 < 1000), ?_⟩
    refine ⟨_, rfl, _, rfl, x, _, dx, _, rfl, upd_same, T.cl_Way, T.n_Way_name, Nat.lt_of_le_of_lt (put_len (Nat.zero_le _) : _ ≤ 1) (by decide : 1 < 1000), ?_⟩
    refine ⟨_, rfl, _, rfl, x, _, dx, _, rfl, upd_same, T.cl_Way, T.n_Way_kind, Nat.lt_of_le_of_lt (put_len (put_len (Nat.zero_le _)) : _ ≤ 2) (by decide : 2 < 1000), ?_⟩
    refine k _ (same_put fr.no (same_put fr.no (same_put fr.no fr.s))) (.way (w := strOf v_word) (n := strOf v_name) ⟨dx, _, upd_same, ?_⟩ (KAt.keep (KI.same (same_put fr.no (same_put fr.no (same_put fr.no fr.s)))) ht) et)
    rw [← ew, ← en]
    exact put3 (show ¬ (Str.ofString "word") = Str.ofString "name" by decide +kernel) (show ¬ (Str.ofString "word") = Str.ofString "kind" by decide +kernel) (show ¬ (Str.ofString "name") = Str.ofString "kind" by decide +kernel)
theorem ok_Door___init__ (T : Txt K mg A) : FnOk P w K mg base (L2.CX P w) 4 A.f_Door___init__ A.d_Door___init__ ["self", "word", "name", "kind"] (sp_Door___init__ K A) := by
  refine T.F_Door___init__.okX sc_Door___init__ (fun vs H Q E h => sp4_len h) (fun cdv A0 outer s H vs Q E hr h => ?_)
  have nd := sc_Door___init__.nd
  refine ⟨_, (pss_cons (ps_expr (by exact (pe_callS (ok_check_inner T) (hr.mono (by decide)) (by rfl) T.mg_check_inner T.k_check_inner T.b_check_inner (fun σ => passAt (W := fun cls d _ H => E cls d H) (takes_of rfl rfl rfl rfl) σ) (by exact (pa_cons (pv 1) (pa_cons (pv 2) (pa_cons (pe_or (pe_cmpR op_isN (pv 3) pe_non (nomark _)) (pe_or (pe_call (ok_is_simple T) (hr.mono (by decide)) (by rfl) T.mg_is_simple T.k_is_simple T.b_is_simple .nil pass0 (pa_cons (pv 3) pa_nil)) (pe_one (pe_callB call_isi (by rfl) T.b_isinstance (by decide +kernel) (pa_cons (pv 3) (pa_cons (pe_glob (v := .ref A.c_Nothing) (by rfl) T.mg_Nothing rfl) pa_nil)))))) pa_nil)))))))
      (pss_cons (ps_fld (pv 0) (pv 1) rfl)
      (pss_cons (ps_fld (pv 0) (pv 2) rfl)
      (pss_one (ps_fld (pv 0) (pv 3) rfl))))), ?_⟩
  clear nd hr
  replace h := sp4_of h
  obtain ⟨v_self, v_word, v_name, v_kind, rfl, h⟩ := h

  obtain ⟨H0, x, tw, tn, t, rfl, fr, vw, vn, sw, sn, ht, k⟩ := h
  refine ⟨_, rfl, _, rfl, _, rfl, rfl, _, rfl, iteB (fun g0 => ?_) (fun g0 => ?_)⟩
  · have hb : t.door = true := by unfold Td.door; rw [← th_non ht, g0]; rfl
    have q : t = .k t.kd := by
      have z : t.isNone = true := (th_non ht).symm.trans g0
      cases t with
      | k d => rfl
      | raw n => cases z
    rw [q] at ht k hb
    rw [hb] at k
    refine ⟨_, _, _, rfl, tw, tn, _, vw.keep (KK.same fr.s), vn.keep (KK.same fr.s), sw, sn, rfl, inner_go fr.s k fun ce k => ?_⟩
    obtain ⟨ew, en, et⟩ := chk_none ce
    replace et := hb.trans et
    replace fr := fr.go (fun _ _ z => z)
    obtain ⟨dx, hx⟩ := fr.at'
    refine ⟨_, rfl, _, rfl, x, _, dx, _, rfl, hx, T.cl_Door, T.n_Door_word, Nat.lt_of_le_of_lt (Nat.le_refl 0 : _ ≤ 0) (by decide : 0 < 1000), ?_⟩
    refine ⟨_, rfl, _, rfl, x, _, dx, _, rfl, upd_same, T.cl_Door, T.n_Door_name, Nat.lt_of_le_of_lt (put_len (Nat.zero_le _) : _ ≤ 1) (by decide : 1 < 1000), ?_⟩
    refine ⟨_, rfl, _, rfl, x, _, dx, _, rfl, upd_same, T.cl_Door, T.n_Door_kind, Nat.lt_of_le_of_lt (put_len (put_len (Nat.zero_le _)) : _ ≤ 2) (by decide : 2 < 1000), ?_⟩
    refine k _ (same_put fr.no (same_put fr.no (same_put fr.no fr.s))) (.door (w := strOf v_word) (n := strOf v_name) ⟨dx, _, upd_same, ?_⟩ (KAt.keep (KI.same (same_put fr.no (same_put fr.no (same_put fr.no fr.s)))) ht) et)
    rw [← ew, ← en]
    exact put3 (show ¬ (Str.ofString "word") = Str.ofString "name" by decide +kernel) (show ¬ (Str.ofString "word") = Str.ofString "kind" by decide +kernel) (show ¬ (Str.ofString "name") = Str.ofString "kind" by decide +kernel)
  have g0' : t.isNone = false := (th_non ht).symm.trans g0
  refine ⟨_, rfl, _, rfl, t, ht.keep (KI.same fr.s), fun H1 e1 => ⟨_, rfl, iteB (fun g1 => ?_) (fun g1 => ?_)⟩⟩
  · have hb : t.door = true := by unfold Td.door; rw [g0', g1]; rfl
    have q := any_kd g1
    rw [q] at ht k hb
    rw [hb] at k
    refine ⟨_, _, _, rfl, tw, tn, _, vw.keep (KK.same (fr.s.trans e1)), vn.keep (KK.same (fr.s.trans e1)), sw, sn, rfl, inner_go (fr.s.trans e1) k fun ce k => ?_⟩
    obtain ⟨ew, en, et⟩ := chk_none ce
    replace et := hb.trans et
    replace fr := fr.go e1
    obtain ⟨dx, hx⟩ := fr.at'
    refine ⟨_, rfl, _, rfl, x, _, dx, _, rfl, hx, T.cl_Door, T.n_Door_word, Nat.lt_of_le_of_lt (Nat.le_refl 0 : _ ≤ 0) (by decide : 0 < 1000), ?_⟩
    refine ⟨_, rfl, _, rfl, x, _, dx, _, rfl, upd_same, T.cl_Door, T.n_Door_name, Nat.lt_of_le_of_lt (put_len (Nat.zero_le _) : _ ≤ 1) (by decide : 1 < 1000), ?_⟩
    refine ⟨_, rfl, _, rfl, x, _, dx, _, rfl, upd_same, T.cl_Door, T.n_Door_kind, Nat.lt_of_le_of_lt (put_len (put_len (Nat.zero_le _)) : _ ≤ 2) (by decide : 2 < 1000), ?_⟩
    refine k _ (same_put fr.no (same_put fr.no (same_put fr.no fr.s))) (.door (w := strOf v_word) (n := strOf v_name) ⟨dx, _, upd_same, ?_⟩ (KAt.keep (KI.same (same_put fr.no (same_put fr.no (same_put fr.no fr.s)))) ht) et)
    rw [← ew, ← en]
    exact put3 (show ¬ (Str.ofString "word") = Str.ofString "name" by decide +kernel) (show ¬ (Str.ofString "word") = Str.ofString "kind" by decide +kernel) (show ¬ (Str.ofString "name") = Str.ofString "kind" by decide +kernel)
  · have hi : Th A K H1 v_kind t := ht.keep (KI.same (fr.s.trans e1))
    refine ⟨_, rfl, _, _, _, _, _, rfl, .own _, (hi.vt T).tyx, kit_isaO (hi.vt T).tag (T.kco .nothing), ?_⟩
    have hb : t.door = isa (t.tag A) (.ref (A.kc .nothing)) := by unfold Td.door; rw [g0', g1, Bool.false_or, Bool.false_or]; exact (isa_kc T t .nothing).symm
    rw [hb] at k
    refine ⟨_, _, _, rfl, tw, tn, _, vw.keep (KK.same (fr.s.trans e1)), vn.keep (KK.same (fr.s.trans e1)), sw, sn, rfl, inner_go (fr.s.trans e1) k fun ce k => ?_⟩
    obtain ⟨ew, en, et⟩ := chk_none ce
    have q : t = .k t.kd := kd_of (of_decide_eq_true ((isa_kc T t .nothing).symm.trans et))
    replace et := hb.trans et
    rw [q] at ht et
    replace fr := fr.go e1
    obtain ⟨dx, hx⟩ := fr.at'
    refine ⟨_, rfl, _, rfl, x, _, dx, _, rfl, hx, T.cl_Door, T.n_Door_word, Nat.lt_of_le_of_lt (Nat.le_refl 0 : _ ≤ 0) (by decide : 0 < 1000), ?_⟩
    refine ⟨_, rfl, _, rfl, x, _, dx, _, rfl, upd_same, T.cl_Door, T.n_Door_name, Nat.lt_of_le_of_lt (put_len (Nat.zero_le _) : _ ≤ 1) (by decide : 1 < 1000), ?_⟩
    refine ⟨_, rfl, _, rfl, x, _, dx, _, rfl, upd_same, T.cl_Door, T.n_Door_kind, Nat.lt_of_le_of_lt (put_len (put_len (Nat.zero_le _)) : _ ≤ 2) (by decide : 2 < 1000), ?_⟩
    refine k _ (same_put fr.no (same_put fr.no (same_put fr.no fr.s))) (.door (w := strOf v_word) (n := strOf v_name) ⟨dx, _, upd_same, ?_⟩ (KAt.keep (KI.same (same_put fr.no (same_put fr.no (same_put fr.no fr.s)))) ht) et)
    rw [← ew, ← en]
    exact put3 (show ¬ (Str.ofString "word") = Str.ofString "name" by decide +kernel) (show ¬ (Str.ofString "word") = Str.ofString "kind" by decide +kernel) (show ¬ (Str.ofString "name") = Str.ofString "kind" by decide +kernel)
theorem ok_are_ways (T : Txt K mg A) : FnOk P w K mg base CX0 2 A.f_are_ways A.d_are_ways ["ways"] (sp_are_ways K A) := by
  refine T.F_are_ways.ok sc_are_ways (fun vs H Q E h => sp1_len h) (fun cdv A0 outer s H vs Q E hr h => ?_)
  have nd := sc_are_ways.nd
  refine ⟨_, (pss_cons (ps_if (PW.pt (pw_or (pt_not (pt_val (pe_callB call_isiT (by rfl) T.b_isinstance (by decide +kernel) (pa_cons (pv 0) (pa_cons (pe_tup (pa_cons (pe_bltn (v := .ty "list") (by rfl) T.b_list (by decide +kernel) rfl) (pa_cons (pe_bltn (v := .ty "tuple") (by rfl) T.b_tuple (by decide +kernel) rfl) pa_nil))) pa_nil))))) (pw_or (pt_cmpR op_lt (pe_callB call_len (by rfl) T.b_len (by decide +kernel) (pa_cons (pv 0) pa_nil)) pe_int (nomark _)) (pw_or1 (pt_cmpR op_gt (pe_callB call_len (by rfl) T.b_len (by decide +kernel) (pa_cons (pv 0) pa_nil)) pe_int (nomark _)))))) (pss_one (ps_ret pe_bl)) pss_nil)
      (pss_cons (ps_set (i := 1) nd rfl (by first | exact Or.inl rfl | exact Or.inr rfl) pe_int)
      (pss_cons (ps_for PassesOwn.never rfl (pi_enumA (by rfl) T.b_enumerate (pa_cons (pv 0) pa_nil)) (pg_tup (by rfl) (pgs_cons (pg_name (i := 2) nd rfl (by first | exact Or.inl rfl | exact Or.inr rfl)) (pgs_cons (pg_name (i := 3) nd rfl (by first | exact Or.inl rfl | exact Or.inr rfl)) pgs_nil))) (pss_cons (ps_if (pt_not (pt_val (pe_callB call_isiT (by rfl) T.b_isinstance (by decide +kernel) (pa_cons (pv 3) (pa_cons (pe_tup (pa_cons (pe_glob (v := .ref A.c_Way) (by rfl) T.mg_Way rfl) (pa_cons (pe_glob (v := .ref A.c_Door) (by rfl) T.mg_Door rfl) pa_nil))) pa_nil))))) (pss_one (ps_ret pe_bl)) pss_nil)
      (Evl.pss_cut (ps_if (pt_val (pe_callB call_isi (by rfl) T.b_isinstance (by decide +kernel) (pa_cons (pv 3) (pa_cons (pe_glob (v := .ref A.c_Way) (by rfl) T.mg_Way rfl) pa_nil)))) (pss_one (ps_aug (i := 1) nd rfl (by first | exact Or.inl rfl | exact Or.inr rfl) pe_int ip_add)) pss_nil)
      (pss_one (ps_for PassesOwn.never rfl (pi_or (pi_list (pe_slice sl_list (pv 0) po_none (po_some (pv 2)))) (pi_tup (pe_slice sl_tupA (pv 0) po_none (po_some (pv 2))))) (pg_name (i := 4) nd rfl (by first | exact Or.inl rfl | exact Or.inr rfl)) (pss_one (ps_if (PW.pt (pw_or (pt_val (pe_call (ok_begins T) (hr.mono (by decide)) (by rfl) T.mg_begins T.k_begins T.b_begins .nil pass0 (pa_cons (pe_fld (pv 3) rfl) (pa_cons (pe_fld (pv 4) rfl) pa_nil)))) (pw_or1 (pt_cmpR op_eq (pe_fld (pv 3) rfl) (pe_fld (pv 4) rfl) (nomark _))))) (pss_one (ps_ret pe_bl)) pss_nil)))))))
      (pss_one (ps_ret (pe_cmpR op_gt (pv 1) pe_int (nomark _))))))), ?_⟩
  clear nd hr
  replace h := sp1_of h
  obtain ⟨v_ways, rfl, h⟩ := h

  obtain ⟨o, hs, k⟩ := h
  have hv : ∃ t, VT K H v_ways t ∧ (isa t (.type "list") || (isa t (.type "tuple") || false)) = o.isSome := by
    cases hs with
    | lst e _ _ => exact ⟨_, .lst e, by rw [isa_self]; rfl⟩
    | tup e _ _ => exact ⟨_, .tup e, by rw [isa_self, isa_not (by decide) (by decide)]; rfl⟩
    | no h n1 n2 => exact ⟨_, h, by rw [isa_not n1 (by decide), isa_not n2 (by decide)]; rfl⟩
  obtain ⟨tv, hv, hb⟩ := hv
  refine ⟨_, rfl, (by show 2 ≤ sizeLine; rw [sizeLine_eq]; decide), fun p hp => ⟨_, p, _, _, _, _, rfl, upd_same, .cons (.ty _) (.cons (.ty _) .nil), (hv.keep (KK.new hp)).tyx, any_lt hv, _, rfl, iteB (fun h1 => iteY ?_) (fun h1 => ?_)⟩⟩
  · have e : o = none := by
      have z := not_t h1
      rw [hb] at z
      cases o <;> first | rfl | cases z
    subst e
    exact k _ (same_new hp)
  refine heap_gen2 (fun H1 => Same H H1) (same_new hp (o := .tup [V.ty "list", V.ty "tuple"])) fun H1 e1 => ?_
  cases hs with
  | no h n1 n2 =>
    have z := not_f h1
    rw [hb] at z
    cases z
  | @lst a vs ts ea hp2 hl =>
    replace hp2 := ths_keep (KI.same e1) hp2
    replace ea := e1 _ _ ea
    have hlen := paired_len hp2
    refine ⟨_, rfl, _, _, rfl, .inl ⟨_, SqL.of ea, rfl⟩, _, _, rfl, rfl, _, rfl, iteB (fun h2 => iteY ?_) (fun h2 => ?_)⟩
    · have z : okSeq okWays (some ts) = false := by
        show okWays ts = false
        have := of_decide_eq_true h2
        simp only [okWays, decide_eq_false (show ¬ 1 ≤ ts.length by omega), Bool.false_and]
      rw [z] at k
      exact k _ e1
    refine ⟨_, rfl, _, _, rfl, .inl ⟨_, SqL.of ea, rfl⟩, _, _, rfl, rfl, _, rfl, iteB (fun h3 => ?_) (fun h3 => ?_)⟩
    · have z : okSeq okWays (some ts) = false := by
        show okWays ts = false
        have := of_decide_eq_true h3
        simp only [okWays, decide_eq_false (show ¬ ts.length ≤ 12 by omega), Bool.false_and, Bool.and_false]
      rw [z] at k
      exact k _ e1
    have l1 : 1 ≤ ts.length := by have := of_decide_eq_false h2; omega
    have l2 : ts.length ≤ 12 := by have := of_decide_eq_false h3; omega
    have bad : goodW [] ts = false → ∀ H2, Same H H2 → Q (.bl false) H2 := fun g H2 e2 => by
      have z : okSeq okWays (some ts) = false := by
        show okWays ts = false
        simp only [okWays, g, Bool.false_and, Bool.and_false]
      rw [z] at k
      exact k H2 e2
    refine ⟨_, rfl, a, vs, rfl, .inl ⟨SqL.of ea, for_it walk_enum (fun i σ' H' => ∃ (n : Int) (a1 a2 a3 : Option V), σ' = [some (.ref a), some (.int n), a1, a2, a3] ∧ Same H1 H' ∧ goodW [] (ts.take i) = true ∧ 0 ≤ n ∧ decide (0 < n) = (ts.take i).any fun t => decide (t.cls = some .way)) ⟨0, _, _, _, rfl, fun _ _ z => z, rfl, by decide, rfl⟩ (fun i σ' H' _ ⟨_, _, _, _, _, e2, _⟩ => SqL.of (e2 _ _ ea)) ?_ ?_⟩⟩
    · rintro i x σ' H' H'' hi ⟨n, a1, a2, a3, rfl, e2, g, hn, hw⟩ ⟨T1, u, z, rfl, hT, rfl, hu, hz⟩
      have hu2 := Option.some.inj hu
      subst hu2
      obtain ⟨t, ht, hx⟩ := paired_at hp2 hz
      have e3 : Same H1 (upd H' T1 (.tup [.int (i : Nat), z])) := e2.trans (same_new hT)
      refine ⟨T1, _, rfl, SqT.of upd_same, rfl, ?_⟩
      refine heap_gen2 (fun H3 => Same H1 H3) e3 fun H3 e3 => ?_
      refine ⟨_, _, rfl, _, _, rfl, rfl, ?_⟩
      have hx3 := hx.keep (KI.same e3)
      refine ⟨_, rfl, (by show 2 ≤ sizeLine; rw [sizeLine_eq]; decide), fun p4 hp4 => ⟨_, p4, _, _, _, _, rfl, upd_same, .cons (.own _) (.cons (.own _) .nil), ((hx3.keep (KI.new hp4)).vt T).tyx, any_kc T hx3 [.way, .door], _, rfl, iteB (fun g1 => ?_) (fun g1 => ?_)⟩⟩
      · exact bad (goodW_bad ht (not_t g1)) _ (e1.trans (e3.trans (same_new hp4)))
      have tw : t.wd = true := not_f g1
      refine heap_gen (fun H4 => Same H1 H4) (e3.trans (same_new hp4 (o := .tup [V.ref (A.kc .way), V.ref (A.kc .door)]))) fun H4 e4 => ?_
      have hx4 := hx.keep (KI.same e4)
      refine ⟨fun σ' H' => ∃ (n : Int) (a1 : Option V), σ' = [some (.ref a), some (.int n), some (.int (i : Nat)), some z, a1] ∧ H' = H4 ∧ 0 ≤ n ∧ decide (0 < n) = (ts.take (i + 1)).any fun t => decide (t.cls = some .way), ?_, ?_⟩
      · refine ⟨_, rfl, _, _, _, _, _, rfl, .own _, (hx4.vt T).tyx, kit_isaO (hx4.vt T).tag (T.kco .way), _, rfl, iteB (fun g2 => ?_) (fun g2 => ?_)⟩
        · refine ⟨_, rfl, _, _, rfl, rfl, n + 1, _, rfl, rfl, by omega, ?_⟩
          have q := isa_cls (c := .way) T g2
          rw [take_one ht, List.any_append, decide_eq_true (show 0 < n + 1 by omega), show ([t].any fun t => decide (t.cls = some Kc.way)) = true by simp only [List.any_cons, q]; rfl, Bool.or_true]
        · refine ⟨n, _, rfl, rfl, hn, ?_⟩
          have q := isa_cls (c := .way) T g2
          rw [take_one ht, List.any_append, hw, show ([t].any fun t => decide (t.cls = some Kc.way)) = false by simp only [List.any_cons, q]; rfl, Bool.or_false]
      rintro σ' H' ⟨n2, a4, rfl, rfl, hn2, hw2⟩
      refine .inl ⟨_, rfl, _, rfl, _, rfl, a, vs, rfl, SqL.of (e4 _ _ ea), fun q hq => ?_⟩
      rw [cut_to]
      have e5 : Same H1 (upd H' q (.lst (vs.take i))) := e4.trans (same_new hq)
      refine ⟨q, rfl, ⟨_, SqL.of upd_same⟩, ?_⟩
      have sq : SqL K (upd H' q (.lst (vs.take i))) q (vs.take i) := SqL.of upd_same
      generalize upd H' q (.lst (vs.take i)) = H5 at e5 sq ⊢
      refine for_it (walk_list (xs := vs.take i)) (fun j σ' H' => ∃ (a3 : Option V), σ' = [some (.ref a), some (.int n2), some (.int (i : Nat)), some z, a3] ∧ H' = H5 ∧ ((ts.take i).take j).all (fun o => !(pre2 t.word o.word) && !decide (t.name = o.name)) = true) ⟨_, rfl, rfl, rfl⟩ (fun j σ' H' _ ⟨_, _, e, _⟩ => by rw [e]; exact sq) ?_ ?_
      · rintro j y σ' H' H9 _ ⟨a5, rfl, rfl, hall⟩ ⟨rfl, hj⟩
        have hj2 : vs[j]? = some y ∧ j < i := by
          rw [List.getElem?_take] at hj
          by_cases c : j < i
          · rw [if_pos c] at hj; exact ⟨hj, c⟩
          · rw [if_neg c] at hj; cases hj
        obtain ⟨o, ho, hy⟩ := paired_at hp2 hj2.1
        have ho2 : (ts.take i)[j]? = some o := by rw [List.getElem?_take, if_pos hj2.2]; exact ho
        have ow : o.wd = true := goodW_wd g o (List.mem_of_getElem? ho2)
        obtain ⟨xa, xC, xd, xf, rfl, x1, x2, x3, x4, x5, x6⟩ := wd_fld T (hx.keep (KI.same e5)) tw
        obtain ⟨ya, yC, yd, yf, rfl, y1, y2, y3, y4, y5, y6⟩ := wd_fld T (hy.keep (KI.same e5)) ow
        refine ⟨_, rfl, xa, xC, xd, xf, _, rfl, x1, x2, x3, x5, _, rfl, ya, yC, yd, yf, _, rfl, y1, y2, y3, y5, _, _, rfl, _, _, rfl, rfl, _, rfl, iteB (fun g3 => iteY ?_) (fun g3 => ?_)⟩
        · exact bad (goodW_bad2 ht (all_bad ho2 (by rw [g3]; rfl))) _ (e1.trans e5)
        refine ⟨_, rfl, xa, xC, xd, xf, _, rfl, x1, x2, x4, x6, _, rfl, ya, yC, yd, yf, _, rfl, y1, y2, y4, y6, rfl, _, rfl, iteB (fun g4 => ?_) (fun g4 => ?_)⟩
        · rw [dS] at g4
          exact bad (goodW_bad2 ht (all_bad ho2 (by rw [g4, g3]; rfl))) _ (e1.trans e5)
        · rw [dS] at g4
          exact ⟨_, rfl, rfl, all_step hall ho2 (by rw [g4, g3]; rfl)⟩
      · rintro σ' H' ⟨a6, rfl, rfl, hall⟩
        have hlt : (vs.take i).length = (ts.take i).length := by rw [List.length_take, List.length_take, hlen]
        rw [hlt, List.take_length] at hall
        exact ⟨n2, _, _, _, rfl, e5, goodW_step ht g tw hall, hn2, hw2⟩
    · rintro σ' H' ⟨n, a1, a2, a3, rfl, e2, g, hn, hw⟩
      rw [hlen, List.take_length] at g hw
      refine ⟨_, rfl, _, _, rfl, rfl, ?_⟩
      have z : okSeq okWays (some ts) = decide (0 < n) := by
        show okWays ts = _
        simp only [okWays, g, decide_eq_true l1, decide_eq_true l2, Bool.true_and, hw]
      rw [z] at k
      exact k _ (e1.trans e2)
  | @tup a vs ts ea hp2 hl =>
    replace hp2 := ths_keep (KI.same e1) hp2
    replace ea := e1 _ _ ea
    have hlen := paired_len hp2
    refine ⟨_, rfl, _, _, rfl, .inr ⟨_, SqT.of ea, rfl⟩, _, _, rfl, rfl, _, rfl, iteB (fun h2 => iteY ?_) (fun h2 => ?_)⟩
    · have z : okSeq okWays (some ts) = false := by
        show okWays ts = false
        have := of_decide_eq_true h2
        simp only [okWays, decide_eq_false (show ¬ 1 ≤ ts.length by omega), Bool.false_and]
      rw [z] at k
      exact k _ e1
    refine ⟨_, rfl, _, _, rfl, .inr ⟨_, SqT.of ea, rfl⟩, _, _, rfl, rfl, _, rfl, iteB (fun h3 => ?_) (fun h3 => ?_)⟩
    · have z : okSeq okWays (some ts) = false := by
        show okWays ts = false
        have := of_decide_eq_true h3
        simp only [okWays, decide_eq_false (show ¬ ts.length ≤ 12 by omega), Bool.false_and, Bool.and_false]
      rw [z] at k
      exact k _ e1
    have l1 : 1 ≤ ts.length := by have := of_decide_eq_false h2; omega
    have l2 : ts.length ≤ 12 := by have := of_decide_eq_false h3; omega
    have bad : goodW [] ts = false → ∀ H2, Same H H2 → Q (.bl false) H2 := fun g H2 e2 => by
      have z : okSeq okWays (some ts) = false := by
        show okWays ts = false
        simp only [okWays, g, Bool.false_and, Bool.and_false]
      rw [z] at k
      exact k H2 e2
    refine ⟨_, rfl, a, vs, rfl, .inr ⟨SqT.of ea, for_it walk_enumT (fun i σ' H' => ∃ (n : Int) (a1 a2 a3 : Option V), σ' = [some (.ref a), some (.int n), a1, a2, a3] ∧ Same H1 H' ∧ goodW [] (ts.take i) = true ∧ 0 ≤ n ∧ decide (0 < n) = (ts.take i).any fun t => decide (t.cls = some .way)) ⟨0, _, _, _, rfl, fun _ _ z => z, rfl, by decide, rfl⟩ (fun i σ' H' _ ⟨_, _, _, _, _, e2, _⟩ => SqT.of (e2 _ _ ea)) ?_ ?_⟩⟩
    · rintro i x σ' H' H'' hi ⟨n, a1, a2, a3, rfl, e2, g, hn, hw⟩ ⟨T1, u, z, rfl, hT, rfl, hu, hz⟩
      have hu2 := Option.some.inj hu
      subst hu2
      obtain ⟨t, ht, hx⟩ := paired_at hp2 hz
      have e3 : Same H1 (upd H' T1 (.tup [.int (i : Nat), z])) := e2.trans (same_new hT)
      refine ⟨T1, _, rfl, SqT.of upd_same, rfl, ?_⟩
      refine heap_gen2 (fun H3 => Same H1 H3) e3 fun H3 e3 => ?_
      refine ⟨_, _, rfl, _, _, rfl, rfl, ?_⟩
      have hx3 := hx.keep (KI.same e3)
      refine ⟨_, rfl, (by show 2 ≤ sizeLine; rw [sizeLine_eq]; decide), fun p4 hp4 => ⟨_, p4, _, _, _, _, rfl, upd_same, .cons (.own _) (.cons (.own _) .nil), ((hx3.keep (KI.new hp4)).vt T).tyx, any_kc T hx3 [.way, .door], _, rfl, iteB (fun g1 => ?_) (fun g1 => ?_)⟩⟩
      · exact bad (goodW_bad ht (not_t g1)) _ (e1.trans (e3.trans (same_new hp4)))
      have tw : t.wd = true := not_f g1
      refine heap_gen (fun H4 => Same H1 H4) (e3.trans (same_new hp4 (o := .tup [V.ref (A.kc .way), V.ref (A.kc .door)]))) fun H4 e4 => ?_
      have hx4 := hx.keep (KI.same e4)
      refine ⟨fun σ' H' => ∃ (n : Int) (a1 : Option V), σ' = [some (.ref a), some (.int n), some (.int (i : Nat)), some z, a1] ∧ H' = H4 ∧ 0 ≤ n ∧ decide (0 < n) = (ts.take (i + 1)).any fun t => decide (t.cls = some .way), ?_, ?_⟩
      · refine ⟨_, rfl, _, _, _, _, _, rfl, .own _, (hx4.vt T).tyx, kit_isaO (hx4.vt T).tag (T.kco .way), _, rfl, iteB (fun g2 => ?_) (fun g2 => ?_)⟩
        · refine ⟨_, rfl, _, _, rfl, rfl, n + 1, _, rfl, rfl, by omega, ?_⟩
          have q := isa_cls (c := .way) T g2
          rw [take_one ht, List.any_append, decide_eq_true (show 0 < n + 1 by omega), show ([t].any fun t => decide (t.cls = some Kc.way)) = true by simp only [List.any_cons, q]; rfl, Bool.or_true]
        · refine ⟨n, _, rfl, rfl, hn, ?_⟩
          have q := isa_cls (c := .way) T g2
          rw [take_one ht, List.any_append, hw, show ([t].any fun t => decide (t.cls = some Kc.way)) = false by simp only [List.any_cons, q]; rfl, Bool.or_false]
      rintro σ' H' ⟨n2, a4, rfl, rfl, hn2, hw2⟩
      refine .inr ⟨_, rfl, _, rfl, _, rfl, a, vs, rfl, SqT.of (e4 _ _ ea), fun w => absurd w (cut_tup hi), fun _ q hq => ?_⟩
      rw [cut_to]
      have e5 : Same H1 (upd H' q (.tup (vs.take i))) := e4.trans (same_new hq)
      refine ⟨q, rfl, ⟨_, SqT.of upd_same⟩, ?_⟩
      have sq : SqT K (upd H' q (.tup (vs.take i))) q (vs.take i) := SqT.of upd_same
      generalize upd H' q (.tup (vs.take i)) = H5 at e5 sq ⊢
      refine for_it (walk_tup (xs := vs.take i)) (fun j σ' H' => ∃ (a3 : Option V), σ' = [some (.ref a), some (.int n2), some (.int (i : Nat)), some z, a3] ∧ H' = H5 ∧ ((ts.take i).take j).all (fun o => !(pre2 t.word o.word) && !decide (t.name = o.name)) = true) ⟨_, rfl, rfl, rfl⟩ (fun j σ' H' _ ⟨_, _, e, _⟩ => by rw [e]; exact sq) ?_ ?_
      · rintro j y σ' H' H9 _ ⟨a5, rfl, rfl, hall⟩ ⟨rfl, hj⟩
        have hj2 : vs[j]? = some y ∧ j < i := by
          rw [List.getElem?_take] at hj
          by_cases c : j < i
          · rw [if_pos c] at hj; exact ⟨hj, c⟩
          · rw [if_neg c] at hj; cases hj
        obtain ⟨o, ho, hy⟩ := paired_at hp2 hj2.1
        have ho2 : (ts.take i)[j]? = some o := by rw [List.getElem?_take, if_pos hj2.2]; exact ho
        have ow : o.wd = true := goodW_wd g o (List.mem_of_getElem? ho2)
        obtain ⟨xa, xC, xd, xf, rfl, x1, x2, x3, x4, x5, x6⟩ := wd_fld T (hx.keep (KI.same e5)) tw
        obtain ⟨ya, yC, yd, yf, rfl, y1, y2, y3, y4, y5, y6⟩ := wd_fld T (hy.keep (KI.same e5)) ow
        refine ⟨_, rfl, xa, xC, xd, xf, _, rfl, x1, x2, x3, x5, _, rfl, ya, yC, yd, yf, _, rfl, y1, y2, y3, y5, _, _, rfl, _, _, rfl, rfl, _, rfl, iteB (fun g3 => iteY ?_) (fun g3 => ?_)⟩
        · exact bad (goodW_bad2 ht (all_bad ho2 (by rw [g3]; rfl))) _ (e1.trans e5)
        refine ⟨_, rfl, xa, xC, xd, xf, _, rfl, x1, x2, x4, x6, _, rfl, ya, yC, yd, yf, _, rfl, y1, y2, y4, y6, rfl, _, rfl, iteB (fun g4 => ?_) (fun g4 => ?_)⟩
        · rw [dS] at g4
          exact bad (goodW_bad2 ht (all_bad ho2 (by rw [g4, g3]; rfl))) _ (e1.trans e5)
        · rw [dS] at g4
          exact ⟨_, rfl, rfl, all_step hall ho2 (by rw [g4, g3]; rfl)⟩
      · rintro σ' H' ⟨a6, rfl, rfl, hall⟩
        have hlt : (vs.take i).length = (ts.take i).length := by rw [List.length_take, List.length_take, hlen]
        rw [hlt, List.take_length] at hall
        exact ⟨n2, _, _, _, rfl, e5, goodW_step ht g tw hall, hn2, hw2⟩
    · rintro σ' H' ⟨n, a1, a2, a3, rfl, e2, g, hn, hw⟩
      rw [hlen, List.take_length] at g hw
      refine ⟨_, rfl, _, _, rfl, rfl, ?_⟩
      have z : okSeq okWays (some ts) = decide (0 < n) := by
        show okWays ts = _
        simp only [okWays, g, decide_eq_true l1, decide_eq_true l2, Bool.true_and, hw]
      rw [z] at k
      exact k _ (e1.trans e2)
theorem ok_Choice___init__ (T : Txt K mg A) : FnOk P w K mg base (L2.CX P w) 3 A.f_Choice___init__ A.d_Choice___init__ ["self", "ways"] (sp_Choice___init__ K A) := by
  refine T.F_Choice___init__.okX sc_Choice___init__ (fun vs H Q E h => sp2_len h) (fun cdv A0 outer s H vs Q E hr h => ?_)
  have nd := sc_Choice___init__.nd
  refine ⟨_, (pss_cons (ps_if (pt_not (pt_val (pe_call (ok_are_ways T) (hr.mono (by decide)) (by rfl) T.mg_are_ways T.k_are_ways T.b_are_ways .nil pass0 (pa_cons (pv 1) pa_nil)))) (pss_one (ps_raise rfl (takes_of rfl rfl rfl rfl) (pmk_oex T.oex_BadKind T.ix_BadKind T.tx_BadKind (ok_BadKind___init__ T) (hr.mono (by decide)) T.b_BadKind___init__ .nil pass0 (by rfl) T.mg_BadKind (pa_cons pe_str pa_nil)))) pss_nil)
      (pss_one (ps_fld (pv 0) (pe_callTy call_tuple_of (by rfl) T.b_tuple (by decide +kernel) (pa_cons (pv 1) pa_nil)) rfl))), ?_⟩
  clear nd hr
  replace h := sp2_of h
  obtain ⟨v_self, v_ways, rfl, h⟩ := h

  obtain ⟨H0, x, o, rfl, fr, hs, k⟩ := h
  refine ⟨_, rfl, _, rfl, o, hs.keep fr.s, fun H1 e1 => ⟨_, rfl, iteB (fun h1 => ?_) (fun h1 => ?_)⟩⟩
  · rw [show mkSeq .choice okWays "ways" o = .error "ways" by
      have z := not_t h1
      cases o with
      | none => rfl
      | some ts => exact if_pos z] at k
    exact raise_bad (fr.s.trans e1) k
  replace h1 := not_f h1
  cases hs with
  | no _ _ _ => cases h1
  | @lst a vs ts ea hp hl =>
    have z : okWays ts = true := h1
    rw [show mkSeq .choice okWays "ways" (some ts) = .ok (.choice (ts.map Td.kd)) from if_neg (by rw [z]; decide)] at k
    replace fr := fr.go e1
    obtain ⟨dx, hx⟩ := fr.at'
    refine ⟨_, rfl, a, vs, rfl, .inl ⟨SqL.of (fr.s _ _ ea), fun q hq => ?_⟩⟩
    have nq : q ≠ x := fun z => by rw [z, hx] at hq; cases hq
    refine ⟨_, rfl, x, _, dx, _, rfl, (by rw [upd_ne nq.symm]; exact hx), T.cl_Choice, T.n_Choice_ways, Nat.lt_of_le_of_lt (Nat.le_refl 0 : _ ≤ 0) (by decide : 0 < 1000), ?_⟩
    have e4 : ∀ o, Same H0 (upd (upd H1 q (.tup vs)) x o) := fun o => same_put fr.no (fr.s.trans (same_new hq))
    have gw := goodW_wd (okWays_good z)
    refine k _ (e4 _) (.choice ⟨dx, _, upd_same, put1⟩ (by rw [upd_ne nq]; exact upd_same) (KAts.keep (KI.same (e4 _)) (kats_of hp fun t ht => any_kd (gw t ht))) ?_)
    intro y hy
    obtain ⟨t, ht, rfl⟩ := List.mem_map.mp hy
    have q2 := any_kd (gw t ht)
    rw [← q2]
    exact gw t ht
  | @tup a vs ts ea hp hl =>
    have z : okWays ts = true := h1
    rw [show mkSeq .choice okWays "ways" (some ts) = .ok (.choice (ts.map Td.kd)) from if_neg (by rw [z]; decide)] at k
    replace fr := fr.go e1
    obtain ⟨dx, hx⟩ := fr.at'
    refine ⟨_, rfl, a, vs, rfl, .inr ⟨SqT.of (fr.s _ _ ea), ?_⟩⟩
    have nq : a ≠ x := fun z => by rw [z, fr.no] at ea; cases ea
    refine ⟨_, rfl, x, _, dx, _, rfl, hx, T.cl_Choice, T.n_Choice_ways, Nat.lt_of_le_of_lt (Nat.le_refl 0 : _ ≤ 0) (by decide : 0 < 1000), ?_⟩
    have e4 : ∀ o, Same H0 (upd H1 x o) := fun o => same_put fr.no fr.s
    have gw := goodW_wd (okWays_good z)
    refine k _ (e4 _) (.choice ⟨dx, _, upd_same, put1⟩ (by rw [upd_ne nq]; exact fr.s _ _ ea) (KAts.keep (KI.same (e4 _)) (kats_of hp fun t ht => any_kd (gw t ht))) ?_)
    intro y hy
    obtain ⟨t, ht, rfl⟩ := List.mem_map.mp hy
    have q2 := any_kd (gw t ht)
    rw [← q2]
    exact gw t ht
theorem ok_Part___init__ (T : Txt K mg A) : FnOk P w K mg base (L2.CX P w) 3 A.f_Part___init__ A.d_Part___init__ ["self", "name", "kind"] (sp_Part___init__ K A) := by
  refine T.F_Part___init__.okX sc_Part___init__ (fun vs H Q E h => sp3_len h) (fun cdv A0 outer s H vs Q E hr h => ?_)
  have nd := sc_Part___init__.nd
  refine ⟨_, (pss_cons (ps_if (pt_not (pt_val (pe_call (ok_is_name T) (hr.mono (by decide)) (by rfl) T.mg_is_name T.k_is_name T.b_is_name .nil pass0 (pa_cons (pv 1) pa_nil)))) (pss_one (ps_raise rfl (takes_of rfl rfl rfl rfl) (pmk_oex T.oex_BadKind T.ix_BadKind T.tx_BadKind (ok_BadKind___init__ T) (hr.mono (by decide)) T.b_BadKind___init__ .nil pass0 (by rfl) T.mg_BadKind (pa_cons pe_str pa_nil)))) pss_nil)
      (pss_cons (ps_if (pt_not (pt_val (pe_call (ok_is_simple T) (hr.mono (by decide)) (by rfl) T.mg_is_simple T.k_is_simple T.b_is_simple .nil pass0 (pa_cons (pv 2) pa_nil)))) (pss_one (ps_raise rfl (takes_of rfl rfl rfl rfl) (pmk_oex T.oex_BadKind T.ix_BadKind T.tx_BadKind (ok_BadKind___init__ T) (hr.mono (by decide)) T.b_BadKind___init__ .nil pass0 (by rfl) T.mg_BadKind (pa_cons pe_str pa_nil)))) pss_nil)
      (pss_cons (ps_fld (pv 0) (pv 1) rfl)
      (pss_one (ps_fld (pv 0) (pv 2) rfl))))), ?_⟩
  clear nd hr
  replace h := sp3_of h
  obtain ⟨v_self, v_name, v_kind, rfl, h⟩ := h

  obtain ⟨H0, x, tn, t, rfl, fr, vn, sn, ht, k⟩ := h
  replace vn := vn.keep (KK.same fr.s)
  refine ⟨_, rfl, _, rfl, tn, vn, sn, _, rfl, iteB (fun h1 => ?_) (fun h1 => ?_)⟩
  · rw [show mkPart v_name t = .error "name" from if_pos (not_t h1)] at k
    exact raise_bad fr.s k
  obtain ⟨z, rfl⟩ : ∃ z, v_name = .str z := by
    cases v_name <;> first | exact ⟨_, rfl⟩ | cases h1
  refine ⟨_, rfl, _, rfl, t, ht.keep (KI.same fr.s), fun H1 e1 => ⟨_, rfl, iteB (fun h2 => ?_) (fun h2 => ?_)⟩⟩
  · rw [show mkPart (.str z) t = .error "kind" from (if_neg (by rw [not_f h1]; decide)).trans (if_pos (not_t h2))] at k
    exact raise_bad (fr.s.trans e1) k
  have hi : t.simple = true := not_f h2
  rw [show mkPart (.str z) t = .ok (.part z t.kd) from (if_neg (by rw [not_f h1]; decide)).trans (if_neg (by rw [hi]; decide))] at k
  have q := any_kd hi
  rw [q] at ht hi
  replace fr := fr.go e1
  obtain ⟨dx, hx⟩ := fr.at'
  refine ⟨_, rfl, _, rfl, x, _, dx, _, rfl, hx, T.cl_Part, T.n_Part_name, Nat.lt_of_le_of_lt (Nat.le_refl 0 : _ ≤ 0) (by decide : 0 < 1000), ?_⟩
  refine ⟨_, rfl, _, rfl, x, _, dx, _, rfl, upd_same, T.cl_Part, T.n_Part_kind, Nat.lt_of_le_of_lt (put_len (Nat.zero_le _) : _ ≤ 1) (by decide : 1 < 1000), ?_⟩
  exact k _ (same_put fr.no (same_put fr.no fr.s)) (.part ⟨dx, _, upd_same, put2 (show ¬ (Str.ofString "name") = Str.ofString "kind" by decide +kernel)⟩ (KAt.keep (KI.same (same_put fr.no (same_put fr.no fr.s))) ht) hi)
theorem ok_Room___init__ (T : Txt K mg A) : FnOk P w K mg base (L2.CX P w) 4 A.f_Room___init__ A.d_Room___init__ ["self", "word", "name", "kind"] (sp_Room___init__ K A) := by
  refine T.F_Room___init__.okX sc_Room___init__ (fun vs H Q E h => sp4_len h) (fun cdv A0 outer s H vs Q E hr h => ?_)
  have nd := sc_Room___init__.nd
  refine ⟨_, (pss_cons (ps_expr (by exact (pe_callS (ok_check_inner T) (hr.mono (by decide)) (by rfl) T.mg_check_inner T.k_check_inner T.b_check_inner (fun σ => passAt (W := fun cls d _ H => E cls d H) (takes_of rfl rfl rfl rfl) σ) (by exact (pa_cons (pv 1) (pa_cons (pv 2) (pa_cons (pe_or (pe_cmpR op_isN (pv 3) pe_non (nomark _)) (pe_one (pe_call (ok_is_simple T) (hr.mono (by decide)) (by rfl) T.mg_is_simple T.k_is_simple T.b_is_simple .nil pass0 (pa_cons (pv 3) pa_nil)))) pa_nil)))))))
      (pss_cons (ps_fld (pv 0) (pv 1) rfl)
      (pss_cons (ps_fld (pv 0) (pv 2) rfl)
      (pss_one (ps_fld (pv 0) (pv 3) rfl))))), ?_⟩
  clear nd hr
  replace h := sp4_of h
  obtain ⟨v_self, v_word, v_name, v_kind, rfl, h⟩ := h

  obtain ⟨H0, x, tw, tn, t, rfl, fr, vw, vn, sw, sn, ht, k⟩ := h
  refine ⟨_, rfl, _, rfl, _, rfl, rfl, _, rfl, iteB (fun g0 => ?_) (fun g0 => ?_)⟩
  · have hb : t.room = true := by unfold Td.room; rw [← th_non ht, g0]; rfl
    have q : t = .k t.kd := by
      have z : t.isNone = true := (th_non ht).symm.trans g0
      cases t with
      | k d => rfl
      | raw n => cases z
    rw [q] at ht k hb
    rw [hb] at k
    refine ⟨_, _, _, rfl, tw, tn, _, vw.keep (KK.same fr.s), vn.keep (KK.same fr.s), sw, sn, rfl, inner_go fr.s k fun ce k => ?_⟩
    obtain ⟨ew, en, et⟩ := chk_none ce
    replace et := hb.trans et
    replace fr := fr.go (fun _ _ z => z)
    obtain ⟨dx, hx⟩ := fr.at'
    refine ⟨_, rfl, _, rfl, x, _, dx, _, rfl, hx, T.cl_Room, T.n_Room_word, Nat.lt_of_le_of_lt (Nat.le_refl 0 : _ ≤ 0) (by decide : 0 < 1000), ?_⟩
    refine ⟨_, rfl, _, rfl, x, _, dx, _, rfl, upd_same, T.cl_Room, T.n_Room_name, Nat.lt_of_le_of_lt (put_len (Nat.zero_le _) : _ ≤ 1) (by decide : 1 < 1000), ?_⟩
    refine ⟨_, rfl, _, rfl, x, _, dx, _, rfl, upd_same, T.cl_Room, T.n_Room_kind, Nat.lt_of_le_of_lt (put_len (put_len (Nat.zero_le _)) : _ ≤ 2) (by decide : 2 < 1000), ?_⟩
    refine k _ (same_put fr.no (same_put fr.no (same_put fr.no fr.s))) (.room (w := strOf v_word) (n := strOf v_name) ⟨dx, _, upd_same, ?_⟩ (KAt.keep (KI.same (same_put fr.no (same_put fr.no (same_put fr.no fr.s)))) ht) et)
    rw [← ew, ← en]
    exact put3 (show ¬ (Str.ofString "word") = Str.ofString "name" by decide +kernel) (show ¬ (Str.ofString "word") = Str.ofString "kind" by decide +kernel) (show ¬ (Str.ofString "name") = Str.ofString "kind" by decide +kernel)
  have g0' : t.isNone = false := (th_non ht).symm.trans g0
  refine ⟨_, rfl, _, rfl, t, ht.keep (KI.same fr.s), fun H1 e1 => ?_⟩
  · have hb : t.room = t.simple := by unfold Td.room; rw [g0']; rfl
    rw [hb] at k
    refine ⟨_, _, _, rfl, tw, tn, _, vw.keep (KK.same (fr.s.trans e1)), vn.keep (KK.same (fr.s.trans e1)), sw, sn, rfl, inner_go (fr.s.trans e1) k fun ce k => ?_⟩
    obtain ⟨ew, en, et⟩ := chk_none ce
    replace fr := fr.go e1
    obtain ⟨dx, hx⟩ := fr.at'
    have q := any_kd et
    rw [q] at ht
    refine ⟨_, rfl, _, rfl, x, _, dx, _, rfl, hx, T.cl_Room, T.n_Room_word, Nat.lt_of_le_of_lt (Nat.le_refl 0 : _ ≤ 0) (by decide : 0 < 1000), ?_⟩
    refine ⟨_, rfl, _, rfl, x, _, dx, _, rfl, upd_same, T.cl_Room, T.n_Room_name, Nat.lt_of_le_of_lt (put_len (Nat.zero_le _) : _ ≤ 1) (by decide : 1 < 1000), ?_⟩
    refine ⟨_, rfl, _, rfl, x, _, dx, _, rfl, upd_same, T.cl_Room, T.n_Room_kind, Nat.lt_of_le_of_lt (put_len (put_len (Nat.zero_le _)) : _ ≤ 2) (by decide : 2 < 1000), ?_⟩
    refine k _ (same_put fr.no (same_put fr.no (same_put fr.no fr.s))) (.room (w := strOf v_word) (n := strOf v_name) ⟨dx, _, upd_same, ?_⟩ (KAt.keep (KI.same (same_put fr.no (same_put fr.no (same_put fr.no fr.s)))) ht) (by rw [← q]; exact hb.trans et))
    rw [← ew, ← en]
    exact put3 (show ¬ (Str.ofString "word") = Str.ofString "name" by decide +kernel) (show ¬ (Str.ofString "word") = Str.ofString "kind" by decide +kernel) (show ¬ (Str.ofString "name") = Str.ofString "kind" by decide +kernel)
theorem ok_are_parts (T : Txt K mg A) : FnOk P w K mg base CX0 1 A.f_are_parts A.d_are_parts ["parts"] (sp_are_parts K A) := by
  refine T.F_are_parts.ok sc_are_parts (fun vs H Q E h => sp1_len h) (fun cdv A0 outer s H vs Q E hr h => ?_)
  have nd := sc_are_parts.nd
  refine ⟨_, (pss_cons (ps_if (PW.pt (pw_or (pt_not (pt_val (pe_callB call_isiT (by rfl) T.b_isinstance (by decide +kernel) (pa_cons (pv 0) (pa_cons (pe_tup (pa_cons (pe_bltn (v := .ty "list") (by rfl) T.b_list (by decide +kernel) rfl) (pa_cons (pe_bltn (v := .ty "tuple") (by rfl) T.b_tuple (by decide +kernel) rfl) pa_nil))) pa_nil))))) (pw_or (pt_cmpR op_lt (pe_callB call_len (by rfl) T.b_len (by decide +kernel) (pa_cons (pv 0) pa_nil)) pe_int (nomark _)) (pw_or1 (pt_cmpR op_gt (pe_callB call_len (by rfl) T.b_len (by decide +kernel) (pa_cons (pv 0) pa_nil)) pe_int (nomark _)))))) (pss_one (ps_ret pe_bl)) pss_nil)
      (pss_cons (ps_for PassesOwn.never rfl (pi_enumA (by rfl) T.b_enumerate (pa_cons (pv 0) pa_nil)) (pg_tup (by rfl) (pgs_cons (pg_name (i := 1) nd rfl (by first | exact Or.inl rfl | exact Or.inr rfl)) (pgs_cons (pg_name (i := 2) nd rfl (by first | exact Or.inl rfl | exact Or.inr rfl)) pgs_nil))) (pss_cons (ps_if (pt_not (pt_val (pe_callB call_isiT (by rfl) T.b_isinstance (by decide +kernel) (pa_cons (pv 2) (pa_cons (pe_tup (pa_cons (pe_glob (v := .ref A.c_Part) (by rfl) T.mg_Part rfl) (pa_cons (pe_glob (v := .ref A.c_Room) (by rfl) T.mg_Room rfl) pa_nil))) pa_nil))))) (pss_one (ps_ret pe_bl)) pss_nil)
      (pss_one (ps_for PassesOwn.never rfl (pi_or (pi_list (pe_slice sl_list (pv 0) po_none (po_some (pv 1)))) (pi_tup (pe_slice sl_tupA (pv 0) po_none (po_some (pv 1))))) (pg_name (i := 3) nd rfl (by first | exact Or.inl rfl | exact Or.inr rfl)) (pss_one (ps_if (pt_cmpR op_eq (pe_fld (pv 2) rfl) (pe_fld (pv 3) rfl) (nomark _)) (pss_one (ps_ret pe_bl)) pss_nil))))))
      (pss_one (ps_ret (pe_callB call_isi (by rfl) T.b_isinstance (by decide +kernel) (pa_cons (pe_ix (ix_list.or ix_tup) (pv 0) (pe_un un_neg pe_int) (fun _ _ => rfl)) (pa_cons (pe_glob (v := .ref A.c_Part) (by rfl) T.mg_Part rfl) pa_nil))))))), ?_⟩
  clear nd hr
  replace h := sp1_of h
  obtain ⟨v_parts, rfl, h⟩ := h

  obtain ⟨o, hs, k⟩ := h
  have hv : ∃ t, VT K H v_parts t ∧ (isa t (.type "list") || (isa t (.type "tuple") || false)) = o.isSome := by
    cases hs with
    | lst e _ _ => exact ⟨_, .lst e, by rw [isa_self]; rfl⟩
    | tup e _ _ => exact ⟨_, .tup e, by rw [isa_self, isa_not (by decide) (by decide)]; rfl⟩
    | no h n1 n2 => exact ⟨_, h, by rw [isa_not n1 (by decide), isa_not n2 (by decide)]; rfl⟩
  obtain ⟨tv, hv, hb⟩ := hv
  refine ⟨_, rfl, (by show 2 ≤ sizeLine; rw [sizeLine_eq]; decide), fun p hp => ⟨_, p, _, _, _, _, rfl, upd_same, .cons (.ty _) (.cons (.ty _) .nil), (hv.keep (KK.new hp)).tyx, any_lt hv, _, rfl, iteB (fun h1 => iteY ?_) (fun h1 => ?_)⟩⟩
  · have e : o = none := by
      have z := not_t h1
      rw [hb] at z
      cases o <;> first | rfl | cases z
    subst e
    exact k _ (same_new hp)
  refine heap_gen2 (fun H1 => Same H H1) (same_new hp (o := .tup [V.ty "list", V.ty "tuple"])) fun H1 e1 => ?_
  cases hs with
  | no h n1 n2 =>
    have z := not_f h1
    rw [hb] at z
    cases z
  | @lst a vs ts ea hp2 hl =>
    replace hp2 := ths_keep (KI.same e1) hp2
    replace ea := e1 _ _ ea
    have hlen := paired_len hp2
    refine ⟨_, rfl, _, _, rfl, .inl ⟨_, SqL.of ea, rfl⟩, _, _, rfl, rfl, _, rfl, iteB (fun h2 => iteY ?_) (fun h2 => ?_)⟩
    · have z : okSeq okParts (some ts) = false := by
        show okParts ts = false
        have := of_decide_eq_true h2
        simp only [okParts, decide_eq_false (show ¬ 1 ≤ ts.length by omega), Bool.false_and]
      rw [z] at k
      exact k _ e1
    refine ⟨_, rfl, _, _, rfl, .inl ⟨_, SqL.of ea, rfl⟩, _, _, rfl, rfl, _, rfl, iteB (fun h3 => ?_) (fun h3 => ?_)⟩
    · have z : okSeq okParts (some ts) = false := by
        show okParts ts = false
        have := of_decide_eq_true h3
        simp only [okParts, decide_eq_false (show ¬ ts.length ≤ 8 by omega), Bool.false_and, Bool.and_false]
      rw [z] at k
      exact k _ e1
    have l1 : 1 ≤ ts.length := by have := of_decide_eq_false h2; omega
    have l2 : ts.length ≤ 8 := by have := of_decide_eq_false h3; omega
    have bad : goodP [] ts = false → ∀ H2, Same H H2 → Q (.bl false) H2 := fun g H2 e2 => by
      have z : okSeq okParts (some ts) = false := by
        show okParts ts = false
        simp only [okParts, g, Bool.false_and, Bool.and_false]
      rw [z] at k
      exact k H2 e2
    refine ⟨_, rfl, a, vs, rfl, .inl ⟨SqL.of ea, for_it walk_enum (fun i σ' H' => ∃ (a1 a2 a3 : Option V), σ' = [some (.ref a), a1, a2, a3] ∧ Same H1 H' ∧ goodP [] (ts.take i) = true) ⟨_, _, _, rfl, fun _ _ z => z, rfl⟩ (fun i σ' H' _ ⟨_, _, _, _, e2, _⟩ => SqL.of (e2 _ _ ea)) ?_ ?_⟩⟩
    · rintro i x σ' H' H'' hi ⟨a1, a2, a3, rfl, e2, g⟩ ⟨T1, u, z, rfl, hT, rfl, hu, hz⟩
      have hu2 := Option.some.inj hu
      subst hu2
      obtain ⟨t, ht, hx⟩ := paired_at hp2 hz
      have e3 : Same H1 (upd H' T1 (.tup [.int (i : Nat), z])) := e2.trans (same_new hT)
      refine ⟨T1, _, rfl, SqT.of upd_same, rfl, ?_⟩
      refine heap_gen2 (fun H3 => Same H1 H3) e3 fun H3 e3 => ?_
      refine ⟨_, _, rfl, _, _, rfl, rfl, ?_⟩
      have hx3 := hx.keep (KI.same e3)
      refine ⟨_, rfl, (by show 2 ≤ sizeLine; rw [sizeLine_eq]; decide), fun p4 hp4 => ⟨_, p4, _, _, _, _, rfl, upd_same, .cons (.own _) (.cons (.own _) .nil), ((hx3.keep (KI.new hp4)).vt T).tyx, any_kc T hx3 [.part, .room], _, rfl, iteB (fun g1 => ?_) (fun g1 => ?_)⟩⟩
      · exact bad (goodP_bad ht (not_t g1)) _ (e1.trans (e3.trans (same_new hp4)))
      have tw : t.pr = true := not_f g1
      refine heap_gen (fun H4 => Same H1 H4) (e3.trans (same_new hp4 (o := .tup [V.ref (A.kc .part), V.ref (A.kc .room)]))) fun H4 e4 => ?_
      have hx4 := hx.keep (KI.same e4)
      refine .inl ⟨_, rfl, _, rfl, _, rfl, a, vs, rfl, SqL.of (e4 _ _ ea), fun q hq => ?_⟩
      rw [cut_to]
      have e5 : Same H1 (upd H4 q (.lst (vs.take i))) := e4.trans (same_new hq)
      refine ⟨q, rfl, ⟨_, SqL.of upd_same⟩, ?_⟩
      have sq : SqL K (upd H4 q (.lst (vs.take i))) q (vs.take i) := SqL.of upd_same
      generalize upd H4 q (.lst (vs.take i)) = H5 at e5 sq ⊢
      refine for_it (walk_list (xs := vs.take i)) (fun j σ' H' => ∃ (a3 : Option V), σ' = [some (.ref a), some (.int (i : Nat)), some z, a3] ∧ H' = H5 ∧ ((ts.take i).take j).all (fun o => !decide (t.name = o.name)) = true) ⟨_, rfl, rfl, rfl⟩ (fun j σ' H' _ ⟨_, _, e, _⟩ => by rw [e]; exact sq) ?_ ?_
      · rintro j y σ' H' H9 _ ⟨a5, rfl, rfl, hall⟩ ⟨rfl, hj⟩
        have hj2 : vs[j]? = some y ∧ j < i := by
          rw [List.getElem?_take] at hj
          by_cases c : j < i
          · rw [if_pos c] at hj; exact ⟨hj, c⟩
          · rw [if_neg c] at hj; cases hj
        obtain ⟨o, ho, hy⟩ := paired_at hp2 hj2.1
        have ho2 : (ts.take i)[j]? = some o := by rw [List.getElem?_take, if_pos hj2.2]; exact ho
        have ow : o.pr = true := goodP_pr g o (List.mem_of_getElem? ho2)
        obtain ⟨xa, xC, xd, xf, rfl, x1, x2, x4, x6⟩ := pr_fld T (hx.keep (KI.same e5)) tw
        obtain ⟨ya, yC, yd, yf, rfl, y1, y2, y4, y6⟩ := pr_fld T (hy.keep (KI.same e5)) ow
        refine ⟨_, rfl, xa, xC, xd, xf, _, rfl, x1, x2, x4, x6, _, rfl, ya, yC, yd, yf, _, rfl, y1, y2, y4, y6, rfl, _, rfl, iteB (fun g4 => ?_) (fun g4 => ?_)⟩
        · rw [dS] at g4
          exact bad (goodP_bad2 ht (all_bad ho2 (by rw [g4]; rfl))) _ (e1.trans e5)
        · rw [dS] at g4
          exact ⟨_, rfl, rfl, all_step hall ho2 (by rw [g4]; rfl)⟩
      · rintro σ' H' ⟨a6, rfl, rfl, hall⟩
        have hlt : (vs.take i).length = (ts.take i).length := by rw [List.length_take, List.length_take, hlen]
        rw [hlt, List.take_length] at hall
        exact ⟨_, _, _, rfl, e5, goodP_step ht g tw hall⟩
    · rintro σ' H' ⟨a1, a2, a3, rfl, e2, g⟩
      rw [hlen, List.take_length] at g
      have hk : vs.length - 1 < vs.length := by omega
      have hat : atI vs (-1) = some vs[vs.length - 1] := by
        unfold atI ixN
        rw [if_neg (by decide), if_pos (by omega)]
        have : ((-1 : Int) + (vs.length : Int)).toNat = vs.length - 1 := by omega
        simp only [Option.bind_some, this]
        exact List.getElem?_eq_getElem hk
      obtain ⟨t, ht, hx⟩ := paired_at hp2 (List.getElem?_eq_getElem hk)
      have hx2 := hx.keep (KI.same e2)
      refine ⟨_, rfl, _, rfl, .inl ⟨a, vs, _, _, rfl, rfl, SqL.of (e2 _ _ ea), hat, _, _, _, _, _, rfl, .own _, (hx2.vt T).tyx, kit_isaO (hx2.vt T).tag (T.kco .part), ?_⟩⟩
      have z : okSeq okParts (some ts) = isa (t.tag A) (.ref (A.kc .part)) := by
        show okParts ts = _
        have gl : ts.getLast? = some t := by
          rw [List.getLast?_eq_getElem?, ← hlen]
          exact ht
        simp only [okParts, g, decide_eq_true l1, decide_eq_true l2, Bool.true_and, gl]
        exact (isa_kc T t .part).symm
      rw [z] at k
      exact k _ (e1.trans e2)
  | @tup a vs ts ea hp2 hl =>
    replace hp2 := ths_keep (KI.same e1) hp2
    replace ea := e1 _ _ ea
    have hlen := paired_len hp2
    refine ⟨_, rfl, _, _, rfl, .inr ⟨_, SqT.of ea, rfl⟩, _, _, rfl, rfl, _, rfl, iteB (fun h2 => iteY ?_) (fun h2 => ?_)⟩
    · have z : okSeq okParts (some ts) = false := by
        show okParts ts = false
        have := of_decide_eq_true h2
        simp only [okParts, decide_eq_false (show ¬ 1 ≤ ts.length by omega), Bool.false_and]
      rw [z] at k
      exact k _ e1
    refine ⟨_, rfl, _, _, rfl, .inr ⟨_, SqT.of ea, rfl⟩, _, _, rfl, rfl, _, rfl, iteB (fun h3 => ?_) (fun h3 => ?_)⟩
    · have z : okSeq okParts (some ts) = false := by
        show okParts ts = false
        have := of_decide_eq_true h3
        simp only [okParts, decide_eq_false (show ¬ ts.length ≤ 8 by omega), Bool.false_and, Bool.and_false]
      rw [z] at k
      exact k _ e1
    have l1 : 1 ≤ ts.length := by have := of_decide_eq_false h2; omega
    have l2 : ts.length ≤ 8 := by have := of_decide_eq_false h3; omega
    have bad : goodP [] ts = false → ∀ H2, Same H H2 → Q (.bl false) H2 := fun g H2 e2 => by
      have z : okSeq okParts (some ts) = false := by
        show okParts ts = false
        simp only [okParts, g, Bool.false_and, Bool.and_false]
      rw [z] at k
      exact k H2 e2
    refine ⟨_, rfl, a, vs, rfl, .inr ⟨SqT.of ea, for_it walk_enumT (fun i σ' H' => ∃ (a1 a2 a3 : Option V), σ' = [some (.ref a), a1, a2, a3] ∧ Same H1 H' ∧ goodP [] (ts.take i) = true) ⟨_, _, _, rfl, fun _ _ z => z, rfl⟩ (fun i σ' H' _ ⟨_, _, _, _, e2, _⟩ => SqT.of (e2 _ _ ea)) ?_ ?_⟩⟩
    · rintro i x σ' H' H'' hi ⟨a1, a2, a3, rfl, e2, g⟩ ⟨T1, u, z, rfl, hT, rfl, hu, hz⟩
      have hu2 := Option.some.inj hu
      subst hu2
      obtain ⟨t, ht, hx⟩ := paired_at hp2 hz
      have e3 : Same H1 (upd H' T1 (.tup [.int (i : Nat), z])) := e2.trans (same_new hT)
      refine ⟨T1, _, rfl, SqT.of upd_same, rfl, ?_⟩
      refine heap_gen2 (fun H3 => Same H1 H3) e3 fun H3 e3 => ?_
      refine ⟨_, _, rfl, _, _, rfl, rfl, ?_⟩
      have hx3 := hx.keep (KI.same e3)
      refine ⟨_, rfl, (by show 2 ≤ sizeLine; rw [sizeLine_eq]; decide), fun p4 hp4 => ⟨_, p4, _, _, _, _, rfl, upd_same, .cons (.own _) (.cons (.own _) .nil), ((hx3.keep (KI.new hp4)).vt T).tyx, any_kc T hx3 [.part, .room], _, rfl, iteB (fun g1 => ?_) (fun g1 => ?_)⟩⟩
      · exact bad (goodP_bad ht (not_t g1)) _ (e1.trans (e3.trans (same_new hp4)))
      have tw : t.pr = true := not_f g1
      refine heap_gen (fun H4 => Same H1 H4) (e3.trans (same_new hp4 (o := .tup [V.ref (A.kc .part), V.ref (A.kc .room)]))) fun H4 e4 => ?_
      have hx4 := hx.keep (KI.same e4)
      refine .inr ⟨_, rfl, _, rfl, _, rfl, a, vs, rfl, SqT.of (e4 _ _ ea), fun w => absurd w (cut_tup hi), fun _ q hq => ?_⟩
      rw [cut_to]
      have e5 : Same H1 (upd H4 q (.tup (vs.take i))) := e4.trans (same_new hq)
      refine ⟨q, rfl, ⟨_, SqT.of upd_same⟩, ?_⟩
      have sq : SqT K (upd H4 q (.tup (vs.take i))) q (vs.take i) := SqT.of upd_same
      generalize upd H4 q (.tup (vs.take i)) = H5 at e5 sq ⊢
      refine for_it (walk_tup (xs := vs.take i)) (fun j σ' H' => ∃ (a3 : Option V), σ' = [some (.ref a), some (.int (i : Nat)), some z, a3] ∧ H' = H5 ∧ ((ts.take i).take j).all (fun o => !decide (t.name = o.name)) = true) ⟨_, rfl, rfl, rfl⟩ (fun j σ' H' _ ⟨_, _, e, _⟩ => by rw [e]; exact sq) ?_ ?_
      · rintro j y σ' H' H9 _ ⟨a5, rfl, rfl, hall⟩ ⟨rfl, hj⟩
        have hj2 : vs[j]? = some y ∧ j < i := by
          rw [List.getElem?_take] at hj
          by_cases c : j < i
          · rw [if_pos c] at hj; exact ⟨hj, c⟩
          · rw [if_neg c] at hj; cases hj
        obtain ⟨o, ho, hy⟩ := paired_at hp2 hj2.1
        have ho2 : (ts.take i)[j]? = some o := by rw [List.getElem?_take, if_pos hj2.2]; exact ho
        have ow : o.pr = true := goodP_pr g o (List.mem_of_getElem? ho2)
        obtain ⟨xa, xC, xd, xf, rfl, x1, x2, x4, x6⟩ := pr_fld T (hx.keep (KI.same e5)) tw
        obtain ⟨ya, yC, yd, yf, rfl, y1, y2, y4, y6⟩ := pr_fld T (hy.keep (KI.same e5)) ow
        refine ⟨_, rfl, xa, xC, xd, xf, _, rfl, x1, x2, x4, x6, _, rfl, ya, yC, yd, yf, _, rfl, y1, y2, y4, y6, rfl, _, rfl, iteB (fun g4 => ?_) (fun g4 => ?_)⟩
        · rw [dS] at g4
          exact bad (goodP_bad2 ht (all_bad ho2 (by rw [g4]; rfl))) _ (e1.trans e5)
        · rw [dS] at g4
          exact ⟨_, rfl, rfl, all_step hall ho2 (by rw [g4]; rfl)⟩
      · rintro σ' H' ⟨a6, rfl, rfl, hall⟩
        have hlt : (vs.take i).length = (ts.take i).length := by rw [List.length_take, List.length_take, hlen]
        rw [hlt, List.take_length] at hall
        exact ⟨_, _, _, rfl, e5, goodP_step ht g tw hall⟩
    · rintro σ' H' ⟨a1, a2, a3, rfl, e2, g⟩
      rw [hlen, List.take_length] at g
      have hk : vs.length - 1 < vs.length := by omega
      have hat : atI vs (-1) = some vs[vs.length - 1] := by
        unfold atI ixN
        rw [if_neg (by decide), if_pos (by omega)]
        have : ((-1 : Int) + (vs.length : Int)).toNat = vs.length - 1 := by omega
        simp only [Option.bind_some, this]
        exact List.getElem?_eq_getElem hk
      obtain ⟨t, ht, hx⟩ := paired_at hp2 (List.getElem?_eq_getElem hk)
      have hx2 := hx.keep (KI.same e2)
      refine ⟨_, rfl, _, rfl, .inr ⟨a, vs, _, _, rfl, rfl, SqT.of (e2 _ _ ea), hat, _, _, _, _, _, rfl, .own _, (hx2.vt T).tyx, kit_isaO (hx2.vt T).tag (T.kco .part), ?_⟩⟩
      have z : okSeq okParts (some ts) = isa (t.tag A) (.ref (A.kc .part)) := by
        show okParts ts = _
        have gl : ts.getLast? = some t := by
          rw [List.getLast?_eq_getElem?, ← hlen]
          exact ht
        simp only [okParts, g, decide_eq_true l1, decide_eq_true l2, Bool.true_and, gl]
        exact (isa_kc T t .part).symm
      rw [z] at k
      exact k _ (e1.trans e2)
theorem ok_Row___init__ (T : Txt K mg A) : FnOk P w K mg base (L2.CX P w) 3 A.f_Row___init__ A.d_Row___init__ ["self", "parts"] (sp_Row___init__ K A) := by
  refine T.F_Row___init__.okX sc_Row___init__ (fun vs H Q E h => sp2_len h) (fun cdv A0 outer s H vs Q E hr h => ?_)
  have nd := sc_Row___init__.nd
  refine ⟨_, (pss_cons (ps_if (pt_not (pt_val (pe_call (ok_are_parts T) (hr.mono (by decide)) (by rfl) T.mg_are_parts T.k_are_parts T.b_are_parts .nil pass0 (pa_cons (pv 1) pa_nil)))) (pss_one (ps_raise rfl (takes_of rfl rfl rfl rfl) (pmk_oex T.oex_BadKind T.ix_BadKind T.tx_BadKind (ok_BadKind___init__ T) (hr.mono (by decide)) T.b_BadKind___init__ .nil pass0 (by rfl) T.mg_BadKind (pa_cons pe_str pa_nil)))) pss_nil)
      (pss_one (ps_fld (pv 0) (pe_callTy call_tuple_of (by rfl) T.b_tuple (by decide +kernel) (pa_cons (pv 1) pa_nil)) rfl))), ?_⟩
  clear nd hr
  replace h := sp2_of h
  obtain ⟨v_self, v_parts, rfl, h⟩ := h

  obtain ⟨H0, x, o, rfl, fr, hs, k⟩ := h
  refine ⟨_, rfl, _, rfl, o, hs.keep fr.s, fun H1 e1 => ⟨_, rfl, iteB (fun h1 => ?_) (fun h1 => ?_)⟩⟩
  · rw [show mkSeq .row okParts "parts" o = .error "parts" by
      have z := not_t h1
      cases o with
      | none => rfl
      | some ts => exact if_pos z] at k
    exact raise_bad (fr.s.trans e1) k
  replace h1 := not_f h1
  cases hs with
  | no _ _ _ => cases h1
  | @lst a vs ts ea hp hl =>
    have z : okParts ts = true := h1
    rw [show mkSeq .row okParts "parts" (some ts) = .ok (.row (ts.map Td.kd)) from if_neg (by rw [z]; decide)] at k
    replace fr := fr.go e1
    obtain ⟨dx, hx⟩ := fr.at'
    refine ⟨_, rfl, a, vs, rfl, .inl ⟨SqL.of (fr.s _ _ ea), fun q hq => ?_⟩⟩
    have nq : q ≠ x := fun z => by rw [z, hx] at hq; cases hq
    refine ⟨_, rfl, x, _, dx, _, rfl, (by rw [upd_ne nq.symm]; exact hx), T.cl_Row, T.n_Row_parts, Nat.lt_of_le_of_lt (Nat.le_refl 0 : _ ≤ 0) (by decide : 0 < 1000), ?_⟩
    have e4 : ∀ o, Same H0 (upd (upd H1 q (.tup vs)) x o) := fun o => same_put fr.no (fr.s.trans (same_new hq))
    have gw := goodP_pr (okParts_good z)
    refine k _ (e4 _) (.row ⟨dx, _, upd_same, put1⟩ (by rw [upd_ne nq]; exact upd_same) (KAts.keep (KI.same (e4 _)) (kats_of hp fun t ht => any_kd (gw t ht))) ?_)
    intro y hy
    obtain ⟨t, ht, rfl⟩ := List.mem_map.mp hy
    have q2 := any_kd (gw t ht)
    rw [← q2]
    exact gw t ht
  | @tup a vs ts ea hp hl =>
    have z : okParts ts = true := h1
    rw [show mkSeq .row okParts "parts" (some ts) = .ok (.row (ts.map Td.kd)) from if_neg (by rw [z]; decide)] at k
    replace fr := fr.go e1
    obtain ⟨dx, hx⟩ := fr.at'
    refine ⟨_, rfl, a, vs, rfl, .inr ⟨SqT.of (fr.s _ _ ea), ?_⟩⟩
    have nq : a ≠ x := fun z => by rw [z, fr.no] at ea; cases ea
    refine ⟨_, rfl, x, _, dx, _, rfl, hx, T.cl_Row, T.n_Row_parts, Nat.lt_of_le_of_lt (Nat.le_refl 0 : _ ≤ 0) (by decide : 0 < 1000), ?_⟩
    have e4 : ∀ o, Same H0 (upd H1 x o) := fun o => same_put fr.no fr.s
    have gw := goodP_pr (okParts_good z)
    refine k _ (e4 _) (.row ⟨dx, _, upd_same, put1⟩ (by rw [upd_ne nq]; exact fr.s _ _ ea) (KAts.keep (KI.same (e4 _)) (kats_of hp fun t ht => any_kd (gw t ht))) ?_)
    intro y hy
    obtain ⟨t, ht, rfl⟩ := List.mem_map.mp hy
    have q2 := any_kd (gw t ht)
    rw [← q2]
    exact gw t ht
theorem ok_number_form (T : Txt K mg A) : FnOk P w K mg base CX0 1 A.f_number_form A.d_number_form ["kind"] (sp_number_form K A) := by
  refine T.F_number_form.ok sc_number_form (fun vs H Q E h => sp1_len h) (fun cdv A0 outer s H vs Q E hr h => ?_)
  have nd := sc_number_form.nd
  refine ⟨_, (pss_cons (ps_set (i := 1) nd rfl (by first | exact Or.inl rfl | exact Or.inr rfl) (pe_op op_add (pe_op op_sub (pe_fld (pv 0) rfl) (pe_fld (pv 0) rfl)) pe_int))
      (pss_cons (ps_if (pt_cmpR op_notN (pe_fld (pv 0) rfl) pe_non (nomark _)) (pss_one (ps_ret (pe_tup (pa_cons pe_str (pa_cons (pe_fld (pv 0) rfl) (pa_cons (pe_fld (pv 0) rfl) (pa_cons (pe_op op_sub (pv 1) pe_int) pa_nil))))))) pss_nil)
      (pss_cons (ps_set (i := 2) nd rfl (by first | exact Or.inl rfl | exact Or.inr rfl) (pe_op op_sub (pe_bits (pv 1)) pe_int))
      (pss_one (ps_ret (pe_tup (pa_cons pe_str (pa_cons (pe_fld (pv 0) rfl) (pa_cons (pv 2) (pa_cons (pe_op op_sub (pe_op op_shl pe_int (pe_op op_add (pv 2) pe_int)) (pv 1)) pa_nil)))))))))), ?_⟩
  clear nd hr
  replace h := sp1_of h
  obtain ⟨v_kind, rfl, h⟩ := h

  obtain ⟨lo, hi, w, hk, hf, k⟩ := h
  rw [Kd.fit] at hf
  cases hk with
  | num ob =>
    obtain ⟨dx, fs, hx, lx⟩ := ob
    refine ⟨_, rfl, _, _, dx, _, _, rfl, hx, T.cl_Number, T.n_Number_high, (lx _ (List.mem_cons_of_mem _ (List.mem_cons_self ..))), _, rfl, _, _, dx, _, _, rfl, hx, T.cl_Number, T.n_Number_low, (lx _ (List.mem_cons_self ..)), _, _, rfl, rfl, _, _, rfl, rfl, ?_⟩
    cases w with
    | some i =>
      refine ⟨_, rfl, _, _, dx, _, _, rfl, hx, T.cl_Number, T.n_Number_width, (lx _ (List.mem_cons_of_mem _ (List.mem_cons_of_mem _ (List.mem_cons_self ..)))), rfl, _, rfl, iteB (fun _ => ?_) (fun g => nomatch g)⟩
      exact ⟨_, rfl, _, _, dx, _, _, rfl, hx, T.cl_Number, T.n_Number_low, (lx _ (List.mem_cons_self ..)), _, rfl, _, _, dx, _, _, rfl, hx, T.cl_Number, T.n_Number_width, (lx _ (List.mem_cons_of_mem _ (List.mem_cons_of_mem _ (List.mem_cons_self ..)))), _, rfl, _, _, rfl, rfl, (by show 4 ≤ sizeLine; rw [sizeLine_eq]; decide), fun p hp => k p _ upd_same hp (same_new hp)⟩
    | none =>
      refine ⟨_, rfl, _, _, dx, _, _, rfl, hx, T.cl_Number, T.n_Number_width, (lx _ (List.mem_cons_of_mem _ (List.mem_cons_of_mem _ (List.mem_cons_self ..)))), rfl, _, rfl, iteB (fun g => nomatch g) (fun _ => ?_)⟩
      obtain ⟨b1, b2⟩ := bits_pos (m := hi - lo + 1) (by omega) (by omega)
      refine ⟨_, rfl, _, rfl, _, _, rfl, rfl, ?_⟩
      exact ⟨_, rfl, _, _, dx, _, _, rfl, hx, T.cl_Number, T.n_Number_low, (lx _ (List.mem_cons_self ..)), _, rfl, _, rfl, _, _, rfl, rfl, _, _, rfl, rfl, ⟨by omega, by omega, by decide⟩, _, rfl, _, _, rfl, rfl, (by show 4 ≤ sizeLine; rw [sizeLine_eq]; decide), fun p hp => k p _ upd_same hp (same_new hp)⟩
theorem ok_Plan___init__ (T : Txt K mg A) : FnOk P w K mg base CX0 1 A.f_Plan___init__ A.d_Plan___init__ ["self", "named", "count", "own"] (sp_Plan___init__ K A) := by
  refine T.F_Plan___init__.ok sc_Plan___init__ (fun vs H Q E h => sp4_len h) (fun cdv A0 outer s H vs Q E hr h => ?_)
  have nd := sc_Plan___init__.nd
  refine ⟨_, (pss_cons (ps_fld (pv 0) (pv 1) rfl)
      (pss_cons (ps_fld (pv 0) (pv 2) rfl)
      (pss_cons (ps_fld (pv 0) (pv 3) rfl)
      (pss_cons (ps_fld (pv 0) (pe_op op_sub (pe_op op_shl pe_int (pv 2)) pe_int) rfl)
      (pss_cons (ps_fld (pv 0) (pe_lst pa_nil) rfl)
      (pss_cons (ps_fld (pv 0) pe_dnewK rfl)
      (pss_cons (ps_fld (pv 0) (pe_lst (pa_cons (pe_tup (pa_cons pe_str pa_nil)) pa_nil)) rfl)
      (pss_one (ps_fld (pv 0) (pe_disp1T (hu_of hr) (pe_tup (pa_cons pe_str pa_nil)) pe_int) rfl))))))))), ?_⟩
  clear nd hr
  replace h := sp4_of h
  obtain ⟨v_self, v_named, v_count, v_own, rfl, h⟩ := h

  obtain ⟨H0, x, p, c, own, rfl, fr, rfl, rfl, rfl, c0, c5, k⟩ := h
  obtain ⟨dx, hx⟩ := fr.at'
  have no := fr.no
  have e0 := fr.s
  refine ⟨_, rfl, _, rfl, x, _, dx, _, rfl, hx, T.cl_Machine, T.n_Machine_named, Nat.lt_of_le_of_lt (Nat.le_refl 0 : _ ≤ 0) (by decide : 0 < 1000), ?_⟩
  refine ⟨_, rfl, _, rfl, x, _, dx, _, rfl, upd_same, T.cl_Machine, T.n_Machine_count, Nat.lt_of_le_of_lt (put_len (Nat.zero_le _) : _ ≤ 1) (by decide : 1 < 1000), ?_⟩
  refine ⟨_, rfl, _, rfl, x, _, dx, _, rfl, upd_same, T.cl_Machine, T.n_Machine_own, Nat.lt_of_le_of_lt (put_len (put_len (Nat.zero_le _)) : _ ≤ 2) (by decide : 2 < 1000), ?_⟩
  refine ⟨_, rfl, _, _, rfl, rfl, ⟨by omega, by omega, by decide⟩, _, _, rfl, rfl, _, rfl, x, _, dx, _, rfl, upd_same, T.cl_Machine, T.n_Machine_most, Nat.lt_of_le_of_lt (put_len (put_len (put_len (Nat.zero_le _))) : _ ≤ 3) (by decide : 3 < 1000), ?_⟩
  simp only [Int.one_mul, upd_upd]
  obtain ⟨s1, s2⟩ : (upd H x (.ins A.c_Machine dx (putF "most" (.int (2 ^ c.toNat - 1)) (putF "own" (.bl own) (putF "count" (.int c) (putF "named" (.ref p) [])))))) x = some (.ins A.c_Machine dx (putF "most" (.int (2 ^ c.toNat - 1)) (putF "own" (.bl own) (putF "count" (.int c) (putF "named" (.ref p) []))))) ∧ Same H0 (upd H x (.ins A.c_Machine dx (putF "most" (.int (2 ^ c.toNat - 1)) (putF "own" (.bl own) (putF "count" (.int c) (putF "named" (.ref p) [])))))) := ⟨upd_same, same_put no e0⟩
  generalize upd H x (.ins A.c_Machine dx (putF "most" (.int (2 ^ c.toNat - 1)) (putF "own" (.bl own) (putF "count" (.int c) (putF "named" (.ref p) []))))) = G4 at s1 s2 ⊢
  clear hx e0
  have l4 : ∀ v w y z : V, (putF "most" v (putF "own" w (putF "count" y (putF "named" z [])))).length ≤ 4 := fun _ _ _ _ => put_len (put_len (put_len (put_len (Nat.zero_le _))))
  refine ⟨(by show 0 ≤ sizeLine; rw [sizeLine_eq]; decide), fun fo hfo => ?_⟩
  have ffo := free_of s2 hfo
  have nf : fo ≠ x := fun z => by rw [z, s1] at hfo; cases hfo
  refine ⟨_, rfl, x, _, dx, _, rfl, (same_new hfo) _ _ s1, T.cl_Machine, T.n_Machine_forms, Nat.lt_of_le_of_lt (l4 _ _ _ _) (by decide), ?_⟩
  obtain ⟨hx5, e5, fo5⟩ := put_obj (f := "forms") (v := .ref fo) (o := .lst []) no s2 s1 hfo
  generalize upd (upd G4 fo (.lst [])) x (.ins A.c_Machine dx (putF "forms" (.ref fo) _)) = G5 at hx5 e5 fo5 ⊢
  refine fun pl hpl => ?_
  have fpl := free_of e5 hpl
  refine ⟨_, rfl, x, _, dx, _, rfl, (same_new hpl) _ _ hx5, T.cl_Machine, T.n_Machine_places, Nat.lt_of_le_of_lt (put_len (l4 _ _ _ _) : _ ≤ 5) (by decide), ?_⟩
  obtain ⟨hx6, e6, pl6, k6⟩ := put_obj (f := "places") (v := .ref pl) (o := .dK []) no e5 hx5 hpl
  have npl : pl ≠ x := fun z => by rw [z, hx5] at hpl; cases hpl
  have fo6 := k6 _ _ nf fo5.1
  generalize upd (upd G5 pl (.dK [])) x (.ins A.c_Machine dx (putF "places" (.ref pl) _)) = G6 at hx6 e6 pl6 k6 fo6 ⊢
  refine ⟨(by show 1 ≤ sizeLine; rw [sizeLine_eq]; decide), fun t ht => ⟨(by show 1 ≤ sizeLine; rw [sizeLine_eq]; decide), fun nd hnd => ?_⟩⟩
  have ntx : t ≠ x := fun z => by rw [z, hx6] at ht; cases ht
  have hx7 := (same_new (o := .tup [.str "whole"]) ht) _ _ hx6
  have e7 := e6.trans (same_new (o := .tup [.str "whole"]) ht)
  have fo7 := (same_new (o := .tup [.str "whole"]) ht) _ _ fo6
  have pl7 := (same_new (o := .tup [.str "whole"]) ht) _ _ pl6
  have t7 : (upd G6 t (.tup [.str "whole"])) t = some (.tup [.str "whole"]) := upd_same
  generalize upd G6 t (.tup [.str "whole"]) = G7 at hnd hx7 e7 fo7 pl7 t7 ⊢
  have nnd : nd ≠ x := fun z => by rw [z, hx7] at hnd; cases hnd
  have fnd := free_of e7 hnd
  refine ⟨_, rfl, x, _, dx, _, rfl, (same_new hnd) _ _ hx7, T.cl_Machine, T.n_Machine_nodes, Nat.lt_of_le_of_lt (put_len (put_len (l4 _ _ _ _)) : _ ≤ 6) (by decide), ?_⟩
  obtain ⟨hx8, e8, nd8, k8⟩ := put_obj (f := "nodes") (v := .ref nd) (o := .lst [.ref t]) no e7 hx7 hnd
  have fo8 := k8 _ _ nf fo7
  have pl8 := k8 _ _ npl pl7
  have t8 := k8 _ _ ntx t7
  generalize upd (upd G7 nd (.lst [.ref t])) x (.ins A.c_Machine dx (putF "nodes" (.ref nd) _)) = G8 at hx8 e8 nd8 fo8 pl8 t8 ⊢
  clear k6 k8
  refine fun nu hnu => ⟨(by show 1 ≤ sizeLine; rw [sizeLine_eq]; decide), fun t2 ht2 => ?_⟩
  have fnu := free_of e8 hnu
  have nnu : nu ≠ x := fun z => by rw [z, hx8] at hnu; cases hnu
  have e89 : Same G8 (upd G8 nu (.dT [])) := same_new hnu
  have nu9 : (upd G8 nu (.dT [])) nu = some (.dT []) := upd_same
  generalize upd G8 nu (.dT []) = G9 at ht2 e89 nu9 ⊢
  have e9a : Same G9 (upd G9 t2 (.tup [.str "whole"])) := same_new ht2
  have t2a : (upd G9 t2 (.tup [.str "whole"])) t2 = some (.tup [.str "whole"]) := upd_same
  generalize upd G9 t2 (.tup [.str "whole"]) = Ga at e9a t2a ⊢
  have e8a := e89.trans e9a
  have nua := e9a _ _ nu9
  refine ⟨nua, t2, [.inr "whole"], rfl, t2a, ?_⟩
  have put : ∀ b u, b ≠ nu → Ga b = some u → (upd Ga nu (.dT [([.inr "whole"], .int 0)])) b = some u := fun b u n h => by rw [upd_ne n]; exact h
  have hxb := put x _ nnu.symm (e8a _ _ hx8)
  have nun : (upd Ga nu (.dT [([.inr "whole"], .int 0)])) nu = some (.dT [([.inr "whole"], .int 0)]) := upd_same
  have off : ∀ b u, G8 b = some u → b ≠ nu := fun b u h z => by rw [z, hnu] at h; cases h
  have fob := put fo _ (off _ _ fo8) (e8a _ _ fo8)
  have plb := put pl _ (off _ _ pl8) (e8a _ _ pl8)
  have ndb := put nd _ (off _ _ nd8) (e8a _ _ nd8)
  have tb := put t _ (off _ _ t8) (e8a _ _ t8)
  have eb : Same H0 (upd Ga nu (.dT [([.inr "whole"], .int 0)])) := fun b u h => put b u (off _ _ (e8 _ _ h)) (e8a _ _ (e8 _ _ h))
  generalize upd Ga nu (.dT [([.inr "whole"], .int 0)]) = Gb at hxb nun fob plb ndb tb eb ⊢
  refine ⟨_, rfl, x, _, dx, _, rfl, hxb, T.cl_Machine, T.n_Machine_numbers, Nat.lt_of_le_of_lt (put_len (put_len (put_len (l4 _ _ _ _))) : _ ≤ 7) (by decide), ?_⟩
  refine k dx fo pl nd nu _ upd_same ⟨?_, ?_, ⟨t, ?_, ?_⟩, ?_⟩ (fun b hb => by simp only [List.mem_cons, List.not_mem_nil, or_false] at hb; rcases hb with rfl | rfl | rfl | rfl <;> assumption) (same_put no eb)
  · rw [upd_ne nf]; exact fob
  · rw [upd_ne npl]; exact plb
  · rw [upd_ne nnd]; exact ndb
  · rw [upd_ne ntx]; exact tb
  · rw [upd_ne nnu]; exact nun
theorem ok_resolved (T : Txt K mg A) : FnOk P w K mg base CX0 1 A.f_resolved A.d_resolved ["edition", "kind"] (sp_resolved K A) := by
  refine T.F_resolved.ok sc_resolved (fun vs H Q E h => sp2_len h) (fun cdv A0 outer s H vs Q E hr h => ?_)
  have nd := sc_resolved.nd
  refine ⟨_, (pss_cons (ps_set (i := 2) nd rfl (by first | exact Or.inl rfl | exact Or.inr rfl) pe_non)
      (pss_cons (ps_while PassesOwn.never (pt_val (pe_callB call_isi (by rfl) T.b_isinstance (by decide +kernel) (pa_cons (pv 1) (pa_cons (pe_glob (v := .ref A.c_Call) (by rfl) T.mg_Call rfl) pa_nil)))) (pss_cons (ps_set (i := 2) nd rfl (by first | exact Or.inl rfl | exact Or.inr rfl) (pe_fld (pv 1) rfl))
      (pss_one (ps_set (i := 1) nd rfl (by first | exact Or.inl rfl | exact Or.inr rfl) (pe_dget (hu_of hr) (pe_fld (pv 0) rfl) (pv 2) (fun _ _ => rfl))))))
      (pss_one (ps_ret (pe_tup (pa_cons (pv 2) (pa_cons (pv 1) pa_nil))))))), ?_⟩
  clear nd hr
  replace h := sp2_of h
  obtain ⟨v_edition, v_kind, rfl, h⟩ := h

  obtain ⟨x, tb, r, c, rk, k0, rfl, he, hk, ca, k⟩ := h
  obtain ⟨dx, p, kvs, m, om, hx, ht, hp, _, _⟩ := he.ed.at_
  have rd := he.ok.rd
  refine ⟨fun m' σ' H' => ∃ nv kv kk, σ' = [some (.ref x), some kv, some nv] ∧ H' = H ∧ KAt A H kv kk ∧ (∀ k', Res tb kk k' → Res tb k0 k') ∧ Calls tb kk ∧ m' = rkK rk kk, ⟨_, _, v_kind, k0, rfl, rfl, hk, fun _ h => h, ca, rfl⟩, ?_⟩
  rintro m' σ' H' ⟨nv, kv, kk, rfl, rfl, hkk, im, ca', rfl⟩
  refine ⟨_, rfl, _, _, _, _, _, rfl, .own _, (KAt.vt T hkk).tyx, kit_isaO (KAt.vt T hkk).tag (T.kco .call), _, rfl, iteB (fun g => ?_) (fun g => ?_)⟩
  · have ec : decide (Kd.cls kk = some .call) = true := isa_cls (t := .k kk) (c := .call) T g
    refine ⟨_, fun σ' H' h => h, ?_⟩
    cases hkk with
    | call ob =>
      rename_i xk s0
      obtain ⟨dx2, fs, hx2, lx⟩ := ob
      obtain ⟨k1, v1, hl1, hk1, hg1⟩ := ht.get (ca' _ rfl)
      have lo : ∀ n, k1 = .call n → n ∈ tb.names ∧ rk n < rk s0 := fun n e => rd.lo s0 k1 hl1 n (by rw [e]; exact List.mem_singleton.mpr rfl)
      refine ⟨_, rfl, _, _, dx2, _, _, rfl, hx2, T.cl_Call, T.n_Call_name, (lx _ (List.mem_cons_self ..)), _, rfl, x, _, dx, _, _, rfl, hx, T.cl_Edition, T.n_Edition_table, ed_table, _, rfl, p, v1, rfl, hg1, rkK rk k1, ?_, _, v1, k1, rfl, rfl, hk1, fun k' h => im k' (.step hl1 h), fun n e => (lo n e).1, rfl⟩
      show rkK rk k1 < rk s0 + 1
      cases k1 with
      | call n => have := (lo n rfl).2; show rk n + 1 < _; omega
      | _ => exact Nat.succ_pos _
    | _ => cases of_decide_eq_true ec
  · have n1 := of_decide_eq_false (isa_cls (t := .k kk) (c := .call) T g)
    refine ⟨_, rfl, _, rfl, (by show 2 ≤ sizeLine; rw [sizeLine_eq]; decide), fun q hq => ?_⟩
    exact k q _ nv kv kk (im kk (.done n1)) upd_same (hkk.keep (KI.new hq)) (same_new hq)
theorem ok_wide_form (T : Txt K mg A) : FnOk P w K mg base CX0 2 A.f_wide_form A.d_wide_form ["kind"] (sp_wide_form K A) := by
  refine T.F_wide_form.ok sc_wide_form (fun vs H Q E h => sp1_len h) (fun cdv A0 outer s H vs Q E hr h => ?_)
  have nd := sc_wide_form.nd
  refine ⟨_, (pss_cons (ps_set (i := 1) nd rfl (by first | exact Or.inl rfl | exact Or.inr rfl) (pe_call (ok_number_form T) (hr.mono (by decide)) (by rfl) T.mg_number_form T.k_number_form T.b_number_form .nil pass0 (pa_cons (pv 0) pa_nil)))
      (pss_cons (ps_if (PW.pt (pw_and (pt_cmpR op_eq (pe_ix ix_tup (pv 1) pe_int (fun _ _ => rfl)) pe_str (nomark _)) (pw_and1 (pt_cmpR op_eq (pe_ix ix_tup (pv 1) pe_int (fun _ _ => rfl)) (pe_op op_shl pe_int (pe_ix ix_tup (pv 1) pe_int (fun _ _ => rfl))) (nomark _))))) (pss_one (ps_ret (pe_tup (pa_cons pe_str (pa_cons (pe_ix ix_tup (pv 1) pe_int (fun _ _ => rfl)) (pa_cons (pe_ix ix_tup (pv 1) pe_int (fun _ _ => rfl)) (pa_cons (pe_op op_sub (pe_ix ix_tup (pv 1) pe_int (fun _ _ => rfl)) pe_int) pa_nil))))))) pss_nil)
      (pss_one (ps_ret (pv 1))))), ?_⟩
  clear nd hr
  replace h := sp1_of h
  obtain ⟨v_kind, rfl, h⟩ := h

  obtain ⟨lo, hi, w, hk, hf, k⟩ := h
  refine ⟨_, rfl, _, rfl, lo, hi, w, hk, hf, fun p H1 hp hp0 e1 => ?_⟩
  rw [Kd.fit] at hf
  cases w with
  | some i =>
    refine ⟨_, rfl, _, _, _, _, rfl, rfl, SqT.of hp, rfl, rfl, _, rfl, iteB (fun g => absurd (of_decide_eq_true g) (by decide +kernel)) (fun _ => iteF ?_)⟩
    exact ⟨_, rfl, k p H1 hp e1⟩
  | none =>
    obtain ⟨b1, b2⟩ := bits_pos (m := hi - lo + 1) (by omega) (by omega)
    refine ⟨_, rfl, _, _, _, _, rfl, rfl, SqT.of hp, rfl, rfl, _, rfl, iteB (fun _ => ?_) (fun g => absurd rfl (of_decide_eq_false g))⟩
    refine ⟨_, rfl, _, _, _, _, rfl, rfl, SqT.of hp, rfl, _, rfl, _, _, _, _, rfl, rfl, SqT.of hp, rfl, _, _, rfl, rfl, ⟨by omega, by omega, by decide⟩, rfl, _, rfl, iteB (fun g => ?_) (fun g => ?_)⟩
    · have e := of_decide_eq_true (dI.symm.trans g)
      refine ⟨_, rfl, _, _, _, _, rfl, rfl, SqT.of hp, rfl, _, rfl, _, _, _, _, rfl, rfl, SqT.of hp, rfl, _, rfl, _, _, _, _, rfl, rfl, SqT.of hp, rfl, _, _, rfl, rfl, (by show 4 ≤ sizeLine; rw [sizeLine_eq]; decide), fun u hu => k u _ ?_ (e1.trans (same_new hu))⟩
      rw [upd_same]
      show some (HO.tup _) = some (HO.tup (WF.vals (if _ then _ else _)))
      rw [if_pos e]
      rfl
    · have e := of_decide_eq_false (dI.symm.trans g)
      refine ⟨_, rfl, k p H1 ?_ e1⟩
      rw [hp]
      show some (HO.tup _) = some (HO.tup (WF.vals (if _ then _ else _)))
      rw [if_neg e]
      rfl
theorem ok_are_numbers_alike (T : Txt K mg A) : FnOk P w K mg base CX0 3 A.f_are_numbers_alike A.d_are_numbers_alike ["one", "other"] (sp_are_numbers_alike K A) := by
  refine T.F_are_numbers_alike.ok sc_are_numbers_alike (fun vs H Q E h => sp2_len h) (fun cdv A0 outer s H vs Q E hr h => ?_)
  have nd := sc_are_numbers_alike.nd
  refine ⟨_, (pss_cons (ps_set (i := 2) nd rfl (by first | exact Or.inl rfl | exact Or.inr rfl) (pe_call (ok_wide_form T) (hr.mono (by decide)) (by rfl) T.mg_wide_form T.k_wide_form T.b_wide_form .nil pass0 (pa_cons (pv 0) pa_nil)))
      (pss_cons (ps_set (i := 3) nd rfl (by first | exact Or.inl rfl | exact Or.inr rfl) (pe_call (ok_wide_form T) (hr.mono (by decide)) (by rfl) T.mg_wide_form T.k_wide_form T.b_wide_form .nil pass0 (pa_cons (pv 1) pa_nil)))
      (pss_cons (ps_if (pt_cmpR op_ne (pe_ix ix_tup (pv 2) pe_int (fun _ _ => rfl)) (pe_ix ix_tup (pv 3) pe_int (fun _ _ => rfl)) (nomark _)) (pss_one (ps_ret pe_bl)) pss_nil)
      (pss_cons (ps_if (pt_cmpR op_eq (pe_ix ix_tup (pv 2) pe_int (fun _ _ => rfl)) pe_str (nomark _)) (pss_one (ps_ret (pe_cmpR (op_eqP hr.units) (pv 2) (pv 3) (nomark _)))) pss_nil)
      (pss_cons (ps_if (pt_cmpR op_ne (pe_ix ix_tup (pv 2) pe_int (fun _ _ => rfl)) (pe_ix ix_tup (pv 3) pe_int (fun _ _ => rfl)) (nomark _)) (pss_one (ps_ret pe_bl)) pss_nil)
      (pss_cons (ps_if (pt_cmpR op_eq (pe_ix ix_tup (pv 3) pe_int (fun _ _ => rfl)) pe_str (nomark _)) (pss_one (ps_ret (pe_cmpR op_le (pe_ix ix_tup (pv 2) pe_int (fun _ _ => rfl)) (pe_ix ix_tup (pv 3) pe_int (fun _ _ => rfl)) (nomark _)))) pss_nil)
      (pss_one (ps_ret (pe_cmpR op_lt (pe_ix ix_tup (pv 2) pe_int (fun _ _ => rfl)) (pe_ix ix_tup (pv 3) pe_int (fun _ _ => rfl)) (nomark _)))))))))), ?_⟩
  clear nd hr
  replace h := sp2_of h
  obtain ⟨v_one, v_other, rfl, h⟩ := h

  obtain ⟨lo, hi, w, lo2, hi2, w2, hk, hf, hk2, hf2, k⟩ := h
  refine ⟨_, rfl, _, rfl, lo, hi, w, hk, hf, fun p H1 hp e1 => ?_⟩
  refine ⟨_, rfl, _, rfl, lo2, hi2, w2, hk2.keep (KI.same e1), hf2, fun q H2 hq e2 => ?_⟩
  have k := k H2 (e1.trans e2)
  have hp2 := e2 _ _ hp
  generalize wfOf lo hi w = a at *
  generalize wfOf lo2 hi2 w2 = b at *
  rw [alF] at k
  refine ⟨_, rfl, _, _, _, _, rfl, rfl, SqT.of hp2, rfl, _, rfl, _, _, _, _, rfl, rfl, SqT.of hq, rfl, rfl, _, rfl, iteB (fun g => ?_) (fun g => ?_)⟩
  · rw [if_pos (fun z : a.lo = b.lo => by rw [z] at g; simp at g)] at k
    exact k
  rw [if_neg (show ¬ a.lo ≠ b.lo from fun z => by rw [show decide (V.int a.lo = V.int b.lo) = false from decide_eq_false fun y => z (V.int.inj y)] at g; cases g)] at k
  refine ⟨_, rfl, _, _, _, _, rfl, rfl, SqT.of hp2, rfl, rfl, _, rfl, iteB (fun g2 => ?_) (fun g2 => ?_)⟩
  · have e : a.wide = false := by
      cases h : a.wide with
      | false => rfl
      | true =>
        rw [h] at g2
        exact absurd (of_decide_eq_true g2) (by decide +kernel)
    rw [if_pos e] at k
    exact ⟨_, rfl, _, rfl, eq_wf hp2 hq k⟩
  have e : ¬ a.wide = false := fun z => by
    rw [z] at g2
    exact absurd rfl (of_decide_eq_false g2)
  rw [if_neg e] at k
  refine ⟨_, rfl, _, _, _, _, rfl, rfl, SqT.of hp2, rfl, _, rfl, _, _, _, _, rfl, rfl, SqT.of hq, rfl, rfl, _, rfl, iteB (fun g3 => ?_) (fun g3 => ?_)⟩
  · rw [if_pos (fun z : a.s = b.s => by rw [z] at g3; simp at g3)] at k
    exact k
  rw [if_neg (show ¬ a.s ≠ b.s from fun z => by rw [show decide (V.int a.s = V.int b.s) = false from decide_eq_false fun y => z (V.int.inj y)] at g3; cases g3)] at k
  refine ⟨_, rfl, _, _, _, _, rfl, rfl, SqT.of hq, rfl, rfl, _, rfl, iteB (fun g4 => ?_) (fun g4 => ?_)⟩
  · have e4 : b.wide = true := by
      cases h : b.wide with
      | true => rfl
      | false =>
        rw [h] at g4
        exact absurd (of_decide_eq_true g4) (by decide +kernel)
    rw [if_pos e4] at k
    exact ⟨_, rfl, _, _, _, _, rfl, rfl, SqT.of hp2, rfl, _, rfl, _, _, _, _, rfl, rfl, SqT.of hq, rfl, _, _, rfl, rfl, k⟩
  have e4 : ¬ b.wide = true := fun z => by
    rw [z] at g4
    exact absurd rfl (of_decide_eq_false g4)
  rw [if_neg e4] at k
  exact ⟨_, rfl, _, _, _, _, rfl, rfl, SqT.of hp2, rfl, _, rfl, _, _, _, _, rfl, rfl, SqT.of hq, rfl, _, _, rfl, rfl, k⟩
theorem ok_are_leaves_alike (T : Txt K mg A) : FnOk P w K mg base CX0 4 A.f_are_leaves_alike A.d_are_leaves_alike ["one", "other"] (sp_are_leaves_alike K A) := by
  refine T.F_are_leaves_alike.ok sc_are_leaves_alike (fun vs H Q E h => sp2_len h) (fun cdv A0 outer s H vs Q E hr h => ?_)
  have nd := sc_are_leaves_alike.nd
  refine ⟨_, (Evl.pss_cut (ps_if (PW.pt (pw_and (pt_val (pe_callB call_isi (by rfl) T.b_isinstance (by decide +kernel) (pa_cons (pv 0) (pa_cons (pe_glob (v := .ref A.c_Number) (by rfl) T.mg_Number rfl) pa_nil)))) (pw_and1 (pt_val (pe_callB call_isi (by rfl) T.b_isinstance (by decide +kernel) (pa_cons (pv 1) (pa_cons (pe_glob (v := .ref A.c_Number) (by rfl) T.mg_Number rfl) pa_nil))))))) (pss_one (ps_ret (pe_call (ok_are_numbers_alike T) (hr.mono (by decide)) (by rfl) T.mg_are_numbers_alike T.k_are_numbers_alike T.b_are_numbers_alike .nil pass0 (pa_cons (pv 0) (pa_cons (pv 1) pa_nil))))) pss_nil)
      (Evl.pss_cut (ps_if (PW.pt (pw_and (pt_val (pe_callB call_isi (by rfl) T.b_isinstance (by decide +kernel) (pa_cons (pv 0) (pa_cons (pe_glob (v := .ref A.c_Bits) (by rfl) T.mg_Bits rfl) pa_nil)))) (pw_and1 (pt_val (pe_callB call_isi (by rfl) T.b_isinstance (by decide +kernel) (pa_cons (pv 1) (pa_cons (pe_glob (v := .ref A.c_Bits) (by rfl) T.mg_Bits rfl) pa_nil))))))) (pss_one (ps_ret (pe_cmpR op_eq (pe_fld (pv 0) rfl) (pe_fld (pv 1) rfl) (nomark _)))) pss_nil)
      (pss_one (ps_ret (pe_and (pe_callB call_isi (by rfl) T.b_isinstance (by decide +kernel) (pa_cons (pv 0) (pa_cons (pe_glob (v := .ref A.c_Nothing) (by rfl) T.mg_Nothing rfl) pa_nil))) (pe_one (pe_callB call_isi (by rfl) T.b_isinstance (by decide +kernel) (pa_cons (pv 1) (pa_cons (pe_glob (v := .ref A.c_Nothing) (by rfl) T.mg_Nothing rfl) pa_nil))))))))), ?_⟩
  clear nd hr
  replace h := sp2_of h
  obtain ⟨v_one, v_other, rfl, h⟩ := h

  obtain ⟨k1, k2, h1, f1, h2, f2, k⟩ := h
  refine ⟨fun σ' H' => σ' = [some v_one, some v_other] ∧ H' = H ∧ ¬ (k1.cls = some .num ∧ k2.cls = some .num), ?_, ?_⟩
  · refine ⟨_, rfl, _, _, _, _, _, rfl, .own _, (KAt.vt T h1).tyx, kit_isaO (KAt.vt T h1).tag (T.kco .num), _, rfl, iteB (fun g => ?_) (fun g => iteF ⟨rfl, rfl, fun z => absurd z.1 (of_decide_eq_false (isa_cls (t := .k k1) (c := .num) T g))⟩)⟩
    refine ⟨_, rfl, _, _, _, _, _, rfl, .own _, (KAt.vt T h2).tyx, kit_isaO (KAt.vt T h2).tag (T.kco .num), _, rfl, iteB (fun g2 => ?_) (fun g2 => ⟨rfl, rfl, fun z => absurd z.2 (of_decide_eq_false (isa_cls (t := .k k2) (c := .num) T g2))⟩)⟩
    have c1 := of_decide_eq_true (isa_cls (t := .k k1) (c := .num) T g)
    have c2 := of_decide_eq_true (isa_cls (t := .k k2) (c := .num) T g2)
    cases k1 <;> cases c1
    cases k2 <;> cases c2
    exact ⟨_, rfl, _, rfl, _, _, rfl, _, _, _, _, _, _, h1, f1, h2, f2, fun H' e => k H' e⟩
  rintro σ' H' ⟨rfl, rfl, nn⟩
  refine ⟨fun σ' H2 => σ' = [some v_one, some v_other] ∧ H2 = H' ∧ ¬ (k1.cls = some .bits ∧ k2.cls = some .bits), ?_, ?_⟩
  · refine ⟨_, rfl, _, _, _, _, _, rfl, .own _, (KAt.vt T h1).tyx, kit_isaO (KAt.vt T h1).tag (T.kco .bits), _, rfl, iteB (fun g => ?_) (fun g => iteF ⟨rfl, rfl, fun z => absurd z.1 (of_decide_eq_false (isa_cls (t := .k k1) (c := .bits) T g))⟩)⟩
    refine ⟨_, rfl, _, _, _, _, _, rfl, .own _, (KAt.vt T h2).tyx, kit_isaO (KAt.vt T h2).tag (T.kco .bits), _, rfl, iteB (fun g2 => ?_) (fun g2 => ⟨rfl, rfl, fun z => absurd z.2 (of_decide_eq_false (isa_cls (t := .k k2) (c := .bits) T g2))⟩)⟩
    have c1 := of_decide_eq_true (isa_cls (t := .k k1) (c := .bits) T g)
    have c2 := of_decide_eq_true (isa_cls (t := .k k2) (c := .bits) T g2)
    cases k1 <;> cases c1
    cases k2 <;> cases c2
    cases h1 with
    | bits ob1 =>
      cases h2 with
      | bits ob2 =>
        obtain ⟨dx, fs, hx, lx⟩ := ob1
        obtain ⟨dy, gs, hy, ly⟩ := ob2
        refine ⟨_, rfl, _, _, dx, _, _, rfl, hx, T.cl_Bits, T.n_Bits_many, (lx _ (List.mem_cons_self ..)), _, rfl, _, _, dy, gs, _, rfl, hy, T.cl_Bits, T.n_Bits_many, (ly _ (List.mem_cons_self ..)), rfl, ?_⟩
        rw [dI]
        exact k H' (fun _ _ z => z)
  rintro σ' H2 ⟨rfl, rfl, nb⟩
  refine ⟨_, rfl, _, _, _, _, _, rfl, .own _, (KAt.vt T h1).tyx, kit_isaO (KAt.vt T h1).tag (T.kco .nothing), _, rfl, iteB (fun g => ?_) (fun g => ?_)⟩
  · have c1 := of_decide_eq_true (isa_cls (t := .k k1) (c := .nothing) T g)
    refine ⟨_, rfl, _, _, _, _, _, rfl, .own _, (KAt.vt T h2).tyx, kit_isaO (KAt.vt T h2).tag (T.kco .nothing), ?_⟩
    rw [show isa (Td.tag A (.k k2)) (.ref A.c_Nothing) = _ from isa_kc T (.k k2) .nothing]
    have k := k H2 (fun _ _ z => z)
    cases k1 <;> cases c1
    cases k2 <;> exact k
  · have c1 := of_decide_eq_false (isa_cls (t := .k k1) (c := .nothing) T g)
    have k := k H2 (fun _ _ z => z)
    have e : lfAl k1 k2 = false := by
      cases k1 <;> first | rfl | exact absurd rfl c1 | (cases k2 <;> first | rfl | exact absurd ⟨rfl, rfl⟩ nn | exact absurd ⟨rfl, rfl⟩ nb)
    rw [e] at k
    exact k
theorem ok_are_named_alike (T : Txt K mg A) : FnOk P w K mg base CX0 1 A.f_are_named_alike A.d_are_named_alike ["one", "other"] (sp_are_named_alike K A) := by
  refine T.F_are_named_alike.ok sc_are_named_alike (fun vs H Q E h => sp2_len h) (fun cdv A0 outer s H vs Q E hr h => ?_)
  have nd := sc_are_named_alike.nd
  refine ⟨_, (pss_cons (ps_if (pt_val (pe_callB call_isi (by rfl) T.b_isinstance (by decide +kernel) (pa_cons (pv 0) (pa_cons (pe_glob (v := .ref A.c_Choice) (by rfl) T.mg_Choice rfl) pa_nil)))) (pss_one (ps_ret (pe_callB call_isi (by rfl) T.b_isinstance (by decide +kernel) (pa_cons (pv 1) (pa_cons (pe_glob (v := .ref A.c_Choice) (by rfl) T.mg_Choice rfl) pa_nil))))) pss_nil)
      (pss_one (ps_ret (pe_and (pe_callB call_isi (by rfl) T.b_isinstance (by decide +kernel) (pa_cons (pv 0) (pa_cons (pe_glob (v := .ref A.c_Row) (by rfl) T.mg_Row rfl) pa_nil))) (pe_one (pe_callB call_isi (by rfl) T.b_isinstance (by decide +kernel) (pa_cons (pv 1) (pa_cons (pe_glob (v := .ref A.c_Row) (by rfl) T.mg_Row rfl) pa_nil)))))))), ?_⟩
  clear nd hr
  replace h := sp2_of h
  obtain ⟨v_one, v_other, rfl, h⟩ := h

  obtain ⟨k1, k2, h1, h2, k⟩ := h
  refine ⟨_, rfl, _, _, _, _, _, rfl, .own _, (KAt.vt T h1).tyx, kit_isaO (KAt.vt T h1).tag (T.kco .choice), _, rfl, iteB (fun g => ?_) (fun g => ?_)⟩
  · have c1 := of_decide_eq_true (isa_cls (t := .k k1) (c := .choice) T g)
    refine ⟨_, rfl, _, _, _, _, _, rfl, .own _, (KAt.vt T h2).tyx, kit_isaO (KAt.vt T h2).tag (T.kco .choice), ?_⟩
    rw [show isa (Td.tag A (.k k2)) (.ref A.c_Choice) = _ from isa_kc T (.k k2) .choice]
    cases k1 <;> cases c1
    cases k2 <;> exact k
  have n1 := of_decide_eq_false (isa_cls (t := .k k1) (c := .choice) T g)
  refine ⟨_, rfl, _, _, _, _, _, rfl, .own _, (KAt.vt T h1).tyx, kit_isaO (KAt.vt T h1).tag (T.kco .row), _, rfl, iteB (fun g2 => ?_) (fun g2 => ?_)⟩
  · have c1 := of_decide_eq_true (isa_cls (t := .k k1) (c := .row) T g2)
    refine ⟨_, rfl, _, _, _, _, _, rfl, .own _, (KAt.vt T h2).tyx, kit_isaO (KAt.vt T h2).tag (T.kco .row), ?_⟩
    rw [show isa (Td.tag A (.k k2)) (.ref A.c_Row) = _ from isa_kc T (.k k2) .row]
    cases k1 <;> cases c1
    cases k2 <;> exact k
  · have n2 := of_decide_eq_false (isa_cls (t := .k k1) (c := .row) T g2)
    have e : namAl k1 k2 = false := by
      cases k1 <;> first | rfl | exact absurd rfl n1 | exact absurd rfl n2
    rw [e] at k
    exact k
theorem ok_Needs___init__ (T : Txt K mg A) : FnOk P w K mg base CX0 1 A.f_Needs___init__ A.d_Needs___init__ ["self", "writer", "reader"] (sp_Needs___init__ K A) := by
  refine T.F_Needs___init__.ok sc_Needs___init__ (fun vs H Q E h => sp3_len h) (fun cdv A0 outer s H vs Q E hr h => ?_)
  have nd := sc_Needs___init__.nd
  refine ⟨_, (pss_cons (ps_fld (pv 0) (pv 1) rfl)
      (pss_one (ps_fld (pv 0) (pv 2) rfl))), ?_⟩
  clear nd hr
  replace h := sp3_of h
  obtain ⟨v_self, v_writer, v_reader, rfl, h⟩ := h

  obtain ⟨H0, x, y, y2, rfl, fr, rfl, rfl, k⟩ := h
  obtain ⟨dx, hx⟩ := fr.at'
  refine ⟨_, rfl, _, rfl, x, _, dx, _, rfl, hx, T.cl_Needs, T.n_Needs_writer, Nat.lt_of_le_of_lt (Nat.le_refl 0 : _ ≤ 0) (by decide : 0 < 1000), ?_⟩
  refine ⟨_, rfl, _, rfl, x, _, dx, _, rfl, upd_same, T.cl_Needs, T.n_Needs_reader, Nat.lt_of_le_of_lt (put_len (Nat.zero_le _) : _ ≤ 1) (by decide : 1 < 1000), ?_⟩
  exact k _ ⟨dx, upd_same⟩ (same_put fr.no (same_put fr.no fr.s))
theorem ok_Needs_of_kinds0 (T : Txt K mg A) : FnOk P w K mg base CX0 5 A.f_Needs_of_kinds A.d_Needs_of_kinds ["self", "one", "other", "word"] (sp_Needs_of_kinds0 K A) := by
  refine T.F_Needs_of_kinds.ok sc_Needs_of_kinds (fun vs H Q E h => sp4_len h) (fun cdv A0 outer s H vs Q E hr h => ?_)
  have nd := sc_Needs_of_kinds.nd
  refine ⟨_, (pss_cons (ps_if (PW.pt (pw_and (pt_cmpR op_eq (pv 3) (C8.pe_gc (by rfl) T.mg_LET) (nomark _)) (pw_and1 (pt_val (pe_callB call_isi (by rfl) T.b_isinstance (by decide +kernel) (pa_cons (pv 2) (pa_cons (pe_glob (v := .ref A.c_Nothing) (by rfl) T.mg_Nothing rfl) pa_nil))))))) (pss_one (ps_ret (pe_lst pa_nil))) pss_nil)
      (pss_cons (ps_asg (pe_call (ok_resolved T) (hr.mono (by decide)) (by rfl) T.mg_resolved T.k_resolved T.b_resolved .nil pass0 (pa_cons (pe_fld (pv 0) rfl) (pa_cons (pv 1) pa_nil))) (pg_tup (by rfl) (pgs_cons (pg_name (i := 4) nd rfl (by first | exact Or.inl rfl | exact Or.inr rfl)) (pgs_cons (pg_name (i := 1) nd rfl (by first | exact Or.inl rfl | exact Or.inr rfl)) pgs_nil))))
      (pss_cons (ps_asg (pe_call (ok_resolved T) (hr.mono (by decide)) (by rfl) T.mg_resolved T.k_resolved T.b_resolved .nil pass0 (pa_cons (pe_fld (pv 0) rfl) (pa_cons (pv 2) pa_nil))) (pg_tup (by rfl) (pgs_cons (pg_name (i := 5) nd rfl (by first | exact Or.inl rfl | exact Or.inr rfl)) (pgs_cons (pg_name (i := 2) nd rfl (by first | exact Or.inl rfl | exact Or.inr rfl)) pgs_nil))))
      (pss_cons (ps_if (pt_val (pe_call (ok_are_named_alike T) (hr.mono (by decide)) (by rfl) T.mg_are_named_alike T.k_are_named_alike T.b_are_named_alike .nil pass0 (pa_cons (pv 1) (pa_cons (pv 2) pa_nil)))) (pss_one (ps_ret (pe_lst (pa_cons (pe_tup (pa_cons (pv 4) (pa_cons (pv 5) (pa_cons (pv 3) pa_nil)))) pa_nil)))) pss_nil)
      (pss_cons (ps_if (PW.pt (pw_and (pt_val (pe_callB call_isi (by rfl) T.b_isinstance (by decide +kernel) (pa_cons (pv 1) (pa_cons (pe_glob (v := .ref A.c_Items) (by rfl) T.mg_Items rfl) pa_nil)))) (pw_and1 (pt_val (pe_callB call_isi (by rfl) T.b_isinstance (by decide +kernel) (pa_cons (pv 2) (pa_cons (pe_glob (v := .ref A.c_Items) (by rfl) T.mg_Items rfl) pa_nil))))))) pss_never pss_nil)
      (pss_cons (ps_if (pt_val (pe_call (ok_are_leaves_alike T) (hr.mono (by decide)) (by rfl) T.mg_are_leaves_alike T.k_are_leaves_alike T.b_are_leaves_alike .nil pass0 (pa_cons (pv 1) (pa_cons (pv 2) pa_nil)))) (pss_one (ps_ret (pe_lst pa_nil))) pss_nil)
      (pss_one (ps_ret pe_non)))))))), ?_⟩
  clear nd hr
  replace h := sp4_of h
  obtain ⟨v_self, v_one, v_other, v_word, rfl, h⟩ := h

  obtain ⟨n, x, y, tb, tb2, r, r2, c, c2, rk, rk2, k1, k2, rfl, nd, ex, ey, hk1, lf1, f1, hk2, lf2, f2, rfl, k⟩ := h
  have nc1 : k1.cls ≠ some .call := by cases k1 <;> first | exact (Bool.false_ne_true lf1).elim | exact nofun
  have nc2 : k2.cls ≠ some .call := by cases k2 <;> first | exact (Bool.false_ne_true lf2).elim | exact nofun
  obtain ⟨dn, hn⟩ := nd
  refine ⟨_, rfl, rfl, _, rfl, iteB (fun g => absurd (of_decide_eq_true g) (by decide +kernel)) (fun _ => iteF ?_)⟩
  refine ⟨_, rfl, n, _, dn, _, _, rfl, hn, T.cl_Needs, T.n_Needs_writer, nds_fs.1, _, rfl, _, _, rfl, x, tb, r, c, rk, k1, rfl, ex, hk1, (fun n e => absurd (by rw [e]; rfl) nc1), fun p1 H1 nv1 kv1 l1 rs1 hp1 hl1 e1 => ?_⟩
  refine ⟨p1, _, rfl, SqT.of hp1, rfl, _, _, rfl, _, _, rfl, rfl, ?_⟩
  refine ⟨_, rfl, n, _, dn, _, _, rfl, (e1 _ _ hn), T.cl_Needs, T.n_Needs_reader, nds_fs.2, _, rfl, _, _, rfl, y, tb2, r2, c2, rk2, k2, rfl, ey.same e1, hk2.keep (KI.same e1), (fun n e => absurd (by rw [e]; rfl) nc2), fun p2 H2 nv2 kv2 l2 rs2 hp2 hl2 e2 => ?_⟩
  refine ⟨p2, _, rfl, SqT.of hp2, rfl, _, _, rfl, _, _, rfl, rfl, ?_⟩
  have hl1 := hl1.keep (KI.same e2)
  have e12 := e1.trans e2
  have q1 := rs1.one (.done nc1)
  have q2 := rs2.one (.done nc2)
  subst q1
  subst q2
  refine ⟨_, rfl, _, rfl, _, _, rfl, l1, l2, hl1, hl2, _, rfl, iteB (fun g => ?_) (fun _ => ?_)⟩
  · exfalso
    cases l1 <;> first | cases g | cases lf1
  refine ⟨_, rfl, _, _, _, _, _, rfl, .own _, (KAt.vt T hl1).tyx, kit_isaO (KAt.vt T hl1).tag (T.kco .items), _, rfl, iteB (fun g => ?_) (fun _ => iteF ?_)⟩
  · exfalso
    have c1 := of_decide_eq_true (isa_cls (t := .k l1) (c := .items) T g)
    cases l1 <;> first | exact (Bool.false_ne_true lf1).elim | cases c1
  refine ⟨_, rfl, _, rfl, _, _, rfl, l1, l2, hl1, f1, hl2, f2, fun H3 e3 => ⟨_, rfl, iteB (fun g => ?_) (fun g => ?_)⟩⟩
  · rw [Needed, if_pos g] at k
    exact ⟨(by show 0 ≤ sizeLine; rw [sizeLine_eq]; decide), fun q hq => k q _ upd_same (none_same (e12.trans e3) hq) ((e12.trans e3).trans (same_new hq))⟩
  · rw [Needed, if_neg (by rw [g]; exact Bool.false_ne_true)] at k
    exact k H3 (e12.trans e3)
theorem ok_Needs_of_kinds (T : Txt K mg A) : FnOk P w K mg base CX0 6 A.f_Needs_of_kinds A.d_Needs_of_kinds ["self", "one", "other", "word"] (sp_Needs_of_kinds K A) := by
  refine T.F_Needs_of_kinds.ok sc_Needs_of_kinds (fun vs H Q E h => sp4_len h) (fun cdv A0 outer s H vs Q E hr h => ?_)
  have nd := sc_Needs_of_kinds.nd
  refine ⟨_, (pss_cons (ps_if (PW.pt (pw_and (pt_cmpR op_eq (pv 3) (C8.pe_gc (by rfl) T.mg_LET) (nomark _)) (pw_and1 (pt_val (pe_callB call_isi (by rfl) T.b_isinstance (by decide +kernel) (pa_cons (pv 2) (pa_cons (pe_glob (v := .ref A.c_Nothing) (by rfl) T.mg_Nothing rfl) pa_nil))))))) (pss_one (ps_ret (pe_lst pa_nil))) pss_nil)
      (pss_cons (ps_asg (pe_call (ok_resolved T) (hr.mono (by decide)) (by rfl) T.mg_resolved T.k_resolved T.b_resolved .nil pass0 (pa_cons (pe_fld (pv 0) rfl) (pa_cons (pv 1) pa_nil))) (pg_tup (by rfl) (pgs_cons (pg_name (i := 4) nd rfl (by first | exact Or.inl rfl | exact Or.inr rfl)) (pgs_cons (pg_name (i := 1) nd rfl (by first | exact Or.inl rfl | exact Or.inr rfl)) pgs_nil))))
      (pss_cons (ps_asg (pe_call (ok_resolved T) (hr.mono (by decide)) (by rfl) T.mg_resolved T.k_resolved T.b_resolved .nil pass0 (pa_cons (pe_fld (pv 0) rfl) (pa_cons (pv 2) pa_nil))) (pg_tup (by rfl) (pgs_cons (pg_name (i := 5) nd rfl (by first | exact Or.inl rfl | exact Or.inr rfl)) (pgs_cons (pg_name (i := 2) nd rfl (by first | exact Or.inl rfl | exact Or.inr rfl)) pgs_nil))))
      (pss_cons (ps_if (pt_val (pe_call (ok_are_named_alike T) (hr.mono (by decide)) (by rfl) T.mg_are_named_alike T.k_are_named_alike T.b_are_named_alike .nil pass0 (pa_cons (pv 1) (pa_cons (pv 2) pa_nil)))) (pss_one (ps_ret (pe_lst (pa_cons (pe_tup (pa_cons (pv 4) (pa_cons (pv 5) (pa_cons (pv 3) pa_nil)))) pa_nil)))) pss_nil)
      (Evl.pss_cut (ps_if (PW.pt (pw_and (pt_val (pe_callB call_isi (by rfl) T.b_isinstance (by decide +kernel) (pa_cons (pv 1) (pa_cons (pe_glob (v := .ref A.c_Items) (by rfl) T.mg_Items rfl) pa_nil)))) (pw_and1 (pt_val (pe_callB call_isi (by rfl) T.b_isinstance (by decide +kernel) (pa_cons (pv 2) (pa_cons (pe_glob (v := .ref A.c_Items) (by rfl) T.mg_Items rfl) pa_nil))))))) (pss_cons (ps_if (pt_cmpR op_ne (pe_fld (pv 1) rfl) (pe_fld (pv 2) rfl) (nomark _)) (pss_one (ps_ret pe_non)) pss_nil)
      (pss_cons (ps_if (pt_cmpR op_ne (pe_fld (pv 1) rfl) pe_int (nomark _)) (pss_one (ps_set (i := 3) nd rfl (by first | exact Or.inl rfl | exact Or.inr rfl) (C8.pe_gc (by rfl) T.mg_ALIKE))) pss_nil)
      (pss_one (ps_ret (pe_meth (pv 0) T.cl_Needs ⟨T.m_Needs_of_kinds, T.i_Needs_of_kinds, T.k_Needs_of_kinds⟩ (ok_Needs_of_kinds0 T) (hr.mono (by decide)) T.b_Needs_of_kinds .nil pass0 (pa_cons (pe_fld (pv 1) rfl) (pa_cons (pe_fld (pv 2) rfl) (pa_cons (pv 3) pa_nil)))))))) pss_nil)
      (pss_cons (ps_if (pt_val (pe_call (ok_are_leaves_alike T) (hr.mono (by decide)) (by rfl) T.mg_are_leaves_alike T.k_are_leaves_alike T.b_are_leaves_alike .nil pass0 (pa_cons (pv 1) (pa_cons (pv 2) pa_nil)))) (pss_one (ps_ret (pe_lst pa_nil))) pss_nil)
      (pss_one (ps_ret pe_non)))))))), ?_⟩
  clear nd hr
  replace h := sp4_of h
  obtain ⟨v_self, v_one, v_other, v_word, rfl, h⟩ := h

  obtain ⟨n, x, y, tb, tb2, r, r2, c, c2, rk, rk2, k1, k2, m1, m2, rfl, nd, ex, ey, hk1, ca1, f1, hk2, ca2, f2, rm1, lf1, rm2, lf2, rfl, k⟩ := h
  obtain ⟨dn, hn⟩ := nd
  refine ⟨_, rfl, rfl, _, rfl, iteB (fun g => absurd (of_decide_eq_true g) (by decide +kernel)) (fun _ => iteF ?_)⟩
  refine ⟨_, rfl, n, _, dn, _, _, rfl, hn, T.cl_Needs, T.n_Needs_writer, nds_fs.1, _, rfl, _, _, rfl, x, tb, r, c, rk, k1, rfl, ex, hk1, ca1, fun p1 H1 nv1 kv1 l1 rs1 hp1 hl1 e1 => ?_⟩
  refine ⟨p1, _, rfl, SqT.of hp1, rfl, _, _, rfl, _, _, rfl, rfl, ?_⟩
  refine ⟨_, rfl, n, _, dn, _, _, rfl, (e1 _ _ hn), T.cl_Needs, T.n_Needs_reader, nds_fs.2, _, rfl, _, _, rfl, y, tb2, r2, c2, rk2, k2, rfl, ey.same e1, hk2.keep (KI.same e1), ca2, fun p2 H2 nv2 kv2 l2 rs2 hp2 hl2 e2 => ?_⟩
  refine ⟨p2, _, rfl, SqT.of hp2, rfl, _, _, rfl, _, _, rfl, rfl, ?_⟩
  have hl1 := hl1.keep (KI.same e2)
  have e12 := e1.trans e2
  have q1 := rs1.one rm1
  have q2 := rs2.one rm2
  subst q1
  subst q2
  have g1 := rs1.fit ex.ok.fits f1
  have g2 := rs2.fit ey.ok.fits f2
  refine ⟨_, rfl, _, rfl, _, _, rfl, l1, l2, hl1, hl2, _, rfl, iteB (fun g => ?_) (fun _ => ?_)⟩
  · exfalso
    cases l1 <;> first | cases g | cases lf1
  refine ⟨fun σ' H' => σ' = [some (.ref n), some kv1, some kv2, some (.str "alike"), some nv1, some nv2] ∧ H' = H2 ∧ alL l1 l2 = lfAl l1 l2, ?_, ?_⟩
  · refine ⟨_, rfl, _, _, _, _, _, rfl, .own _, (KAt.vt T hl1).tyx, kit_isaO (KAt.vt T hl1).tag (T.kco .items), _, rfl, iteB (fun g => ?_) (fun g => iteF ⟨rfl, rfl, ?_⟩)⟩
    · have cb1 := of_decide_eq_true (isa_cls (t := .k l1) (c := .items) T g)
      refine ⟨_, rfl, _, _, _, _, _, rfl, .own _, (KAt.vt T hl2).tyx, kit_isaO (KAt.vt T hl2).tag (T.kco .items), _, rfl, iteB (fun gb => ?_) (fun gb => ⟨rfl, rfl, ?_⟩)⟩
      · have cb2 := of_decide_eq_true (isa_cls (t := .k l2) (c := .items) T gb)
        obtain ⟨i, w, rfl⟩ : ∃ i w, l1 = .items i w := by cases l1 <;> first | exact ⟨_, _, rfl⟩ | cases cb1
        obtain ⟨j, u, rfl⟩ : ∃ i w, l2 = .items i w := by cases l2 <;> first | exact ⟨_, _, rfl⟩ | cases cb2
        cases hl1 with
        | items ob1 ki1 o1 =>
          cases hl2 with
          | items ob2 ki2 o2 =>
            rename_i x1 v1 x2 v2
            obtain ⟨d1, fs1, hx1, lx⟩ := ob1
            obtain ⟨d2, fs2, hx2, ly⟩ := ob2
            rw [Kd.fit] at g1 g2
            have k2 := k.after e12
            refine ⟨_, rfl, _, _, d1, fs1, _, rfl, hx1, T.cl_Items, T.n_Items_width, (lx _ (List.mem_cons_of_mem _ (List.mem_cons_self ..))), _, rfl, _, _, d2, fs2, _, rfl, hx2, T.cl_Items, T.n_Items_width, (ly _ (List.mem_cons_of_mem _ (List.mem_cons_self ..))), (by cases w <;> cases u <;> rfl), _, rfl, iteB (fun g3 => ?_) (fun g3 => ?_)⟩
            · have ne : ¬ w = u := fun z => by rw [z] at g3; simp at g3
              rw [show alL (.items i w) (.items j u) = false from if_neg ne, Needed, if_neg Bool.false_ne_true] at k2
              exact k2 H2 (fun _ _ z => z)
            · have e : w = u := oi_inj (by simpa using g3)
              rw [show alL (.items i w) (.items j u) = lfAl i j from if_pos e] at k2
              refine ⟨_, rfl, _, _, d1, fs1, _, rfl, hx1, T.cl_Items, T.n_Items_width, (lx _ (List.mem_cons_of_mem _ (List.mem_cons_self ..))), (by cases w <;> rfl), _, rfl, iteB (fun g4 => ?_) (fun g4 => ?_)⟩
              all_goals exact ⟨_, rfl, n, dn, _, rfl, (e12 _ _ hn), nds_no ⟨by decide +kernel, by decide +kernel⟩, _, rfl, _, _, d1, fs1, _, rfl, hx1, T.cl_Items, T.n_Items_item, (lx _ (List.mem_cons_self ..)), _, rfl, _, _, d2, fs2, _, rfl, hx2, T.cl_Items, T.n_Items_item, (ly _ (List.mem_cons_self ..)), _, rfl, _, _, _, _, rfl, n, x, y, tb, tb2, r, r2, c, c2, rk, rk2, i, j, rfl, ⟨dn, e12 _ _ hn⟩, ex.same e12, ey.same e12, ki1, lf1, g1.1, ki2, lf2, g2.1, rfl, k2⟩
      · have cb2 := of_decide_eq_false (isa_cls (t := .k l2) (c := .items) T gb)
        cases l1 <;> cases cb1
        cases l2 <;> first | rfl | exact absurd rfl cb2
    · have cb1 := of_decide_eq_false (isa_cls (t := .k l1) (c := .items) T g)
      cases l1 <;> first | rfl | exact absurd rfl cb1
  rintro σ' H' ⟨rfl, rfl, ea⟩
  refine ⟨_, rfl, _, rfl, _, _, rfl, l1, l2, hl1, g1, hl2, g2, fun H3 e3 => ⟨_, rfl, iteB (fun g => ?_) (fun g => ?_)⟩⟩
  · rw [ea, Needed, if_pos g] at k
    exact ⟨(by show 0 ≤ sizeLine; rw [sizeLine_eq]; decide), fun q hq => k q _ upd_same (none_same (e12.trans e3) hq) ((e12.trans e3).trans (same_new hq))⟩
  · rw [ea, Needed, if_neg (by rw [g]; exact Bool.false_ne_true)] at k
    exact k H3 (e12.trans e3)
theorem ok_Needs_of_roots (T : Txt K mg A) : FnOk P w K mg base CX0 7 A.f_Needs_of_roots A.d_Needs_of_roots ["self"] (sp_Needs_of_roots K A) := by
  refine T.F_Needs_of_roots.ok sc_Needs_of_roots (fun vs H Q E h => sp1_len h) (fun cdv A0 outer s H vs Q E hr h => ?_)
  have nd := sc_Needs_of_roots.nd
  refine ⟨_, (pss_one (ps_ret (pe_meth (pv 0) T.cl_Needs ⟨T.m_Needs_of_kinds, T.i_Needs_of_kinds, T.k_Needs_of_kinds⟩ (ok_Needs_of_kinds T) (hr.mono (by decide)) T.b_Needs_of_kinds .nil pass0 (pa_cons (by exact (pe_makeS T.mk_Call (ok_Call___init__ T) (hr.mono (by decide)) (by rfl) T.mg_Call T.b_Call___init__ .nil (fun σ => passL0 σ) (by exact (pa_cons (pe_fld (pe_fld (pv 0) rfl) rfl) pa_nil)))) (pa_cons (by exact (pe_makeS T.mk_Call (ok_Call___init__ T) (hr.mono (by decide)) (by rfl) T.mg_Call T.b_Call___init__ .nil (fun σ => passL0 σ) (by exact (pa_cons (pe_fld (pe_fld (pv 0) rfl) rfl) pa_nil)))) (pa_cons (C8.pe_gc (by rfl) T.mg_ALIKE) pa_nil)))))), ?_⟩
  clear nd hr
  replace h := sp1_of h
  obtain ⟨v_self, rfl, h⟩ := h

  obtain ⟨n, x, y, tb, tb2, r, r2, c, c2, rk, rk2, m1, m2, rfl, nd, ex, ey, rm1, lf1, rm2, lf2, k⟩ := h
  obtain ⟨dn, hn⟩ := nd
  obtain ⟨dx, p, kvs, m, om, hx, htb, hp, _, _⟩ := ex.ed.at_
  obtain ⟨dy, p2, kvs2, m2_, om2, hy, htb2, hp2, _, _⟩ := ey.ed.at_
  have o1 := ex.ok.hrn.1
  have o2 := ey.ok.hrn.1
  refine ⟨_, rfl, n, dn, _, rfl, hn, nds_no ⟨by decide +kernel, by decide +kernel⟩, _, rfl, n, _, dn, _, _, rfl, hn, T.cl_Needs, T.n_Needs_writer, nds_fs.1, x, _, dx, _, _, rfl, hx, T.cl_Edition, T.n_Edition_root, ed_root', ?_⟩
  refine fun q1 dq1 h1 h2 ne1 => ⟨_, _, rfl, H, q1, _, rfl, Fresh.mk' h1 h2 ne1, .str _, name_short o1, made_ok (kd := .call r) (call_ok o1) fun H2 e2 hk1 => ⟨rfl, ?_⟩⟩
  refine ⟨_, rfl, n, _, dn, _, _, rfl, (e2 _ _ hn), T.cl_Needs, T.n_Needs_reader, nds_fs.2, y, _, dy, _, _, rfl, e2 _ _ hy, T.cl_Edition, T.n_Edition_root, ed_root', ?_⟩
  refine fun q2 dq2 h3 h4 ne2 => ⟨_, _, rfl, H2, q2, _, rfl, Fresh.mk' h3 h4 ne2, .str _, name_short o2, made_ok (kd := .call r2) (call_ok o2) fun H3 e3 hk2 => ⟨rfl, ?_⟩⟩
  have e23 := e2.trans e3
  have fc : ∀ {z : Str}, okName (.str z) = true → (Kd.call z).fit := fun h => by rw [Kd.fit]; exact name_len h
  exact ⟨_, _, _, _, rfl, n, x, y, tb, tb2, r, r2, c, c2, rk, rk2, _, _, m1, m2, rfl, ⟨dn, e23 _ _ hn⟩, ex.same e23, ey.same e23, hk1.keep (KI.same e3), fun z e => by cases e; exact ex.ok.hr, fc o1, hk2, fun z e => by cases e; exact ey.ok.hr, fc o2, rm1, lf1, rm2, lf2, rfl, k.after e23⟩
theorem ok_Needs_of_triple (T : Txt K mg A) : FnOk P w K mg base CX0 1 A.f_Needs_of_triple A.d_Needs_of_triple ["self", "triple"] (sp_Needs_of_triple K A) := by
  refine T.F_Needs_of_triple.ok sc_Needs_of_triple (fun vs H Q E h => sp2_len h) (fun cdv A0 outer s H vs Q E hr h => ?_)
  have nd := sc_Needs_of_triple.nd
  refine ⟨_, pss_never, ?_⟩
  clear nd hr
  replace h := sp2_of h
  obtain ⟨v_self, v_triple, rfl, h⟩ := h

  exact h.elim
theorem ok_table (T : Txt K mg A) : FnOk P w K mg base CX0 8 A.f_table A.d_table ["writer", "reader"] (sp_table K A) := by
  refine T.F_table.ok sc_table (fun vs H Q E h => sp2_len h) (fun cdv A0 outer s H vs Q E hr h => ?_)
  have nd := sc_table.nd
  refine ⟨_, (pss_cons (ps_set (i := 2) nd rfl (by first | exact Or.inl rfl | exact Or.inr rfl) (pe_make T.mk_Needs (ok_Needs___init__ T) (hr.mono (by decide)) (by rfl) T.mg_Needs T.b_Needs___init__ .nil pass0 (pa_cons (pv 0) (pa_cons (pv 1) pa_nil))))
      (pss_cons (ps_set (i := 3) nd rfl (by first | exact Or.inl rfl | exact Or.inr rfl) (pe_meth0 (pv 2) T.cl_Needs ⟨T.m_Needs_of_roots, T.i_Needs_of_roots, T.k_Needs_of_roots⟩ (ok_Needs_of_roots T) (hr.mono (by decide)) T.b_Needs_of_roots .nil pass0 ))
      (pss_cons (ps_if (pt_cmpR op_isN (pv 3) pe_non (nomark _)) (pss_one (ps_ret pe_non)) pss_nil)
      (pss_cons (ps_set (i := 4) nd rfl (by first | exact Or.inl rfl | exact Or.inr rfl) pe_dnewK)
      (pss_cons (ps_while PassesOwn.never (pt_cmpR op_gt (pe_callB call_len (by rfl) T.b_len (by decide +kernel) (pa_cons (pv 3) pa_nil)) pe_int (nomark _)) pss_never)
      (pss_one (ps_ret (pe_callB cr_sortedS (by rfl) T.b_sorted (by decide +kernel) (pa_cons (pe_lock (pe_lc (own := [("triple", 5)]) (g := gName 5) (by rfl) nd (pi_keys (pv 4)) (blkOk_by (own := [("triple", 5)]) (N := ["writer", "reader", "needs", "waiting", "found", "triple", "further"]) (sc := defScope s_table) (by decide +kernel)) (fun _ _ _ _ _ => pg_name (i := 5) nd rfl (by first | exact Or.inl rfl | exact Or.inr rfl)) (fun _ _ _ _ _ => pts_one (PW.pt (pw_or (pt_cmpR op_eq (pe_ix (ix_listK (K := K) rfl) (pv 5) pe_int (fun _ _ => rfl)) (C8.pe_gc (by rfl) T.mg_ALIKE) (nomark _)) (pw_or1 (pt_cmp (pc_dnotin (hu_of hr) (pe_op op_add (pe_slice sl_str (pv 5) po_none (po_some pe_int)) (pe_tup (pa_cons (C8.pe_gc (by rfl) T.mg_ALIKE) pa_nil))) (pv 4))))))) (fun _ _ _ _ _ => (pv 5)))) pa_nil))))))))), ?_⟩
  clear nd hr
  replace h := sp2_of h
  obtain ⟨v_writer, v_reader, rfl, h⟩ := h

  obtain ⟨x, y, tb, tb2, r, r2, c, c2, rk, rk2, l1, l2, rfl, rfl, ex, ey, rm1, lf1, rm2, lf2, k⟩ := h
  refine ⟨_, rfl, _, rfl, fun nn dn hnn hdn ne => ⟨_, _, _, rfl, H, nn, x, y, rfl, Fresh.mk' hnn hdn ne, rfl, rfl, fun H1 nd e1 => ⟨rfl, ?_⟩⟩⟩
  obtain ⟨dn1, hn⟩ := nd
  refine ⟨_, rfl, nn, dn1, _, rfl, hn, nds_no ⟨by decide +kernel, by decide +kernel⟩, ?_⟩
  refine ⟨_, rfl, nn, x, y, tb, tb2, r, r2, c, c2, rk, rk2, l1, l2, rfl, ⟨dn1, hn⟩, ex.same e1, ey.same e1, rm1, lf1, rm2, lf2, ?_⟩
  unfold Needed at k ⊢
  cases ea : alL l1 l2 with
  | false =>
    rw [ea, if_neg Bool.false_ne_true] at k
    exact iteF fun H2 e2 => ⟨_, rfl, rfl, _, rfl, iteB (fun _ => k H2 (e1.trans e2)) (fun g => nomatch g)⟩
  | true =>
    rw [ea, if_pos rfl] at k
    refine iteY fun p H2 hp hp0 e2 => ⟨_, rfl, rfl, _, rfl, iteB (fun g => nomatch g) (fun _ => ?_)⟩
    have e12 := e1.trans e2
    refine fun d hd => ?_
    have e3 := e12.trans (same_new (o := .dK []) hd)
    have hp3 := same_new (o := .dK []) hd _ _ hp
    have hd3 : (upd H2 d (.dK [])) d = some (.dK []) := upd_same
    generalize upd H2 d (.dK []) = H3 at e3 hp3 hd3
    refine ⟨fun m σ' H' => σ' = [some (.ref x), some (.ref y), some (.ref nn), some (.ref p), some (.ref d), none, none] ∧ H' = H3, ⟨0, rfl, rfl⟩, ?_⟩
    rintro m σ' H' ⟨rfl, rfl⟩
    refine ⟨_, rfl, _, _, rfl, .inl ⟨_, SqL.of hp3, rfl⟩, _, _, rfl, rfl, _, rfl, iteB (fun g => absurd (of_decide_eq_true g) (by decide)) (fun _ => ?_)⟩
    refine ⟨d, .dK [], hd3, trivial, fun od => ?_⟩
    refine ⟨_, rfl, d, od, rfl, .inl ⟨[], upd_same, fun D hD => ?_⟩⟩
    have nDd : D ≠ d := fun z => by rw [z, upd_same] at hD; cases hD
    have hD3 : H' D = none := by rw [upd_ne nDd] at hD; exact hD
    refine lc_it (walk_keys (kvs := [])) (fun i H4 => H4 D = some (.lst []) ∧ Frz H' H4 d od (.dK [])) ⟨upd_same, Frz.start.put hD3 nDd⟩ (fun i H4 _ ⟨_, f⟩ => f.at_) (fun i x H4 H5 hi => absurd hi (Nat.not_lt_zero i)) ?_
    rintro H4 ⟨hD4, f4⟩
    refine ⟨f4.at_, D, [], rfl, SqL.of (by rw [upd_ne nDd]; exact hD4), by decide, fun ys q pm _ hq => ?_⟩
    have ey2 : ys = [] := List.perm_nil.mp pm
    subst ey2
    have e5 := e3.trans (f4.back hd3)
    exact k q _ upd_same (none_same e5 hq) (e5.trans (same_new hq))
theorem ok_is_triple (T : Txt K mg A) : FnOk P w K mg base CX0 2 A.f_is_triple A.d_is_triple ["writer", "reader", "thing"] (sp_is_triple K A) := by
  refine T.F_is_triple.ok sc_is_triple (fun vs H Q E h => sp3_len h) (fun cdv A0 outer s H vs Q E hr h => ?_)
  have nd := sc_is_triple.nd
  refine ⟨_, (pss_cons (ps_if (PW.pt (pw_or (pt_not (pt_val (pe_callB call_isi (by rfl) T.b_isinstance (by decide +kernel) (pa_cons (pv 2) (pa_cons (pe_bltn (v := .ty "tuple") (by rfl) T.b_tuple (by decide +kernel) rfl) pa_nil))))) (pw_or1 (pt_cmpR op_ne (pe_callB call_len (by rfl) T.b_len (by decide +kernel) (pa_cons (pv 2) pa_nil)) pe_int (nomark _))))) (pss_one (ps_ret pe_bl)) pss_nil)
      (pss_cons (ps_for PassesOwn.never rfl (pi_tup (pv 2)) (pg_name (i := 3) nd rfl (by first | exact Or.inl rfl | exact Or.inr rfl)) (pss_one (ps_if (pt_not (pt_val (pe_callB call_isi (by rfl) T.b_isinstance (by decide +kernel) (pa_cons (pv 3) (pa_cons (pe_bltn (v := .ty "str") (by rfl) T.b_str (by decide +kernel) rfl) pa_nil))))) (pss_one (ps_ret pe_bl)) pss_nil)))
      (pss_cons (ps_if (PW.pt (pw_or (pt_cmp (pc_dnotin (hu_of hr) (pe_ix ix_tup (pv 2) pe_int (fun _ _ => rfl)) (pe_fld (pv 0) rfl))) (pw_or (pt_cmp (pc_dnotin (hu_of hr) (pe_ix ix_tup (pv 2) pe_int (fun _ _ => rfl)) (pe_fld (pv 1) rfl))) (pw_or1 (pt_cmpR op_notIn_seq (pe_ix ix_tup (pv 2) pe_int (fun _ _ => rfl)) (pe_tup (pa_cons (C8.pe_gc (by rfl) T.mg_ALIKE) (pa_cons (C8.pe_gc (by rfl) T.mg_LET) pa_nil))) (by rfl)))))) (pss_one (ps_ret pe_bl)) pss_nil)
      (pss_one (ps_ret (pe_call (ok_are_named_alike T) (hr.mono (by decide)) (by rfl) T.mg_are_named_alike T.k_are_named_alike T.b_are_named_alike .nil pass0 (pa_cons (pe_dget (hu_of hr) (pe_fld (pv 0) rfl) (pe_ix ix_tup (pv 2) pe_int (fun _ _ => rfl)) (fun _ _ => rfl)) (pa_cons (pe_dget (hu_of hr) (pe_fld (pv 1) rfl) (pe_ix ix_tup (pv 2) pe_int (fun _ _ => rfl)) (fun _ _ => rfl)) pa_nil)))))))), ?_⟩
  clear nd hr
  replace h := sp3_of h
  obtain ⟨v_writer, v_reader, v_thing, rfl, h⟩ := h

  obtain ⟨x, y, t, tb, tb2, r, r2, n, n2, c, c2, rk, rk2, k1, k2, rfl, rfl, rfl, ht, ex, ey, hn, hn2, k⟩ := h
  obtain ⟨dx, p, kvs, m, om, hx, htb, hp, _, _⟩ := ex.ed.at_
  obtain ⟨dy, p2, kvs2, m2_, om2, hy, htb2, hp2, _, _⟩ := ey.ed.at_
  have hv : VT K H (.ref t) (.type "tuple") := .tup ht
  refine ⟨_, rfl, _, _, _, _, _, rfl, .ty _, hv.tyx, kit_isa hv.tag (by decide), _, rfl, iteB (fun z => absurd z (by decide)) (fun _ => ?_)⟩
  refine ⟨_, rfl, _, _, rfl, .inr ⟨_, SqT.of ht, rfl⟩, rfl, _, rfl, iteB (fun g => by simp at g) (fun _ => ?_)⟩
  refine ⟨_, rfl, t, rfl, ⟨_, SqT.of ht⟩, ?_⟩
  refine for_it (walk_tup (xs := [.str n, .str n2, .str "alike"])) (fun i σ' H' => ∃ a, σ' = [some (.ref x), some (.ref y), some (.ref t), a] ∧ H' = H) ⟨_, rfl, rfl⟩ (fun i σ' H' _ ⟨_, _, h⟩ => by rw [h]; exact SqT.of ht) ?_ ?_
  · rintro i xv σ' H' H'' hi ⟨a, rfl, rfl⟩ ⟨rfl, hxv⟩
    obtain ⟨z, rfl⟩ : ∃ z, xv = .str z := by
      have := List.mem_of_getElem? hxv
      simp only [List.mem_cons, List.not_mem_nil, or_false] at this
      rcases this with e | e | e <;> exact ⟨_, e⟩
    have hz : VT K H'' (.str z) (.type "str") := .str z
    exact ⟨_, rfl, _, _, _, _, _, rfl, .ty _, hz.tyx, kit_isa hz.tag (by decide), _, rfl, iteB (fun z => absurd z (by decide)) (fun _ => ⟨_, rfl, rfl⟩)⟩
  rintro σ' H' ⟨a, rfl, rfl⟩
  obtain ⟨ka, va, hla, hka, hga⟩ := htb.get (names_of hn)
  obtain ⟨kb, vb, hlb, hkb, hgb⟩ := htb2.get (names_of hn2)
  have ea : ka = k1 := Option.some.inj (hla.symm.trans hn)
  have eb : kb = k2 := Option.some.inj (hlb.symm.trans hn2)
  subst ea
  subst eb
  refine ⟨_, rfl, _, _, _, _, rfl, rfl, SqT.of ht, rfl, _, rfl, x, _, dx, _, _, rfl, hx, T.cl_Edition, T.n_Edition_table, ed_table, p, some va, rfl, hga, _, rfl, iteF ?_⟩
  refine ⟨_, rfl, _, _, _, _, rfl, rfl, SqT.of ht, rfl, _, rfl, y, _, dy, _, _, rfl, hy, T.cl_Edition, T.n_Edition_table, ed_table, p2, some vb, rfl, hgb, _, rfl, iteF ?_⟩
  refine ⟨_, rfl, _, _, _, _, rfl, rfl, SqT.of ht, rfl, (by show 2 ≤ sizeLine; rw [sizeLine_eq]; decide), fun u hu => ⟨u, _, rfl, .inr (SqT.of upd_same), rfl, rfl, _, rfl, iteB (fun g => absurd g (by decide +kernel)) (fun _ => ?_)⟩⟩
  have eu := same_new (o := .tup [.str "alike", .str "let"]) hu
  have k := k _ eu
  have ht := eu _ _ ht
  have hx := eu _ _ hx
  have hy := eu _ _ hy
  obtain ⟨kc, vc, hlc, hkc, hgc⟩ := (htb.same eu).get (names_of hn)
  obtain ⟨kd, vd, hld, hkd, hgd⟩ := (htb2.same eu).get (names_of hn2)
  have ec : kc = ka := Option.some.inj (hlc.symm.trans hn)
  have ed : kd = kb := Option.some.inj (hld.symm.trans hn2)
  subst ec
  subst ed
  exact ⟨_, rfl, x, _, dx, _, _, rfl, hx, T.cl_Edition, T.n_Edition_table, ed_table, _, rfl, _, _, _, _, rfl, rfl, SqT.of ht, rfl, p, vc, rfl, hgc, _, rfl, y, _, dy, _, _, rfl, hy, T.cl_Edition, T.n_Edition_table, ed_table, _, rfl, _, _, _, _, rfl, rfl, SqT.of ht, rfl, p2, vd, rfl, hgd, _, _, rfl, _, _, hkc, hkd, k⟩
theorem ok_are_kept (T : Txt K mg A) : FnOk P w K mg base CX0 1 A.f_are_kept A.d_are_kept ["needed", "held"] (sp_are_kept K A) := by
  refine T.F_are_kept.ok sc_are_kept (fun vs H Q E h => sp2_len h) (fun cdv A0 outer s H vs Q E hr h => ?_)
  have nd := sc_are_kept.nd
  refine ⟨_, (pss_cons (ps_if (pt_cmpR op_isN (pv 0) pe_non (nomark _)) (pss_one (ps_ret pe_bl)) pss_nil)
      (pss_cons (ps_for PassesOwn.never rfl (pi_list (pv 0)) (pg_name (i := 2) nd rfl (by first | exact Or.inl rfl | exact Or.inr rfl)) pss_never)
      (pss_one (ps_ret pe_bl)))), ?_⟩
  clear nd hr
  replace h := sp2_of h
  obtain ⟨v_needed, v_held, rfl, h⟩ := h

  rcases h with ⟨rfl, k⟩ | ⟨p, rfl, hp, k⟩
  · exact ⟨_, rfl, rfl, _, rfl, iteB (fun _ => k) (fun g => nomatch g)⟩
  · refine ⟨_, rfl, rfl, _, rfl, iteB (fun g => nomatch g) (fun _ => ?_)⟩
    refine ⟨_, rfl, p, rfl, ⟨_, SqL.of hp⟩, ?_⟩
    refine for_it (walk_list (xs := [])) (fun i σ' H' => σ' = [some (.ref p), some v_held, none] ∧ H' = H) ⟨rfl, rfl⟩ (fun i σ' H' _ h => by rw [h.2]; exact SqL.of hp) (fun i x σ' H' H'' hi => absurd hi (Nat.not_lt_zero i)) ?_
    rintro σ' H' ⟨rfl, rfl⟩
    exact k
theorem ok_check_table (T : Txt K mg A) : FnOk P w K mg base CX0 8 A.f_check_table A.d_check_table ["writer", "reader", "thing"] (sp_check_table K A) := by
  refine T.F_check_table.ok sc_check_table (fun vs H Q E h => sp3_len h) (fun cdv A0 outer s H vs Q E hr h => ?_)
  have nd := sc_check_table.nd
  refine ⟨_, (pss_cons (ps_if (pt_not (pt_val (pe_callB call_isi (by rfl) T.b_isinstance (by decide +kernel) (pa_cons (pv 2) (pa_cons (pe_bltn (v := .ty "list") (by rfl) T.b_list (by decide +kernel) rfl) pa_nil))))) (pss_one (ps_ret pe_bl)) pss_nil)
      (pss_cons (ps_set (i := 3) nd rfl (by first | exact Or.inl rfl | exact Or.inr rfl) pe_dnewK)
      (pss_cons (ps_for PassesOwn.never rfl (pi_list (pv 2)) (pg_name (i := 4) nd rfl (by first | exact Or.inl rfl | exact Or.inr rfl)) (pss_cons (ps_if (PW.pt (pw_or (pt_not (pt_val (pe_call (ok_is_triple T) (hr.mono (by decide)) (by rfl) T.mg_is_triple T.k_is_triple T.b_is_triple .nil pass0 (pa_cons (pv 0) (pa_cons (pv 1) (pa_cons (pv 4) pa_nil)))))) (pw_or1 (pt_cmp (pc_din (hu_of hr) (pv 4) (pv 3)))))) (pss_one (ps_ret pe_bl)) pss_nil)
      pss_never))
      (pss_cons (ps_set (i := 5) nd rfl (by first | exact Or.inl rfl | exact Or.inr rfl) (pe_make T.mk_Needs (ok_Needs___init__ T) (hr.mono (by decide)) (by rfl) T.mg_Needs T.b_Needs___init__ .nil pass0 (pa_cons (pv 0) (pa_cons (pv 1) pa_nil))))
      (pss_cons (ps_if (pt_not (pt_val (pe_call (ok_are_kept T) (hr.mono (by decide)) (by rfl) T.mg_are_kept T.k_are_kept T.b_are_kept .nil pass0 (pa_cons (pe_meth0 (pv 5) T.cl_Needs ⟨T.m_Needs_of_roots, T.i_Needs_of_roots, T.k_Needs_of_roots⟩ (ok_Needs_of_roots T) (hr.mono (by decide)) T.b_Needs_of_roots .nil pass0 ) (pa_cons (pv 3) pa_nil))))) (pss_one (ps_ret pe_bl)) pss_nil)
      (pss_one (ps_ret (pe_callB (cr_all rfl) (by rfl) T.b_all (by decide +kernel) (pa_cons (pe_lc (own := [("triple", 4)]) (g := gName 4) (tt := tYes) (by rfl) nd (pi_list (pv 2)) (blkOk_by (own := [("triple", 4)]) (N := ["writer", "reader", "thing", "held", "triple", "needs"]) (sc := defScope s_check_table) (by decide +kernel)) (fun _ _ _ _ _ => pg_name (i := 4) nd rfl (by first | exact Or.inl rfl | exact Or.inr rfl)) (fun _ _ _ _ _ => pts_nil) (fun _ _ _ _ _ => (pe_call (ok_are_kept T) (hr.mono (by decide)) (by rfl) T.mg_are_kept T.k_are_kept T.b_are_kept .nil pass0 (pa_cons (pe_meth (pv 5) T.cl_Needs ⟨T.m_Needs_of_triple, T.i_Needs_of_triple, T.k_Needs_of_triple⟩ (ok_Needs_of_triple T) (hr.mono (by decide)) T.b_Needs_of_triple .nil pass0 (pa_cons (pv 4) pa_nil)) (pa_cons (pv 3) pa_nil))))) pa_nil))))))))), ?_⟩
  clear nd hr
  replace h := sp3_of h
  obtain ⟨v_writer, v_reader, v_thing, rfl, h⟩ := h

  obtain ⟨x, y, tb, tb2, r, r2, c, c2, rk, rk2, l1, l2, o, rfl, rfl, ask, ex, ey, rm1, lf1, rm2, lf2, k⟩ := h
  have lst : ∀ {p : Addr}, VT K H (.ref p) (.type "list") → isa (.type "list") (.type "list") = true := fun _ => by decide
  cases ask with
  | non =>
    have hv : VT K H .non (.type "NoneType") := .non
    exact ⟨_, rfl, _, _, _, _, _, rfl, .ty _, hv.tyx, kit_isa hv.tag (by decide), _, rfl, iteB (fun _ => k H (fun _ _ z => z)) (fun g => absurd g (by decide))⟩
  | tup hp =>
    have hv := VT.tup (K := K) hp
    exact ⟨_, rfl, _, _, _, _, _, rfl, .ty _, hv.tyx, kit_isa hv.tag (by decide), _, rfl, iteB (fun _ => k H (fun _ _ z => z)) (fun g => absurd g (by decide))⟩
  | lst hp =>
    rename_i p
    have hv := VT.lst (K := K) hp
    refine ⟨_, rfl, _, _, _, _, _, rfl, .ty _, hv.tyx, kit_isa hv.tag (by decide), _, rfl, iteB (fun g => absurd g (by decide)) (fun _ => ?_)⟩
    refine fun d hd => ?_
    have e1 := same_new (o := .dK []) hd
    have hd1 : (upd H d (.dK [])) d = some (.dK []) := upd_same
    have hp1 := e1 _ _ hp
    generalize upd H d (.dK []) = H1 at e1 hd1 hp1
    refine ⟨_, rfl, p, rfl, ⟨_, SqL.of hp1⟩, ?_⟩
    refine for_it (walk_list (xs := [])) (fun i σ' H' => σ' = [some (.ref x), some (.ref y), some (.ref p), some (.ref d), none, none] ∧ H' = H1) ⟨rfl, rfl⟩ (fun i σ' H' _ h => by rw [h.2]; exact SqL.of hp1) (fun i x σ' H' H'' hi => absurd hi (Nat.not_lt_zero i)) ?_
    rintro σ' H' ⟨rfl, rfl⟩
    refine ⟨_, rfl, _, rfl, fun nn dn hnn hdn ne => ⟨_, _, _, rfl, H', nn, x, y, rfl, Fresh.mk' hnn hdn ne, rfl, rfl, fun H2 nd e2 => ⟨rfl, ?_⟩⟩⟩
    obtain ⟨dn1, hn⟩ := nd
    have e12 := e1.trans e2
    refine ⟨_, rfl, nn, dn1, _, rfl, hn, nds_no ⟨by decide +kernel, by decide +kernel⟩, ?_⟩
    refine ⟨_, rfl, nn, x, y, tb, tb2, r, r2, c, c2, rk, rk2, l1, l2, rfl, ⟨dn1, hn⟩, ex.same e12, ey.same e12, rm1, lf1, rm2, lf2, ?_⟩
    unfold Needed
    rw [show Option.getD none (alL l1 l2) = alL l1 l2 from rfl] at k
    cases ea : alL l1 l2 with
    | false =>
      rw [ea] at k
      exact iteF fun H3 e3 => ⟨_, rfl, _, _, rfl, .inl ⟨rfl, _, rfl, iteB (fun _ => k H3 (e12.trans e3)) (fun g => nomatch g)⟩⟩
    | true =>
      rw [ea] at k
      refine iteY fun q H3 hq hq0 e3 => ⟨_, rfl, _, _, rfl, .inr ⟨q, rfl, hq, _, rfl, iteB (fun g => nomatch g) (fun _ => ?_)⟩⟩
      have hp3 := e3 _ _ (e2 _ _ hp1)
      refine ⟨_, rfl, p, rfl, ⟨_, SqL.of hp3⟩, fun D hD => ?_⟩
      refine lc_it (walk_list (xs := [])) (fun i H4 => H4 D = some (.lst []) ∧ Same H3 H4) ⟨upd_same, same_new hD⟩ (fun i H4 _ h => SqL.of (h.2 _ _ hp3)) (fun i x H4 H5 hi => absurd hi (Nat.not_lt_zero i)) ?_
      rintro H4 ⟨hD4, e4⟩
      exact ⟨D, [], rfl, SqL.of hD4, k H4 ((e12.trans e3).trans e4)⟩
  | one hp ht he he2 no =>
    rename_i p t n n2 k1 k2
    have hv := VT.lst (K := K) hp
    refine ⟨_, rfl, _, _, _, _, _, rfl, .ty _, hv.tyx, kit_isa hv.tag (by decide), _, rfl, iteB (fun g => absurd g (by decide)) (fun _ => ?_)⟩
    refine fun d hd => ?_
    have e1 := same_new (o := .dK []) hd
    have hp1 := e1 _ _ hp
    generalize upd H d (.dK []) = H1 at e1 hp1
    refine ⟨_, rfl, p, rfl, ⟨_, SqL.of hp1⟩, ?_⟩
    refine for_it (walk_list (xs := [.ref t])) (fun i σ' H' => i = 0 ∧ σ' = [some (.ref x), some (.ref y), some (.ref p), some (.ref d), none, none] ∧ H' = H1) ⟨rfl, rfl, rfl⟩ (fun i σ' H' _ h => by rw [h.2.2]; exact SqL.of hp1) ?_ ?_
    · rintro i xv σ' H' H'' hi ⟨rfl, rfl, rfl⟩ ⟨rfl, hxv⟩
      have exv : xv = .ref t := (Option.some.inj hxv).symm
      subst exv
      refine ⟨_, rfl, _, rfl, _, rfl, _, _, _, rfl, x, y, t, tb, tb2, r, r2, n, n2, c, c2, rk, rk2, k1, k2, rfl, rfl, rfl, e1 _ _ ht, ex.same e1, ey.same e1, he, he2, fun H3 e3 => ?_⟩
      rw [no]
      exact ⟨_, rfl, iteB (fun _ => k H3 (e1.trans e3)) (fun g => nomatch g)⟩
    · rintro σ' H' ⟨h0, _⟩
      cases h0
theorem ok_inner_kinds (T : Txt K mg A) : FnOk P w K mg base CX0 1 A.f_inner_kinds A.d_inner_kinds ["kind"] (sp_inner_kinds K A) := by
  refine T.F_inner_kinds.ok sc_inner_kinds (fun vs H Q E h => sp1_len h) (fun cdv A0 outer s H vs Q E hr h => ?_)
  have nd := sc_inner_kinds.nd
  refine ⟨_, (pss_cons (ps_if (pt_val (pe_callB call_isi (by rfl) T.b_isinstance (by decide +kernel) (pa_cons (pv 0) (pa_cons (pe_glob (v := .ref A.c_Choice) (by rfl) T.mg_Choice rfl) pa_nil)))) (pss_one (ps_ret (pe_lc (own := [("way", 1)]) (g := gName 1) (by rfl) nd (pi_tup (pe_fld (pv 0) rfl)) (blkOk_by (own := [("way", 1)]) (N := ["kind", "way", "part"]) (sc := defScope s_inner_kinds) (by decide +kernel)) (fun _ _ _ _ _ => pg_name (i := 1) nd rfl (by first | exact Or.inl rfl | exact Or.inr rfl)) (fun _ _ _ _ _ => pts_one (pt_cmpR op_notN (pe_fldK (K := K) rfl (pv 1) rfl) pe_non (nomark _))) (fun _ _ _ _ _ => (pe_fldK (K := K) rfl (pv 1) rfl))))) pss_nil)
      (pss_cons (ps_if (pt_val (pe_callB call_isi (by rfl) T.b_isinstance (by decide +kernel) (pa_cons (pv 0) (pa_cons (pe_glob (v := .ref A.c_Row) (by rfl) T.mg_Row rfl) pa_nil)))) (pss_one (ps_ret (pe_lc (own := [("part", 2)]) (g := gName 2) (by rfl) nd (pi_tup (pe_fld (pv 0) rfl)) (blkOk_by (own := [("part", 2)]) (N := ["kind", "way", "part"]) (sc := defScope s_inner_kinds) (by decide +kernel)) (fun _ _ _ _ _ => pg_name (i := 2) nd rfl (by first | exact Or.inl rfl | exact Or.inr rfl)) (fun _ _ _ _ _ => pts_one (pt_cmpR op_notN (pe_fldK (K := K) rfl (pv 2) rfl) pe_non (nomark _))) (fun _ _ _ _ _ => (pe_fldK (K := K) rfl (pv 2) rfl))))) pss_nil)
      (pss_one (ps_ret (pe_lst (pa_cons (pv 0) pa_nil)))))), ?_⟩
  clear nd hr
  replace h := sp1_of h
  obtain ⟨v_kind, rfl, h⟩ := h

  obtain ⟨k0, hk, top, k⟩ := h
  refine ⟨_, rfl, _, _, _, _, _, rfl, .own _, (KAt.vt T hk).tyx, kit_isaO (KAt.vt T hk).tag (T.kco .choice), _, rfl, iteB (fun g => ?_) (fun g => ?_)⟩
  · have ec : decide (Kd.cls k0 = some .choice) = true := isa_cls (t := .k k0) (c := .choice) T g
    cases hk with
    | choice ob e ks o =>
      obtain ⟨dx, fs, hx, lx⟩ := ob
      dsimp only [tRet]
      refine lc_tupF (fun H v k => KAt A H v k) (fun H1 H2 v b e h => h.keep (KI.same e)) (fun D H1 ws v v' b h q => q.keep (KI.setL h)) (fun z => notNon (inK z)) inK (fun v z => KAt A H v z) (fun Q' q => ⟨_, rfl, _, _, dx, fs, _, rfl, hx, T.cl_Choice, T.n_Choice_ways, lx _ (List.mem_cons_self ..), q⟩) e (kats_pair ks) (by rw [pair_lenE (kats_pair ks)]; have := of_decide_eq_true top; omega) (fun x => rfl) ?_ ?_ ?_
      · intro x z H1 Q hz mz e1 q
        obtain ⟨y, C, dy, gs, u, rfl, hy, cC, nC, hu, ku⟩ := wd_kind T hz (.inl (o z mz))
        refine ⟨_, rfl, y, C, dy, gs, u, rfl, e1 _ _ hy, cC, nC, hu, rfl, ?_⟩
        rw [non_kd ku]
        exact ⟨_, rfl, q⟩
      · intro x z H1 Q hz mz _ e1 q
        obtain ⟨y, C, dy, gs, u, rfl, hy, cC, nC, hu, ku⟩ := wd_kind T hz (.inl (o z mz))
        exact ⟨_, rfl, y, C, dy, gs, u, rfl, e1 _ _ hy, cC, nC, hu, q _ _ (fun _ _ z => z) (ku.keep (KI.same e1))⟩
      · intro D ws H' hD hD0 e1 pw
        refine k D ws H' hD hD0 e1 (kats_ofp ?_)
        show Paired _ ws ((List.map inK _).filter notNon)
        rw [List.filter_map]
        exact pw
    | _ => cases of_decide_eq_true ec
  refine ⟨_, rfl, _, _, _, _, _, rfl, .own _, (KAt.vt T hk).tyx, kit_isaO (KAt.vt T hk).tag (T.kco .row), _, rfl, iteB (fun g2 => ?_) (fun g2 => ?_)⟩
  · have ec : decide (Kd.cls k0 = some .row) = true := isa_cls (t := .k k0) (c := .row) T g2
    cases hk with
    | row ob e ks o =>
      obtain ⟨dx, fs, hx, lx⟩ := ob
      dsimp only [tRet]
      refine lc_tupF (fun H v k => KAt A H v k) (fun H1 H2 v b e h => h.keep (KI.same e)) (fun D H1 ws v v' b h q => q.keep (KI.setL h)) (fun z => notNon (inK z)) inK (fun v z => KAt A H v z) (fun Q' q => ⟨_, rfl, _, _, dx, fs, _, rfl, hx, T.cl_Row, T.n_Row_parts, lx _ (List.mem_cons_self ..), q⟩) e (kats_pair ks) (by rw [pair_lenE (kats_pair ks)]; have := of_decide_eq_true top; omega) (fun x => rfl) ?_ ?_ ?_
      · intro x z H1 Q hz mz e1 q
        obtain ⟨y, C, dy, gs, u, rfl, hy, cC, nC, hu, ku⟩ := wd_kind T hz (.inr (o z mz))
        refine ⟨_, rfl, y, C, dy, gs, u, rfl, e1 _ _ hy, cC, nC, hu, rfl, ?_⟩
        rw [non_kd ku]
        exact ⟨_, rfl, q⟩
      · intro x z H1 Q hz mz _ e1 q
        obtain ⟨y, C, dy, gs, u, rfl, hy, cC, nC, hu, ku⟩ := wd_kind T hz (.inr (o z mz))
        exact ⟨_, rfl, y, C, dy, gs, u, rfl, e1 _ _ hy, cC, nC, hu, q _ _ (fun _ _ z => z) (ku.keep (KI.same e1))⟩
      · intro D ws H' hD hD0 e1 pw
        refine k D ws H' hD hD0 e1 (kats_ofp ?_)
        show Paired _ ws ((List.map inK _).filter notNon)
        rw [List.filter_map]
        exact pw
    | _ => cases of_decide_eq_true ec
  have n1 : decide (Kd.cls k0 = some .choice) = false := isa_cls (t := .k k0) (c := .choice) T g
  have n2 : decide (Kd.cls k0 = some .row) = false := isa_cls (t := .k k0) (c := .row) T g2
  refine ⟨_, rfl, (by show 1 ≤ sizeLine; rw [sizeLine_eq]; decide), fun p hp => k p _ _ upd_same hp (same_new hp) ?_⟩
  have e : innersK k0 = [k0] := by
    cases k0 <;> first | rfl | exact absurd rfl (of_decide_eq_false n1) | exact absurd rfl (of_decide_eq_false n2)
  rw [e]
  exact .cons (hk.keep (KI.new hp)) .nil
theorem ok_called (T : Txt K mg A) : FnOk P w K mg base CX0 2 A.f_called A.d_called ["kind"] (sp_called K A) := by
  refine T.F_called.ok sc_called (fun vs H Q E h => sp1_len h) (fun cdv A0 outer s H vs Q E hr h => ?_)
  have nd := sc_called.nd
  refine ⟨_, (pss_cons (ps_set (i := 1) nd rfl (by first | exact Or.inl rfl | exact Or.inr rfl) (pe_lst pa_nil))
      (pss_cons (ps_for PassesOwn.never rfl (pi_list (pe_call (ok_inner_kinds T) (hr.mono (by decide)) (by rfl) T.mg_inner_kinds T.k_inner_kinds T.b_inner_kinds .nil pass0 (pa_cons (pv 0) pa_nil))) (pg_name (i := 2) nd rfl (by first | exact Or.inl rfl | exact Or.inr rfl)) (Evl.pss_cut (ps_if (pt_val (pe_callB call_isi (by rfl) T.b_isinstance (by decide +kernel) (pa_cons (pv 2) (pa_cons (pe_glob (v := .ref A.c_Items) (by rfl) T.mg_Items rfl) pa_nil)))) (pss_one (ps_set (i := 2) nd rfl (by first | exact Or.inl rfl | exact Or.inr rfl) (pe_fld (pv 2) rfl))) pss_nil)
      (pss_one (ps_if (pt_val (pe_callB call_isi (by rfl) T.b_isinstance (by decide +kernel) (pa_cons (pv 2) (pa_cons (pe_glob (v := .ref A.c_Call) (by rfl) T.mg_Call rfl) pa_nil)))) (pss_one (ps_expr (pe_bm PySem.F.plainAttrs_list PySem.F.slot_list_append PySem.F.type_list_append mt_append (pv 1) (pa_cons (pe_fld (pv 2) rfl) pa_nil)))) pss_nil))))
      (pss_one (ps_ret (pv 1))))), ?_⟩
  clear nd hr
  replace h := sp1_of h
  obtain ⟨v_kind, rfl, h⟩ := h

  obtain ⟨k0, hk, top, k⟩ := h
  refine ⟨(by show 0 ≤ sizeLine; rw [sizeLine_eq]; decide), fun p hp => ?_⟩
  refine ⟨_, rfl, _, rfl, k0, hk.keep (KI.new hp), top, fun q us H1 hq hq0 e1 hus => ?_⟩
  have hp1 : H1 p = some (.lst []) := e1 _ _ upd_same
  have npq : q ≠ p := fun z => by rw [z, upd_same] at hq0; cases hq0
  have lus := pair_lenE (kats_pair hus)
  have hlen := inners_len top
  refine ⟨q, rfl, ⟨_, SqL.of hq⟩, ?_⟩
  refine for_it (walk_list (xs := us)) (fun i σ' H' => ∃ inn, σ' = [some v_kind, some (.ref p), inn] ∧ H' p = some (.lst ((((innersK k0).take i).flatMap callOf).map V.str)) ∧ H' q = some (.lst us) ∧ KAts A H' us (innersK k0) ∧ Same H H') ⟨_, rfl, hp1, hq, hus, (same_new hp).trans e1⟩ (fun i σ' H' _ ⟨_, _, _, h, _⟩ => SqL.of h) ?_ ?_
  · rintro i x σ' H4 H4' hi ⟨inn, rfl, hp4, hq4, hus4, e4⟩ ⟨rfl, hx⟩
    obtain ⟨z, hz, hkz⟩ := pair_atE (kats_pair hus4) hx
    have tk : (innersK k0).take (i + 1) = (innersK k0).take i ++ [z] := by rw [List.take_succ, hz]; rfl
    have lacc : (((innersK k0).take i).flatMap callOf).length ≤ 12 := by
      refine Nat.le_trans (calls_le _) ?_
      have := List.length_take_le i (innersK k0)
      omega
    refine ⟨fun s' h' => ∃ u kk, s' = [some v_kind, some (.ref p), some u] ∧ h' = H4' ∧ KAt A H4' u kk ∧ callOf z = callOf1 kk, ?_, ?_⟩
    · refine ⟨_, rfl, _, _, _, _, _, rfl, .own _, (KAt.vt T hkz).tyx, kit_isaO (KAt.vt T hkz).tag (T.kco .items), _, rfl, iteB (fun g => ?_) (fun g => ?_)⟩
      · have ec : decide (Kd.cls z = some .items) = _ := isa_cls (t := .k z) (c := .items) T g
        cases hkz with
        | items ob hi0 o =>
          obtain ⟨dx, fs, hx0, lx⟩ := ob
          exact ⟨_, rfl, _, _, dx, fs, _, rfl, hx0, T.cl_Items, T.n_Items_item, lx _ (List.mem_cons_self ..), _, _, rfl, rfl, hi0, call_item o⟩
        | _ => cases of_decide_eq_true ec
      · have ec : decide (Kd.cls z = some .items) = _ := isa_cls (t := .k z) (c := .items) T g
        exact ⟨_, z, rfl, rfl, hkz, by cases z <;> first | rfl | cases ec⟩
    rintro s' h' ⟨u, kk, rfl, rfl, hu, ecall⟩
    refine ⟨_, rfl, _, _, _, _, _, rfl, .own _, (KAt.vt T hu).tyx, kit_isaO (KAt.vt T hu).tag (T.kco .call), _, rfl, iteB (fun g => ?_) (fun g => ?_)⟩
    · have ec : decide (Kd.cls kk = some .call) = _ := isa_cls (t := .k kk) (c := .call) T g
      cases hu with
      | call ob =>
        obtain ⟨dx, fs, hx0, lx⟩ := ob
        refine ⟨_, rfl, .inl ⟨rfl, _, SqL.of hp4⟩, _, rfl, _, _, dx, fs, _, rfl, hx0, T.cl_Call, T.n_Call_name, lx _ (List.mem_cons_self ..), p, (((innersK k0).take i).flatMap callOf).map V.str, _, rfl, rfl, hp4, by rw [sizeLine_eq, List.length_map]; omega, _, rfl, ?_, ?_, ?_, ?_⟩
        · rw [upd_same, tk, List.flatMap_append, List.map_append]
          simp [ecall, callOf1]
        · rw [upd_ne npq]
          exact hq4
        · exact KAts.keep (KI.setL hp4) hus4
        · exact same_put hp e4
      | _ => cases of_decide_eq_true ec
    · have ec : decide (Kd.cls kk = some .call) = _ := isa_cls (t := .k kk) (c := .call) T g
      refine ⟨_, rfl, ?_, hq4, hus4, e4⟩
      rw [tk, List.flatMap_append, List.map_append]
      have e0 : callOf1 kk = [] := by cases kk <;> first | rfl | cases ec
      simp [ecall, e0]
      exact hp4
  · rintro σ' H4 ⟨inn, rfl, hp4, hq4, hus4, e4⟩
    rw [lus, List.take_length] at hp4
    exact ⟨_, rfl, k p H4 hp4 hp e4⟩
theorem ok_reached (T : Txt K mg A) : FnOk P w K mg base CX0 3 A.f_reached A.d_reached ["table", "name"] (sp_reached K A) := by
  refine T.F_reached.ok sc_reached (fun vs H Q E h => sp2_len h) (fun cdv A0 outer s H vs Q E hr h => ?_)
  have nd := sc_reached.nd
  refine ⟨_, (pss_cons (ps_set (i := 2) nd rfl (by first | exact Or.inl rfl | exact Or.inr rfl) (pe_lst pa_nil))
      (pss_cons (ps_set (i := 3) nd rfl (by first | exact Or.inl rfl | exact Or.inr rfl) (pe_call (ok_called T) (hr.mono (by decide)) (by rfl) T.mg_called T.k_called T.b_called .nil pass0 (pa_cons (pe_dget (hu_of hr) (pv 0) (pv 1) (fun _ _ => rfl)) pa_nil)))
      (pss_cons (ps_while PassesOwn.never (pt_cmpR op_gt (pe_callB call_len (by rfl) T.b_len (by decide +kernel) (pa_cons (pv 3) pa_nil)) pe_int (nomark _)) (pss_cons (ps_set (i := 4) nd rfl (by first | exact Or.inl rfl | exact Or.inr rfl) (pe_bm0 PySem.F.plainAttrs_list PySem.F.slot_list_pop PySem.F.type_list_pop mt_pop (pv 3)))
      (pss_one (ps_if (pt_cmpR op_notIn_seq (pv 4) (pv 2) (by rfl)) (pss_cons (ps_expr (pe_bm PySem.F.plainAttrs_list PySem.F.slot_list_append PySem.F.type_list_append mt_append (pv 2) (pa_cons (pv 4) pa_nil)))
      (pss_one (ps_expr (pe_bm PySem.F.plainAttrs_list PySem.F.slot_list_extend PySem.F.type_list_extend mt_extend (pv 3) (pa_cons (pe_call (ok_called T) (hr.mono (by decide)) (by rfl) T.mg_called T.k_called T.b_called .nil pass0 (pa_cons (pe_dget (hu_of hr) (pv 0) (pv 4) (fun _ _ => rfl)) pa_nil)) pa_nil))))) pss_nil))))
      (pss_one (ps_ret (pv 2)))))), ?_⟩
  clear nd hr
  replace h := sp2_of h
  obtain ⟨v_table, v_name, rfl, h⟩ := h

  obtain ⟨p, tb, kvs, x, rfl, rfl, ht, top, nd, l20, nomiss, hx, k⟩ := h
  refine ⟨(by show 0 ≤ sizeLine; rw [sizeLine_eq]; decide), fun f hf => ?_⟩
  have e1 : Same H (upd H f (.lst [])) := same_new hf
  obtain ⟨k1, v1, hl1, hk1, hg1⟩ := (ht.same e1).get hx
  have etop := top.look hl1
  refine ⟨_, rfl, _, rfl, p, v1, rfl, hg1, _, rfl, k1, hk1, etop, fun w H2 hw hw0 e2 => ?_⟩
  have hf2 := e2 _ _ upd_same
  have nfw : f ≠ w := ne_of_none upd_same hw0
  have hwH : H w = none := by rw [upd_ne nfw.symm] at hw0; exact hw0
  refine ⟨fun m σ' H' => ∃ (fs ws : List Str) (a4 : Option V), σ' = [some (.ref p), some (.str x), some (.ref f), some (.ref w), a4] ∧ H' f = some (.lst (fs.map V.str)) ∧ H' w = some (.lst (ws.map V.str)) ∧ Same H H' ∧ m = (20 - fs.length) * 20 + ws.length ∧ fs.Nodup ∧ (∀ y ∈ fs, y ∈ tb.names) ∧ (∀ y ∈ ws, y ∈ tb.names) ∧
    (∀ y, y ∈ fs ∨ y ∈ ws → Reach tb x y) ∧ (∀ c ∈ callsK k1, c ∈ fs ∨ c ∈ ws) ∧ (∀ b ∈ fs, ∀ kk, tb.lookup b = some kk → ∀ c ∈ callsK kk, c ∈ fs ∨ c ∈ ws) ∧ ws.length ≤ 12 + 12 * fs.length,
    ⟨_, [], callsK k1, _, rfl, hf2, hw, e1.trans e2, rfl, List.nodup_nil, (fun y hy => nomatch hy), (fun y hy => miss_calls nomiss hl1 y hy), (fun y hy => hy.elim (fun z => nomatch z) fun z => .one hl1 z), (fun c hc => .inr hc), (fun b hb => nomatch hb), by have := calls_len etop; simp; omega⟩, ?_⟩
  rintro m σ' H3 ⟨fs, ws, a4, rfl, hf3, hw3, e3, rfl, fnd, fin, win, hre, hc1, hc2, lws⟩
  have lfs : fs.length ≤ 20 := Nat.le_trans (nodup_le fnd fin) (by rw [show tb.names.length = tb.length from List.length_map ..]; exact l20)
  refine ⟨_, rfl, _, _, rfl, .inl ⟨_, SqL.of hw3, rfl⟩, _, _, rfl, rfl, _, rfl, iteB (fun g => ?_) (fun g => ?_)⟩
  · have lpos : 0 < ws.length := by
      have := of_decide_eq_true g
      rw [List.length_map] at this
      omega
    obtain ⟨y, hy⟩ : ∃ y, ws[ws.length - 1]? = some y := ⟨_, List.getElem?_eq_getElem (by omega)⟩
    have hyw := List.mem_of_getElem? hy
    have ews : ws = ws.dropLast ++ [y] := last_app hy
    refine ⟨fun σ' H' => ∃ m', m' < (20 - fs.length) * 20 + ws.length ∧ ∃ (fs ws : List Str) (a4 : Option V), σ' = [some (.ref p), some (.str x), some (.ref f), some (.ref w), a4] ∧ H' f = some (.lst (fs.map V.str)) ∧ H' w = some (.lst (ws.map V.str)) ∧ Same H H' ∧ m' = (20 - fs.length) * 20 + ws.length ∧ fs.Nodup ∧ (∀ y ∈ fs, y ∈ tb.names) ∧ (∀ y ∈ ws, y ∈ tb.names) ∧
    (∀ y, y ∈ fs ∨ y ∈ ws → Reach tb x y) ∧ (∀ c ∈ callsK k1, c ∈ fs ∨ c ∈ ws) ∧ (∀ b ∈ fs, ∀ kk, tb.lookup b = some kk → ∀ c ∈ callsK kk, c ∈ fs ∨ c ∈ ws) ∧ ws.length ≤ 12 + 12 * fs.length, fun σ' H' h => h, ?_⟩
    refine ⟨_, rfl, .inl ⟨rfl, _, SqL.of hw3⟩, w, _, _, rfl, rfl, hw3, (by rw [List.length_map, List.getElem?_map, hy]; rfl), ?_⟩
    rw [← List.map_dropLast]
    have hw4 : (upd H3 w (.lst (ws.dropLast.map V.str))) w = some (.lst (ws.dropLast.map V.str)) := upd_same
    have hf4 : (upd H3 w (.lst (ws.dropLast.map V.str))) f = some (.lst (fs.map V.str)) := by rw [upd_ne nfw]; exact hf3
    have e4 : Same H (upd H3 w (.lst (ws.dropLast.map V.str))) := same_put hwH e3
    generalize upd H3 w (.lst (ws.dropLast.map V.str)) = H4 at hw4 hf4 e4
    have ld : ws.dropLast.length = ws.length - 1 := List.length_dropLast
    have mem : ∀ c, c ∈ ws → c = y ∨ c ∈ ws.dropLast := fun c hc => by
      rw [ews] at hc
      rcases List.mem_append.mp hc with q | q
      · exact .inr q
      · exact .inl (List.mem_singleton.mp q)
    have mem2 : ∀ c, c ∈ ws.dropLast → c ∈ ws := fun c hc => by rw [ews]; exact List.mem_append_left _ hc
    refine ⟨_, rfl, _, rfl, f, _, rfl, .inl (SqL.of hf4), rfl, flat_strsE _, _, rfl, ?_⟩
    show if (!inV (.str y) (fs.map V.str)) = true then _ else _
    rw [inV_strE]
    refine iteB (fun g2 => ?_) (fun g2 => ?_)
    · have hnf : y ∉ fs := by simpa using g2
      obtain ⟨k2, v2, hl2, hk2, hg2⟩ := (ht.same (same_put (o := .lst (fs.map V.str ++ [V.str y])) hf e4)).get (win y hyw)
      have etop2 := top.look hl2
      refine ⟨_, rfl, .inl ⟨rfl, _, SqL.of hf4⟩, _, rfl, f, _, _, rfl, rfl, hf4, by rw [sizeLine_eq, List.length_map]; omega, ?_⟩
      have hw5 : (upd H4 f (.lst (fs.map V.str ++ [V.str y]))) w = some (.lst (ws.dropLast.map V.str)) := by rw [upd_ne nfw.symm]; exact hw4
      refine ⟨_, rfl, .inl ⟨rfl, _, SqL.of hw5⟩, _, rfl, _, rfl, p, v2, rfl, hg2, _, rfl, k2, hk2, etop2, fun q H5 hq hq0 e5 => ?_⟩
      have hf5 := e5 _ _ upd_same
      have hw6 := e5 _ _ hw5
      have nwq : w ≠ q := ne_of_none hw5 hq0
      have c12 := calls_len etop2
      have lf2 : (fs ++ [y]).length ≤ 20 := Nat.le_trans (nodup_le (nodup_snocE fnd hnf) (m := tb.names) fun z hz => by
        rcases List.mem_append.mp hz with q | q
        · exact fin z q
        · rw [List.mem_singleton.mp q]; exact win y hyw) (by rw [show tb.names.length = tb.length from List.length_map ..]; exact l20)
      rw [List.length_append, List.length_singleton] at lf2
      refine ⟨w, q, _, _, rfl, rfl, hw6, hq, by rw [sizeLine_eq, List.length_map, List.length_map]; omega, ?_⟩
      refine ⟨_, ?_, fs ++ [y], ws.dropLast ++ callsK k2, _, rfl, ?_, ?_, ?_, rfl, nodup_snocE fnd hnf, ?_, ?_, ?_, ?_, ?_, ?_⟩
      · rw [List.length_append, List.length_append, List.length_singleton]
        omega
      · rw [upd_ne nfw, List.map_append]
        exact hf5
      · rw [upd_same, List.map_append]
      · exact same_put hwH ((same_put hf e4).trans e5)
      · intro z hz
        rcases List.mem_append.mp hz with q | q
        · exact fin z q
        · rw [List.mem_singleton.mp q]; exact win y hyw
      · intro z hz
        rcases List.mem_append.mp hz with q | q
        · exact win z (mem2 z q)
        · exact miss_calls nomiss hl2 z q
      · intro z hz
        rcases hz with q | q
        · rcases List.mem_append.mp q with q | q
          · exact hre z (.inl q)
          · rw [List.mem_singleton.mp q]; exact hre y (.inr hyw)
        · rcases List.mem_append.mp q with q | q
          · exact hre z (.inr (mem2 z q))
          · exact .more (hre y (.inr hyw)) hl2 q
      · intro c hc
        rcases hc1 c hc with q | q
        · exact .inl (List.mem_append_left _ q)
        · rcases mem c q with q | q
          · rw [q]; exact .inl (List.mem_append_right _ (List.mem_singleton.mpr rfl))
          · exact .inr (List.mem_append_left _ q)
      · intro b hb kk hkk c hc
        rcases List.mem_append.mp hb with hb | hb
        · rcases hc2 b hb kk hkk c hc with q | q
          · exact .inl (List.mem_append_left _ q)
          · rcases mem c q with q | q
            · rw [q]; exact .inl (List.mem_append_right _ (List.mem_singleton.mpr rfl))
            · exact .inr (List.mem_append_left _ q)
        · rw [List.mem_singleton.mp hb, hl2] at hkk
          have hkk := Option.some.inj hkk
          subst hkk
          exact .inr (List.mem_append_right _ hc)
      · rw [List.length_append, List.length_append, List.length_singleton]
        omega
    · have hyf : y ∈ fs := by simpa using g2
      refine ⟨_, ?_, fs, ws.dropLast, _, rfl, hf4, hw4, e4, rfl, fnd, fin, (fun z hz => win z (mem2 z hz)), ?_, ?_, ?_, ?_⟩
      · omega
      · exact fun z hz => hre z (hz.imp id (mem2 z))
      · intro c hc
        rcases hc1 c hc with q | q
        · exact .inl q
        · rcases mem c q with q | q
          · rw [q]; exact .inl hyf
          · exact .inr q
      · intro b hb kk hkk c hc
        rcases hc2 b hb kk hkk c hc with q | q
        · exact .inl q
        · rcases mem c q with q | q
          · rw [q]; exact .inl hyf
          · exact .inr q
      · omega
  · have l0 : ws = [] := by
      have := of_decide_eq_false g
      rw [List.length_map] at this
      exact List.eq_nil_of_length_eq_zero (by omega)
    subst l0
    refine ⟨_, rfl, k f fs H3 hf3 e3 fun y => ⟨fun hy => hre y (.inl hy), fun hy => ?_⟩⟩
    have none : ∀ c, c ∈ fs ∨ c ∈ ([] : List Str) → c ∈ fs := fun c hc => hc.elim id fun z => nomatch z
    induction hy with
    | one h m =>
      rw [hl1] at h
      have h := Option.some.inj h
      subst h
      exact none _ (hc1 _ m)
    | more r h m ih => exact none _ (hc2 _ ih _ h _ m)
theorem ok_missing_name (T : Txt K mg A) : FnOk P w K mg base CX0 3 A.f_missing_name A.d_missing_name ["table"] (sp_missing_name K A) := by
  refine T.F_missing_name.ok sc_missing_name (fun vs H Q E h => sp1_len h) (fun cdv A0 outer s H vs Q E hr h => ?_)
  have nd := sc_missing_name.nd
  refine ⟨_, (pss_cons (ps_set (i := 1) nd rfl (by first | exact Or.inl rfl | exact Or.inr rfl) (pe_lst pa_nil))
      (pss_cons (ps_lock (ps_for PassesOwn.never rfl (pi_keys (pv 0)) (pg_name (i := 2) nd rfl (by first | exact Or.inl rfl | exact Or.inr rfl)) (pss_one (ps_expr (pe_bm PySem.F.plainAttrs_list PySem.F.slot_list_extend PySem.F.type_list_extend mt_extend (pv 1) (pa_cons (pe_lc (own := [("one", 3)]) (g := gName 3) (by rfl) nd (pi_list (pe_call (ok_called T) (hr.mono (by decide)) (by rfl) T.mg_called T.k_called T.b_called .nil pass0 (pa_cons (pe_dget (hu_of hr) (pv 0) (pv 2) (fun _ _ => rfl)) pa_nil))) (blkOk_by (own := [("one", 3)]) (N := ["table", "missing", "name", "one"]) (sc := defScope s_missing_name) (by decide +kernel)) (fun _ _ _ _ _ => pg_name (i := 3) nd rfl (by first | exact Or.inl rfl | exact Or.inr rfl)) (fun _ _ _ _ _ => pts_one (pt_cmp (pc_dnotin (hu_of hr) (pv 3) (pv 0)))) (fun _ _ _ _ _ => (pv 3))) pa_nil))))))
      (pss_one (ps_ret (pe_callBK (cr_minT (by rfl) (hu_of hr)) (by rfl) T.b_min (by decide +kernel) (pa_cons (pv 1) pa_nil) (pk_cons pe_non pk_nil)))))), ?_⟩
  clear nd hr
  replace h := sp1_of h
  obtain ⟨v_table, rfl, h⟩ := h

  obtain ⟨p, tb, kvs, rfl, ht, hp, top, nd, l20, k⟩ := h
  refine ⟨(by show 0 ≤ sizeLine; rw [sizeLine_eq]; decide), fun m hm => ?_⟩
  have npm : m ≠ p := (ne_of_none hp hm).symm
  have hp1 : (upd H m (.lst [])) p = some (.dK kvs) := by rw [upd_ne npm.symm]; exact hp
  refine ⟨p, .dK kvs, hp1, trivial, fun od => ?_⟩
  refine ⟨_, rfl, p, od, rfl, .inl ⟨kvs, upd_same, ?_⟩⟩
  have f0 : Frz H (upd (upd H m (.lst [])) p (.frz od (.dK kvs))) p od (.dK kvs) := ⟨upd_same, fun b o n h => by rw [upd_ne n, upd_ne (ne_of_none h hm)]; exact h⟩
  have ltb := ht.len
  refine for_it (walk_keys (kvs := kvs)) (fun i σ' H' => ∃ a2 a3, σ' = [some (.ref p), some (.ref m), a2, a3] ∧ H' m = some (.lst (((tb.take i).flatMap fun x => (callsK x.2).filter fun n => decide (n ∉ tb.names)).map V.str)) ∧ Frz H H' p od (.dK kvs)) ⟨_, _, rfl, by rw [upd_ne npm]; exact upd_same, f0⟩ (fun i σ' H' _ ⟨_, _, _, _, f⟩ => f.at_) ?_ ?_
  · rintro i x σ' H4 H4' hi ⟨a2, a3, rfl, hm4, f4⟩ ⟨rfl, key, v, hkv, rfl⟩
    obtain ⟨y, hy, rfl, hkat⟩ := ents_at ht.en hkv
    have hyn := names_at hy
    have t4 := f4.tb hp ht
    obtain ⟨k1, v1, hl1, hk1, hg1⟩ := t4.get hyn
    have etop := top.look hl1
    have ek : k1 = y.2 := Option.some.inj (hl1.symm.trans (look_nd nd (List.mem_of_getElem? hy)))
    subst ek
    refine ⟨_, rfl, .inl ⟨rfl, _, SqL.of hm4⟩, _, rfl, _, rfl, p, v1, rfl, hg1, _, rfl, y.2, hk1, etop, fun q H5 hq hq0 e5 => ?_⟩
    have f5 := f4.go e5
    have t5 := f5.tb hp ht
    have hm5 := e5 _ _ hm4
    refine lc_lstG (fun _ v (b : Str) => v = V.str b) (fun _ _ _ _ _ q => q) (fun _ _ _ _ _ _ _ q => q) (fun n => decide (n ∉ tb.names)) id (fun v (n : Str) => v = V.str n) hq (strs_pair _) ?_ ?_ ?_ ?_ ?_
    · rw [List.length_map]; have := calls_len etop; omega
    · exact fun x => rfl
    · rintro x n H6 Q rfl _ e6 q
      obtain ⟨o, hg, ho⟩ := TbAt.has n (t5.same e6)
      refine ⟨_, rfl, _, rfl, p, o, rfl, hg, _, rfl, ?_⟩
      rw [ho]
      simpa using q
    · rintro x n H6 Q rfl _ _ e6 q
      exact ⟨_, rfl, q _ _ (fun _ _ z => z) rfl⟩
    · intro D ws H6 hD hD0 e6 pw
      rw [List.map_id] at pw
      have ews := pair_strs pw
      subst ews
      have hm6 := e6 _ _ hm5
      have nmD : m ≠ D := ne_of_none hm5 hD0
      have l1 : ((tb.take i).flatMap fun x => (callsK x.2).filter fun n => decide (n ∉ tb.names)).length ≤ 12 * i := miss_le top i
      have l2 := calls_len etop
      have l3 := List.length_filter_le (fun n => decide (n ∉ tb.names)) (callsK y.2)
      refine ⟨m, D, _, _, rfl, rfl, hm6, hD, by rw [sizeLine_eq, List.length_map, List.length_map]; omega, _, _, rfl, ?_, (f5.go e6).put hm npm⟩
      rw [upd_same, ← List.map_append]
      have tk : tb.take (i + 1) = tb.take i ++ [y] := by rw [List.take_succ, hy]; rfl
      rw [tk, List.flatMap_append]
      simp
  · rintro σ' H4 ⟨a2, a3, rfl, hm4, f4⟩
    refine ⟨f4.at_, ?_⟩
    have sm := f4.back hp
    have hm5 : (upd H4 p (.dK kvs)) m = some (.lst ((missK tb).map V.str)) := by
      rw [upd_ne npm]
      rw [ltb, List.take_length] at hm4
      exact hm4
    refine ⟨_, rfl, m, missK tb, .non, rfl, rfl, SqL.of hm5, fun e => ?_, fun y ys e => ?_⟩
    · have q := k _ sm
      rw [e] at q
      exact q
    · have q := k _ sm
      rw [e] at q
      exact q
theorem ok_ring_name (T : Txt K mg A) : FnOk P w K mg base CX0 4 A.f_ring_name A.d_ring_name ["table"] (sp_ring_name K A) := by
  refine T.F_ring_name.ok sc_ring_name (fun vs H Q E h => sp1_len h) (fun cdv A0 outer s H vs Q E hr h => ?_)
  have nd := sc_ring_name.nd
  refine ⟨_, (pss_cons (ps_for PassesOwn.never rfl (pi_list (pe_callB (call_sortedD rfl) (by rfl) T.b_sorted (by decide +kernel) (pa_cons (pv 0) pa_nil))) (pg_name (i := 1) nd rfl (by first | exact Or.inl rfl | exact Or.inr rfl)) (pss_one (ps_if (pt_cmpR op_in_seq (pv 1) (pe_call (ok_reached T) (hr.mono (by decide)) (by rfl) T.mg_reached T.k_reached T.b_reached .nil pass0 (pa_cons (pv 0) (pa_cons (pv 1) pa_nil))) (by rfl)) (pss_one (ps_ret (pv 1))) pss_nil)))
      (pss_one (ps_ret pe_non))), ?_⟩
  clear nd hr
  replace h := sp1_of h
  obtain ⟨v_table, rfl, h⟩ := h

  obtain ⟨p, tb, kvs, rfl, ht, top, nd, l20, nomiss, k⟩ := h
  have ln : tb.names.length = tb.length := List.length_map ..
  refine ⟨_, rfl, p, kvs, tb.names, rfl, ht.rd, ht.keys, by omega, fun ys q perm srt hq => ?_⟩
  refine ⟨q, rfl, ⟨_, SqL.of upd_same⟩, ?_⟩
  have lys := perm.length_eq
  refine for_it (walk_list (xs := ys.map V.str)) (fun i σ' H' => ∃ a2, σ' = [some (.ref p), a2] ∧ H' q = some (.lst (ys.map V.str)) ∧ Same H H' ∧ ∀ m ∈ ys.take i, ¬ Reach tb m m) ⟨_, rfl, upd_same, same_new hq, fun m hm => nomatch hm⟩ (fun i σ' H' _ ⟨_, _, h, _⟩ => SqL.of h) ?_ ?_
  · rintro i x σ' H4 H4' hi ⟨a2, rfl, hq4, e4, hno⟩ ⟨rfl, hx⟩
    rw [List.getElem?_map] at hx
    obtain ⟨y, hy, rfl⟩ := Option.map_eq_some_iff.mp hx
    have hyn : y ∈ tb.names := perm.mem_iff.mp (List.mem_of_getElem? hy)
    refine ⟨_, rfl, _, rfl, _, rfl, _, _, rfl, p, tb, kvs, y, rfl, rfl, ht.same e4, top, nd, l20, nomiss, hyn, fun w ws H5 hw e5 hre => ?_⟩
    refine ⟨w, _, rfl, .inl (SqL.of hw), rfl, flat_strsE _, _, rfl, ?_⟩
    show if inV (.str y) (ws.map V.str) = true then _ else _
    rw [inV_strE]
    refine iteB (fun g => ?_) (fun g => ?_)
    · exact ⟨_, rfl, (k H5 (e4.trans e5)).2 y ys i ⟨perm, srt⟩ hy ((hre y).mp (of_decide_eq_true g)) hno⟩
    · refine ⟨_, rfl, e5 _ _ hq4, e4.trans e5, fun m hm => ?_⟩
      have tk : ys.take (i + 1) = ys.take i ++ [y] := by rw [List.take_succ, hy]; rfl
      rw [tk] at hm
      rcases List.mem_append.mp hm with hm | hm
      · exact hno m hm
      · rw [List.mem_singleton.mp hm]
        exact fun z => of_decide_eq_false g ((hre y).mpr z)
  · rintro σ' H4 ⟨a2, rfl, hq4, e4, hno⟩
    rw [List.length_map, List.take_length] at hno
    exact (k H4 e4).1 fun n hn => hno n (perm.mem_iff.mpr hn)
theorem ok_call_order (T : Txt K mg A) : FnOk P w K mg base CX0 3 A.f_call_order A.d_call_order ["table"] (sp_call_order K A) := by
  refine T.F_call_order.ok sc_call_order (fun vs H Q E h => sp1_len h) (fun cdv A0 outer s H vs Q E hr h => ?_)
  have nd := sc_call_order.nd
  refine ⟨_, (pss_cons (ps_set (i := 1) nd rfl (by first | exact Or.inl rfl | exact Or.inr rfl) (pe_lst pa_nil))
      (pss_cons (ps_while PassesOwn.never (pt_cmpR op_lt (pe_callB call_len (by rfl) T.b_len (by decide +kernel) (pa_cons (pv 1) pa_nil)) (pe_callB call_lenD (by rfl) T.b_len (by decide +kernel) (pa_cons (pv 0) pa_nil)) (nomark _)) (pss_one (ps_for PassesOwn.never rfl (pi_list (pe_callB (call_sortedD rfl) (by rfl) T.b_sorted (by decide +kernel) (pa_cons (pv 0) pa_nil))) (pg_name (i := 2) nd rfl (by first | exact Or.inl rfl | exact Or.inr rfl)) (pss_one (ps_if (PW.pt (pw_and (pt_cmpR op_notIn_seq (pv 2) (pv 1) (by rfl)) (pw_and1 (pt_val (pe_callB (cr_all rfl) (by rfl) T.b_all (by decide +kernel) (pa_cons (pe_lc (own := [("one", 3)]) (g := gName 3) (tt := tYes) (by rfl) nd (pi_list (pe_call (ok_called T) (hr.mono (by decide)) (by rfl) T.mg_called T.k_called T.b_called .nil pass0 (pa_cons (pe_dget (hu_of hr) (pv 0) (pv 2) (fun _ _ => rfl)) pa_nil))) (blkOk_by (own := [("one", 3)]) (N := ["table", "done", "name", "one"]) (sc := defScope s_call_order) (by decide +kernel)) (fun _ _ _ _ _ => pg_name (i := 3) nd rfl (by first | exact Or.inl rfl | exact Or.inr rfl)) (fun _ _ _ _ _ => pts_nil) (fun _ _ _ _ _ => (pe_cmpR (op_in_seqK (K := K) rfl) (pv 3) (pv 1) (by rfl)))) pa_nil)))))) (pss_one (ps_expr (pe_bm PySem.F.plainAttrs_list PySem.F.slot_list_append PySem.F.type_list_append mt_append (pv 1) (pa_cons (pv 2) pa_nil)))) pss_nil)))))
      (pss_one (ps_ret (pv 1))))), ?_⟩
  clear nd hr
  replace h := sp1_of h
  obtain ⟨v_table, rfl, h⟩ := h

  obtain ⟨p, tb, kvs, rk, rfl, ht, hp, top, l20, rd, k⟩ := h
  have ln : tb.names.length = tb.length := List.length_map ..
  refine ⟨(by show 0 ≤ sizeLine; rw [sizeLine_eq]; decide), fun d hd => ?_⟩
  refine ⟨fun m σ' H' => ∃ (ds : List Str) (a2 a3 : Option V), σ' = [some (.ref p), some (.ref d), a2, a3] ∧ H' d = some (.lst (ds.map V.str)) ∧ Same H H' ∧ m = 20 - ds.length ∧ ds.Nodup ∧ (∀ y ∈ ds, y ∈ tb.names) ∧ Topo tb ds,
    ⟨_, [], _, _, rfl, upd_same, same_new hd, rfl, List.nodup_nil, (fun y hy => nomatch hy), (fun i n hn => nomatch hn)⟩, ?_⟩
  rintro m σ' H2 ⟨ds, a2, a3, rfl, hd2, e2, rfl, dnd, din, dto⟩
  have hp2 := e2 _ _ hp
  refine ⟨_, rfl, _, _, rfl, .inl ⟨_, SqL.of hd2, rfl⟩, _, rfl, p, kvs, rfl, hp2, _, _, rfl, rfl, _, rfl, iteB (fun g => ?_) (fun g => ?_)⟩
  · have lt : ds.length < tb.length := by
      have := of_decide_eq_true g
      rw [List.length_map, ht.len] at this
      omega
    refine ⟨fun σ' H' => ∃ m', m' < 20 - ds.length ∧ ∃ (ds : List Str) (a2 a3 : Option V), σ' = [some (.ref p), some (.ref d), a2, a3] ∧ H' d = some (.lst (ds.map V.str)) ∧ Same H H' ∧ m' = 20 - ds.length ∧ ds.Nodup ∧ (∀ y ∈ ds, y ∈ tb.names) ∧ Topo tb ds, fun σ' H' h => h, ?_⟩
    obtain ⟨z, hz1, hz2, hz3⟩ := next_name rd dnd lt
    refine ⟨_, rfl, p, kvs, tb.names, rfl, (ht.same e2).rd, ht.keys, by omega, fun ys q perm srt hq => ?_⟩
    refine ⟨q, rfl, ⟨_, SqL.of upd_same⟩, ?_⟩
    have hd3 : (upd H2 q (.lst (ys.map V.str))) d = some (.lst (ds.map V.str)) := by rw [upd_ne (ne_of_none hd2 hq)]; exact hd2
    have nqd : q ≠ d := (ne_of_none hd2 hq).symm
    refine for_it (walk_list (xs := ys.map V.str)) (fun i σ' H' => ∃ (ds' : List Str) (a2 a3 : Option V), σ' = [some (.ref p), some (.ref d), a2, a3] ∧ H' q = some (.lst (ys.map V.str)) ∧ H' d = some (.lst (ds'.map V.str)) ∧ Same H H' ∧ ds <+: ds' ∧ ds'.Nodup ∧ (∀ y ∈ ds', y ∈ tb.names) ∧ Topo tb ds' ∧ (z ∈ ys.take i → z ∈ ds'))
      ⟨ds, _, _, rfl, upd_same, hd3, e2.trans (same_new hq), List.prefix_refl _, dnd, din, dto, fun h => nomatch h⟩ (fun i σ' H' _ ⟨_, _, _, _, h, _⟩ => SqL.of h) ?_ ?_
    · rintro i x σ' H4 H4' hi ⟨ds', b2, b3, rfl, hq4, hd4, e4, pre, nd4, in4, to4, hz4⟩ ⟨rfl, hx⟩
      rw [List.getElem?_map] at hx
      obtain ⟨y, hy, rfl⟩ := Option.map_eq_some_iff.mp hx
      have hyn : y ∈ tb.names := perm.mem_iff.mp (List.mem_of_getElem? hy)
      have tk : ys.take (i + 1) = ys.take i ++ [y] := by rw [List.take_succ, hy]; rfl
      have l4 : ds'.length ≤ 20 := Nat.le_trans (nodup_le nd4 in4) (by omega)
      refine ⟨_, rfl, _, rfl, d, _, rfl, .inl (SqL.of hd4), rfl, flat_strsE _, _, rfl, ?_⟩
      show if (!inV (.str y) (ds'.map V.str)) = true then _ else _
      rw [inV_strE]
      refine iteB (fun g2 => ?_) (fun g2 => iteF ?_)
      · have hnd : y ∉ ds' := by simpa using g2
        obtain ⟨k2, v2, hl2, hk2, hg2⟩ := (ht.same e4).get hyn
        have etop := top.look hl2
        have c12 := calls_len etop
        refine ⟨_, rfl, _, rfl, p, v2, rfl, hg2, _, rfl, k2, hk2, etop, fun w H5 hw hw0 e5 => ?_⟩
        have hd5 := e5 _ _ hd4
        refine lc_lstG (tt := tYes) (fun _ v (b : Bool) => v = V.bl b) (fun _ _ _ _ _ q => q) (fun _ _ _ _ _ _ _ q => q) (fun _ => true) (fun n => decide (n ∈ ds')) (fun v (n : Str) => v = V.str n) hw (strs_pair _) ?_ ?_ ?_ ?_ ?_
        · rw [List.length_map]; omega
        · exact fun x => rfl
        · exact fun x n H6 Q _ _ _ q => q
        · rintro x n H6 Q rfl _ _ e6 q
          refine ⟨_, rfl, _, rfl, d, _, rfl, .inl (SqL.of (e6 _ _ hd5)), rfl, flat_strsE _, ?_⟩
          show Q (.bl (inV (.str n) (ds'.map V.str))) H6
          rw [inV_strE]
          exact q _ _ (fun _ _ z => z) rfl
        · intro D bs H6 hD hD0 e6 pw
          have ebs := pair_bls pw
          subst ebs
          refine ⟨D, _, rfl, SqL.of hD, _, rfl, ?_⟩
          have e46 := e5.trans e6
          have hd6 := e46 _ _ hd4
          have hq6 := e46 _ _ hq4
          refine iteB (fun g3 => ?_) (fun g3 => ?_)
          · have all : ∀ c ∈ callsK k2, c ∈ ds' := by
              intro c hc
              have q := all_map g3 c hc
              simpa using q
            refine ⟨_, rfl, .inl ⟨rfl, _, SqL.of hd6⟩, _, rfl, d, ds'.map V.str, _, rfl, rfl, hd6, by rw [sizeLine_eq, List.length_map]; omega, ?_⟩
            refine ⟨ds' ++ [y], _, _, rfl, ?_, ?_, same_put hd (e4.trans e46), pre.trans (List.prefix_append _ _), nodup_snocE nd4 hnd, ?_, topo_snoc to4 hl2 all, ?_⟩
            · rw [upd_ne nqd]; exact hq6
            · rw [upd_same, List.map_append]; rfl
            · intro c hc
              rcases List.mem_append.mp hc with q | q
              · exact in4 c q
              · rw [List.mem_singleton.mp q]; exact hyn
            · intro hzt
              rw [tk] at hzt
              rcases List.mem_append.mp hzt with q | q
              · exact List.mem_append_left _ (hz4 q)
              · rw [List.mem_singleton.mp q]; exact List.mem_append_right _ (List.mem_singleton.mpr rfl)
          · refine ⟨ds', _, _, rfl, hq6, hd6, e4.trans e46, pre, nd4, in4, to4, fun hzt => ?_⟩
            rw [tk] at hzt
            rcases List.mem_append.mp hzt with q | q
            · exact hz4 q
            · have q := List.mem_singleton.mp q
              subst q
              exfalso
              have all : ∀ c ∈ callsK k2, c ∈ ds' := fun c hc => pre.subset (hz3 k2 hl2 c hc)
              rw [map_all all] at g3
              cases g3
      · refine ⟨ds', _, _, rfl, hq4, hd4, e4, pre, nd4, in4, to4, fun hzt => ?_⟩
        rw [tk] at hzt
        rcases List.mem_append.mp hzt with q | q
        · exact hz4 q
        · rw [List.mem_singleton.mp q]
          simpa using g2
    · rintro σ' H4 ⟨ds', b2, b3, rfl, hq4, hd4, e4, pre, nd4, in4, to4, hz4⟩
      rw [List.length_map, List.take_length] at hz4
      have hzd := hz4 (perm.mem_iff.mpr hz1)
      have llt : ds.length < ds'.length := by
        rcases Nat.lt_or_ge ds.length ds'.length with l | l
        · exact l
        · have e := List.IsPrefix.eq_of_length_le pre l
          rw [← e] at hzd
          exact absurd hzd hz2
      have l4 : ds'.length ≤ tb.names.length := nodup_le nd4 in4
      exact ⟨20 - ds'.length, by omega, ds', _, _, rfl, hd4, e4, rfl, nd4, in4, to4⟩
  · have le : tb.length ≤ ds.length := by
      have := of_decide_eq_false g
      rw [List.length_map, ht.len] at this
      omega
    exact ⟨_, rfl, k d ds H2 hd2 hd e2 (perm_of dnd rd.nd din (by omega)) dto⟩
theorem ok_number_lengths (T : Txt K mg A) : FnOk P w K mg base CX0 1 A.f_number_lengths A.d_number_lengths ["kind"] (sp_number_lengths K A) := by
  refine T.F_number_lengths.ok sc_number_lengths (fun vs H Q E h => sp1_len h) (fun cdv A0 outer s H vs Q E hr h => ?_)
  have nd := sc_number_lengths.nd
  refine ⟨_, (pss_cons (ps_set (i := 1) nd rfl (by first | exact Or.inl rfl | exact Or.inr rfl) (pe_op op_add (pe_op op_sub (pe_fld (pv 0) rfl) (pe_fld (pv 0) rfl)) pe_int))
      (pss_cons (ps_if (pt_cmpR op_notN (pe_fld (pv 0) rfl) pe_non (nomark _)) (pss_one (ps_ret (pe_lst (pa_cons (pe_fld (pv 0) rfl) pa_nil)))) pss_nil)
      (pss_cons (ps_set (i := 2) nd rfl (by first | exact Or.inl rfl | exact Or.inr rfl) (pe_op op_sub (pe_bits (pv 1)) pe_int))
      (pss_cons (ps_if (pt_cmpR op_eq (pv 1) (pe_op op_shl pe_int (pv 2)) (nomark _)) (pss_one (ps_ret (pe_lst (pa_cons (pv 2) pa_nil)))) pss_nil)
      (pss_one (ps_ret (pe_lst (pa_cons (pv 2) (pa_cons (pe_op op_add (pv 2) pe_int) pa_nil))))))))), ?_⟩
  clear nd hr
  replace h := sp1_of h
  obtain ⟨v_kind, rfl, h⟩ := h

  obtain ⟨lo, hi, w, hk, hf, k⟩ := h
  rw [Kd.fit] at hf
  cases hk with
  | num ob =>
    obtain ⟨dx, fs, hx, lx⟩ := ob
    refine ⟨_, rfl, _, _, dx, _, _, rfl, hx, T.cl_Number, T.n_Number_high, (lx _ (List.mem_cons_of_mem _ (List.mem_cons_self ..))), _, rfl, _, _, dx, _, _, rfl, hx, T.cl_Number, T.n_Number_low, (lx _ (List.mem_cons_self ..)), _, _, rfl, rfl, _, _, rfl, rfl, ?_⟩
    cases w with
    | some i =>
      refine ⟨_, rfl, _, _, dx, _, _, rfl, hx, T.cl_Number, T.n_Number_width, (lx _ (List.mem_cons_of_mem _ (List.mem_cons_of_mem _ (List.mem_cons_self ..)))), rfl, _, rfl, iteB (fun _ => ?_) (fun g => nomatch g)⟩
      exact ⟨_, rfl, _, _, dx, _, _, rfl, hx, T.cl_Number, T.n_Number_width, (lx _ (List.mem_cons_of_mem _ (List.mem_cons_of_mem _ (List.mem_cons_self ..)))), (by show 1 ≤ sizeLine; rw [sizeLine_eq]; decide), fun p hp => k p _ upd_same hp (same_new hp)⟩
    | none =>
      refine ⟨_, rfl, _, _, dx, _, _, rfl, hx, T.cl_Number, T.n_Number_width, (lx _ (List.mem_cons_of_mem _ (List.mem_cons_of_mem _ (List.mem_cons_self ..)))), rfl, _, rfl, iteB (fun g => nomatch g) (fun _ => ?_)⟩
      obtain ⟨b1, b2⟩ := bits_pos (m := hi - lo + 1) (by omega) (by omega)
      refine ⟨_, rfl, _, rfl, _, _, rfl, rfl, ?_⟩
      refine ⟨_, rfl, _, rfl, _, _, rfl, rfl, ⟨by omega, by omega, by decide⟩, rfl, _, rfl, iteB (fun g => ?_) (fun g => ?_)⟩
      · refine ⟨_, rfl, (by show 1 ≤ sizeLine; rw [sizeLine_eq]; decide), fun p hp => k p _ ?_ hp (same_new hp)⟩
        rw [upd_same, lensN, if_pos (of_decide_eq_true (dI.symm.trans g))]
        rfl
      · refine ⟨_, rfl, _, rfl, _, _, rfl, rfl, (by show 2 ≤ sizeLine; rw [sizeLine_eq]; decide), fun p hp => k p _ ?_ hp (same_new hp)⟩
        rw [upd_same, lensN, if_neg (of_decide_eq_false (dI.symm.trans g))]
        rfl
theorem ok_Lengths_sums (T : Txt K mg A) : FnOk P w K mg base CX0 1 A.f_Lengths_sums A.d_Lengths_sums ["self", "ones", "others"] (sp_Lengths_sums K A) := by
  refine T.F_Lengths_sums.ok sc_Lengths_sums (fun vs H Q E h => sp3_len h) (fun cdv A0 outer s H vs Q E hr h => ?_)
  have nd := sc_Lengths_sums.nd
  refine ⟨_, (pss_one (ps_ret (pe_callB (cr_sortedSet rfl) (by rfl) T.b_sorted (by decide +kernel) (pa_cons (pe_sc2 (own := [("one", 3), ("other", 4)]) (vs1 := [4]) (by rfl) nd (pi_list (pv 1)) (blkOk_by (own := [("one", 3), ("other", 4)]) (N := ["self", "ones", "others", "one", "other"]) (sc := defScope s_Lengths_sums) (by decide +kernel)) (by decide) (fun _ _ _ _ _ => pg_name (i := 3) nd rfl (by first | exact Or.inl rfl | exact Or.inr rfl)) (fun _ _ _ _ _ => pts_nil) (fun _ _ _ _ _ => (pi_listK (K := K) rfl (pv 2))) (fun _ _ _ _ _ => pg_name (i := 4) nd rfl (by first | exact Or.inl rfl | exact Or.inr rfl)) (fun _ _ _ _ _ => pts_nil) (fun _ _ _ _ _ => (pe_callB (call_min2 rfl) (by rfl) T.b_min (by decide +kernel) (pa_cons (pe_fldK (K := K) rfl (pv 0) rfl) (pa_cons (pe_op op_add (pv 3) (pv 4)) pa_nil))))) pa_nil)))), ?_⟩
  clear nd hr
  replace h := sp3_of h
  obtain ⟨v_self, v_ones, v_others, rfl, h⟩ := h

  obtain ⟨x, kd, p, q, c, as, bs, rfl, rfl, rfl, ⟨dx, hx⟩, c0, c5, hp, hq, a0, b0, k⟩ := h
  obtain ⟨t0, t32⟩ := top_32 c0 c5
  dsimp only [tRet, tCB, tCons, tNil]
  refine sc2_ints (fun x y => min (2 ^ c.toNat) (x + y)) ?_ hp ?_ hq ?_ ?_ (fun y z H1 Q' hy hz e1 q => ?_) (fun y hy z hz => ?_) (fun D H' hD hD0 e => ?_)
  · exact fun Q' q => ⟨_, rfl, q⟩
  · exact fun x H1 Q' q => ⟨_, rfl, q⟩
  · exact rfl
  · exact fun x => rfl
  · refine ⟨_, rfl, x, _, dx, _, _, rfl, e1 _ _ hx, T.cl_Lengths, T.n_Lengths_top, len_fs.2.1, _, rfl, _, rfl, _, _, rfl, rfl, _, _, rfl, ?_⟩
    rw [min2_eq]
    exact q
  · have := a0 y hy
    have := b0 z hz
    exact ⟨by omega, by omega⟩
  · refine sorted_setO hD (t := 32) (by decide) (by decide) (fun a ha => ?_) fun r hr => ?_
    · obtain ⟨y, hy, ha⟩ := List.mem_flatMap.mp ha
      obtain ⟨z, hz, rfl⟩ := List.mem_map.mp ha
      have := a0 y hy
      have := b0 z hz
      exact ⟨by omega, by omega⟩
    · have hr0 : H r = none := by
        cases z : H r with
        | none => rfl
        | some o => rw [e _ _ z] at hr; cases hr
      exact k r _ upd_same hr0 (e.trans (same_new hr))
theorem ok_Lengths_of_kind0 (T : Txt K mg A) : FnOk P w K mg base CX0 10 A.f_Lengths_of_kind A.d_Lengths_of_kind ["self", "kind"] (sp_Lengths_of_kind0 K A) := by
  refine T.F_Lengths_of_kind.ok sc_Lengths_of_kind (fun vs H Q E h => sp2_len h) (fun cdv A0 outer s H vs Q E hr h => ?_)
  have nd := sc_Lengths_of_kind.nd
  refine ⟨_, (pss_cons (ps_if (pt_val (pe_callB call_isi (by rfl) T.b_isinstance (by decide +kernel) (pa_cons (pv 1) (pa_cons (pe_glob (v := .ref A.c_Nothing) (by rfl) T.mg_Nothing rfl) pa_nil)))) (pss_one (ps_ret (pe_lst (pa_cons pe_int pa_nil)))) pss_nil)
      (pss_cons (ps_if (pt_val (pe_callB call_isi (by rfl) T.b_isinstance (by decide +kernel) (pa_cons (pv 1) (pa_cons (pe_glob (v := .ref A.c_Number) (by rfl) T.mg_Number rfl) pa_nil)))) (pss_one (ps_ret (pe_lc (own := [("one", 2)]) (g := gName 2) (tt := tYes) (by rfl) nd (pi_list (pe_call (ok_number_lengths T) (hr.mono (by decide)) (by rfl) T.mg_number_lengths T.k_number_lengths T.b_number_lengths .nil pass0 (pa_cons (pv 1) pa_nil))) (blkOk_by (own := [("one", 2)]) (N := ["self", "kind", "one"]) (sc := defScope s_Lengths_of_kind) (by decide +kernel)) (fun _ _ _ _ _ => pg_name (i := 2) nd rfl (by first | exact Or.inl rfl | exact Or.inr rfl)) (fun _ _ _ _ _ => pts_nil) (fun _ _ _ _ _ => (pe_callB (call_min2 rfl) (by rfl) T.b_min (by decide +kernel) (pa_cons (pe_fldK (K := K) rfl (pv 0) rfl) (pa_cons (pv 2) pa_nil))))))) pss_nil)
      (pss_cons (ps_if (pt_val (pe_callB call_isi (by rfl) T.b_isinstance (by decide +kernel) (pa_cons (pv 1) (pa_cons (pe_glob (v := .ref A.c_Bits) (by rfl) T.mg_Bits rfl) pa_nil)))) (pss_one (ps_ret (pe_lst (pa_cons (pe_callB (call_min2 rfl) (by rfl) T.b_min (by decide +kernel) (pa_cons (pe_fld (pv 0) rfl) (pa_cons (pe_fld (pv 1) rfl) pa_nil))) pa_nil)))) pss_nil)
      (pss_cons (ps_if (pt_val (pe_callB call_isi (by rfl) T.b_isinstance (by decide +kernel) (pa_cons (pv 1) (pa_cons (pe_glob (v := .ref A.c_Call) (by rfl) T.mg_Call rfl) pa_nil)))) (pss_one (ps_ret (pe_dget (hu_of hr) (pe_fld (pv 0) rfl) (pe_fld (pv 1) rfl) (fun _ _ => rfl)))) pss_nil)
      pss_never)))), ?_⟩
  clear nd hr
  replace h := sp2_of h
  obtain ⟨v_self, v_kind, rfl, h⟩ := h

  obtain ⟨x, kd, c, kn, k0, rfl, hl, hk, hf, hs, hkn, k⟩ := h
  obtain ⟨dy, hy⟩ := hl.at_
  obtain ⟨t0, t32⟩ := top_32 hl.c0 hl.c5
  refine ⟨_, rfl, _, _, _, _, _, rfl, .own _, (KAt.vt T hk).tyx, kit_isaO (KAt.vt T hk).tag (T.kco .nothing), _, rfl, iteB (fun g => ?_) (fun g => ?_)⟩
  · have ec : decide (Kd.cls k0 = some .nothing) = true := isa_cls (t := .k k0) (c := .nothing) T g
    cases hk with
    | nothing ob => exact ⟨(by show 1 ≤ sizeLine; rw [sizeLine_eq]; decide), fun p hp => k p _ upd_same (same_new hp)⟩
    | _ => cases of_decide_eq_true ec
  refine ⟨_, rfl, _, _, _, _, _, rfl, .own _, (KAt.vt T hk).tyx, kit_isaO (KAt.vt T hk).tag (T.kco .num), _, rfl, iteB (fun g2 => ?_) (fun g2 => ?_)⟩
  · have ec : decide (Kd.cls k0 = some .num) = true := isa_cls (t := .k k0) (c := .num) T g2
    cases hk with
    | num ob =>
      refine ⟨_, rfl, _, rfl, _, _, _, .num ob, hf, fun p H1 hp hp0 e1 => ?_⟩
      refine lc_lstG (tt := tYes) (fun _ v (b : Int) => v = V.int b) (fun _ _ _ _ _ q => q) (fun _ _ _ _ _ _ _ q => q) (fun _ => true) (min (tp c)) (fun v (n : Int) => v = V.int n) hp (ints_pair _) ?_ ?_ ?_ ?_ ?_
      · rw [List.length_map]; exact Nat.le_trans lensN_len (by decide)
      · exact fun x => rfl
      · exact fun x n H6 Q _ _ _ q => q
      · rintro z n H6 Q rfl _ _ e6 q
        refine ⟨_, rfl, x, _, dy, _, _, rfl, e6 _ _ (e1 _ _ hy), T.cl_Lengths, T.n_Lengths_top, len_fs.2.1, _, rfl, _, _, rfl, ?_⟩
        rw [min2_eq]
        exact q _ _ (fun _ _ z => z) rfl
      · intro D bs H6 hD hD0 e6 pw
        have ebs := pair_ints pw
        subst ebs
        rw [List.filter_eq_self.mpr fun _ _ => rfl] at hD
        exact k D H6 hD (e1.trans e6)
    | _ => cases of_decide_eq_true ec
  refine ⟨_, rfl, _, _, _, _, _, rfl, .own _, (KAt.vt T hk).tyx, kit_isaO (KAt.vt T hk).tag (T.kco .bits), _, rfl, iteB (fun g3 => ?_) (fun g3 => ?_)⟩
  · have ec : decide (Kd.cls k0 = some .bits) = true := isa_cls (t := .k k0) (c := .bits) T g3
    cases hk with
    | bits ob =>
      obtain ⟨dx, fs, hx, lx⟩ := ob
      refine ⟨_, rfl, x, _, dy, _, _, rfl, hy, T.cl_Lengths, T.n_Lengths_top, len_fs.2.1, _, rfl, _, _, dx, _, _, rfl, hx, T.cl_Bits, T.n_Bits_many, (lx _ (List.mem_cons_self ..)), _, _, rfl, ?_⟩
      rw [min2_eq]
      exact ⟨(by show 1 ≤ sizeLine; rw [sizeLine_eq]; decide), fun p hp => k p _ upd_same (same_new hp)⟩
    | _ => cases of_decide_eq_true ec
  refine ⟨_, rfl, _, _, _, _, _, rfl, .own _, (KAt.vt T hk).tyx, kit_isaO (KAt.vt T hk).tag (T.kco .call), _, rfl, iteB (fun g4 => ?_) (fun g4 => ?_)⟩
  · have ec : decide (Kd.cls k0 = some .call) = true := isa_cls (t := .k k0) (c := .call) T g4
    cases hk with
    | call ob =>
      obtain ⟨dx, fs, hx, lx⟩ := ob
      obtain ⟨l, hl2⟩ := hkn
      obtain ⟨q, hg, hq⟩ := hl.kat.get hl2
      refine ⟨_, rfl, x, _, dy, _, _, rfl, hy, T.cl_Lengths, T.n_Lengths_known, len_fs.2.2, _, rfl, _, _, dx, _, _, rfl, hx, T.cl_Call, T.n_Call_name, (lx _ (List.mem_cons_self ..)), _, _, rfl, hg, k q H ?_ (fun _ _ z => z)⟩
      rw [hq, lensK, hl2]
      rfl
    | _ => cases of_decide_eq_true ec
  have n1 : decide (Kd.cls k0 = some .nothing) = false := isa_cls (t := .k k0) (c := .nothing) T g
  have n2 : decide (Kd.cls k0 = some .num) = false := isa_cls (t := .k k0) (c := .num) T g2
  have n3 : decide (Kd.cls k0 = some .bits) = false := isa_cls (t := .k k0) (c := .bits) T g3
  have n4 : decide (Kd.cls k0 = some .call) = false := isa_cls (t := .k k0) (c := .call) T g4
  cases k0 <;> first | exact absurd rfl (of_decide_eq_false n1) | exact absurd rfl (of_decide_eq_false n2) | exact absurd rfl (of_decide_eq_false n3) | exact absurd rfl (of_decide_eq_false n4) | exact nomatch hs
theorem ok_Lengths_of_items (T : Txt K mg A) : FnOk P w K mg base CX0 12 A.f_Lengths_of_items A.d_Lengths_of_items ["self", "kind"] (sp_Lengths_of_items K A) := by
  refine T.F_Lengths_of_items.ok sc_Lengths_of_items (fun vs H Q E h => sp2_len h) (fun cdv A0 outer s H vs Q E hr h => ?_)
  have nd := sc_Lengths_of_items.nd
  refine ⟨_, (pss_cons (ps_set (i := 2) nd rfl (by first | exact Or.inl rfl | exact Or.inr rfl) (pe_meth (pv 0) T.cl_Lengths ⟨T.m_Lengths_of_kind, T.i_Lengths_of_kind, T.k_Lengths_of_kind⟩ (ok_Lengths_of_kind0 T) (hr.mono (by decide)) T.b_Lengths_of_kind .nil pass0 (pa_cons (pe_fld (pv 1) rfl) pa_nil)))
      (Evl.pss_cut (ps_if (pt_cmpR op_isN (pe_fld (pv 1) rfl) pe_non (nomark _)) (pss_cons (ps_set (i := 3) nd rfl (by first | exact Or.inl rfl | exact Or.inr rfl) (pe_lst (pa_cons pe_int pa_nil)))
      (pss_cons (ps_set (i := 4) nd rfl (by first | exact Or.inl rfl | exact Or.inr rfl) (pe_meth (pv 0) T.cl_Lengths ⟨T.m_Lengths_sums, T.i_Lengths_sums, T.k_Lengths_sums⟩ (ok_Lengths_sums T) (hr.mono (by decide)) T.b_Lengths_sums .nil pass0 (pa_cons (pe_lst (pa_cons pe_int pa_nil)) (pa_cons (pv 2) pa_nil))))
      (pss_one (ps_set (i := 5) nd rfl (by first | exact Or.inl rfl | exact Or.inr rfl) (pe_fld (pv 0) rfl))))) (pss_cons (ps_set (i := 3) nd rfl (by first | exact Or.inl rfl | exact Or.inr rfl) (pe_lst (pa_cons (pe_callB (call_min2 rfl) (by rfl) T.b_min (by decide +kernel) (pa_cons (pe_fld (pv 0) rfl) (pa_cons (pe_fld (pv 1) rfl) pa_nil))) pa_nil)))
      (pss_cons (ps_set (i := 4) nd rfl (by first | exact Or.inl rfl | exact Or.inr rfl) (pv 2))
      (pss_one (ps_set (i := 5) nd rfl (by first | exact Or.inl rfl | exact Or.inr rfl) (pe_op op_sub (pe_op op_shl pe_int (pe_fld (pv 1) rfl)) pe_int))))))
      (pss_cons (ps_for PassesOwn.never rfl (pi_range1 (by rfl) T.b_range (pa_cons (pv 5) pa_nil)) (pg_name (i := 6) nd rfl (by first | exact Or.inl rfl | exact Or.inr rfl)) (pss_cons (ps_set (i := 7) nd rfl (by first | exact Or.inl rfl | exact Or.inr rfl) (pe_callB (cr_sortedSet rfl) (by rfl) T.b_sorted (by decide +kernel) (pa_cons (pe_op op_setor (pe_callTy (cr_setL rfl) (by rfl) T.b_set (by decide +kernel) (pa_cons (pv 3) pa_nil)) (pe_callTy (cr_setL rfl) (by rfl) T.b_set (by decide +kernel) (pa_cons (pe_meth (pv 0) T.cl_Lengths ⟨T.m_Lengths_sums, T.i_Lengths_sums, T.k_Lengths_sums⟩ (ok_Lengths_sums T) (hr.mono (by decide)) T.b_Lengths_sums .nil pass0 (pa_cons (pv 3) (pa_cons (pv 4) pa_nil))) pa_nil))) pa_nil)))
      (pss_cons (ps_if (pt_cmpR (op_eqP hr.units) (pv 7) (pv 3) (nomark _)) (pss_one ps_break) pss_nil)
      (pss_one (ps_set (i := 3) nd rfl (by first | exact Or.inl rfl | exact Or.inr rfl) (pv 7))))))
      (pss_one (ps_ret (pv 3)))))), ?_⟩
  clear nd hr
  replace h := sp2_of h
  obtain ⟨v_self, v_kind, rfl, h⟩ := h

  obtain ⟨x, kd, c, kn, k0, w, rfl, hl, hk, hf, hkn, k⟩ := h
  obtain ⟨dy, hy⟩ := hl.at_
  obtain ⟨t0, t32⟩ := top_32 hl.c0 hl.c5
  rw [Kd.fit] at hf
  obtain ⟨hf1, hf2⟩ := hf
  cases hk with
  | items ob ki o =>
    rename_i xk vi
    obtain ⟨dx, fs, hx, lx⟩ := ob
    obtain ⟨f1, f2, f3⟩ := fl_item o
    have eF : lensF (tp c) kn k0 = lensK (tp c) kn k0 := lensF_eq f1 f3
    obtain ⟨nn, l100⟩ := lensF_nn (c := c) hl.nn hf1 hkn (by show (0 : Int) ≤ 2 ^ c.toNat; omega)
    refine ⟨_, rfl, x, dy, _, rfl, hy, len_no ⟨by decide +kernel, by decide +kernel, by decide +kernel⟩, _, rfl, _, _, dx, _, _, rfl, hx, T.cl_Items, T.n_Items_item, (lx _ (List.mem_cons_self ..)), _, _, rfl, x, kd, c, kn, k0, rfl, hl, ki, hf1, f1, hkn.to o, fun p H1 hp e1 => ?_⟩
    rw [← eF] at hp
    refine ⟨fun σ' H' => ∃ (fa sa : Addr) (f st : List Int) (n : Nat), σ' = [some (.ref x), some (.ref xk), some (.ref p), some (.ref fa), some (.ref sa), some (.int ((n : Nat) : Int)), none, none] ∧ H' fa = some (.lst (f.map V.int)) ∧ H' sa = some (.lst (st.map V.int)) ∧ LowA (tp c) f ∧ (∀ z ∈ st, 0 ≤ z) ∧ n ≤ 32 ∧ roundsL (tp c) st n f = lensK (tp c) kn (.items k0 w) ∧ Same H H', ?_, ?_⟩
    · cases w with
      | none =>
        refine ⟨_, rfl, _, _, dx, _, _, rfl, (e1 _ _ hx), T.cl_Items, T.n_Items_width, (lx _ (List.mem_cons_of_mem _ (List.mem_cons_self ..))), rfl, _, rfl, iteB (fun _ => ?_) (fun g => nomatch g)⟩
        refine ⟨(by show 1 ≤ sizeLine; rw [sizeLine_eq]; decide), fun fa hfa0 => ?_⟩
        have e2 : Same H1 (upd H1 fa (.lst [V.int 1])) := same_new hfa0
        have hfa : (upd H1 fa (.lst [V.int 1])) fa = some (.lst ([(1 : Int)].map V.int)) := upd_same
        refine ⟨_, rfl, x, dy, _, rfl, (e1.trans e2 _ _ hy), len_no ⟨by decide +kernel, by decide +kernel, by decide +kernel⟩, (by show 1 ≤ sizeLine; rw [sizeLine_eq]; decide), fun q1 hq1 => ?_⟩
        have e3 := e2.trans (same_new (o := .lst [V.int 1]) hq1)
        have hqa : (upd (upd H1 fa (.lst [V.int 1])) q1 (.lst [V.int 1])) q1 = some (.lst ([(1 : Int)].map V.int)) := upd_same
        have hfb := (same_new (o := .lst [V.int 1]) hq1) _ _ hfa
        generalize upd (upd H1 fa (.lst [V.int 1])) q1 (.lst [V.int 1]) = H3 at e3 hqa hfb ⊢
        have e13 := e1.trans e3
        refine ⟨_, rfl, _, _, _, rfl, x, kd, q1, p, c, _, _, rfl, rfl, rfl, ⟨dy, e13 _ _ hy⟩, hl.c0, hl.c5, hqa, e3 _ _ hp, fun z hz => by rw [List.mem_singleton.mp hz]; omega, nn, fun r H8 hr hr0 e8 => ?_⟩
        have en : ((((2 : Int) ^ c.toNat).toNat : Nat) : Int) = 2 ^ c.toNat := Int.toNat_of_nonneg (by omega)
        refine ⟨_, rfl, x, _, dy, _, _, rfl, (e13.trans e8) _ _ hy, T.cl_Lengths, T.n_Lengths_top, len_fs.2.1, fa, r, [1], sumsL (tp c) [1] (lensF (tp c) kn k0), ((2 : Int) ^ c.toNat).toNat, ?_, e8 _ _ hfb, hr, ?_, ?_, by omega, rfl, e13.trans e8⟩
        · rw [en]; rfl
        · exact ⟨fun z hz => by rw [List.mem_singleton.mp hz]; exact ⟨by omega, t0⟩, by show ((1 : Nat) : Int) ≤ 2 ^ c.toNat + 1; omega, Nat.le_refl 1⟩
        · exact fun z hz => (sums_low (by show (0 : Int) ≤ 2 ^ c.toNat; omega) (fun a ha => by rw [List.mem_singleton.mp ha]; omega) nn z hz).1
      | some i =>
        refine ⟨_, rfl, _, _, dx, _, _, rfl, (e1 _ _ hx), T.cl_Items, T.n_Items_width, (lx _ (List.mem_cons_of_mem _ (List.mem_cons_self ..))), rfl, _, rfl, iteB (fun g => nomatch g) (fun _ => ?_)⟩
        obtain ⟨i1, i3⟩ := hf2 i rfl
        refine ⟨_, rfl, x, _, dy, _, _, rfl, e1 _ _ hy, T.cl_Lengths, T.n_Lengths_top, len_fs.2.1, _, rfl, _, _, dx, _, _, rfl, (e1 _ _ hx), T.cl_Items, T.n_Items_width, (lx _ (List.mem_cons_of_mem _ (List.mem_cons_self ..))), _, _, rfl, ?_⟩
        rw [min2_eq]
        refine ⟨(by show 1 ≤ sizeLine; rw [sizeLine_eq]; decide), fun fa hfa0 => ?_⟩
        have e2 : Same H1 (upd H1 fa (.lst [V.int (min (2 ^ c.toNat) i)])) := same_new hfa0
        have e12 := e1.trans e2
        have en : ((2 ^ i.toNat - 1 : Nat) : Int) = 1 * 2 ^ i.toNat - 1 := by
          have : i = 1 ∨ i = 2 ∨ i = 3 := by omega
          rcases this with rfl | rfl | rfl <;> rfl
        have n7 : 2 ^ i.toNat - 1 ≤ 7 := by
          have : i = 1 ∨ i = 2 ∨ i = 3 := by omega
          rcases this with rfl | rfl | rfl <;> decide
        refine ⟨_, rfl, _, rfl, _, _, dx, _, _, rfl, (e12 _ _ hx), T.cl_Items, T.n_Items_width, (lx _ (List.mem_cons_of_mem _ (List.mem_cons_self ..))), _, _, rfl, rfl, ⟨by omega, by omega, by decide⟩, _, _, rfl, rfl, fa, p, [min (tp c) i], lensF (tp c) kn k0, 2 ^ i.toNat - 1, ?_, upd_same, e2 _ _ hp, ?_, nn, by omega, rfl, e12⟩
        · rw [en]; rfl
        · exact ⟨fun z hz => by rw [List.mem_singleton.mp hz]; show (0 : Int) ≤ min (2 ^ c.toNat) i ∧ min (2 ^ c.toNat) i ≤ 2 ^ c.toNat; omega, by show ((1 : Nat) : Int) ≤ 2 ^ c.toNat + 1; omega, Nat.le_refl 1⟩
    rintro σ' H' ⟨fa, sa, f, st, n, rfl, hfa, hsa, lo, st0, n32, er, e2⟩
    refine ⟨_, rfl, _, rfl, by omega, by omega, ?_⟩
    rw [Int.toNat_natCast]
    refine for_it walk_range (fun i σ2 H2 => ∃ (f2a : Addr) (f2 : List Int) (a6 a7 : Option V), σ2 = [some (.ref x), some (.ref xk), some (.ref p), some (.ref f2a), some (.ref sa), some (.int ((n : Nat) : Int)), a6, a7] ∧ H2 f2a = some (.lst (f2.map V.int)) ∧ LowA (tp c) f2 ∧ roundsL (tp c) st (n - i) f2 = lensK (tp c) kn (.items k0 w) ∧ Same H' H2) ⟨fa, f, _, _, rfl, hfa, lo, er, fun _ _ z => z⟩ (fun _ _ _ _ _ => trivial) ?_ ?_
    · rintro i xv σ2 H2 H2' hi ⟨f2a, f2, a6, a7, rfl, hf2a, lo2, er2, e3⟩ ⟨rfl, rfl⟩
      have tt : (0 : Int) ≤ tp c := by show (0 : Int) ≤ 2 ^ c.toNat; omega
      have t32' : tp c ≤ 32 := t32
      have sl : (sumsL (tp c) f2 st).length ≤ 33 := sums_len tt t32' (fun z hz => (lo2.low z hz).1) st0
      have fl := lo2.len
      have lm := lo2.more tt st0
      have e02 := e2.trans e3
      have lo3 : ∀ z ∈ f2 ++ sumsL (tp c) f2 st, 0 ≤ z ∧ z ≤ tp c := fun z hz => by
        rcases List.mem_append.mp hz with q | q
        · exact lo2.low z q
        · exact sums_low tt (fun a ha => (lo2.low a ha).1) st0 z q
      refine sorted_or (a := f2a) (as := f2) (bs := sumsL (tp c) f2 st) tt t32' (fun Q' q => ⟨_, rfl, q⟩) hf2a (fun H4 Q' e4 q => ?_) (by omega) sl lo2.pos lo3 (fun p9 H8 hp8 e8 => ?_)
      · have e04 := e02.trans e4
        exact ⟨_, rfl, x, dy, _, rfl, (e04 _ _ hy), len_no ⟨by decide +kernel, by decide +kernel, by decide +kernel⟩, _, rfl, _, rfl, _, _, _, rfl, x, kd, f2a, sa, c, f2, st, rfl, rfl, rfl, ⟨dy, e04 _ _ hy⟩, hl.c0, hl.c5, e4 _ _ hf2a, (e3.trans e4) _ _ hsa, fun z hz => (lo2.low z hz).1, st0, fun r H5 hr hr0 e5 => q r H5 hr e5⟩
      have hf8 := e8 _ _ hf2a
      have e38 := e3.trans e8
      obtain ⟨m, em⟩ : ∃ m, n - i = m + 1 := ⟨n - i - 1, by omega⟩
      have em2 : n - (i + 1) = m := by omega
      rw [em, roundsL] at er2
      refine ⟨_, rfl, _, rfl, eq_ints hp8 hf8 ⟨_, rfl, iteB (fun g => ?_) (fun g => ?_)⟩⟩
      · rw [if_pos (of_decide_eq_true g)] at er2
        exact ⟨_, rfl, k f2a H8 (by rw [← er2]; exact hf8) (e2.trans e38)⟩
      · rw [if_neg (of_decide_eq_false g)] at er2
        exact ⟨_, rfl, p9, _, _, _, rfl, hp8, lm, by rw [em2]; exact er2, e38⟩
    · rintro σ2 H2 ⟨f2a, f2, a6, a7, rfl, hf2a, lo2, er2, e3⟩
      rw [Nat.sub_self] at er2
      refine ⟨_, rfl, k f2a H2 ?_ (e2.trans e3)⟩
      rw [← er2]
      exact hf2a
theorem ok_Lengths_of_kind (T : Txt K mg A) : FnOk P w K mg base CX0 14 A.f_Lengths_of_kind A.d_Lengths_of_kind ["self", "kind"] (sp_Lengths_of_kind K A) := by
  refine T.F_Lengths_of_kind.ok sc_Lengths_of_kind (fun vs H Q E h => sp2_len h) (fun cdv A0 outer s H vs Q E hr h => ?_)
  have nd := sc_Lengths_of_kind.nd
  refine ⟨_, (pss_cons (ps_if (pt_val (pe_callB call_isi (by rfl) T.b_isinstance (by decide +kernel) (pa_cons (pv 1) (pa_cons (pe_glob (v := .ref A.c_Nothing) (by rfl) T.mg_Nothing rfl) pa_nil)))) (pss_one (ps_ret (pe_lst (pa_cons pe_int pa_nil)))) pss_nil)
      (pss_cons (ps_if (pt_val (pe_callB call_isi (by rfl) T.b_isinstance (by decide +kernel) (pa_cons (pv 1) (pa_cons (pe_glob (v := .ref A.c_Number) (by rfl) T.mg_Number rfl) pa_nil)))) (pss_one (ps_ret (pe_lc (own := [("one", 2)]) (g := gName 2) (tt := tYes) (by rfl) nd (pi_list (pe_call (ok_number_lengths T) (hr.mono (by decide)) (by rfl) T.mg_number_lengths T.k_number_lengths T.b_number_lengths .nil pass0 (pa_cons (pv 1) pa_nil))) (blkOk_by (own := [("one", 2)]) (N := ["self", "kind", "one"]) (sc := defScope s_Lengths_of_kind) (by decide +kernel)) (fun _ _ _ _ _ => pg_name (i := 2) nd rfl (by first | exact Or.inl rfl | exact Or.inr rfl)) (fun _ _ _ _ _ => pts_nil) (fun _ _ _ _ _ => (pe_callB (call_min2 rfl) (by rfl) T.b_min (by decide +kernel) (pa_cons (pe_fldK (K := K) rfl (pv 0) rfl) (pa_cons (pv 2) pa_nil))))))) pss_nil)
      (pss_cons (ps_if (pt_val (pe_callB call_isi (by rfl) T.b_isinstance (by decide +kernel) (pa_cons (pv 1) (pa_cons (pe_glob (v := .ref A.c_Bits) (by rfl) T.mg_Bits rfl) pa_nil)))) (pss_one (ps_ret (pe_lst (pa_cons (pe_callB (call_min2 rfl) (by rfl) T.b_min (by decide +kernel) (pa_cons (pe_fld (pv 0) rfl) (pa_cons (pe_fld (pv 1) rfl) pa_nil))) pa_nil)))) pss_nil)
      (pss_cons (ps_if (pt_val (pe_callB call_isi (by rfl) T.b_isinstance (by decide +kernel) (pa_cons (pv 1) (pa_cons (pe_glob (v := .ref A.c_Call) (by rfl) T.mg_Call rfl) pa_nil)))) (pss_one (ps_ret (pe_dget (hu_of hr) (pe_fld (pv 0) rfl) (pe_fld (pv 1) rfl) (fun _ _ => rfl)))) pss_nil)
      (pss_one (ps_ret (pe_meth (pv 0) T.cl_Lengths ⟨T.m_Lengths_of_items, T.i_Lengths_of_items, T.k_Lengths_of_items⟩ (ok_Lengths_of_items T) (hr.mono (by decide)) T.b_Lengths_of_items .nil pass0 (pa_cons (pv 1) pa_nil)))))))), ?_⟩
  clear nd hr
  replace h := sp2_of h
  obtain ⟨v_self, v_kind, rfl, h⟩ := h

  obtain ⟨x, kd, c, kn, k0, rfl, hl, hk, hf, hs, hkn, k⟩ := h
  obtain ⟨dy, hy⟩ := hl.at_
  obtain ⟨t0, t32⟩ := top_32 hl.c0 hl.c5
  refine ⟨_, rfl, _, _, _, _, _, rfl, .own _, (KAt.vt T hk).tyx, kit_isaO (KAt.vt T hk).tag (T.kco .nothing), _, rfl, iteB (fun g => ?_) (fun g => ?_)⟩
  · have ec : decide (Kd.cls k0 = some .nothing) = true := isa_cls (t := .k k0) (c := .nothing) T g
    cases hk with
    | nothing ob => exact ⟨(by show 1 ≤ sizeLine; rw [sizeLine_eq]; decide), fun p hp => k p _ upd_same (same_new hp)⟩
    | _ => cases of_decide_eq_true ec
  refine ⟨_, rfl, _, _, _, _, _, rfl, .own _, (KAt.vt T hk).tyx, kit_isaO (KAt.vt T hk).tag (T.kco .num), _, rfl, iteB (fun g2 => ?_) (fun g2 => ?_)⟩
  · have ec : decide (Kd.cls k0 = some .num) = true := isa_cls (t := .k k0) (c := .num) T g2
    cases hk with
    | num ob =>
      refine ⟨_, rfl, _, rfl, _, _, _, .num ob, hf, fun p H1 hp hp0 e1 => ?_⟩
      refine lc_lstG (tt := tYes) (fun _ v (b : Int) => v = V.int b) (fun _ _ _ _ _ q => q) (fun _ _ _ _ _ _ _ q => q) (fun _ => true) (min (tp c)) (fun v (n : Int) => v = V.int n) hp (ints_pair _) ?_ ?_ ?_ ?_ ?_
      · rw [List.length_map]; exact Nat.le_trans lensN_len (by decide)
      · exact fun x => rfl
      · exact fun x n H6 Q _ _ _ q => q
      · rintro z n H6 Q rfl _ _ e6 q
        refine ⟨_, rfl, x, _, dy, _, _, rfl, e6 _ _ (e1 _ _ hy), T.cl_Lengths, T.n_Lengths_top, len_fs.2.1, _, rfl, _, _, rfl, ?_⟩
        rw [min2_eq]
        exact q _ _ (fun _ _ z => z) rfl
      · intro D bs H6 hD hD0 e6 pw
        have ebs := pair_ints pw
        subst ebs
        rw [List.filter_eq_self.mpr fun _ _ => rfl] at hD
        exact k D H6 hD (e1.trans e6)
    | _ => cases of_decide_eq_true ec
  refine ⟨_, rfl, _, _, _, _, _, rfl, .own _, (KAt.vt T hk).tyx, kit_isaO (KAt.vt T hk).tag (T.kco .bits), _, rfl, iteB (fun g3 => ?_) (fun g3 => ?_)⟩
  · have ec : decide (Kd.cls k0 = some .bits) = true := isa_cls (t := .k k0) (c := .bits) T g3
    cases hk with
    | bits ob =>
      obtain ⟨dx, fs, hx, lx⟩ := ob
      refine ⟨_, rfl, x, _, dy, _, _, rfl, hy, T.cl_Lengths, T.n_Lengths_top, len_fs.2.1, _, rfl, _, _, dx, _, _, rfl, hx, T.cl_Bits, T.n_Bits_many, (lx _ (List.mem_cons_self ..)), _, _, rfl, ?_⟩
      rw [min2_eq]
      exact ⟨(by show 1 ≤ sizeLine; rw [sizeLine_eq]; decide), fun p hp => k p _ upd_same (same_new hp)⟩
    | _ => cases of_decide_eq_true ec
  refine ⟨_, rfl, _, _, _, _, _, rfl, .own _, (KAt.vt T hk).tyx, kit_isaO (KAt.vt T hk).tag (T.kco .call), _, rfl, iteB (fun g4 => ?_) (fun g4 => ?_)⟩
  · have ec : decide (Kd.cls k0 = some .call) = true := isa_cls (t := .k k0) (c := .call) T g4
    cases hk with
    | call ob =>
      obtain ⟨dx, fs, hx, lx⟩ := ob
      obtain ⟨l, hl2⟩ := hkn
      obtain ⟨q, hg, hq⟩ := hl.kat.get hl2
      refine ⟨_, rfl, x, _, dy, _, _, rfl, hy, T.cl_Lengths, T.n_Lengths_known, len_fs.2.2, _, rfl, _, _, dx, _, _, rfl, hx, T.cl_Call, T.n_Call_name, (lx _ (List.mem_cons_self ..)), _, _, rfl, hg, k q H ?_ (fun _ _ z => z)⟩
      rw [hq, lensK, hl2]
      rfl
    | _ => cases of_decide_eq_true ec
  have n1 : decide (Kd.cls k0 = some .nothing) = false := isa_cls (t := .k k0) (c := .nothing) T g
  have n2 : decide (Kd.cls k0 = some .num) = false := isa_cls (t := .k k0) (c := .num) T g2
  have n3 : decide (Kd.cls k0 = some .bits) = false := isa_cls (t := .k k0) (c := .bits) T g3
  have n4 : decide (Kd.cls k0 = some .call) = false := isa_cls (t := .k k0) (c := .call) T g4
  cases hk with
  | items ob ki o =>
    exact ⟨_, rfl, x, dy, _, rfl, hy, len_no ⟨by decide +kernel, by decide +kernel, by decide +kernel⟩, _, rfl, _, _, rfl, x, kd, c, kn, _, _, rfl, hl, .items ob ki o, hf, hkn, fun p H1 hp e1 => k p H1 hp e1⟩
  | _ => first | exact absurd rfl (of_decide_eq_false n1) | exact absurd rfl (of_decide_eq_false n2) | exact absurd rfl (of_decide_eq_false n3) | exact absurd rfl (of_decide_eq_false n4) | cases hs
theorem ok_Lengths_of_body (T : Txt K mg A) : FnOk P w K mg base CX0 15 A.f_Lengths_of_body A.d_Lengths_of_body ["self", "word", "kind"] (sp_Lengths_of_body K A) := by
  refine T.F_Lengths_of_body.ok sc_Lengths_of_body (fun vs H Q E h => sp3_len h) (fun cdv A0 outer s H vs Q E hr h => ?_)
  have nd := sc_Lengths_of_body.nd
  refine ⟨_, (pss_cons (ps_if (pt_cmpR op_isN (pv 2) pe_non (nomark _)) (pss_one (ps_ret (pe_lst pa_nil))) pss_nil)
      (pss_cons (ps_setLc (i := 3) (own := [("one", 4)]) (g := gName 4) (by rfl) nd rfl rfl (sw_true rfl rfl rfl (by decide +kernel)) (pi_list (pe_meth (pv 0) T.cl_Lengths ⟨T.m_Lengths_of_kind, T.i_Lengths_of_kind, T.k_Lengths_of_kind⟩ (ok_Lengths_of_kind T) (hr.mono (by decide)) T.b_Lengths_of_kind .nil pass0 (pa_cons (pv 2) pa_nil))) (blkOk_by (own := [("one", 4)]) (N := ["self", "word", "kind", "inner", "one"]) (sc := defScope s_Lengths_of_body) (by decide +kernel)) (fun _ _ _ _ _ => pg_name (i := 4) nd rfl (by first | exact Or.inl rfl | exact Or.inr rfl)) (fun _ _ _ _ _ => pts_one (pt_cmpR op_lt (pv 4) (pe_fldK (K := K) rfl (pv 0) rfl) (nomark _))) (fun _ _ _ _ _ => (pv 4)))
      (pss_one (ps_ret (pe_meth (pv 0) T.cl_Lengths ⟨T.m_Lengths_sums, T.i_Lengths_sums, T.k_Lengths_sums⟩ (ok_Lengths_sums T) (hr.mono (by decide)) T.b_Lengths_sums .nil pass0 (pa_cons (pe_lst (pa_cons (pe_op op_add (pe_callB call_len (by rfl) T.b_len (by decide +kernel) (pa_cons (pv 1) pa_nil)) (pe_fld (pv 0) rfl)) pa_nil)) (pa_cons (pv 3) pa_nil))))))), ?_⟩
  clear nd hr
  replace h := sp3_of h
  obtain ⟨v_self, v_word, v_kind, rfl, h⟩ := h

  obtain ⟨x, kd, c, kn, k0, y, rfl, rfl, y8, hl, hk, hf, hs, hkn, k⟩ := h
  obtain ⟨dy, hy⟩ := hl.at_
  obtain ⟨t0, t32⟩ := top_32 hl.c0 hl.c5
  have en := non_kd hk
  refine ⟨_, rfl, rfl, _, rfl, iteB (fun g => ?_) (fun g => ?_)⟩
  · rw [of_decide_eq_true g] at en
    have e0 : k0 = .none := by cases k0 <;> first | rfl | cases en
    subst e0
    exact ⟨(by show 0 ≤ sizeLine; rw [sizeLine_eq]; decide), fun p hp => k p _ upd_same (same_new hp)⟩
  have hs : isSi k0 = true := by
    rcases hs with rfl | hs
    · exfalso
      have e2 : decide (v_kind = V.non) = false := g
      rw [e2] at en
      cases en
    · exact hs
  have e0 : bodyL (tp c) c kn y k0 = sumsL (tp c) [(y.length : Nat) + c] ((lensK (tp c) kn k0).filter fun x => decide (x < tp c)) := by cases k0 <;> first | rfl | cases hs
  obtain ⟨nn, l100⟩ := lensK_nn hl.c0 hl.c5 hl.nn hf (k := k0) hkn
  refine ⟨_, rfl, x, dy, _, rfl, hy, len_no ⟨by decide +kernel, by decide +kernel, by decide +kernel⟩, _, rfl, _, _, rfl, x, kd, c, kn, k0, rfl, hl, hk, hf, hs, hkn, fun p H1 hp e1 => ?_⟩
  refine lc_lstG (fun _ v (b : Int) => v = V.int b) (fun _ _ _ _ _ q => q) (fun _ _ _ _ _ _ _ q => q) (fun x => decide (x < tp c)) id (fun v (n : Int) => v = V.int n) hp (ints_pair _) ?_ ?_ ?_ ?_ ?_
  · rw [List.length_map]; omega
  · exact fun x => rfl
  · rintro z n H6 Q rfl _ e6 q
    exact ⟨_, rfl, _, rfl, x, _, dy, _, _, rfl, e6 _ _ (e1 _ _ hy), T.cl_Lengths, T.n_Lengths_top, len_fs.2.1, _, _, rfl, rfl, _, rfl, q⟩
  · rintro z n H6 Q rfl _ _ e6 q
    exact ⟨_, rfl, q _ _ (fun _ _ z => z) rfl⟩
  · intro D bs H6 hD hD0 e6 pw
    have ebs := pair_ints pw
    subst ebs
    rw [List.map_id] at hD
    have e16 := e1.trans e6
    refine ⟨_, rfl, x, dy, _, rfl, (e16 _ _ hy), len_no ⟨by decide +kernel, by decide +kernel, by decide +kernel⟩, _, rfl, _, _, rfl, ⟨by rw [sizeLine_eq]; omega, rfl⟩, _, rfl, x, _, dy, _, _, rfl, e16 _ _ hy, T.cl_Lengths, T.n_Lengths_count, len_fs.1, _, _, rfl, rfl, (by show 1 ≤ sizeLine; rw [sizeLine_eq]; decide), fun q hq => ?_⟩
    have e7 : Same H (upd H6 q (.lst [V.int ((y.length : Nat) + c)])) := e16.trans (same_new hq)
    refine ⟨_, rfl, _, _, _, rfl, x, kd, q, D, c, _, _, rfl, rfl, rfl, ⟨dy, e7 _ _ hy⟩, hl.c0, hl.c5, upd_same (o := .lst ([(y.length : Nat) + c].map V.int)), (same_new hq) _ _ hD, ?_, ?_, fun r H8 hr hr0 e8 => ?_⟩
    · intro z hz
      rw [List.mem_singleton.mp hz]
      have := hl.c0
      omega
    · exact fun z hz => nn z (List.mem_filter.mp hz).1
    · exact k r H8 (by rw [hr, e0]; rfl) (e7.trans e8)
theorem ok_Lengths_of_row (T : Txt K mg A) : FnOk P w K mg base CX0 16 A.f_Lengths_of_row A.d_Lengths_of_row ["self", "kind"] (sp_Lengths_of_row K A) := by
  refine T.F_Lengths_of_row.ok sc_Lengths_of_row (fun vs H Q E h => sp2_len h) (fun cdv A0 outer s H vs Q E hr h => ?_)
  have nd := sc_Lengths_of_row.nd
  refine ⟨_, (pss_cons (ps_set (i := 2) nd rfl (by first | exact Or.inl rfl | exact Or.inr rfl) (pe_lst (pa_cons pe_int pa_nil)))
      (pss_cons (ps_for PassesOwn.never rfl (pi_tup (pe_fld (pv 1) rfl)) (pg_name (i := 3) nd rfl (by first | exact Or.inl rfl | exact Or.inr rfl)) (pss_one (ps_if (pt_val (pe_callB call_isi (by rfl) T.b_isinstance (by decide +kernel) (pa_cons (pv 3) (pa_cons (pe_glob (v := .ref A.c_Part) (by rfl) T.mg_Part rfl) pa_nil)))) (pss_one (ps_set (i := 2) nd rfl (by first | exact Or.inl rfl | exact Or.inr rfl) (pe_meth (pv 0) T.cl_Lengths ⟨T.m_Lengths_sums, T.i_Lengths_sums, T.k_Lengths_sums⟩ (ok_Lengths_sums T) (hr.mono (by decide)) T.b_Lengths_sums .nil pass0 (pa_cons (pv 2) (pa_cons (pe_meth (pv 0) T.cl_Lengths ⟨T.m_Lengths_of_kind, T.i_Lengths_of_kind, T.k_Lengths_of_kind⟩ (ok_Lengths_of_kind T) (hr.mono (by decide)) T.b_Lengths_of_kind .nil pass0 (pa_cons (pe_fld (pv 3) rfl) pa_nil)) pa_nil))))) (pss_one (ps_set (i := 2) nd rfl (by first | exact Or.inl rfl | exact Or.inr rfl) (pe_meth (pv 0) T.cl_Lengths ⟨T.m_Lengths_sums, T.i_Lengths_sums, T.k_Lengths_sums⟩ (ok_Lengths_sums T) (hr.mono (by decide)) T.b_Lengths_sums .nil pass0 (pa_cons (pv 2) (pa_cons (pe_op op_cat (pe_lst (pa_cons pe_int pa_nil)) (pe_meth (pv 0) T.cl_Lengths ⟨T.m_Lengths_of_body, T.i_Lengths_of_body, T.k_Lengths_of_body⟩ (ok_Lengths_of_body T) (hr.mono (by decide)) T.b_Lengths_of_body .nil pass0 (pa_cons (pe_fld (pv 3) rfl) (pa_cons (pe_fld (pv 3) rfl) pa_nil)))) pa_nil))))))))
      (pss_one (ps_ret (pv 2))))), ?_⟩
  clear nd hr
  replace h := sp2_of h
  obtain ⟨v_self, v_kind, rfl, h⟩ := h

  obtain ⟨x, kd, c, kn, ks, rfl, hl, hk, hf, l8, hkn, k⟩ := h
  obtain ⟨dy, hy⟩ := hl.at_
  obtain ⟨t0, t32⟩ := top_32 hl.c0 hl.c5
  cases hk with
  | row ob et kz o =>
    obtain ⟨dx, fs, hx, lx⟩ := ob
    have fa := fitAll_mem (by rw [Kd.fit] at hf; exact hf)
    have lvs := pair_lenE (kats_pair kz)
    rename_i ya tt vs
    refine ⟨(by show 1 ≤ sizeLine; rw [sizeLine_eq]; decide), fun f hfn => ?_⟩
    have e0 : Same H (upd H f (.lst [V.int 0])) := same_new hfn
    refine ⟨_, rfl, _, _, dx, _, _, rfl, (e0 _ _ hx), T.cl_Row, T.n_Row_parts, (lx _ (List.mem_cons_self ..)), tt, rfl, ⟨_, SqT.of (e0 _ _ et)⟩, ?_⟩
    refine for_it (walk_tup (xs := vs)) (fun i σ' H' => ∃ (fd : Addr) (a3 : Option V), σ' = [some (.ref x), some (.ref ya), some (.ref fd), a3] ∧ H' fd = some (.lst (((ks.take i).foldl (rowL1 (tp c) c kn) [0]).map V.int)) ∧ H fd = none ∧ Same H H') ⟨f, _, rfl, upd_same, hfn, e0⟩ (fun i σ' H' _ ⟨_, _, _, _, _, e⟩ => SqT.of (e _ _ et)) ?_ ?_
    · rintro i xv σ' H4 H4' hi ⟨fd, a3, rfl, hf4, hfd, e4⟩ ⟨rfl, hxv⟩
      obtain ⟨z, hz, hkz⟩ := pair_atE (kats_pair kz) hxv
      have mz := List.mem_of_getElem? hz
      have hkz := hkz.keep (KI.same e4)
      have hl4 := hl.same e4
      have hy4 := e4 _ _ hy
      have fz := fa z mz
      have kz1 := hkn z mz
      have tk : (ks.take (i + 1)).foldl (rowL1 (tp c) c kn) [0] = rowL1 (tp c) c kn ((ks.take i).foldl (rowL1 (tp c) c kn) [0]) z := by rw [take_snoc hz, List.foldl_append]; rfl
      have few := rows_few hl.c0 hl.c5 hl.nn (ks.take i) (fun a ha => fa a (List.mem_of_mem_take ha)) fun a ha => hkn a (List.mem_of_mem_take ha)
      refine ⟨_, rfl, _, _, _, _, _, rfl, .own _, (KAt.vt T hkz).tyx, kit_isaO (KAt.vt T hkz).tag (T.kco .part), _, rfl, iteB (fun g4 => ?_) (fun g4 => ?_)⟩
      · have ec : decide (Kd.cls z = some .part) = true := isa_cls (t := .k z) (c := .part) T g4
        cases hkz with
        | part ob2 kk oo =>
          obtain ⟨dz, gs, hzx, lx⟩ := ob2
          rename_i yz vz iz nz
          have fz := fz
          rw [Kd.fit] at fz
          have lenK := lensK_nn hl.c0 hl.c5 hl.nn fz.2 (k := iz) kz1
          refine ⟨_, rfl, x, dy, _, rfl, hy4, len_no ⟨by decide +kernel, by decide +kernel, by decide +kernel⟩, _, rfl, _, rfl, x, dy, _, rfl, hy4, len_no ⟨by decide +kernel, by decide +kernel, by decide +kernel⟩, _, rfl, _, _, _, _, _, rfl, hzx, T.cl_Part, T.n_Part_kind, (lx _ (List.mem_cons_of_mem _ (List.mem_cons_self ..))), _, _, rfl, x, kd, c, kn, iz, rfl, hl4, kk, fz.2, si_of (.inr oo) fz.2, kz1, fun p H6 hp e6 => ?_⟩
          refine ⟨_, _, _, rfl, x, kd, fd, p, c, _, _, rfl, rfl, rfl, ⟨dy, e6 _ _ hy4⟩, hl.c0, hl.c5, e6 _ _ hf4, hp, few.1, lenK.1, fun r H7 hr hr0 e7 => ?_⟩
          refine ⟨r, _, rfl, ?_, none_same (e4.trans e6) hr0, e4.trans (e6.trans e7)⟩
          rw [tk]
          exact hr
        | _ => cases of_decide_eq_true ec
      · have nw : decide (Kd.cls z = some .part) = false := isa_cls (t := .k z) (c := .part) T g4
        have ow := o z mz
        cases hkz with
        | room ob2 kk oo =>
          obtain ⟨dz, gs, hzx, lx⟩ := ob2
          rename_i yz vz iz wz nz
          have fz := fz
          rw [Kd.fit] at fz
          have bf := body_few (w := wz) (k := iz) hl.c0 hl.c5 hl.nn fz.2.2 kz1
          refine ⟨_, rfl, x, dy, _, rfl, hy4, len_no ⟨by decide +kernel, by decide +kernel, by decide +kernel⟩, _, rfl, (by show 1 ≤ sizeLine; rw [sizeLine_eq]; decide), fun q hq => ?_⟩
          have e5 : Same H4' (upd H4' q (.lst [V.int 0])) := same_new hq
          refine ⟨_, rfl, x, dy, _, rfl, (e5 _ _ hy4), len_no ⟨by decide +kernel, by decide +kernel, by decide +kernel⟩, _, rfl, _, _, _, _, _, rfl, (e5 _ _ hzx), T.cl_Room, T.n_Room_word, (lx _ (List.mem_cons_self ..)), ?_⟩
          refine ⟨_, rfl, _, _, _, _, _, rfl, (e5 _ _ hzx), T.cl_Room, T.n_Room_kind, (lx _ (List.mem_cons_of_mem _ (List.mem_cons_of_mem _ (List.mem_cons_self ..)))), _, _, _, rfl, x, kd, c, kn, iz, wz, rfl, rfl, fz.1, hl4.same e5, kk.keep (KI.same e5), fz.2.2, si_room oo fz.2.2, kz1, fun p H6 hp e6 => ?_⟩
          have e56 := e5.trans e6
          have bf2 := bf.2
          refine ⟨q, p, [.int 0], _, rfl, rfl, e6 _ _ upd_same, hp, by rw [sizeLine_eq, List.length_map]; exact Nat.le_trans (Nat.add_le_add_left bf2 _) (by decide), fun r6 hr6 => ?_⟩
          have e57 : Same H4' (upd H6 r6 (.lst (([0] ++ bodyL (tp c) c kn wz iz).map V.int))) := e56.trans (same_new hr6)
          refine ⟨_, _, _, rfl, x, kd, fd, r6, c, _, [0] ++ bodyL (tp c) c kn wz iz, rfl, rfl, rfl, ⟨dy, e57 _ _ hy4⟩, hl.c0, hl.c5, e57 _ _ hf4, upd_same, few.1, ?_, fun r H7 hr hr0 e7 => ?_⟩
          · intro a ha
            rcases List.mem_cons.mp ha with e | e
            · omega
            · exact bf.1 a e
          · refine ⟨r, _, rfl, ?_, none_same (e4.trans e57) hr0, e4.trans (e57.trans e7)⟩
            rw [tk]
            exact hr
        | part ob2 kk oo => exact absurd rfl (of_decide_eq_false nw)
        | _ => cases ow
    · rintro σ' H4 ⟨fd, a3, rfl, hf4, hfd, e4⟩
      rw [lvs, List.take_length] at hf4
      exact ⟨_, rfl, k fd H4 hf4 hfd e4⟩
theorem ok_Lengths_of_named (T : Txt K mg A) : FnOk P w K mg base CX0 17 A.f_Lengths_of_named A.d_Lengths_of_named ["self", "kind"] (sp_Lengths_of_named K A) := by
  refine T.F_Lengths_of_named.ok sc_Lengths_of_named (fun vs H Q E h => sp2_len h) (fun cdv A0 outer s H vs Q E hr h => ?_)
  have nd := sc_Lengths_of_named.nd
  refine ⟨_, (pss_cons (ps_if (pt_val (pe_callB call_isi (by rfl) T.b_isinstance (by decide +kernel) (pa_cons (pv 1) (pa_cons (pe_glob (v := .ref A.c_Row) (by rfl) T.mg_Row rfl) pa_nil)))) (pss_one (ps_ret (pe_meth (pv 0) T.cl_Lengths ⟨T.m_Lengths_of_row, T.i_Lengths_of_row, T.k_Lengths_of_row⟩ (ok_Lengths_of_row T) (hr.mono (by decide)) T.b_Lengths_of_row .nil pass0 (pa_cons (pv 1) pa_nil)))) pss_nil)
      (pss_cons (ps_if (pt_not (pt_val (pe_callB call_isi (by rfl) T.b_isinstance (by decide +kernel) (pa_cons (pv 1) (pa_cons (pe_glob (v := .ref A.c_Choice) (by rfl) T.mg_Choice rfl) pa_nil))))) (pss_one (ps_ret (pe_meth (pv 0) T.cl_Lengths ⟨T.m_Lengths_of_kind, T.i_Lengths_of_kind, T.k_Lengths_of_kind⟩ (ok_Lengths_of_kind T) (hr.mono (by decide)) T.b_Lengths_of_kind .nil pass0 (pa_cons (pv 1) pa_nil)))) pss_nil)
      (pss_cons (ps_set (i := 2) nd rfl (by first | exact Or.inl rfl | exact Or.inr rfl) (pe_lst pa_nil))
      (pss_cons (ps_for PassesOwn.never rfl (pi_tup (pe_fld (pv 1) rfl)) (pg_name (i := 3) nd rfl (by first | exact Or.inl rfl | exact Or.inr rfl)) (pss_one (ps_if (pt_val (pe_callB call_isi (by rfl) T.b_isinstance (by decide +kernel) (pa_cons (pv 3) (pa_cons (pe_glob (v := .ref A.c_Way) (by rfl) T.mg_Way rfl) pa_nil)))) (pss_one (ps_expr (pe_bm PySem.F.plainAttrs_list PySem.F.slot_list_extend PySem.F.type_list_extend mt_extend (pv 2) (pa_cons (pe_meth (pv 0) T.cl_Lengths ⟨T.m_Lengths_sums, T.i_Lengths_sums, T.k_Lengths_sums⟩ (ok_Lengths_sums T) (hr.mono (by decide)) T.b_Lengths_sums .nil pass0 (pa_cons (pe_lst (pa_cons (pe_callB call_len (by rfl) T.b_len (by decide +kernel) (pa_cons (pe_fld (pv 3) rfl) pa_nil)) pa_nil)) (pa_cons (pe_meth (pv 0) T.cl_Lengths ⟨T.m_Lengths_of_kind, T.i_Lengths_of_kind, T.k_Lengths_of_kind⟩ (ok_Lengths_of_kind T) (hr.mono (by decide)) T.b_Lengths_of_kind .nil pass0 (pa_cons (pe_fld (pv 3) rfl) pa_nil)) pa_nil))) pa_nil)))) (pss_one (ps_expr (pe_bm PySem.F.plainAttrs_list PySem.F.slot_list_extend PySem.F.type_list_extend mt_extend (pv 2) (pa_cons (pe_meth (pv 0) T.cl_Lengths ⟨T.m_Lengths_of_body, T.i_Lengths_of_body, T.k_Lengths_of_body⟩ (ok_Lengths_of_body T) (hr.mono (by decide)) T.b_Lengths_of_body .nil pass0 (pa_cons (pe_fld (pv 3) rfl) (pa_cons (pe_fld (pv 3) rfl) pa_nil))) pa_nil)))))))
      (pss_one (ps_ret (pe_callB (cr_sortedSet rfl) (by rfl) T.b_sorted (by decide +kernel) (pa_cons (pe_sc1 (own := [("one", 4)]) (by rfl) nd (pi_list (pv 2)) (blkOk_by (own := [("one", 4)]) (N := ["self", "kind", "found", "way", "one"]) (sc := defScope s_Lengths_of_named) (by decide +kernel)) (fun _ _ _ _ _ => pg_name (i := 4) nd rfl (by first | exact Or.inl rfl | exact Or.inr rfl)) (fun _ _ _ _ _ => pts_nil) (fun _ _ _ _ _ => (pv 4))) pa_nil)))))))), ?_⟩
  clear nd hr
  replace h := sp2_of h
  obtain ⟨v_self, v_kind, rfl, h⟩ := h

  obtain ⟨x, kd, c, kn, k0, rfl, hl, hk, hf, top, hkn, k⟩ := h
  obtain ⟨dy, hy⟩ := hl.at_
  obtain ⟨t0, t32⟩ := top_32 hl.c0 hl.c5
  refine ⟨_, rfl, _, _, _, _, _, rfl, .own _, (KAt.vt T hk).tyx, kit_isaO (KAt.vt T hk).tag (T.kco .row), _, rfl, iteB (fun g => ?_) (fun g => ?_)⟩
  · have ec : decide (Kd.cls k0 = some .row) = true := isa_cls (t := .k k0) (c := .row) T g
    cases hk with
    | row ob e ks o =>
      exact ⟨_, rfl, x, dy, _, rfl, hy, len_no ⟨by decide +kernel, by decide +kernel, by decide +kernel⟩, _, rfl, _, _, rfl, x, kd, c, kn, _, rfl, hl, .row ob e ks o, hf, of_decide_eq_true top, knows_in hkn, fun p H1 hp _ e1 => k p H1 hp e1⟩
    | _ => cases of_decide_eq_true ec
  have n1 : decide (Kd.cls k0 = some .row) = false := isa_cls (t := .k k0) (c := .row) T g
  refine ⟨_, rfl, _, _, _, _, _, rfl, .own _, (KAt.vt T hk).tyx, kit_isaO (KAt.vt T hk).tag (T.kco .choice), _, rfl, iteB (fun g2 => ?_) (fun g2 => ?_)⟩
  · have n2 : decide (Kd.cls k0 = some .choice) = false := isa_cls (t := .k k0) (c := .choice) T (show isa (Td.tag A (.k k0)) (.ref A.c_Choice) = false by simpa using g2)
    have hs : isSi k0 = true := by
      cases k0 <;> first | rfl | exact absurd rfl (of_decide_eq_false n1) | exact absurd rfl (of_decide_eq_false n2) | (rw [Kd.fit] at hf; exact hf.elim) | cases top
    have e0 : namedL (tp c) c kn k0 = lensK (tp c) kn k0 := by cases k0 <;> first | rfl | cases hs
    have e1 : innersK k0 = [k0] := by cases k0 <;> first | rfl | cases hs
    exact ⟨_, rfl, x, dy, _, rfl, hy, len_no ⟨by decide +kernel, by decide +kernel, by decide +kernel⟩, _, rfl, _, _, rfl, x, kd, c, kn, k0, rfl, hl, hk, hf, hs, hkn k0 (by rw [e1]; exact List.mem_singleton.mpr rfl), fun p H1 hp e1 => k p H1 (by rw [e0]; exact hp) e1⟩
  have g3 : isa (Td.tag A (.k k0)) (.ref A.c_Choice) = true := by simpa using g2
  have ec : decide (Kd.cls k0 = some .choice) = true := isa_cls (t := .k k0) (c := .choice) T g3
  cases hk with
  | choice ob et kz o =>
    obtain ⟨dx, fs, hx, lx⟩ := ob
    have l12 := of_decide_eq_true top
    have fa := fitAll_mem (by rw [Kd.fit] at hf; exact hf)
    have kin := knows_in hkn
    have lvs := pair_lenE (kats_pair kz)
    rename_i ya tt vs ks
    refine ⟨(by show 0 ≤ sizeLine; rw [sizeLine_eq]; decide), fun f hfn => ?_⟩
    have e0 : Same H (upd H f (.lst [])) := same_new hfn
    refine ⟨_, rfl, _, _, dx, _, _, rfl, (e0 _ _ hx), T.cl_Choice, T.n_Choice_ways, (lx _ (List.mem_cons_self ..)), tt, rfl, ⟨_, SqT.of (e0 _ _ et)⟩, ?_⟩
    refine for_it (walk_tup (xs := vs)) (fun i σ' H' => ∃ a3, σ' = [some (.ref x), some (.ref ya), some (.ref f), a3, none] ∧ H' f = some (.lst (((ks.take i).flatMap (wayL1 (tp c) c kn)).map V.int)) ∧ Same H H') ⟨_, rfl, upd_same, e0⟩ (fun i σ' H' _ ⟨_, _, _, e⟩ => SqT.of (e _ _ et)) ?_ ?_
    · rintro i xv σ' H4 H4' hi ⟨a3, rfl, hf4, e4⟩ ⟨rfl, hxv⟩
      obtain ⟨z, hz, hkz⟩ := pair_atE (kats_pair kz) hxv
      have mz := List.mem_of_getElem? hz
      have hkz := hkz.keep (KI.same e4)
      have hl4 := hl.same e4
      have hy4 := e4 _ _ hy
      have fz := fa z mz
      have kz1 := kin z mz
      have tk : ks.take (i + 1) = ks.take i ++ [z] := take_snoc hz
      have lacc := (flat_few (l := ks.take i) (f := wayL1 (tp c) c kn) fun a ha => way_few hl.c0 hl.c5 hl.nn (fa a (List.mem_of_mem_take ha)) (kin a (List.mem_of_mem_take ha))).2
      have l1 := (way_few hl.c0 hl.c5 hl.nn fz kz1).2
      have li := List.length_take_le i ks
      have lik : i ≤ 12 := by omega
      have room : ((ks.take i).flatMap (wayL1 (tp c) c kn)).length + (wayL1 (tp c) c kn z).length ≤ 1000 := by
        rw [List.length_take] at lacc
        omega
      refine ⟨_, rfl, _, _, _, _, _, rfl, .own _, (KAt.vt T hkz).tyx, kit_isaO (KAt.vt T hkz).tag (T.kco .way), _, rfl, iteB (fun g4 => ?_) (fun g4 => ?_)⟩
      · have ec : decide (Kd.cls z = some .way) = true := isa_cls (t := .k z) (c := .way) T g4
        cases hkz with
        | way ob2 kk oo =>
          obtain ⟨dz, gs, hzx, lx⟩ := ob2
          rename_i yz vz iz wz nz
          have fz := fz
          rw [Kd.fit] at fz
          have hsi := si_of (.inl oo) fz.2.2
          have lenK := lensK_nn hl.c0 hl.c5 hl.nn fz.2.2 (k := iz) kz1
          refine ⟨_, rfl, .inl ⟨rfl, _, SqL.of hf4⟩, _, rfl, x, dy, _, rfl, hy4, len_no ⟨by decide +kernel, by decide +kernel, by decide +kernel⟩, _, rfl, _, _, _, _, _, rfl, hzx, T.cl_Way, T.n_Way_word, (lx _ (List.mem_cons_self ..)), _, _, rfl, ⟨by rw [sizeLine_eq]; omega, rfl⟩, (by show 1 ≤ sizeLine; rw [sizeLine_eq]; decide), fun q hq => ?_⟩
          have e5 : Same H4' (upd H4' q (.lst [V.int (wz.length : Nat)])) := same_new hq
          refine ⟨_, rfl, x, dy, _, rfl, (e5 _ _ hy4), len_no ⟨by decide +kernel, by decide +kernel, by decide +kernel⟩, _, rfl, _, _, _, _, _, rfl, (e5 _ _ hzx), T.cl_Way, T.n_Way_kind, (lx _ (List.mem_cons_of_mem _ (List.mem_cons_of_mem _ (List.mem_cons_self ..)))), _, _, rfl, x, kd, c, kn, iz, rfl, hl4.same e5, kk.keep (KI.same e5), fz.2.2, hsi, kz1, fun p H6 hp e6 => ?_⟩
          have e56 := e5.trans e6
          refine ⟨_, _, _, rfl, x, kd, q, p, c, [(wz.length : Nat)], _, rfl, rfl, rfl, ⟨dy, e56 _ _ hy4⟩, hl.c0, hl.c5, e6 _ _ upd_same, hp, (fun z hz => by rw [List.mem_singleton.mp hz]; omega), lenK.1, fun r H7 hr hr0 e7 => ?_⟩
          have e57 := e56.trans e7
          refine ⟨f, r, _, _, rfl, rfl, e57 _ _ hf4, hr, ?_, _, rfl, ?_, same_put hfn (e4.trans e57)⟩
          · rw [sizeLine_eq, List.length_map, List.length_map]
            exact Nat.le_trans room (by decide)
          · rw [upd_same, tk, List.flatMap_append, List.map_append, flat_one (f := wayL1 (tp c) c kn) (a := .way wz nz iz)]
            rfl
        | _ => cases of_decide_eq_true ec
      · have nw : decide (Kd.cls z = some .way) = false := isa_cls (t := .k z) (c := .way) T g4
        have ow := o z mz
        cases hkz with
        | door ob2 kk oo =>
          obtain ⟨dz, gs, hzx, lx⟩ := ob2
          rename_i yz vz iz wz nz
          have fz := fz
          rw [Kd.fit] at fz
          refine ⟨_, rfl, .inl ⟨rfl, _, SqL.of hf4⟩, _, rfl, x, dy, _, rfl, hy4, len_no ⟨by decide +kernel, by decide +kernel, by decide +kernel⟩, _, rfl, _, _, _, _, _, rfl, hzx, T.cl_Door, T.n_Door_word, (lx _ (List.mem_cons_self ..)), ?_⟩
          refine ⟨_, rfl, _, _, _, _, _, rfl, hzx, T.cl_Door, T.n_Door_kind, (lx _ (List.mem_cons_of_mem _ (List.mem_cons_of_mem _ (List.mem_cons_self ..)))), _, _, _, rfl, x, kd, c, kn, iz, wz, rfl, rfl, fz.1, hl4, kk, fz.2.2, si_door oo fz.2.2, kz1, fun r H7 hr e7 => ?_⟩
          refine ⟨f, r, _, _, rfl, rfl, e7 _ _ hf4, hr, ?_, _, rfl, ?_, same_put hfn (e4.trans e7)⟩
          · rw [sizeLine_eq, List.length_map, List.length_map]
            exact Nat.le_trans room (by decide)
          · rw [upd_same, tk, List.flatMap_append, List.map_append, flat_one (f := wayL1 (tp c) c kn) (a := .door wz nz iz)]
            rfl
        | way ob2 kk oo => exact absurd rfl (of_decide_eq_false nw)
        | _ => cases ow
    · rintro σ' H4 ⟨a3, rfl, hf4, e4⟩
      rw [lvs, List.take_length] at hf4
      obtain ⟨nnz, _⟩ := flat_few (l := ks) (f := wayL1 (tp c) c kn) fun a ha => way_few hl.c0 hl.c5 hl.nn (fa a ha) (kin a ha)
      have le := ways_low (t := tp c) (c := c) (kn := kn) (show (0 : Int) ≤ 2 ^ c.toNat by omega) ks
      dsimp only [tRet, tCB, tCons, tNil]
      refine sc1_ints (fun x => x) ?_ hf4 ?_ ?_ (fun z hz => ?_) (fun D H' hD hD0 e => ?_)
      · exact fun Q' q => ⟨_, rfl, q⟩
      · exact rfl
      · exact fun z H1 Q' hz e1 q => ⟨_, rfl, q⟩
      · have := nnz z hz
        have := le z hz
        have : tp c ≤ 32 := t32
        exact ⟨by omega, by omega⟩
      · rw [List.map_id'] at hD
        refine sorted_setO hD (t := 32) (by decide) (by decide) (fun a ha => ?_) fun r hr => ?_
        · have := nnz a ha
          have := le a ha
          have : tp c ≤ 32 := t32
          exact ⟨by omega, by omega⟩
        · exact k r _ upd_same (e4.trans (e.trans (same_new hr)))
  | _ => cases of_decide_eq_true ec
theorem ok_Lengths___init__ (T : Txt K mg A) : FnOk P w K mg base CX0 18 A.f_Lengths___init__ A.d_Lengths___init__ ["self", "table", "count"] (sp_Lengths___init__ K A) := by
  refine T.F_Lengths___init__.ok sc_Lengths___init__ (fun vs H Q E h => sp3_len h) (fun cdv A0 outer s H vs Q E hr h => ?_)
  have nd := sc_Lengths___init__.nd
  refine ⟨_, (pss_cons (ps_fld (pv 0) (pv 2) rfl)
      (pss_cons (ps_fld (pv 0) (pe_op op_shl pe_int (pv 2)) rfl)
      (pss_cons (ps_fld (pv 0) pe_dnewK rfl)
      (pss_one (ps_for PassesOwn.never rfl (pi_list (pe_call (ok_call_order T) (hr.mono (by decide)) (by rfl) T.mg_call_order T.k_call_order T.b_call_order .nil pass0 (pa_cons (pv 1) pa_nil))) (pg_name (i := 3) nd rfl (by first | exact Or.inl rfl | exact Or.inr rfl)) (pss_one (ps_asg (pe_meth (pv 0) T.cl_Lengths ⟨T.m_Lengths_of_named, T.i_Lengths_of_named, T.k_Lengths_of_named⟩ (ok_Lengths_of_named T) (hr.mono (by decide)) T.b_Lengths_of_named .nil pass0 (pa_cons (pe_dget (hu_of hr) (pv 1) (pv 3) (fun _ _ => rfl)) pa_nil)) (pg_sub (pe_fld (pv 0) rfl) (pv 3) (set_dict (hu_of hr)))))))))), ?_⟩
  clear nd hr
  replace h := sp3_of h
  obtain ⟨v_self, v_table, v_count, rfl, h⟩ := h

  obtain ⟨H0, x, p, tb, kvs, rk, c, rfl, fr, rfl, rfl, ht, hp, top, fits, l20, rd, c0, c5, k⟩ := h
  obtain ⟨dx, hx⟩ := fr.at'
  refine ⟨_, rfl, _, rfl, x, _, dx, _, rfl, hx, T.cl_Lengths, T.n_Lengths_count, Nat.lt_of_le_of_lt (Nat.le_refl 0 : _ ≤ 0) (by decide : 0 < 1000), ?_⟩
  refine ⟨_, rfl, _, _, rfl, rfl, ⟨by omega, by omega, by decide⟩, _, rfl, x, _, dx, _, rfl, upd_same, T.cl_Lengths, T.n_Lengths_top, Nat.lt_of_le_of_lt (put_len (Nat.zero_le _) : _ ≤ 1) (by decide : 1 < 1000), ?_⟩
  simp only [Int.one_mul, upd_upd]
  have f2 : Fresh2 A.c_Lengths x H0 (upd H x (.ins A.c_Lengths dx (putF "top" (.int (2 ^ c.toNat)) (putF "count" (.int c) [])))) dx (putF "top" (.int (2 ^ c.toNat)) (putF "count" (.int c) [])) := ⟨fr.no, same_put fr.no fr.s, upd_same⟩
  generalize upd H x (.ins A.c_Lengths dx (putF "top" (.int (2 ^ c.toNat)) (putF "count" (.int c) []))) = H1 at f2 ⊢
  refine fun kd hkd => ?_
  have nxk : x ≠ kd := fun z => by rw [← z, f2.at'] at hkd; cases hkd
  have e1 : Same H0 (upd H1 kd (.dK [])) := f2.s.trans (same_new hkd)
  have hkd0 : H0 kd = none := none_same f2.s hkd
  refine ⟨_, rfl, x, _, dx, _, rfl, by rw [upd_ne nxk]; exact f2.at', T.cl_Lengths, T.n_Lengths_known, Nat.lt_of_le_of_lt (put_len (put_len (Nat.zero_le _)) : _ ≤ 2) (by decide : 2 < 1000), ?_⟩
  rw [put3E]
  have hk2 : (upd (upd H1 kd (.dK [])) x (.ins A.c_Lengths dx (lenFs (.int c) (.ref kd) (.int (2 ^ c.toNat))))) kd = some (.dK []) := by rw [upd_ne nxk.symm, upd_same]
  have hx2 : (upd (upd H1 kd (.dK [])) x (.ins A.c_Lengths dx (lenFs (.int c) (.ref kd) (.int (2 ^ c.toNat))))) x = some (.ins A.c_Lengths dx (lenFs (.int c) (.ref kd) (.int (2 ^ c.toNat)))) := upd_same
  have e2 := same_put (o := .ins A.c_Lengths dx (lenFs (.int c) (.ref kd) (.int (2 ^ c.toNat)))) fr.no e1
  generalize upd (upd H1 kd (.dK [])) x (.ins A.c_Lengths dx (lenFs (.int c) (.ref kd) (.int (2 ^ c.toNat)))) = H2 at hk2 hx2 e2 ⊢
  refine ⟨_, rfl, _, rfl, p, tb, kvs, rk, rfl, ht.same e2, e2 _ _ hp, top, l20, rd, fun q ds H3 hq hq0 e3 perm topo => ?_⟩
  have e03 := e2.trans e3
  refine ⟨q, rfl, ⟨_, SqL.of hq⟩, ?_⟩
  have lds : ds.length = tb.length := perm.length_eq.trans (List.length_map ..)
  have dnd : ds.Nodup := perm.nodup_iff.mpr rd.nd
  refine for_it (walk_list (xs := ds.map V.str)) (fun i σ' H' => ∃ a3, σ' = [some (.ref x), some (.ref p), some (.int c), a3] ∧ Lens A H' x c kd (knL tb c (ds.take i)) ∧ H' q = some (.lst (ds.map V.str)) ∧ Same H0 H') ⟨_, rfl, ⟨⟨dx, e3 _ _ hx2⟩, ⟨[], e3 _ _ hk2, .nil⟩, c0, c5, fun x hx => nomatch hx⟩, hq, e03⟩ (fun i σ' H' _ ⟨_, _, _, h, _⟩ => SqL.of h) ?_ ?_
  · rintro i xv σ' H4 H4' hi ⟨a3, rfl, hl4, hq4, e4⟩ ⟨rfl, hxv⟩
    rw [List.getElem?_map] at hxv
    obtain ⟨n, hn, rfl⟩ := Option.map_eq_some_iff.mp hxv
    have hnn : n ∈ tb.names := perm.mem_iff.mp (List.mem_of_getElem? hn)
    have t4 := ht.same e4
    obtain ⟨k1, v1, hl1, hk1, hg1⟩ := t4.get hnn
    obtain ⟨dy, hy⟩ := hl4.at_
    have mk1 := look_mem hl1
    have kall : ∀ z ∈ innersK k1, Knows (knL tb c (ds.take i)) z := knows_of fun m hm => knL_has _ (topo i n hn k1 hl1 m hm)
    refine ⟨_, rfl, x, dy, _, rfl, hy, len_no ⟨by decide +kernel, by decide +kernel, by decide +kernel⟩, _, rfl, _, rfl, p, v1, rfl, hg1, _, _, rfl, x, kd, c, _, k1, rfl, hl4, hk1, fits _ mk1, top.look hl1, kall, fun r H5 hr e5 => ?_⟩
    have hl5 := hl4.same e5
    have hy5 := e5 _ _ hy
    obtain ⟨kvs5, hk5, pk5⟩ := hl5.kat
    have nrk : r ≠ kd := fun z => by rw [z, hk5] at hr; cases hr
    have nxk5 : x ≠ kd := nxk
    have nin : n ∉ ds.take i := nodup_take dnd hn
    have new := kn_none pk5 (knL_none nin)
    have lk5 : kvs5.length ≤ 20 := by
      rw [pair_lenE pk5, knL_len]
      have := List.length_take_le i ds
      have := List.length_take_le' i ds
      omega
    refine ⟨_, rfl, x, _, dy, _, _, rfl, hy5, T.cl_Lengths, T.n_Lengths_known, len_fs.2.2, _, rfl, kd, _, rfl, (show DPut H5 kd (.str n) (.ref r) _ from DPut.k (k := (.inr n : Key)) hk5 (by rw [sizeLine_eq]; omega)), _, rfl, ?_, ?_, ?_⟩
    · rw [putK_new _ new]
      have tk : ds.take (i + 1) = ds.take i ++ [n] := take_snoc hn
      have ek : knL tb c (ds.take (i + 1)) = knL tb c (ds.take i) ++ [(n, namedL (tp c) c (knL tb c (ds.take i)) k1)] := by rw [tk, knL_snoc, hl1]; rfl
      refine ⟨⟨dy, by rw [upd_ne nxk]; exact hy5⟩, ⟨_, upd_same, ?_⟩, c0, c5, ?_⟩
      · rw [ek]
        exact paired_snocE ⟨rfl, r, nrk, rfl, by rw [upd_ne nrk]; exact hr⟩ (paired_impE (fun _ _ ⟨a, q, n, b, c⟩ => ⟨a, q, n, b, by rw [upd_ne n]; exact c⟩) pk5)
      · rw [ek]
        intro y hy
        rcases List.mem_append.mp hy with q | q
        · exact hl4.nn y q
        · rw [List.mem_singleton.mp q]
          exact named_ok c0 c5 hl4.nn (top.look hl1) (fits _ mk1) kall
    · rw [upd_ne (fun z => by have := e5 _ _ hq4; rw [z, hk5] at this; cases this)]
      exact e5 _ _ hq4
    · exact same_put hkd0 (e4.trans e5)
  · rintro σ' H4 ⟨a3, rfl, hl4, hq4, e4⟩
    rw [List.length_map, List.take_length] at hl4
    exact k kd _ H4 hl4 (fix_of rd perm topo) e4
theorem ok_Lengths_is_long (T : Txt K mg A) : FnOk P w K mg base CX0 15 A.f_Lengths_is_long A.d_Lengths_is_long ["self", "kind"] (sp_Lengths_is_long K A) := by
  refine T.F_Lengths_is_long.ok sc_Lengths_is_long (fun vs H Q E h => sp2_len h) (fun cdv A0 outer s H vs Q E hr h => ?_)
  have nd := sc_Lengths_is_long.nd
  refine ⟨_, (pss_one (ps_ret (pe_cmpR op_in_seq (pe_fld (pv 0) rfl) (pe_meth (pv 0) T.cl_Lengths ⟨T.m_Lengths_of_kind, T.i_Lengths_of_kind, T.k_Lengths_of_kind⟩ (ok_Lengths_of_kind T) (hr.mono (by decide)) T.b_Lengths_of_kind .nil pass0 (pa_cons (pv 1) pa_nil)) (by rfl)))), ?_⟩
  clear nd hr
  replace h := sp2_of h
  obtain ⟨v_self, v_kind, rfl, h⟩ := h

  obtain ⟨x, kd, c, kn, k0, rfl, hl, hk, hf, hs, hkn, k⟩ := h
  obtain ⟨dy, hy⟩ := hl.at_
  refine ⟨_, rfl, x, _, dy, _, _, rfl, hy, T.cl_Lengths, T.n_Lengths_top, len_fs.2.1, _, rfl, x, dy, _, rfl, hy, len_no ⟨by decide +kernel, by decide +kernel, by decide +kernel⟩, _, rfl, _, _, rfl, x, kd, c, kn, k0, rfl, hl, hk, hf, hs, hkn, fun p H1 hp e1 => ?_⟩
  refine ⟨p, _, rfl, .inl (SqL.of hp), rfl, flat_intsE _, ?_⟩
  show Q (.bl (inV (.int (tp c)) ((lensK (tp c) kn k0).map V.int))) H1
  rw [inV_intE]
  exact k H1 e1
theorem ok_long_body (T : Txt K mg A) : FnOk P w K mg base CX0 20 A.f_long_body A.d_long_body ["table", "count"] (sp_long_body K A) := by
  refine T.F_long_body.ok sc_long_body (fun vs H Q E h => sp2_len h) (fun cdv A0 outer s H vs Q E hr h => ?_)
  have nd := sc_long_body.nd
  refine ⟨_, (pss_cons (ps_set (i := 2) nd rfl (by first | exact Or.inl rfl | exact Or.inr rfl) (pe_make T.mk_Lengths (ok_Lengths___init__ T) (hr.mono (by decide)) (by rfl) T.mg_Lengths T.b_Lengths___init__ .nil pass0 (pa_cons (pv 0) (pa_cons (pv 1) pa_nil))))
      (pss_cons (ps_for PassesOwn.never rfl (pi_list (pe_callB (call_sortedD rfl) (by rfl) T.b_sorted (by decide +kernel) (pa_cons (pv 0) pa_nil))) (pg_name (i := 3) nd rfl (by first | exact Or.inl rfl | exact Or.inr rfl)) (pss_cons (ps_set (i := 4) nd rfl (by first | exact Or.inl rfl | exact Or.inr rfl) (pe_lst pa_nil))
      (Evl.pss_cut (ps_if (pt_val (pe_callB call_isi (by rfl) T.b_isinstance (by decide +kernel) (pa_cons (pe_dget (hu_of hr) (pv 0) (pv 3) (fun _ _ => rfl)) (pa_cons (pe_glob (v := .ref A.c_Choice) (by rfl) T.mg_Choice rfl) pa_nil)))) (pss_one (ps_setLc (i := 4) (own := [("way", 5)]) (g := gName 5) (by rfl) nd rfl rfl (sw_true rfl rfl rfl (by decide +kernel)) (pi_tup (pe_fld (pe_dget (hu_of hr) (pv 0) (pv 3) (fun _ _ => rfl)) rfl)) (blkOk_by (own := [("way", 5)]) (N := ["table", "count", "lengths", "name", "inner", "way", "part", "one"]) (sc := defScope s_long_body) (by decide +kernel)) (fun _ _ _ _ _ => pg_name (i := 5) nd rfl (by first | exact Or.inl rfl | exact Or.inr rfl)) (fun _ _ _ _ _ => pts_one (pt_not (pt_val (pe_callB (call_isiK2 (K := K) rfl) (by rfl) T.b_isinstance (by decide +kernel) (pa_cons (pv 5) (pa_cons (pe_glob (v := .ref A.c_Way) (by rfl) T.mg_Way rfl) pa_nil)))))) (fun _ _ _ _ _ => (pv 5)))) (pss_one (ps_if (pt_val (pe_callB call_isi (by rfl) T.b_isinstance (by decide +kernel) (pa_cons (pe_dget (hu_of hr) (pv 0) (pv 3) (fun _ _ => rfl)) (pa_cons (pe_glob (v := .ref A.c_Row) (by rfl) T.mg_Row rfl) pa_nil)))) (pss_one (ps_setLc (i := 4) (own := [("part", 6)]) (g := gName 6) (by rfl) nd rfl rfl (sw_true rfl rfl rfl (by decide +kernel)) (pi_tup (pe_fld (pe_dget (hu_of hr) (pv 0) (pv 3) (fun _ _ => rfl)) rfl)) (blkOk_by (own := [("part", 6)]) (N := ["table", "count", "lengths", "name", "inner", "way", "part", "one"]) (sc := defScope s_long_body) (by decide +kernel)) (fun _ _ _ _ _ => pg_name (i := 6) nd rfl (by first | exact Or.inl rfl | exact Or.inr rfl)) (fun _ _ _ _ _ => pts_one (pt_not (pt_val (pe_callB (call_isiK2 (K := K) rfl) (by rfl) T.b_isinstance (by decide +kernel) (pa_cons (pv 6) (pa_cons (pe_glob (v := .ref A.c_Part) (by rfl) T.mg_Part rfl) pa_nil)))))) (fun _ _ _ _ _ => (pv 6)))) pss_nil)))
      (pss_one (ps_for PassesOwn.never rfl (pi_list (pv 4)) (pg_name (i := 7) nd rfl (by first | exact Or.inl rfl | exact Or.inr rfl)) (pss_one (ps_if (PW.pt (pw_and (pt_cmpR op_notN (pe_fld (pv 7) rfl) pe_non (nomark _)) (pw_and1 (pt_val (pe_meth (pv 2) T.cl_Lengths ⟨T.m_Lengths_is_long, T.i_Lengths_is_long, T.k_Lengths_is_long⟩ (ok_Lengths_is_long T) (hr.mono (by decide)) T.b_Lengths_is_long .nil pass0 (pa_cons (pe_fld (pv 7) rfl) pa_nil)))))) (pss_one (ps_ret (pe_tup (pa_cons (pv 3) (pa_cons (pe_fld (pv 7) rfl) pa_nil))))) pss_nil)))))))
      (pss_one (ps_ret pe_non)))), ?_⟩
  clear nd hr
  replace h := sp2_of h
  obtain ⟨v_table, v_count, rfl, h⟩ := h

  obtain ⟨p, tb, kvs, rk, c, rfl, rfl, ht, hp, top, fits, l20, rd, c0, c5, no, k⟩ := h
  have ln : tb.names.length = tb.length := List.length_map ..
  refine ⟨_, rfl, _, rfl, fun x dx hx hdx ne => ?_⟩
  refine ⟨_, _, _, rfl, H, x, p, tb, kvs, rk, c, rfl, Fresh.mk' hx hdx ne, rfl, rfl, ht, hp, top, fits, l20, rd, c0, c5, fun kd kn H1 hl fx e1 => ⟨rfl, ?_⟩⟩
  have no := no kn fx
  refine ⟨_, rfl, p, kvs, tb.names, rfl, (ht.same e1).rd, ht.keys, by omega, fun ys q perm srt hq => ?_⟩
  refine ⟨q, rfl, ⟨_, SqL.of upd_same⟩, ?_⟩
  refine for_it (walk_list (xs := ys.map V.str)) (fun i σ' H' => ∃ a3 a4 a5 a6 a7, σ' = [some (.ref p), some (.int c), some (.ref x), a3, a4, a5, a6, a7] ∧ H' q = some (.lst (ys.map V.str)) ∧ Same (upd H1 q (.lst (ys.map V.str))) H') ⟨_, _, _, _, _, rfl, upd_same, fun _ _ z => z⟩ (fun i σ' H' _ ⟨_, _, _, _, _, _, h, _⟩ => SqL.of h) ?_ ?_
  · rintro i xv σ' H4 H4' hi ⟨a3, a4, a5, a6, a7, rfl, hq4, e4⟩ ⟨rfl, hxv⟩
    rw [List.getElem?_map] at hxv
    obtain ⟨n, hn, rfl⟩ := Option.map_eq_some_iff.mp hxv
    have hnn : n ∈ tb.names := perm.mem_iff.mp (List.mem_of_getElem? hn)
    have e14 : Same H1 H4' := (same_new hq).trans e4
    refine ⟨(by show 0 ≤ sizeLine; rw [sizeLine_eq]; decide), fun w0 hw0 => ?_⟩
    have e5 : Same H4' (upd H4' w0 (.lst [])) := same_new hw0
    have hw5 : (upd H4' w0 (.lst [])) w0 = some (.lst []) := upd_same
    generalize upd H4' w0 (.lst []) = H5 at e5 hw5 ⊢
    obtain ⟨k1, v1, hl1, hk1, hg1⟩ := (ht.same (e1.trans (e14.trans e5))).get hnn
    have mk1 := look_mem hl1
    have tk1 := top.look hl1
    refine ⟨fun s' h' => ∃ (w : Addr) (us : List V) (zs : List Kd) (a5 a6 a7 : Option V), s' = [some (.ref p), some (.int c), some (.ref x), some (.str n), some (.ref w), a5, a6, a7] ∧ h' w = some (.lst us) ∧ KAts A h' us zs ∧ Same H4' h' ∧ ∀ z ∈ zs, ∃ ks, (k1 = .choice ks ∨ k1 = .row ks) ∧ z ∈ ks ∧ ∃ w m, z = .door w m (inK z) ∨ z = .room w m (inK z), ?_, ?_⟩
    · refine ⟨_, rfl, _, rfl, p, v1, rfl, hg1, _, _, _, _, _, rfl, .own _, (KAt.vt T hk1).tyx, kit_isaO (KAt.vt T hk1).tag (T.kco .choice), _, rfl, iteB (fun gg => ?_) (fun gg => ?_)⟩
      · have ec : decide (Kd.cls k1 = some .choice) = true := isa_cls (t := .k k1) (c := .choice) T gg
        cases hk1 with
        | choice ob et kz o =>
          obtain ⟨dz, gs, hzx, lx⟩ := ob
          rename_i yz tz vz ks
          have l12 : ks.length ≤ 12 := by have := of_decide_eq_true tk1; omega
          refine lc_tupF (fun H v k => KAt A H v k) (fun H1 H2 v b e h => h.keep (KI.same e)) (fun D H1 ws v v' b h q => q.keep (KI.setL h)) (fun z => !decide (Kd.cls z = some .way)) id (fun v z => KAt A H5 v z) (fun Q' q => ⟨_, rfl, _, rfl, p, _, rfl, hg1, _, _, dz, gs, _, rfl, hzx, T.cl_Choice, T.n_Choice_ways, lx _ (List.mem_cons_self ..), q⟩) et (kats_pair kz) (by rw [pair_lenE (kats_pair kz)]; omega) (fun x => rfl) ?_ ?_ ?_
          · intro x z H1 Q hz mz e1 q
            have hz := hz.keep (KI.same e1)
            refine ⟨_, rfl, _, _, _, _, _, rfl, .own _, (KAt.vt T hz).tyx, kit_isaO (KAt.vt T hz).tag (T.kco .way), _, rfl, ?_⟩
            rw [show isa (Td.tag A (.k z)) (.ref A.c_Way) = decide (Kd.cls z = some .way) from isa_kc T (.k z) .way]
            exact q
          · exact fun x z H1 Q hz mz _ e1 q => ⟨_, rfl, q _ _ (fun _ _ z => z) (hz.keep (KI.same e1))⟩
          · intro D us H' hD hD0 e6 pw
            rw [List.map_id] at pw
            refine ⟨D, us, _, _, _, _, rfl, hD, kats_ofp pw, e5.trans e6, fun z hz => ?_⟩
            obtain ⟨hz1, hz2⟩ := List.mem_filter.mp hz
            refine ⟨ks, by first | exact .inl rfl | exact .inr rfl, hz1, ?_⟩
            have oz := o z hz1
            cases z <;> first | exact ⟨_, _, .inl rfl⟩ | exact ⟨_, _, .inr rfl⟩ | (simp [Kd.cls] at hz2; done) | exact nomatch oz
        | _ => cases of_decide_eq_true ec
      refine ⟨_, rfl, _, rfl, p, v1, rfl, hg1, _, _, _, _, _, rfl, .own _, (KAt.vt T hk1).tyx, kit_isaO (KAt.vt T hk1).tag (T.kco .row), _, rfl, iteB (fun gh => ?_) (fun gh => ?_)⟩
      · have ec : decide (Kd.cls k1 = some .row) = true := isa_cls (t := .k k1) (c := .row) T gh
        cases hk1 with
        | row ob et kz o =>
          obtain ⟨dz, gs, hzx, lx⟩ := ob
          rename_i yz tz vz ks
          have l12 : ks.length ≤ 12 := by have := of_decide_eq_true tk1; omega
          refine lc_tupF (fun H v k => KAt A H v k) (fun H1 H2 v b e h => h.keep (KI.same e)) (fun D H1 ws v v' b h q => q.keep (KI.setL h)) (fun z => !decide (Kd.cls z = some .part)) id (fun v z => KAt A H5 v z) (fun Q' q => ⟨_, rfl, _, rfl, p, _, rfl, hg1, _, _, dz, gs, _, rfl, hzx, T.cl_Row, T.n_Row_parts, lx _ (List.mem_cons_self ..), q⟩) et (kats_pair kz) (by rw [pair_lenE (kats_pair kz)]; omega) (fun x => rfl) ?_ ?_ ?_
          · intro x z H1 Q hz mz e1 q
            have hz := hz.keep (KI.same e1)
            refine ⟨_, rfl, _, _, _, _, _, rfl, .own _, (KAt.vt T hz).tyx, kit_isaO (KAt.vt T hz).tag (T.kco .part), _, rfl, ?_⟩
            rw [show isa (Td.tag A (.k z)) (.ref A.c_Part) = decide (Kd.cls z = some .part) from isa_kc T (.k z) .part]
            exact q
          · exact fun x z H1 Q hz mz _ e1 q => ⟨_, rfl, q _ _ (fun _ _ z => z) (hz.keep (KI.same e1))⟩
          · intro D us H' hD hD0 e6 pw
            rw [List.map_id] at pw
            refine ⟨D, us, _, _, _, _, rfl, hD, kats_ofp pw, e5.trans e6, fun z hz => ?_⟩
            obtain ⟨hz1, hz2⟩ := List.mem_filter.mp hz
            refine ⟨ks, by first | exact .inl rfl | exact .inr rfl, hz1, ?_⟩
            have oz := o z hz1
            cases z <;> first | exact ⟨_, _, .inl rfl⟩ | exact ⟨_, _, .inr rfl⟩ | (simp [Kd.cls] at hz2; done) | exact nomatch oz
        | _ => cases of_decide_eq_true ec
      exact ⟨w0, [], [], _, _, _, rfl, hw5, .nil, e5, fun z hz => nomatch hz⟩
    rintro s' h' ⟨w, us, zs, a5, a6, a7, rfl, hw, kus, e6, hzs⟩
    refine ⟨_, rfl, w, rfl, ⟨_, SqL.of hw⟩, ?_⟩
    refine for_it (walk_list (xs := us)) (fun j σ' H' => ∃ a5 a6 a7, σ' = [some (.ref p), some (.int c), some (.ref x), some (.str n), some (.ref w), a5, a6, a7] ∧ Same h' H') ⟨_, _, _, rfl, fun _ _ z => z⟩ (fun j σ' H' _ ⟨_, _, _, _, e⟩ => SqL.of (e _ _ hw)) ?_ ?_
    · rintro j xw σ' H7 H7' hj ⟨b5, b6, b7, rfl, e7⟩ ⟨rfl, hxw⟩
      obtain ⟨z, hz, hkz⟩ := pair_atE (kats_pair kus) hxw
      have hkz := hkz.keep (KI.same e7)
      obtain ⟨ks, hks, mz, wz, mm, hzz⟩ := hzs z (List.mem_of_getElem? hz)
      have e17 : Same H1 H7' := e14.trans (e6.trans e7)
      obtain ⟨y, C, dz, gs, u, rfl, hy, cC, nC, hu, ku⟩ := wd_kind T hkz (by rcases hzz with e | e <;> rw [e] <;> first | exact .inl rfl | exact .inr rfl)
      refine ⟨_, rfl, y, C, dz, gs, u, rfl, hy, cC, nC, hu, rfl, ?_⟩
      rw [non_kd ku]
      have l7 := hl.same e17
      obtain ⟨dy, hx7⟩ := l7.at_
      have fz : z.fit := by
        have f1 := fits _ mk1
        rcases hks with e | e <;> (rw [e, Kd.fit] at f1; exact fitAll_mem f1 z mz)
      refine ⟨_, rfl, iteB (fun g => ?_) (fun g => iteF ?_)⟩
      · obtain ⟨fi, si⟩ := in_si hkz fz hzz (fun e => by rw [e] at g; cases g)
        have kw : Knows kn (inK z) := knows_fix rd fx hl1 _ (in_mem hks mz g)
        refine ⟨_, rfl, x, dy, _, rfl, hx7, len_no ⟨by decide +kernel, by decide +kernel, by decide +kernel⟩, _, rfl, y, C, dz, gs, u, rfl, hy, cC, nC, hu, _, _, rfl, x, kd, c, kn, inK z, rfl, l7, ku, fi, si, kw, fun H8 e8 => ⟨_, rfl, ?_⟩⟩
        rw [decide_eq_false (no _ mk1 ks hks z mz ⟨wz, mm, hzz⟩ (fun e => by rw [e] at g; cases g))]
        exact iteF ⟨_, _, _, rfl, e7.trans e8⟩
      · exact ⟨_, _, _, rfl, e7⟩
    · rintro σ' H7 ⟨b5, b6, b7, rfl, e7⟩
      exact ⟨_, _, _, _, _, rfl, e7 _ _ (e6 _ _ hq4), e4.trans (e6.trans e7)⟩
  · rintro σ' H4 ⟨a3, a4, a5, a6, a7, rfl, hq4, e4⟩
    exact k H4 (e1.trans ((same_new hq).trans e4))
theorem sc_Counter___init__ : SupScope ["self", "named", "count", "own"] ["self", "named", "count", "own"] (defScope s_Counter___init__) := ⟨rfl, rfl, rfl, by decide +kernel, rfl, by decide +kernel, by decide +kernel, by decide +kernel, by decide +kernel, by decide +kernel⟩
theorem ok_Counter___init__ (T : Txt K mg A) : FnOk P w K mg base CX0 2 A.f_Counter___init__ A.d_Counter___init__ ["self", "named", "count", "own"] (sp_Counter___init__ K A) := by
  obtain ⟨oc, od, dV, kV, doc, pm, an, ct, osl, e, lk, hcd, _⟩ := T.F_Counter___init__.ex
  rw [e] at lk ⊢
  refine fn_sup (SP0 := supP) (N := ["self", "named", "count", "own"]) (ps := ["self", "named", "count", "own"]) lk hcd sc_Counter___init__ (fun vs H Q E h => sp4_len h) (T.sn_Counter___init__.k supF) rfl rfl (ok_Plan___init__ T) T.sf_Counter___init__ T.st_Counter___init__ T.b_Plan___init__ .nil (fun A outer s H E => pass0) ?_ (fun L => ⟨_, rfl⟩) (fun L => rfl)
  intro A0 outer s H vs Q E hr h
  have nd : (["self", "named", "count", "own"] : List Str).Nodup := sc_Counter___init__.nd
  refine ⟨_, _, pa_cons (pv 1) (pa_cons (pv 2) (pa_cons (pv 3) pa_nil)), (pss_cons (ps_fld (pv 0) pe_dnewT rfl) (pss_cons (ps_fld (pv 0) pe_dnewT rfl) (pss_cons (ps_fld (pv 0) pe_dnewT rfl) (pss_one (ps_fld (pv 0) pe_dnewK rfl))))), ?_⟩
  replace h := sp4_of h
  obtain ⟨v_self, v_named, v_count, v_own, rfl, h⟩ := h
  obtain ⟨H0, x, p, c, own, rfl, fr, rfl, rfl, rfl, c0, c5, k⟩ := h
  obtain ⟨dx0, hx0⟩ := fr.at'
  have no := fr.no
  refine ⟨x, A.c_Machine, dx0, [], rfl, hx0, T.su_Counter___init___Machine, fun q hq => ?_⟩
  refine ⟨_, rfl, _, rfl, _, rfl, upd_same, ?_⟩
  refine ⟨_, _, _, _, rfl, H0, x, p, c, own, rfl, fr.go (same_new hq), rfl, rfl, rfl, c0, c5, fun dx fo pl no_ nu G1 hx1 pn fr4 e1 => ?_⟩
  have len_fs0 : (planFs (.ref p) (.int c) (.bl own) (.int (2 ^ c.toNat - 1)) (.ref fo) (.ref pl) (.ref no_) (.ref nu)).length ≤ 8 := put_len (put_len (put_len (put_len (put_len (put_len (put_len (put_len (Nat.zero_le _))))))))
  refine fun ct_ hct_ => ?_
  have fct_ := free_of e1 hct_
  refine ⟨_, rfl, x, _, dx, _, rfl, (same_new hct_) _ _ hx1, T.cl_Machine, T.n_Machine_counted, Nat.lt_of_le_of_lt (len_fs0 : _ ≤ 8) (by decide : 8 < 1000), ?_⟩
  have nct_ : ct_ ≠ x := fun z => by rw [z, hx1] at hct_; cases hct_
  obtain ⟨hxG2, eG2, oct_, kct_⟩ := put_obj (f := "counted") (v := .ref ct_) (o := .dT []) no e1 hx1 hct_
  try have pn := pn.keepX hx1 kct_
  try have cn := cn.keepX hx1 kct_
  clear kct_
  generalize upd (upd G1 ct_ (.dT [])) x (.ins A.c_Machine dx (putF "counted" (.ref ct_) _)) = G2 at *
  refine fun ro hro => ?_
  have fro := free_of eG2 hro
  have ne_ct__ro := ne_of_none oct_ hro
  refine ⟨_, rfl, x, _, dx, _, rfl, (same_new hro) _ _ hxG2, T.cl_Machine, T.n_Machine_rows, Nat.lt_of_le_of_lt (put_len (len_fs0) : _ ≤ 9) (by decide : 9 < 1000), ?_⟩
  have nro : ro ≠ x := fun z => by rw [z, hxG2] at hro; cases hro
  obtain ⟨hxG3, eG3, oro, kro⟩ := put_obj (f := "rows") (v := .ref ro) (o := .dT []) no eG2 hxG2 hro
  have oct_ := kro _ _ nct_ oct_
  try have pn := pn.keepX hxG2 kro
  try have cn := cn.keepX hxG2 kro
  clear kro
  generalize upd (upd G2 ro (.dT [])) x (.ins A.c_Machine dx (putF "rows" (.ref ro) _)) = G3 at *
  refine fun re hre => ?_
  have fre := free_of eG3 hre
  have ne_ct__re := ne_of_none oct_ hre
  have ne_ro_re := ne_of_none oro hre
  refine ⟨_, rfl, x, _, dx, _, rfl, (same_new hre) _ _ hxG3, T.cl_Machine, T.n_Machine_repeated, Nat.lt_of_le_of_lt (put_len (put_len (len_fs0)) : _ ≤ 10) (by decide : 10 < 1000), ?_⟩
  have nre : re ≠ x := fun z => by rw [z, hxG3] at hre; cases hre
  obtain ⟨hxG4, eG4, ore, kre⟩ := put_obj (f := "repeated") (v := .ref re) (o := .dT []) no eG3 hxG3 hre
  have oct_ := kre _ _ nct_ oct_
  have oro := kre _ _ nro oro
  try have pn := pn.keepX hxG3 kre
  try have cn := cn.keepX hxG3 kre
  clear kre
  generalize upd (upd G3 re (.dT [])) x (.ins A.c_Machine dx (putF "repeated" (.ref re) _)) = G4 at *
  refine fun la hla => ?_
  have fla := free_of eG4 hla
  have np_la := ne_of_none pn.pl hla
  have ne_ct__la := ne_of_none oct_ hla
  have ne_ro_la := ne_of_none oro hla
  have ne_re_la := ne_of_none ore hla
  refine ⟨_, rfl, x, _, dx, _, rfl, (same_new hla) _ _ hxG4, T.cl_Machine, T.n_Machine_lacks, Nat.lt_of_le_of_lt (put_len (put_len (put_len (len_fs0))) : _ ≤ 11) (by decide : 11 < 1000), ?_⟩
  have nla : la ≠ x := fun z => by rw [z, hxG4] at hla; cases hla
  obtain ⟨hxG5, eG5, ola, kla⟩ := put_obj (f := "lacks") (v := .ref la) (o := .dK []) no eG4 hxG4 hla
  have oct_ := kla _ _ nct_ oct_
  have oro := kla _ _ nro oro
  have ore := kla _ _ nre ore
  try have pn := pn.keepX hxG4 kla
  try have cn := cn.keepX hxG4 kla
  clear kla
  generalize upd (upd G4 la (.dK [])) x (.ins A.c_Machine dx (putF "lacks" (.ref la) _)) = G5 at *
  exact k dx fo pl no_ nu ct_ ro re la G5 hxG5 pn ⟨oct_, oro, ore, ola⟩ np_la (fun b hb => by simp only [List.mem_cons, List.not_mem_nil, or_false] at hb; rcases hb with rfl | rfl | rfl | rfl | rfl | rfl | rfl | rfl <;> first | assumption | exact fr4 _ (by simp)) eG5
theorem sc_Machine___init__ : SupScope ["self", "named", "count", "own"] ["self", "named", "count", "own"] (defScope s_Machine___init__) := ⟨rfl, rfl, rfl, by decide +kernel, rfl, by decide +kernel, by decide +kernel, by decide +kernel, by decide +kernel, by decide +kernel⟩
theorem ok_Machine___init__ (T : Txt K mg A) : FnOk P w K mg base CX0 3 A.f_Machine___init__ A.d_Machine___init__ ["self", "named", "count", "own"] (sp_Machine___init__ K A) := by
  obtain ⟨oc, od, dV, kV, doc, pm, an, ct, osl, e, lk, hcd, _⟩ := T.F_Machine___init__.ex
  rw [e] at lk ⊢
  refine fn_sup (SP0 := supP) (N := ["self", "named", "count", "own"]) (ps := ["self", "named", "count", "own"]) lk hcd sc_Machine___init__ (fun vs H Q E h => sp4_len h) (T.sn_Machine___init__.k supF) rfl rfl (ok_Counter___init__ T) T.sf_Machine___init__ T.st_Machine___init__ T.b_Counter___init__ .nil (fun A outer s H E => pass0) ?_ (fun L => ⟨_, rfl⟩) (fun L => rfl)
  intro A0 outer s H vs Q E hr h
  have nd : (["self", "named", "count", "own"] : List Str).Nodup := sc_Machine___init__.nd
  refine ⟨_, _, pa_cons (pv 1) (pa_cons (pv 2) (pa_cons (pv 3) pa_nil)), (pss_cons (ps_fld (pv 0) pe_dnewT rfl) (pss_cons (ps_fld (pv 0) pe_dnewT rfl) (pss_cons (ps_fld (pv 0) (pe_lst (pa_cons (pe_tup (pa_cons pe_int pa_nil)) pa_nil)) rfl) (pss_one (ps_fld (pv 0) (pe_disp1T (hu_of hr) (pe_tup (pa_cons pe_int pa_nil)) pe_int) rfl))))), ?_⟩
  replace h := sp4_of h
  obtain ⟨v_self, v_named, v_count, v_own, rfl, h⟩ := h
  obtain ⟨H0, x, p, c, own, rfl, fr, rfl, rfl, rfl, c0, c5, k⟩ := h
  obtain ⟨dx0, hx0⟩ := fr.at'
  have no := fr.no
  refine ⟨x, A.c_Machine, dx0, [], rfl, hx0, T.su_Machine___init___Machine, fun q hq => ?_⟩
  refine ⟨_, rfl, _, rfl, _, rfl, upd_same, ?_⟩
  refine ⟨_, _, _, _, rfl, H0, x, p, c, own, rfl, fr.go (same_new hq), rfl, rfl, rfl, c0, c5, fun dx fo pl no_ nu ct_ ro re la G1 hx1 pn cn nla fr8 e1 => ?_⟩
  have len_fs0 : (countFs (.ref p) (.int c) (.bl own) (.int (2 ^ c.toNat - 1)) (.ref fo) (.ref pl) (.ref no_) (.ref nu) (.ref ct_) (.ref ro) (.ref re) (.ref la)).length ≤ 12 := put_len (put_len (put_len (put_len (put_len (put_len (put_len (put_len (put_len (put_len (put_len (put_len (Nat.zero_le _))))))))))))
  refine fun go hgo => ?_
  have fgo := free_of e1 hgo
  refine ⟨_, rfl, x, _, dx, _, rfl, (same_new hgo) _ _ hx1, T.cl_Machine, T.n_Machine_gone, Nat.lt_of_le_of_lt (len_fs0 : _ ≤ 12) (by decide : 12 < 1000), ?_⟩
  have ngo : go ≠ x := fun z => by rw [z, hx1] at hgo; cases hgo
  obtain ⟨hxG2, eG2, ogo, kgo⟩ := put_obj (f := "gone") (v := .ref go) (o := .dT []) no e1 hx1 hgo
  try have pn := pn.keepX hx1 kgo
  try have cn := cn.keepX hx1 kgo
  clear kgo
  generalize upd (upd G1 go (.dT [])) x (.ins A.c_Machine dx (putF "gone" (.ref go) _)) = G2 at *
  refine fun mv hmv => ?_
  have fmv := free_of eG2 hmv
  have ne_go_mv := ne_of_none ogo hmv
  refine ⟨_, rfl, x, _, dx, _, rfl, (same_new hmv) _ _ hxG2, T.cl_Machine, T.n_Machine_moved, Nat.lt_of_le_of_lt (put_len (len_fs0) : _ ≤ 13) (by decide : 13 < 1000), ?_⟩
  have nmv : mv ≠ x := fun z => by rw [z, hxG2] at hmv; cases hmv
  obtain ⟨hxG3, eG3, omv, kmv⟩ := put_obj (f := "moved") (v := .ref mv) (o := .dT []) no eG2 hxG2 hmv
  have ogo := kmv _ _ ngo ogo
  try have pn := pn.keepX hxG2 kmv
  try have cn := cn.keepX hxG2 kmv
  clear kmv
  generalize upd (upd G2 mv (.dT [])) x (.ins A.c_Machine dx (putF "moved" (.ref mv) _)) = G3 at *
  refine ⟨(by show 1 ≤ sizeLine; rw [sizeLine_eq]; decide), fun t ht => ⟨(by show 1 ≤ sizeLine; rw [sizeLine_eq]; decide), fun tu htu => ?_⟩⟩
  have ntx : t ≠ x := fun z => by rw [z, hxG3] at ht; cases ht
  have st : Same G3 (upd G3 t (.tup [.int 0])) := same_new ht
  have t7 : (upd G3 t (.tup [.int 0])) t = some (.tup [.int 0]) := upd_same
  generalize upd G3 t (.tup [.int 0]) = G7 at htu st t7 ⊢
  have hx7 := st _ _ hxG3
  have e7 := eG3.trans st
  have go7 := st _ _ ogo
  have mv7 := st _ _ omv
  have pn7 := pn.same st
  have cn7 := cn.same st
  have ntu : tu ≠ x := fun z => by rw [z, hx7] at htu; cases htu
  have ftu := free_of e7 htu
  refine ⟨_, rfl, x, _, dx, _, rfl, (same_new htu) _ _ hx7, T.cl_Machine, T.n_Machine_tuples, Nat.lt_of_le_of_lt (put_len (put_len len_fs0) : _ ≤ 14) (by decide : 14 < 1000), ?_⟩
  obtain ⟨hx8, e8, tu8, k8⟩ := put_obj (f := "tuples") (v := .ref tu) (o := .lst [.ref t]) no e7 hx7 htu
  have go8 := k8 _ _ ngo go7
  have mv8 := k8 _ _ nmv mv7
  have t8 := k8 _ _ ntx t7
  have pn8 := pn7.keepX hx7 k8
  have cn8 := cn7.keepX hx7 k8
  generalize upd (upd G7 tu (.lst [.ref t])) x (.ins A.c_Machine dx (putF "tuples" (.ref tu) _)) = G8 at hx8 e8 tu8 go8 mv8 t8 pn8 cn8 ⊢
  clear k8
  refine fun nn hnn => ⟨(by show 1 ≤ sizeLine; rw [sizeLine_eq]; decide), fun t2 ht2 => ?_⟩
  have nnn : nn ≠ x := fun z => by rw [z, hx8] at hnn; cases hnn
  have fnn := free_of e8 hnn
  have e89 : Same G8 (upd G8 nn (.dT [])) := same_new hnn
  have nu9 : (upd G8 nn (.dT [])) nn = some (.dT []) := upd_same
  generalize upd G8 nn (.dT []) = G9 at ht2 e89 nu9 ⊢
  have e9a : Same G9 (upd G9 t2 (.tup [.int 0])) := same_new ht2
  have t2a : (upd G9 t2 (.tup [.int 0])) t2 = some (.tup [.int 0]) := upd_same
  generalize upd G9 t2 (.tup [.int 0]) = Ga at e9a t2a ⊢
  have e8a := e89.trans e9a
  have nua := e9a _ _ nu9
  refine ⟨nua, t2, [.inl 0], rfl, t2a, ?_⟩
  have off : ∀ b u, G8 b = some u → b ≠ nn := fun b u h z => by rw [z, hnn] at h; cases h
  have e8b : Same G8 (upd Ga nn (.dT [([.inl 0], .int 0)])) := fun b u h => by rw [upd_ne (off b u h)]; exact e8a b u h
  have nnb : (upd Ga nn (.dT [([.inl 0], .int 0)])) nn = some (.dT [([.inl 0], .int 0)]) := upd_same
  generalize upd Ga nn (.dT [([.inl 0], .int 0)]) = Gb at e8b nnb ⊢
  have hxb := e8b _ _ hx8
  refine ⟨_, rfl, x, _, dx, _, rfl, hxb, T.cl_Machine, T.n_Machine_states, Nat.lt_of_le_of_lt (put_len (put_len (put_len len_fs0)) : _ ≤ 15) (by decide : 15 < 1000), ?_⟩
  have kx : ∀ b u, b ≠ x → Gb b = some u → (upd Gb x (.ins A.c_Machine dx (putF "states" (.ref nn) (putF "tuples" (.ref tu) (putF "moved" (.ref mv) (putF "gone" (.ref go) (countFs (.ref p) (.int c) (.bl own) (.int (2 ^ c.toNat - 1)) (.ref fo) (.ref pl) (.ref no_) (.ref nu) (.ref ct_) (.ref ro) (.ref re) (.ref la)))))))) b = some u := fun b u n h => by rw [upd_ne n]; exact h
  exact k dx fo pl no_ nu ct_ ro re la go mv tu nn _ upd_same ((pn8.same e8b).keepX hxb kx) ((cn8.same e8b).keepX hxb kx) ⟨ne_go_mv, kx _ _ ngo (e8b _ _ go8), kx _ _ nmv (e8b _ _ mv8), ⟨t, kx _ _ ntu (e8b _ _ tu8), kx _ _ ntx (e8b _ _ t8)⟩, kx _ _ nnn nnb⟩ nla (fun b hb => by simp only [List.mem_cons, List.not_mem_nil, or_false] at hb; rcases hb with rfl | rfl | rfl | rfl | rfl | rfl | rfl | rfl | rfl | rfl | rfl | rfl <;> first | assumption | exact fr8 _ (by simp)) (same_put no (e8.trans e8b))
theorem ok_are_kinds (T : Txt K mg A) : FnOk P w K mg base CX0 2 A.f_are_kinds A.d_are_kinds ["kinds"] (sp_are_kinds K A) := by
  refine T.F_are_kinds.ok sc_are_kinds (fun vs H Q E h => sp1_len h) (fun cdv A0 outer s H vs Q E hr h => ?_)
  have nd := sc_are_kinds.nd
  refine ⟨_, (pss_cons (ps_if (PW.pt (pw_or (pt_not (pt_val (pe_callB call_isi (by rfl) T.b_isinstance (by decide +kernel) (pa_cons (pv 0) (pa_cons (pe_bltn (v := .ty "dict") (by rfl) T.b_dict (by decide +kernel) rfl) pa_nil))))) (pw_or (pt_cmpR op_lt (pe_callB call_lenD (by rfl) T.b_len (by decide +kernel) (pa_cons (pv 0) pa_nil)) pe_int (nomark _)) (pw_or1 (pt_cmpR op_gt (pe_callB call_lenD (by rfl) T.b_len (by decide +kernel) (pa_cons (pv 0) pa_nil)) pe_int (nomark _)))))) (pss_one (ps_ret pe_bl)) pss_nil)
      (pss_cons (ps_lock (ps_for PassesOwn.never rfl (pi_keys (pv 0)) (pg_name (i := 1) nd rfl (by first | exact Or.inl rfl | exact Or.inr rfl)) (pss_cons (ps_if (pt_not (pt_val (pe_call (ok_is_name T) (hr.mono (by decide)) (by rfl) T.mg_is_name T.k_is_name T.b_is_name .nil pass0 (pa_cons (pv 1) pa_nil)))) (pss_one (ps_ret pe_bl)) pss_nil)
      (pss_one (ps_if (pt_not (pt_val (pe_callB call_isiT (by rfl) T.b_isinstance (by decide +kernel) (pa_cons (pe_dget (hu_of hr) (pv 0) (pv 1) (fun _ _ => rfl)) (pa_cons (pe_tup (pa_cons (pe_glob (v := .ref A.c_Number) (by rfl) T.mg_Number rfl) (pa_cons (pe_glob (v := .ref A.c_Bits) (by rfl) T.mg_Bits rfl) (pa_cons (pe_glob (v := .ref A.c_Items) (by rfl) T.mg_Items rfl) (pa_cons (pe_glob (v := .ref A.c_Call) (by rfl) T.mg_Call rfl) (pa_cons (pe_glob (v := .ref A.c_Choice) (by rfl) T.mg_Choice rfl) (pa_cons (pe_glob (v := .ref A.c_Row) (by rfl) T.mg_Row rfl) pa_nil))))))) pa_nil))))) (pss_one (ps_ret pe_bl)) pss_nil)))))
      (pss_one (ps_ret pe_bl)))), ?_⟩
  clear nd hr
  replace h := sp1_of h
  obtain ⟨v_kinds, rfl, h⟩ := h

  obtain ⟨p, tb, kvs, rfl, ht, hp, top, nd, nms, l1, l20, k⟩ := h
  have ltb := ht.len
  refine ⟨_, rfl, _, _, _, _, _, rfl, .ty _, (VT.dK hp).tyx, kit_isa (VT.dK hp).tag (by decide), true, congrArg V.bl isa_self, iteF ?_⟩
  refine ⟨_, rfl, p, kvs, rfl, hp, _, _, rfl, rfl, _, rfl, iteB (fun g => absurd (of_decide_eq_true g) (by omega)) (fun _ => ?_)⟩
  refine ⟨_, rfl, p, kvs, rfl, hp, _, _, rfl, rfl, _, rfl, iteB (fun g => absurd (of_decide_eq_true g) (by omega)) (fun _ => ?_)⟩
  refine ⟨p, .dK kvs, hp, trivial, fun od => ?_⟩
  refine ⟨_, rfl, p, od, rfl, .inl ⟨kvs, upd_same, ?_⟩⟩
  refine for_it (walk_keys (kvs := kvs)) (fun i σ' H' => ∃ a1, σ' = [some (.ref p), a1] ∧ Frz H H' p od (.dK kvs)) ⟨_, rfl, Frz.start⟩ (fun i σ' H' _ ⟨_, _, f⟩ => f.at_) ?_ ?_
  · rintro i x σ' H4 H4' hi ⟨a1, rfl, f4⟩ ⟨rfl, key, v, hkv, rfl⟩
    obtain ⟨y, hy, rfl, hkat⟩ := ents_at ht.en hkv
    have hyn := names_at hy
    obtain ⟨nm1, nm2⟩ := nms _ hyn
    obtain ⟨k1, v1, hl1, hk1, hg1⟩ := (f4.tb hp ht).get hyn
    refine ⟨_, rfl, _, rfl, _, .str y.1, (by show (strOf (.str y.1)).length ≤ 1000000; exact Nat.le_trans nm2 (by decide)), true, congrArg V.bl nm1, iteF ?_⟩
    refine ⟨_, rfl, _, rfl, p, v1, rfl, hg1, (by show 6 ≤ sizeLine; rw [sizeLine_eq]; decide), fun tp htp => ⟨_, tp, _, _, _, _, rfl, upd_same, .cons (.own _) (.cons (.own _) (.cons (.own _) (.cons (.own _) (.cons (.own _) (.cons (.own _) .nil))))), ((hk1.keep (KI.new htp)).vt T).tyx, any_kc T (t := .k k1) hk1 [.num, .bits, .items, .call, .choice, .row], true, congrArg V.bl (top_any (top.look hl1)), iteF ⟨_, rfl, f4.new htp⟩⟩⟩
  · rintro σ' H4 ⟨a1, rfl, f4⟩
    exact ⟨f4.at_, k _ (f4.back hp)⟩
theorem ok_check_parts (T : Txt K mg A) : FnOk P w K mg base CX0 3 A.f_check_parts A.d_check_parts ["kinds", "root", "count"] (sp_check_parts K A) := by
  refine T.F_check_parts.ok sc_check_parts (fun vs H Q E h => sp3_len h) (fun cdv A0 outer s H vs Q E hr h => ?_)
  have nd := sc_check_parts.nd
  refine ⟨_, (pss_cons (ps_if (pt_not (pt_val (pe_call (ok_are_kinds T) (hr.mono (by decide)) (by rfl) T.mg_are_kinds T.k_are_kinds T.b_are_kinds .nil pass0 (pa_cons (pv 0) pa_nil)))) pss_never pss_nil)
      (pss_cons (ps_if (PW.pt (pw_or (pt_not (pt_val (pe_call (ok_is_name T) (hr.mono (by decide)) (by rfl) T.mg_is_name T.k_is_name T.b_is_name .nil pass0 (pa_cons (pv 1) pa_nil)))) (pw_or1 (pt_cmp (pc_dnotin (hu_of hr) (pv 1) (pv 0)))))) pss_never pss_nil)
      (pss_one (ps_if (PW.pt (pw_or (pt_not (pt_val (pe_call (ok_is_integer T) (hr.mono (by decide)) (by rfl) T.mg_is_integer T.k_is_integer T.b_is_integer .nil pass0 (pa_cons (pv 2) pa_nil)))) (pw_or (pt_cmpR op_lt (pv 2) pe_int (nomark _)) (pw_or1 (pt_cmpR op_gt (pv 2) pe_int (nomark _)))))) pss_never pss_nil)))), ?_⟩
  clear nd hr
  replace h := sp3_of h
  obtain ⟨v_kinds, v_root, v_count, rfl, h⟩ := h

  obtain ⟨p, tb, kvs, r, c, rfl, rfl, rfl, ht, hp, top, nd, nms, l1, l20, hr, hrn, c1, c5, k⟩ := h
  refine ⟨_, rfl, _, rfl, p, tb, kvs, rfl, ht, hp, top, nd, nms, l1, l20, fun H1 e1 => ⟨_, rfl, iteF ?_⟩⟩
  obtain ⟨rn1, rn2⟩ := hrn
  obtain ⟨o, hg, ho⟩ := (ht.same e1).has r
  refine ⟨_, rfl, _, rfl, _, .str r, (by show (strOf (.str r)).length ≤ 1000000; exact Nat.le_trans rn2 (by decide)), true, congrArg V.bl rn1, iteF ?_⟩
  refine ⟨_, rfl, _, rfl, p, o, rfl, hg, false, congrArg V.bl (by rw [ho, decide_eq_true hr]; rfl), iteF ?_⟩
  refine ⟨_, rfl, _, rfl, _, .int c, _, rfl, iteF ?_⟩
  refine ⟨_, rfl, _, _, rfl, rfl, _, rfl, iteB (fun g => absurd (of_decide_eq_true g) (by omega)) (fun _ => ?_)⟩
  exact ⟨_, rfl, _, _, rfl, rfl, _, rfl, iteB (fun g => absurd (of_decide_eq_true g) (by omega)) (fun _ => k H1 e1)⟩
theorem ok_is_taken (T : Txt K mg A) : FnOk P w K mg base CX0 1 A.f_is_taken A.d_is_taken ["machine", "name", "index"] (sp_is_taken K A) := ⟨fun vs H Q E h => h.elim, fun A outer s H args us vs Q E _ _ _ _ h => h.elim⟩
theorem ok_last_taken (T : Txt K mg A) : FnOk P w K mg base CX0 2 A.f_last_taken A.d_last_taken ["machine", "name"] (sp_last_taken K A) := by
  refine T.F_last_taken.ok sc_last_taken (fun vs H Q E h => sp2_len h) (fun cdv A0 outer s H vs Q E hr h => ?_)
  have nd := sc_last_taken.nd
  refine ⟨_, (pss_cons (ps_set (i := 2) nd rfl (by first | exact Or.inl rfl | exact Or.inr rfl) (pe_dget (hu_of hr) (pe_fld (pv 0) rfl) (pv 1) (fun _ _ => rfl)))
      (pss_cons (ps_if (pt_not (pt_val (pe_callB call_isi (by rfl) T.b_isinstance (by decide +kernel) (pa_cons (pv 2) (pa_cons (pe_glob (v := .ref A.c_Row) (by rfl) T.mg_Row rfl) pa_nil))))) (pss_one (ps_ret pe_non)) pss_nil)
      (pss_cons (ps_for PassesOwn.never rfl (pi_range3 (by rfl) T.b_range (pa_cons (pe_op op_sub (pe_callB call_len (by rfl) T.b_len (by decide +kernel) (pa_cons (pe_fld (pv 2) rfl) pa_nil)) pe_int) (pa_cons (pe_un un_neg pe_int) (pa_cons (pe_un un_neg pe_int) pa_nil)))) (pg_name (i := 3) nd rfl (by first | exact Or.inl rfl | exact Or.inr rfl)) (pss_one (ps_if (PW.pt (pw_and (pt_val (pe_callB call_isi (by rfl) T.b_isinstance (by decide +kernel) (pa_cons (pe_ix ix_tup (pe_fld (pv 2) rfl) (pv 3) (fun _ _ => rfl)) (pa_cons (pe_glob (v := .ref A.c_Room) (by rfl) T.mg_Room rfl) pa_nil)))) (pw_and1 (pt_val (pe_call (ok_is_taken T) (hr.mono (by decide)) (by rfl) T.mg_is_taken T.k_is_taken T.b_is_taken .nil pass0 (pa_cons (pv 0) (pa_cons (pv 1) (pa_cons (pv 3) pa_nil)))))))) (pss_one (ps_ret (pe_fld (pe_ix ix_tup (pe_fld (pv 2) rfl) (pv 3) (fun _ _ => rfl)) rfl))) pss_nil)))
      (pss_one (ps_ret pe_non))))), ?_⟩
  clear nd hr
  replace h := sp2_of h
  obtain ⟨v_machine, v_name, rfl, h⟩ := h

  obtain ⟨m, p, dm, fs, tb, kvs, n, rfl, rfl, hm, hnm, ht, top, hn, nor, k⟩ := h
  obtain ⟨k1, v1, hl1, hk1, hg1⟩ := ht.get hn
  refine ⟨_, rfl, m, _, dm, fs, _, rfl, hm, T.cl_Machine, T.n_Machine_named, hnm, _, rfl, p, v1, rfl, hg1, ?_⟩
  refine ⟨_, rfl, _, _, _, _, _, rfl, .own _, (KAt.vt T hk1).tyx, kit_isaO (KAt.vt T hk1).tag (T.kco .row), _, rfl, iteB (fun g => k H (fun _ _ z => z)) (fun g => ?_)⟩
  have g2 : isa (Td.tag A (.k k1)) (.ref A.c_Row) = true := by simpa using g
  have ec : decide (Kd.cls k1 = some .row) = true := isa_cls (t := .k k1) (c := .row) T g2
  cases hk1 with
  | row ob et kz o =>
    obtain ⟨dz, gs, hx, lx⟩ := ob
    rename_i yz tt vs ks
    have nk := nor _ (look_mem hl1) ks rfl
    have l8 : vs.length ≤ 8 := by rw [pair_lenE (kats_pair kz)]; exact of_decide_eq_true (top.look hl1)
    refine ⟨_, rfl, _, _, _, _, _, rfl, hx, T.cl_Row, T.n_Row_parts, (lx _ (List.mem_cons_self ..)), _, _, rfl, .inr ⟨_, SqT.of et, rfl⟩, _, _, rfl, rfl, _, rfl, _, rfl, _, _, _, _, rfl, RgC.neg (by omega) (by omega) (by decide) (by decide), ?_⟩
    refine for_it walk_rangeC (fun i σ' H' => ∃ a3, σ' = [some (.ref m), some (.str n), some (.ref yz), a3] ∧ H' = H) ⟨_, rfl, rfl⟩ (fun i σ' H' _ _ => trivial) ?_ ?_
    · rintro i x σ' H4 H4' hi ⟨a3, rfl, rfl⟩ ⟨rfl, rfl⟩
      have hxv : vs[vs.length - 1 - i]? = some vs[vs.length - 1 - i] := List.getElem?_eq_getElem (by omega)
      obtain ⟨z, hz, hkz⟩ := pair_atE (kats_pair kz) hxv
      have eix : (vs.length - 1 + i * -1 : Int) = ((vs.length - 1 - i : Nat) : Int) := by omega
      have hat : atI vs (vs.length - 1 + i * -1 : Int) = some vs[vs.length - 1 - i] := by rw [eix]; exact atI_nat hxv
      have nr : isa (Td.tag A (.k z)) (.ref A.c_Room) = false := (isa_kc T (.k z) .room).trans (not_room (nk z (List.mem_of_getElem? hz)))
      exact ⟨_, rfl, _, _, _, _, _, rfl, hx, T.cl_Row, T.n_Row_parts, (lx _ (List.mem_cons_self ..)), _, rfl, tt, vs, _, _, rfl, rfl, SqT.of et, hat, _, _, _, _, _, rfl, .own _, (KAt.vt T hkz).tyx, kit_isaO (KAt.vt T hkz).tag (T.kco .room), false, congrArg V.bl nr, iteF (iteF ⟨_, rfl, rfl⟩)⟩
    · rintro σ' H4 ⟨a3, rfl, rfl⟩
      exact k _ (fun _ _ z => z)
  | _ => cases of_decide_eq_true ec
theorem ok_check_rooms (T : Txt K mg A) : FnOk P w K mg base CX0 4 A.f_check_rooms A.d_check_rooms ["machine"] (sp_check_rooms K A) := by
  refine T.F_check_rooms.ok sc_check_rooms (fun vs H Q E h => sp1_len h) (fun cdv A0 outer s H vs Q E hr h => ?_)
  have nd := sc_check_rooms.nd
  refine ⟨_, (pss_cons (ps_set (i := 1) nd rfl (by first | exact Or.inl rfl | exact Or.inr rfl) pe_dnewK)
      (pss_cons (ps_set (i := 2) nd rfl (by first | exact Or.inl rfl | exact Or.inr rfl) (pe_lst pa_nil))
      (pss_cons (ps_for PassesOwn.never rfl (pi_list (pe_call (ok_call_order T) (hr.mono (by decide)) (by rfl) T.mg_call_order T.k_call_order T.b_call_order .nil pass0 (pa_cons (pe_fld (pv 0) rfl) pa_nil))) (pg_name (i := 3) nd rfl (by first | exact Or.inl rfl | exact Or.inr rfl)) (pss_cons (ps_if (pt_val (pe_callB (cr_any rfl) (by rfl) T.b_any (by decide +kernel) (pa_cons (pe_lc (own := [("one", 4)]) (g := gName 4) (tt := tYes) (by rfl) nd (pi_list (pe_call (ok_called T) (hr.mono (by decide)) (by rfl) T.mg_called T.k_called T.b_called .nil pass0 (pa_cons (pe_dget (hu_of hr) (pe_fld (pv 0) rfl) (pv 3) (fun _ _ => rfl)) pa_nil))) (blkOk_by (own := [("one", 4)]) (N := ["machine", "wrong", "left_out", "name", "one", "inner"]) (sc := defScope s_check_rooms) (by decide +kernel)) (fun _ _ _ _ _ => pg_name (i := 4) nd rfl (by first | exact Or.inl rfl | exact Or.inr rfl)) (fun _ _ _ _ _ => pts_nil) (fun _ _ _ _ _ => (pe_cmpR (op_in_seqK (K := K) rfl) (pv 4) (pv 2) (by rfl)))) pa_nil))) (pss_cons (ps_expr (pe_bm PySem.F.plainAttrs_list PySem.F.slot_list_append PySem.F.type_list_append mt_append (pv 2) (pa_cons (pv 3) pa_nil)))
      (pss_one ps_continue)) pss_nil)
      (pss_cons (ps_set (i := 5) nd rfl (by first | exact Or.inl rfl | exact Or.inr rfl) (pe_call (ok_last_taken T) (hr.mono (by decide)) (by rfl) T.mg_last_taken T.k_last_taken T.b_last_taken .nil pass0 (pa_cons (pv 0) (pa_cons (pv 3) pa_nil))))
      (pss_one (ps_if (pt_cmpR op_notN (pv 5) pe_non (nomark _)) (pss_cons (ps_asg (pv 5) (pg_sub (pv 1) (pv 3) (set_dict (hu_of hr))))
      (pss_one (ps_expr (pe_bm PySem.F.plainAttrs_list PySem.F.slot_list_append PySem.F.type_list_append mt_append (pv 2) (pa_cons (pv 3) pa_nil))))) pss_nil)))))
      (pss_one (ps_if (pt_cmpR op_gt (pe_callB call_lenD (by rfl) T.b_len (by decide +kernel) (pa_cons (pv 1) pa_nil)) pe_int (nomark _)) pss_never pss_nil))))), ?_⟩
  clear nd hr
  replace h := sp1_of h
  obtain ⟨v_machine, rfl, h⟩ := h

  obtain ⟨m, p, dm, fs, tb, kvs, rk, rfl, hm, hnm, ht, hp, top, l20, rd, nor, k⟩ := h
  refine fun w hw => ?_
  have e1 : Same H (upd H w (.dK [])) := same_new hw
  have hw1 : (upd H w (.dK [])) w = some (.dK []) := upd_same
  generalize upd H w (.dK []) = H1 at e1 hw1 ⊢
  refine ⟨(by show 0 ≤ sizeLine; rw [sizeLine_eq]; decide), fun lo hlo => ?_⟩
  have e2 : Same H (upd H1 lo (.lst [])) := e1.trans (same_new hlo)
  have hw2 : (upd H1 lo (.lst [])) w = some (.dK []) := (same_new hlo) _ _ hw1
  have hl2 : (upd H1 lo (.lst [])) lo = some (.lst []) := upd_same
  generalize upd H1 lo (.lst []) = H2 at e2 hw2 hl2 ⊢
  refine ⟨_, rfl, m, _, dm, fs, _, rfl, (e2 _ _ hm), T.cl_Machine, T.n_Machine_named, hnm, _, rfl, p, tb, kvs, rk, rfl, ht.same e2, e2 _ _ hp, top, l20, rd, fun q ds H3 hq hq0 e3 perm topo => ?_⟩
  refine ⟨q, rfl, ⟨_, SqL.of hq⟩, ?_⟩
  have e03 := e2.trans e3
  refine for_it (walk_list (xs := ds.map V.str)) (fun i σ' H' => ∃ a3 a5, σ' = [some (.ref m), some (.ref w), some (.ref lo), a3, none, a5] ∧ H' w = some (.dK []) ∧ H' lo = some (.lst []) ∧ H' q = some (.lst (ds.map V.str)) ∧ Same H H') ⟨_, _, rfl, e3 _ _ hw2, e3 _ _ hl2, hq, e03⟩ (fun i σ' H' _ ⟨_, _, _, _, _, h, _⟩ => SqL.of h) ?_ ?_
  · rintro i xv σ' H4 H4' hi ⟨a3, a5, rfl, hw4, hl4, hq4, e4⟩ ⟨rfl, hxv⟩
    rw [List.getElem?_map] at hxv
    obtain ⟨n, hn, rfl⟩ := Option.map_eq_some_iff.mp hxv
    have hnn : n ∈ tb.names := perm.mem_iff.mp (List.mem_of_getElem? hn)
    obtain ⟨k2, v2, hlk, hk2, hg2⟩ := (ht.same e4).get hnn
    have etop := top.look hlk
    have c12 := calls_len etop
    refine ⟨_, rfl, m, _, dm, fs, _, rfl, (e4 _ _ hm), T.cl_Machine, T.n_Machine_named, hnm, _, rfl, p, v2, rfl, hg2, _, rfl, k2, hk2, etop, fun u H5 hu hu0 e5 => ?_⟩
    have hl5 := e5 _ _ hl4
    refine lc_lstG (tt := tYes) (fun _ v (b : Bool) => v = V.bl b) (fun _ _ _ _ _ q => q) (fun _ _ _ _ _ _ _ q => q) (fun _ => true) (fun _ => false) (fun v (n : Str) => v = V.str n) hu (strs_pair _) ?_ ?_ ?_ ?_ ?_
    · rw [List.length_map]; omega
    · exact fun x => rfl
    · exact fun x n H6 Q _ _ _ q => q
    · rintro x n H6 Q rfl _ _ e6 q
      exact ⟨_, rfl, _, rfl, lo, [], rfl, .inl (SqL.of (e6 _ _ hl5)), rfl, rfl, q _ _ (fun _ _ z => z) rfl⟩
    · intro D bs H6 hD hD0 e6 pw
      have ebs := pair_bls pw
      subst ebs
      have e46 := e5.trans e6
      refine ⟨D, _, rfl, SqL.of hD, _, rfl, ?_⟩
      rw [any_no]
      refine iteF ?_
      have e06 := e4.trans e46
      refine ⟨_, rfl, _, rfl, _, _, rfl, m, p, dm, fs, tb, kvs, n, rfl, rfl, e06 _ _ hm, hnm, ht.same e06, top, hnn, nor, fun H7 e7 => ?_⟩
      have e47 := e46.trans e7
      exact ⟨_, rfl, rfl, _, rfl, iteF ⟨_, _, rfl, e47 _ _ hw4, e47 _ _ hl4, e47 _ _ hq4, e4.trans e47⟩⟩
  · rintro σ' H4 ⟨a3, a5, rfl, hw4, hl4, hq4, e4⟩
    exact ⟨_, rfl, w, [], rfl, hw4, _, _, rfl, rfl, _, rfl, iteF (k H4 e4)⟩
theorem kb0_Machine___init__ {K : PySem.W.Frag} {mg : Str → Option Value} {A : Ad} (T : Txt K mg A) : ∃ g, KBn K A.d_Machine___init__ ["self", "named", "count", "own"] 3 ["own"] g (fun vs zs => pick [0, 1, 2, 3] (vs ++ zs ++ [.bl false])) :=
  SupD.kbn [0, 1, 2, 3] T.F_Machine___init__ (by simp) fun _ _ _ _ _ _ us its ws h1 h2 h3 => match us, its, ws, h1, h2, h3 with | [_, _, _], [_], [_], _, _, _ => ⟨_, rfl, rfl⟩
theorem ok_Edition___init__ (T : Txt K mg A) : FnOk P w K mg base CX0 21 A.f_Edition___init__ A.d_Edition___init__ ["self", "kinds", "root", "count"] (sp_Edition___init__ K A) := by
  refine T.F_Edition___init__.ok sc_Edition___init__ (fun vs H Q E h => sp4_len h) (fun cdv A0 outer s H vs Q E hr h => ?_)
  have nd := sc_Edition___init__.nd
  refine ⟨_, (pss_cons (ps_expr (pe_call (ok_check_parts T) (hr.mono (by decide)) (by rfl) T.mg_check_parts T.k_check_parts T.b_check_parts .nil pass0 (pa_cons (pv 1) (pa_cons (pv 2) (pa_cons (pv 3) pa_nil)))))
      (pss_cons (ps_lock (ps_setDc (i := 4) (own := [("name", 5)]) (by rfl) nd rfl rfl (sw_trueD rfl rfl rfl (by decide +kernel)) (pi_keys (pv 1)) (blkOk_by (own := [("name", 5)]) (N := ["self", "kinds", "root", "count", "table", "name", "missing", "ring", "too_long", "machine"]) (sc := defScope s_Edition___init__) (by decide +kernel)) (fun _ _ _ _ _ => pg_name (i := 5) nd rfl (by first | exact Or.inl rfl | exact Or.inr rfl)) (fun _ _ _ _ _ => pts_nil) (fun _ _ _ _ _ => (pv 5)) (fun _ _ _ _ _ => (pe_dget (hu_of hr) (pv 1) (pv 5) (fun _ _ => rfl)))))
      (pss_cons (ps_set (i := 6) nd rfl (by first | exact Or.inl rfl | exact Or.inr rfl) (pe_call (ok_missing_name T) (hr.mono (by decide)) (by rfl) T.mg_missing_name T.k_missing_name T.b_missing_name .nil pass0 (pa_cons (pv 4) pa_nil)))
      (pss_cons (ps_if (pt_cmpR op_notN (pv 6) pe_non (nomark _)) pss_never pss_nil)
      (pss_cons (ps_set (i := 7) nd rfl (by first | exact Or.inl rfl | exact Or.inr rfl) (pe_call (ok_ring_name T) (hr.mono (by decide)) (by rfl) T.mg_ring_name T.k_ring_name T.b_ring_name .nil pass0 (pa_cons (pv 4) pa_nil)))
      (pss_cons (ps_if (pt_cmpR op_notN (pv 7) pe_non (nomark _)) pss_never pss_nil)
      (pss_cons (ps_set (i := 8) nd rfl (by first | exact Or.inl rfl | exact Or.inr rfl) (pe_call (ok_long_body T) (hr.mono (by decide)) (by rfl) T.mg_long_body T.k_long_body T.b_long_body .nil pass0 (pa_cons (pv 4) (pa_cons (pv 3) pa_nil))))
      (pss_cons (ps_if (pt_cmpR op_notN (pv 8) pe_non (nomark _)) pss_never pss_nil)
      (pss_cons (ps_set (i := 9) nd rfl (by first | exact Or.inl rfl | exact Or.inr rfl) (pe_make T.mk_Machine (ok_Machine___init__ T) (hr.mono (by decide)) (by rfl) T.mg_Machine T.b1_Machine___init__ (show Vals [V.bl false] [Value.bool false] from (.cons rfl .nil)) pass0 (pa_cons (pv 4) (pa_cons (pv 3) pa_nil))))
      (pss_cons (ps_expr (pe_call (ok_check_rooms T) (hr.mono (by decide)) (by rfl) T.mg_check_rooms T.k_check_rooms T.b_check_rooms .nil pass0 (pa_cons (pv 9) pa_nil)))
      (pss_cons (ps_fld (pv 0) (pv 4) rfl)
      (pss_cons (ps_fld (pv 0) (pv 2) rfl)
      (pss_cons (ps_fld (pv 0) (pv 3) rfl)
      (pss_cons (ps_fld (pv 0) (pv 9) rfl)
      (pss_one (ps_fld (pv 0) (pe_makeK T.mk_Machine (ok_Machine___init__ T) (hr.mono (by decide)) (by rfl) T.mg_Machine (Classical.choose_spec (kb0_Machine___init__ T)) pass0 (pa_cons (pv 4) (pa_cons (pv 3) pa_nil)) (pk_cons pe_bl pk_nil)) rfl)))))))))))))))), ?_⟩
  clear nd hr
  replace h := sp4_of h
  obtain ⟨v_self, v_kinds, v_root, v_count, rfl, h⟩ := h

  obtain ⟨H0, x, p, tb, kvs, rk, r, c, rfl, fr, rfl, rfl, rfl, ht, hp, ok, k⟩ := h
  obtain ⟨dx, hx⟩ := fr.at'
  have no := fr.no
  have e0 := fr.s
  have c0 : 0 ≤ c := by have := ok.c1; omega
  refine ⟨_, rfl, _, rfl, _, rfl, _, _, _, rfl, p, tb, kvs, r, c, rfl, rfl, rfl, ht.same e0, e0 _ _ hp, ok.top, ok.rd.nd, ok.nms, ok.l1, ok.l20, ok.hr, ok.hrn, ok.c1, ok.c5, fun H1 e1 => ?_⟩
  have e01 := e0.trans e1
  have hp1 := e01 _ _ hp
  have ht1 := ht.same e01
  have hx1 := e1 _ _ hx
  have nd := ok.rd.nd
  refine ⟨p, .dK kvs, hp1, trivial, fun od => ?_⟩
  refine ⟨_, rfl, p, od, rfl, .inl ⟨kvs, upd_same, fun D hD => ?_⟩⟩
  have nDp : D ≠ p := fun z => by rw [z, upd_same] at hD; cases hD
  have hD1 : H1 D = none := by rw [upd_ne nDp] at hD; exact hD
  refine dc_it (walk_keys (kvs := kvs)) (fun i H' => ∃ kvs', H' D = some (.dK kvs') ∧ Paired (EntAt A H0) kvs' (tb.take i) ∧ Frz H1 H' p od (.dK kvs)) ⟨[], upd_same, .nil, Frz.start.put hD1 nDp⟩ (fun i H' _ ⟨_, _, _, f⟩ => f.at_) ?_ ?_
  · rintro i xv H4 H4' hi ⟨kvs', hD4, pk, f4⟩ ⟨rfl, key, v, hkv, rfl⟩
    obtain ⟨y, hy, rfl, hkat⟩ := ents_at ht.en hkv
    have hyn := names_at hy
    obtain ⟨k1, v1, hl1, hk1, hv1⟩ := ht.getR hyn
    have hg1 : DGet H4' p (.str y.1) (some v1) := .inl ⟨kvs, .inr y.1, .inr ⟨od, f4.at_⟩, rfl, hv1.symm⟩
    have ek : k1 = y.2 := Option.some.inj (hl1.symm.trans (look_nd nd (List.mem_of_getElem? hy)))
    subst ek
    have tk : tb.take (i + 1) = tb.take i ++ [y] := take_snoc hy
    have new : valV kvs' (.inr y.1 : Key) = none := by
      rcases ents_val (n := y.1) pk with ⟨_, _, h1, _⟩ | ⟨_, _, h3⟩
      · exact absurd h1 (take_fresh nd hy)
      · exact h3
    have l4 : kvs'.length ≤ 20 := by
      rw [pair_lenE pk]
      have := ok.l20
      have := List.length_take_le' i tb
      omega
    refine ⟨rfl, ?_⟩
    dsimp only [tYes]
    rw [if_pos rfl]
    refine ⟨_, rfl, _, rfl, _, rfl, p, v1, rfl, hg1, kvs', .inr y.1, rfl, hD4, by rw [sizeLine_eq]; omega, _, upd_same, ?_, f4.put hD1 nDp⟩
    rw [putK_new _ new, tk]
    exact paired_snocE ⟨rfl, hk1⟩ pk
  rintro H4 ⟨kvs', hD4, pk, f4⟩
  rw [ht.len, List.take_length] at pk
  refine ⟨f4.at_, ?_⟩
  have s5 := f4.back hp1
  have hD5 : (upd H4 p (.dK kvs)) D = some (.dK kvs') := by rw [upd_ne nDp]; exact hD4
  have tDof : ∀ H', Same H0 H' → H' D = some (.dK kvs') → TbAt A H' D tb kvs' := fun H' e h => ⟨.inl h, paired_impE (fun _ _ q => ⟨q.1, q.2.keep (KI.same e)⟩) pk⟩
  have tD := tDof _ (e01.trans s5) hD5
  generalize upd H4 p (.dK kvs) = H5 at s5 hD5 tD ⊢
  have ms := ok.rd.miss
  refine ⟨_, rfl, _, rfl, D, tb, kvs', rfl, tD, hD5, ok.top, nd, ok.l20, fun H6 e6 => ?_⟩
  rw [ms]
  refine ⟨_, rfl, rfl, _, rfl, iteF ?_⟩
  refine ⟨_, rfl, _, rfl, D, tb, kvs', rfl, tD.same e6, ok.top, nd, ok.l20, ms, fun H7 e7 => ⟨fun _ => ?_, fun n ys i srt hi rch _ => absurd rch (ok.noring n (srt.1.mem_iff.mp (List.mem_of_getElem? hi)))⟩⟩
  refine ⟨_, rfl, rfl, _, rfl, iteF ?_⟩
  have e57 := e6.trans e7
  refine ⟨_, rfl, _, rfl, _, _, rfl, D, tb, kvs', rk, c, rfl, rfl, tD.same e57, e57 _ _ hD5, ok.top, ok.fits, ok.l20, ok.rd, c0, ok.c5, ok.nol, fun H8 e8 => ?_⟩
  refine ⟨_, rfl, rfl, _, rfl, iteF ?_⟩
  have e58 := e57.trans e8
  refine ⟨_, rfl, _, rfl, fun m dm hm hdm ne => ?_⟩
  refine ⟨_, _, _, _, rfl, H8, m, D, c, false, rfl, Fresh.mk' hm hdm ne, rfl, rfl, rfl, c0, ok.c5, fun dm2 fo pl no_ nu ct ro re la go mv tu st H9 hm9 pn cn mn nla fr9 e9 => ⟨rfl, ?_⟩⟩
  have e59 := e58.trans e9
  have mt9 : MachAtN A H0 H9 m D c false := ⟨dm2, fo, pl, no_, nu, ct, ro, re, la, go, mv, tu, st, hm9, pn, cn, mn, nla, fun b hb => free_of (e01.trans (s5.trans e58)) (fr9 b hb)⟩
  refine ⟨_, rfl, _, rfl, m, D, dm2, _, tb, kvs', rk, rfl, hm9, mach_named, tD.same e59, e59 _ _ hD5, ok.top, ok.l20, ok.rd, ok.nor, fun Ha ea => ?_⟩
  have e5a := e59.trans ea
  have hxa := e5a _ _ (s5 _ _ hx1)
  have mta := mt9.same ea
  have tDa := tD.same e5a
  have hDa := e5a _ _ hD5
  have e0a : Same H0 Ha := e01.trans (s5.trans e5a)
  clear mt9 hm9 pn cn mn
  refine ⟨_, rfl, _, rfl, x, _, dx, _, rfl, hxa, T.cl_Edition, T.n_Edition_table, Nat.lt_of_le_of_lt (Nat.le_refl 0 : _ ≤ 0) (by decide : 0 < 1000), ?_⟩
  refine ⟨_, rfl, _, rfl, x, _, dx, _, rfl, upd_same, T.cl_Edition, T.n_Edition_root, Nat.lt_of_le_of_lt (put_len (Nat.zero_le _) : _ ≤ 1) (by decide : 1 < 1000), ?_⟩
  refine ⟨_, rfl, _, rfl, x, _, dx, _, rfl, upd_same, T.cl_Edition, T.n_Edition_count, Nat.lt_of_le_of_lt (put_len (put_len (Nat.zero_le _)) : _ ≤ 2) (by decide : 2 < 1000), ?_⟩
  refine ⟨_, rfl, _, rfl, x, _, dx, _, rfl, upd_same, T.cl_Edition, T.n_Edition_machine, Nat.lt_of_le_of_lt (put_len (put_len (put_len (Nat.zero_le _))) : _ ≤ 3) (by decide : 3 < 1000), ?_⟩
  simp only [upd_upd]
  have nDx : D ≠ x := fun z => by rw [z, hxa] at hDa; cases hDa
  have kb : ∀ b u, b ≠ x → Ha b = some u → (upd Ha x (.ins A.c_Edition dx (putF "machine" (.ref m) (putF "count" (.int c) (putF "root" (.str r) (putF "table" (.ref D) [])))))) b = some u := fun b u n h => by rw [upd_ne n]; exact h
  have hxb : (upd Ha x (.ins A.c_Edition dx (putF "machine" (.ref m) (putF "count" (.int c) (putF "root" (.str r) (putF "table" (.ref D) [])))))) x = some (.ins A.c_Edition dx (putF "machine" (.ref m) (putF "count" (.int c) (putF "root" (.str r) (putF "table" (.ref D) []))))) := upd_same
  have e0b : Same H0 (upd Ha x (.ins A.c_Edition dx (putF "machine" (.ref m) (putF "count" (.int c) (putF "root" (.str r) (putF "table" (.ref D) [])))))) := same_put no e0a
  have hDb := kb _ _ nDx hDa
  have nmx : m ≠ x := fun z => by rw [z, e58 _ _ (s5 _ _ hx1)] at hm; cases hm
  have mtb := mta.keepX nmx hxa kb
  generalize upd Ha x (.ins A.c_Edition dx (putF "machine" (.ref m) (putF "count" (.int c) (putF "root" (.str r) (putF "table" (.ref D) []))))) = Hb at hxb e0b hDb mtb ⊢
  refine ⟨_, rfl, _, rfl, rfl, rfl, fun m2 dmx hm2 hdm2 ne2 => ?_⟩
  refine ⟨_, _, _, _, rfl, Hb, m2, D, c, true, rfl, Fresh.mk' hm2 hdm2 ne2, rfl, rfl, rfl, c0, ok.c5, fun dm3 fo2 pl2 no2 nu2 ct2 ro2 re2 la2 go2 mv2 tu2 st2 Hc hmc pn2 cn2 mn2 nla2 frc ec => ⟨rfl, ?_⟩⟩
  have hxc := ec _ _ hxb
  have mtc : MachAtN A H0 Hc m2 D c true := ⟨dm3, fo2, pl2, no2, nu2, ct2, ro2, re2, la2, go2, mv2, tu2, st2, hmc, pn2, cn2, mn2, nla2, fun b hb => free_of e0b (frc b hb)⟩
  refine ⟨_, rfl, x, _, dx, _, rfl, hxc, T.cl_Edition, T.n_Edition_own_machine, Nat.lt_of_le_of_lt (put_len (put_len (put_len (put_len (Nat.zero_le _)))) : _ ≤ 4) (by decide : 4 < 1000), ?_⟩
  have kc : ∀ b u, b ≠ x → Hc b = some u → (upd Hc x (.ins A.c_Edition dx (edFs (.ref D) (.str r) (.int c) (.ref m) (.ref m2)))) b = some u := fun b u n h => by rw [upd_ne n]; exact h
  have e0c : Same H0 (upd Hc x (.ins A.c_Edition dx (edFs (.ref D) (.str r) (.int c) (.ref m) (.ref m2)))) := same_put no (e0b.trans ec)
  have hDc := kc _ _ nDx (ec _ _ hDb)
  have new : EdNew A H0 (upd Hc x (.ins A.c_Edition dx (edFs (.ref D) (.str r) (.int c) (.ref m) (.ref m2)))) x tb r c := ⟨⟨dx, D, kvs', m, m2, upd_same, tDof _ e0c hDc, hDc, (mtb.same ec).keepX nmx hxc kc, mtc.keepX (fun z => by rw [z, hxb] at hm2; cases hm2) hxc kc, free_of e01 hD1⟩, ok.top, nd⟩
  exact k _ new.at e0c new
theorem ok__law_start (T : Txt K mg A) : FnOk P w K mg base CX0 1 A.f__law_start A.d__law_start ["script"] (sp__law_start K A) := by
  refine T.F__law_start.ok sc__law_start (fun vs H Q E h => sp1_len h) (fun cdv A0 outer s H vs Q E hr h => ?_)
  have nd := sc__law_start.nd
  refine ⟨_, (pss_one (ps_ret (pe_lst (pa_cons (pe_callTy call_list_of (by rfl) T.b_list (by decide +kernel) (pa_cons (pv 0) pa_nil)) (pa_cons pe_int (pa_cons pe_int (pa_cons pe_int pa_nil))))))), ?_⟩
  clear nd hr
  replace h := sp1_of h
  obtain ⟨v_script, rfl, h⟩ := h

  obtain ⟨l, ns, rfl, hl, hn, k⟩ := h
  refine ⟨_, rfl, l, _, rfl, .inl hl, fun q hq => ⟨by show 4 ≤ sizeLine; rw [sizeLine_eq]; decide, fun p hp => ?_⟩⟩
  have nqp : q ≠ p := fun z => by rw [← z, upd_same] at hp; cases hp
  have hp0 : H p = none := by rw [upd_ne nqp.symm] at hp; exact hp
  refine k ⟨p, q, ns⟩ _ hp0 hq (fun b u e => ?_) ⟨0, 0, 1234577, nqp, upd_same, ?_, Nat.zero_le _, hn, by decide, by decide, by decide⟩
  · rw [upd_ne (ne_of_none e hp0), upd_ne (ne_of_none e hq)]
    exact e
  · show upd _ p _ q = _
    rw [upd_ne nqp, upd_same]
theorem ok__law_pull (T : Txt K mg A) : FnOk P w K mg base CX0 1 A.f__law_pull A.d__law_pull ["state", "many"] (sp__law_pull K A) := by
  refine T.F__law_pull.ok sc__law_pull (fun vs H Q E h => sp2_len h) (fun cdv A0 outer s H vs Q E hr h => ?_)
  have nd := sc__law_pull.nd
  refine ⟨_, (Evl.pss_cut (ps_if (PW.pt (pw_and (pt_cmpR op_eq (pe_ix ix_list (pv 0) pe_int (fun _ _ => rfl)) pe_int (nomark _)) (pw_and1 (pt_cmpR op_lt (pe_ix ix_list (pv 0) pe_int (fun _ _ => rfl)) (pe_callB call_len (by rfl) T.b_len (by decide +kernel) (pa_cons (pe_ix ix_list (pv 0) pe_int (fun _ _ => rfl)) pa_nil)) (nomark _))))) (pss_cons (ps_set (i := 2) nd rfl (by first | exact Or.inl rfl | exact Or.inr rfl) (pe_ix ix_list (pe_ix ix_list (pv 0) pe_int (fun _ _ => rfl)) (pe_ix ix_list (pv 0) pe_int (fun _ _ => rfl)) (fun _ _ => rfl)))
      (pss_cons (ps_asg (pe_op op_add (pe_ix ix_list (pv 0) pe_int (fun _ _ => rfl)) pe_int) (pg_sub (pv 0) pe_int set_list))
      (pss_one (ps_if (pt_cmpR op_ge (pv 2) (pe_op op_pow pe_int pe_int) (nomark _)) (pss_one (ps_asg (pv 2) (pg_sub (pv 0) pe_int set_list))) (pss_one (ps_asg (pe_op op_mod (pe_callTy call_int1 (by rfl) T.b_int (by decide +kernel) (pa_cons (pe_op op_add (pe_op op_add (pe_op op_mul (pe_ix ix_list (pv 0) pe_int (fun _ _ => rfl)) pe_int) (pe_op op_mod (pe_callTy call_int1 (by rfl) T.b_int (by decide +kernel) (pa_cons (pv 2) pa_nil)) pe_int)) pe_int) pa_nil)) pe_int) (pg_sub (pv 0) pe_int set_list))))))) pss_nil)
      (pss_cons (ps_if (pt_cmpR op_gt (pe_ix ix_list (pv 0) pe_int (fun _ _ => rfl)) pe_int (nomark _)) (pss_cons (ps_set (i := 3) nd rfl (by first | exact Or.inl rfl | exact Or.inr rfl) (pe_op op_mod (pe_callTy call_int1 (by rfl) T.b_int (by decide +kernel) (pa_cons (pe_ix ix_list (pv 0) pe_int (fun _ _ => rfl)) pa_nil)) (pv 1)))
      (pss_cons (ps_asg (pe_op op_fdivW (pe_ix ix_list (pv 0) pe_int (fun _ _ => rfl)) (pv 1)) (pg_sub (pv 0) pe_int set_list))
      (pss_one (ps_ret (pv 3))))) pss_nil)
      (pss_cons (ps_asg (pe_op op_mod (pe_callTy call_int1 (by rfl) T.b_int (by decide +kernel) (pa_cons (pe_op op_add (pe_op op_mul (pe_ix ix_list (pv 0) pe_int (fun _ _ => rfl)) pe_int) pe_int) pa_nil)) pe_int) (pg_sub (pv 0) pe_int set_list))
      (pss_cons (ps_set (i := 3) nd rfl (by first | exact Or.inl rfl | exact Or.inr rfl) (pe_op op_mod (pe_callTy call_int1 (by rfl) T.b_int (by decide +kernel) (pa_cons (pe_op op_add (pe_op op_mul (pe_ix ix_list (pv 0) pe_int (fun _ _ => rfl)) pe_int) (pe_op op_fdivW (pe_ix ix_list (pv 0) pe_int (fun _ _ => rfl)) pe_int)) pa_nil)) pe_int))
      (pss_one (ps_ret (pe_op op_mod (pe_callTy call_int1 (by rfl) T.b_int (by decide +kernel) (pa_cons (pe_op op_fdivW (pv 3) pe_int) pa_nil)) (pv 1)))))))), ?_⟩
  clear nd hr
  replace h := sp2_of h
  obtain ⟨v_state, v_many, rfl, h⟩ := h

  obtain ⟨d, many, rfl, rfl, ⟨i, c, s, R⟩, hm, hlog, k⟩ := h
  refine ⟨fun σ' H' => ∃ (v : Option V) (j : Nat) (x t : Int), σ' = [some (.ref d.p), some (.int many), v, none] ∧ Chg d H H' ∧ RngL H' d j x t, ?_, ?_⟩
  · refine ⟨_, rfl, _, _, _, _, rfl, rfl, SqL.of R.st, rfl, rfl, _, rfl, ?_⟩
    refine ite2 (fun hc0 => ?_) (fun _ => iteF ⟨none, i, c, s, rfl, Chg.refl, R⟩)
    refine ⟨_, rfl, _, _, _, _, rfl, rfl, SqL.of R.st, rfl, _, rfl, _, _, _, _, rfl, rfl, SqL.of R.st, rfl, _, _, rfl, .inl ⟨_, SqL.of R.ls, rfl⟩, _, _, rfl, rfl, _, rfl, ?_⟩
    refine ite2 (fun hlt => ?_) (fun _ => ⟨none, i, c, s, rfl, Chg.refl, R⟩)
    have hi : i < d.ns.length := by
      have q := of_decide_eq_true hlt
      rw [List.length_map] at q
      omega
    have hat : atI (d.ns.map V.int) (i : Int) = some (.int d.ns[i]) := atI_nat (by simp [hi])
    refine ⟨_, rfl, _, _, _, _, rfl, rfl, SqL.of R.st, rfl, _, rfl, _, _, _, _, rfl, rfl, SqL.of R.st, rfl, _, _, _, _, rfl, rfl, SqL.of R.ls, hat, ?_⟩
    refine ⟨_, rfl, _, _, _, _, rfl, rfl, SqL.of R.st, rfl, _, _, rfl, rfl, _, rfl, _, _, _, _, rfl, rfl, R.st, rfl, ?_⟩
    have R1 : RngL (upd H d.p (.lst [.ref d.l, .int ((i + 1 : Nat) : Int), .int c, .int s])) d (i + 1) c s := R.set hi R.hc R.hs R.hs2
    have e1 : Chg d H (upd H d.p (.lst [.ref d.l, .int ((i + 1 : Nat) : Int), .int c, .int s])) := Chg.upd
    refine heap_gen (fun H1 => RngL H1 d (i + 1) c s ∧ Chg d H H1) ⟨R1, e1⟩ fun H1 ⟨R1, e1⟩ => ?_
    refine ⟨_, rfl, _, _, rfl, rfl, ⟨by decide, by decide, by decide⟩, _, _, rfl, rfl, _, rfl, ?_⟩
    refine ite2 (fun hge => ?_) (fun _ => ?_)
    · have h0 : 0 ≤ d.ns[i] := by
        have q := of_decide_eq_true hge
        have e : ((10 : Int) ^ ((18 : Int).toNat)) = 1000000000000000000 := by decide
        rw [e] at q
        omega
      refine ⟨_, rfl, _, rfl, _, _, _, _, rfl, rfl, R1.st, rfl, ?_⟩
      exact ⟨_, i + 1, d.ns[i], s, rfl, e1.trans Chg.upd, R1.set R1.hi h0 R1.hs R1.hs2⟩
    · refine ⟨_, rfl, _, _, _, _, rfl, rfl, SqL.of R1.st, rfl, _, _, rfl, rfl, .inl ⟨by have := R1.hs; omega, by have := R1.hs2; omega⟩, _, rfl, .inl ⟨_, rfl, _, _, rfl, rfl, pos_ (by decide), _, _, rfl, rfl, _, _, rfl, rfl, .inl ⟨_, rfl, _, _, rfl, rfl, pos_ (by decide), ?_⟩⟩⟩
      refine ⟨_, rfl, _, _, _, _, rfl, rfl, R1.st, rfl, ?_⟩
      exact ⟨_, i + 1, c, _, rfl, e1.trans Chg.upd, R1.set R1.hi R1.hc (Int.emod_nonneg _ (by decide)) (Int.emod_lt_of_pos _ (by decide))⟩
  · rintro σ' H' ⟨v, j, x, t, rfl, e1, R1⟩
    refine ⟨_, rfl, _, _, _, _, rfl, rfl, SqL.of R1.st, rfl, _, _, rfl, rfl, _, rfl, ?_⟩
    refine ite2 (fun hd => ?_) (fun _ => ?_)
    · refine ⟨_, rfl, _, _, _, _, rfl, rfl, SqL.of R1.st, rfl, .inl ⟨_, rfl, _, rfl, _, _, rfl, rfl, hm, ?_⟩⟩
      refine ⟨_, rfl, _, _, _, _, rfl, rfl, SqL.of R1.st, rfl, _, rfl, _, _, rfl, rfl, ⟨hm, hlog⟩, _, rfl, _, _, _, _, rfl, rfl, R1.st, rfl, _, rfl, ?_⟩
      exact k _ _ (Int.emod_nonneg _ (by omega)) (Int.emod_lt_of_pos _ hm) (e1.trans Chg.upd) ⟨_, _, _, R1.set R1.hi (Int.ediv_nonneg R1.hc (Int.le_of_lt hm)) R1.hs R1.hs2⟩
    · refine ⟨_, rfl, _, _, _, _, rfl, rfl, SqL.of R1.st, rfl, _, _, rfl, rfl, .inl ⟨by have := R1.hs; omega, by have := R1.hs2; omega⟩, _, _, rfl, rfl, .inl ⟨_, rfl, _, _, rfl, rfl, pos_ (by decide), _, rfl, _, _, _, _, rfl, rfl, R1.st, rfl, ?_⟩⟩
      have R2 := R1.set (j := j) (x := x) R1.hi R1.hc (Int.emod_nonneg ((t * 69621 + 11)) (by decide : (2147483647 : Int) ≠ 0)) (Int.emod_lt_of_pos (t * 69621 + 11) (by decide : (0 : Int) < 2147483647))
      have e2 := e1.trans (Chg.upd (o := .lst [.ref d.l, .int (j : Int), .int x, .int ((t * 69621 + 11) % 2147483647)]))
      refine heap_gen (fun H2 => RngL H2 d j x ((t * 69621 + 11) % 2147483647) ∧ Chg d H H2) ⟨R2, e2⟩ fun H2 ⟨R2, e2⟩ => ?_
      generalize (t * 69621 + 11) % 2147483647 = t2 at R2
      refine ⟨_, rfl, _, _, _, _, rfl, rfl, SqL.of R2.st, rfl, _, _, rfl, rfl, .inl ⟨by have := R2.hs; omega, by have := R2.hs2; omega⟩, _, rfl, _, _, _, _, rfl, rfl, SqL.of R2.st, rfl, _, _, rfl, rfl, ⟨by decide, small_log (by decide) (by decide)⟩, _, _, rfl, rfl, .inl ⟨_, rfl, _, _, rfl, rfl, pos_ (by decide), ?_⟩⟩
      refine ⟨_, rfl, _, _, rfl, rfl, ⟨by decide, small_log (by decide) (by decide)⟩, .inl ⟨_, rfl, _, rfl, _, _, rfl, rfl, hm, ?_⟩⟩
      exact k _ _ (Int.emod_nonneg _ (by omega)) (Int.emod_lt_of_pos _ hm) e2 ⟨_, _, _, R2⟩
theorem ok__law_big (T : Txt K mg A) : FnOk P w K mg base CX0 2 A.f__law_big A.d__law_big ["state", "many"] (sp__law_big K A) := by
  refine T.F__law_big.ok sc__law_big (fun vs H Q E h => sp2_len h) (fun cdv A0 outer s H vs Q E hr h => ?_)
  have nd := sc__law_big.nd
  refine ⟨_, (pss_cons (ps_set (i := 2) nd rfl (by first | exact Or.inl rfl | exact Or.inr rfl) pe_int)
      (pss_cons (ps_for PassesOwn.never rfl (pi_range1 (by rfl) T.b_range (pa_cons pe_int pa_nil)) (pg_name (i := 3) nd rfl (by first | exact Or.inl rfl | exact Or.inr rfl)) (pss_one (ps_set (i := 2) nd rfl (by first | exact Or.inl rfl | exact Or.inr rfl) (pe_op op_add (pe_op op_mul (pv 2) pe_int) (pe_call (ok__law_pull T) (hr.mono (by decide)) (by rfl) T.mg__law_pull T.k__law_pull T.b__law_pull .nil pass0 (pa_cons (pv 0) (pa_cons pe_int pa_nil)))))))
      (pss_one (ps_ret (pe_op op_mod (pe_callTy call_int1 (by rfl) T.b_int (by decide +kernel) (pa_cons (pv 2) pa_nil)) (pv 1)))))), ?_⟩
  clear nd hr
  replace h := sp2_of h
  obtain ⟨v_state, v_many, rfl, h⟩ := h

  obtain ⟨d, many, rfl, rfl, r, hm, hlog, k⟩ := h
  refine ⟨6, rfl, by decide, by decide, for_range (n := 6) (fun i σ' H' => ∃ (num : Int) (kv : Option V), σ' = [some (.ref d.p), some (.int many), some (.int num), kv] ∧ Chg d H H' ∧ Rng d H') ⟨_, _, rfl, Chg.refl, r⟩ ?_ ?_⟩
  · rintro i σ' H' hi ⟨num, kv, rfl, e1, r1⟩
    exact ⟨_, rfl, _, _, rfl, rfl, .inr ⟨by decide, by decide⟩, _, rfl, _, _, rfl, d, _, rfl, rfl, r1, by decide, small_log (by decide) (by decide), fun v H2 h0 h1 e2 r2 => ⟨_, _, rfl, rfl, _, _, rfl, e1.trans e2, r2⟩⟩
  · rintro σ' H' ⟨num, kv, rfl, e1, r1⟩
    exact ⟨_, rfl, .inl ⟨_, rfl, _, rfl, _, _, rfl, rfl, hm, k _ _ (Int.emod_nonneg _ (by omega)) (Int.emod_lt_of_pos _ hm) e1 r1⟩⟩
theorem ok__law_word (T : Txt K mg A) : FnOk P w K mg base CX0 2 A.f__law_word A.d__law_word ["state", "size"] (sp__law_word K A) := by
  refine T.F__law_word.ok sc__law_word (fun vs H Q E h => sp2_len h) (fun cdv A0 outer s H vs Q E hr h => ?_)
  have nd := sc__law_word.nd
  refine ⟨_, (pss_cons (ps_set (i := 2) nd rfl (by first | exact Or.inl rfl | exact Or.inr rfl) pe_str)
      (pss_one (ps_ret (pe_join pe_str (pe_lc (own := [("k", 3)]) (g := gName 3) (tt := tYes) (by rfl) nd (pi_range1 (by rfl) T.b_range (pa_cons (pv 1) pa_nil)) (blkOk_by (own := [("k", 3)]) (N := ["state", "size", "letters", "k"]) (sc := defScope s__law_word) (by decide +kernel)) (fun _ _ _ _ _ => pg_name (i := 3) nd rfl (by first | exact Or.inl rfl | exact Or.inr rfl)) (fun _ _ _ _ _ => pts_nil) (fun _ _ _ _ _ => (pe_ix ix_str (pv 2) (pe_call (ok__law_pull T) (hr.mono (by decide)) (by rfl) T.mg__law_pull T.k__law_pull T.b__law_pull .nil pass0 (pa_cons (pv 0) (pa_cons pe_int pa_nil))) (fun _ _ => rfl)))))))), ?_⟩
  clear nd hr
  replace h := sp2_of h
  obtain ⟨v_state, v_size, rfl, h⟩ := h

  obtain ⟨d, n, rfl, rfl, hn, r, k⟩ := h
  refine ⟨⟨_, rfl⟩, ?_⟩
  refine lc_draw (d := d) (fun m => m = n) (Sign letter) (fun _ _ _ _ h => h) (fun x => rfl) (fun m e => by omega) (fun R h => ⟨_, rfl, h n H rfl Chg.refl r⟩) (fun x H1 Q1 r1 e1 h1 => ?_) (fun m D xs H' e nDp nDl hD hl hf hxs e2 r2 => ?_)
  · refine ⟨_, rfl, _, rfl, _, _, rfl, d, _, rfl, rfl, r1, by decide, small_log (by decide) (by decide), fun v H2 h0 hv e2 r2 => ?_⟩
    obtain ⟨c, hc, ha⟩ := pick_sign abc_eq h0 hv
    exact ⟨_, _, c, rfl, rfl, by show (Str.ofString _).cps.size ≤ sizeLine; rw [sizeLine_eq]; decide +kernel, ha, h1 _ _ ⟨c, abc_letter c hc, rfl⟩ e2 r2⟩
  · obtain ⟨cs, rfl, hcs, hl2⟩ := signs_of hf
    refine ⟨_, D, cs.map fun c => (⟨#[c]⟩ : Str), rfl, rfl, .inl (SqL.of hxs), ?_, ?_⟩
    · rw [sum_signs]
      have : (Str.ofString "").length = 0 := by decide +kernel
      rw [this, List.length_map]
      rw [List.length_map, List.length_map] at hl
      omega
    · rw [join_signs _ tl_empty]
      refine k cs H' ?_ hcs e2 r2
      rw [← e, ← hl, List.length_map, List.length_map]
theorem ok__law_names (T : Txt K mg A) : FnOk P w K mg base CX0 3 A.f__law_names A.d__law_names ["state", "many"] (sp__law_names K A) := by
  refine T.F__law_names.ok sc__law_names (fun vs H Q E h => sp2_len h) (fun cdv A0 outer s H vs Q E hr h => ?_)
  have nd := sc__law_names.nd
  refine ⟨_, (pss_cons (ps_set (i := 2) nd rfl (by first | exact Or.inl rfl | exact Or.inr rfl) pe_str)
      (pss_cons (ps_set (i := 3) nd rfl (by first | exact Or.inl rfl | exact Or.inr rfl) (pe_call (ok__law_word T) (hr.mono (by decide)) (by rfl) T.mg__law_word T.k__law_word T.b__law_word .nil pass0 (pa_cons (pv 0) (pa_cons (pe_call (ok__law_pull T) (hr.mono (by decide)) (by rfl) T.mg__law_pull T.k__law_pull T.b__law_pull .nil pass0 (pa_cons (pv 0) (pa_cons pe_int pa_nil))) pa_nil))))
      (pss_cons (ps_set (i := 4) nd rfl (by first | exact Or.inl rfl | exact Or.inr rfl) (pe_call (ok__law_pull T) (hr.mono (by decide)) (by rfl) T.mg__law_pull T.k__law_pull T.b__law_pull .nil pass0 (pa_cons (pv 0) (pa_cons pe_int pa_nil))))
      (pss_cons (ps_set (i := 5) nd rfl (by first | exact Or.inl rfl | exact Or.inr rfl) (pe_op op_add (pe_op op_mul pe_int (pe_call (ok__law_pull T) (hr.mono (by decide)) (by rfl) T.mg__law_pull T.k__law_pull T.b__law_pull .nil pass0 (pa_cons (pv 0) (pa_cons pe_int pa_nil)))) pe_int))
      (pss_cons (ps_set (i := 6) nd rfl (by first | exact Or.inl rfl | exact Or.inr rfl) (pe_call (ok__law_pull T) (hr.mono (by decide)) (by rfl) T.mg__law_pull T.k__law_pull T.b__law_pull .nil pass0 (pa_cons (pv 0) (pa_cons pe_int pa_nil))))
      (pss_one (ps_ret (pe_lc (own := [("k", 7)]) (g := gName 7) (tt := tYes) (by rfl) nd (pi_range1 (by rfl) T.b_range (pa_cons (pv 1) pa_nil)) (blkOk_by (own := [("k", 7)]) (N := ["state", "many", "letters", "head", "first", "step", "size", "k"]) (sc := defScope s__law_names) (by decide +kernel)) (fun _ _ _ _ _ => pg_name (i := 7) nd rfl (by first | exact Or.inl rfl | exact Or.inr rfl)) (fun _ _ _ _ _ => pts_nil) (fun _ _ _ _ _ => (pe_op op_add_str (pe_op op_add_str (pv 3) (pe_ix ix_str (pv 2) (pe_op op_mod (pe_callTy (T := "int") call_int1 (by rfl) T.b_int (by decide +kernel) (pa_cons (pe_op op_add (pv 4) (pe_op op_mul (pv 7) (pv 5))) pa_nil)) pe_int) (fun _ _ => rfl))) (pe_call (ok__law_word T) (hr.mono (by decide)) (by rfl) T.mg__law_word T.k__law_word T.b__law_word .nil pass0 (pa_cons (pv 0) (pa_cons (pv 6) pa_nil))))))))))))), ?_⟩
  clear nd hr
  replace h := sp2_of h
  obtain ⟨v_state, v_many, rfl, h⟩ := h

  obtain ⟨d, n, rfl, rfl, n26, r, k⟩ := h
  refine ⟨_, rfl, _, rfl, _, _, rfl, d, _, rfl, rfl, r, by decide, small_log (by decide) (by decide), fun v1 H1 a0 a1 e1 r1 => ?_⟩
  obtain ⟨n1, rfl⟩ := Int.eq_ofNat_of_zero_le a0
  refine ⟨_, _, rfl, d, n1, rfl, rfl, by omega, r1, fun hs H2 hl hc e2 r2 => ?_⟩
  refine ⟨_, rfl, _, _, rfl, d, _, rfl, rfl, r2, by decide, small_log (by decide) (by decide), fun v3 H3 b0 b1 e3 r3 => ?_⟩
  refine ⟨_, rfl, _, _, rfl, d, _, rfl, rfl, r3, by decide, small_log (by decide) (by decide), fun v4 H4 c0 c1 e4 r4 => ⟨_, _, rfl, rfl, .inl ⟨by decide, by decide⟩, _, _, rfl, rfl, ?_⟩⟩
  refine ⟨_, rfl, _, _, rfl, d, _, rfl, rfl, r4, by decide, small_log (by decide) (by decide), fun v5 H5 g0 g1 e5 r5 => ?_⟩
  obtain ⟨n5, rfl⟩ := Int.eq_ofNat_of_zero_le g0
  have e05 := e1.trans (e2.trans (e3.trans (e4.trans e5)))
  refine ⟨_, rfl, _, rfl, by omega, by omega, fun D hD => ?_⟩
  rw [Int.toNat_natCast]
  have nDp : D ≠ d.p := r5.nep hD
  have nDl : D ≠ d.l := r5.nel hD
  refine lc_it (walk_range (lo := 0) (n := n)) (fun i H' => ∃ ys : List Str, H' D = some (.lst (ys.map V.str)) ∧ ys.length = i ∧ (∀ j y, ys[j]? = some y → NmAt hs v3 (2 * v4 + 1) j y) ∧ Chg d H5 H' ∧ Rng d H') ⟨[], upd_same, rfl, fun j y hy => by simp at hy, Chg.new hD, r5.new hD⟩ (fun _ _ _ _ => trivial) ?_ ?_
  · rintro i xv H7 H7' hi ⟨ys, hD7, hl7, hn7, e7, r7⟩ ⟨rfl, rfl⟩
    refine ⟨rfl, ?_⟩
    have hat := abc_at (x := (v3 + (0 + ((i : Nat) : Int)) * (2 * v4 + 1)) % 26) (Int.emod_nonneg _ (by decide)) (Int.emod_lt_of_pos _ (by decide))
    refine ⟨_, rfl, _, rfl, _, rfl, _, rfl, _, rfl, _, _, rfl, rfl, .inr ⟨by omega, by omega⟩, _, _, rfl, rfl, .inl ⟨_, rfl, _, _, rfl, rfl, pos_ (by decide), _, _, _, rfl, rfl, by show (Str.ofString _).cps.size ≤ sizeLine; rw [sizeLine_eq]; decide +kernel, hat, _, _, rfl, rfl, by rw [sizeLine_eq]; show hs.toArray.size + 1 ≤ _; simp; omega, ?_⟩⟩
    refine ⟨_, rfl, _, rfl, _, _, rfl, d, n5, rfl, rfl, by omega, r7, fun ts H8 tl tc e8 r8 => ?_⟩
    have hD8 := e8 _ _ nDp hD7
    refine ⟨_, _, rfl, rfl, ?_, _, hD8, by rw [sizeLine_eq, List.length_map]; omega, ys ++ [nmS hs (97 + ((v3 + (0 + ((i : Nat) : Int)) * (2 * v4 + 1)) % 26).toNat) ts], ?_, by rw [List.length_append, hl7]; rfl, fun j y hy => ?_, ?_, r8.put nDp nDl⟩
    · rw [sizeLine_eq]
      show (hs.toArray ++ #[_]).size + ts.toArray.size ≤ _
      simp
      omega
    · rw [upd_same, nm_cat, List.map_append]
      rfl
    · by_cases c : j < ys.length
      · rw [List.getElem?_append_left c] at hy
        exact hn7 j y hy
      · rw [List.getElem?_append_right (by omega)] at hy
        have : j - ys.length = 0 := by
          cases q : j - ys.length with
          | zero => rfl
          | succ m => rw [q] at hy; simp at hy
        rw [this] at hy
        have ey : y = nmS hs (97 + ((v3 + (0 + ((i : Nat) : Int)) * (2 * v4 + 1)) % 26).toNat) ts := (Option.some.inj hy).symm
        have ej : j = i := by omega
        subst ej
        exact ⟨ts, ey, by omega, tc⟩
    · exact (e7.trans e8).mut hD
  · rintro H7 ⟨ys, hD7, hl7, hn7, e7, r7⟩
    refine k D ys H7 hD7 (e05.free nDp hD) nDp hl7 (nm_nodup c0 c1 (by omega) hn7) (fun y hy => ?_) (e05.trans e7) r7
    obtain ⟨j, hj, ey⟩ := List.getElem_of_mem hy
    exact nm_ok (hn7 j y (by rw [List.getElem?_eq_getElem hj, ey])) (by omega) hc
theorem ok__law_kind0 (T : Txt K mg A) : FnOk P w K mg base CX0 5 A.f__law_kind A.d__law_kind ["told"] (sp__law_kind0 K A) := by
  refine T.F__law_kind.ok sc__law_kind (fun vs H Q E h => sp1_len h) (fun cdv A0 outer s H vs Q E hr h => ?_)
  have nd := sc__law_kind.nd
  refine ⟨_, (pss_cons (ps_if (PW.pt (pw_or (pt_cmpR op_isN (pv 0) pe_non (nomark _)) (pw_or1 (pt_cmpR op_eq (pe_ix ix_tup (pv 0) pe_int (fun _ _ => rfl)) pe_str (nomark _))))) (pss_one (ps_ret (pe_ifExp (pt_cmpR op_isN (pv 0) pe_non (nomark _)) pe_non (pe_makeO T.mo_Nothing T.io_Nothing T.kc_Nothing (by rfl) T.mg_Nothing)))) pss_nil)
      (pss_cons (ps_if (pt_cmpR op_eq (pe_ix ix_tup (pv 0) pe_int (fun _ _ => rfl)) pe_str (nomark _)) (pss_one (ps_ret (by exact (pe_makeS T.mk_Number (ok_Number___init__ T) (hr.mono (by decide)) (by rfl) T.mg_Number T.b_Number___init__ .nil (fun σ => passL0 σ) (by exact (pa_cons (pe_ix ix_tup (pv 0) pe_int (fun _ _ => rfl)) (pa_cons (pe_ix ix_tup (pv 0) pe_int (fun _ _ => rfl)) (pa_cons (pe_ix ix_tup (pv 0) pe_int (fun _ _ => rfl)) pa_nil)))))))) pss_nil)
      (pss_cons (ps_if (pt_cmpR op_eq (pe_ix ix_tup (pv 0) pe_int (fun _ _ => rfl)) pe_str (nomark _)) pss_never pss_nil)
      (pss_cons (ps_if (PW.pt (pw_or (pt_cmpR op_eq (pe_ix ix_tup (pv 0) pe_int (fun _ _ => rfl)) pe_str (nomark _)) (pw_or1 (pt_cmpR op_eq (pe_ix ix_tup (pv 0) pe_int (fun _ _ => rfl)) pe_str (nomark _))))) (pss_one (ps_ret (pe_ifExp (pt_cmpR op_eq (pe_ix ix_tup (pv 0) pe_int (fun _ _ => rfl)) pe_str (nomark _)) (by exact (pe_makeS T.mk_Bits (ok_Bits___init__ T) (hr.mono (by decide)) (by rfl) T.mg_Bits T.b_Bits___init__ .nil (fun σ => passL0 σ) (by exact (pa_cons (pe_ix ix_tup (pv 0) pe_int (fun _ _ => rfl)) pa_nil)))) (by exact (pe_makeS T.mk_Call (ok_Call___init__ T) (hr.mono (by decide)) (by rfl) T.mg_Call T.b_Call___init__ .nil (fun σ => passL0 σ) (by exact (pa_cons (pe_ix ix_tup (pv 0) pe_int (fun _ _ => rfl)) pa_nil))))))) pss_nil)
      pss_never)))), ?_⟩
  clear nd hr
  replace h := sp1_of h
  obtain ⟨v_told, rfl, h⟩ := h

  obtain ⟨kd, hl, ok, k⟩ := h
  cases hl with
  | num ht =>
    rename_i a lo hi w
    have ok : OkNum lo hi w := ok.elim (fun h => h) fun ⟨_, e, _⟩ => nomatch e
    obtain ⟨tw, vw⟩ := oi_vt (K := K) (H := H) w
    refine ⟨_, rfl, rfl, _, rfl, iteB (fun g => nomatch g) (fun _ => ?_)⟩
    refine ⟨_, rfl, _, _, _, _, rfl, rfl, SqT.of ht, rfl, rfl, _, rfl, iteB (fun g => absurd (of_decide_eq_true g) (by decide +kernel)) (fun _ => ?_)⟩
    refine ⟨_, rfl, _, _, _, _, rfl, rfl, SqT.of ht, rfl, rfl, _, rfl, iteB (fun _ => ?_) (fun g => absurd rfl (of_decide_eq_false g))⟩
    exact ⟨_, rfl, _, _, _, _, rfl, rfl, SqT.of ht, rfl, _, rfl, _, _, _, _, rfl, rfl, SqT.of ht, rfl, _, rfl, _, _, _, _, rfl, rfl, SqT.of ht, rfl, fun q dq h1 h2 ne => ⟨_, _, _, _, rfl, H, q, _, _, tw, rfl, Fresh.mk' h1 h2 ne, .int _, .int _, vw, made_ok (mkNum_leaf ok) fun H2 e2 hk => ⟨rfl, k _ _ hk e2⟩⟩⟩
  | bits ht =>
    rename_i a n
    have ok : 1 ≤ n ∧ n ≤ 16 := ok.elim (fun h => h) fun ⟨_, e, _⟩ => nomatch e
    refine ⟨_, rfl, rfl, _, rfl, iteB (fun g => nomatch g) (fun _ => ?_)⟩
    refine ⟨_, rfl, _, _, _, _, rfl, rfl, SqT.of ht, rfl, rfl, _, rfl, iteB (fun g => absurd (of_decide_eq_true g) (by decide +kernel)) (fun _ => ?_)⟩
    refine ⟨_, rfl, _, _, _, _, rfl, rfl, SqT.of ht, rfl, rfl, _, rfl, iteB (fun g => absurd (of_decide_eq_true g) (by decide +kernel)) (fun _ => ?_)⟩
    refine ⟨_, rfl, _, _, _, _, rfl, rfl, SqT.of ht, rfl, rfl, _, rfl, iteB (fun g => absurd (of_decide_eq_true g) (by decide +kernel)) (fun _ => ?_)⟩
    refine ⟨_, rfl, _, _, _, _, rfl, rfl, SqT.of ht, rfl, rfl, _, rfl, iteB (fun _ => ?_) (fun g => absurd rfl (of_decide_eq_false g))⟩
    refine ⟨_, rfl, _, _, _, _, rfl, rfl, SqT.of ht, rfl, rfl, _, rfl, iteB (fun _ => ?_) (fun g => absurd rfl (of_decide_eq_false g))⟩
    exact ⟨_, rfl, _, _, _, _, rfl, rfl, SqT.of ht, rfl, fun q dq h1 h2 ne => ⟨_, _, rfl, H, q, _, rfl, Fresh.mk' h1 h2 ne, .int _, made_ok (mkBits_leaf ok.1 ok.2) fun H2 e2 hk => ⟨rfl, k _ _ hk e2⟩⟩⟩
  | items ht ki => exact ok.elim (fun h => h.elim) fun ⟨_, e, _⟩ => nomatch e
  | call ht =>
    rename_i a x
    have ok : okN x := ok.elim (fun h => h.elim) fun ⟨_, e, o⟩ => by cases e; exact o
    refine ⟨_, rfl, rfl, _, rfl, iteB (fun g => nomatch g) (fun _ => ?_)⟩
    refine ⟨_, rfl, _, _, _, _, rfl, rfl, SqT.of ht, rfl, rfl, _, rfl, iteB (fun g => absurd (of_decide_eq_true g) (by decide +kernel)) (fun _ => ?_)⟩
    refine ⟨_, rfl, _, _, _, _, rfl, rfl, SqT.of ht, rfl, rfl, _, rfl, iteB (fun g => absurd (of_decide_eq_true g) (by decide +kernel)) (fun _ => ?_)⟩
    refine ⟨_, rfl, _, _, _, _, rfl, rfl, SqT.of ht, rfl, rfl, _, rfl, iteB (fun g => absurd (of_decide_eq_true g) (by decide +kernel)) (fun _ => ?_)⟩
    refine ⟨_, rfl, _, _, _, _, rfl, rfl, SqT.of ht, rfl, rfl, _, rfl, iteB (fun g => absurd (of_decide_eq_true g) (by decide +kernel)) (fun _ => ?_)⟩
    refine ⟨_, rfl, _, _, _, _, rfl, rfl, SqT.of ht, rfl, rfl, _, rfl, iteB (fun _ => ?_) (fun g => absurd rfl (of_decide_eq_false g))⟩
    refine ⟨_, rfl, _, _, _, _, rfl, rfl, SqT.of ht, rfl, rfl, _, rfl, iteB (fun g => absurd (of_decide_eq_true g) (by decide +kernel)) (fun _ => ?_)⟩
    exact ⟨_, rfl, _, _, _, _, rfl, rfl, SqT.of ht, rfl, fun q dq h1 h2 ne => ⟨_, _, rfl, H, q, _, rfl, Fresh.mk' h1 h2 ne, .str _, name_short ok.1, made_ok (kd := .call x) (call_ok ok.1) fun H2 e2 hk => ⟨rfl, k _ _ hk e2⟩⟩⟩
theorem ok__law_kind (T : Txt K mg A) : FnOk P w K mg base CX0 6 A.f__law_kind A.d__law_kind ["told"] (sp__law_kind K A) := by
  refine T.F__law_kind.ok sc__law_kind (fun vs H Q E h => sp1_len h) (fun cdv A0 outer s H vs Q E hr h => ?_)
  have nd := sc__law_kind.nd
  refine ⟨_, (pss_cons (ps_if (PW.pt (pw_or (pt_cmpR op_isN (pv 0) pe_non (nomark _)) (pw_or1 (pt_cmpR op_eq (pe_ix ix_tup (pv 0) pe_int (fun _ _ => rfl)) pe_str (nomark _))))) (pss_one (ps_ret (pe_ifExp (pt_cmpR op_isN (pv 0) pe_non (nomark _)) pe_non (pe_makeO T.mo_Nothing T.io_Nothing T.kc_Nothing (by rfl) T.mg_Nothing)))) pss_nil)
      (pss_cons (ps_if (pt_cmpR op_eq (pe_ix ix_tup (pv 0) pe_int (fun _ _ => rfl)) pe_str (nomark _)) (pss_one (ps_ret (by exact (pe_makeS T.mk_Number (ok_Number___init__ T) (hr.mono (by decide)) (by rfl) T.mg_Number T.b_Number___init__ .nil (fun σ => passL0 σ) (by exact (pa_cons (pe_ix ix_tup (pv 0) pe_int (fun _ _ => rfl)) (pa_cons (pe_ix ix_tup (pv 0) pe_int (fun _ _ => rfl)) (pa_cons (pe_ix ix_tup (pv 0) pe_int (fun _ _ => rfl)) pa_nil)))))))) pss_nil)
      (pss_cons (ps_if (pt_cmpR op_eq (pe_ix ix_tup (pv 0) pe_int (fun _ _ => rfl)) pe_str (nomark _)) (pss_one (ps_ret (by exact (pe_makeS T.mk_Items (ok_Items___init__ T) (hr.mono (by decide)) (by rfl) T.mg_Items T.b_Items___init__ .nil (fun σ => passL0 σ) (by exact (pa_cons (pe_call (ok__law_kind0 T) (hr.mono (by decide)) (by rfl) T.mg__law_kind T.k__law_kind T.b__law_kind .nil pass0 (pa_cons (pe_ix ix_tup (pv 0) pe_int (fun _ _ => rfl)) pa_nil)) (pa_cons (pe_ix ix_tup (pv 0) pe_int (fun _ _ => rfl)) pa_nil))))))) pss_nil)
      (pss_cons (ps_if (PW.pt (pw_or (pt_cmpR op_eq (pe_ix ix_tup (pv 0) pe_int (fun _ _ => rfl)) pe_str (nomark _)) (pw_or1 (pt_cmpR op_eq (pe_ix ix_tup (pv 0) pe_int (fun _ _ => rfl)) pe_str (nomark _))))) (pss_one (ps_ret (pe_ifExp (pt_cmpR op_eq (pe_ix ix_tup (pv 0) pe_int (fun _ _ => rfl)) pe_str (nomark _)) (by exact (pe_makeS T.mk_Bits (ok_Bits___init__ T) (hr.mono (by decide)) (by rfl) T.mg_Bits T.b_Bits___init__ .nil (fun σ => passL0 σ) (by exact (pa_cons (pe_ix ix_tup (pv 0) pe_int (fun _ _ => rfl)) pa_nil)))) (by exact (pe_makeS T.mk_Call (ok_Call___init__ T) (hr.mono (by decide)) (by rfl) T.mg_Call T.b_Call___init__ .nil (fun σ => passL0 σ) (by exact (pa_cons (pe_ix ix_tup (pv 0) pe_int (fun _ _ => rfl)) pa_nil))))))) pss_nil)
      pss_never)))), ?_⟩
  clear nd hr
  replace h := sp1_of h
  obtain ⟨v_told, rfl, h⟩ := h

  obtain ⟨kd, hl, ok, k⟩ := h
  cases hl with
  | num ht =>
    rename_i a lo hi w
    have ok : OkNum lo hi w := ok.elim (fun h => h) fun ⟨_, e, _⟩ => nomatch e
    obtain ⟨tw, vw⟩ := oi_vt (K := K) (H := H) w
    refine ⟨_, rfl, rfl, _, rfl, iteB (fun g => nomatch g) (fun _ => ?_)⟩
    refine ⟨_, rfl, _, _, _, _, rfl, rfl, SqT.of ht, rfl, rfl, _, rfl, iteB (fun g => absurd (of_decide_eq_true g) (by decide +kernel)) (fun _ => ?_)⟩
    refine ⟨_, rfl, _, _, _, _, rfl, rfl, SqT.of ht, rfl, rfl, _, rfl, iteB (fun _ => ?_) (fun g => absurd rfl (of_decide_eq_false g))⟩
    exact ⟨_, rfl, _, _, _, _, rfl, rfl, SqT.of ht, rfl, _, rfl, _, _, _, _, rfl, rfl, SqT.of ht, rfl, _, rfl, _, _, _, _, rfl, rfl, SqT.of ht, rfl, fun q dq h1 h2 ne => ⟨_, _, _, _, rfl, H, q, _, _, tw, rfl, Fresh.mk' h1 h2 ne, .int _, .int _, vw, made_ok (mkNum_leaf ok) fun H2 e2 hk => ⟨rfl, k _ _ hk e2⟩⟩⟩
  | bits ht =>
    rename_i a n
    have ok : 1 ≤ n ∧ n ≤ 16 := ok.elim (fun h => h) fun ⟨_, e, _⟩ => nomatch e
    refine ⟨_, rfl, rfl, _, rfl, iteB (fun g => nomatch g) (fun _ => ?_)⟩
    refine ⟨_, rfl, _, _, _, _, rfl, rfl, SqT.of ht, rfl, rfl, _, rfl, iteB (fun g => absurd (of_decide_eq_true g) (by decide +kernel)) (fun _ => ?_)⟩
    refine ⟨_, rfl, _, _, _, _, rfl, rfl, SqT.of ht, rfl, rfl, _, rfl, iteB (fun g => absurd (of_decide_eq_true g) (by decide +kernel)) (fun _ => ?_)⟩
    refine ⟨_, rfl, _, _, _, _, rfl, rfl, SqT.of ht, rfl, rfl, _, rfl, iteB (fun g => absurd (of_decide_eq_true g) (by decide +kernel)) (fun _ => ?_)⟩
    refine ⟨_, rfl, _, _, _, _, rfl, rfl, SqT.of ht, rfl, rfl, _, rfl, iteB (fun _ => ?_) (fun g => absurd rfl (of_decide_eq_false g))⟩
    refine ⟨_, rfl, _, _, _, _, rfl, rfl, SqT.of ht, rfl, rfl, _, rfl, iteB (fun _ => ?_) (fun g => absurd rfl (of_decide_eq_false g))⟩
    exact ⟨_, rfl, _, _, _, _, rfl, rfl, SqT.of ht, rfl, fun q dq h1 h2 ne => ⟨_, _, rfl, H, q, _, rfl, Fresh.mk' h1 h2 ne, .int _, made_ok (mkBits_leaf ok.1 ok.2) fun H2 e2 hk => ⟨rfl, k _ _ hk e2⟩⟩⟩
  | items ht ki => 
    rename_i a v i w
    have ok : OkLeaf i ∧ ∀ j, w = some j → 1 ≤ j ∧ j ≤ 3 := ok.elim (fun h => h) fun ⟨_, e, _⟩ => nomatch e
    refine ⟨_, rfl, rfl, _, rfl, iteB (fun g => nomatch g) (fun _ => ?_)⟩
    refine ⟨_, rfl, _, _, _, _, rfl, rfl, SqT.of ht, rfl, rfl, _, rfl, iteB (fun g => absurd (of_decide_eq_true g) (by decide +kernel)) (fun _ => ?_)⟩
    refine ⟨_, rfl, _, _, _, _, rfl, rfl, SqT.of ht, rfl, rfl, _, rfl, iteB (fun g => absurd (of_decide_eq_true g) (by decide +kernel)) (fun _ => ?_)⟩
    refine ⟨_, rfl, _, _, _, _, rfl, rfl, SqT.of ht, rfl, rfl, _, rfl, iteB (fun _ => ?_) (fun g => absurd rfl (of_decide_eq_false g))⟩
    refine ⟨_, rfl, _, _, _, _, rfl, rfl, SqT.of ht, rfl, _, rfl, i, ki, .inl ok.1, fun v1 H1 hk1 e1 => ?_⟩
    have ht1 := e1 _ _ ht
    obtain ⟨tw, vw⟩ := oi_vt (K := K) (H := H1) w
    exact ⟨_, rfl, _, _, _, _, rfl, rfl, SqT.of ht1, rfl, fun q dq h1 h2 ne => ⟨_, _, _, rfl, H1, q, .k i, tw, rfl, Fresh.mk' h1 h2 ne, hk1, vw, made_ok (mkItems_leaf (leaf_item ok.1) ok.2) fun H2 e2 hk => ⟨rfl, k _ _ hk (e1.trans e2)⟩⟩⟩
  | call ht =>
    rename_i a x
    have ok : okN x := ok.elim (fun h => h.elim) fun ⟨_, e, o⟩ => by cases e; exact o
    refine ⟨_, rfl, rfl, _, rfl, iteB (fun g => nomatch g) (fun _ => ?_)⟩
    refine ⟨_, rfl, _, _, _, _, rfl, rfl, SqT.of ht, rfl, rfl, _, rfl, iteB (fun g => absurd (of_decide_eq_true g) (by decide +kernel)) (fun _ => ?_)⟩
    refine ⟨_, rfl, _, _, _, _, rfl, rfl, SqT.of ht, rfl, rfl, _, rfl, iteB (fun g => absurd (of_decide_eq_true g) (by decide +kernel)) (fun _ => ?_)⟩
    refine ⟨_, rfl, _, _, _, _, rfl, rfl, SqT.of ht, rfl, rfl, _, rfl, iteB (fun g => absurd (of_decide_eq_true g) (by decide +kernel)) (fun _ => ?_)⟩
    refine ⟨_, rfl, _, _, _, _, rfl, rfl, SqT.of ht, rfl, rfl, _, rfl, iteB (fun g => absurd (of_decide_eq_true g) (by decide +kernel)) (fun _ => ?_)⟩
    refine ⟨_, rfl, _, _, _, _, rfl, rfl, SqT.of ht, rfl, rfl, _, rfl, iteB (fun _ => ?_) (fun g => absurd rfl (of_decide_eq_false g))⟩
    refine ⟨_, rfl, _, _, _, _, rfl, rfl, SqT.of ht, rfl, rfl, _, rfl, iteB (fun g => absurd (of_decide_eq_true g) (by decide +kernel)) (fun _ => ?_)⟩
    exact ⟨_, rfl, _, _, _, _, rfl, rfl, SqT.of ht, rfl, fun q dq h1 h2 ne => ⟨_, _, rfl, H, q, _, rfl, Fresh.mk' h1 h2 ne, .str _, name_short ok.1, made_ok (kd := .call x) (call_ok ok.1) fun H2 e2 hk => ⟨rfl, k _ _ hk e2⟩⟩⟩
theorem ok__law_edition (T : Txt K mg A) : FnOk P w K mg base CX0 23 A.f__law_edition A.d__law_edition ["spec"] (sp__law_edition K A) := by
  refine T.F__law_edition.ok sc__law_edition (fun vs H Q E h => sp1_len h) (fun cdv A0 outer s H vs Q E hr h => ?_)
  have nd := sc__law_edition.nd
  refine ⟨_, (pss_cons (ps_set (i := 1) nd rfl (by first | exact Or.inl rfl | exact Or.inr rfl) pe_dnewK)
      (pss_cons (ps_lock (ps_for PassesOwn.never rfl (pi_keys (pe_ix ix_list (pv 0) pe_int (fun _ _ => rfl))) (pg_name (i := 2) nd rfl (by first | exact Or.inl rfl | exact Or.inr rfl)) (pss_one (ps_asg (pe_call (ok__law_kind T) (hr.mono (by decide)) (by rfl) T.mg__law_kind T.k__law_kind T.b__law_kind .nil pass0 (pa_cons (pe_dget (hu_of hr) (pe_ix ix_list (pv 0) pe_int (fun _ _ => rfl)) (pv 2) (fun _ _ => rfl)) pa_nil)) (pg_sub (pv 1) (pv 2) (set_dict (hu_of hr)))))))
      (pss_one (ps_ret (pe_make T.mk_Edition (ok_Edition___init__ T) (hr.mono (by decide)) (by rfl) T.mg_Edition T.b_Edition___init__ .nil pass0 (pa_cons (pv 1) (pa_cons (pe_ix ix_list (pv 0) pe_int (fun _ _ => rfl)) (pa_cons (pe_ix ix_list (pv 0) pe_int (fun _ _ => rfl)) pa_nil)))))))), ?_⟩
  clear nd hr
  replace h := sp1_of h
  obtain ⟨v_spec, rfl, h⟩ := h

  obtain ⟨q, p, kvs, kd, ys, r, c, rfl, hq, hp, pk, ok, nd, okn, l3, gl, c1, c5, k⟩ := h
  obtain ⟨ek, _⟩ := tb_facts (c := c) ok nd okn l3 gl c1 c5
  have nqp : q ≠ p := fun z => by rw [z, hp] at hq; cases hq
  refine fun D hD => ?_
  have nDp : D ≠ p := fun z => by rw [z, hp] at hD; cases hD
  have hp1 : (upd H D (.dK [])) p = some (.dK kvs) := by rw [upd_ne nDp.symm]; exact hp
  refine ⟨p, .dK kvs, hp1, trivial, fun od => ?_⟩
  have f0 : Frz H (upd (upd H D (.dK [])) p (.frz od (.dK kvs))) p od (.dK kvs) := ⟨upd_same, fun b o n h => by rw [upd_ne n, upd_ne (ne_of_none h hD)]; exact h⟩
  have hD0 : (upd (upd H D (.dK [])) p (.frz od (.dK kvs))) D = some (.dK []) := by rw [upd_ne nDp]; exact upd_same
  have hq0 := f0.kp _ _ nqp hq
  refine ⟨_, rfl, _, _, _, _, rfl, rfl, SqL.of hq0, rfl, p, od, rfl, .inl ⟨kvs, f0.at_, ?_⟩⟩
  generalize upd (upd H D (.dK [])) p (.frz od (.dK kvs)) = H0 at f0 hD0 hq0 ⊢
  refine for_it (walk_keys (kvs := kvs)) (fun i σ' H' => ∃ a2 kvs', σ' = [some (.ref q), some (.ref D), a2] ∧ H' D = some (.dK kvs') ∧ Paired (EntAt A H') kvs' ((tbOf kd ys).take i) ∧ Frz H H' p od (.dK kvs)) ⟨_, [], rfl, hD0, .nil, f0⟩ (fun i σ' H' _ ⟨_, _, _, _, _, f⟩ => f.at_) ?_ ?_
  · rintro i xv σ' H4 H4' hi ⟨a2, kvs', rfl, hD4, pk4, f4⟩ ⟨rfl, key, v, hkv, rfl⟩
    obtain ⟨e, he, h1, h2⟩ := pair_atE pk hkv
    have h1 : key = .inr e.1 := h1
    subst h1
    have me := List.mem_of_getElem? he
    have tkF : TupKeep H H4' := fun b xs e => f4.kp b _ (fun z => by rw [z, hp] at e; cases e) e
    have hq4 := f4.kp _ _ nqp hq
    have oke := tb_ent (.inl ok) okn e me
    have nd2 : (tbOf kd ys).names.Nodup := ek.rd.nd
    obtain ⟨v2, hv2, hl2⟩ := val_yes (P := fun v k => LfAt H v k) pk (look_nd nd2 me)
    have nw : valV kvs' (.inr e.1 : Key) = none := val_no pk4 fun z => nodup_take (ds := (tbOf kd ys).names) nd2 (i := i) (n := e.1) (by show ((tbOf kd ys).map (·.1))[i]? = _; rw [List.getElem?_map, he]; rfl) (by rw [show (tbOf kd ys).names.take i = ((tbOf kd ys).take i).map (·.1) from List.map_take.symm]; exact z)
    refine ⟨_, rfl, _, _, _, _, rfl, rfl, SqL.of hq4, rfl, _, rfl, p, v2, rfl, .inl ⟨kvs, .inr e.1, .inr ⟨od, f4.at_⟩, rfl, hv2.symm⟩, ?_⟩
    refine ⟨_, rfl, e.2, hl2.keep tkF, oke, fun v3 H5 hk5 e5 => ?_⟩
    have hD5 := e5 _ _ hD4
    have pk5 : Paired (EntAt A H5) kvs' ((tbOf kd ys).take i) := paired_impE (fun _ _ q => ⟨q.1, q.2.keep (KI.same e5)⟩) pk4
    refine ⟨_, rfl, _, rfl, D, _, rfl, .inl ⟨kvs', .inr e.1, hD5, rfl, ?_, rfl⟩, _, kvs' ++ [(.inr e.1, v3)], rfl, ?_, ?_, (f4.go e5).put hD nDp⟩
    · rw [sizeLine_eq, pair_lenE pk5, List.length_take]
      have : kvs.length = (tbOf kd ys).length := pair_lenE pk
      have : (tbOf kd ys).length ≤ 20 := ek.l20
      omega
    · rw [upd_same, putK_new _ nw]
    · rw [take_snoc he]
      exact Paired.snoc (paired_impE (fun _ _ q => ⟨q.1, q.2.keepD hD5⟩) pk5) ⟨rfl, hk5.keepD hD5⟩
  · rintro σ' H4 ⟨a2, kvs', rfl, hD4, pk4, f4⟩
    rw [pair_lenE pk, List.take_length] at pk4
    refine ⟨f4.at_, ?_⟩
    have hq4 := f4.kp _ _ nqp hq
    have s4 := f4.back hp
    have hq9 : (upd H4 p (.dK kvs)) q = _ := (upd_ne nqp).trans hq4
    have hD9 : (upd H4 p (.dK kvs)) D = some (.dK kvs') := by rw [upd_ne nDp]; exact hD4
    have pk9 : Paired (EntAt A (upd H4 p (.dK kvs))) kvs' (tbOf kd ys) := paired_impE (fun _ _ q => ⟨q.1, q.2.keepF f4.at_⟩) pk4
    generalize upd H4 p (.dK kvs) = H9 at s4 hq9 hD9 pk9 ⊢
    refine ⟨_, rfl, _, rfl, _, _, _, _, rfl, rfl, SqL.of hq9, rfl, _, rfl, _, _, _, _, rfl, rfl, SqL.of hq9, rfl, fun x dx hx hdx ne => ?_⟩
    exact ⟨_, _, _, _, rfl, H9, x, D, tbOf kd ys, kvs', _, r, c, rfl, Fresh.mk' hx hdx ne, rfl, rfl, rfl, ⟨.inl hD9, pk9⟩, hD9, ek, fun H' ea e9 _ => ⟨rfl, k x _ H' ⟨ea, ek⟩ (s4.trans e9)⟩⟩
theorem ok__law_short (T : Txt K mg A) : FnOk P w K mg base CX0 1 A.f__law_short A.d__law_short ["kind"] (sp__law_short K A) := by
  refine T.F__law_short.ok sc__law_short (fun vs H Q E h => sp1_len h) (fun cdv A0 outer s H vs Q E hr h => ?_)
  have nd := sc__law_short.nd
  refine ⟨_, (pss_cons (ps_set (i := 1) nd rfl (by first | exact Or.inl rfl | exact Or.inr rfl) (pe_op op_add (pe_op op_sub (pe_ix ix_tup (pv 0) pe_int (fun _ _ => rfl)) (pe_ix ix_tup (pv 0) pe_int (fun _ _ => rfl))) pe_int))
      (pss_cons (ps_set (i := 2) nd rfl (by first | exact Or.inl rfl | exact Or.inr rfl) (pe_op op_sub (pe_bits (pv 1)) pe_int))
      (pss_one (ps_ret (pe_ifExp (pt_cmpR op_isN (pe_ix ix_tup (pv 0) pe_int (fun _ _ => rfl)) pe_non (nomark _)) (pe_tup (pa_cons (pv 2) (pa_cons (pe_op op_sub (pe_op op_shl pe_int (pe_op op_add (pv 2) pe_int)) (pv 1)) pa_nil))) (pe_tup (pa_cons (pe_ix ix_tup (pv 0) pe_int (fun _ _ => rfl)) (pa_cons (pv 1) pa_nil)))))))), ?_⟩
  clear nd hr
  replace h := sp1_of h
  obtain ⟨v_kind, rfl, h⟩ := h

  obtain ⟨lo, hi, w, hl, ok, k⟩ := h
  cases hl with
  | num ht =>
    obtain ⟨h1, h2, h3⟩ := ok
    refine ⟨_, rfl, _, _, _, _, rfl, rfl, SqT.of ht, rfl, _, rfl, _, _, _, _, rfl, rfl, SqT.of ht, rfl, _, _, rfl, rfl, _, _, rfl, rfl, ?_⟩
    refine ⟨_, rfl, _, rfl, _, _, rfl, rfl, ?_⟩
    obtain ⟨b1, b2⟩ := bits_pos (m := hi - lo + 1) (by omega) (by omega)
    cases w with
    | none =>
      refine ⟨_, rfl, _, _, _, _, rfl, rfl, SqT.of ht, rfl, rfl, _, rfl, iteB (fun _ => ?_) (fun g => nomatch g)⟩
      exact ⟨_, rfl, _, rfl, _, _, rfl, rfl, _, _, rfl, rfl, ⟨by omega, by omega, by decide⟩, _, rfl, _, _, rfl, rfl, (by show 2 ≤ sizeLine; rw [sizeLine_eq]; decide), fun p hp => k p _ upd_same (same_new hp)⟩
    | some i =>
      refine ⟨_, rfl, _, _, _, _, rfl, rfl, SqT.of ht, rfl, rfl, _, rfl, iteB (fun g => nomatch g) (fun _ => ?_)⟩
      exact ⟨_, rfl, _, _, _, _, rfl, rfl, SqT.of ht, rfl, _, rfl, (by show 2 ≤ sizeLine; rw [sizeLine_eq]; decide), fun p hp => k p _ upd_same (same_new hp)⟩
theorem ok__law_code (T : Txt K mg A) : FnOk P w K mg base CX0 1 A.f__law_code A.d__law_code ["number", "size"] (sp__law_code K A) := by
  refine T.F__law_code.ok sc__law_code (fun vs H Q E h => sp2_len h) (fun cdv A0 outer s H vs Q E hr h => ?_)
  have nd := sc__law_code.nd
  refine ⟨_, (pss_one (ps_ret (pe_join pe_str (pe_lc (own := [("k", 2)]) (g := gName 2) (tt := tYes) (by rfl) nd (pi_range1 (by rfl) T.b_range (pa_cons (pv 1) pa_nil)) (blkOk_by (own := [("k", 2)]) (N := ["number", "size", "k"]) (sc := defScope s__law_code) (by decide +kernel)) (fun _ _ _ _ _ => pg_name (i := 2) nd rfl (by first | exact Or.inl rfl | exact Or.inr rfl)) (fun _ _ _ _ _ => pts_nil) (fun _ _ _ _ _ => (pe_ix ix_str pe_str (pe_op op_and (pe_op op_shr (pv 0) (pe_op op_sub (pe_op op_sub (pv 1) pe_int) (pv 2))) pe_int) (fun _ _ => rfl))))))), ?_⟩
  clear nd hr
  replace h := sp2_of h
  obtain ⟨v_number, v_size, rfl, h⟩ := h

  obtain ⟨n, j, rfl, rfl, j100, k⟩ := h
  refine ⟨⟨_, rfl⟩, ?_⟩
  refine ⟨_, rfl, _, rfl, by omega, by omega, fun D hD => ?_⟩
  rw [Int.toNat_natCast]
  refine lc_it (walk_range (lo := 0) (n := j)) (fun i H' => H' D = some (.lst ((((bn j n).take i).map fun c => (⟨#[c]⟩ : Str)).map V.str)) ∧ Same H H') ⟨upd_same, same_new hD⟩ (fun _ _ _ _ => trivial) ?_ ?_
  · rintro i xv H1 H2 hi ⟨hD1, e1⟩ ⟨rfl, rfl⟩
    refine ⟨rfl, ?_⟩
    have hl : i < (bn j n).length := by rw [bn_len]; exact hi
    refine ⟨_, rfl, _, rfl, _, _, rfl, rfl, _, rfl, _, _, rfl, rfl, _, _, rfl, rfl, by omega, _, _, rfl, rfl, _, _, _, rfl, rfl, by show (Str.ofString _).cps.size ≤ sizeLine; rw [sizeLine_eq]; decide +kernel, digit_at hi, ?_⟩
    refine ⟨_, hD1, by rw [sizeLine_eq, List.length_map, List.length_map, List.length_take, bn_len]; omega, ?_, same_put hD e1⟩
    rw [upd_same, List.take_succ, bn_get j n i hi]
    simp
  · rintro H1 ⟨hD1, e1⟩
    rw [List.take_of_length_le (by rw [bn_len]; exact Nat.le_refl _)] at hD1
    refine ⟨_, D, (bn j n).map fun c => (⟨#[c]⟩ : Str), rfl, rfl, .inl (SqL.of hD1), ?_, ?_⟩
    · rw [sum_signs, bn_len]
      have : (Str.ofString "").length = 0 := by decide +kernel
      rw [this]
      omega
    · rw [join_signs _ tl_empty]
      exact k H1 e1
theorem ok__law_number_bits (T : Txt K mg A) : FnOk P w K mg base CX0 2 A.f__law_number_bits A.d__law_number_bits ["kind", "value"] (sp__law_number_bits K A) := by
  refine T.F__law_number_bits.ok sc__law_number_bits (fun vs H Q E h => sp2_len h) (fun cdv A0 outer s H vs Q E hr h => ?_)
  have nd := sc__law_number_bits.nd
  refine ⟨_, (pss_cons (ps_asg (pe_call (ok__law_short T) (hr.mono (by decide)) (by rfl) T.mg__law_short T.k__law_short T.b__law_short .nil pass0 (pa_cons (pv 0) pa_nil)) (pg_tup (by rfl) (pgs_cons (pg_name (i := 2) nd rfl (by first | exact Or.inl rfl | exact Or.inr rfl)) (pgs_cons (pg_name (i := 3) nd rfl (by first | exact Or.inl rfl | exact Or.inr rfl)) pgs_nil))))
      (pss_cons (ps_set (i := 4) nd rfl (by first | exact Or.inl rfl | exact Or.inr rfl) (pe_op op_sub (pv 1) (pe_ix ix_tup (pv 0) pe_int (fun _ _ => rfl))))
      (pss_one (ps_ret (pe_ifExp (pt_cmpR op_lt (pv 4) (pv 3) (nomark _)) (pe_call (ok__law_code T) (hr.mono (by decide)) (by rfl) T.mg__law_code T.k__law_code T.b__law_code .nil pass0 (pa_cons (pv 4) (pa_cons (pv 2) pa_nil))) (pe_call (ok__law_code T) (hr.mono (by decide)) (by rfl) T.mg__law_code T.k__law_code T.b__law_code .nil pass0 (pa_cons (pe_op op_add (pv 4) (pv 3)) (pa_cons (pe_op op_add (pv 2) pe_int) pa_nil)))))))), ?_⟩
  clear nd hr
  replace h := sp2_of h
  obtain ⟨v_kind, v_value, rfl, h⟩ := h

  obtain ⟨lo, hi, w, x, hl, ok, rfl, x1, x2, k⟩ := h
  obtain ⟨L, S, M, z⟩ := sz_of ok
  have hl0 := hl
  cases hl with
  | num ht =>
    refine ⟨_, rfl, _, rfl, lo, hi, w, hl0, ok, fun p H1 hp e1 => ?_⟩
    refine ⟨p, _, rfl, SqT.of hp, rfl, _, _, rfl, _, _, rfl, rfl, ?_⟩
    have ht1 := e1 _ _ ht
    refine ⟨_, rfl, _, rfl, _, _, _, _, rfl, rfl, SqT.of ht1, rfl, _, _, rfl, rfl, ?_⟩
    have hm := z.m
    have hs := z.s
    have l60 := z.l60
    refine ⟨_, rfl, _, rfl, _, _, rfl, rfl, _, rfl, iteB (fun g => ?_) (fun g => ?_)⟩
    · have g := of_decide_eq_true g
      refine ⟨_, rfl, _, rfl, _, _, rfl, (x - lo).toNat, L, by rw [Int.toNat_of_nonneg (by omega)], by rw [hs], by omega, fun H2 e2 => ?_⟩
      have := k H2 (e1.trans e2)
      rw [nbS, if_pos g, hs, Int.toNat_natCast] at this
      exact this
    · have g := of_decide_eq_false g
      refine ⟨_, rfl, _, rfl, _, _, rfl, rfl, _, rfl, _, _, rfl, rfl, _, _, rfl, (x - lo + (szN lo hi w).2).toNat, L + 1, by rw [Int.toNat_of_nonneg (by rw [hs]; show 0 ≤ x - lo + ((S : Nat) : Int); omega)], by rw [hs]; rfl, by omega, fun H2 e2 => ?_⟩
      have := k H2 (e1.trans e2)
      rw [nbS, if_neg g, show ((szN lo hi w).1 + 1).toNat = L + 1 from by rw [hs]; show (((L : Nat) : Int) + 1).toNat = L + 1; omega] at this
      exact this
theorem ok__law_number (T : Txt K mg A) : FnOk P w K mg base CX0 3 A.f__law_number A.d__law_number ["state"] (sp__law_number K A) := by
  refine T.F__law_number.ok sc__law_number (fun vs H Q E h => sp1_len h) (fun cdv A0 outer s H vs Q E hr h => ?_)
  have nd := sc__law_number.nd
  refine ⟨_, (pss_cons (ps_set (i := 1) nd rfl (by first | exact Or.inl rfl | exact Or.inr rfl) (pe_op op_sub (pe_call (ok__law_pull T) (hr.mono (by decide)) (by rfl) T.mg__law_pull T.k__law_pull T.b__law_pull .nil pass0 (pa_cons (pv 0) (pa_cons pe_int pa_nil))) pe_int))
      (pss_cons (ps_set (i := 2) nd rfl (by first | exact Or.inl rfl | exact Or.inr rfl) (pe_op op_add pe_int (pe_call (ok__law_pull T) (hr.mono (by decide)) (by rfl) T.mg__law_pull T.k__law_pull T.b__law_pull .nil pass0 (pa_cons (pv 0) (pa_cons pe_int pa_nil)))))
      (pss_cons (ps_set (i := 3) nd rfl (by first | exact Or.inl rfl | exact Or.inr rfl) (pe_call (ok__law_pull T) (hr.mono (by decide)) (by rfl) T.mg__law_pull T.k__law_pull T.b__law_pull .nil pass0 (pa_cons (pv 0) (pa_cons pe_int pa_nil))))
      (Evl.pss_cut (ps_if (pt_cmpR op_eq (pv 3) pe_int (nomark _)) (pss_one (ps_set (i := 1) nd rfl (by first | exact Or.inl rfl | exact Or.inr rfl) (pe_op op_sub (pe_call (ok__law_big T) (hr.mono (by decide)) (by rfl) T.mg__law_big T.k__law_big T.b__law_big .nil pass0 (pa_cons (pv 0) (pa_cons (pe_op op_mul pe_int (pe_op op_pow pe_int pe_int)) pa_nil))) (pe_op op_pow pe_int pe_int)))) (pss_one (ps_if (pt_cmpR op_lt (pv 3) pe_int (nomark _)) (pss_one (ps_set (i := 2) nd rfl (by first | exact Or.inl rfl | exact Or.inr rfl) (pe_op op_add pe_int (pe_call (ok__law_big T) (hr.mono (by decide)) (by rfl) T.mg__law_big T.k__law_big T.b__law_big .nil pass0 (pa_cons (pv 0) (pa_cons (pe_ifExp (pt_cmpR op_eq (pv 3) pe_int (nomark _)) pe_int (pe_op op_sub (pe_op op_pow pe_int pe_int) pe_int)) pa_nil)))))) pss_nil)))
      (pss_cons (ps_set (i := 4) nd rfl (by first | exact Or.inl rfl | exact Or.inr rfl) (pe_callB (call_min2 rfl) (by rfl) T.b_min (by decide +kernel) (pa_cons pe_int (pa_cons (pe_op op_add (pe_bits (pe_op op_sub (pv 2) pe_int)) (pe_op op_fdivW (pe_call (ok__law_pull T) (hr.mono (by decide)) (by rfl) T.mg__law_pull T.k__law_pull T.b__law_pull .nil pass0 (pa_cons (pv 0) (pa_cons pe_int pa_nil))) pe_int)) pa_nil))))
      (pss_one (ps_ret (pe_tup (pa_cons pe_str (pa_cons (pv 1) (pa_cons (pe_op op_sub (pe_op op_add (pv 1) (pv 2)) pe_int) (pa_cons (pe_ifExp (pt_cmpR op_gt (pv 3) pe_int (nomark _)) (pv 4) pe_non) pa_nil)))))))))))), ?_⟩
  clear nd hr
  replace h := sp1_of h
  obtain ⟨v_state, rfl, h⟩ := h

  obtain ⟨d, rfl, r, k⟩ := h
  refine ⟨_, rfl, _, _, rfl, d, _, rfl, rfl, r, by decide, small_log (by decide) (by decide), fun v1 H1 a0 a1 e1 r1 => ⟨_, _, rfl, rfl, ?_⟩⟩
  refine ⟨_, rfl, _, _, rfl, d, _, rfl, rfl, r1, by decide, small_log (by decide) (by decide), fun v2 H2 b0 b1 e2 r2 => ⟨_, _, rfl, rfl, ?_⟩⟩
  refine ⟨_, rfl, _, _, rfl, d, _, rfl, rfl, r2, by decide, small_log (by decide) (by decide), fun v3 H3 c0 c1 e3 r3 => ?_⟩
  have e03 := e1.trans (e2.trans e3)
  refine ⟨fun σ' H' => ∃ (low many : Int), σ' = [some (.ref d.p), some (.int low), some (.int many), some (.int v3), none] ∧ 2 ≤ many ∧ many ≤ 2 ^ 60 ∧ Chg d H H' ∧ Rng d H', ?_, ?_⟩
  · refine ⟨_, rfl, rfl, _, rfl, iteB (fun g => ?_) (fun g => ?_)⟩
    · refine ⟨_, rfl, _, _, rfl, rfl, ⟨by decide, by decide, by decide⟩, _, _, rfl, rfl, .inl ⟨by decide, by decide⟩, _, _, rfl, d, _, rfl, rfl, r3, by decide +kernel, by decide +kernel, fun v4 H4 _ _ e4 r4 => ?_⟩
      exact ⟨_, _, rfl, rfl, ⟨by decide, by decide, by decide⟩, _, _, rfl, rfl, _, _, rfl, by omega, by omega, e03.trans e4, r4⟩
    · refine ⟨_, rfl, _, _, rfl, rfl, _, rfl, iteB (fun g2 => ?_) (fun g2 => ?_)⟩
      · refine ⟨_, rfl, _, rfl, rfl, _, rfl, iteB (fun _ => ?_) (fun _ => ?_)⟩
        · exact ⟨_, _, rfl, d, _, rfl, rfl, r3, by decide, small_log (by decide) (by decide), fun v4 H4 d0 d1 e4 r4 => ⟨_, _, rfl, rfl, _, _, rfl, by omega, by omega, e03.trans e4, r4⟩⟩
        · exact ⟨_, _, rfl, rfl, ⟨by decide, by decide, by decide⟩, _, _, rfl, rfl, _, _, rfl, d, _, rfl, rfl, r3, by decide +kernel, by decide +kernel, fun v4 H4 d0 d1 e4 r4 => ⟨_, _, rfl, rfl, _, _, rfl, by omega, by (have d2 : v4 < 1152921504606846975 := d1); omega, e03.trans e4, r4⟩⟩
      · exact ⟨_, _, rfl, by omega, by omega, e03, r3⟩
  rintro σ' H' ⟨low, many, rfl, m2, m60, e4, r4⟩
  refine ⟨_, rfl, _, _, rfl, rfl, _, rfl, _, rfl, _, _, rfl, d, _, rfl, rfl, r4, by decide, small_log (by decide) (by decide), fun v5 H5 f0 f1 e5 r5 => ⟨_, _, rfl, rfl, ⟨by decide, small_log (by decide) (by decide)⟩, _, _, rfl, rfl, _, _, rfl, ?_⟩⟩
  rw [min3_eq]
  obtain ⟨w1, w2, w3⟩ := wide_ok (m := many - 1) (t := v5 / 2) (by omega) (by omega) (by omega)
  generalize min 60 ((Builtin.Int.intBits (many - 1) : Int) + v5 / 2) = sz at w1 w2 w3 ⊢
  have ok : ∀ w : Option Int, (w = none ∨ w = some sz) → OkNum low (low + many - 1) w := fun w hw => ⟨by omega, by omega, fun i hi => by
    rcases hw with rfl | rfl
    · cases hi
    · cases hi
      exact ⟨w1, w2, by rw [show low + many - 1 - low = many - 1 from by omega]; exact w3⟩⟩
  have e45 := e4.trans e5
  refine ⟨_, rfl, _, rfl, _, rfl, _, _, rfl, rfl, _, _, rfl, rfl, _, rfl, _, _, rfl, rfl, _, rfl, iteB (fun g => ?_) (fun g => ?_)⟩
  · exact ⟨_, rfl, (by show 4 ≤ sizeLine; rw [sizeLine_eq]; decide), fun p hp => k (.ref p) low (low + many - 1) (some sz) _ (.num upd_same) (ok _ (.inr rfl)) (e45.trans (Chg.new hp)) (r5.new hp)⟩
  · exact ⟨(by show 4 ≤ sizeLine; rw [sizeLine_eq]; decide), fun p hp => k (.ref p) low (low + many - 1) none _ (.num upd_same) (ok _ (.inl rfl)) (e45.trans (Chg.new hp)) (r5.new hp)⟩
theorem ok__law_bent_number (T : Txt K mg A) : FnOk P w K mg base CX0 2 A.f__law_bent_number A.d__law_bent_number ["state", "kind"] (sp__law_bent_number K A) := by
  refine T.F__law_bent_number.ok sc__law_bent_number (fun vs H Q E h => sp2_len h) (fun cdv A0 outer s H vs Q E hr h => ?_)
  have nd := sc__law_bent_number.nd
  refine ⟨_, (pss_cons (ps_asg (pv 1) (pg_tup (by rfl) (pgs_cons (pg_name (i := 2) nd rfl (by first | exact Or.inl rfl | exact Or.inr rfl)) (pgs_cons (pg_name (i := 3) nd rfl (by first | exact Or.inl rfl | exact Or.inr rfl)) (pgs_cons (pg_name (i := 4) nd rfl (by first | exact Or.inl rfl | exact Or.inr rfl)) (pgs_cons (pg_name (i := 5) nd rfl (by first | exact Or.inl rfl | exact Or.inr rfl)) pgs_nil))))))
      (pss_cons (ps_set (i := 6) nd rfl (by first | exact Or.inl rfl | exact Or.inr rfl) (pe_call (ok__law_pull T) (hr.mono (by decide)) (by rfl) T.mg__law_pull T.k__law_pull T.b__law_pull .nil pass0 (pa_cons (pv 0) (pa_cons pe_int pa_nil))))
      (Evl.pss_cut (ps_if (pt_cmpR op_eq (pv 6) pe_int (nomark _)) (pss_one (ps_set (i := 3) nd rfl (by first | exact Or.inl rfl | exact Or.inr rfl) (pe_op op_sub (pe_op op_add (pv 3) pe_int) (pe_op op_mul pe_int (pe_call (ok__law_pull T) (hr.mono (by decide)) (by rfl) T.mg__law_pull T.k__law_pull T.b__law_pull .nil pass0 (pa_cons (pv 0) (pa_cons pe_int pa_nil))))))) pss_nil)
      (Evl.pss_cut (ps_if (pt_cmpR op_lt (pv 6) pe_int (nomark _)) (pss_one (ps_set (i := 4) nd rfl (by first | exact Or.inl rfl | exact Or.inr rfl) (pe_op op_add (pv 4) pe_int))) pss_nil)
      (Evl.pss_cut (ps_if (pt_cmpR op_ge (pe_op op_sub (pv 4) (pv 3)) (pe_op op_pow pe_int pe_int) (nomark _)) (pss_one (ps_set (i := 4) nd rfl (by first | exact Or.inl rfl | exact Or.inr rfl) (pe_op op_add (pv 3) pe_int))) pss_nil)
      (pss_cons (ps_set (i := 7) nd rfl (by first | exact Or.inl rfl | exact Or.inr rfl) (pe_bits (pe_op op_sub (pv 4) (pv 3))))
      (Evl.pss_cut (ps_if (pt_cmpR op_eq (pv 6) pe_int (nomark _)) (pss_one (ps_set (i := 5) nd rfl (by first | exact Or.inl rfl | exact Or.inr rfl) (pe_ifExp (pt_cmpR op_isN (pv 5) pe_non (nomark _)) (pv 7) (pe_callB (call_min2 rfl) (by rfl) T.b_min (by decide +kernel) (pa_cons pe_int (pa_cons (pe_op op_add (pv 5) pe_int) pa_nil)))))) (pss_one (ps_if (pt_cmpR op_notN (pv 5) pe_non (nomark _)) (pss_one (ps_set (i := 5) nd rfl (by first | exact Or.inl rfl | exact Or.inr rfl) (pe_ifExp (pt_cmpR op_eq (pv 6) pe_int (nomark _)) pe_non (pe_callB (call_max2 rfl) (by rfl) T.b_max (by decide +kernel) (pa_cons (pv 5) (pa_cons (pv 7) pa_nil)))))) pss_nil)))
      (pss_one (ps_ret (pe_tup (pa_cons (pv 2) (pa_cons (pv 3) (pa_cons (pv 4) (pa_cons (pv 5) pa_nil)))))))))))))), ?_⟩
  clear nd hr
  replace h := sp2_of h
  obtain ⟨v_state, v_kind, rfl, h⟩ := h

  obtain ⟨d, lo, hi, w, rfl, r, hl, ok, k⟩ := h
  obtain ⟨o1, o2, o3⟩ := ok
  cases hl with
  | num ht =>
  rename_i a
  refine ⟨_, rfl, a, _, rfl, SqT.of ht, rfl, _, _, rfl, _, _, rfl, _, _, rfl, _, _, rfl, rfl, ?_⟩
  refine ⟨_, rfl, _, _, rfl, d, _, rfl, rfl, r, by decide, small_log (by decide) (by decide), fun v1 H1 a0 a1 e1 r1 => ?_⟩
  refine ⟨fun σ' H' => ∃ low : Int, σ' = [some (.ref d.p), some (.ref a), some (.str "number"), some (.int low), some (.int hi), some (oi w), some (.int v1), none] ∧ lo - 1 ≤ low ∧ low ≤ lo + 1 ∧ (v1 ≠ 0 → low = lo) ∧ Chg d H H' ∧ Rng d H', ?_, ?_⟩
  · refine ⟨_, rfl, rfl, _, rfl, iteB (fun g => ?_) (fun g => ?_)⟩
    · have g := V.int.inj (of_decide_eq_true g)
      exact ⟨_, rfl, _, _, rfl, rfl, _, rfl, _, _, rfl, d, _, rfl, rfl, r1, by decide, small_log (by decide) (by decide), fun v2 H2 b0 b1 e2 r2 => ⟨_, _, rfl, rfl, .inl ⟨by decide, by decide⟩, _, _, rfl, rfl, _, rfl, by omega, by omega, fun z => absurd g z, e1.trans e2, r2⟩⟩
    · exact ⟨_, rfl, by omega, by omega, fun _ => rfl, e1, r1⟩
  rintro σ' H3 ⟨low, rfl, q1, q2, q3, e3, r3⟩
  refine ⟨fun σ' H' => ∃ high : Int, σ' = [some (.ref d.p), some (.ref a), some (.str "number"), some (.int low), some (.int high), some (oi w), some (.int v1), none] ∧ low < high ∧ (3 ≤ v1 → low = lo ∧ high = hi) ∧ H' = H3, ?_, ?_⟩
  · refine ⟨_, rfl, _, _, rfl, rfl, _, rfl, iteB (fun g => ?_) (fun g => ?_)⟩
    · have g := of_decide_eq_true g
      exact ⟨_, rfl, _, _, rfl, rfl, _, rfl, by omega, fun z => by omega, rfl⟩
    · have g := of_decide_eq_false g
      have := q3 (by omega)
      exact ⟨_, rfl, by omega, fun z => ⟨this, rfl⟩, rfl⟩
  rintro σ' H4 ⟨high, rfl, p1, p2, rfl⟩
  refine ⟨fun σ' H' => ∃ high : Int, σ' = [some (.ref d.p), some (.ref a), some (.str "number"), some (.int low), some (.int high), some (oi w), some (.int v1), none] ∧ low < high ∧ high - low < 2 ^ 60 ∧ (3 ≤ v1 → low = lo ∧ high = hi) ∧ H' = H4, ?_, ?_⟩
  · refine ⟨_, rfl, _, rfl, _, _, rfl, rfl, _, _, rfl, rfl, ⟨by decide, by decide, by decide⟩, _, _, rfl, rfl, _, rfl, iteB (fun g => ?_) (fun g => ?_)⟩
    · have g : (2 : Int) ^ 60 ≤ high - low := of_decide_eq_true g
      exact ⟨_, rfl, _, _, rfl, rfl, _, rfl, by omega, by omega, fun z => by have := p2 z; omega, rfl⟩
    · have g : ¬ (2 : Int) ^ 60 ≤ high - low := of_decide_eq_false g
      exact ⟨_, rfl, p1, by omega, p2, rfl⟩
  rintro σ' H5 ⟨high, rfl, p3, p4, p5, rfl⟩
  obtain ⟨f1, f2, f3, _⟩ := ib_facts (m := high - low) (by omega) p4
  refine ⟨_, rfl, _, rfl, _, _, rfl, rfl, _, rfl, ?_⟩
  refine ⟨fun σ' H' => ∃ w2 : Option Int, σ' = [some (.ref d.p), some (.ref a), some (.str "number"), some (.int low), some (.int high), some (oi w2), some (.int v1), some (.int (Builtin.Int.intBits (high - low) : Int))] ∧ OkNum low high w2 ∧ H' = H5, ?_, ?_⟩
  · generalize Builtin.Int.intBits (high - low) = b at f1 f2 f3 ⊢
    have f4 : high - low < 2 ^ ((b : Nat) : Int).toNat := f3
    refine ⟨_, rfl, rfl, _, rfl, iteB (fun g => ?_) (fun g => ?_)⟩
    · have g := V.int.inj (of_decide_eq_true g)
      obtain ⟨z1, z2⟩ := p5 (by omega)
      cases w with
      | none =>
        refine ⟨_, rfl, rfl, _, rfl, iteB (fun _ => ?_) (fun g => nomatch g)⟩
        exact ⟨_, rfl, some ((b : Nat) : Int), rfl, ⟨p3, p4, fun i hi => by cases hi; exact ⟨by omega, by omega, f4⟩⟩, rfl⟩
      | some i =>
        obtain ⟨i1, i2, i3⟩ := o3 i rfl
        refine ⟨_, rfl, rfl, _, rfl, iteB (fun g => nomatch g) (fun _ => ?_)⟩
        refine ⟨_, rfl, _, _, rfl, rfl, _, _, rfl, ?_⟩
        rw [min3_eq]
        exact ⟨some (min 60 (i + 1)), rfl, ⟨p3, p4, fun j hj => by cases hj; exact ⟨by omega, by omega, by rw [z1, z2]; exact wide_up i3 (by omega)⟩⟩, rfl⟩
    · have g : v1 ≠ 4 := fun z => of_decide_eq_false g (by rw [z])
      cases w with
      | none =>
        refine ⟨_, rfl, rfl, _, rfl, iteB (fun g => nomatch g) (fun _ => ?_)⟩
        exact ⟨none, rfl, ⟨p3, p4, fun i hi => nomatch hi⟩, rfl⟩
      | some i =>
        obtain ⟨i1, i2, i3⟩ := o3 i rfl
        refine ⟨_, rfl, rfl, _, rfl, iteB (fun _ => ?_) (fun g => nomatch g)⟩
        refine ⟨_, rfl, rfl, _, rfl, iteB (fun g3 => ?_) (fun g3 => ?_)⟩
        · exact ⟨none, rfl, ⟨p3, p4, fun i hi => nomatch hi⟩, rfl⟩
        · refine ⟨_, rfl, _, rfl, _, _, rfl, ?_⟩
          rw [max2_eq]
          exact ⟨some (max i ((b : Nat) : Int)), rfl, ⟨p3, p4, fun j hj => by cases hj; exact ⟨by omega, by omega, wide_up f4 (by omega)⟩⟩, rfl⟩
  rintro σ' H6 ⟨w2, rfl, ok, rfl⟩
  exact ⟨_, rfl, _, rfl, _, rfl, _, rfl, (by show 4 ≤ sizeLine; rw [sizeLine_eq]; decide), fun p hp => k (.ref p) low high w2 _ (.num upd_same) ok (e3.trans (Chg.new hp)) (r3.new hp)⟩
theorem ok__law_leaf (T : Txt K mg A) : FnOk P w K mg base CX0 4 A.f__law_leaf A.d__law_leaf ["state"] (sp__law_leaf K A) := by
  refine T.F__law_leaf.ok sc__law_leaf (fun vs H Q E h => sp1_len h) (fun cdv A0 outer s H vs Q E hr h => ?_)
  have nd := sc__law_leaf.nd
  refine ⟨_, (pss_cons (ps_set (i := 1) nd rfl (by first | exact Or.inl rfl | exact Or.inr rfl) (pe_call (ok__law_pull T) (hr.mono (by decide)) (by rfl) T.mg__law_pull T.k__law_pull T.b__law_pull .nil pass0 (pa_cons (pv 0) (pa_cons pe_int pa_nil))))
      (Evl.pss_cut (ps_set (i := 2) nd rfl (by first | exact Or.inl rfl | exact Or.inr rfl) (pe_ifExp (pt_cmpR op_eq (pv 1) pe_int (nomark _)) (pe_tup (pa_cons pe_str (pa_cons (pe_op op_add pe_int (pe_call (ok__law_pull T) (hr.mono (by decide)) (by rfl) T.mg__law_pull T.k__law_pull T.b__law_pull .nil pass0 (pa_cons (pv 0) (pa_cons pe_int pa_nil)))) pa_nil))) (pe_call (ok__law_number T) (hr.mono (by decide)) (by rfl) T.mg__law_number T.k__law_number T.b__law_number .nil pass0 (pa_cons (pv 0) pa_nil))))
      (pss_cons (ps_if (pt_cmpR op_gt (pv 1) pe_int (nomark _)) (pss_one (ps_ret (pv 2))) pss_nil)
      (pss_one (ps_ret (pe_tup (pa_cons pe_str (pa_cons (pv 2) (pa_cons (pe_ix ix_list (pe_lst (pa_cons pe_non (pa_cons pe_int (pa_cons pe_int (pa_cons pe_int pa_nil))))) (pe_call (ok__law_pull T) (hr.mono (by decide)) (by rfl) T.mg__law_pull T.k__law_pull T.b__law_pull .nil pass0 (pa_cons (pv 0) (pa_cons pe_int pa_nil))) (fun _ _ => rfl)) pa_nil))))))))), ?_⟩
  clear nd hr
  replace h := sp1_of h
  obtain ⟨v_state, rfl, h⟩ := h

  obtain ⟨d, rfl, r, k⟩ := h
  refine ⟨_, rfl, _, _, rfl, d, _, rfl, rfl, r, by decide, small_log (by decide) (by decide), fun v1 H1 a0 a1 e1 r1 => ?_⟩
  refine ⟨fun σ' H' => ∃ (v : V) (kd : Kd), σ' = [some (.ref d.p), some (.int v1), some v] ∧ LfAt H' v kd ∧ OkLeaf kd ∧ Chg d H H' ∧ Rng d H', ?_, ?_⟩
  · refine ⟨_, rfl, rfl, _, rfl, iteB (fun g => ?_) (fun g => ?_)⟩
    · refine ⟨_, rfl, _, _, rfl, d, _, rfl, rfl, r1, by decide, small_log (by decide) (by decide), fun v2 H2 b0 b1 e2 r2 => ⟨_, _, rfl, rfl, (by show 2 ≤ sizeLine; rw [sizeLine_eq]; decide), fun p hp => ⟨_, .bits (1 + v2), rfl, .bits upd_same, ⟨by omega, by omega⟩, (e1.trans e2).trans (Chg.new hp), r2.new hp⟩⟩⟩
    · exact ⟨_, rfl, _, rfl, d, rfl, r1, fun a lo hi w H' hl ok e2 r2 => ⟨_, _, rfl, hl, ok, e1.trans e2, r2⟩⟩
  rintro σ' H3 ⟨v, kd, rfl, hl, ok, e3, r3⟩
  refine ⟨_, rfl, _, _, rfl, rfl, _, rfl, iteB (fun _ => ?_) (fun _ => ?_)⟩
  · exact ⟨_, rfl, k _ _ _ hl (okL_of ok) e3 r3⟩
  · refine ⟨_, rfl, (by show 4 ≤ sizeLine; rw [sizeLine_eq]; decide), fun l hl0 => ?_⟩
    refine ⟨_, rfl, _, _, rfl, d, _, rfl, rfl, r3.new hl0, by decide, small_log (by decide) (by decide), fun v4 H4 a4 b4 e4 r4 => ?_⟩
    obtain ⟨w, hw, w3⟩ := four_at a4 b4
    have nlp : l ≠ d.p := r3.nep hl0
    have hl4 := e4 _ _ nlp (upd_same (o := .lst [V.non, .int 1, .int 2, .int 3]))
    have e34 := (Chg.new (d := d) (o := .lst [V.non, .int 1, .int 2, .int 3]) hl0).trans e4
    refine ⟨_, _, _, _, rfl, rfl, SqL.of hl4, hw, (by show 3 ≤ sizeLine; rw [sizeLine_eq]; decide), fun p hp => ?_⟩
    exact k _ (.items kd w) _ (.items upd_same (hl.keep ((TupKeep.chg r3 e34).trans (TupKeep.new hp)))) ⟨ok, w3⟩ ((e3.trans e34).trans (Chg.new hp)) (r4.new hp)
theorem ok__law_bent_leaf (T : Txt K mg A) : FnOk P w K mg base CX0 5 A.f__law_bent_leaf A.d__law_bent_leaf ["state", "kind"] (sp__law_bent_leaf K A) := by
  refine T.F__law_bent_leaf.ok sc__law_bent_leaf (fun vs H Q E h => sp2_len h) (fun cdv A0 outer s H vs Q E hr h => ?_)
  have nd := sc__law_bent_leaf.nd
  refine ⟨_, (pss_cons (ps_set (i := 2) nd rfl (by first | exact Or.inl rfl | exact Or.inr rfl) (pe_call (ok__law_pull T) (hr.mono (by decide)) (by rfl) T.mg__law_pull T.k__law_pull T.b__law_pull .nil pass0 (pa_cons (pv 0) (pa_cons pe_int pa_nil))))
      (pss_cons (ps_if (pt_cmpR op_eq (pv 2) pe_int (nomark _)) (pss_one (ps_ret (pe_call (ok__law_leaf T) (hr.mono (by decide)) (by rfl) T.mg__law_leaf T.k__law_leaf T.b__law_leaf .nil pass0 (pa_cons (pv 0) pa_nil)))) pss_nil)
      (pss_cons (ps_if (PW.pt (pw_and (pt_cmpR op_eq (pe_ix ix_tup (pv 1) pe_int (fun _ _ => rfl)) pe_str (nomark _)) (pw_and1 (pt_cmpR op_eq (pv 2) pe_int (nomark _))))) (pss_one (ps_ret (pe_tup (pa_cons pe_str (pa_cons (pe_ix ix_tup (pv 1) pe_int (fun _ _ => rfl)) (pa_cons (pe_ix ix_list (pe_lst (pa_cons pe_non (pa_cons pe_int (pa_cons pe_int (pa_cons pe_int pa_nil))))) (pe_call (ok__law_pull T) (hr.mono (by decide)) (by rfl) T.mg__law_pull T.k__law_pull T.b__law_pull .nil pass0 (pa_cons (pv 0) (pa_cons pe_int pa_nil))) (fun _ _ => rfl)) pa_nil)))))) pss_nil)
      (pss_cons (ps_if (pt_cmpR op_eq (pe_ix ix_tup (pv 1) pe_int (fun _ _ => rfl)) pe_str (nomark _)) (pss_one (ps_ret (pe_ifExp (pt_cmpR op_eq (pe_ix ix_tup (pe_ix ix_tup (pv 1) pe_int (fun _ _ => rfl)) pe_int (fun _ _ => rfl)) pe_str (nomark _)) (pe_tup (pa_cons pe_str (pa_cons (pe_call (ok__law_bent_number T) (hr.mono (by decide)) (by rfl) T.mg__law_bent_number T.k__law_bent_number T.b__law_bent_number .nil pass0 (pa_cons (pv 0) (pa_cons (pe_ix ix_tup (pv 1) pe_int (fun _ _ => rfl)) pa_nil))) (pa_cons (pe_ix ix_tup (pv 1) pe_int (fun _ _ => rfl)) pa_nil)))) (pv 1)))) pss_nil)
      (pss_cons (ps_if (pt_cmpR op_eq (pe_ix ix_tup (pv 1) pe_int (fun _ _ => rfl)) pe_str (nomark _)) (pss_one (ps_ret (pe_call (ok__law_bent_number T) (hr.mono (by decide)) (by rfl) T.mg__law_bent_number T.k__law_bent_number T.b__law_bent_number .nil pass0 (pa_cons (pv 0) (pa_cons (pv 1) pa_nil))))) pss_nil)
      (pss_one (ps_ret (pe_ifExp (pt_cmpR op_eq (pv 2) pe_int (nomark _)) (pe_tup (pa_cons pe_str (pa_cons (pe_op op_add pe_int (pe_call (ok__law_pull T) (hr.mono (by decide)) (by rfl) T.mg__law_pull T.k__law_pull T.b__law_pull .nil pass0 (pa_cons (pv 0) (pa_cons pe_int pa_nil)))) pa_nil))) (pv 1))))))))), ?_⟩
  clear nd hr
  replace h := sp2_of h
  obtain ⟨v_state, v_kind, rfl, h⟩ := h

  obtain ⟨d, kd, rfl, r, hl, ok, k⟩ := h
  have hl00 := hl
  refine ⟨_, rfl, _, _, rfl, d, _, rfl, rfl, r, by decide, small_log (by decide) (by decide), fun v1 H1 a0 a1 e1 r1 => ?_⟩
  have hl1 := hl.keep (TupKeep.chg r e1)
  refine ⟨_, rfl, rfl, _, rfl, iteB (fun g => ?_) (fun g => ?_)⟩
  · exact ⟨_, rfl, _, rfl, d, rfl, r1, fun a kd2 H' h2 ok2 e2 r2 => k _ _ _ h2 ok2 (e1.trans e2) r2⟩
  cases hl with
  | items ht ki =>
    rename_i a v0 i w
    have ht1 := TupKeep.chg r e1 _ _ ht
    have ki1 := ki.keep (TupKeep.chg r e1)
    refine ⟨_, rfl, _, _, _, _, rfl, rfl, SqT.of ht1, rfl, rfl, _, rfl, iteB (fun _ => ?_) (fun g => absurd rfl (of_decide_eq_false g))⟩
    refine ⟨_, rfl, rfl, _, rfl, iteB (fun g2 => ?_) (fun g2 => ?_)⟩
    · refine ⟨_, rfl, _, _, _, _, rfl, rfl, SqT.of ht1, rfl, (by show 4 ≤ sizeLine; rw [sizeLine_eq]; decide), fun l hl0 => ?_⟩
      refine ⟨_, rfl, _, _, rfl, d, _, rfl, rfl, r1.new hl0, by decide, small_log (by decide) (by decide), fun v4 H4 a4 b4 e4 r4 => ?_⟩
      obtain ⟨w, hw, w3⟩ := four_at a4 b4
      have nlp : l ≠ d.p := r1.nep hl0
      have hl4 := e4 _ _ nlp (upd_same (o := .lst [V.non, .int 1, .int 2, .int 3]))
      have e34 := (Chg.new (d := d) (o := .lst [V.non, .int 1, .int 2, .int 3]) hl0).trans e4
      refine ⟨_, _, _, _, rfl, rfl, SqL.of hl4, hw, (by show 3 ≤ sizeLine; rw [sizeLine_eq]; decide), fun p hp => ?_⟩
      exact k _ (.items i w) _ (.items upd_same (ki1.keep ((TupKeep.chg r1 e34).trans (TupKeep.new hp)))) ⟨ok.1, w3⟩ ((e1.trans e34).trans (Chg.new hp)) (r4.new hp)
    · refine ⟨_, rfl, _, _, _, _, rfl, rfl, SqT.of ht1, rfl, rfl, _, rfl, iteB (fun _ => ?_) (fun g => absurd rfl (of_decide_eq_false g))⟩
      cases ki with
      | num hi0 =>
        have hi1 := TupKeep.chg r e1 _ _ hi0
        refine ⟨_, rfl, _, _, _, _, rfl, rfl, SqT.of ht1, rfl, _, _, _, _, rfl, rfl, SqT.of hi1, rfl, rfl, _, rfl, iteB (fun _ => ?_) (fun g => absurd rfl (of_decide_eq_false g))⟩
        refine ⟨_, rfl, _, rfl, _, _, _, _, rfl, rfl, SqT.of ht1, rfl, _, _, rfl, d, _, _, _, rfl, r1, ki1, ok.1, fun a2 lo hi w2 H2 h2 ok2 e2 r2 => ?_⟩
        have ht2 := TupKeep.chg r1 e2 _ _ ht1
        exact ⟨_, rfl, _, _, _, _, rfl, rfl, SqT.of ht2, rfl, (by show 3 ≤ sizeLine; rw [sizeLine_eq]; decide), fun p hp => k _ (.items (.num lo hi w2) w) _ (.items upd_same (h2.keep (TupKeep.new hp))) ⟨ok2, ok.2⟩ ((e1.trans e2).trans (Chg.new hp)) (r2.new hp)⟩
      | bits hi0 =>
        have hi1 := TupKeep.chg r e1 _ _ hi0
        refine ⟨_, rfl, _, _, _, _, rfl, rfl, SqT.of ht1, rfl, _, _, _, _, rfl, rfl, SqT.of hi1, rfl, rfl, _, rfl, iteB (fun g => absurd (of_decide_eq_true g) (by decide +kernel)) (fun _ => ?_)⟩
        exact ⟨_, rfl, k _ _ _ hl1 ok e1 r1⟩
      | items _ _ => exact ok.1.elim
      | call _ => exact ok.1.elim
  | num ht =>
    have ht1 := TupKeep.chg r e1 _ _ ht
    refine ⟨_, rfl, _, _, _, _, rfl, rfl, SqT.of ht1, rfl, rfl, _, rfl, iteB (fun g => absurd (of_decide_eq_true g) (by decide +kernel)) (fun _ => iteF ?_)⟩
    refine ⟨_, rfl, _, _, _, _, rfl, rfl, SqT.of ht1, rfl, rfl, _, rfl, iteB (fun g => absurd (of_decide_eq_true g) (by decide +kernel)) (fun _ => ?_)⟩
    refine ⟨_, rfl, _, _, _, _, rfl, rfl, SqT.of ht1, rfl, rfl, _, rfl, iteB (fun _ => ?_) (fun g => absurd rfl (of_decide_eq_false g))⟩
    exact ⟨_, rfl, _, rfl, _, _, rfl, d, _, _, _, rfl, r1, hl1, ok, fun a2 lo hi w2 H2 h2 ok2 e2 r2 => k _ (.num lo hi w2) _ h2 ok2 (e1.trans e2) r2⟩
  | bits ht =>
    have ht1 := TupKeep.chg r e1 _ _ ht
    refine ⟨_, rfl, _, _, _, _, rfl, rfl, SqT.of ht1, rfl, rfl, _, rfl, iteB (fun g => absurd (of_decide_eq_true g) (by decide +kernel)) (fun _ => iteF ?_)⟩
    refine ⟨_, rfl, _, _, _, _, rfl, rfl, SqT.of ht1, rfl, rfl, _, rfl, iteB (fun g => absurd (of_decide_eq_true g) (by decide +kernel)) (fun _ => ?_)⟩
    refine ⟨_, rfl, _, _, _, _, rfl, rfl, SqT.of ht1, rfl, rfl, _, rfl, iteB (fun g => absurd (of_decide_eq_true g) (by decide +kernel)) (fun _ => ?_)⟩
    refine ⟨_, rfl, rfl, _, rfl, iteB (fun _ => ?_) (fun _ => ?_)⟩
    · exact ⟨_, rfl, _, _, rfl, d, _, rfl, rfl, r1, by decide, small_log (by decide) (by decide), fun v2 H2 b0 b1 e2 r2 => ⟨_, _, rfl, rfl, (by show 2 ≤ sizeLine; rw [sizeLine_eq]; decide), fun p hp => k _ (.bits (1 + v2)) _ (.bits upd_same) ⟨by omega, by omega⟩ ((e1.trans e2).trans (Chg.new hp)) (r2.new hp)⟩⟩
    · exact ⟨_, rfl, k _ _ _ hl1 ok e1 r1⟩
  | call _ => exact ok.elim
theorem ok__law_called (T : Txt K mg A) : FnOk P w K mg base CX0 4 A.f__law_called A.d__law_called ["state", "kind"] (sp__law_called K A) := by
  refine T.F__law_called.ok sc__law_called (fun vs H Q E h => sp2_len h) (fun cdv A0 outer s H vs Q E hr h => ?_)
  have nd := sc__law_called.nd
  refine ⟨_, (pss_cons (ps_set (i := 2) nd rfl (by first | exact Or.inl rfl | exact Or.inr rfl) (pe_call (ok__law_names T) (hr.mono (by decide)) (by rfl) T.mg__law_names T.k__law_names T.b__law_names .nil pass0 (pa_cons (pv 0) (pa_cons pe_int pa_nil))))
      (pss_cons (ps_set (i := 3) nd rfl (by first | exact Or.inl rfl | exact Or.inr rfl) (pe_call (ok__law_pull T) (hr.mono (by decide)) (by rfl) T.mg__law_pull T.k__law_pull T.b__law_pull .nil pass0 (pa_cons (pv 0) (pa_cons pe_int pa_nil))))
      (pss_cons (ps_set (i := 4) nd rfl (by first | exact Or.inl rfl | exact Or.inr rfl) (pe_lst (pa_cons pe_dnewK (pa_cons (pe_ix ix_list (pv 2) (pv 3) (fun _ _ => rfl)) (pa_cons (pe_op op_add pe_int (pe_call (ok__law_pull T) (hr.mono (by decide)) (by rfl) T.mg__law_pull T.k__law_pull T.b__law_pull .nil pass0 (pa_cons (pv 0) (pa_cons pe_int pa_nil)))) pa_nil)))))
      (pss_cons (ps_asg (pv 1) (pg_sub (pe_ix ix_list (pv 4) pe_int (fun _ _ => rfl)) (pe_ix ix_list (pv 2) pe_int (fun _ _ => rfl)) (set_dict (hu_of hr))))
      (pss_cons (ps_for PassesOwn.never rfl (pi_range1 (by rfl) T.b_range (pa_cons (pv 3) pa_nil)) (pg_name (i := 5) nd rfl (by first | exact Or.inl rfl | exact Or.inr rfl)) (pss_one (ps_asg (pe_tup (pa_cons pe_str (pa_cons (pe_ix ix_list (pv 2) (pv 5) (fun _ _ => rfl)) pa_nil))) (pg_sub (pe_ix ix_list (pv 4) pe_int (fun _ _ => rfl)) (pe_ix ix_list (pv 2) (pe_op op_add (pv 5) pe_int) (fun _ _ => rfl)) (set_dict (hu_of hr))))))
      (pss_one (ps_ret (pv 4)))))))), ?_⟩
  clear nd hr
  replace h := sp2_of h
  obtain ⟨v_state, v_kind, rfl, h⟩ := h

  obtain ⟨d, kd, rfl, r, hl, k⟩ := h
  refine ⟨_, rfl, _, _, rfl, d, 3, rfl, rfl, by decide, r, fun p ys H1 hp hp0 npp l3 nd ok e1 r1 => ?_⟩
  obtain ⟨a, b, c, rfl⟩ : ∃ a b c, ys = [a, b, c] := by
    match ys, l3 with
    | [a, b, c], _ => exact ⟨a, b, c, rfl⟩
  have nab : a ≠ b := fun z => by subst z; simp at nd
  have nac : a ≠ c := fun z => by subst z; simp at nd
  have nbc : b ≠ c := fun z => by subst z; simp at nd
  refine ⟨_, rfl, _, _, rfl, d, _, rfl, rfl, r1, by decide, small_log (by decide) (by decide), fun v2 H2 a0 a1 e2 r2 => ?_⟩
  obtain ⟨x, hx, gl⟩ : ∃ x, atI [V.str a, V.str b, V.str c] v2 = some (.str x) ∧ ([a, b, c].take (v2.toNat + 1)).getLast? = some x := by
    have : v2 = 0 ∨ v2 = 1 ∨ v2 = 2 := by omega
    rcases this with rfl | rfl | rfl
    · exact ⟨a, rfl, rfl⟩
    · exact ⟨b, rfl, rfl⟩
    · exact ⟨c, rfl, rfl⟩
  have hp2 := e2 _ _ npp hp
  refine fun dd hdd => ?_
  have ndp : dd ≠ d.p := r2.nep hdd
  have ndl : dd ≠ d.l := r2.nel hdd
  have hdd0 : H dd = none := (e1.trans e2).free ndp hdd
  have hp3 : (upd H2 dd (.dK [])) p = some (.lst ([a, b, c].map V.str)) := by rw [upd_ne (fun z => by rw [z, hdd] at hp2; cases hp2)]; exact hp2
  have e3 : Chg d H (upd H2 dd (.dK [])) := (e1.trans e2).trans (Chg.new hdd)
  have r3 := r2.new (o := .dK []) hdd
  have hd3 : (upd H2 dd (.dK [])) dd = some (.dK []) := upd_same
  generalize upd H2 dd (.dK []) = H3 at hp3 e3 r3 hd3 ⊢
  refine ⟨_, rfl, _, rfl, _, _, _, _, rfl, rfl, SqL.of hp3, hx, ?_⟩
  refine ⟨_, rfl, _, _, rfl, d, _, rfl, rfl, r3, by decide, small_log (by decide) (by decide), fun v5 H5 f0 f1 e5 r5 => ⟨_, _, rfl, rfl, (by show 3 ≤ sizeLine; rw [sizeLine_eq]; decide), fun q hq => ?_⟩⟩
  have hp5 := e5 _ _ npp hp3
  have hd5 := e5 _ _ ndp hd3
  have nqp : q ≠ d.p := r5.nep hq
  have hp6 : (upd H5 q (.lst [.ref dd, .str x, .int (1 + v5)])) p = some (.lst ([a, b, c].map V.str)) := by rw [upd_ne (fun z => by rw [z, hq] at hp5; cases hp5)]; exact hp5
  have hd6 : (upd H5 q (.lst [.ref dd, .str x, .int (1 + v5)])) dd = some (.dK []) := by rw [upd_ne (fun z => by rw [z, hq] at hd5; cases hd5)]; exact hd5
  have hq6 : (upd H5 q (.lst [.ref dd, .str x, .int (1 + v5)])) q = some (.lst [.ref dd, .str x, .int (1 + v5)]) := upd_same
  have e6 : Chg d H (upd H5 q (.lst [.ref dd, .str x, .int (1 + v5)])) := (e3.trans e5).trans (Chg.new hq)
  have r6 := r5.new (o := .lst [.ref dd, .str x, .int (1 + v5)]) hq
  generalize upd H5 q (.lst [.ref dd, .str x, .int (1 + v5)]) = H6 at hp6 hd6 hq6 e6 r6 ⊢
  refine ⟨_, rfl, _, rfl, _, _, _, _, rfl, rfl, SqL.of hq6, rfl, _, rfl, _, _, _, _, rfl, rfl, SqL.of hp6, (rfl : atI [V.str a, V.str b, V.str c] _ = some (.str a)), dd, _, rfl, .inl ⟨[], .inr a, hd6, rfl, by rw [sizeLine_eq]; decide, rfl⟩, ?_⟩
  refine ⟨_, rfl, _, rfl, by omega, by omega, ?_⟩
  refine for_it walk_range (fun i σ' H' => ∃ a5 kvs, σ' = [some (.ref d.p), some v_kind, some (.ref p), some (.int v2), some (.ref q), a5] ∧ H' dd = some (.dK kvs) ∧ Paired (LfP H') kvs (tbOf kd ([a, b, c].take (i + 1))) ∧ H' p = some (.lst ([a, b, c].map V.str)) ∧ H' q = some (.lst [.ref dd, .str x, .int (1 + v5)]) ∧ Chg d H H' ∧ Rng d H') ⟨_, [(.inr a, v_kind)], rfl, ?_, ?_, ?_, ?_, e6.mut hdd0, r6.put ndp ndl⟩ (fun _ _ _ _ _ => trivial) ?_ ?_
  · rw [upd_same]; rfl
  · exact .cons ⟨rfl, hl.keep ((TupKeep.chg r e6).trans (TupKeep.dict hd6))⟩ .nil
  · rw [upd_ne (fun z => by rw [z, hd6] at hp6; cases hp6)]; exact hp6
  · rw [upd_ne (fun z => by rw [z, hd6] at hq6; cases hq6)]; exact hq6
  · rintro i xv σ' H7 H7' hi ⟨a5, kvs, rfl, hdd7, pk, hpn, hq7, e7, r7⟩ ⟨rfl, rfl⟩
    have i2 : i = 0 ∨ i = 1 := by omega
    rcases i2 with rfl | rfl
    · refine ⟨_, rfl, _, rfl, _, _, _, _, rfl, rfl, SqL.of hpn, (rfl : atI [V.str a, V.str b, V.str c] _ = some (.str a)), (by show 2 ≤ sizeLine; rw [sizeLine_eq]; decide), fun t ht => ?_⟩
      have s1 := same_new (o := .tup [.str "call", .str a]) ht
      have htt : (upd H7' t (.tup [.str "call", .str a])) t = some (.tup [.str "call", .str a]) := upd_same
      have hdd1 := s1 _ _ hdd7
      have hpn1 := s1 _ _ hpn
      have hq1 := s1 _ _ hq7
      have e71 : Chg d H (upd H7' t (.tup [.str "call", .str a])) := e7.trans (Chg.new ht)
      have r71 := r7.new (o := .tup [.str "call", .str a]) ht
      have tk1 : TupKeep H7' (upd H7' t (.tup [.str "call", .str a])) := TupKeep.new ht
      generalize upd H7' t (.tup [.str "call", .str a]) = H8 at htt hdd1 hpn1 hq1 e71 r71 tk1 ⊢
      have pk1 : Paired (LfP H8) kvs (tbOf kd [a]) := paired_impE (fun _ _ q => ⟨q.1, q.2.keep tk1⟩) pk
      have nw : valV kvs (.inr b : Key) = none := val_no pk1 (by rw [tbOf_names]; simp; exact fun z => nab z.symm)
      refine ⟨_, rfl, _, _, _, _, rfl, rfl, SqL.of hq1, rfl, _, rfl, _, rfl, _, _, rfl, rfl, _, _, _, _, rfl, rfl, SqL.of hpn1, (rfl : atI [V.str a, V.str b, V.str c] _ = some (.str b)), dd, _, rfl, .inl ⟨kvs, .inr b, hdd1, rfl, by rw [sizeLine_eq, pair_lenE pk1]; simp [tbOf], rfl⟩, _, kvs ++ [(.inr b, .ref t)], rfl, ?_, ?_, ?_, ?_, e71.mut hdd0, r71.put ndp ndl⟩
      · rw [upd_same, putK_new _ nw]
      · exact Paired.snoc (paired_impE (fun _ _ q => ⟨q.1, q.2.keep (TupKeep.dict hdd1)⟩) pk1) ⟨rfl, .call (TupKeep.dict hdd1 _ _ htt)⟩
      · rw [upd_ne (fun z => by rw [z, hdd1] at hpn1; cases hpn1)]; exact hpn1
      · rw [upd_ne (fun z => by rw [z, hdd1] at hq1; cases hq1)]; exact hq1
    · refine ⟨_, rfl, _, rfl, _, _, _, _, rfl, rfl, SqL.of hpn, (rfl : atI [V.str a, V.str b, V.str c] _ = some (.str b)), (by show 2 ≤ sizeLine; rw [sizeLine_eq]; decide), fun t ht => ?_⟩
      have s1 := same_new (o := .tup [.str "call", .str b]) ht
      have htt : (upd H7' t (.tup [.str "call", .str b])) t = some (.tup [.str "call", .str b]) := upd_same
      have hdd1 := s1 _ _ hdd7
      have hpn1 := s1 _ _ hpn
      have hq1 := s1 _ _ hq7
      have e71 : Chg d H (upd H7' t (.tup [.str "call", .str b])) := e7.trans (Chg.new ht)
      have r71 := r7.new (o := .tup [.str "call", .str b]) ht
      have tk1 : TupKeep H7' (upd H7' t (.tup [.str "call", .str b])) := TupKeep.new ht
      generalize upd H7' t (.tup [.str "call", .str b]) = H8 at htt hdd1 hpn1 hq1 e71 r71 tk1 ⊢
      have pk1 : Paired (LfP H8) kvs (tbOf kd [a, b]) := paired_impE (fun _ _ q => ⟨q.1, q.2.keep tk1⟩) pk
      have nw : valV kvs (.inr c : Key) = none := val_no pk1 (by rw [tbOf_names]; simp; exact ⟨fun z => nac z.symm, fun z => nbc z.symm⟩)
      refine ⟨_, rfl, _, _, _, _, rfl, rfl, SqL.of hq1, rfl, _, rfl, _, rfl, _, _, rfl, rfl, _, _, _, _, rfl, rfl, SqL.of hpn1, (rfl : atI [V.str a, V.str b, V.str c] _ = some (.str c)), dd, _, rfl, .inl ⟨kvs, .inr c, hdd1, rfl, by rw [sizeLine_eq, pair_lenE pk1]; simp [tbOf], rfl⟩, _, kvs ++ [(.inr c, .ref t)], rfl, ?_, ?_, ?_, ?_, e71.mut hdd0, r71.put ndp ndl⟩
      · rw [upd_same, putK_new _ nw]
      · exact Paired.snoc (paired_impE (fun _ _ q => ⟨q.1, q.2.keep (TupKeep.dict hdd1)⟩) pk1) ⟨rfl, .call (TupKeep.dict hdd1 _ _ htt)⟩
      · rw [upd_ne (fun z => by rw [z, hdd1] at hpn1; cases hpn1)]; exact hpn1
      · rw [upd_ne (fun z => by rw [z, hdd1] at hq1; cases hq1)]; exact hq1
  · rintro σ' H7 ⟨a5, kvs, rfl, hdd7, pk, hpn, hq7, e7, r7⟩
    have sub : ∀ y ∈ [a, b, c].take (v2.toNat + 1), y ∈ [a, b, c] := fun y hy => (List.take_sublist _ _).subset hy
    exact ⟨_, rfl, k q dd kvs ([a, b, c].take (v2.toNat + 1)) x (1 + v5) H7 hq7 hdd7 pk (nd.sublist (List.take_sublist _ _)) (fun y hy => ok y (sub y hy)) (by rw [List.length_take]; show min _ 3 ≤ 3; omega) gl (by omega) (by omega) nqp ndp e7 r7⟩
theorem ok__law_numbers_alike (T : Txt K mg A) : FnOk P w K mg base CX0 3 A.f__law_numbers_alike A.d__law_numbers_alike ["one", "other"] (sp__law_numbers_alike K A) := by
  refine T.F__law_numbers_alike.ok sc__law_numbers_alike (fun vs H Q E h => sp2_len h) (fun cdv A0 outer s H vs Q E hr h => ?_)
  have nd := sc__law_numbers_alike.nd
  refine ⟨_, (pss_cons (ps_set (i := 2) nd rfl (by first | exact Or.inl rfl | exact Or.inr rfl) (pe_lst (pa_cons (pe_ix ix_tup (pv 0) pe_int (fun _ _ => rfl)) (pa_cons (pe_ix ix_tup (pv 0) pe_int (fun _ _ => rfl)) (pa_cons (pe_ix ix_tup (pv 1) pe_int (fun _ _ => rfl)) (pa_cons (pe_op op_add (pe_ix ix_tup (pv 1) pe_int (fun _ _ => rfl)) pe_int) pa_nil))))))
      (pss_cons (ps_for PassesOwn.never rfl (pi_list (pe_lst (pa_cons (pv 0) (pa_cons (pv 1) pa_nil)))) (pg_name (i := 3) nd rfl (by first | exact Or.inl rfl | exact Or.inr rfl)) (pss_one (ps_expr (pe_bm PySem.F.plainAttrs_list PySem.F.slot_list_extend PySem.F.type_list_extend mt_extend (pv 2) (pa_cons (pe_lst (pa_cons (pe_op op_sub (pe_op op_add (pe_ix ix_tup (pv 3) pe_int (fun _ _ => rfl)) (pe_ix ix_tup (pe_call (ok__law_short T) (hr.mono (by decide)) (by rfl) T.mg__law_short T.k__law_short T.b__law_short .nil pass0 (pa_cons (pv 3) pa_nil)) pe_int (fun _ _ => rfl))) pe_int) (pa_cons (pe_op op_add (pe_ix ix_tup (pv 3) pe_int (fun _ _ => rfl)) (pe_ix ix_tup (pe_call (ok__law_short T) (hr.mono (by decide)) (by rfl) T.mg__law_short T.k__law_short T.b__law_short .nil pass0 (pa_cons (pv 3) pa_nil)) pe_int (fun _ _ => rfl))) pa_nil))) pa_nil)))))
      (pss_cons (ps_for PassesOwn.never rfl (pi_list (pv 2)) (pg_name (i := 4) nd rfl (by first | exact Or.inl rfl | exact Or.inr rfl)) (pss_cons (ps_set (i := 5) nd rfl (by first | exact Or.inl rfl | exact Or.inr rfl) (pe_callB (call_max2 rfl) (by rfl) T.b_max (by decide +kernel) (pa_cons (pe_ix ix_tup (pv 0) pe_int (fun _ _ => rfl)) (pa_cons (pe_callB (call_min2 rfl) (by rfl) T.b_min (by decide +kernel) (pa_cons (pe_ix ix_tup (pv 0) pe_int (fun _ _ => rfl)) (pa_cons (pv 4) pa_nil))) pa_nil))))
      (pss_cons (ps_if (PW.pt (pw_or (pt_cmpR op_lt (pv 5) (pe_ix ix_tup (pv 1) pe_int (fun _ _ => rfl)) (nomark _)) (pw_or1 (pt_cmpR op_gt (pv 5) (pe_ix ix_tup (pv 1) pe_int (fun _ _ => rfl)) (nomark _))))) (pss_one (ps_ret pe_bl)) pss_nil)
      (pss_one (ps_if (pt_cmpR op_ne (pe_call (ok__law_number_bits T) (hr.mono (by decide)) (by rfl) T.mg__law_number_bits T.k__law_number_bits T.b__law_number_bits .nil pass0 (pa_cons (pv 0) (pa_cons (pv 5) pa_nil))) (pe_call (ok__law_number_bits T) (hr.mono (by decide)) (by rfl) T.mg__law_number_bits T.k__law_number_bits T.b__law_number_bits .nil pass0 (pa_cons (pv 1) (pa_cons (pv 5) pa_nil))) (nomark _)) (pss_one (ps_ret pe_bl)) pss_nil)))))
      (pss_one (ps_ret pe_bl))))), ?_⟩
  clear nd hr
  replace h := sp2_of h
  obtain ⟨v_one, v_other, rfl, h⟩ := h

  obtain ⟨lo, hi, w, lo2, hi2, w2, h1, o1, h2, o2, k⟩ := h
  have h10 := h1
  have h20 := h2
  cases h1 with
  | num ht1 =>
    cases h2 with
    | num ht2 =>
    rename_i a1 a2
    refine ⟨_, rfl, _, _, _, _, rfl, rfl, SqT.of ht1, rfl, _, rfl, _, _, _, _, rfl, rfl, SqT.of ht1, rfl, _, rfl, _, _, _, _, rfl, rfl, SqT.of ht2, rfl, _, rfl, _, _, _, _, rfl, rfl, SqT.of ht2, rfl, _, _, rfl, rfl, (by show 4 ≤ sizeLine; rw [sizeLine_eq]; decide), fun p hp => ?_⟩
    have e1 := same_new (o := .lst [V.int lo, V.int hi, V.int hi2, V.int (hi2 + 1)]) hp
    have hp1 : (upd H p (.lst [V.int lo, V.int hi, V.int hi2, V.int (hi2 + 1)])) p = some (.lst (((placesN lo hi w lo2 hi2 w2).take 4).map V.int)) := upd_same
    refine ⟨_, rfl, _, rfl, (by show 2 ≤ sizeLine; rw [sizeLine_eq]; decide), fun l hl => ⟨l, rfl, ⟨_, SqL.of upd_same⟩, ?_⟩⟩
    have npl : l ≠ p := fun z => by rw [z, upd_same] at hl; cases hl
    have e11 := e1.trans (same_new (o := .lst [V.ref a1, V.ref a2]) hl)
    have hp11 := same_new (o := .lst [V.ref a1, V.ref a2]) hl _ _ hp1
    have hl11 : (upd (upd H p (.lst [V.int lo, V.int hi, V.int hi2, V.int (hi2 + 1)])) l (.lst [V.ref a1, V.ref a2])) l = some (.lst [V.ref a1, V.ref a2]) := upd_same
    generalize upd (upd H p (.lst [V.int lo, V.int hi, V.int hi2, V.int (hi2 + 1)])) l (.lst [V.ref a1, V.ref a2]) = H1 at e11 hp11 hl11 ⊢
    refine for_it (walk_list (xs := [.ref a1, .ref a2])) (fun i σ' H' => ∃ a3, σ' = [some (.ref a1), some (.ref a2), some (.ref p), a3, none, none] ∧ H' p = some (.lst (((placesN lo hi w lo2 hi2 w2).take (4 + 2 * i)).map V.int)) ∧ H' l = some (.lst [V.ref a1, V.ref a2]) ∧ Same H H') ⟨_, rfl, hp11, hl11, e11⟩ (fun i σ' H' _ ⟨_, _, _, h, _⟩ => SqL.of h) ?_ ?_
    · rintro i xv σ' H2 H2' hi3 ⟨a3, rfl, hp2, hl2, e2⟩ ⟨rfl, hxv⟩
      match i, hi3 with
      | 0, _ =>
      have exv : xv = .ref a1 := (Option.some.inj hxv).symm
      subst exv
      refine ⟨_, rfl, .inl ⟨rfl, _, SqL.of hp2⟩, _, rfl, _, _, _, _, rfl, rfl, SqT.of (e2 _ _ ht1), rfl, _, rfl, _, rfl, lo, hi, w, (h10.keep (TupKeep.same e2)), o1, fun q1 H3 hq1 e3 => ?_⟩
      have ha3 := e3 _ _ (e2 _ _ ht1)
      refine ⟨_, _, _, _, rfl, rfl, SqT.of hq1, rfl, _, _, rfl, rfl, _, _, rfl, rfl, _, rfl, _, _, _, _, rfl, rfl, SqT.of ha3, rfl, _, rfl, _, rfl, lo, hi, w, (h10.keep (TupKeep.same (e2.trans e3))), o1, fun q2 H4 hq2 e4 => ?_⟩
      refine ⟨_, _, _, _, rfl, rfl, SqT.of hq2, rfl, _, _, rfl, rfl, (by show 2 ≤ sizeLine; rw [sizeLine_eq]; decide), fun r hr => ?_⟩
      have e34 := e3.trans (e4.trans (same_new (o := .lst [V.int (lo + (szN lo hi w).2 - 1), V.int (lo + (szN lo hi w).2)]) hr))
      refine ⟨p, r, _, _, rfl, rfl, e34 _ _ hp2, upd_same, by rw [sizeLine_eq]; simp [placesN], _, rfl, upd_same, ?_, same_put hp (e2.trans e34)⟩
      rw [upd_ne npl]
      exact e34 _ _ hl2
      | 1, _ =>
      have exv : xv = .ref a2 := (Option.some.inj hxv).symm
      subst exv
      refine ⟨_, rfl, .inl ⟨rfl, _, SqL.of hp2⟩, _, rfl, _, _, _, _, rfl, rfl, SqT.of (e2 _ _ ht2), rfl, _, rfl, _, rfl, lo2, hi2, w2, (h20.keep (TupKeep.same e2)), o2, fun q1 H3 hq1 e3 => ?_⟩
      have ha3 := e3 _ _ (e2 _ _ ht2)
      refine ⟨_, _, _, _, rfl, rfl, SqT.of hq1, rfl, _, _, rfl, rfl, _, _, rfl, rfl, _, rfl, _, _, _, _, rfl, rfl, SqT.of ha3, rfl, _, rfl, _, rfl, lo2, hi2, w2, (h20.keep (TupKeep.same (e2.trans e3))), o2, fun q2 H4 hq2 e4 => ?_⟩
      refine ⟨_, _, _, _, rfl, rfl, SqT.of hq2, rfl, _, _, rfl, rfl, (by show 2 ≤ sizeLine; rw [sizeLine_eq]; decide), fun r hr => ?_⟩
      have e34 := e3.trans (e4.trans (same_new (o := .lst [V.int (lo2 + (szN lo2 hi2 w2).2 - 1), V.int (lo2 + (szN lo2 hi2 w2).2)]) hr))
      refine ⟨p, r, _, _, rfl, rfl, e34 _ _ hp2, upd_same, by rw [sizeLine_eq]; simp [placesN], _, rfl, upd_same, ?_, same_put hp (e2.trans e34)⟩
      rw [upd_ne npl]
      exact e34 _ _ hl2
    rintro σ' H2 ⟨a3, rfl, hp2, hl2, e2⟩
    have hp2 : H2 p = some (.lst ((placesN lo hi w lo2 hi2 w2).map V.int)) := hp2
    refine ⟨_, rfl, p, rfl, ⟨_, SqL.of hp2⟩, ?_⟩
    refine for_it (walk_list (xs := (placesN lo hi w lo2 hi2 w2).map V.int)) (fun i σ' H' => ∃ a4 a5, σ' = [some (.ref a1), some (.ref a2), some (.ref p), a3, a4, a5] ∧ Same H2 H' ∧ ((placesN lo hi w lo2 hi2 w2).take i).all (fun x => okAt lo hi w lo2 hi2 w2 (max lo (min hi x))) = true) ⟨_, _, rfl, fun _ _ z => z, rfl⟩ (fun i σ' H' _ ⟨_, _, _, h, _⟩ => SqL.of (h _ _ hp2)) ?_ ?_
    · rintro i xv σ' H3 H3' hi3 ⟨a4, a5, rfl, e3, al⟩ ⟨rfl, hxv⟩
      rw [List.getElem?_map] at hxv
      cases hx : (placesN lo hi w lo2 hi2 w2)[i]? with
      | none => rw [hx] at hxv; cases hxv
      | some x =>
      rw [hx] at hxv
      have exv : xv = .int x := (Option.some.inj hxv).symm
      subst exv
      have mx := List.mem_of_getElem? hx
      have e03 := e2.trans e3
      have ht13 := e03 _ _ ht1
      have ht23 := e03 _ _ ht2
      have lt := o1.lt
      refine ⟨_, rfl, _, _, _, _, rfl, rfl, SqT.of ht13, rfl, _, rfl, _, _, _, _, rfl, rfl, SqT.of ht13, rfl, _, rfl, _, _, rfl, _, _, rfl, ?_⟩
      rw [min3_eq, max2_eq]
      have v1 : lo ≤ max lo (min hi x) := by omega
      have v2 : max lo (min hi x) ≤ hi := by omega
      have no := law_no mx
      have tk := take_snoc hx
      rw [okAt] at no
      have yes : okAt lo hi w lo2 hi2 w2 (max lo (min hi x)) = true → ((placesN lo hi w lo2 hi2 w2).take (i + 1)).all (fun x => okAt lo hi w lo2 hi2 w2 (max lo (min hi x))) = true := fun q => by rw [tk, List.all_append, al]; simp [q]
      rw [okAt] at yes
      generalize max lo (min hi x) = v at v1 v2 no yes ⊢
      refine ⟨_, rfl, _, rfl, _, _, _, _, rfl, rfl, SqT.of ht23, rfl, _, _, rfl, rfl, _, rfl, iteB (fun g => ?_) (fun g => ?_)⟩
      · have := k H3' e03
        rw [no (if_pos (.inl (of_decide_eq_true g)))] at this
        exact this
      refine ⟨_, rfl, _, rfl, _, _, _, _, rfl, rfl, SqT.of ht23, rfl, _, _, rfl, rfl, _, rfl, iteB (fun g2 => ?_) (fun g2 => ?_)⟩
      · have := k H3' e03
        rw [no (if_pos (.inr (of_decide_eq_true g2)))] at this
        exact this
      have g := of_decide_eq_false g
      have g2 := of_decide_eq_false g2
      have nn : ¬ (v < lo2 ∨ v > hi2) := by omega
      rw [if_neg nn] at no yes
      refine ⟨_, rfl, _, rfl, _, _, rfl, lo, hi, w, v, h10.keep (TupKeep.same e03), o1, rfl, v1, v2, fun H4 e4 => ?_⟩
      refine ⟨_, rfl, _, rfl, _, _, rfl, lo2, hi2, w2, v, h20.keep (TupKeep.same (e03.trans e4)), o2, rfl, by omega, by omega, fun H5 e5 => ?_⟩
      refine ⟨rfl, _, rfl, iteB (fun g3 => ?_) (fun g3 => ?_)⟩
      · have := k H5 (e03.trans (e4.trans e5))
        rw [no (decide_eq_false fun z => by rw [z] at g3; simp at g3)] at this
        exact this
      · exact ⟨_, _, rfl, e3.trans (e4.trans e5), yes (decide_eq_true (by simpa using g3))⟩
    · rintro σ' H3 ⟨a4, a5, rfl, e3, al⟩
      rw [List.length_map, List.take_length] at al
      have := k H3 (e2.trans e3)
      rw [show lawAl lo hi w lo2 hi2 w2 = true from al] at this
      exact this
theorem ok__law_alike0 (T : Txt K mg A) : FnOk P w K mg base CX0 4 A.f__law_alike A.d__law_alike ["one", "other"] (sp__law_alike0 K A) := by
  refine T.F__law_alike.ok sc__law_alike (fun vs H Q E h => sp2_len h) (fun cdv A0 outer s H vs Q E hr h => ?_)
  have nd := sc__law_alike.nd
  refine ⟨_, (pss_cons (ps_if (pt_cmpR op_ne (pe_ix ix_tup (pv 0) pe_int (fun _ _ => rfl)) (pe_ix ix_tup (pv 1) pe_int (fun _ _ => rfl)) (nomark _)) (pss_one (ps_ret pe_bl)) pss_nil)
      (pss_cons (ps_if (pt_cmpR op_eq (pe_ix ix_tup (pv 0) pe_int (fun _ _ => rfl)) pe_str (nomark _)) pss_never pss_nil)
      (pss_one (ps_ret (pe_ifExp (pt_cmpR op_eq (pe_ix ix_tup (pv 0) pe_int (fun _ _ => rfl)) pe_str (nomark _)) (pe_cmpR op_eq (pe_ix ix_tup (pv 0) pe_int (fun _ _ => rfl)) (pe_ix ix_tup (pv 1) pe_int (fun _ _ => rfl)) (nomark _)) (pe_call (ok__law_numbers_alike T) (hr.mono (by decide)) (by rfl) T.mg__law_numbers_alike T.k__law_numbers_alike T.b__law_numbers_alike .nil pass0 (pa_cons (pv 0) (pa_cons (pv 1) pa_nil)))))))), ?_⟩
  clear nd hr
  replace h := sp2_of h
  obtain ⟨v_one, v_other, rfl, h⟩ := h

  obtain ⟨k1, k2, h1, o1, h2, o2, k⟩ := h
  have h10 := h1
  have h20 := h2
  have nt : ∀ {a b : Str}, a ≠ b → (!decide (V.str a = V.str b)) = true := fun h => by rw [decide_eq_false (fun z => h (V.str.inj z))]; rfl
  have ns : ∀ {a : Str}, (!decide (V.str a = V.str a)) = false := fun {a} => by rw [decide_eq_true rfl]; rfl
  have no : ∀ {a b : Str}, a ≠ b → decide (V.str a = V.str b) = false := fun h => decide_eq_false fun z => h (V.str.inj z)
  cases h1 with
  | num ht1 =>
    cases h2 with
    | num ht2 =>
      refine ⟨_, rfl, _, _, _, _, rfl, rfl, SqT.of ht1, rfl, _, rfl, _, _, _, _, rfl, rfl, SqT.of ht2, rfl, rfl, _, rfl, iteB (fun g => absurd (ns.symm.trans g) Bool.false_ne_true) (fun _ => ?_)⟩
      refine ⟨_, rfl, _, _, _, _, rfl, rfl, SqT.of ht1, rfl, rfl, _, rfl, iteB (fun g => absurd (of_decide_eq_true g) (by decide +kernel)) (fun _ => ?_)⟩
      refine ⟨_, rfl, _, _, _, _, rfl, rfl, SqT.of ht1, rfl, rfl, _, rfl, iteB (fun g => absurd (of_decide_eq_true g) (by decide +kernel)) (fun _ => ?_)⟩
      exact ⟨_, rfl, _, rfl, _, _, rfl, _, _, _, _, _, _, h10, o1, h20, o2, fun H' e => k H' e⟩
    | bits ht2 => exact ⟨_, rfl, _, _, _, _, rfl, rfl, SqT.of ht1, rfl, _, rfl, _, _, _, _, rfl, rfl, SqT.of ht2, rfl, rfl, _, rfl, iteB (fun _ => k H (fun _ _ z => z)) (fun g => absurd ((nt (by decide +kernel)).symm.trans g) (by decide))⟩
    | items ht2 _ => exact o2.elim
    | call _ => exact o2.elim
  | bits ht1 =>
    cases h2 with
    | num ht2 => exact ⟨_, rfl, _, _, _, _, rfl, rfl, SqT.of ht1, rfl, _, rfl, _, _, _, _, rfl, rfl, SqT.of ht2, rfl, rfl, _, rfl, iteB (fun _ => k H (fun _ _ z => z)) (fun g => absurd ((nt (by decide +kernel)).symm.trans g) (by decide))⟩
    | bits ht2 =>
      refine ⟨_, rfl, _, _, _, _, rfl, rfl, SqT.of ht1, rfl, _, rfl, _, _, _, _, rfl, rfl, SqT.of ht2, rfl, rfl, _, rfl, iteB (fun g => absurd (ns.symm.trans g) Bool.false_ne_true) (fun _ => ?_)⟩
      refine ⟨_, rfl, _, _, _, _, rfl, rfl, SqT.of ht1, rfl, rfl, _, rfl, iteB (fun g => absurd (of_decide_eq_true g) (by decide +kernel)) (fun _ => ?_)⟩
      refine ⟨_, rfl, _, _, _, _, rfl, rfl, SqT.of ht1, rfl, rfl, _, rfl, iteB (fun _ => ?_) (fun g => absurd rfl (of_decide_eq_false g))⟩
      refine ⟨_, rfl, _, _, _, _, rfl, rfl, SqT.of ht1, rfl, _, rfl, _, _, _, _, rfl, rfl, SqT.of ht2, rfl, rfl, ?_⟩
      rw [dI]
      exact k H (fun _ _ z => z)
    | items ht2 _ => exact o2.elim
    | call _ => exact o2.elim
  | items ht1 ki1 => exact o1.elim
  | call _ => exact o1.elim
theorem ok__law_alike (T : Txt K mg A) : FnOk P w K mg base CX0 5 A.f__law_alike A.d__law_alike ["one", "other"] (sp__law_alike K A) := by
  refine T.F__law_alike.ok sc__law_alike (fun vs H Q E h => sp2_len h) (fun cdv A0 outer s H vs Q E hr h => ?_)
  have nd := sc__law_alike.nd
  refine ⟨_, (pss_cons (ps_if (pt_cmpR op_ne (pe_ix ix_tup (pv 0) pe_int (fun _ _ => rfl)) (pe_ix ix_tup (pv 1) pe_int (fun _ _ => rfl)) (nomark _)) (pss_one (ps_ret pe_bl)) pss_nil)
      (pss_cons (ps_if (pt_cmpR op_eq (pe_ix ix_tup (pv 0) pe_int (fun _ _ => rfl)) pe_str (nomark _)) (pss_one (ps_ret (pe_and (pe_cmpR op_eq (pe_ix ix_tup (pv 0) pe_int (fun _ _ => rfl)) (pe_ix ix_tup (pv 1) pe_int (fun _ _ => rfl)) (nomark _)) (pe_one (pe_call (ok__law_alike0 T) (hr.mono (by decide)) (by rfl) T.mg__law_alike T.k__law_alike T.b__law_alike .nil pass0 (pa_cons (pe_ix ix_tup (pv 0) pe_int (fun _ _ => rfl)) (pa_cons (pe_ix ix_tup (pv 1) pe_int (fun _ _ => rfl)) pa_nil))))))) pss_nil)
      (pss_one (ps_ret (pe_ifExp (pt_cmpR op_eq (pe_ix ix_tup (pv 0) pe_int (fun _ _ => rfl)) pe_str (nomark _)) (pe_cmpR op_eq (pe_ix ix_tup (pv 0) pe_int (fun _ _ => rfl)) (pe_ix ix_tup (pv 1) pe_int (fun _ _ => rfl)) (nomark _)) (pe_call (ok__law_numbers_alike T) (hr.mono (by decide)) (by rfl) T.mg__law_numbers_alike T.k__law_numbers_alike T.b__law_numbers_alike .nil pass0 (pa_cons (pv 0) (pa_cons (pv 1) pa_nil)))))))), ?_⟩
  clear nd hr
  replace h := sp2_of h
  obtain ⟨v_one, v_other, rfl, h⟩ := h

  obtain ⟨k1, k2, h1, o1, h2, o2, k⟩ := h
  have h10 := h1
  have h20 := h2
  have nt : ∀ {a b : Str}, a ≠ b → (!decide (V.str a = V.str b)) = true := fun h => by rw [decide_eq_false (fun z => h (V.str.inj z))]; rfl
  have ns : ∀ {a : Str}, (!decide (V.str a = V.str a)) = false := fun {a} => by rw [decide_eq_true rfl]; rfl
  have no : ∀ {a b : Str}, a ≠ b → decide (V.str a = V.str b) = false := fun h => decide_eq_false fun z => h (V.str.inj z)
  cases h1 with
  | num ht1 =>
    cases h2 with
    | num ht2 =>
      refine ⟨_, rfl, _, _, _, _, rfl, rfl, SqT.of ht1, rfl, _, rfl, _, _, _, _, rfl, rfl, SqT.of ht2, rfl, rfl, _, rfl, iteB (fun g => absurd (ns.symm.trans g) Bool.false_ne_true) (fun _ => ?_)⟩
      refine ⟨_, rfl, _, _, _, _, rfl, rfl, SqT.of ht1, rfl, rfl, _, rfl, iteB (fun g => absurd (of_decide_eq_true g) (by decide +kernel)) (fun _ => ?_)⟩
      refine ⟨_, rfl, _, _, _, _, rfl, rfl, SqT.of ht1, rfl, rfl, _, rfl, iteB (fun g => absurd (of_decide_eq_true g) (by decide +kernel)) (fun _ => ?_)⟩
      exact ⟨_, rfl, _, rfl, _, _, rfl, _, _, _, _, _, _, h10, o1, h20, o2, fun H' e => k H' e⟩
    | bits ht2 => exact ⟨_, rfl, _, _, _, _, rfl, rfl, SqT.of ht1, rfl, _, rfl, _, _, _, _, rfl, rfl, SqT.of ht2, rfl, rfl, _, rfl, iteB (fun _ => k H (fun _ _ z => z)) (fun g => absurd ((nt (by decide +kernel)).symm.trans g) (by decide))⟩
    | items ht2 _ => exact ⟨_, rfl, _, _, _, _, rfl, rfl, SqT.of ht1, rfl, _, rfl, _, _, _, _, rfl, rfl, SqT.of ht2, rfl, rfl, _, rfl, iteB (fun _ => k H (fun _ _ z => z)) (fun g => absurd ((nt (by decide +kernel)).symm.trans g) (by decide))⟩
    | call _ => exact o2.elim
  | bits ht1 =>
    cases h2 with
    | num ht2 => exact ⟨_, rfl, _, _, _, _, rfl, rfl, SqT.of ht1, rfl, _, rfl, _, _, _, _, rfl, rfl, SqT.of ht2, rfl, rfl, _, rfl, iteB (fun _ => k H (fun _ _ z => z)) (fun g => absurd ((nt (by decide +kernel)).symm.trans g) (by decide))⟩
    | bits ht2 =>
      refine ⟨_, rfl, _, _, _, _, rfl, rfl, SqT.of ht1, rfl, _, rfl, _, _, _, _, rfl, rfl, SqT.of ht2, rfl, rfl, _, rfl, iteB (fun g => absurd (ns.symm.trans g) Bool.false_ne_true) (fun _ => ?_)⟩
      refine ⟨_, rfl, _, _, _, _, rfl, rfl, SqT.of ht1, rfl, rfl, _, rfl, iteB (fun g => absurd (of_decide_eq_true g) (by decide +kernel)) (fun _ => ?_)⟩
      refine ⟨_, rfl, _, _, _, _, rfl, rfl, SqT.of ht1, rfl, rfl, _, rfl, iteB (fun _ => ?_) (fun g => absurd rfl (of_decide_eq_false g))⟩
      refine ⟨_, rfl, _, _, _, _, rfl, rfl, SqT.of ht1, rfl, _, rfl, _, _, _, _, rfl, rfl, SqT.of ht2, rfl, rfl, ?_⟩
      rw [dI]
      exact k H (fun _ _ z => z)
    | items ht2 _ => exact ⟨_, rfl, _, _, _, _, rfl, rfl, SqT.of ht1, rfl, _, rfl, _, _, _, _, rfl, rfl, SqT.of ht2, rfl, rfl, _, rfl, iteB (fun _ => k H (fun _ _ z => z)) (fun g => absurd ((nt (by decide +kernel)).symm.trans g) (by decide))⟩
    | call _ => exact o2.elim
  | items ht1 ki1 => 
    cases h2 with
    | num ht2 => exact ⟨_, rfl, _, _, _, _, rfl, rfl, SqT.of ht1, rfl, _, rfl, _, _, _, _, rfl, rfl, SqT.of ht2, rfl, rfl, _, rfl, iteB (fun _ => k H (fun _ _ z => z)) (fun g => absurd ((nt (by decide +kernel)).symm.trans g) (by decide))⟩
    | bits ht2 => exact ⟨_, rfl, _, _, _, _, rfl, rfl, SqT.of ht1, rfl, _, rfl, _, _, _, _, rfl, rfl, SqT.of ht2, rfl, rfl, _, rfl, iteB (fun _ => k H (fun _ _ z => z)) (fun g => absurd ((nt (by decide +kernel)).symm.trans g) (by decide))⟩
    | items ht2 ki2 =>
      rename_i i w x1 v1 j u
      refine ⟨_, rfl, _, _, _, _, rfl, rfl, SqT.of ht1, rfl, _, rfl, _, _, _, _, rfl, rfl, SqT.of ht2, rfl, rfl, _, rfl, iteB (fun g => absurd (ns.symm.trans g) Bool.false_ne_true) (fun _ => ?_)⟩
      refine ⟨_, rfl, _, _, _, _, rfl, rfl, SqT.of ht1, rfl, rfl, _, rfl, iteB (fun _ => ?_) (fun g => absurd rfl (of_decide_eq_false g))⟩
      have sc : scal (oi w) (oi u) = true := by cases w <;> cases u <;> rfl
      refine ⟨_, rfl, _, _, _, _, rfl, rfl, SqT.of ht1, rfl, _, rfl, _, _, _, _, rfl, rfl, SqT.of ht2, rfl, sc, _, rfl, iteB (fun g => ?_) (fun g => ?_)⟩
      · have e : w = u := oi_inj (of_decide_eq_true g)
        refine ⟨_, rfl, _, _, _, _, rfl, rfl, SqT.of ht1, rfl, _, rfl, _, _, _, _, rfl, rfl, SqT.of ht2, rfl, _, _, rfl, i, j, ki1, o1.1, ki2, o2.1, fun H' e2 => ?_⟩
        have := k H' e2
        rw [show lawL (.items i w) (.items j u) = lawLf i j from if_pos e] at this
        exact this
      · have e : ¬ w = u := fun z => of_decide_eq_false g (by rw [z])
        have := k H (fun _ _ z => z)
        rw [show lawL (.items i w) (.items j u) = false from if_neg e] at this
        exact this
    | call _ => exact o2.elim
  | call _ => exact o1.elim
theorem kb1_table {K : PySem.W.Frag} {mg : Str → Option Value} {A : Ad} (T : Txt K mg A) : KBn K A.d_table ["writer", "reader"] 0 ["writer", "reader"] (fun us ws => pick [0, 1] (us ++ ws)) (fun vs zs => pick [0, 1] (vs ++ zs)) :=
  fun_kbn [0, 1] T.F_table fun _ _ _ _ _ _ us ws h1 h2 => match us, ws, h1, h2 with | [], [_, _], _, _ => rfl
theorem ok_law (T : Txt K mg A) : FnOk P w K mg base CX0 24 A.f_law A.d_law ["script"] (sp_law K A) := by
  refine T.F_law.ok sc_law (fun vs H Q E h => sp1_len h) (fun cdv A0 outer s H vs Q E hr h => ?_)
  have nd := sc_law.nd
  refine ⟨_, (pss_cons (ps_set (i := 1) nd rfl (by first | exact Or.inl rfl | exact Or.inr rfl) (pe_call (ok__law_start T) (hr.mono (by decide)) (by rfl) T.mg__law_start T.k__law_start T.b__law_start .nil pass0 (pa_cons (pv 0) pa_nil)))
      (pss_cons (ps_set (i := 2) nd rfl (by first | exact Or.inl rfl | exact Or.inr rfl) (pe_call (ok__law_leaf T) (hr.mono (by decide)) (by rfl) T.mg__law_leaf T.k__law_leaf T.b__law_leaf .nil pass0 (pa_cons (pv 1) pa_nil)))
      (pss_cons (ps_set (i := 3) nd rfl (by first | exact Or.inl rfl | exact Or.inr rfl) (pv 2))
      (pss_cons (ps_for PassesOwn.never rfl (pi_range1 (by rfl) T.b_range (pa_cons (pe_call (ok__law_pull T) (hr.mono (by decide)) (by rfl) T.mg__law_pull T.k__law_pull T.b__law_pull .nil pass0 (pa_cons (pv 1) (pa_cons pe_int pa_nil))) pa_nil)) (pg_name (i := 4) nd rfl (by first | exact Or.inl rfl | exact Or.inr rfl)) (pss_one (ps_set (i := 3) nd rfl (by first | exact Or.inl rfl | exact Or.inr rfl) (pe_call (ok__law_bent_leaf T) (hr.mono (by decide)) (by rfl) T.mg__law_bent_leaf T.k__law_bent_leaf T.b__law_bent_leaf .nil pass0 (pa_cons (pv 1) (pa_cons (pv 3) pa_nil))))))
      (pss_cons (ps_set (i := 5) nd rfl (by first | exact Or.inl rfl | exact Or.inr rfl) (pe_call (ok__law_called T) (hr.mono (by decide)) (by rfl) T.mg__law_called T.k__law_called T.b__law_called .nil pass0 (pa_cons (pv 1) (pa_cons (pv 2) pa_nil))))
      (pss_cons (ps_set (i := 6) nd rfl (by first | exact Or.inl rfl | exact Or.inr rfl) (pe_call (ok__law_called T) (hr.mono (by decide)) (by rfl) T.mg__law_called T.k__law_called T.b__law_called .nil pass0 (pa_cons (pv 1) (pa_cons (pv 3) pa_nil))))
      (pss_cons (ps_set (i := 7) nd rfl (by first | exact Or.inl rfl | exact Or.inr rfl) (pe_call (ok__law_edition T) (hr.mono (by decide)) (by rfl) T.mg__law_edition T.k__law_edition T.b__law_edition .nil pass0 (pa_cons (pv 5) pa_nil)))
      (pss_cons (ps_set (i := 8) nd rfl (by first | exact Or.inl rfl | exact Or.inr rfl) (pe_call (ok__law_edition T) (hr.mono (by decide)) (by rfl) T.mg__law_edition T.k__law_edition T.b__law_edition .nil pass0 (pa_cons (pv 6) pa_nil)))
      (pss_cons (ps_set (i := 9) nd rfl (by first | exact Or.inl rfl | exact Or.inr rfl) (pe_call (ok__law_alike T) (hr.mono (by decide)) (by rfl) T.mg__law_alike T.k__law_alike T.b__law_alike .nil pass0 (pa_cons (pv 2) (pa_cons (pv 3) pa_nil))))
      (pss_cons (ps_set (i := 10) nd rfl (by first | exact Or.inl rfl | exact Or.inr rfl) (pe_call (ok_check_table T) (hr.mono (by decide)) (by rfl) T.mg_check_table T.k_check_table T.b_check_table .nil pass0 (pa_cons (pv 7) (pa_cons (pv 8) (pa_cons (pe_lst pa_nil) pa_nil)))))
      (Evl.pss_cut (ps_if (PW.pt (pw_or (pt_cmpR (op_neP hr.units) (pe_call (ok_table T) (hr.mono (by decide)) (by rfl) T.mg_table T.k_table T.b_table .nil pass0 (pa_cons (pv 7) (pa_cons (pv 8) pa_nil))) (pe_ifExp (pt_val (pv 9)) (pe_lst pa_nil) pe_non) (nomark _)) (pw_or (pt_not (pt_val (pe_callB call_isi (by rfl) T.b_isinstance (by decide +kernel) (pa_cons (pv 10) (pa_cons (pe_bltn (v := .ty "bool") (by rfl) T.b_bool (by decide +kernel) rfl) pa_nil))))) (pw_or1 (pt_cmpR op_ne (pv 10) (pv 9) (nomark _)))))) (pss_one (ps_ret pe_bl)) pss_nil)
      (pss_cons (ps_if (pt_cmpR op_isnot_bl (pe_call (ok_check_table T) (hr.mono (by decide)) (by rfl) T.mg_check_table T.k_check_table T.b_check_table .nil pass0 (pa_cons (pv 7) (pa_cons (pv 8) (pa_cons (pe_lst (pa_cons (pe_tup (pa_cons (pe_ix ix_list (pv 5) pe_int (fun _ _ => rfl)) (pa_cons (pe_ix ix_list (pv 6) pe_int (fun _ _ => rfl)) (pa_cons pe_str pa_nil)))) pa_nil)) pa_nil)))) pe_bl (nomark _)) (pss_one (ps_ret pe_bl)) pss_nil)
      (pss_cons (ps_if (PW.pt (pw_or (pt_cmpR op_isnot_bl (pe_call (ok_check_table T) (hr.mono (by decide)) (by rfl) T.mg_check_table T.k_check_table T.b_check_table .nil pass0 (pa_cons (pv 7) (pa_cons (pv 8) (pa_cons pe_non pa_nil)))) pe_bl (nomark _)) (pw_or1 (pt_cmpR op_isnot_bl (pe_call (ok_check_table T) (hr.mono (by decide)) (by rfl) T.mg_check_table T.k_check_table T.b_check_table .nil pass0 (pa_cons (pv 7) (pa_cons (pv 8) (pa_cons (pe_tup pa_nil) pa_nil)))) pe_bl (nomark _))))) (pss_one (ps_ret pe_bl)) pss_nil)
      (pss_one (ps_ret (pe_cmpR op_eq (pe_cmpR (op_eqP hr.units) (by exact (pe_callK0 (ok_table T) (hr.mono (by decide)) (by rfl) T.mg_table T.k_table (kb1_table T) (fun _ _ _ _ _ _ _ h => False.elim h : ∀ z : L2.St, PassesAt L2.CX0 _ z ((fun _ => L2.E0) z)) (by exact (pk_cons (pv 8) (pk_cons (pv 7) pk_nil))))) (pe_lst pa_nil) (nomark _)) (pe_call (ok__law_alike T) (hr.mono (by decide)) (by rfl) T.mg__law_alike T.k__law_alike T.b__law_alike .nil pass0 (pa_cons (pv 3) (pa_cons (pv 2) pa_nil))) (nomark _))))))))))))))))), ?_⟩
  clear nd hr
  replace h := sp1_of h
  obtain ⟨v_script, rfl, h⟩ := h

  obtain ⟨l, ns, rfl, hS, hn, k⟩ := h
  refine ⟨_, rfl, _, rfl, l, ns, rfl, hS, hn, fun d H1 hdp hdl e0 r1 => ?_⟩
  refine ⟨_, rfl, _, rfl, d, rfl, r1, fun v1 kd1 H2 hl1 ok1 e2 r2 => ?_⟩
  refine ⟨_, rfl, ?_⟩
  refine ⟨_, rfl, _, _, rfl, d, _, rfl, rfl, r2, by decide, small_log (by decide) (by decide), fun v3 H3 a3 b3 e3 r3 => ⟨_, rfl, by omega, by omega, ?_⟩⟩
  refine for_it walk_range (fun i σ' H' => ∃ v2 kd2 a4, σ' = [some (.ref l), some (.ref d.p), some v1, some v2, a4, none, none, none, none, none, none] ∧ LfAt H' v1 kd1 ∧ LfAt H' v2 kd2 ∧ OkL kd2 ∧ Rng d H') ⟨v1, kd1, _, rfl, hl1.keep (TupKeep.chg r2 e3), hl1.keep (TupKeep.chg r2 e3), ok1, r3⟩ (fun _ _ _ _ _ => trivial) ?_ ?_
  · rintro i xv σ' H4 H4' hi ⟨v2, kd2, a4, rfl, hl14, hl24, ok2, r4⟩ ⟨rfl, rfl⟩
    exact ⟨_, rfl, _, rfl, _, _, rfl, d, kd2, rfl, r4, hl24, ok2, fun v3 kd3 H5 hl3 ok3 e5 r5 => ⟨_, _, _, rfl, hl14.keep (TupKeep.chg r4 e5), hl3, ok3, r5⟩⟩
  rintro σ' H4 ⟨v2, kd2, a4, rfl, hl14, hl24, ok2, r4⟩
  refine ⟨_, rfl, _, rfl, _, _, rfl, d, kd1, rfl, r4, hl14, fun q1 p1 kvs1 ys1 rr1 c1 H6 hq1 hp1 pk1 nd1 okn1 l31 gl1 c11 c15 nq1 np1 e6 r6 => ?_⟩
  have hl16 := hl14.keep (TupKeep.chg r4 e6)
  have hl26 := hl24.keep (TupKeep.chg r4 e6)
  refine ⟨_, rfl, _, rfl, _, _, rfl, d, kd2, rfl, r6, hl26, fun q2 p2 kvs2 ys2 rr2 c2 H7 hq2 hp2 pk2 nd2 okn2 l32 gl2 c21 c25 nq2 np2 e7 r7 => ?_⟩
  have tk7 := TupKeep.chg r6 e7
  have hl17 := hl16.keep tk7
  have hl27 := hl26.keep tk7
  have hq1 := e7 _ _ nq1 hq1
  have hp1 := e7 _ _ np1 hp1
  have pk1 : Paired (LfP H7) kvs1 (tbOf kd1 ys1) := paired_impE (fun _ _ q => ⟨q.1, q.2.keep tk7⟩) pk1
  clear e0 e2 e6 e7 r1 r2 r3 r4 r6 r7 hl14 hl24 hl16 hl26 hl1
  obtain ⟨_, rs1⟩ := tb_facts (c := c1) ok1 nd1 okn1 l31 gl1 c11 c15
  obtain ⟨_, rs2⟩ := tb_facts (c := c2) ok2 nd2 okn2 l32 gl2 c21 c25
  have lf1 := (leaf_plain ok1).2.2.2.2.2
  have lf2 := (leaf_plain ok2).2.2.2.2.2
  obtain ⟨k1, look1, no1⟩ := tb_root ok1 okn1 gl1
  obtain ⟨k2, look2, no2⟩ := tb_root ok2 okn2 gl2
  refine ⟨_, rfl, _, rfl, q1, p1, kvs1, kd1, ys1, rr1, c1, rfl, hq1, hp1, pk1, ok1, nd1, okn1, l31, gl1, c11, c15, fun x rk H8 ex e8 => ?_⟩
  refine ⟨_, rfl, _, rfl, q2, p2, kvs2, kd2, ys2, rr2, c2, rfl, e8 _ _ hq2, e8 _ _ hp2, paired_impE (fun _ _ q => ⟨q.1, q.2.keep (TupKeep.same e8)⟩) pk2, ok2, nd2, okn2, l32, gl2, c21, c25, fun y rk2 H9 ey e9 => ?_⟩
  have e89 := e8.trans e9
  refine ⟨_, rfl, _, rfl, _, _, rfl, kd1, kd2, hl17.keep (TupKeep.same e89), ok1, hl27.keep (TupKeep.same e89), ok2, fun H10 e10 => ?_⟩
  rw [law_l ok1 ok2]
  refine ⟨_, rfl, _, rfl, (by show 0 ≤ sizeLine; rw [sizeLine_eq]; decide), fun z hz => ?_⟩
  have e11 := e10.trans (same_new (o := .lst []) hz)
  have hz1 : (upd H10 z (.lst [])) z = some (.lst []) := upd_same
  generalize upd H10 z (.lst []) = H11 at e11 hz1 ⊢
  refine ⟨_, _, _, rfl, x, y, tbOf kd1 ys1, tbOf kd2 ys2, rr1, rr2, c1, c2, _, _, kd1, kd2, none, rfl, rfl, .lst hz1, ex.same (e9.trans e11), ey.same e11, rs1, lf1, rs2, lf2, fun H12 e12 => ?_⟩
  have ex := ex.same ((e9.trans e11).trans e12)
  have ey := ey.same (e11.trans e12)
  have e812 := (e89.trans e11).trans e12
  have hq1 := e812 _ _ hq1
  have hq2 := e812 _ _ hq2
  have hl1 := hl17.keep (TupKeep.same e812)
  have hl2 := hl27.keep (TupKeep.same e812)
  show Evl.tCut _ _ _ _ _
  refine ⟨fun σ' H' => σ' = [some (.ref l), some (.ref d.p), some v1, some v2, a4, some (.ref q1), some (.ref q2), some (.ref x), some (.ref y), some (.bl (alL kd1 kd2)), some (.bl (alL kd1 kd2))] ∧ Same H12 H', ?_, ?_⟩
  · have rest : ∀ H', Same H12 H' → VT K H' (.bl (alL kd1 kd2)) (.type "bool") := fun H' _ => .bl _
    refine ⟨_, rfl, _, rfl, _, _, rfl, x, y, tbOf kd1 ys1, tbOf kd2 ys2, rr1, rr2, c1, c2, _, _, kd1, kd2, rfl, rfl, ex, ey, rs1, lf1, rs2, lf2, ?_⟩
    cases eb : alL kd1 kd2 with
    | true =>
      refine iteY fun p H13 hp _ e13 => ?_
      refine ⟨_, rfl, _, rfl, iteB (fun _ => ?_) (fun g => nomatch g)⟩
      refine ⟨(by show 0 ≤ sizeLine; rw [sizeLine_eq]; decide), fun z2 hz2 => ?_⟩
      have e14 := same_new (o := .lst []) hz2
      refine ⟨_, _, dp_nil (e14 _ _ hp), dp_nil upd_same, rfl, rfl, by decide, _, rfl, iteB (fun g => absurd g (by decide)) (fun _ => ?_)⟩
      refine ⟨_, rfl, _, _, _, _, _, rfl, .ty _, (VT.bl (K := K) (H := (upd H13 z2 (.lst []))) true).tyx, kit_isa (VT.bl (K := K) (H := (upd H13 z2 (.lst []))) true).tag (by decide), _, rfl, iteB (fun g => absurd g (by decide)) (fun _ => ?_)⟩
      exact ⟨_, rfl, _, rfl, rfl, _, rfl, iteB (fun g => by simp at g) (fun _ => ⟨rfl, e13.trans e14⟩)⟩
    | false =>
      refine iteF fun H13 e13 => ?_
      refine ⟨_, rfl, _, rfl, iteB (fun g => nomatch g) (fun _ => ?_)⟩
      refine ⟨.none, .none, .non, .non, rfl, rfl, by decide, _, rfl, iteB (fun g => absurd g (by decide)) (fun _ => ?_)⟩
      refine ⟨_, rfl, _, _, _, _, _, rfl, .ty _, (VT.bl (K := K) (H := H13) false).tyx, kit_isa (VT.bl (K := K) (H := H13) false).tag (by decide), _, rfl, iteB (fun g => absurd g (by decide)) (fun _ => ?_)⟩
      exact ⟨_, rfl, _, rfl, rfl, _, rfl, iteB (fun g => by simp at g) (fun _ => ⟨rfl, e13⟩)⟩
  rintro σ' H13 ⟨rfl, e13⟩
  have ex := ex.same e13
  have ey := ey.same e13
  have hq1 := e13 _ _ hq1
  have hq2 := e13 _ _ hq2
  have hl1 := hl1.keep (TupKeep.same e13)
  have hl2 := hl2.keep (TupKeep.same e13)
  refine ⟨_, rfl, _, rfl, _, rfl, _, _, _, _, rfl, rfl, SqL.of hq1, rfl, _, rfl, _, _, _, _, rfl, rfl, SqL.of hq2, rfl, (by show 3 ≤ sizeLine; rw [sizeLine_eq]; decide), fun t ht => ⟨(by show 1 ≤ sizeLine; rw [sizeLine_eq]; decide), fun u hu => ?_⟩⟩
  have s1 := same_new (o := .tup [.str rr1, .str rr2, .str "alike"]) ht
  have s2 := s1.trans (same_new (o := .lst [.ref t]) hu)
  have ht1 := (same_new (o := .lst [.ref t]) hu) _ _ (upd_same (H := H13) (a := t) (o := .tup [.str rr1, .str rr2, .str "alike"]))
  have hu1 : (upd (upd H13 t (.tup [.str rr1, .str rr2, .str "alike"])) u (.lst [.ref t])) u = some (.lst [.ref t]) := upd_same
  generalize upd (upd H13 t (.tup [.str rr1, .str rr2, .str "alike"])) u (.lst [.ref t]) = H14 at s2 ht1 hu1 ⊢
  refine ⟨_, _, _, rfl, x, y, tbOf kd1 ys1, tbOf kd2 ys2, rr1, rr2, c1, c2, _, _, kd1, kd2, some false, rfl, rfl, .one hu1 ht1 look1 look2 (no1 k2), ex.same s2, ey.same s2, rs1, lf1, rs2, lf2, fun H15 e15 => ?_⟩
  refine ⟨_, _, rfl, rfl, _, rfl, iteB (fun g => nomatch (show (false : Bool) = true from g)) (fun _ => ?_)⟩
  have ex := ex.same (s2.trans e15)
  have ey := ey.same (s2.trans e15)
  have hl1 := hl1.keep (TupKeep.same (s2.trans e15))
  have hl2 := hl2.keep (TupKeep.same (s2.trans e15))
  refine ⟨_, rfl, _, rfl, _, _, _, rfl, x, y, tbOf kd1 ys1, tbOf kd2 ys2, rr1, rr2, c1, c2, _, _, kd1, kd2, some false, rfl, rfl, .non, ex, ey, rs1, lf1, rs2, lf2, fun H16 e16 => ?_⟩
  refine ⟨_, _, rfl, rfl, _, rfl, iteB (fun g => nomatch (show (false : Bool) = true from g)) (fun _ => ?_)⟩
  refine ⟨_, rfl, _, rfl, (by show 0 ≤ sizeLine; rw [sizeLine_eq]; decide), fun w hw => ?_⟩
  have s3 := e16.trans (same_new (o := .tup []) hw)
  have hw1 : (upd H16 w (.tup [])) w = some (.tup []) := upd_same
  generalize upd H16 w (.tup []) = H17 at s3 hw1 ⊢
  refine ⟨_, _, _, rfl, x, y, tbOf kd1 ys1, tbOf kd2 ys2, rr1, rr2, c1, c2, _, _, kd1, kd2, some false, rfl, rfl, .tup hw1, ex.same s3, ey.same s3, rs1, lf1, rs2, lf2, fun H18 e18 => ?_⟩
  refine ⟨_, _, rfl, rfl, _, rfl, iteB (fun g => nomatch (show (false : Bool) = true from g)) (fun _ => ?_)⟩
  have ex := ex.same (s3.trans e18)
  have ey := ey.same (s3.trans e18)
  have hl1 := hl1.keep (TupKeep.same (s3.trans e18))
  have hl2 := hl2.keep (TupKeep.same (s3.trans e18))
  refine ⟨_, rfl, _, rfl, rfl, _, _, rfl, y, x, tbOf kd2 ys2, tbOf kd1 ys1, rr2, rr1, c2, c1, _, _, kd2, kd1, rfl, rfl, ey, ex, rs2, lf2, rs1, lf1, ?_⟩
  cases eb : alL kd2 kd1 with
  | true =>
    refine iteY fun p H19 hp _ e19 => ?_
    refine ⟨(by show 0 ≤ sizeLine; rw [sizeLine_eq]; decide), fun z2 hz2 => ?_⟩
    have e20 := same_new (o := .lst []) hz2
    refine ⟨_, _, dp_nil (e20 _ _ hp), dp_nil upd_same, rfl, rfl, by decide, ?_⟩
    refine ⟨_, rfl, _, rfl, _, _, rfl, kd2, kd1, hl2.keep (TupKeep.same (e19.trans e20)), ok2, hl1.keep (TupKeep.same (e19.trans e20)), ok1, fun H21 e21 => ⟨rfl, ?_⟩⟩
    rw [law_l ok2 ok1, eb]
    exact k H21
  | false =>
    refine iteF fun H19 e19 => ?_
    refine ⟨(by show 0 ≤ sizeLine; rw [sizeLine_eq]; decide), fun z2 hz2 => ?_⟩
    have e20 := same_new (o := .lst []) hz2
    refine ⟨_, _, .non, dp_nil upd_same, rfl, rfl, by decide, ?_⟩
    refine ⟨_, rfl, _, rfl, _, _, rfl, kd2, kd1, hl2.keep (TupKeep.same (e19.trans e20)), ok2, hl1.keep (TupKeep.same (e19.trans e20)), ok1, fun H21 e21 => ⟨rfl, ?_⟩⟩
    rw [law_l ok2 ok1, eb]
    exact k H21
end
theorem txt_of {K : PySem.W.Frag} {h : Heap} {mg : Str → Option Value} (X : K.In h) (G : h.Ns mainGlobals mg) (c : SaysP fa fn fc fp tf fx h K) :
    ∃ A : Ad, Txt K mg A ∧ mg "law" = some (.ref A.f_law) ∧ (∀ (s : Shared) (v : Value), BindsTo s A.d_law ⟨[v], []⟩ [("script", v)]) := by
  obtain ⟨e_BadKind___init__, F_BadKind___init__⟩ := c.d.def_ 0 (d := dd_BadKind___init__) rfl
  obtain ⟨e_is_integer, F_is_integer⟩ := c.d.def_ 1 (d := dd_is_integer) rfl
  obtain ⟨e_is_bits, F_is_bits⟩ := c.d.def_ 2 (d := dd_is_bits) rfl
  obtain ⟨e_is_name, F_is_name⟩ := c.d.def_ 3 (d := dd_is_name) rfl
  obtain ⟨e_is_word, F_is_word⟩ := c.d.def_ 4 (d := dd_is_word) rfl
  obtain ⟨e_begins, F_begins⟩ := c.d.def_ 5 (d := dd_begins) rfl
  obtain ⟨e_is_width, F_is_width⟩ := c.d.def_ 6 (d := dd_is_width) rfl
  obtain ⟨e_Number___init__, F_Number___init__⟩ := c.d.def_ 7 (d := dd_Number___init__) rfl
  obtain ⟨e_Bits___init__, F_Bits___init__⟩ := c.d.def_ 8 (d := dd_Bits___init__) rfl
  obtain ⟨e_Call___init__, F_Call___init__⟩ := c.d.def_ 9 (d := dd_Call___init__) rfl
  obtain ⟨e_Items___init__, F_Items___init__⟩ := c.d.def_ 10 (d := dd_Items___init__) rfl
  obtain ⟨e_is_simple, F_is_simple⟩ := c.d.def_ 11 (d := dd_is_simple) rfl
  obtain ⟨e_check_inner, F_check_inner⟩ := c.d.def_ 12 (d := dd_check_inner) rfl
  obtain ⟨e_Way___init__, F_Way___init__⟩ := c.d.def_ 13 (d := dd_Way___init__) rfl
  obtain ⟨e_Door___init__, F_Door___init__⟩ := c.d.def_ 14 (d := dd_Door___init__) rfl
  obtain ⟨e_are_ways, F_are_ways⟩ := c.d.def_ 15 (d := dd_are_ways) rfl
  obtain ⟨e_Choice___init__, F_Choice___init__⟩ := c.d.def_ 16 (d := dd_Choice___init__) rfl
  obtain ⟨e_Part___init__, F_Part___init__⟩ := c.d.def_ 17 (d := dd_Part___init__) rfl
  obtain ⟨e_Room___init__, F_Room___init__⟩ := c.d.def_ 18 (d := dd_Room___init__) rfl
  obtain ⟨e_are_parts, F_are_parts⟩ := c.d.def_ 19 (d := dd_are_parts) rfl
  obtain ⟨e_Row___init__, F_Row___init__⟩ := c.d.def_ 20 (d := dd_Row___init__) rfl
  obtain ⟨e_number_form, F_number_form⟩ := c.d.def_ 21 (d := dd_number_form) rfl
  obtain ⟨e_Plan___init__, F_Plan___init__⟩ := c.d.def_ 22 (d := dd_Plan___init__) rfl
  obtain ⟨e_resolved, F_resolved⟩ := c.d.def_ 23 (d := dd_resolved) rfl
  obtain ⟨e_wide_form, F_wide_form⟩ := c.d.def_ 24 (d := dd_wide_form) rfl
  obtain ⟨e_are_numbers_alike, F_are_numbers_alike⟩ := c.d.def_ 25 (d := dd_are_numbers_alike) rfl
  obtain ⟨e_are_leaves_alike, F_are_leaves_alike⟩ := c.d.def_ 26 (d := dd_are_leaves_alike) rfl
  obtain ⟨e_are_named_alike, F_are_named_alike⟩ := c.d.def_ 27 (d := dd_are_named_alike) rfl
  obtain ⟨e_Needs___init__, F_Needs___init__⟩ := c.d.def_ 28 (d := dd_Needs___init__) rfl
  obtain ⟨e_Needs_of_kinds, F_Needs_of_kinds⟩ := c.d.def_ 29 (d := dd_Needs_of_kinds) rfl
  obtain ⟨e_Needs_of_roots, F_Needs_of_roots⟩ := c.d.def_ 30 (d := dd_Needs_of_roots) rfl
  obtain ⟨e_Needs_of_triple, F_Needs_of_triple⟩ := c.d.def_ 31 (d := dd_Needs_of_triple) rfl
  obtain ⟨e_table, F_table⟩ := c.d.def_ 32 (d := dd_table) rfl
  obtain ⟨e_is_triple, F_is_triple⟩ := c.d.def_ 33 (d := dd_is_triple) rfl
  obtain ⟨e_are_kept, F_are_kept⟩ := c.d.def_ 34 (d := dd_are_kept) rfl
  obtain ⟨e_check_table, F_check_table⟩ := c.d.def_ 35 (d := dd_check_table) rfl
  obtain ⟨e_inner_kinds, F_inner_kinds⟩ := c.d.def_ 36 (d := dd_inner_kinds) rfl
  obtain ⟨e_called, F_called⟩ := c.d.def_ 37 (d := dd_called) rfl
  obtain ⟨e_reached, F_reached⟩ := c.d.def_ 38 (d := dd_reached) rfl
  obtain ⟨e_missing_name, F_missing_name⟩ := c.d.def_ 39 (d := dd_missing_name) rfl
  obtain ⟨e_ring_name, F_ring_name⟩ := c.d.def_ 40 (d := dd_ring_name) rfl
  obtain ⟨e_call_order, F_call_order⟩ := c.d.def_ 41 (d := dd_call_order) rfl
  obtain ⟨e_number_lengths, F_number_lengths⟩ := c.d.def_ 42 (d := dd_number_lengths) rfl
  obtain ⟨e_Lengths___init__, F_Lengths___init__⟩ := c.d.def_ 43 (d := dd_Lengths___init__) rfl
  obtain ⟨e_Lengths_sums, F_Lengths_sums⟩ := c.d.def_ 44 (d := dd_Lengths_sums) rfl
  obtain ⟨e_Lengths_of_kind, F_Lengths_of_kind⟩ := c.d.def_ 45 (d := dd_Lengths_of_kind) rfl
  obtain ⟨e_Lengths_of_items, F_Lengths_of_items⟩ := c.d.def_ 46 (d := dd_Lengths_of_items) rfl
  obtain ⟨e_Lengths_of_body, F_Lengths_of_body⟩ := c.d.def_ 47 (d := dd_Lengths_of_body) rfl
  obtain ⟨e_Lengths_of_named, F_Lengths_of_named⟩ := c.d.def_ 48 (d := dd_Lengths_of_named) rfl
  obtain ⟨e_Lengths_of_row, F_Lengths_of_row⟩ := c.d.def_ 49 (d := dd_Lengths_of_row) rfl
  obtain ⟨e_Lengths_is_long, F_Lengths_is_long⟩ := c.d.def_ 50 (d := dd_Lengths_is_long) rfl
  obtain ⟨e_long_body, F_long_body⟩ := c.d.def_ 51 (d := dd_long_body) rfl
  obtain ⟨e_are_kinds, F_are_kinds⟩ := c.d.def_ 52 (d := dd_are_kinds) rfl
  obtain ⟨e_check_parts, F_check_parts⟩ := c.d.def_ 53 (d := dd_check_parts) rfl
  obtain ⟨e_is_taken, F_is_taken⟩ := c.d.def_ 54 (d := dd_is_taken) rfl
  obtain ⟨e_last_taken, F_last_taken⟩ := c.d.def_ 55 (d := dd_last_taken) rfl
  obtain ⟨e_check_rooms, F_check_rooms⟩ := c.d.def_ 56 (d := dd_check_rooms) rfl
  obtain ⟨e_Edition___init__, F_Edition___init__⟩ := c.d.def_ 57 (d := dd_Edition___init__) rfl
  obtain ⟨e__law_start, F__law_start⟩ := c.d.def_ 58 (d := dd__law_start) rfl
  obtain ⟨e__law_pull, F__law_pull⟩ := c.d.def_ 59 (d := dd__law_pull) rfl
  obtain ⟨e__law_big, F__law_big⟩ := c.d.def_ 60 (d := dd__law_big) rfl
  obtain ⟨e__law_word, F__law_word⟩ := c.d.def_ 61 (d := dd__law_word) rfl
  obtain ⟨e__law_names, F__law_names⟩ := c.d.def_ 62 (d := dd__law_names) rfl
  obtain ⟨e__law_kind, F__law_kind⟩ := c.d.def_ 63 (d := dd__law_kind) rfl
  obtain ⟨e__law_edition, F__law_edition⟩ := c.d.def_ 64 (d := dd__law_edition) rfl
  obtain ⟨e__law_short, F__law_short⟩ := c.d.def_ 65 (d := dd__law_short) rfl
  obtain ⟨e__law_code, F__law_code⟩ := c.d.def_ 66 (d := dd__law_code) rfl
  obtain ⟨e__law_number_bits, F__law_number_bits⟩ := c.d.def_ 67 (d := dd__law_number_bits) rfl
  obtain ⟨e__law_number, F__law_number⟩ := c.d.def_ 68 (d := dd__law_number) rfl
  obtain ⟨e__law_bent_number, F__law_bent_number⟩ := c.d.def_ 69 (d := dd__law_bent_number) rfl
  obtain ⟨e__law_leaf, F__law_leaf⟩ := c.d.def_ 70 (d := dd__law_leaf) rfl
  obtain ⟨e__law_bent_leaf, F__law_bent_leaf⟩ := c.d.def_ 71 (d := dd__law_bent_leaf) rfl
  obtain ⟨e__law_called, F__law_called⟩ := c.d.def_ 72 (d := dd__law_called) rfl
  obtain ⟨e__law_numbers_alike, F__law_numbers_alike⟩ := c.d.def_ 73 (d := dd__law_numbers_alike) rfl
  obtain ⟨e__law_alike, F__law_alike⟩ := c.d.def_ 74 (d := dd__law_alike) rfl
  obtain ⟨e_law, F_law⟩ := c.d.def_ 75 (d := dd_law) rfl
  obtain ⟨e_Counter___init__, F_Counter___init__⟩ := c.clo 0 (d := dc_Counter___init__) rfl
  obtain ⟨e_Machine___init__, F_Machine___init__⟩ := c.clo 1 (d := dc_Machine___init__) rfl
  exact ⟨{ f_BadKind___init__ := (He.ma K (He.ga K "BadKind") "__init__"), d_BadKind___init__ := e_BadKind___init__, f_is_integer := (He.ga K "is_integer"), d_is_integer := e_is_integer, f_is_bits := (He.ga K "is_bits"), d_is_bits := e_is_bits, f_is_name := (He.ga K "is_name"), d_is_name := e_is_name, f_is_word := (He.ga K "is_word"), d_is_word := e_is_word, f_begins := (He.ga K "begins"), d_begins := e_begins, f_is_width := (He.ga K "is_width"), d_is_width := e_is_width, f_Number___init__ := (He.ma K (He.ga K "Number") "__init__"), d_Number___init__ := e_Number___init__, f_Bits___init__ := (He.ma K (He.ga K "Bits") "__init__"), d_Bits___init__ := e_Bits___init__, f_Call___init__ := (He.ma K (He.ga K "Call") "__init__"), d_Call___init__ := e_Call___init__, f_Items___init__ := (He.ma K (He.ga K "Items") "__init__"), d_Items___init__ := e_Items___init__, f_is_simple := (He.ga K "is_simple"), d_is_simple := e_is_simple, f_check_inner := (He.ga K "check_inner"), d_check_inner := e_check_inner, f_Way___init__ := (He.ma K (He.ga K "Way") "__init__"), d_Way___init__ := e_Way___init__, f_Door___init__ := (He.ma K (He.ga K "Door") "__init__"), d_Door___init__ := e_Door___init__, f_are_ways := (He.ga K "are_ways"), d_are_ways := e_are_ways, f_Choice___init__ := (He.ma K (He.ga K "Choice") "__init__"), d_Choice___init__ := e_Choice___init__, f_Part___init__ := (He.ma K (He.ga K "Part") "__init__"), d_Part___init__ := e_Part___init__, f_Room___init__ := (He.ma K (He.ga K "Room") "__init__"), d_Room___init__ := e_Room___init__, f_are_parts := (He.ga K "are_parts"), d_are_parts := e_are_parts, f_Row___init__ := (He.ma K (He.ga K "Row") "__init__"), d_Row___init__ := e_Row___init__, f_number_form := (He.ga K "number_form"), d_number_form := e_number_form, f_Plan___init__ := (He.ma K (He.ga K "Plan") "__init__"), d_Plan___init__ := e_Plan___init__, f_resolved := (He.ga K "resolved"), d_resolved := e_resolved, f_wide_form := (He.ga K "wide_form"), d_wide_form := e_wide_form, f_are_numbers_alike := (He.ga K "are_numbers_alike"), d_are_numbers_alike := e_are_numbers_alike, f_are_leaves_alike := (He.ga K "are_leaves_alike"), d_are_leaves_alike := e_are_leaves_alike, f_are_named_alike := (He.ga K "are_named_alike"), d_are_named_alike := e_are_named_alike, f_Needs___init__ := (He.ma K (He.ga K "Needs") "__init__"), d_Needs___init__ := e_Needs___init__, f_Needs_of_kinds := (He.ma K (He.ga K "Needs") "of_kinds"), d_Needs_of_kinds := e_Needs_of_kinds, f_Needs_of_roots := (He.ma K (He.ga K "Needs") "of_roots"), d_Needs_of_roots := e_Needs_of_roots, f_Needs_of_triple := (He.ma K (He.ga K "Needs") "of_triple"), d_Needs_of_triple := e_Needs_of_triple, f_table := (He.ga K "table"), d_table := e_table, f_is_triple := (He.ga K "is_triple"), d_is_triple := e_is_triple, f_are_kept := (He.ga K "are_kept"), d_are_kept := e_are_kept, f_check_table := (He.ga K "check_table"), d_check_table := e_check_table, f_inner_kinds := (He.ga K "inner_kinds"), d_inner_kinds := e_inner_kinds, f_called := (He.ga K "called"), d_called := e_called, f_reached := (He.ga K "reached"), d_reached := e_reached, f_missing_name := (He.ga K "missing_name"), d_missing_name := e_missing_name, f_ring_name := (He.ga K "ring_name"), d_ring_name := e_ring_name, f_call_order := (He.ga K "call_order"), d_call_order := e_call_order, f_number_lengths := (He.ga K "number_lengths"), d_number_lengths := e_number_lengths, f_Lengths___init__ := (He.ma K (He.ga K "Lengths") "__init__"), d_Lengths___init__ := e_Lengths___init__, f_Lengths_sums := (He.ma K (He.ga K "Lengths") "sums"), d_Lengths_sums := e_Lengths_sums, f_Lengths_of_kind := (He.ma K (He.ga K "Lengths") "of_kind"), d_Lengths_of_kind := e_Lengths_of_kind, f_Lengths_of_items := (He.ma K (He.ga K "Lengths") "of_items"), d_Lengths_of_items := e_Lengths_of_items, f_Lengths_of_body := (He.ma K (He.ga K "Lengths") "of_body"), d_Lengths_of_body := e_Lengths_of_body, f_Lengths_of_named := (He.ma K (He.ga K "Lengths") "of_named"), d_Lengths_of_named := e_Lengths_of_named, f_Lengths_of_row := (He.ma K (He.ga K "Lengths") "of_row"), d_Lengths_of_row := e_Lengths_of_row, f_Lengths_is_long := (He.ma K (He.ga K "Lengths") "is_long"), d_Lengths_is_long := e_Lengths_is_long, f_long_body := (He.ga K "long_body"), d_long_body := e_long_body, f_are_kinds := (He.ga K "are_kinds"), d_are_kinds := e_are_kinds, f_check_parts := (He.ga K "check_parts"), d_check_parts := e_check_parts, f_is_taken := (He.ga K "is_taken"), d_is_taken := e_is_taken, f_last_taken := (He.ga K "last_taken"), d_last_taken := e_last_taken, f_check_rooms := (He.ga K "check_rooms"), d_check_rooms := e_check_rooms, f_Edition___init__ := (He.ma K (He.ga K "Edition") "__init__"), d_Edition___init__ := e_Edition___init__, f__law_start := (He.ga K "_law_start"), d__law_start := e__law_start, f__law_pull := (He.ga K "_law_pull"), d__law_pull := e__law_pull, f__law_big := (He.ga K "_law_big"), d__law_big := e__law_big, f__law_word := (He.ga K "_law_word"), d__law_word := e__law_word, f__law_names := (He.ga K "_law_names"), d__law_names := e__law_names, f__law_kind := (He.ga K "_law_kind"), d__law_kind := e__law_kind, f__law_edition := (He.ga K "_law_edition"), d__law_edition := e__law_edition, f__law_short := (He.ga K "_law_short"), d__law_short := e__law_short, f__law_code := (He.ga K "_law_code"), d__law_code := e__law_code, f__law_number_bits := (He.ga K "_law_number_bits"), d__law_number_bits := e__law_number_bits, f__law_number := (He.ga K "_law_number"), d__law_number := e__law_number, f__law_bent_number := (He.ga K "_law_bent_number"), d__law_bent_number := e__law_bent_number, f__law_leaf := (He.ga K "_law_leaf"), d__law_leaf := e__law_leaf, f__law_bent_leaf := (He.ga K "_law_bent_leaf"), d__law_bent_leaf := e__law_bent_leaf, f__law_called := (He.ga K "_law_called"), d__law_called := e__law_called, f__law_numbers_alike := (He.ga K "_law_numbers_alike"), d__law_numbers_alike := e__law_numbers_alike, f__law_alike := (He.ga K "_law_alike"), d__law_alike := e__law_alike, f_law := (He.ga K "law"), d_law := e_law, f_Counter___init__ := (He.ma K (He.ga K "Counter") "__init__"), d_Counter___init__ := e_Counter___init__, cd_Counter___init__ := cdA K ("Counter", some "__init__"), cc_Counter___init__ := ccA K ("Counter", some "__init__"), f_Machine___init__ := (He.ma K (He.ga K "Machine") "__init__"), d_Machine___init__ := e_Machine___init__, cd_Machine___init__ := cdA K ("Machine", some "__init__"), cc_Machine___init__ := ccA K ("Machine", some "__init__"), c_Nothing := (He.ga K "Nothing"), c_Number := (He.ga K "Number"), c_Bits := (He.ga K "Bits"), c_Call := (He.ga K "Call"), c_Items := (He.ga K "Items"), c_Way := (He.ga K "Way"), c_Door := (He.ga K "Door"), c_Choice := (He.ga K "Choice"), c_Part := (He.ga K "Part"), c_Room := (He.ga K "Room"), c_Row := (He.ga K "Row"), c_Needs := (He.ga K "Needs"), c_Lengths := (He.ga K "Lengths"), c_Counter := (He.ga K "Counter"), c_Machine := (He.ga K "Machine"), c_Edition := (He.ga K "Edition"), c_BadKind := (He.ga K "BadKind") }, { F_BadKind___init__ := He5.fun_of F_BadKind___init__, b_BadKind___init__ := (He5.fun_of (st := s_BadKind___init__) F_BadKind___init__).binds (ps := ["self", "part"]) fun _ _ _ _ _ _ us hl => match us, hl with | [_, _], _ => rfl, k_is_integer := F_is_integer.kp, F_is_integer := He5.fun_of F_is_integer, b_is_integer := (He5.fun_of (st := s_is_integer) F_is_integer).binds (ps := ["thing"]) fun _ _ _ _ _ _ us hl => match us, hl with | [_], _ => rfl, mg_is_integer := He.glo_ok X G (c.d.fact 0 (f := .glo "is_integer") rfl), k_is_bits := F_is_bits.kp, F_is_bits := He5.fun_of F_is_bits, b_is_bits := (He5.fun_of (st := s_is_bits) F_is_bits).binds (ps := ["thing"]) fun _ _ _ _ _ _ us hl => match us, hl with | [_], _ => rfl, mg_is_bits := He.glo_ok X G (c.d.fact 1 (f := .glo "is_bits") rfl), k_is_name := F_is_name.kp, F_is_name := He5.fun_of F_is_name, b_is_name := (He5.fun_of (st := s_is_name) F_is_name).binds (ps := ["thing"]) fun _ _ _ _ _ _ us hl => match us, hl with | [_], _ => rfl, mg_is_name := He.glo_ok X G (c.d.fact 2 (f := .glo "is_name") rfl), k_is_word := F_is_word.kp, F_is_word := He5.fun_of F_is_word, b_is_word := (He5.fun_of (st := s_is_word) F_is_word).binds (ps := ["thing"]) fun _ _ _ _ _ _ us hl => match us, hl with | [_], _ => rfl, mg_is_word := He.glo_ok X G (c.d.fact 3 (f := .glo "is_word") rfl), k_begins := F_begins.kp, F_begins := He5.fun_of F_begins, b_begins := (He5.fun_of (st := s_begins) F_begins).binds (ps := ["one", "other"]) fun _ _ _ _ _ _ us hl => match us, hl with | [_, _], _ => rfl, mg_begins := He.glo_ok X G (c.d.fact 4 (f := .glo "begins") rfl), k_is_width := F_is_width.kp, F_is_width := He5.fun_of F_is_width, b_is_width := (He5.fun_of (st := s_is_width) F_is_width).binds (ps := ["width", "many"]) fun _ _ _ _ _ _ us hl => match us, hl with | [_, _], _ => rfl, mg_is_width := He.glo_ok X G (c.d.fact 5 (f := .glo "is_width") rfl), F_Number___init__ := F_Number___init__, b_Number___init__ := binds_nil rfl (F_Number___init__.binds1 (ps := ["self", "low", "high", "width"]) 4 1 (by simp [dd_Number___init__, He.DefD.dvs]) (by rfl) fun _ _ _ _ _ _ _ us its hu hi => match us, its, hu, hi with | [_, _, _, _], [_], _, _ => ⟨_, rfl, rfl⟩), F_Bits___init__ := He5.fun_of F_Bits___init__, b_Bits___init__ := (He5.fun_of (st := s_Bits___init__) F_Bits___init__).binds (ps := ["self", "many"]) fun _ _ _ _ _ _ us hl => match us, hl with | [_, _], _ => rfl, F_Call___init__ := He5.fun_of F_Call___init__, b_Call___init__ := (He5.fun_of (st := s_Call___init__) F_Call___init__).binds (ps := ["self", "name"]) fun _ _ _ _ _ _ us hl => match us, hl with | [_, _], _ => rfl, F_Items___init__ := F_Items___init__, b_Items___init__ := binds_nil rfl (F_Items___init__.binds1 (ps := ["self", "item", "width"]) 3 1 (by simp [dd_Items___init__, He.DefD.dvs]) (by rfl) fun _ _ _ _ _ _ _ us its hu hi => match us, its, hu, hi with | [_, _, _], [_], _, _ => ⟨_, rfl, rfl⟩), k_is_simple := F_is_simple.kp, F_is_simple := He5.fun_of F_is_simple, b_is_simple := (He5.fun_of (st := s_is_simple) F_is_simple).binds (ps := ["thing"]) fun _ _ _ _ _ _ us hl => match us, hl with | [_], _ => rfl, mg_is_simple := He.glo_ok X G (c.d.fact 6 (f := .glo "is_simple") rfl), k_check_inner := F_check_inner.kp, F_check_inner := He5.fun_of F_check_inner, b_check_inner := (He5.fun_of (st := s_check_inner) F_check_inner).binds (ps := ["word", "name", "is_kind"]) fun _ _ _ _ _ _ us hl => match us, hl with | [_, _, _], _ => rfl, mg_check_inner := He.glo_ok X G (c.d.fact 7 (f := .glo "check_inner") rfl), F_Way___init__ := He5.fun_of F_Way___init__, F_Door___init__ := He5.fun_of F_Door___init__, k_are_ways := F_are_ways.kp, F_are_ways := He5.fun_of F_are_ways, b_are_ways := (He5.fun_of (st := s_are_ways) F_are_ways).binds (ps := ["ways"]) fun _ _ _ _ _ _ us hl => match us, hl with | [_], _ => rfl, mg_are_ways := He.glo_ok X G (c.d.fact 8 (f := .glo "are_ways") rfl), F_Choice___init__ := He5.fun_of F_Choice___init__, F_Part___init__ := He5.fun_of F_Part___init__, F_Room___init__ := He5.fun_of F_Room___init__, k_are_parts := F_are_parts.kp, F_are_parts := He5.fun_of F_are_parts, b_are_parts := (He5.fun_of (st := s_are_parts) F_are_parts).binds (ps := ["parts"]) fun _ _ _ _ _ _ us hl => match us, hl with | [_], _ => rfl, mg_are_parts := He.glo_ok X G (c.d.fact 9 (f := .glo "are_parts") rfl), F_Row___init__ := He5.fun_of F_Row___init__, k_number_form := F_number_form.kp, F_number_form := He5.fun_of F_number_form, b_number_form := (He5.fun_of (st := s_number_form) F_number_form).binds (ps := ["kind"]) fun _ _ _ _ _ _ us hl => match us, hl with | [_], _ => rfl, mg_number_form := He.glo_ok X G (c.d.fact 10 (f := .glo "number_form") rfl), F_Plan___init__ := F_Plan___init__, b_Plan___init__ := binds_nil rfl (F_Plan___init__.binds1 (ps := ["self", "named", "count", "own"]) 4 1 (by simp [dd_Plan___init__, He.DefD.dvs]) (by rfl) fun _ _ _ _ _ _ _ us its hu hi => match us, its, hu, hi with | [_, _, _, _], [_], _, _ => ⟨_, rfl, rfl⟩), k_resolved := F_resolved.kp, F_resolved := He5.fun_of F_resolved, b_resolved := (He5.fun_of (st := s_resolved) F_resolved).binds (ps := ["edition", "kind"]) fun _ _ _ _ _ _ us hl => match us, hl with | [_, _], _ => rfl, mg_resolved := He.glo_ok X G (c.d.fact 11 (f := .glo "resolved") rfl), k_wide_form := F_wide_form.kp, F_wide_form := He5.fun_of F_wide_form, b_wide_form := (He5.fun_of (st := s_wide_form) F_wide_form).binds (ps := ["kind"]) fun _ _ _ _ _ _ us hl => match us, hl with | [_], _ => rfl, mg_wide_form := He.glo_ok X G (c.d.fact 12 (f := .glo "wide_form") rfl), k_are_numbers_alike := F_are_numbers_alike.kp, F_are_numbers_alike := He5.fun_of F_are_numbers_alike, b_are_numbers_alike := (He5.fun_of (st := s_are_numbers_alike) F_are_numbers_alike).binds (ps := ["one", "other"]) fun _ _ _ _ _ _ us hl => match us, hl with | [_, _], _ => rfl, mg_are_numbers_alike := He.glo_ok X G (c.d.fact 13 (f := .glo "are_numbers_alike") rfl), k_are_leaves_alike := F_are_leaves_alike.kp, F_are_leaves_alike := He5.fun_of F_are_leaves_alike, b_are_leaves_alike := (He5.fun_of (st := s_are_leaves_alike) F_are_leaves_alike).binds (ps := ["one", "other"]) fun _ _ _ _ _ _ us hl => match us, hl with | [_, _], _ => rfl, mg_are_leaves_alike := He.glo_ok X G (c.d.fact 14 (f := .glo "are_leaves_alike") rfl), k_are_named_alike := F_are_named_alike.kp, F_are_named_alike := He5.fun_of F_are_named_alike, b_are_named_alike := (He5.fun_of (st := s_are_named_alike) F_are_named_alike).binds (ps := ["one", "other"]) fun _ _ _ _ _ _ us hl => match us, hl with | [_, _], _ => rfl, mg_are_named_alike := He.glo_ok X G (c.d.fact 15 (f := .glo "are_named_alike") rfl), F_Needs___init__ := He5.fun_of F_Needs___init__, b_Needs___init__ := (He5.fun_of (st := s_Needs___init__) F_Needs___init__).binds (ps := ["self", "writer", "reader"]) fun _ _ _ _ _ _ us hl => match us, hl with | [_, _, _], _ => rfl, k_Needs_of_kinds := F_Needs_of_kinds.kp, F_Needs_of_kinds := He5.fun_of F_Needs_of_kinds, b_Needs_of_kinds := (He5.fun_of (st := s_Needs_of_kinds) F_Needs_of_kinds).binds (ps := ["self", "one", "other", "word"]) fun _ _ _ _ _ _ us hl => match us, hl with | [_, _, _, _], _ => rfl, m_Needs_of_kinds := (He.meth_ok (c.d.fact 16 (f := .meth "Needs" "of_kinds") rfl)).at_, i_Needs_of_kinds := (He.meth_ok (c.d.fact 16 (f := .meth "Needs" "of_kinds") rfl)).fn, k_Needs_of_roots := F_Needs_of_roots.kp, F_Needs_of_roots := He5.fun_of F_Needs_of_roots, b_Needs_of_roots := (He5.fun_of (st := s_Needs_of_roots) F_Needs_of_roots).binds (ps := ["self"]) fun _ _ _ _ _ _ us hl => match us, hl with | [_], _ => rfl, m_Needs_of_roots := (He.meth_ok (c.d.fact 17 (f := .meth "Needs" "of_roots") rfl)).at_, i_Needs_of_roots := (He.meth_ok (c.d.fact 17 (f := .meth "Needs" "of_roots") rfl)).fn, k_Needs_of_triple := F_Needs_of_triple.kp, F_Needs_of_triple := He5.fun_of F_Needs_of_triple, b_Needs_of_triple := (He5.fun_of (st := s_Needs_of_triple) F_Needs_of_triple).binds (ps := ["self", "triple"]) fun _ _ _ _ _ _ us hl => match us, hl with | [_, _], _ => rfl, m_Needs_of_triple := (He.meth_ok (c.d.fact 18 (f := .meth "Needs" "of_triple") rfl)).at_, i_Needs_of_triple := (He.meth_ok (c.d.fact 18 (f := .meth "Needs" "of_triple") rfl)).fn, k_table := F_table.kp, F_table := He5.fun_of F_table, b_table := (He5.fun_of (st := s_table) F_table).binds (ps := ["writer", "reader"]) fun _ _ _ _ _ _ us hl => match us, hl with | [_, _], _ => rfl, mg_table := He.glo_ok X G (c.d.fact 19 (f := .glo "table") rfl), k_is_triple := F_is_triple.kp, F_is_triple := He5.fun_of F_is_triple, b_is_triple := (He5.fun_of (st := s_is_triple) F_is_triple).binds (ps := ["writer", "reader", "thing"]) fun _ _ _ _ _ _ us hl => match us, hl with | [_, _, _], _ => rfl, mg_is_triple := He.glo_ok X G (c.d.fact 20 (f := .glo "is_triple") rfl), k_are_kept := F_are_kept.kp, F_are_kept := He5.fun_of F_are_kept, b_are_kept := (He5.fun_of (st := s_are_kept) F_are_kept).binds (ps := ["needed", "held"]) fun _ _ _ _ _ _ us hl => match us, hl with | [_, _], _ => rfl, mg_are_kept := He.glo_ok X G (c.d.fact 21 (f := .glo "are_kept") rfl), k_check_table := F_check_table.kp, F_check_table := He5.fun_of F_check_table, b_check_table := (He5.fun_of (st := s_check_table) F_check_table).binds (ps := ["writer", "reader", "thing"]) fun _ _ _ _ _ _ us hl => match us, hl with | [_, _, _], _ => rfl, mg_check_table := He.glo_ok X G (c.d.fact 22 (f := .glo "check_table") rfl), k_inner_kinds := F_inner_kinds.kp, F_inner_kinds := He5.fun_of F_inner_kinds, b_inner_kinds := (He5.fun_of (st := s_inner_kinds) F_inner_kinds).binds (ps := ["kind"]) fun _ _ _ _ _ _ us hl => match us, hl with | [_], _ => rfl, mg_inner_kinds := He.glo_ok X G (c.d.fact 23 (f := .glo "inner_kinds") rfl), k_called := F_called.kp, F_called := He5.fun_of F_called, b_called := (He5.fun_of (st := s_called) F_called).binds (ps := ["kind"]) fun _ _ _ _ _ _ us hl => match us, hl with | [_], _ => rfl, mg_called := He.glo_ok X G (c.d.fact 24 (f := .glo "called") rfl), k_reached := F_reached.kp, F_reached := He5.fun_of F_reached, b_reached := (He5.fun_of (st := s_reached) F_reached).binds (ps := ["table", "name"]) fun _ _ _ _ _ _ us hl => match us, hl with | [_, _], _ => rfl, mg_reached := He.glo_ok X G (c.d.fact 25 (f := .glo "reached") rfl), k_missing_name := F_missing_name.kp, F_missing_name := He5.fun_of F_missing_name, b_missing_name := (He5.fun_of (st := s_missing_name) F_missing_name).binds (ps := ["table"]) fun _ _ _ _ _ _ us hl => match us, hl with | [_], _ => rfl, mg_missing_name := He.glo_ok X G (c.d.fact 26 (f := .glo "missing_name") rfl), k_ring_name := F_ring_name.kp, F_ring_name := He5.fun_of F_ring_name, b_ring_name := (He5.fun_of (st := s_ring_name) F_ring_name).binds (ps := ["table"]) fun _ _ _ _ _ _ us hl => match us, hl with | [_], _ => rfl, mg_ring_name := He.glo_ok X G (c.d.fact 27 (f := .glo "ring_name") rfl), k_call_order := F_call_order.kp, F_call_order := He5.fun_of F_call_order, b_call_order := (He5.fun_of (st := s_call_order) F_call_order).binds (ps := ["table"]) fun _ _ _ _ _ _ us hl => match us, hl with | [_], _ => rfl, mg_call_order := He.glo_ok X G (c.d.fact 28 (f := .glo "call_order") rfl), k_number_lengths := F_number_lengths.kp, F_number_lengths := He5.fun_of F_number_lengths, b_number_lengths := (He5.fun_of (st := s_number_lengths) F_number_lengths).binds (ps := ["kind"]) fun _ _ _ _ _ _ us hl => match us, hl with | [_], _ => rfl, mg_number_lengths := He.glo_ok X G (c.d.fact 29 (f := .glo "number_lengths") rfl), F_Lengths___init__ := He5.fun_of F_Lengths___init__, b_Lengths___init__ := (He5.fun_of (st := s_Lengths___init__) F_Lengths___init__).binds (ps := ["self", "table", "count"]) fun _ _ _ _ _ _ us hl => match us, hl with | [_, _, _], _ => rfl, k_Lengths_sums := F_Lengths_sums.kp, F_Lengths_sums := He5.fun_of F_Lengths_sums, b_Lengths_sums := (He5.fun_of (st := s_Lengths_sums) F_Lengths_sums).binds (ps := ["self", "ones", "others"]) fun _ _ _ _ _ _ us hl => match us, hl with | [_, _, _], _ => rfl, m_Lengths_sums := (He.meth_ok (c.d.fact 30 (f := .meth "Lengths" "sums") rfl)).at_, i_Lengths_sums := (He.meth_ok (c.d.fact 30 (f := .meth "Lengths" "sums") rfl)).fn, k_Lengths_of_kind := F_Lengths_of_kind.kp, F_Lengths_of_kind := He5.fun_of F_Lengths_of_kind, b_Lengths_of_kind := (He5.fun_of (st := s_Lengths_of_kind) F_Lengths_of_kind).binds (ps := ["self", "kind"]) fun _ _ _ _ _ _ us hl => match us, hl with | [_, _], _ => rfl, m_Lengths_of_kind := (He.meth_ok (c.d.fact 31 (f := .meth "Lengths" "of_kind") rfl)).at_, i_Lengths_of_kind := (He.meth_ok (c.d.fact 31 (f := .meth "Lengths" "of_kind") rfl)).fn, k_Lengths_of_items := F_Lengths_of_items.kp, F_Lengths_of_items := He5.fun_of F_Lengths_of_items, b_Lengths_of_items := (He5.fun_of (st := s_Lengths_of_items) F_Lengths_of_items).binds (ps := ["self", "kind"]) fun _ _ _ _ _ _ us hl => match us, hl with | [_, _], _ => rfl, m_Lengths_of_items := (He.meth_ok (c.d.fact 32 (f := .meth "Lengths" "of_items") rfl)).at_, i_Lengths_of_items := (He.meth_ok (c.d.fact 32 (f := .meth "Lengths" "of_items") rfl)).fn, k_Lengths_of_body := F_Lengths_of_body.kp, F_Lengths_of_body := He5.fun_of F_Lengths_of_body, b_Lengths_of_body := (He5.fun_of (st := s_Lengths_of_body) F_Lengths_of_body).binds (ps := ["self", "word", "kind"]) fun _ _ _ _ _ _ us hl => match us, hl with | [_, _, _], _ => rfl, m_Lengths_of_body := (He.meth_ok (c.d.fact 33 (f := .meth "Lengths" "of_body") rfl)).at_, i_Lengths_of_body := (He.meth_ok (c.d.fact 33 (f := .meth "Lengths" "of_body") rfl)).fn, k_Lengths_of_named := F_Lengths_of_named.kp, F_Lengths_of_named := He5.fun_of F_Lengths_of_named, b_Lengths_of_named := (He5.fun_of (st := s_Lengths_of_named) F_Lengths_of_named).binds (ps := ["self", "kind"]) fun _ _ _ _ _ _ us hl => match us, hl with | [_, _], _ => rfl, m_Lengths_of_named := (He.meth_ok (c.d.fact 34 (f := .meth "Lengths" "of_named") rfl)).at_, i_Lengths_of_named := (He.meth_ok (c.d.fact 34 (f := .meth "Lengths" "of_named") rfl)).fn, k_Lengths_of_row := F_Lengths_of_row.kp, F_Lengths_of_row := He5.fun_of F_Lengths_of_row, b_Lengths_of_row := (He5.fun_of (st := s_Lengths_of_row) F_Lengths_of_row).binds (ps := ["self", "kind"]) fun _ _ _ _ _ _ us hl => match us, hl with | [_, _], _ => rfl, m_Lengths_of_row := (He.meth_ok (c.d.fact 35 (f := .meth "Lengths" "of_row") rfl)).at_, i_Lengths_of_row := (He.meth_ok (c.d.fact 35 (f := .meth "Lengths" "of_row") rfl)).fn, k_Lengths_is_long := F_Lengths_is_long.kp, F_Lengths_is_long := He5.fun_of F_Lengths_is_long, b_Lengths_is_long := (He5.fun_of (st := s_Lengths_is_long) F_Lengths_is_long).binds (ps := ["self", "kind"]) fun _ _ _ _ _ _ us hl => match us, hl with | [_, _], _ => rfl, m_Lengths_is_long := (He.meth_ok (c.d.fact 36 (f := .meth "Lengths" "is_long") rfl)).at_, i_Lengths_is_long := (He.meth_ok (c.d.fact 36 (f := .meth "Lengths" "is_long") rfl)).fn, k_long_body := F_long_body.kp, F_long_body := He5.fun_of F_long_body, b_long_body := (He5.fun_of (st := s_long_body) F_long_body).binds (ps := ["table", "count"]) fun _ _ _ _ _ _ us hl => match us, hl with | [_, _], _ => rfl, mg_long_body := He.glo_ok X G (c.d.fact 37 (f := .glo "long_body") rfl), k_are_kinds := F_are_kinds.kp, F_are_kinds := He5.fun_of F_are_kinds, b_are_kinds := (He5.fun_of (st := s_are_kinds) F_are_kinds).binds (ps := ["kinds"]) fun _ _ _ _ _ _ us hl => match us, hl with | [_], _ => rfl, mg_are_kinds := He.glo_ok X G (c.d.fact 38 (f := .glo "are_kinds") rfl), k_check_parts := F_check_parts.kp, F_check_parts := He5.fun_of F_check_parts, b_check_parts := (He5.fun_of (st := s_check_parts) F_check_parts).binds (ps := ["kinds", "root", "count"]) fun _ _ _ _ _ _ us hl => match us, hl with | [_, _, _], _ => rfl, mg_check_parts := He.glo_ok X G (c.d.fact 39 (f := .glo "check_parts") rfl), k_is_taken := F_is_taken.kp, b_is_taken := (He5.fun_of (st := s_is_taken) F_is_taken).binds (ps := ["machine", "name", "index"]) fun _ _ _ _ _ _ us hl => match us, hl with | [_, _, _], _ => rfl, mg_is_taken := He.glo_ok X G (c.d.fact 40 (f := .glo "is_taken") rfl), k_last_taken := F_last_taken.kp, F_last_taken := He5.fun_of F_last_taken, b_last_taken := (He5.fun_of (st := s_last_taken) F_last_taken).binds (ps := ["machine", "name"]) fun _ _ _ _ _ _ us hl => match us, hl with | [_, _], _ => rfl, mg_last_taken := He.glo_ok X G (c.d.fact 41 (f := .glo "last_taken") rfl), k_check_rooms := F_check_rooms.kp, F_check_rooms := He5.fun_of F_check_rooms, b_check_rooms := (He5.fun_of (st := s_check_rooms) F_check_rooms).binds (ps := ["machine"]) fun _ _ _ _ _ _ us hl => match us, hl with | [_], _ => rfl, mg_check_rooms := He.glo_ok X G (c.d.fact 42 (f := .glo "check_rooms") rfl), F_Edition___init__ := He5.fun_of F_Edition___init__, b_Edition___init__ := (He5.fun_of (st := s_Edition___init__) F_Edition___init__).binds (ps := ["self", "kinds", "root", "count"]) fun _ _ _ _ _ _ us hl => match us, hl with | [_, _, _, _], _ => rfl, k__law_start := F__law_start.kp, F__law_start := He5.fun_of F__law_start, b__law_start := (He5.fun_of (st := s__law_start) F__law_start).binds (ps := ["script"]) fun _ _ _ _ _ _ us hl => match us, hl with | [_], _ => rfl, mg__law_start := He.glo_ok X G (c.d.fact 43 (f := .glo "_law_start") rfl), k__law_pull := F__law_pull.kp, F__law_pull := He5.fun_of F__law_pull, b__law_pull := (He5.fun_of (st := s__law_pull) F__law_pull).binds (ps := ["state", "many"]) fun _ _ _ _ _ _ us hl => match us, hl with | [_, _], _ => rfl, mg__law_pull := He.glo_ok X G (c.d.fact 44 (f := .glo "_law_pull") rfl), k__law_big := F__law_big.kp, F__law_big := He5.fun_of F__law_big, b__law_big := (He5.fun_of (st := s__law_big) F__law_big).binds (ps := ["state", "many"]) fun _ _ _ _ _ _ us hl => match us, hl with | [_, _], _ => rfl, mg__law_big := He.glo_ok X G (c.d.fact 45 (f := .glo "_law_big") rfl), k__law_word := F__law_word.kp, F__law_word := He5.fun_of F__law_word, b__law_word := (He5.fun_of (st := s__law_word) F__law_word).binds (ps := ["state", "size"]) fun _ _ _ _ _ _ us hl => match us, hl with | [_, _], _ => rfl, mg__law_word := He.glo_ok X G (c.d.fact 46 (f := .glo "_law_word") rfl), k__law_names := F__law_names.kp, F__law_names := He5.fun_of F__law_names, b__law_names := (He5.fun_of (st := s__law_names) F__law_names).binds (ps := ["state", "many"]) fun _ _ _ _ _ _ us hl => match us, hl with | [_, _], _ => rfl, mg__law_names := He.glo_ok X G (c.d.fact 47 (f := .glo "_law_names") rfl), k__law_kind := F__law_kind.kp, F__law_kind := He5.fun_of F__law_kind, b__law_kind := (He5.fun_of (st := s__law_kind) F__law_kind).binds (ps := ["told"]) fun _ _ _ _ _ _ us hl => match us, hl with | [_], _ => rfl, mg__law_kind := He.glo_ok X G (c.d.fact 48 (f := .glo "_law_kind") rfl), k__law_edition := F__law_edition.kp, F__law_edition := He5.fun_of F__law_edition, b__law_edition := (He5.fun_of (st := s__law_edition) F__law_edition).binds (ps := ["spec"]) fun _ _ _ _ _ _ us hl => match us, hl with | [_], _ => rfl, mg__law_edition := He.glo_ok X G (c.d.fact 49 (f := .glo "_law_edition") rfl), k__law_short := F__law_short.kp, F__law_short := He5.fun_of F__law_short, b__law_short := (He5.fun_of (st := s__law_short) F__law_short).binds (ps := ["kind"]) fun _ _ _ _ _ _ us hl => match us, hl with | [_], _ => rfl, mg__law_short := He.glo_ok X G (c.d.fact 50 (f := .glo "_law_short") rfl), k__law_code := F__law_code.kp, F__law_code := He5.fun_of F__law_code, b__law_code := (He5.fun_of (st := s__law_code) F__law_code).binds (ps := ["number", "size"]) fun _ _ _ _ _ _ us hl => match us, hl with | [_, _], _ => rfl, mg__law_code := He.glo_ok X G (c.d.fact 51 (f := .glo "_law_code") rfl), k__law_number_bits := F__law_number_bits.kp, F__law_number_bits := He5.fun_of F__law_number_bits, b__law_number_bits := (He5.fun_of (st := s__law_number_bits) F__law_number_bits).binds (ps := ["kind", "value"]) fun _ _ _ _ _ _ us hl => match us, hl with | [_, _], _ => rfl, mg__law_number_bits := He.glo_ok X G (c.d.fact 52 (f := .glo "_law_number_bits") rfl), k__law_number := F__law_number.kp, F__law_number := He5.fun_of F__law_number, b__law_number := (He5.fun_of (st := s__law_number) F__law_number).binds (ps := ["state"]) fun _ _ _ _ _ _ us hl => match us, hl with | [_], _ => rfl, mg__law_number := He.glo_ok X G (c.d.fact 53 (f := .glo "_law_number") rfl), k__law_bent_number := F__law_bent_number.kp, F__law_bent_number := He5.fun_of F__law_bent_number, b__law_bent_number := (He5.fun_of (st := s__law_bent_number) F__law_bent_number).binds (ps := ["state", "kind"]) fun _ _ _ _ _ _ us hl => match us, hl with | [_, _], _ => rfl, mg__law_bent_number := He.glo_ok X G (c.d.fact 54 (f := .glo "_law_bent_number") rfl), k__law_leaf := F__law_leaf.kp, F__law_leaf := He5.fun_of F__law_leaf, b__law_leaf := (He5.fun_of (st := s__law_leaf) F__law_leaf).binds (ps := ["state"]) fun _ _ _ _ _ _ us hl => match us, hl with | [_], _ => rfl, mg__law_leaf := He.glo_ok X G (c.d.fact 55 (f := .glo "_law_leaf") rfl), k__law_bent_leaf := F__law_bent_leaf.kp, F__law_bent_leaf := He5.fun_of F__law_bent_leaf, b__law_bent_leaf := (He5.fun_of (st := s__law_bent_leaf) F__law_bent_leaf).binds (ps := ["state", "kind"]) fun _ _ _ _ _ _ us hl => match us, hl with | [_, _], _ => rfl, mg__law_bent_leaf := He.glo_ok X G (c.d.fact 56 (f := .glo "_law_bent_leaf") rfl), k__law_called := F__law_called.kp, F__law_called := He5.fun_of F__law_called, b__law_called := (He5.fun_of (st := s__law_called) F__law_called).binds (ps := ["state", "kind"]) fun _ _ _ _ _ _ us hl => match us, hl with | [_, _], _ => rfl, mg__law_called := He.glo_ok X G (c.d.fact 57 (f := .glo "_law_called") rfl), k__law_numbers_alike := F__law_numbers_alike.kp, F__law_numbers_alike := He5.fun_of F__law_numbers_alike, b__law_numbers_alike := (He5.fun_of (st := s__law_numbers_alike) F__law_numbers_alike).binds (ps := ["one", "other"]) fun _ _ _ _ _ _ us hl => match us, hl with | [_, _], _ => rfl, mg__law_numbers_alike := He.glo_ok X G (c.d.fact 58 (f := .glo "_law_numbers_alike") rfl), k__law_alike := F__law_alike.kp, F__law_alike := He5.fun_of F__law_alike, b__law_alike := (He5.fun_of (st := s__law_alike) F__law_alike).binds (ps := ["one", "other"]) fun _ _ _ _ _ _ us hl => match us, hl with | [_, _], _ => rfl, mg__law_alike := He.glo_ok X G (c.d.fact 59 (f := .glo "_law_alike") rfl), k_law := F_law.kp, F_law := He5.fun_of F_law, b_law := (He5.fun_of (st := s_law) F_law).binds (ps := ["script"]) fun _ _ _ _ _ _ us hl => match us, hl with | [_], _ => rfl, F_Counter___init__ := F_Counter___init__, sn_Counter___init__ := supNB_ok (c.at 0 (f := fun K => supNB K (cdA K ("Counter", some "__init__")) (ccA K ("Counter", some "__init__")) (He.ga K "Counter") supFile) rfl), b_Counter___init__ := binds_nil rfl (F_Counter___init__.binds1 (ps := ["self", "named", "count", "own"]) 4 1 (by simp [dc_Counter___init__, CloD.dvs]) (by rfl) fun _ _ _ _ _ _ us its hu hi => match us, its, hu, hi with | [_, _, _, _], [_], _, _ => ⟨_, rfl, rfl⟩), F_Machine___init__ := F_Machine___init__, sn_Machine___init__ := supNB_ok (c.at 1 (f := fun K => supNB K (cdA K ("Machine", some "__init__")) (ccA K ("Machine", some "__init__")) (He.ga K "Machine") supFile) rfl), b1_Machine___init__ := binds_bl rfl (F_Machine___init__.binds1 (ps := ["self", "named", "count", "own"]) 3 0 (by simp [dc_Machine___init__, CloD.dvs]) (by rfl) fun _ _ _ _ _ _ us its hu hi => match us, its, hu, hi with | [_, _, _], [_], _, _ => ⟨_, rfl, rfl⟩), su_Counter___init___Machine := supCB_ok (c.at 2 (f := fun K => supCB K (He.ga K "Machine") (He.ga K "Counter") (He.ma K (He.ga K "Plan") "__init__")) rfl), sf_Counter___init__ := (c.at 3 (f := fun K => PySem.W.fnIn K (He.ma K (He.ga K "Plan") "__init__")) rfl), st_Counter___init__ := of_decide_eq_true (c.at 4 (f := fun K => decide (PySem.W.typeIn K (.ref (He.ma K (He.ga K "Plan") "__init__")) = some (.type "function"))) rfl), su_Machine___init___Machine := supCB_ok (c.at 5 (f := fun K => supCB K (He.ga K "Machine") (He.ga K "Machine") (He.ma K (He.ga K "Counter") "__init__")) rfl), sf_Machine___init__ := (c.at 6 (f := fun K => PySem.W.fnIn K (He.ma K (He.ga K "Counter") "__init__")) rfl), st_Machine___init__ := of_decide_eq_true (c.at 7 (f := fun K => decide (PySem.W.typeIn K (.ref (He.ma K (He.ga K "Counter") "__init__")) = some (.type "function"))) rfl), mg_Nothing := He.glo_ok X G (c.d.fact 60 (f := .glo "Nothing") rfl), mo_Nothing := (c.at 8 (f := fun K => PySem.W.makesIn K (He.ga K "Nothing")) rfl), io_Nothing := He.eqO_ok (c.at 9 (f := fun K => He.eqO (PySem.W.findIn K (.ref (He.ga K "Nothing")) "__init__") (some (some (.builtin "object.__init__")))) rfl), kc_Nothing := He.keep_ok (c.d.fact 61 (f := .keep "Nothing") rfl), o_Nothing := clsB_ok (c.at 10 (f := fun K => clsB K (He.ga K "Nothing") "Nothing") rfl), isc_Nothing := iscB_ok (c.at 11 (f := fun K => iscB K (He.ga K "Nothing")) rfl) (He.cls_ok (c.d.fact 62 (f := .cls "Nothing") rfl)) (c.at 12 (f := fun K => gnB K) rfl), mg_Number := He.glo_ok X G (c.d.fact 63 (f := .glo "Number") rfl), cl_Number := He.cls_ok (c.d.fact 64 (f := .cls "Number") rfl), mk_Number := He.mkr_ok (c.d.fact 65 (f := .mkr "Number") rfl), o_Number := clsB_ok (c.at 13 (f := fun K => clsB K (He.ga K "Number") "Number") rfl), n_Number_low := He.noat_ok (c.d.fact 66 (f := .noat "Number" "low") rfl), n_Number_high := He.noat_ok (c.d.fact 67 (f := .noat "Number" "high") rfl), n_Number_width := He.noat_ok (c.d.fact 68 (f := .noat "Number" "width") rfl), isc_Number := iscB_ok (c.at 14 (f := fun K => iscB K (He.ga K "Number")) rfl) (He.cls_ok (c.d.fact 64 (f := .cls "Number") rfl)) (c.at 12 (f := fun K => gnB K) rfl), mg_Bits := He.glo_ok X G (c.d.fact 69 (f := .glo "Bits") rfl), cl_Bits := He.cls_ok (c.d.fact 70 (f := .cls "Bits") rfl), mk_Bits := He.mkr_ok (c.d.fact 71 (f := .mkr "Bits") rfl), o_Bits := clsB_ok (c.at 15 (f := fun K => clsB K (He.ga K "Bits") "Bits") rfl), n_Bits_many := He.noat_ok (c.d.fact 72 (f := .noat "Bits" "many") rfl), isc_Bits := iscB_ok (c.at 16 (f := fun K => iscB K (He.ga K "Bits")) rfl) (He.cls_ok (c.d.fact 70 (f := .cls "Bits") rfl)) (c.at 12 (f := fun K => gnB K) rfl), mg_Call := He.glo_ok X G (c.d.fact 73 (f := .glo "Call") rfl), cl_Call := He.cls_ok (c.d.fact 74 (f := .cls "Call") rfl), mk_Call := He.mkr_ok (c.d.fact 75 (f := .mkr "Call") rfl), o_Call := clsB_ok (c.at 17 (f := fun K => clsB K (He.ga K "Call") "Call") rfl), n_Call_name := He.noat_ok (c.d.fact 76 (f := .noat "Call" "name") rfl), isc_Call := iscB_ok (c.at 18 (f := fun K => iscB K (He.ga K "Call")) rfl) (He.cls_ok (c.d.fact 74 (f := .cls "Call") rfl)) (c.at 12 (f := fun K => gnB K) rfl), mg_Items := He.glo_ok X G (c.d.fact 77 (f := .glo "Items") rfl), cl_Items := He.cls_ok (c.d.fact 78 (f := .cls "Items") rfl), mk_Items := He.mkr_ok (c.d.fact 79 (f := .mkr "Items") rfl), o_Items := clsB_ok (c.at 19 (f := fun K => clsB K (He.ga K "Items") "Items") rfl), n_Items_item := He.noat_ok (c.d.fact 80 (f := .noat "Items" "item") rfl), n_Items_width := He.noat_ok (c.d.fact 81 (f := .noat "Items" "width") rfl), isc_Items := iscB_ok (c.at 20 (f := fun K => iscB K (He.ga K "Items")) rfl) (He.cls_ok (c.d.fact 78 (f := .cls "Items") rfl)) (c.at 12 (f := fun K => gnB K) rfl), mg_Way := He.glo_ok X G (c.d.fact 82 (f := .glo "Way") rfl), cl_Way := He.cls_ok (c.d.fact 83 (f := .cls "Way") rfl), o_Way := clsB_ok (c.at 21 (f := fun K => clsB K (He.ga K "Way") "Way") rfl), n_Way_word := He.noat_ok (c.d.fact 84 (f := .noat "Way" "word") rfl), n_Way_name := He.noat_ok (c.d.fact 85 (f := .noat "Way" "name") rfl), n_Way_kind := He.noat_ok (c.d.fact 86 (f := .noat "Way" "kind") rfl), isc_Way := iscB_ok (c.at 22 (f := fun K => iscB K (He.ga K "Way")) rfl) (He.cls_ok (c.d.fact 83 (f := .cls "Way") rfl)) (c.at 12 (f := fun K => gnB K) rfl), mg_Door := He.glo_ok X G (c.d.fact 87 (f := .glo "Door") rfl), cl_Door := He.cls_ok (c.d.fact 88 (f := .cls "Door") rfl), o_Door := clsB_ok (c.at 23 (f := fun K => clsB K (He.ga K "Door") "Door") rfl), n_Door_word := He.noat_ok (c.d.fact 89 (f := .noat "Door" "word") rfl), n_Door_name := He.noat_ok (c.d.fact 90 (f := .noat "Door" "name") rfl), n_Door_kind := He.noat_ok (c.d.fact 91 (f := .noat "Door" "kind") rfl), isc_Door := iscB_ok (c.at 24 (f := fun K => iscB K (He.ga K "Door")) rfl) (He.cls_ok (c.d.fact 88 (f := .cls "Door") rfl)) (c.at 12 (f := fun K => gnB K) rfl), mg_Choice := He.glo_ok X G (c.d.fact 92 (f := .glo "Choice") rfl), cl_Choice := He.cls_ok (c.d.fact 93 (f := .cls "Choice") rfl), o_Choice := clsB_ok (c.at 25 (f := fun K => clsB K (He.ga K "Choice") "Choice") rfl), n_Choice_ways := He.noat_ok (c.d.fact 94 (f := .noat "Choice" "ways") rfl), isc_Choice := iscB_ok (c.at 26 (f := fun K => iscB K (He.ga K "Choice")) rfl) (He.cls_ok (c.d.fact 93 (f := .cls "Choice") rfl)) (c.at 12 (f := fun K => gnB K) rfl), mg_Part := He.glo_ok X G (c.d.fact 95 (f := .glo "Part") rfl), cl_Part := He.cls_ok (c.d.fact 96 (f := .cls "Part") rfl), o_Part := clsB_ok (c.at 27 (f := fun K => clsB K (He.ga K "Part") "Part") rfl), n_Part_name := He.noat_ok (c.d.fact 97 (f := .noat "Part" "name") rfl), n_Part_kind := He.noat_ok (c.d.fact 98 (f := .noat "Part" "kind") rfl), isc_Part := iscB_ok (c.at 28 (f := fun K => iscB K (He.ga K "Part")) rfl) (He.cls_ok (c.d.fact 96 (f := .cls "Part") rfl)) (c.at 12 (f := fun K => gnB K) rfl), mg_Room := He.glo_ok X G (c.d.fact 99 (f := .glo "Room") rfl), cl_Room := He.cls_ok (c.d.fact 100 (f := .cls "Room") rfl), o_Room := clsB_ok (c.at 29 (f := fun K => clsB K (He.ga K "Room") "Room") rfl), n_Room_word := He.noat_ok (c.d.fact 101 (f := .noat "Room" "word") rfl), n_Room_name := He.noat_ok (c.d.fact 102 (f := .noat "Room" "name") rfl), n_Room_kind := He.noat_ok (c.d.fact 103 (f := .noat "Room" "kind") rfl), isc_Room := iscB_ok (c.at 30 (f := fun K => iscB K (He.ga K "Room")) rfl) (He.cls_ok (c.d.fact 100 (f := .cls "Room") rfl)) (c.at 12 (f := fun K => gnB K) rfl), mg_Row := He.glo_ok X G (c.d.fact 104 (f := .glo "Row") rfl), cl_Row := He.cls_ok (c.d.fact 105 (f := .cls "Row") rfl), o_Row := clsB_ok (c.at 31 (f := fun K => clsB K (He.ga K "Row") "Row") rfl), n_Row_parts := He.noat_ok (c.d.fact 106 (f := .noat "Row" "parts") rfl), isc_Row := iscB_ok (c.at 32 (f := fun K => iscB K (He.ga K "Row")) rfl) (He.cls_ok (c.d.fact 105 (f := .cls "Row") rfl)) (c.at 12 (f := fun K => gnB K) rfl), mg_Needs := He.glo_ok X G (c.d.fact 107 (f := .glo "Needs") rfl), cl_Needs := He.cls_ok (c.d.fact 108 (f := .cls "Needs") rfl), mk_Needs := He.mkr_ok (c.d.fact 109 (f := .mkr "Needs") rfl), n_Needs_writer := He.noat_ok (c.d.fact 110 (f := .noat "Needs" "writer") rfl), n_Needs_reader := He.noat_ok (c.d.fact 111 (f := .noat "Needs" "reader") rfl), mg_Lengths := He.glo_ok X G (c.d.fact 112 (f := .glo "Lengths") rfl), cl_Lengths := He.cls_ok (c.d.fact 113 (f := .cls "Lengths") rfl), mk_Lengths := He.mkr_ok (c.d.fact 114 (f := .mkr "Lengths") rfl), n_Lengths_count := He.noat_ok (c.d.fact 115 (f := .noat "Lengths" "count") rfl), n_Lengths_top := He.noat_ok (c.d.fact 116 (f := .noat "Lengths" "top") rfl), n_Lengths_known := He.noat_ok (c.d.fact 117 (f := .noat "Lengths" "known") rfl), mg_Machine := He.glo_ok X G (c.d.fact 118 (f := .glo "Machine") rfl), cl_Machine := He.cls_ok (c.d.fact 119 (f := .cls "Machine") rfl), mk_Machine := He.mkr_ok (c.d.fact 120 (f := .mkr "Machine") rfl), n_Machine_named := He.noat_ok (c.d.fact 121 (f := .noat "Machine" "named") rfl), n_Machine_count := He.noat_ok (c.d.fact 122 (f := .noat "Machine" "count") rfl), n_Machine_own := He.noat_ok (c.d.fact 123 (f := .noat "Machine" "own") rfl), n_Machine_most := He.noat_ok (c.d.fact 124 (f := .noat "Machine" "most") rfl), n_Machine_forms := He.noat_ok (c.d.fact 125 (f := .noat "Machine" "forms") rfl), n_Machine_places := He.noat_ok (c.d.fact 126 (f := .noat "Machine" "places") rfl), n_Machine_nodes := He.noat_ok (c.d.fact 127 (f := .noat "Machine" "nodes") rfl), n_Machine_numbers := He.noat_ok (c.d.fact 128 (f := .noat "Machine" "numbers") rfl), n_Machine_counted := He.noat_ok (c.d.fact 129 (f := .noat "Machine" "counted") rfl), n_Machine_rows := He.noat_ok (c.d.fact 130 (f := .noat "Machine" "rows") rfl), n_Machine_repeated := He.noat_ok (c.d.fact 131 (f := .noat "Machine" "repeated") rfl), n_Machine_lacks := He.noat_ok (c.d.fact 132 (f := .noat "Machine" "lacks") rfl), n_Machine_gone := He.noat_ok (c.d.fact 133 (f := .noat "Machine" "gone") rfl), n_Machine_moved := He.noat_ok (c.d.fact 134 (f := .noat "Machine" "moved") rfl), n_Machine_tuples := He.noat_ok (c.d.fact 135 (f := .noat "Machine" "tuples") rfl), n_Machine_states := He.noat_ok (c.d.fact 136 (f := .noat "Machine" "states") rfl), mg_Edition := He.glo_ok X G (c.d.fact 137 (f := .glo "Edition") rfl), cl_Edition := He.cls_ok (c.d.fact 138 (f := .cls "Edition") rfl), mk_Edition := He.mkr_ok (c.d.fact 139 (f := .mkr "Edition") rfl), n_Edition_table := He.noat_ok (c.d.fact 140 (f := .noat "Edition" "table") rfl), n_Edition_root := He.noat_ok (c.d.fact 141 (f := .noat "Edition" "root") rfl), n_Edition_count := He.noat_ok (c.d.fact 142 (f := .noat "Edition" "count") rfl), n_Edition_machine := He.noat_ok (c.d.fact 143 (f := .noat "Edition" "machine") rfl), n_Edition_own_machine := He.noat_ok (c.d.fact 144 (f := .noat "Edition" "own_machine") rfl), mg_BadKind := He.glo_ok X G (c.d.fact 145 (f := .glo "BadKind") rfl), oex_BadKind := oexB_ok (c.at 33 (f := fun K => oexB K (He.ga K "BadKind") [He.ga K "RoomError"]) rfl), ix_BadKind := He.eqO_ok (c.at 34 (f := fun K => He.eqO (PySem.W.findIn K (.ref (He.ga K "BadKind")) "__init__") (some (some (.ref (He.ma K (He.ga K "BadKind") "__init__"))))) rfl), tx_BadKind := of_decide_eq_true (c.at 35 (f := fun K => decide (PySem.W.typeIn K (.ref (He.ma K (He.ga K "BadKind") "__init__")) = some (.type "function"))) rfl), nx_BadKind_part := He.noat_ok (c.d.fact 146 (f := .noat "BadKind" "part") rfl), b_all := He.free_ok X G (c.d.fact 147 (f := .free "all") rfl), b_any := He.free_ok X G (c.d.fact 148 (f := .free "any") rfl), b_bool := He.free_ok X G (c.d.fact 149 (f := .free "bool") rfl), b_dict := He.free_ok X G (c.d.fact 150 (f := .free "dict") rfl), b_enumerate := He.free_ok X G (c.d.fact 151 (f := .free "enumerate") rfl), b_int := He.free_ok X G (c.d.fact 152 (f := .free "int") rfl), b_isinstance := He.free_ok X G (c.d.fact 153 (f := .free "isinstance") rfl), b_len := He.free_ok X G (c.d.fact 154 (f := .free "len") rfl), b_list := He.free_ok X G (c.d.fact 155 (f := .free "list") rfl), b_max := He.free_ok X G (c.d.fact 156 (f := .free "max") rfl), b_min := He.free_ok X G (c.d.fact 157 (f := .free "min") rfl), b_range := He.free_ok X G (c.d.fact 158 (f := .free "range") rfl), b_set := He.free_ok X G (c.d.fact 159 (f := .free "set") rfl), b_sorted := He.free_ok X G (c.d.fact 160 (f := .free "sorted") rfl), b_str := He.free_ok X G (c.d.fact 161 (f := .free "str") rfl), b_tuple := He.free_ok X G (c.d.fact 162 (f := .free "tuple") rfl), mg_LETTERS := (match He.str_ok X G (c.d.fact 163 (f := .str "LETTERS" "abcdefghijklmnopqrstuvwxyz") rfl) with | ⟨_, e⟩ => ⟨_, e, ⟨_, rfl⟩⟩), mg_ALIKE := (match He.str_ok X G (c.d.fact 164 (f := .str "ALIKE" "alike") rfl) with | ⟨_, e⟩ => ⟨_, e, ⟨_, rfl⟩⟩), mg_LET := (match He.str_ok X G (c.d.fact 165 (f := .str "LET" "let") rfl) with | ⟨_, e⟩ => ⟨_, e, ⟨_, rfl⟩⟩) }, He.glo_ok X G (c.d.fact 166 (f := .glo "law") rfl), fun s v => (FunD.bindsA (ps := ["script"]) F_law fun _ _ _ _ _ _ us hl => match us, hl with | [_], _ => rfl) s [v] rfl⟩
end My

open PySem PySem.W PySem.Calls PyProof.Rows in
set_option maxRecDepth 100000 in
set_option maxHeartbeats 0 in
theorem PySem.Challenge.cw_roomleft_k73_simple_roots_and_their_tabl_holds : PySem.Challenge.rw_roomleft_k73_simple_roots_and_their_tabl.Holds := by
  w_on; o_law
  refine HandSHeadRun.head_any (r := OpenLaw.row PySem.Challenge.rw_roomleft_k73_simple_roots_and_their_tabl) (q := view (OpenLaw.row PySem.Challenge.rw_roomleft_k73_simple_roots_and_their_tabl).prog [98]) (H := My.hk) (ob := My.ob) (M := 20000) (loose := My.names) (d := HandSHeadRun.topDef (OpenLaw.row PySem.Challenge.rw_roomleft_k73_simple_roots_and_their_tabl).prog 98) (kwd := []) My.ob_eq (by kernel_rfl) (fun s => by kernel_rfl) My.run (by kernel_rfl) (by kernel_rfl) (by kernel_rfl) (by rfl) (by first | assumption | decide +kernel) (by decide +kernel) ⟨rfl, rfl, rfl, rfl, rfl, by decide +kernel⟩ ?hw ?hc
  case hw => w_witness2
  case hc =>
    refine L2.walk_ofE (l := PySem.Challenge.rw_roomleft_k73_simple_roots_and_their_tabl) (n := 63) (k := 24) (x := "script") (CX := L2.CX0) rfl (by decide) (by kernel_rfl) ⟨rfl, by decide, by decide⟩ ?F (fun _ _ _ _ z => z)
    intro w mg fa h Y G hm0
    obtain ⟨K, KX, c⟩ := Y
    have hm : mg ("law" : PySem.Str) = some (.ref fa) := by
      rw [← show (HandSHeadRun.topDef (OpenLaw.row PySem.Challenge.rw_roomleft_k73_simple_roots_and_their_tabl).prog 98).name = ("law" : PySem.Str) from by kernel_rfl]
      exact hm0
    obtain ⟨A, T, e, b⟩ := My.txt_of KX G c
    have e2 := hm.symm.trans e
    cases e2
    exact ⟨K, A.d_law, My.sp_law0 K, KX, b, fun H a ns hl _ hS => ⟨_, rfl, a, ns, rfl, hS, hl, fun _ => rfl⟩, fun base _ _ => My.ok_law T⟩
#print axioms PySem.Challenge.cw_roomleft_k73_simple_roots_and_their_tabl_holds
