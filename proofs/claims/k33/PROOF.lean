import PyProof.Rows.All
import Wide.All
import OpenK.AllK
import Wide.FinOn
import HandS.Base
import HandS.Call
import HandS.List
import HandS.Comp
import HandS.Ends
import HandS.Dict
import HandS.Iter
import HandS.Text
import HandS.Words
import HandS.WordsList
import HandS.WordsDict
import HandS.Wide
import HandS.WideBits
import HandS.IsInst
import HandS.Defaults
import HandS.WordsExc
import HandS.Conv
import HandS.Walk
import HandS.Codes
import HandS.TryOnly
import HandS.Replace
import KE.KStateDown
import HandS.Head0
import HandS.Head1
import HandS.Head2
import HandS.HeadEnd
import HandS.HeadHook1
import HandS.HeadHook2
import PySem.Challenge.RW_lodge_k33_filled
set_option Elab.async false
set_option linter.all false
set_option maxRecDepth 100000
set_option maxHeartbeats 4000000
namespace Lo
open PySem L2
/-! ### assertions about the heap that stand when it grows -/
structure Asr where
  P : Hp → Prop
  st : ∀ H H', P H → Same H H' → P H'
theorem same_new {H : Hp} {p : Addr} {o : HO} (h : H p = none) : Same H (upd H p o) := fun b x e => by
  rw [upd_ne (ne_of_none e h)]
  exact e
/-- the assertion A, and: o stands at p -/
def Asr.kn (A : Asr) (p : Addr) (o : HO) : Asr := ⟨fun H => A.P H ∧ H p = some o, fun H H' h e => ⟨A.st H H' h.1 e, e p o h.2⟩⟩
/-- A tells that o stands at p | that a list, a tuple of xs is to be read at p -/
def Kn (A : Asr) (p : Addr) (o : HO) : Prop := ∀ H, A.P H → H p = some o
def KnL (K : PySem.W.Frag) (A : Asr) (p : Addr) (xs : List V) : Prop := ∀ H, A.P H → SqL K H p xs
def KnT (K : PySem.W.Frag) (A : Asr) (p : Addr) (xs : List V) : Prop := ∀ H, A.P H → SqT K H p xs
theorem kn_kn {A : Asr} {p : Addr} {o : HO} : Kn (A.kn p o) p o := fun _ h => h.2
theorem kn_up {A : Asr} {p q : Addr} {o u : HO} (h : Kn A p o) : Kn (A.kn q u) p o := fun H k => h H k.1
theorem knl_of {K : PySem.W.Frag} {A : Asr} {p : Addr} {xs : List V} (h : Kn A p (.lst xs)) : KnL K A p xs := fun H k => SqL.of (h H k)
theorem knt_of {K : PySem.W.Frag} {A : Asr} {p : Addr} {xs : List V} (h : Kn A p (.tup xs)) : KnT K A p xs := fun H k => SqT.of (h H k)
theorem knl_up {K : PySem.W.Frag} {A : Asr} {p q : Addr} {u : HO} {xs : List V} (h : KnL K A p xs) : KnL K (A.kn q u) p xs := fun H k => h H k.1
theorem knt_up {K : PySem.W.Frag} {A : Asr} {p q : Addr} {u : HO} {xs : List V} (h : KnT K A p xs) : KnT K (A.kn q u) p xs := fun H k => h H k.1

/-! ### the heap by a stable part S and a ledger L of objects of one's own -/
structure AtP (S0 E0 S : Hp) (L : List (Addr × HO)) (H : Hp) : Prop where
  s0 : Same S0 S
  e0 : Same E0 H
  sh : Same S H
  nw : ∀ a, S0 a = none → E0 a ≠ none → S a = none
  ow : ∀ q ∈ L, H q.1 = some q.2 ∧ S q.1 = none ∧ E0 q.1 = none
  nd : (L.map (·.1)).Nodup
theorem AtP.ext {S0 E0 S H H' : Hp} {L : List (Addr × HO)} (h : AtP S0 E0 S L H) (e : Same H H') : AtP S0 E0 S L H' :=
  ⟨h.s0, h.e0.trans e, h.sh.trans e, h.nw, fun q hq => ⟨e _ _ (h.ow q hq).1, (h.ow q hq).2⟩, h.nd⟩
def at_ (S0 E0 S : Hp) (L : List (Addr × HO)) : Asr := ⟨AtP S0 E0 S L, fun _ _ h e => h.ext e⟩
theorem at_start {S H : Hp} (h : Same S H) : AtP S H S [] H := ⟨Same.refl S, Same.refl H, h, fun _ h _ => h, fun _ hq => absurd hq (List.not_mem_nil), List.nodup_nil⟩
section
variable {S0 E0 S S' H H' : Hp} {L L' : List (Addr × HO)} {p : Addr} {o u : HO} {K : PySem.W.Frag} {xs : List V}
theorem kn_S (h : S p = some o) : Kn (at_ S0 E0 S L) p o := fun _ k => k.sh _ _ h
theorem kn_L (h : (p, o) ∈ L) : Kn (at_ S0 E0 S L) p o := fun _ k => (k.ow _ h).1
theorem knl_S (h : SqL K S p xs) : KnL K (at_ S0 E0 S L) p xs := fun _ k => k.sh.seq h
theorem sqt_same {H H' : Hp} (e : Same H H') (h : SqT K H p xs) : SqT K H' p xs := by
  rcases h with (h | ⟨o, h⟩) | h
  · exact .inl (.inl (e _ _ h))
  · exact .inl (.inr ⟨o, e _ _ h⟩)
  · exact .inr h
theorem knt_S (h : SqT K S p xs) : KnT K (at_ S0 E0 S L) p xs := fun _ k => sqt_same k.sh h
/-- a new object of one's own -/
theorem AtP.own (h : AtP S0 E0 S L H) (hp : H p = none) (e : Same H H') (ho : H' p = some o) : AtP S0 E0 S ((p, o) :: L) H' := by
  have h' := h.ext e
  have hS : S p = none := h.sh.free hp
  have hE : E0 p = none := h.e0.free hp
  refine ⟨h'.s0, h'.e0, h'.sh, h'.nw, fun q hq => ?_, ?_⟩
  · rcases List.mem_cons.mp hq with rfl | hq
    · exact ⟨ho, hS, hE⟩
    · exact h'.ow q hq
  · rw [List.map_cons, List.nodup_cons]
    refine ⟨fun hm => ?_, h.nd⟩
    obtain ⟨q, hq, e1⟩ := List.mem_map.mp hm
    have z := (h.ow q hq).1
    rw [e1, hp] at z
    cases z
/-- an object of one's own is written -/
inductive Up1 (p : Addr) (o u : HO) : List (Addr × HO) → List (Addr × HO) → Prop
  | head {L : List (Addr × HO)} : Up1 p o u ((p, o) :: L) ((p, u) :: L)
  | tail {q : Addr × HO} {L L' : List (Addr × HO)} (h : Up1 p o u L L') : Up1 p o u (q :: L) (q :: L')
theorem Up1.keys (h : Up1 p o u L L') : L'.map (·.1) = L.map (·.1) := by
  induction h with
  | head => rfl
  | tail _ ih => rw [List.map_cons, List.map_cons, ih]
theorem Up1.mem (h : Up1 p o u L L') : (p, o) ∈ L := by
  induction h with
  | head => exact List.mem_cons_self
  | tail _ ih => exact List.mem_cons_of_mem _ ih
theorem Up1.new (h : Up1 p o u L L') (nd : (L.map (·.1)).Nodup) : ∀ q ∈ L', q = (p, u) ∨ (q ∈ L ∧ q.1 ≠ p) := by
  induction h with
  | head =>
    intro q hq
    rcases List.mem_cons.mp hq with e | hq
    · exact .inl e
    · refine .inr ⟨List.mem_cons_of_mem _ hq, fun e => ?_⟩
      rw [List.map_cons, List.nodup_cons] at nd
      exact nd.1 (List.mem_map.mpr ⟨q, hq, e⟩)
  | @tail r L L' h ih =>
    intro q hq
    rw [List.map_cons, List.nodup_cons] at nd
    rcases List.mem_cons.mp hq with e | hq
    · subst e
      refine .inr ⟨List.mem_cons_self, fun e => nd.1 ?_⟩
      rw [e]
      exact List.mem_map.mpr ⟨(p, o), h.mem, rfl⟩
    · rcases ih nd.2 q hq with e | ⟨h1, h2⟩
      · exact .inl e
      · exact .inr ⟨List.mem_cons_of_mem _ h1, h2⟩
theorem AtP.put (h : AtP S0 E0 S L H) (k : Up1 p o u L L') : AtP S0 E0 S L' (upd H p u) := by
  obtain ⟨h1, h2, h3⟩ := h.ow _ k.mem
  refine ⟨h.s0, fun a x e => ?_, fun a x e => ?_, h.nw, fun q hq => ?_, ?_⟩
  · rw [upd_ne (ne_of_none e h3)]
    exact h.e0 a x e
  · rw [upd_ne (ne_of_none e h2)]
    exact h.sh a x e
  · rcases k.new h.nd q hq with e | ⟨m, ne⟩
    · subst e
      exact ⟨upd_same, h2, h3⟩
    · obtain ⟨g1, g2⟩ := h.ow q m
      exact ⟨by rw [upd_ne ne]; exact g1, g2⟩
  · rw [k.keys]
    exact h.nd
theorem AtP.drop (h : AtP S0 E0 S L H) (k : L'.Sublist L) : AtP S0 E0 S L' H :=
  ⟨h.s0, h.e0, h.sh, h.nw, fun q hq => h.ow q (k.subset hq), h.nd.sublist (k.map _)⟩
/-- behind a call that grew the stable part -/
theorem AtP.call (h : AtP S0 E0 S L H) (c : AtP S H S' L' H') : AtP S0 E0 S' (L' ++ L) H' := by
  refine ⟨h.s0.trans c.s0, h.e0.trans c.e0, c.sh, fun a h1 h2 => ?_, fun q hq => ?_, ?_⟩
  · have z : E0 a ≠ none := h2
    cases e : E0 a with
    | none => exact absurd e z
    | some x => exact c.nw a (h.nw a h1 h2) (by rw [h.e0 a x e]; intro y; cases y)
  · rcases List.mem_append.mp hq with hq | hq
    · obtain ⟨g1, g2, g3⟩ := c.ow q hq
      exact ⟨g1, g2, h.e0.free g3⟩
    · obtain ⟨g1, g2, g3⟩ := h.ow q hq
      exact ⟨c.e0 _ _ g1, c.nw _ g2 (by rw [g1]; intro y; cases y), g3⟩
  · rw [List.map_append, List.nodup_append]
    refine ⟨c.nd, h.nd, fun a ha b hb e => ?_⟩
    subst e
    obtain ⟨q, hq, e1⟩ := List.mem_map.mp ha
    obtain ⟨r, hr, e2⟩ := List.mem_map.mp hb
    have z1 := (c.ow q hq).2.2
    have z2 := (h.ow r hr).1
    rw [e1] at z1
    rw [e2, z1] at z2
    cases z2
/-- an object of one's own becomes a stable one -/
theorem AtP.keep (h : AtP S0 E0 S ((p, o) :: L) H) : AtP S0 E0 (upd S p o) L H := by
  obtain ⟨h1, h2, h3⟩ := h.ow _ List.mem_cons_self
  have nd := h.nd
  rw [List.map_cons, List.nodup_cons] at nd
  refine ⟨h.s0.trans (same_new h2), h.e0, fun a x e => ?_, fun a g1 g2 => ?_, fun q hq => ?_, nd.2⟩
  · by_cases ha : a = p
    · rw [ha, upd_same] at e
      cases e
      rw [ha]
      exact h1
    · rw [upd_ne ha] at e
      exact h.sh a x e
  · have na : a ≠ p := fun e => by rw [e] at g2; exact g2 h3
    rw [upd_ne na]
    exact h.nw a g1 g2
  · have hq' := h.ow q (List.mem_cons_of_mem _ hq)
    have ne : q.1 ≠ p := fun e => nd.1 (List.mem_map.mpr ⟨q, hq, e⟩)
    exact ⟨hq'.1, by rw [upd_ne ne]; exact hq'.2.1, hq'.2.2⟩
end

/-! ### what a computation comes to -/
/-- a computation: what must hold of the heap so that its end is as wished -/
abbrev Cm := Hp → VK → Prop
abbrev CmB := Hp → (Bool → Hp → Prop) → Prop
abbrev CmA := Hp → (List V → Hp → Prop) → Prop
abbrev CmO := Hp → (Option Int → Hp → Prop) → Prop
def Cv (c : Cm) (A : Asr) (v : V) : Prop := ∀ H, A.P H → ∀ Q : VK, (∀ H', Same H H' → Q v H') → c H Q
/-- a new object -/
def Cn (c : Cm) (A : Asr) (o : HO) : Prop := ∀ H, A.P H → ∀ Q : VK, (∀ p H', H p = none → Same H H' → H' p = some o → Q (.ref p) H') → c H Q
/-- a test -/
def Ct (c : CmB) (A : Asr) (b : Bool) : Prop := ∀ H, A.P H → ∀ Q : Bool → Hp → Prop, (∀ H', Same H H' → Q b H') → c H Q
/-- arguments -/
def Ca (c : CmA) (A : Asr) (vs : List V) : Prop := ∀ H, A.P H → ∀ Q : List V → Hp → Prop, (∀ H', Same H H' → Q vs H') → c H Q
/-- a slice's part -/
def Co (c : CmO) (A : Asr) (o : Option Int) : Prop := ∀ H, A.P H → ∀ Q : Option Int → Hp → Prop, (∀ H', Same H H' → Q o H') → c H Q
abbrev Cl (c : Cm) (A : Asr) (xs : List V) : Prop := Cn c A (.lst xs)
abbrev Cu (c : Cm) (A : Asr) (xs : List V) : Prop := Cn c A (.tup xs)
section
variable {K : PySem.W.Frag} {σ : L2.St} {A : Asr} {ta tb te : TE} {x y z v w : V} {xs ys : List V} {o u : HO}
theorem cv_is {c : Cm} (h : Cv c A v) (e : v = w) : Cv c A w := e ▸ h
theorem ct_is {c : CmB} {a b : Bool} (h : Ct c A a) (e : a = b) : Ct c A b := e ▸ h
theorem cn_is {c : Cm} (h : Cn c A o) (e : o = u) : Cn c A u := e ▸ h
theorem cl_is {c : Cm} (h : Cl c A xs) (e : xs = ys) : Cl c A ys := e ▸ h
/-! binds: what follows as a function of the value -/
theorem cv_bind {c : Cm} {k : V → Cm} (h : Cv c A x) (hk : Cv (k x) A v) : Cv (fun H Q => c H fun y H1 => k y H1 Q) A v := fun H a Q q =>
  h H a _ fun H1 e1 => hk H1 (A.st _ _ a e1) Q fun H2 e2 => q H2 (e1.trans e2)
theorem cv_bindN {c : Cm} {k : V → Cm} (h : Cn c A o) (hk : ∀ p, Cv (k (.ref p)) (A.kn p o) v) : Cv (fun H Q => c H fun y H1 => k y H1 Q) A v := fun H a Q q =>
  h H a _ fun p H1 _ e1 hp => hk p H1 ⟨A.st _ _ a e1, hp⟩ Q fun H2 e2 => q H2 (e1.trans e2)
theorem cn_bind {c : Cm} {k : V → Cm} (h : Cv c A x) (hk : Cn (k x) A u) : Cn (fun H Q => c H fun y H1 => k y H1 Q) A u := fun H a Q q =>
  h H a _ fun H1 e1 => hk H1 (A.st _ _ a e1) Q fun p H2 n e2 => q p H2 (e1.free n) (e1.trans e2)
theorem cn_bindN {c : Cm} {k : V → Cm} (h : Cn c A o) (hk : ∀ p, Cn (k (.ref p)) (A.kn p o) u) : Cn (fun H Q => c H fun y H1 => k y H1 Q) A u := fun H a Q q =>
  h H a _ fun p H1 _ e1 hp => hk p H1 ⟨A.st _ _ a e1, hp⟩ Q fun r H2 n e2 => q r H2 (e1.free n) (e1.trans e2)
theorem ct_bind {c : Cm} {k : V → CmB} {b : Bool} (h : Cv c A x) (hk : Ct (k x) A b) : Ct (fun H Q => c H fun y H1 => k y H1 Q) A b := fun H a Q q =>
  h H a _ fun H1 e1 => hk H1 (A.st _ _ a e1) Q fun H2 e2 => q H2 (e1.trans e2)
theorem ct_bindN {c : Cm} {k : V → CmB} {b : Bool} (h : Cn c A o) (hk : ∀ p, Ct (k (.ref p)) (A.kn p o) b) : Ct (fun H Q => c H fun y H1 => k y H1 Q) A b := fun H a Q q =>
  h H a _ fun p H1 _ e1 hp => hk p H1 ⟨A.st _ _ a e1, hp⟩ Q fun H2 e2 => q H2 (e1.trans e2)
/-! leaves -/
theorem c_c : Cv (tC v σ) A v := fun H _ _ q => q H (Same.refl H)
theorem c_var {i : Nat} (h : σ[i]? = some (some v)) : Cv (tVar i σ) A v := fun H _ _ q => ⟨v, h, q H (Same.refl H)⟩
theorem c_nil : Ca (tNil σ) A [] := fun H _ _ q => q H (Same.refl H)
/-- arguments, one more -/
theorem c_cons {tr : TA} {vs : List V} (h : Cv (te σ) A x) (hr : Ca (tr σ) A vs) : Ca (tCons te tr σ) A (x :: vs) := fun H a Q q =>
  h H a _ fun H1 e1 => hr H1 (A.st _ _ a e1) _ fun H2 e2 => q H2 (e1.trans e2)
/-! two operands -/
theorem c_op {r : R2} (ha : Cv (ta σ) A x) (hb : Cv (tb σ) A y) (hr : Cv (r x y) A v) : Cv (tOp r ta tb σ) A v :=
  cv_bind (c := ta σ) (k := fun x H Q => tb σ H fun y H1 => r x y H1 Q) ha (cv_bind (c := tb σ) (k := fun y H Q => r x y H Q) hb hr)
theorem c_opNv {r : R2} (ha : Cn (ta σ) A o) (hb : ∀ p, Cv (tb σ) (A.kn p o) y) (hr : ∀ p, Cv (r (.ref p) y) (A.kn p o) v) : Cv (tOp r ta tb σ) A v :=
  cv_bindN (c := ta σ) (k := fun x H Q => tb σ H fun y H1 => r x y H1 Q) ha fun p => cv_bind (c := tb σ) (k := fun y H Q => r (.ref p) y H Q) (hb p) (hr p)
theorem c_opvN {r : R2} (ha : Cv (ta σ) A x) (hb : Cn (tb σ) A o) (hr : ∀ p, Cv (r x (.ref p)) (A.kn p o) v) : Cv (tOp r ta tb σ) A v :=
  cv_bind (c := ta σ) (k := fun x H Q => tb σ H fun y H1 => r x y H1 Q) ha (cv_bindN (c := tb σ) (k := fun y H Q => r x y H Q) hb hr)
theorem c_opNN {r : R2} (ha : Cn (ta σ) A o) (hb : ∀ p, Cn (tb σ) (A.kn p o) u) (hr : ∀ p q, Cv (r (.ref p) (.ref q)) ((A.kn p o).kn q u) v) : Cv (tOp r ta tb σ) A v :=
  cv_bindN (c := ta σ) (k := fun x H Q => tb σ H fun y H1 => r x y H1 Q) ha fun p => cv_bindN (c := tb σ) (k := fun y H Q => r (.ref p) y H Q) (hb p) (hr p)
theorem n_op {r : R2} {t : HO} (ha : Cv (ta σ) A x) (hb : Cv (tb σ) A y) (hr : Cn (r x y) A t) : Cn (tOp r ta tb σ) A t :=
  cn_bind (c := ta σ) (k := fun x H Q => tb σ H fun y H1 => r x y H1 Q) ha (cn_bind (c := tb σ) (k := fun y H Q => r x y H Q) hb hr)
theorem n_opNv {r : R2} {t : HO} (ha : Cn (ta σ) A o) (hb : ∀ p, Cv (tb σ) (A.kn p o) y) (hr : ∀ p, Cn (r (.ref p) y) (A.kn p o) t) : Cn (tOp r ta tb σ) A t :=
  cn_bindN (c := ta σ) (k := fun x H Q => tb σ H fun y H1 => r x y H1 Q) ha fun p => cn_bind (c := tb σ) (k := fun y H Q => r (.ref p) y H Q) (hb p) (hr p)
theorem n_opvN {r : R2} {t : HO} (ha : Cv (ta σ) A x) (hb : Cn (tb σ) A o) (hr : ∀ p, Cn (r x (.ref p)) (A.kn p o) t) : Cn (tOp r ta tb σ) A t :=
  cn_bind (c := ta σ) (k := fun x H Q => tb σ H fun y H1 => r x y H1 Q) ha (cn_bindN (c := tb σ) (k := fun y H Q => r x y H Q) hb hr)
theorem n_opNN {r : R2} {t : HO} (ha : Cn (ta σ) A o) (hb : ∀ p, Cn (tb σ) (A.kn p o) u) (hr : ∀ p q, Cn (r (.ref p) (.ref q)) ((A.kn p o).kn q u) t) : Cn (tOp r ta tb σ) A t :=
  cn_bindN (c := ta σ) (k := fun x H Q => tb σ H fun y H1 => r x y H1 Q) ha fun p => cn_bindN (c := tb σ) (k := fun y H Q => r (.ref p) y H Q) (hb p) (hr p)
/-- one operand -/
theorem c_un {r : V → Hp → VK → Prop} (ha : Cv (ta σ) A x) (hr : Cv (r x) A v) : Cv (tUn r ta σ) A v := cv_bind (k := fun y H Q => r y H Q) ha hr
/-! operations on values -/
theorem r_I0 {g : Int → Int → V} {i j : Int} : Cv (rI0 g (.int i) (.int j)) A (g i j) := fun H _ _ q => ⟨i, j, rfl, rfl, q H (Same.refl H)⟩
theorem r_I {C : Int → Int → Prop} {g : Int → Int → V} {i j : Int} (hc : C i j) : Cv (rI C g (.int i) (.int j)) A (g i j) := fun H _ _ q => ⟨i, j, rfl, rfl, hc, q H (Same.refl H)⟩
theorem r_U {g : Int → V} {i : Int} : Cv (rU g (.int i)) A (g i) := fun H _ _ q => ⟨i, rfl, q H (Same.refl H)⟩
end
end Lo
namespace Lo
open PySem L2
/-! ### operations whose rule goes by the operands -/
def rAddI : R2 := rI0 fun i j => .int (i + j)
def rAddS : R2 := fun x y H Q => ∃ i j, x = .str i ∧ y = .str j ∧ i.length + j.length ≤ sizeLine ∧ Q (.str (i ++ j)) H
def rAddA (K : PySem.W.Frag) : R2 := fun x y H Q => rAddI x y H Q ∨ rAddS x y H Q ∨ rCat x y H Q ∨ rCatT K x y H Q
def rMulI : R2 := rI CMul fun i j => .int (i * j)
def rMulX : R2 := rI CMulX fun i j => .int (i * j)
def rMulA : R2 := fun x y H Q => rMulI x y H Q ∨ rMulX x y H Q ∨ rRep x y H Q
def rEqA (K : PySem.W.Frag) : R2 := fun x y H Q => rEq x y H Q ∨ rEqD K x y H Q
def rNeA (K : PySem.W.Frag) : R2 := fun x y H Q => rNe x y H Q ∨ rNeD K x y H Q
def rIsN : R2 := fun x y H Q => y = .non ∧ Q (.bl (decide (x = .non))) H
def rNotN : R2 := fun x y H Q => y = .non ∧ Q (.bl (!decide (x = .non))) H
/-- x in d, a dict -/
def rInK : R2 := fun x y H Q => ∃ a o, y = .ref a ∧ DGet H a x o ∧ Q (.bl o.isSome) H
def rNinK : R2 := fun x y H Q => ∃ a o, y = .ref a ∧ DGet H a x o ∧ Q (.bl (!o.isSome)) H
def rInS : R2 := fun x y H Q => ∃ (c : Nat) (z : Str), x = .str ⟨#[c]⟩ ∧ y = .str z ∧ Q (.bl (decide (c ∈ z.cps.toList))) H
def rNinS : R2 := fun x y H Q => ∃ (c : Nat) (z : Str), x = .str ⟨#[c]⟩ ∧ y = .str z ∧ Q (.bl (!decide (c ∈ z.cps.toList))) H
def rInA (K : PySem.W.Frag) : R2 := fun x y H Q => rIn K false x y H Q ∨ rInK x y H Q ∨ rInS x y H Q
def rNinA (K : PySem.W.Frag) : R2 := fun x y H Q => rIn K true x y H Q ∨ rNinK x y H Q ∨ rNinS x y H Q
/-- d[k] of a dict -/
def rIxK : R2 := fun x y H Q => ∃ a v, x = .ref a ∧ DGet H a y (some v) ∧ Q v H
def rIxA (K : PySem.W.Frag) : R2 := fun x y H Q => rIxL K x y H Q ∨ rIxT K x y H Q ∨ rIxS x y H Q ∨ rIxK x y H Q
def rLenS (K : PySem.W.Frag) : List V → Hp → VK → Prop := fun xs H Q => ∃ p ys, xs = [.ref p] ∧ (SqL K H p ys ∨ SqT K H p ys) ∧ Q (.int ys.length) H
def rLenT : List V → Hp → VK → Prop := fun xs H Q => ∃ z, xs = [.str z] ∧ z.length ≤ sizeLine ∧ Q (.int z.length) H
def rLenK : List V → Hp → VK → Prop := fun xs H Q => ∃ d kvs, xs = [.ref d] ∧ H d = some (.dK kvs) ∧ Q (.int kvs.length) H
def rLenA (K : PySem.W.Frag) : List V → Hp → VK → Prop := fun xs H Q => rLenS K xs H Q ∨ rLenT xs H Q ∨ rLenK xs H Q
def rMax2 : List V → Hp → VK → Prop := fun xs H Q => ∃ i j, xs = [.int i, .int j] ∧ Q (.int (if j > i then j else i)) H
def rMin2 : List V → Hp → VK → Prop := fun xs H Q => ∃ i j, xs = [.int i, .int j] ∧ Q (.int (if j < i then j else i)) H
def rMaxA (K : PySem.W.Frag) : List V → Hp → VK → Prop := fun xs H Q => rMax2 xs H Q ∨ rMax K xs H Q
def rMinA (K : PySem.W.Frag) : List V → Hp → VK → Prop := fun xs H Q => rMin2 xs H Q ∨ rMin K xs H Q
def rSlA (K : PySem.W.Frag) : V → Option Int → Option Int → Hp → VK → Prop := fun x lo hi H Q => rSlL K x lo hi H Q ∨ rSlT K x lo hi H Q ∨ rSlS x lo hi H Q
section
variable {X : Cx}
theorem op_addA : OpR X (binaryOp .Add) (rAddA X.K) := op_add.or (op_add_str.or (op_cat.or op_catT))
theorem op_mulA : OpR X (binaryOp .Mult) rMulA := op_mul.or (op_mulX.or op_rep)
theorem op_eqA (hu : X.A.units + 64 < cLine) : OpR X (compareOp .Eq) (rEqA X.K) := op_eq.or (op_eqD hu)
theorem op_neA (hu : X.A.units + 64 < cLine) : OpR X (compareOp .NotEq) (rNeA X.K) := op_ne.or (op_neD hu)
theorem op_isA : OpR X (compareOp .Is) rIsN := op_isN
theorem op_isnotA : OpR X (compareOp .IsNot) rNotN := op_notN
theorem op_inK (hu : X.A.units + 1 < cLine) : OpR X (compareOp .In) rInK := by
  intro pins s σ H x y v u Q I rx ry h
  obtain ⟨a, o, rfl, g, q⟩ := h
  cases ry
  exact d_in hu I g rx fun s' J => ⟨.bl _, H, J, rfl, q⟩
theorem op_ninK (hu : X.A.units + 1 < cLine) : OpR X (compareOp .NotIn) rNinK := by
  intro pins s σ H x y v u Q I rx ry h
  obtain ⟨a, o, rfl, g, q⟩ := h
  cases ry
  exact d_notIn hu I g rx fun s' J => ⟨.bl _, H, J, rfl, q⟩
theorem op_inA (hu : X.A.units + 1 < cLine) : OpR X (compareOp .In) (rInA X.K) := op_in_seq.or ((op_inK hu).or op_in_sign)
theorem op_notinA (hu : X.A.units + 1 < cLine) : OpR X (compareOp .NotIn) (rNinA X.K) := op_notIn_seq.or ((op_ninK hu).or op_notIn_sign)
theorem ix_K (hu : X.A.units + 1 < cLine) : IxR X rIxK := by
  intro value slice pins s σ H x y v u Q I rx ry h hs
  obtain ⟨a, z, rfl, g, q⟩ := h
  cases rx
  exact PyProof.Rows.tail_any (dict_typeIs I g) PySem.F.slot_dict_getitem.lookup (d_getItem hu I g ry fun w' s' J rw' => ⟨z, H, J, rw', q⟩) hs
theorem ix_A (hu : X.A.units + 1 < cLine) : IxR X (rIxA X.K) := ix_list.or (ix_tup.or (ix_str.or (ix_K hu)))
theorem call_lenA : CallR X (.builtin "len") (rLenA X.K) := call_len_seq.or (call_len_str.or call_lenD)
theorem call_maxA (hc : X.calm = true) : CallR X (.builtin "max") (rMaxA X.K) := (call_max2 hc).or (cr_max hc)
theorem call_minA (hc : X.calm = true) : CallR X (.builtin "min") (rMinA X.K) := (call_min2 hc).or (cr_min hc)
theorem sl_A : SlR X (rSlA X.K) := sl_list.or (sl_tup.or sl_str)
/-- d[k] = v, l[i] = v -/
def rSetK : V → V → V → Hp → (Hp → Prop) → Prop := fun o i v H Q => ∃ a H', o = .ref a ∧ DPut H a i v H' ∧ Q H'
def rSetA : V → V → V → Hp → (Hp → Prop) → Prop := fun o i v H Q => rSetL o i v H Q ∨ rSetK o i v H Q
theorem set_A (hu : X.A.units + 1 < cLine) : PSet X rSetA := by
  intro pins s σ H o i v ov iv u Q I ro ri rv h
  rcases h with h | ⟨a, H', rfl, g, q⟩
  · exact set_list pins s σ H o i v ov iv u Q I ro ri rv h
  · cases ro
    exact d_setItem hu I g ri rv fun s' J => ⟨H', J, q⟩
end
theorem cdiv_of {i j : Int} (h : 0 < j) (h2 : j < 1000000000000000000000000000000000000000000000000000000000000) : CDivW i j := wide_div (b := 200) h (by omega) (by decide) (by decide)
theorem cmul_l {i j : Int} (h : -18446744073709551616 < i) (h2 : i < 18446744073709551616) : CMul i j := .inl ⟨by omega, by omega⟩
theorem cmul_r {i j : Int} (h : -18446744073709551616 < j) (h2 : j < 18446744073709551616) : CMul i j := .inr ⟨by omega, by omega⟩
/-! ### what they come to -/
section
variable {K : PySem.W.Frag} {A : Asr} {x y z v : V} {i j : Int} {a b : Str} {p q : Addr} {xs ys : List V} {kvs : List (Key × V)}
theorem e_addI : Cv (rAddA K (.int i) (.int j)) A (.int (i + j)) := fun H _ _ q => .inl ⟨i, j, rfl, rfl, q H (Same.refl H)⟩
theorem e_addS (h : a.length + b.length ≤ sizeLine) : Cv (rAddA K (.str a) (.str b)) A (.str (a ++ b)) := fun H _ _ q => .inr (.inl ⟨a, b, rfl, rfl, h, q H (Same.refl H)⟩)
theorem e_cat (h1 : Kn A p (.lst xs)) (h2 : Kn A q (.lst ys)) (hz : xs.length + ys.length ≤ sizeLine) : Cn (rAddA K (.ref p) (.ref q)) A (.lst (xs ++ ys)) := fun H a _ k =>
  .inr (.inr (.inl ⟨p, q, xs, ys, rfl, rfl, h1 H a, h2 H a, hz, fun r hr => k r _ hr (same_new hr) upd_same⟩))
theorem e_mul (h : CMul i j) : Cv (rMulA (.int i) (.int j)) A (.int (i * j)) := fun H _ _ q => .inl ⟨i, j, rfl, rfl, h, q H (Same.refl H)⟩
theorem e_mulX (h : CMulX i j) : Cv (rMulA (.int i) (.int j)) A (.int (i * j)) := fun H _ _ q => .inr (.inl ⟨i, j, rfl, rfl, h, q H (Same.refl H)⟩)
theorem e_rep (h : Kn A p (.lst xs)) (h0 : -(2 ^ 63) ≤ i) (h1 : i < 2 ^ 63) (hz : xs.length * i.toNat ≤ sizeLine) : Cn (rMulA (.ref p) (.int i)) A (.lst (List.replicate i.toNat xs).flatten) := fun H a _ k =>
  .inr (.inr ⟨p, i, xs, rfl, rfl, h H a, h0, h1, hz, fun r hr => k r _ hr (same_new hr) upd_same⟩)
theorem e_eqI : Cv (rEqA K (.int i) (.int j)) A (.bl (decide (i = j))) := fun H _ _ q => .inl ⟨rfl, by
  have e : decide (V.int i = V.int j) = decide (i = j) := by rw [dec_int, Bool.beq_eq_decide_eq]
  rw [e]
  exact q H (Same.refl H)⟩
theorem e_neI : Cv (rNeA K (.int i) (.int j)) A (.bl (!decide (i = j))) := fun H _ _ q => .inl ⟨rfl, by
  have e : decide (V.int i = V.int j) = decide (i = j) := by rw [dec_int, Bool.beq_eq_decide_eq]
  rw [e]
  exact q H (Same.refl H)⟩
theorem e_eqS : Cv (rEqA K (.str a) (.str b)) A (.bl (decide (a = b))) := fun H _ _ q => .inl ⟨rfl, by
  have e : decide (V.str a = V.str b) = decide (a = b) := by rw [dec_str, Bool.beq_eq_decide_eq]
  rw [e]
  exact q H (Same.refl H)⟩
theorem e_neS : Cv (rNeA K (.str a) (.str b)) A (.bl (!decide (a = b))) := fun H _ _ q => .inl ⟨rfl, by
  have e : decide (V.str a = V.str b) = decide (a = b) := by rw [dec_str, Bool.beq_eq_decide_eq]
  rw [e]
  exact q H (Same.refl H)⟩
theorem e_eqV (h : scal x y = true) : Cv (rEqA K x y) A (.bl (decide (x = y))) := fun H _ _ q => .inl ⟨h, q H (Same.refl H)⟩
theorem e_neV (h : scal x y = true) : Cv (rNeA K x y) A (.bl (!decide (x = y))) := fun H _ _ q => .inl ⟨h, q H (Same.refl H)⟩
theorem e_isN : Cv (rIsN x .non) A (.bl (decide (x = .non))) := fun H _ _ q => ⟨rfl, q H (Same.refl H)⟩
theorem e_notN : Cv (rNotN x .non) A (.bl (!decide (x = .non))) := fun H _ _ q => ⟨rfl, q H (Same.refl H)⟩
/-- what a heap tells of data -/
def KnD (K : PySem.W.Frag) (A : Asr) (x : V) (d : PyData) : Prop := ∀ H, A.P H → Dp K H x d
theorem e_eqD {d e : PyData} (h1 : KnD K A x d) (h2 : KnD K A y e) (s1 : SeqAt.shaped d = true) (s2 : SeqAt.shaped e = true) : Cv (rEqA K x y) A (.bl (PyData.eqv d e)) := fun H a _ q =>
  .inr ⟨d, e, h1 H a, h2 H a, s1, s2, q H (Same.refl H)⟩
theorem e_neD {d e : PyData} (h1 : KnD K A x d) (h2 : KnD K A y e) (s1 : SeqAt.shaped d = true) (s2 : SeqAt.shaped e = true) : Cv (rNeA K x y) A (.bl (!PyData.eqv d e)) := fun H a _ q =>
  .inr ⟨d, e, h1 H a, h2 H a, s1, s2, q H (Same.refl H)⟩
theorem e_inK {k : Key} (h : Kn A p (.dK kvs)) : Cv (rInA K (kV k) (.ref p)) A (.bl (valV kvs k).isSome) := fun H a _ q => .inr (.inl ⟨p, _, rfl, DGet.k (h H a), q H (Same.refl H)⟩)
theorem e_ninK {k : Key} (h : Kn A p (.dK kvs)) : Cv (rNinA K (kV k) (.ref p)) A (.bl (!(valV kvs k).isSome)) := fun H a _ q => .inr (.inl ⟨p, _, rfl, DGet.k (h H a), q H (Same.refl H)⟩)
theorem e_inL (h : KnL K A p xs) (hx : flatV x = true) (hs : xs.all flatV = true) : Cv (rInA K x (.ref p)) A (.bl (inV x xs)) := fun H a _ q => .inl ⟨p, xs, rfl, .inl (h H a), hx, hs, q H (Same.refl H)⟩
theorem e_ninL (h : KnL K A p xs) (hx : flatV x = true) (hs : xs.all flatV = true) : Cv (rNinA K x (.ref p)) A (.bl (!inV x xs)) := fun H a _ q => .inl ⟨p, xs, rfl, .inl (h H a), hx, hs, q H (Same.refl H)⟩
theorem e_inT (h : KnT K A p xs) (hx : flatV x = true) (hs : xs.all flatV = true) : Cv (rInA K x (.ref p)) A (.bl (inV x xs)) := fun H a _ q => .inl ⟨p, xs, rfl, .inr (h H a), hx, hs, q H (Same.refl H)⟩
theorem e_ninT (h : KnT K A p xs) (hx : flatV x = true) (hs : xs.all flatV = true) : Cv (rNinA K x (.ref p)) A (.bl (!inV x xs)) := fun H a _ q => .inl ⟨p, xs, rfl, .inr (h H a), hx, hs, q H (Same.refl H)⟩
theorem e_inS {c : Nat} : Cv (rInA K (.str ⟨#[c]⟩) (.str b)) A (.bl (decide (c ∈ b.cps.toList))) := fun H _ _ q => .inr (.inr ⟨c, b, rfl, rfl, q H (Same.refl H)⟩)
theorem e_ninS {c : Nat} : Cv (rNinA K (.str ⟨#[c]⟩) (.str b)) A (.bl (!decide (c ∈ b.cps.toList))) := fun H _ _ q => .inr (.inr ⟨c, b, rfl, rfl, q H (Same.refl H)⟩)
theorem e_ixL (h : KnL K A p xs) (e : atI xs i = some v) : Cv (rIxA K (.ref p) (.int i)) A v := fun H a _ q => .inl ⟨p, xs, i, v, rfl, rfl, h H a, e, q H (Same.refl H)⟩
theorem e_ixT (h : KnT K A p xs) (e : atI xs i = some v) : Cv (rIxA K (.ref p) (.int i)) A v := fun H a _ q => .inr (.inl ⟨p, xs, i, v, rfl, rfl, h H a, e, q H (Same.refl H)⟩)
theorem e_ixS {c : Nat} (hz : a.length ≤ sizeLine) (e : atI a.cps.toList i = some c) : Cv (rIxA K (.str a) (.int i)) A (.str ⟨#[c]⟩) := fun H _ _ q => .inr (.inr (.inl ⟨a, i, c, rfl, rfl, hz, e, q H (Same.refl H)⟩))
theorem e_ixK {k : Key} (h : Kn A p (.dK kvs)) (e : valV kvs k = some v) : Cv (rIxA K (.ref p) (kV k)) A v := fun H a _ q => .inr (.inr (.inr ⟨p, v, rfl, by rw [← e]; exact DGet.k (h H a), q H (Same.refl H)⟩))
theorem e_inSL {c : Nat} {l : List Nat} : Cv (rInA K (.str ⟨#[c]⟩) (.str b)) A (.bl (decide (c ∈ b.cps.toList))) := e_inS
theorem e_ninSL {c : Nat} : Cv (rNinA K (.str ⟨#[c]⟩) (.str b)) A (.bl (!decide (c ∈ b.cps.toList))) := e_ninS
theorem e_lenL (h : KnL K A p xs) : Cv (rLenA K [.ref p]) A (.int xs.length) := fun H a _ q => .inl ⟨p, xs, rfl, .inl (h H a), q H (Same.refl H)⟩
theorem e_lenT (h : KnT K A p xs) : Cv (rLenA K [.ref p]) A (.int xs.length) := fun H a _ q => .inl ⟨p, xs, rfl, .inr (h H a), q H (Same.refl H)⟩
theorem e_lenS (hz : a.length ≤ sizeLine) : Cv (rLenA K [.str a]) A (.int a.length) := fun H _ _ q => .inr (.inl ⟨a, rfl, hz, q H (Same.refl H)⟩)
theorem e_lenK (h : Kn A p (.dK kvs)) : Cv (rLenA K [.ref p]) A (.int kvs.length) := fun H a _ q => .inr (.inr ⟨p, kvs, rfl, h H a, q H (Same.refl H)⟩)
theorem max2_eq (i j : Int) : (if j > i then j else i) = max i j := by omega
theorem min2_eq (i j : Int) : (if j < i then j else i) = min i j := by omega
theorem e_max : Cv (rMaxA K [.int i, .int j]) A (.int (max i j)) := fun H _ _ q => .inl ⟨i, j, rfl, by rw [max2_eq]; exact q H (Same.refl H)⟩
theorem e_min : Cv (rMinA K [.int i, .int j]) A (.int (min i j)) := fun H _ _ q => .inl ⟨i, j, rfl, by rw [min2_eq]; exact q H (Same.refl H)⟩
theorem e_slL {lo hi : Option Int} (h : KnL K A p xs) : Cn (rSlA K (.ref p) lo hi) A (.lst (cutV xs lo hi)) := fun H a _ k => .inl ⟨p, xs, rfl, h H a, fun r hr => k r _ hr (same_new hr) upd_same⟩
theorem e_slS {lo hi : Option Int} (hz : a.length ≤ sizeLine) : Cv (rSlA K (.str a) lo hi) A (.str (cutS a lo hi)) := fun H _ _ q => .inr (.inr ⟨a, rfl, hz, q H (Same.refl H)⟩)
end
section
variable {K : PySem.W.Frag} {σ : L2.St} {A : Asr} {ta tb te to : TE} {x y z v w : V} {xs ys vs : List V} {o u : HO} {ts : TA} {tl th : TO} {b c : Bool}
/-! calls of built-ins -/
theorem c_cb {r : List V → Hp → VK → Prop} (ha : Ca (ts σ) A vs) (hr : Cv (r vs) A v) : Cv (tCB r ts σ) A v := fun H a Q q =>
  ha H a _ fun H1 e1 => hr H1 (A.st _ _ a e1) Q fun H2 e2 => q H2 (e1.trans e2)
theorem n_cb {r : List V → Hp → VK → Prop} (ha : Ca (ts σ) A vs) (hr : Cn (r vs) A o) : Cn (tCB r ts σ) A o := fun H a Q q =>
  ha H a _ fun H1 e1 => hr H1 (A.st _ _ a e1) Q fun p H2 n e2 h => q p H2 (e1.free n) (e1.trans e2) h
/-- one argument that is a new object -/
theorem c_cbN {r : List V → Hp → VK → Prop} (ha : Cn (te σ) A o) (hr : ∀ p, Cv (r [.ref p]) (A.kn p o) v) : Cv (tCB r (tCons te tNil) σ) A v := fun H a Q q =>
  ha H a _ fun p H1 _ e1 hp => hr p H1 ⟨A.st _ _ a e1, hp⟩ Q fun H2 e2 => q H2 (e1.trans e2)
theorem n_cbN {r : List V → Hp → VK → Prop} (ha : Cn (te σ) A o) (hr : ∀ p, Cn (r [.ref p]) (A.kn p o) u) : Cn (tCB r (tCons te tNil) σ) A u := fun H a Q q =>
  ha H a _ fun p H1 _ e1 hp => hr p H1 ⟨A.st _ _ a e1, hp⟩ Q fun s H2 n e2 h => q s H2 (e1.free n) (e1.trans e2) h
/-! calls of defs -/
theorem c_call {sp : Sp} {E : XK} (ha : Ca (ts σ) A vs) (hr : Cv (fun H Q => sp vs H Q E) A v) : Cv (tCall sp [] E ts σ) A v := fun H a Q q =>
  ha H a _ fun H1 e1 => by
    show sp (vs ++ []) H1 Q E
    rw [List.append_nil]
    exact hr H1 (A.st _ _ a e1) Q fun H2 e2 => q H2 (e1.trans e2)
theorem n_call {sp : Sp} {E : XK} (ha : Ca (ts σ) A vs) (hr : Cn (fun H Q => sp vs H Q E) A o) : Cn (tCall sp [] E ts σ) A o := fun H a Q q =>
  ha H a _ fun H1 e1 => by
    show sp (vs ++ []) H1 Q E
    rw [List.append_nil]
    exact hr H1 (A.st _ _ a e1) Q fun p H2 n e2 h => q p H2 (e1.free n) (e1.trans e2) h
theorem c_callN {sp : Sp} {E : XK} (ha : Cn (te σ) A o) (hr : ∀ p, Cv (fun H Q => sp [.ref p] H Q E) (A.kn p o) v) : Cv (tCall sp [] E (tCons te tNil) σ) A v := fun H a Q q =>
  ha H a _ fun p H1 _ e1 hp => hr p H1 ⟨A.st _ _ a e1, hp⟩ Q fun H2 e2 => q H2 (e1.trans e2)
theorem n_callN {sp : Sp} {E : XK} (ha : Cn (te σ) A o) (hr : ∀ p, Cn (fun H Q => sp [.ref p] H Q E) (A.kn p o) u) : Cn (tCall sp [] E (tCons te tNil) σ) A u := fun H a Q q =>
  ha H a _ fun p H1 _ e1 hp => hr p H1 ⟨A.st _ _ a e1, hp⟩ Q fun s H2 n e2 h => q s H2 (e1.free n) (e1.trans e2) h
/-! displays, slices -/
theorem n_lst (ha : Ca (ts σ) A vs) (hz : vs.length ≤ sizeLine) : Cn (tLst ts σ) A (.lst vs) := fun H a Q q =>
  ha H a _ fun H1 e1 => ⟨hz, fun p hp => q p _ (e1.free hp) (e1.trans (same_new hp)) upd_same⟩
theorem n_tup (ha : Ca (ts σ) A vs) (hz : vs.length ≤ sizeLine) : Cn (tTup ts σ) A (.tup vs) := fun H a Q q =>
  ha H a _ fun H1 e1 => ⟨hz, fun p hp => q p _ (e1.free hp) (e1.trans (same_new hp)) upd_same⟩
theorem o_none : Co (tNoPart σ) A none := fun H _ _ q => q H (Same.refl H)
theorem o_some {i : Int} (h : Cv (te σ) A (.int i)) : Co (tPart te σ) A (some i) := fun H a Q q => h H a _ fun H1 e1 => ⟨i, rfl, q H1 e1⟩
theorem n_sl {r : V → Option Int → Option Int → Hp → VK → Prop} {lo hi : Option Int} (h : Cv (te σ) A x) (h1 : Co (tl σ) A lo) (h2 : Co (th σ) A hi) (hr : Cn (r x lo hi) A o) : Cn (tSl r te tl th σ) A o := fun H a Q q =>
  h H a _ fun H1 e1 => h1 H1 (A.st _ _ a e1) _ fun H2 e2 => h2 H2 (A.st _ _ a (e1.trans e2)) _ fun H3 e3 => hr H3 (A.st _ _ a ((e1.trans e2).trans e3)) Q fun p H4 n e4 hp => q p H4 (((e1.trans e2).trans e3).free n) (((e1.trans e2).trans e3).trans e4) hp
theorem c_sl {r : V → Option Int → Option Int → Hp → VK → Prop} {lo hi : Option Int} (h : Cv (te σ) A x) (h1 : Co (tl σ) A lo) (h2 : Co (th σ) A hi) (hr : Cv (r x lo hi) A v) : Cv (tSl r te tl th σ) A v := fun H a Q q =>
  h H a _ fun H1 e1 => h1 H1 (A.st _ _ a e1) _ fun H2 e2 => h2 H2 (A.st _ _ a (e1.trans e2)) _ fun H3 e3 => hr H3 (A.st _ _ a ((e1.trans e2).trans e3)) Q fun H4 e4 => q H4 (((e1.trans e2).trans e3).trans e4)
/-! methods of texts -/
theorem c_m1 {r : V → List V → Hp → VK → Prop} {z : Str} (h : Cv (to σ) A (.str z)) (h1 : Cv (te σ) A y) (hr : Cv (r (.str z) [y]) A v) : Cv (tM1 r to te σ) A v := fun H a Q q =>
  h H a _ fun H1 e1 => ⟨⟨z, rfl⟩, h1 H1 (A.st _ _ a e1) _ fun H2 e2 => hr H2 (A.st _ _ a (e1.trans e2)) Q fun H3 e3 => q H3 ((e1.trans e2).trans e3)⟩
theorem c_m1N {r : V → List V → Hp → VK → Prop} {z : Str} (h : Cv (to σ) A (.str z)) (h1 : Cn (te σ) A o) (hr : ∀ p, Cv (r (.str z) [.ref p]) (A.kn p o) v) : Cv (tM1 r to te σ) A v := fun H a Q q =>
  h H a _ fun H1 e1 => ⟨⟨z, rfl⟩, h1 H1 (A.st _ _ a e1) _ fun p H2 n e2 hp => hr p H2 ⟨A.st _ _ a (e1.trans e2), hp⟩ Q fun H3 e3 => q H3 ((e1.trans e2).trans e3)⟩
theorem c_bits {i : Int} (h : Cv (to σ) A (.int i)) : Cv (tBits to σ) A (.int (Builtin.Int.intBits i : Nat)) := fun H a Q q => h H a _ fun H1 e1 => ⟨i, rfl, q H1 e1⟩
/-! booleans -/
theorem c_and (h1 : Cv (ta σ) A (.bl b)) (h2 : b = true → Cv (tb σ) A (.bl c)) : Cv (tAndV ta tb σ) A (.bl (b && c)) := fun H a Q q => h1 H a _ fun H1 e1 => ⟨b, rfl, by
  cases b with
  | true => exact h2 rfl H1 (A.st _ _ a e1) Q fun H2 e2 => q H2 (e1.trans e2)
  | false => exact q H1 e1⟩
theorem c_or (h1 : Cv (ta σ) A (.bl b)) (h2 : b = false → Cv (tb σ) A (.bl c)) : Cv (tOrV ta tb σ) A (.bl (b || c)) := fun H a Q q => h1 H a _ fun H1 e1 => ⟨b, rfl, by
  cases b with
  | true => exact q H1 e1
  | false => exact h2 rfl H1 (A.st _ _ a e1) Q fun H2 e2 => q H2 (e1.trans e2)⟩
theorem c_chain {r r' : R2} {tc : TE} (h1 : Cv (ta σ) A x) (h2 : Cv (tb σ) A y) (hr : Cv (r x y) A (.bl b)) (h3 : b = true → Cv (tc σ) A z) (hr' : b = true → Cv (r' y z) A (.bl c)) : Cv (tChain r r' ta tb tc σ) A (.bl (b && c)) := fun H a Q q =>
  h1 H a _ fun H1 e1 => h2 H1 (A.st _ _ a e1) _ fun H2 e2 => hr H2 (A.st _ _ a (e1.trans e2)) _ fun H3 e3 => ⟨b, rfl, by
    have e := (e1.trans e2).trans e3
    cases b with
    | true => exact h3 rfl H3 (A.st _ _ a e) _ fun H4 e4 => hr' rfl H4 (A.st _ _ a (e.trans e4)) Q fun H5 e5 => q H5 ((e.trans e4).trans e5)
    | false => exact q H3 e⟩
theorem c_not (h1 : Cv (ta σ) A (.bl b)) : Cv (tNotV ta σ) A (.bl (!b)) := fun H a Q q => h1 H a _ fun H1 e1 => ⟨b, rfl, q H1 e1⟩
theorem t_test (h : Cv (te σ) A (.bl b)) : Ct (tTest te σ) A b := fun H a Q q => h H a _ fun H1 e1 => ⟨b, rfl, q H1 e1⟩
theorem t_B (h : Cv (te σ) A (.bl b)) : Ct (tB te σ) A b := fun H a Q q => h H a _ fun H1 e1 => ⟨b, rfl, q H1 e1⟩
theorem t_and {t u : TT} (h1 : Ct (t σ) A b) (h2 : b = true → Ct (u σ) A c) : Ct (tAnd t u σ) A (b && c) := fun H a Q q => h1 H a _ fun H1 e1 => by
  cases b with
  | true => exact h2 rfl H1 (A.st _ _ a e1) Q fun H2 e2 => q H2 (e1.trans e2)
  | false => exact q H1 e1
theorem t_or {t u : TT} (h1 : Ct (t σ) A b) (h2 : b = false → Ct (u σ) A c) : Ct (tOr t u σ) A (b || c) := fun H a Q q => h1 H a _ fun H1 e1 => by
  cases b with
  | true => exact q H1 e1
  | false => exact h2 rfl H1 (A.st _ _ a e1) Q fun H2 e2 => q H2 (e1.trans e2)
theorem t_not {t : TT} (h1 : Ct (t σ) A b) : Ct (tNot t σ) A (!b) := fun H a Q q => h1 H a _ fun H1 e1 => q H1 e1
theorem t_yes : Ct (tYes σ) A true := fun H _ _ q => q H (Same.refl H)
theorem c_if {t : TT} (h : Ct (t σ) A b) (h1 : b = true → Cv (ta σ) A v) (h2 : b = false → Cv (tb σ) A v) : Cv (tIf t ta tb σ) A v := fun H a Q q => h H a _ fun H1 e1 => by
  cases b with
  | true => exact h1 rfl H1 (A.st _ _ a e1) Q fun H2 e2 => q H2 (e1.trans e2)
  | false => exact h2 rfl H1 (A.st _ _ a e1) Q fun H2 e2 => q H2 (e1.trans e2)
end
/-! ### statements -/
def Go (t : TS) (D : Ends) (σ : L2.St) (A : Asr) : Prop := ∀ H, A.P H → t D σ H
section
variable {K : PySem.W.Frag} {σ σ' : L2.St} {A B : Asr} {ta tb te to : TE} {x y z v w : V} {xs ys vs : List V} {o u : HO} {b c : Bool} {D : Ends} {t s : TS} {tt : TT} {i : Nat}
theorem go_of (h : ∀ H, A.P H → B.P H) (g : Go t D σ B) : Go t D σ A := fun H a => g H (h H a)
theorem go_set (e : σ = σ') (g : Go t D σ' A) : Go t D σ A := e ▸ g
theorem g_seq (h : Go t { D with nx := s D } σ A) : Go (tSeq t s) D σ A := h
theorem q_asg (h : Cv (te σ) A v) (k : Go s D (σ.set i (some v)) A) : Go (tSeq (tAsg te (gName i)) s) D σ A := fun H a => h H a _ fun H1 e1 => k H1 (A.st _ _ a e1)
theorem s_asg (h : Cv (te σ) A v) (k : ∀ H, A.P H → D.nx (σ.set i (some v)) H) : Go (tAsg te (gName i)) D σ A := fun H a => h H a _ fun H1 e1 => k H1 (A.st _ _ a e1)
theorem q_asgN (h : Cn (te σ) A o) (k : ∀ p, Go s D (σ.set i (some (.ref p))) (A.kn p o)) : Go (tSeq (tAsg te (gName i)) s) D σ A := fun H a => h H a _ fun p H1 _ e1 hp => k p H1 ⟨A.st _ _ a e1, hp⟩
theorem q_aug {f : Int → Int → Int} {m n : Int} (hx : σ[i]? = some (some (.int m))) (h : Cv (te σ) A (.int n)) (k : Go s D (σ.set i (some (.int (f m n)))) A) : Go (tSeq (tAug i te (ipI f)) s) D σ A := fun H a =>
  ⟨.int m, hx, h H a _ fun H1 e1 => ⟨m, n, rfl, rfl, k H1 (A.st _ _ a e1)⟩⟩
theorem s_aug {f : Int → Int → Int} {m n : Int} (hx : σ[i]? = some (some (.int m))) (h : Cv (te σ) A (.int n)) (k : ∀ H, A.P H → D.nx (σ.set i (some (.int (f m n)))) H) : Go (tAug i te (ipI f)) D σ A := fun H a =>
  ⟨.int m, hx, h H a _ fun H1 e1 => ⟨m, n, rfl, rfl, k H1 (A.st _ _ a e1)⟩⟩
theorem s_ret (h : Cv (te σ) A v) (k : ∀ H, A.P H → D.rt v H) : Go (tRet te) D σ A := fun H a => h H a _ fun H1 e1 => k H1 (A.st _ _ a e1)
theorem s_next (k : ∀ H, A.P H → D.nx σ H) : Go tNext D σ A := k
theorem q_if {u' : TS} (h : Ct (tt σ) A b) (h1 : b = true → Go t { D with nx := s D } σ A) (h2 : b = false → Go u' { D with nx := s D } σ A) : Go (tSeq (tIfS tt t u') s) D σ A := fun H a => h H a _ fun H1 e1 => by
  cases b with
  | true => exact h1 rfl H1 (A.st _ _ a e1)
  | false => exact h2 rfl H1 (A.st _ _ a e1)
theorem q_when (h : Ct (tt σ) A b) (h1 : b = true → Go t { D with nx := s D } σ A) (h2 : b = false → Go s D σ A) : Go (tSeq (tIfS tt t tNext) s) D σ A := q_if h h1 h2
theorem s_if {u' : TS} (h : Ct (tt σ) A b) (h1 : b = true → Go t D σ A) (h2 : b = false → Go u' D σ A) : Go (tIfS tt t u') D σ A := fun H a => h H a _ fun H1 e1 => by
  cases b with
  | true => exact h1 rfl H1 (A.st _ _ a e1)
  | false => exact h2 rfl H1 (A.st _ _ a e1)
end
/-! ### promises -/
def RetV (v : V) (H : Hp) (Q : VK) : Prop := ∀ H', Same H H' → Q v H'
def RetN (o : HO) (H : Hp) (Q : VK) : Prop := ∀ p H', H p = none → Same H H' → H' p = some o → Q (.ref p) H'
theorem body_go {t : TS} {D : Ends} {σ σ' : L2.St} {H : Hp} (e : σ = σ') (g : Go t D σ' (at_ H H H [])) : t D σ H := by
  rw [e]
  exact g H (at_start (Same.refl H))
structure Dfn (K : PySem.W.Frag) (x qual : Str) (st : Stmt) (ps : List Str) where
  f : Addr
  fd : FuncData
  F : FunD K x qual (defArgs st) (defBody st) (defScope st) [] [] f fd
  b : Binds K fd ps []
theorem Dfn.kp {K : PySem.W.Frag} {x qual : Str} {st : Stmt} {ps : List Str} (d : Dfn K x qual st ps) : PySem.W.keepIn K (.ref d.f) = true := d.F.kp
section
variable {S0 E0 S : Hp} {L : List (Addr × HO)} {v : V} {o : HO} {H : Hp} {Q : VK}
theorem RetV.at (q : RetV v H Q) : ∀ H', (at_ S0 H S L).P H' → Q v H' := fun H' a => q H' a.e0
theorem s_retV {te : TE} {D : Ends} {σ : L2.St} {w : V} (h : Cv (te σ) (at_ S0 H S L) w) (e : w = v) (q : RetV v H D.rt) : Go (tRet te) D σ (at_ S0 H S L) := by
  subst e
  exact s_ret h fun H' a => q H' a.e0
theorem s_retN {te : TE} {D : Ends} {σ : L2.St} {u : HO} (h : Cn (te σ) (at_ S0 H S L) u) (e : u = o) (q : RetN o H D.rt) : Go (tRet te) D σ (at_ S0 H S L) := fun H1 a => h H1 a _ fun p H2 n e2 hp => q p H2 (a.e0.free n) (a.e0.trans e2) (e ▸ hp)
/-- A keeps what H tells -/
def Ext (A : Asr) (H : Hp) : Prop := ∀ H', A.P H' → Same H H'
theorem ext_at : Ext (at_ S0 H S L) H := fun _ a => a.e0
theorem ext_kn {A : Asr} {p : Addr} {o : HO} (h : Ext A H) : Ext (A.kn p o) H := fun H' a => h H' a.1
theorem s_retVx {te : TE} {D : Ends} {σ : L2.St} {w : V} {A : Asr} (h : Cv (te σ) A w) (e : w = v) (x : Ext A H) (q : RetV v H D.rt) : Go (tRet te) D σ A := by
  subst e
  exact s_ret h fun H' a => q H' (x H' a)
theorem s_retNx {te : TE} {D : Ends} {σ : L2.St} {u : HO} {A : Asr} (h : Cn (te σ) A u) (e : u = o) (x : Ext A H) (q : RetN o H D.rt) : Go (tRet te) D σ A := fun H1 a => h H1 a _ fun p H2 n e2 hp => q p H2 ((x H1 a).free n) ((x H1 a).trans e2) (e ▸ hp)
end
end Lo
namespace Lo
open PySem L2
/-! ### loops -/
abbrev CmJ := Hp → (It → Hp → Prop) → Prop
def Cj (c : CmJ) (A : Asr) (J : It) : Prop := ∀ H, A.P H → ∀ R : It → Hp → Prop, (∀ H', Same H H' → R J H') → c H R
/-- what is wanted behind a turn -/
def Nf (P : Nat → L2.St → Asr → Prop) (i : Nat) : L2.St → Hp → Prop := fun σ H => ∃ A, P i σ A ∧ A.P H
def Nw (P : Nat → L2.St → Asr → Prop) (m : Nat) : L2.St → Hp → Prop := fun σ H => ∃ m' A, m' < m ∧ P m' σ A ∧ A.P H
section
variable {K : PySem.W.Frag} {σ : L2.St} {A : Asr} {ta : TA} {te tl : TE} {a b : Addr} {xs ys : List V} {n : Int}
theorem j_rng1 (h : Ca (ta σ) A [.int n]) (h1 : -4611686018427387904 ≤ n) (h2 : n < 4611686018427387904) : Cj (iRng1 ta σ) A (Itr 0 n.toNat) := fun H hA R k => h H hA _ fun H1 e1 => ⟨n, rfl, by omega, by omega, k H1 e1⟩
theorem j_rng2 {lo : Int} (h : Ca (ta σ) A [.int lo, .int n]) (h1 : -4611686018427387904 ≤ lo ∧ lo < 4611686018427387904 ∧ -4611686018427387904 ≤ n ∧ n < 4611686018427387904) : Cj (iRng2 ta σ) A (Itr lo (n - lo).toNat) := fun H hA R k => h H hA _ fun H1 e1 => ⟨lo, n, rfl, by omega, k H1 e1⟩
theorem j_list (h : Cv (tl σ) A (.ref a)) (hx : KnL K A a xs) : Cj (iList K tl σ) A (Itl K a) := fun H hA R k => h H hA _ fun H1 e1 => ⟨a, rfl, ⟨xs, hx H1 (A.st _ _ hA e1)⟩, k H1 e1⟩
theorem j_tup (h : Cv (tl σ) A (.ref a)) (hx : KnT K A a xs) : Cj (iTup K tl σ) A (Itt K a) := fun H hA R k => h H hA _ fun H1 e1 => ⟨a, rfl, ⟨xs, hx H1 (A.st _ _ hA e1)⟩, k H1 e1⟩
theorem j_str {z : Str} (h : Cv (tl σ) A (.str z)) : Cj (iStr tl σ) A (Its z) := fun H hA R k => h H hA _ fun H1 e1 => ⟨z, rfl, k H1 e1⟩
theorem j_enum (h : Ca (ta σ) A [.ref a]) (hx : KnL K A a xs) : Cj (iEnum K ta σ) A (Ite K a) := fun H hA R k => h H hA _ fun H1 e1 => ⟨a, xs, rfl, hx H1 (A.st _ _ hA e1), k H1 e1⟩
theorem j_rev (h : Ca (ta σ) A [.ref a]) (hx : KnL K A a xs) : Cj (iRev K ta σ) A (Itv K a xs.length) := fun H hA R k => h H hA _ fun H1 e1 => ⟨a, xs, rfl, hx H1 (A.st _ _ hA e1), k H1 e1⟩
theorem j_zip (h : Ca (ta σ) A [.ref a, .ref b]) (hx : KnL K A a xs) (hy : KnL K A b ys) : Cj (iZip K ta σ) A (Itz K a b) := fun H hA R k => h H hA _ fun H1 e1 => ⟨a, b, xs, ys, rfl, hx H1 (A.st _ _ hA e1), hy H1 (A.st _ _ hA e1), k H1 e1⟩
end
section
variable {K : PySem.W.Frag} {σ : L2.St} {A : Asr} {wi : TI} {g : TG} {tb : TS} {D : Ends} {J : It} {m j k : Nat} {G : Hp → Prop} {Y : Nat → Hp → V → Hp → Prop} {xs : List V}
/-- the end of a turn -/
theorem nf {P : Nat → L2.St → Asr → Prop} {i : Nat} {σ' : L2.St} {A' : Asr} (h : P i σ' A') : ∀ H, A'.P H → Nf P i σ' H := fun _ hA => ⟨A', h, hA⟩
theorem nw {P : Nat → L2.St → Asr → Prop} {i i' : Nat} {σ' : L2.St} {A' : Asr} (hl : i' < i) (h : P i' σ' A') : ∀ H, A'.P H → Nw P i σ' H := fun _ hA => ⟨i', A', hl, h, hA⟩
theorem nf_drop {P : Nat → L2.St → Asr → Prop} {i : Nat} {σ' : L2.St} {S0 E0 S : Hp} {L L' : List (Addr × HO)} (hs : L'.Sublist L) (h : P i σ' (at_ S0 E0 S L')) : ∀ H, (at_ S0 E0 S L).P H → Nf P i σ' H := fun _ hA => ⟨_, h, AtP.drop hA hs⟩
theorem s_for (hj : Cj (wi σ) A J) (w : Walk J m G Y) (P : Nat → L2.St → Asr → Prop) (h0 : P 0 σ A) (hG : ∀ i σ' A', i ≤ m → P i σ' A' → ∀ H, A'.P H → G H)
    (hs : ∀ i σ' A', i < m → P i σ' A' → ∀ H, A'.P H → ∀ x H', Y i H x H' → g x σ' H' fun σ2 H2 => tb { D with nx := Nf P (i + 1), ct := Nf P (i + 1), bk := D.nx } σ2 H2)
    (hd : ∀ σ' A', P m σ' A' → ∀ H, A'.P H → D.nx σ' H) : Go (tFor wi g tb) D σ A := fun H hA => hj H hA _ fun H1 e1 =>
  for_it w (Nf P) ⟨A, h0, A.st _ _ hA e1⟩ (fun i σ' H' hi ⟨A', p, a⟩ => hG i σ' A' hi p H' a) (fun i x σ' H' H2 hi ⟨A', p, a⟩ y => hs i σ' A' hi p H' a x H2 y) (fun σ' H' ⟨A', p, a⟩ => hd σ' A' p H' a)
/-- each turn's value is told by the turn -/
theorem s_forF {f : Nat → V} (hj : Cj (wi σ) A J) (w : Walk J m (fun _ => True) (YFn f)) (P : Nat → L2.St → Asr → Prop) (h0 : P 0 σ A)
    (hs : ∀ i σ' A', i < m → P i σ' A' → Go tb { D with nx := Nf P (i + 1), ct := Nf P (i + 1), bk := D.nx } (σ'.set j (some (f i))) A') (hd : ∀ σ' A', P m σ' A' → ∀ H, A'.P H → D.nx σ' H) : Go (tFor wi (gName j) tb) D σ A :=
  s_for hj w P h0 (fun _ _ _ _ _ _ _ => True.intro) (fun i σ' A' hi p H hA x H' y => by
    obtain ⟨rfl, rfl⟩ := y
    exact hs i σ' A' hi p _ hA) hd
theorem s_forA (hj : Cj (wi σ) A J) (w : Walk J m G (YAt xs)) (P : Nat → L2.St → Asr → Prop) (h0 : P 0 σ A) (hG : ∀ i σ' A', i ≤ m → P i σ' A' → ∀ H, A'.P H → G H)
    (hs : ∀ i x σ' A', xs[i]? = some x → P i σ' A' → Go tb { D with nx := Nf P (i + 1), ct := Nf P (i + 1), bk := D.nx } (σ'.set j (some x)) A') (hd : ∀ σ' A', P m σ' A' → ∀ H, A'.P H → D.nx σ' H) : Go (tFor wi (gName j) tb) D σ A :=
  s_for hj w P h0 hG (fun i σ' A' hi p H hA x H' y => by
    obtain ⟨rfl, hx⟩ := y
    exact hs i x σ' A' hx p _ hA) hd
/-- range(n) -/
theorem s_forR {ta : TA} {n : Int} (h : Ca (ta σ) A [.int n]) (h2 : n < 4611686018427387904) (h1 : -4611686018427387904 ≤ n) (P : Nat → L2.St → Asr → Prop) (h0 : P 0 σ A)
    (hs : ∀ (i : Nat) σ' A', (i : Int) < n → P i σ' A' → Go tb { D with nx := Nf P (i + 1), ct := Nf P (i + 1), bk := D.nx } (σ'.set j (some (.int (i : Int)))) A') (hd : ∀ σ' A', P n.toNat σ' A' → ∀ H, A'.P H → D.nx σ' H) : Go (tFor (iRng1 ta) (gName j) tb) D σ A :=
  s_forF (j_rng1 h h1 h2) walk_range P h0 (fun i σ' A' hi p => by
    have e0 : (0 : Int) + (i : Int) = (i : Int) := Int.zero_add _
    rw [e0]
    exact hs i σ' A' (by omega) p) hd
theorem s_forR2 {ta : TA} {lo n : Int} (h : Ca (ta σ) A [.int lo, .int n]) (h1 : -4611686018427387904 ≤ lo ∧ lo < 4611686018427387904 ∧ -4611686018427387904 ≤ n ∧ n < 4611686018427387904) (P : Nat → L2.St → Asr → Prop) (h0 : P 0 σ A)
    (hs : ∀ (i : Nat) σ' A', lo + (i : Int) < n → P i σ' A' → Go tb { D with nx := Nf P (i + 1), ct := Nf P (i + 1), bk := D.nx } (σ'.set j (some (.int (lo + (i : Int))))) A') (hd : ∀ σ' A', P (n - lo).toNat σ' A' → ∀ H, A'.P H → D.nx σ' H) : Go (tFor (iRng2 ta) (gName j) tb) D σ A :=
  s_forF (j_rng2 h h1) walk_range P h0 (fun i σ' A' hi p => hs i σ' A' (by omega) p) hd
/-- a list that stays -/
theorem s_forL {tl : TE} {a : Addr} (h : Cv (tl σ) A (.ref a)) (P : Nat → L2.St → Asr → Prop) (h0 : P 0 σ A) (hx : ∀ i σ' A', P i σ' A' → KnL K A' a xs)
    (hs : ∀ i x σ' A', xs[i]? = some x → P i σ' A' → Go tb { D with nx := Nf P (i + 1), ct := Nf P (i + 1), bk := D.nx } (σ'.set j (some x)) A') (hd : ∀ σ' A', P xs.length σ' A' → ∀ H, A'.P H → D.nx σ' H) : Go (tFor (iList K tl) (gName j) tb) D σ A :=
  s_forA (j_list h (hx 0 σ A h0)) walk_list P h0 (fun i σ' A' _ p => hx i σ' A' p) hs hd
/-- a new list -/
theorem s_forN {tl : TE} (h : Cn (tl σ) A (.lst xs)) (P : Addr → Nat → L2.St → Asr → Prop) (h0 : ∀ p, P p 0 σ (A.kn p (.lst xs))) (hx : ∀ p i σ' A', P p i σ' A' → KnL K A' p xs)
    (hs : ∀ p i x σ' A', xs[i]? = some x → P p i σ' A' → Go tb { D with nx := Nf (P p) (i + 1), ct := Nf (P p) (i + 1), bk := D.nx } (σ'.set j (some x)) A') (hd : ∀ p σ' A', P p xs.length σ' A' → ∀ H, A'.P H → D.nx σ' H) : Go (tFor (iList K tl) (gName j) tb) D σ A := fun H hA =>
  h H hA _ fun p H1 _ e1 hp => ⟨p, rfl, ⟨xs, SqL.of hp⟩, for_it walk_list (Nf (P p)) ⟨_, h0 p, A.st _ _ hA e1, hp⟩ (fun i σ' H' _ ⟨A', q, a⟩ => hx p i σ' A' q H' a) (fun i x σ' H' H2 _ ⟨A', q, a⟩ y => by
    obtain ⟨rfl, hx2⟩ := y
    exact hs p i x σ' A' hx2 q _ a) (fun σ' H' ⟨A', q, a⟩ => hd p σ' A' q H' a)⟩
theorem s_forT {tl : TE} {a : Addr} (h : Cv (tl σ) A (.ref a)) (P : Nat → L2.St → Asr → Prop) (h0 : P 0 σ A) (hx : ∀ i σ' A', P i σ' A' → KnT K A' a xs)
    (hs : ∀ i x σ' A', xs[i]? = some x → P i σ' A' → Go tb { D with nx := Nf P (i + 1), ct := Nf P (i + 1), bk := D.nx } (σ'.set j (some x)) A') (hd : ∀ σ' A', P xs.length σ' A' → ∀ H, A'.P H → D.nx σ' H) : Go (tFor (iTup K tl) (gName j) tb) D σ A :=
  s_forA (j_tup h (hx 0 σ A h0)) walk_tup P h0 (fun i σ' A' _ p => hx i σ' A' p) hs hd
/-- a text -/
theorem s_forS {tl : TE} {z : Str} (h : Cv (tl σ) A (.str z)) (P : Nat → L2.St → Asr → Prop) (h0 : P 0 σ A)
    (hs : ∀ i c σ' A', z.cps.toList[i]? = some c → P i σ' A' → Go tb { D with nx := Nf P (i + 1), ct := Nf P (i + 1), bk := D.nx } (σ'.set j (some (.str ⟨#[c]⟩))) A') (hd : ∀ σ' A', P z.length σ' A' → ∀ H, A'.P H → D.nx σ' H) : Go (tFor (iStr tl) (gName j) tb) D σ A :=
  s_for (j_str h) walk_str P h0 (fun _ _ _ _ _ _ _ => True.intro) (fun i σ' A' hi p H hA x H' y => by
    obtain ⟨rfl, c, hc, rfl⟩ := y
    exact hs i c σ' A' (by rw [← hc]; simp) p _ hA) hd
/-- for i, x in pairs that are made for each turn -/
theorem s_forP {K' : PySem.W.Frag} {fx fy : Nat → Option V} (hj : Cj (wi σ) A J) (w : Walk J m G (YPair fx fy)) (P : Nat → L2.St → Asr → Prop) (h0 : P 0 σ A) (hG : ∀ i σ' A', i ≤ m → P i σ' A' → ∀ H, A'.P H → G H)
    (hs : ∀ i x y σ' A', i < m → fx i = some x → fy i = some y → P i σ' A' → Go tb { D with nx := Nf P (i + 1), ct := Nf P (i + 1), bk := D.nx } ((σ'.set j (some x)).set k (some y)) A') (hd : ∀ σ' A', P m σ' A' → ∀ H, A'.P H → D.nx σ' H) :
    Go (tFor wi (gTup K' 2 (gCons (gName j) (gCons (gName k) gNil))) tb) D σ A :=
  s_for hj w P h0 hG (fun i σ' A' hi p H hA x H' y => by
    obtain ⟨T, u, v, rfl, hT, rfl, h1, h2⟩ := y
    exact ⟨T, [u, v], rfl, SqT.of upd_same, rfl, u, [v], rfl, v, [], rfl, rfl, hs i u v σ' A' hi h1 h2 p _ (A'.st _ _ hA (same_new hT))⟩) hd
theorem s_forE {ta : TA} {a : Addr} {K' : PySem.W.Frag} (h : Ca (ta σ) A [.ref a]) (P : Nat → L2.St → Asr → Prop) (h0 : P 0 σ A) (hx : ∀ i σ' A', P i σ' A' → KnL K A' a xs)
    (hs : ∀ (i : Nat) x σ' A', xs[i]? = some x → P i σ' A' → Go tb { D with nx := Nf P (i + 1), ct := Nf P (i + 1), bk := D.nx } ((σ'.set j (some (.int (i : Int)))).set k (some x)) A') (hd : ∀ σ' A', P xs.length σ' A' → ∀ H, A'.P H → D.nx σ' H) :
    Go (tFor (iEnum K ta) (gTup K' 2 (gCons (gName j) (gCons (gName k) gNil))) tb) D σ A :=
  s_forP (j_enum h (hx 0 σ A h0)) walk_enum P h0 (fun i σ' A' _ p => hx i σ' A' p) (fun i x y σ' A' hi h1 h2 p => by
    cases h1
    exact hs i y σ' A' h2 p) hd
theorem s_while {tt : TT} (P : Nat → L2.St → Asr → Prop) (m0 : Nat) (h0 : P m0 σ A)
    (hs : ∀ m σ' A', P m σ' A' → ∃ b, Ct (tt σ') A' b ∧ (b = true → Go tb { D with nx := Nw P m, ct := Nw P m, bk := D.nx } σ' A') ∧ (b = false → ∀ H, A'.P H → D.nx σ' H)) : Go (tWhile tt tb) D σ A := fun H hA =>
  ⟨fun m σ' H' => ∃ A', P m σ' A' ∧ A'.P H', ⟨m0, A, h0, hA⟩, fun m σ' H' ⟨A', p, a⟩ => by
    obtain ⟨b, hb, h1, h2⟩ := hs m σ' A' p
    refine hb H' a _ fun H1 e1 => ?_
    cases b with
    | true =>
      rw [if_pos rfl]
      exact ⟨Nw P m, fun σ2 H2 ⟨m', A2, hl, p2, a2⟩ => ⟨m', hl, A2, p2, a2⟩, h1 rfl H1 (A'.st _ _ a e1)⟩
    | false =>
      rw [if_neg Bool.false_ne_true]
      exact h2 rfl H1 (A'.st _ _ a e1)⟩
end
section
variable {K : PySem.W.Frag} {σ : L2.St} {A : Asr} {wi : TI} {g : TG} {tb s : TS} {D : Ends} {m j k : Nat} {xs : List V}
theorem q_forR {ta : TA} {n : Int} (h : Ca (ta σ) A [.int n]) (h2 : n < 4611686018427387904) (h1 : -4611686018427387904 ≤ n) (P : Nat → L2.St → Asr → Prop) (h0 : P 0 σ A)
    (hs : ∀ (i : Nat) σ' A', (i : Int) < n → P i σ' A' → Go tb { D with nx := Nf P (i + 1), ct := Nf P (i + 1), bk := s D } (σ'.set j (some (.int (i : Int)))) A') (hd : ∀ σ' A', P n.toNat σ' A' → Go s D σ' A') : Go (tSeq (tFor (iRng1 ta) (gName j) tb) s) D σ A :=
  g_seq (s_forR h h2 h1 P h0 hs hd)
theorem q_forR2 {ta : TA} {lo n : Int} (h : Ca (ta σ) A [.int lo, .int n]) (h1 : -4611686018427387904 ≤ lo ∧ lo < 4611686018427387904 ∧ -4611686018427387904 ≤ n ∧ n < 4611686018427387904) (P : Nat → L2.St → Asr → Prop) (h0 : P 0 σ A)
    (hs : ∀ (i : Nat) σ' A', lo + (i : Int) < n → P i σ' A' → Go tb { D with nx := Nf P (i + 1), ct := Nf P (i + 1), bk := s D } (σ'.set j (some (.int (lo + (i : Int))))) A') (hd : ∀ σ' A', P (n - lo).toNat σ' A' → Go s D σ' A') : Go (tSeq (tFor (iRng2 ta) (gName j) tb) s) D σ A :=
  g_seq (s_forR2 h h1 P h0 hs hd)
theorem q_forL {tl : TE} {a : Addr} (h : Cv (tl σ) A (.ref a)) (P : Nat → L2.St → Asr → Prop) (h0 : P 0 σ A) (hx : ∀ i σ' A', P i σ' A' → KnL K A' a xs)
    (hs : ∀ i x σ' A', xs[i]? = some x → P i σ' A' → Go tb { D with nx := Nf P (i + 1), ct := Nf P (i + 1), bk := s D } (σ'.set j (some x)) A') (hd : ∀ σ' A', P xs.length σ' A' → Go s D σ' A') : Go (tSeq (tFor (iList K tl) (gName j) tb) s) D σ A :=
  g_seq (s_forL h P h0 hx hs hd)
theorem q_forN {tl : TE} (h : Cn (tl σ) A (.lst xs)) (P : Addr → Nat → L2.St → Asr → Prop) (h0 : ∀ p, P p 0 σ (A.kn p (.lst xs))) (hx : ∀ p i σ' A', P p i σ' A' → KnL K A' p xs)
    (hs : ∀ p i x σ' A', xs[i]? = some x → P p i σ' A' → Go tb { D with nx := Nf (P p) (i + 1), ct := Nf (P p) (i + 1), bk := s D } (σ'.set j (some x)) A') (hd : ∀ p σ' A', P p xs.length σ' A' → Go s D σ' A') : Go (tSeq (tFor (iList K tl) (gName j) tb) s) D σ A :=
  g_seq (s_forN h P h0 hx hs hd)
theorem q_forT {tl : TE} {a : Addr} (h : Cv (tl σ) A (.ref a)) (P : Nat → L2.St → Asr → Prop) (h0 : P 0 σ A) (hx : ∀ i σ' A', P i σ' A' → KnT K A' a xs)
    (hs : ∀ i x σ' A', xs[i]? = some x → P i σ' A' → Go tb { D with nx := Nf P (i + 1), ct := Nf P (i + 1), bk := s D } (σ'.set j (some x)) A') (hd : ∀ σ' A', P xs.length σ' A' → Go s D σ' A') : Go (tSeq (tFor (iTup K tl) (gName j) tb) s) D σ A :=
  g_seq (s_forT h P h0 hx hs hd)
theorem q_forS {tl : TE} {z : Str} (h : Cv (tl σ) A (.str z)) (P : Nat → L2.St → Asr → Prop) (h0 : P 0 σ A)
    (hs : ∀ i c σ' A', z.cps.toList[i]? = some c → P i σ' A' → Go tb { D with nx := Nf P (i + 1), ct := Nf P (i + 1), bk := s D } (σ'.set j (some (.str ⟨#[c]⟩))) A') (hd : ∀ σ' A', P z.length σ' A' → Go s D σ' A') : Go (tSeq (tFor (iStr tl) (gName j) tb) s) D σ A :=
  g_seq (s_forS h P h0 hs hd)
theorem q_forE {ta : TA} {a : Addr} {K' : PySem.W.Frag} (h : Ca (ta σ) A [.ref a]) (P : Nat → L2.St → Asr → Prop) (h0 : P 0 σ A) (hx : ∀ i σ' A', P i σ' A' → KnL K A' a xs)
    (hs : ∀ (i : Nat) x σ' A', xs[i]? = some x → P i σ' A' → Go tb { D with nx := Nf P (i + 1), ct := Nf P (i + 1), bk := s D } ((σ'.set j (some (.int (i : Int)))).set k (some x)) A') (hd : ∀ σ' A', P xs.length σ' A' → Go s D σ' A') :
    Go (tSeq (tFor (iEnum K ta) (gTup K' 2 (gCons (gName j) (gCons (gName k) gNil))) tb) s) D σ A :=
  g_seq (s_forE h P h0 hx hs hd)
theorem q_while {tt : TT} (P : Nat → L2.St → Asr → Prop) (m0 : Nat) (h0 : P m0 σ A)
    (hs : ∀ m σ' A', P m σ' A' → ∃ b, Ct (tt σ') A' b ∧ (b = true → Go tb { D with nx := Nw P m, ct := Nw P m, bk := s D } σ' A') ∧ (b = false → Go s D σ' A')) : Go (tSeq (tWhile tt tb) s) D σ A :=
  g_seq (s_while P m0 h0 hs)
end
/-! ### objects of one's own in statements -/
section
variable {K : PySem.W.Frag} {S0 E0 S : Hp} {L L' : List (Addr × HO)} {σ : L2.St} {te tv ti : TE} {v y : V} {o u : HO} {D : Ends} {s : TS} {i j : Nat} {k : Int} {p : Addr} {xs : List V}
theorem q_own (h : Cn (te σ) (at_ S0 E0 S L) o) (k : ∀ p, Go s D (σ.set i (some (.ref p))) (at_ S0 E0 S ((p, o) :: L))) : Go (tSeq (tAsg te (gName i)) s) D σ (at_ S0 E0 S L) :=
  fun H a => h H a _ fun p H1 n e1 hp => k p H1 (AtP.own a n e1 hp)
theorem s_own (h : Cn (te σ) (at_ S0 E0 S L) o) (k : ∀ p H, (at_ S0 E0 S ((p, o) :: L)).P H → D.nx (σ.set i (some (.ref p))) H) : Go (tAsg te (gName i)) D σ (at_ S0 E0 S L) :=
  fun H a => h H a _ fun p H1 n e1 hp => k p H1 (AtP.own a n e1 hp)
theorem app_run (hv : Cv (tv σ) (at_ S0 E0 S L) (.ref p)) (h : Cv (te σ) (at_ S0 E0 S L) v) (w : Up1 p (.lst xs) (.lst (xs ++ [v])) L L') (hz : xs.length < sizeLine) (k : ∀ H, AtP S0 E0 S L' H → D.nx σ H) :
    Go (tDrop (tBM K "list" rAppend tv (tCons te tNil))) D σ (at_ S0 E0 S L) := fun H a => hv H a _ fun H1 e1 => by
  have a1 : AtP S0 E0 S L H1 := AtP.ext a e1
  exact ⟨.inl ⟨rfl, xs, SqL.of (a1.ow _ w.mem).1⟩, h H1 a1 _ fun H2 e2 => ⟨p, xs, v, rfl, rfl, ((a1.ext e2).ow _ w.mem).1, hz, k _ ((a1.ext e2).put w)⟩⟩
theorem q_app (hv : Cv (tv σ) (at_ S0 E0 S L) (.ref p)) (h : Cv (te σ) (at_ S0 E0 S L) v) (w : Up1 p (.lst xs) (.lst (xs ++ [v])) L L') (hz : xs.length < sizeLine) (k : Go s D σ (at_ S0 E0 S L')) :
    Go (tSeq (tDrop (tBM K "list" rAppend tv (tCons te tNil))) s) D σ (at_ S0 E0 S L) := g_seq (app_run hv h w hz k)
theorem s_app (hv : Cv (tv σ) (at_ S0 E0 S L) (.ref p)) (h : Cv (te σ) (at_ S0 E0 S L) v) (w : Up1 p (.lst xs) (.lst (xs ++ [v])) L L') (hz : xs.length < sizeLine) (k : ∀ H, (at_ S0 E0 S L').P H → D.nx σ H) :
    Go (tDrop (tBM K "list" rAppend tv (tCons te tNil))) D σ (at_ S0 E0 S L) := app_run hv h w hz k
/-- a new object is put behind, for good -/
theorem appN_run {N : Addr → List (Addr × HO)} (hv : Cv (tv σ) (at_ S0 E0 S L) (.ref p)) (h : Cn (te σ) (at_ S0 E0 S L) o) (w : ∀ q, Up1 p (.lst xs) (.lst (xs ++ [.ref q])) L (N q)) (hz : xs.length < sizeLine)
    (k : ∀ q, S q = none → q ≠ p → ∀ H, AtP S0 E0 (upd S q o) (N q) H → D.nx σ H) :
    Go (tDrop (tBM K "list" rAppend tv (tCons te tNil))) D σ (at_ S0 E0 S L) := fun H a => hv H a _ fun H1 e1 => by
  have a1 : AtP S0 E0 S L H1 := AtP.ext a e1
  have m := (w p).mem
  refine ⟨.inl ⟨rfl, xs, SqL.of (a1.ow _ m).1⟩, h H1 a1 _ fun q H2 n e2 hq => ?_⟩
  have a2 : AtP S0 E0 S L H2 := a1.ext e2
  exact ⟨p, xs, .ref q, rfl, rfl, (a2.ow _ m).1, hz, k q (a1.sh.free n) (fun e => by rw [e, (a1.ow _ m).1] at n; cases n) _ ((a1.own n e2 hq).put (Up1.tail (w q))).keep⟩
theorem q_appN {N : Addr → List (Addr × HO)} (hv : Cv (tv σ) (at_ S0 E0 S L) (.ref p)) (h : Cn (te σ) (at_ S0 E0 S L) o) (w : ∀ q, Up1 p (.lst xs) (.lst (xs ++ [.ref q])) L (N q)) (hz : xs.length < sizeLine)
    (k : ∀ q, S q = none → q ≠ p → Go s D σ (at_ S0 E0 (upd S q o) (N q))) : Go (tSeq (tDrop (tBM K "list" rAppend tv (tCons te tNil))) s) D σ (at_ S0 E0 S L) := g_seq (appN_run hv h w hz k)
theorem s_appN {N : Addr → List (Addr × HO)} (hv : Cv (tv σ) (at_ S0 E0 S L) (.ref p)) (h : Cn (te σ) (at_ S0 E0 S L) o) (w : ∀ q, Up1 p (.lst xs) (.lst (xs ++ [.ref q])) L (N q)) (hz : xs.length < sizeLine)
    (k : ∀ q, S q = none → q ≠ p → ∀ H, (at_ S0 E0 (upd S q o) (N q)).P H → D.nx σ H) : Go (tDrop (tBM K "list" rAppend tv (tCons te tNil))) D σ (at_ S0 E0 S L) := appN_run hv h w hz k
theorem set_run (h : Cv (te σ) (at_ S0 E0 S L) v) (hv : Cv (tv σ) (at_ S0 E0 S L) (.ref p)) (hi : Cv (ti σ) (at_ S0 E0 S L) (.int k)) (hj : ixN xs.length k = some j) (w : Up1 p (.lst xs) (.lst (xs.set j v)) L L') (c : ∀ H, AtP S0 E0 S L' H → D.nx σ H) :
    Go (tAsg te (gSub tv ti rSetA)) D σ (at_ S0 E0 S L) := fun H a => h H a _ fun H1 e1 => by
  have a1 : AtP S0 E0 S L H1 := AtP.ext a e1
  refine hv H1 a1 _ fun H2 e2 => hi H2 (a1.ext e2) _ fun H3 e3 => ?_
  have a3 : AtP S0 E0 S L H3 := (a1.ext e2).ext e3
  exact .inl ⟨p, xs, k, j, rfl, rfl, (a3.ow _ w.mem).1, hj, c _ (a3.put w)⟩
theorem q_set (h : Cv (te σ) (at_ S0 E0 S L) v) (hv : Cv (tv σ) (at_ S0 E0 S L) (.ref p)) (hi : Cv (ti σ) (at_ S0 E0 S L) (.int k)) (hj : ixN xs.length k = some j) (w : Up1 p (.lst xs) (.lst (xs.set j v)) L L') (c : Go s D σ (at_ S0 E0 S L')) :
    Go (tSeq (tAsg te (gSub tv ti rSetA)) s) D σ (at_ S0 E0 S L) := g_seq (set_run h hv hi hj w c)
theorem s_set (h : Cv (te σ) (at_ S0 E0 S L) v) (hv : Cv (tv σ) (at_ S0 E0 S L) (.ref p)) (hi : Cv (ti σ) (at_ S0 E0 S L) (.int k)) (hj : ixN xs.length k = some j) (w : Up1 p (.lst xs) (.lst (xs.set j v)) L L') (c : ∀ H, (at_ S0 E0 S L').P H → D.nx σ H) :
    Go (tAsg te (gSub tv ti rSetA)) D σ (at_ S0 E0 S L) := set_run h hv hi hj w c
theorem q_pop (hv : Cv (tv σ) (at_ S0 E0 S L) (.ref p)) (hy : xs[xs.length - 1]? = some y) (w : Up1 p (.lst xs) (.lst xs.dropLast) L L') (c : Go s D (σ.set i (some y)) (at_ S0 E0 S L')) :
    Go (tSeq (tAsg (tBM0 K "list" rPop tv) (gName i)) s) D σ (at_ S0 E0 S L) := fun H a => hv H a _ fun H1 e1 => by
  have a1 : AtP S0 E0 S L H1 := AtP.ext a e1
  exact ⟨.inl ⟨rfl, xs, SqL.of (a1.ow _ w.mem).1⟩, p, xs, y, rfl, rfl, (a1.ow _ w.mem).1, hy, c _ (a1.put w)⟩
end
section
variable {S0 S H : Hp} {L : List (Addr × HO)} {σ : L2.St} {te : TE} {o : HO} {D : Ends} {p : Addr}
theorem s_retO (hv : Cv (te σ) (at_ S0 H S L) (.ref p)) (hm : (p, o) ∈ L) (q : RetN o H D.rt) : Go (tRet te) D σ (at_ S0 H S L) := fun H1 a => hv H1 a _ fun H2 e2 => by
  have a2 : AtP S0 H S L H2 := AtP.ext a e2
  exact q p H2 (a2.ow _ hm).2.2 a2.e0 (a2.ow _ hm).1
end
/-- a statement that is never reached -/
def tDead : TS := fun _ _ _ => False
theorem ps_dead {X : Cx} {st : Stmt} : PS X st tDead := ⟨fun _ _ _ _ _ _ h => False.elim h⟩
theorem go_dead {D : Ends} {σ : L2.St} {A : Asr} (h : False) : Go tDead D σ A := h.elim
/-- sep.join(xs) -/
def rJoin (K : PySem.W.Frag) : V → List V → Hp → VK → Prop := fun x xs H Q => ∃ a p, ∃ ys : List Str, x = .str a ∧ xs = [.ref p] ∧ (SqL K H p (ys.map V.str) ∨ SqT K H p (ys.map V.str)) ∧
  (ys.map (·.length)).sum + ys.length * a.length ≤ 16777216 ∧ Q (.str (Txt.join a ys)) H
open PySem.Spec PyProof.Rows in
theorem pe_joinA {X : Cx} {o e : Expr} {to te : TE} {apos pos : Pos} (ho : PE X o to) (he : PE X e te) (hs : starEach [e] X.env = [(false, eval e X.env)] := by rfl) (hbase : attributeBase o "join" X.env (eval o X.env) = eval o X.env := by rfl) (hline : (apos.endLine == pos.line) = true := by rfl) :
    PE X (.Call (.Attribute o "join" apos) [e] [] pos) (tM1 (rJoin X.K) to te) := pe_join ho he hs hbase hline
theorem e_join {K : PySem.W.Frag} {A : Asr} {a : Str} {p : Addr} {ys : List Str} (h : KnL K A p (ys.map V.str)) (hz : (ys.map (·.length)).sum + ys.length * a.length ≤ 16777216) : Cv (rJoin K (.str a) [.ref p]) A (.str (Txt.join a ys)) := fun H hA _ q =>
  ⟨a, p, ys, rfl, rfl, .inl (h H hA), hz, q H (Same.refl H)⟩
/-- list(xs) -/
def rCopy (K : PySem.W.Frag) : List V → Hp → VK → Prop := fun xs H Q => ∃ p ys, xs = [.ref p] ∧ (SqL K H p ys ∨ SqT K H p ys) ∧ ∀ l, H l = none → Q (.ref l) (upd H l (.lst ys))
theorem call_copyA {X : Cx} : CallR X (.type "list") (rCopy X.K) := call_list_of
theorem e_copyL {K : PySem.W.Frag} {A : Asr} {p : Addr} {ys : List V} (h : KnL K A p ys) : Cn (rCopy K [.ref p]) A (.lst ys) := fun H hA _ q => ⟨p, ys, rfl, .inl (h H hA), fun l hl => q l _ hl (same_new hl) upd_same⟩
theorem e_copyT {K : PySem.W.Frag} {A : Asr} {p : Addr} {ys : List V} (h : KnT K A p ys) : Cn (rCopy K [.ref p]) A (.lst ys) := fun H hA _ q => ⟨p, ys, rfl, .inr (h H hA), fun l hl => q l _ hl (same_new hl) upd_same⟩
/-- tuple(xs) -/
def rTupA (K : PySem.W.Frag) : List V → Hp → VK → Prop := fun xs H Q => ∃ p ys, xs = [.ref p] ∧ ((SqL K H p ys ∧ ∀ l, H l = none → Q (.ref l) (upd H l (.tup ys))) ∨ (SqT K H p ys ∧ Q (.ref p) H))
theorem call_tupA {X : Cx} : CallR X (.type "tuple") (rTupA X.K) := call_tuple_of
theorem e_tupL {K : PySem.W.Frag} {A : Asr} {p : Addr} {ys : List V} (h : KnL K A p ys) : Cn (rTupA K [.ref p]) A (.tup ys) := fun H hA _ q => ⟨p, ys, rfl, .inl ⟨h H hA, fun l hl => q l _ hl (same_new hl) upd_same⟩⟩
theorem e_tupT {K : PySem.W.Frag} {A : Asr} {p : Addr} {ys : List V} (h : KnT K A p ys) : Cv (rTupA K [.ref p]) A (.ref p) := fun H hA _ q => ⟨p, ys, rfl, .inr ⟨h H hA, q H (Same.refl H)⟩⟩
/-- range with a step -/
theorem j_rng3 {σ : L2.St} {A : Asr} {ta : TA} {lo n c : Int} {m : Nat} (h : Ca (ta σ) A [.int lo, .int n, .int c]) (h1 : RgC lo n c m) : Cj (iRng3 ta σ) A (Itc lo c m) := fun H hA R k => h H hA _ fun H1 e1 => ⟨lo, n, c, m, rfl, h1, k H1 e1⟩
section
variable {K : PySem.W.Frag} {S0 E0 S : Hp} {L : List (Addr × HO)} {σ : L2.St} {tb s : TS} {D : Ends} {j : Nat} {xs : List V}
theorem s_forO {tl : TE} (h : Cn (tl σ) (at_ S0 E0 S L) (.lst xs)) (P : Addr → Nat → L2.St → Asr → Prop) (h0 : ∀ p, P p 0 σ (at_ S0 E0 S ((p, .lst xs) :: L))) (hx : ∀ p i σ' A', P p i σ' A' → KnL K A' p xs)
    (hs : ∀ p i x σ' A', xs[i]? = some x → P p i σ' A' → Go tb { D with nx := Nf (P p) (i + 1), ct := Nf (P p) (i + 1), bk := D.nx } (σ'.set j (some x)) A') (hd : ∀ p σ' A', P p xs.length σ' A' → ∀ H, A'.P H → D.nx σ' H) : Go (tFor (iList K tl) (gName j) tb) D σ (at_ S0 E0 S L) := fun H hA =>
  h H hA _ fun p H1 n e1 hp => ⟨p, rfl, ⟨xs, SqL.of hp⟩, for_it walk_list (Nf (P p)) ⟨_, h0 p, AtP.own hA n e1 hp⟩ (fun i σ' H' _ ⟨A', q, a⟩ => hx p i σ' A' q H' a) (fun i x σ' H' H2 _ ⟨A', q, a⟩ y => by
    obtain ⟨rfl, hx2⟩ := y
    exact hs p i x σ' A' hx2 q _ a) (fun σ' H' ⟨A', q, a⟩ => hd p σ' A' q H' a)⟩
theorem q_forO {tl : TE} (h : Cn (tl σ) (at_ S0 E0 S L) (.lst xs)) (P : Addr → Nat → L2.St → Asr → Prop) (h0 : ∀ p, P p 0 σ (at_ S0 E0 S ((p, .lst xs) :: L))) (hx : ∀ p i σ' A', P p i σ' A' → KnL K A' p xs)
    (hs : ∀ p i x σ' A', xs[i]? = some x → P p i σ' A' → Go tb { D with nx := Nf (P p) (i + 1), ct := Nf (P p) (i + 1), bk := s D } (σ'.set j (some x)) A') (hd : ∀ p σ' A', P p xs.length σ' A' → Go s D σ' A') : Go (tSeq (tFor (iList K tl) (gName j) tb) s) D σ (at_ S0 E0 S L) :=
  g_seq (s_forO h P h0 hx hs hd)
end
/-! ### comprehensions -/
section
variable {K : PySem.W.Frag} {σ : L2.St} {A : Asr} {wi : TI} {g : TG} {tt : TT} {te : TE} {J : It} {m j k : Nat} {G : Hp → Prop} {Y : Nat → Hp → V → Hp → Prop} {vs : List Nat}
def AccP (acc : Nat → List V) (H1 : Hp) (Dl : Addr) (i : Nat) (H : Hp) : Prop := H1 Dl = none ∧ Same H1 H ∧ H Dl = some (.lst (acc i))
theorem same_mut {H H' : Hp} {p : Addr} {o : HO} (e : Same H H') (h : H p = none) : Same H (upd H' p o) := fun a u ha => by
  rw [upd_ne (ne_of_none ha h)]
  exact e a u ha
theorem lc_turn {c : CmB} {e : Cm} {b : Bool} {v : V} {H1 H' : Hp} {Dl : Addr} {acc : Nat → List V} {i : Nat} (p : AccP acc H1 Dl i H') (hA : A.P H1) (hz : (acc i).length < sizeLine) (ht : Ct c A b) (he : b = true → Cv e A v)
    (ha : acc (i + 1) = if b then acc i ++ [v] else acc i) :
    c H' fun b H3 => if b = true then e H3 fun y H4 => ∃ ac, H4 Dl = some (.lst ac) ∧ ac.length < sizeLine ∧ AccP acc H1 Dl (i + 1) (upd H4 Dl (.lst (ac ++ [y]))) else AccP acc H1 Dl (i + 1) H3 := by
  obtain ⟨p1, p2, p3⟩ := p
  refine ht H' (A.st _ _ hA p2) _ fun H3 e3 => ?_
  cases b with
  | true =>
    rw [if_pos rfl]
    rw [if_pos rfl] at ha
    refine he rfl H3 (A.st _ _ hA (p2.trans e3)) _ fun H4 e4 => ⟨acc i, e4 Dl _ (e3 Dl _ p3), hz, p1, same_mut ((p2.trans e3).trans e4) p1, ?_⟩
    rw [ha]
    exact upd_same
  | false =>
    rw [if_neg Bool.false_ne_true]
    rw [if_neg Bool.false_ne_true] at ha
    refine ⟨p1, p2.trans e3, ?_⟩
    rw [ha]
    exact e3 Dl _ p3
theorem range_acc {p : Nat → Bool} {v : Nat → V} (i : Nat) : ((List.range (i + 1)).filter p).map v = if p i then ((List.range i).filter p).map v ++ [v i] else ((List.range i).filter p).map v := by
  rw [List.range_succ, List.filter_append, List.map_append, List.filter_cons]
  split <;> simp
theorem range_len {p : Nat → Bool} {v : Nat → V} (i : Nat) : (((List.range i).filter p).map v).length ≤ i := by
  rw [List.length_map]
  exact Nat.le_trans (List.length_filter_le _ _) (by simp)
theorem take_acc {α : Type} {l : List α} {p : α → Bool} {v : α → V} {i : Nat} {x : α} (h : l[i]? = some x) : ((l.take (i + 1)).filter p).map v = if p x then ((l.take i).filter p).map v ++ [v x] else ((l.take i).filter p).map v := by
  rw [List.take_add_one, h, List.filter_append, List.map_append]
  show _ ++ List.map v (List.filter p [x]) = _
  rw [List.filter_cons]
  split <;> simp
theorem take_len {α : Type} {l : List α} {p : α → Bool} {v : α → V} (i : Nat) : (((l.take i).filter p).map v).length ≤ l.length := by
  rw [List.length_map]
  exact Nat.le_trans (List.length_filter_le _ _) (by rw [List.length_take]; omega)
theorem n_lcF {f : Nat → V} (hj : Cj (wi σ) A J) (w : Walk J m (fun _ => True) (YFn f)) (hm : m < sizeLine) (p : Nat → Bool) (v : Nat → V)
    (ht : ∀ i, i < m → Ct (tt ((wipe σ vs).set j (some (f i)))) A (p i)) (he : ∀ i, i < m → p i = true → Cv (te ((wipe σ vs).set j (some (f i)))) A (v i)) (hw : ∀ x, wipe ((wipe σ vs).set j (some x)) vs = wipe σ vs) :
    Cn (tLc wi (gName j) tt te vs σ) A (.lst (((List.range m).filter p).map v)) := fun H hA Q q => hj H hA _ fun H1 e1 Dl hD => by
  have hA1 := A.st _ _ hA e1
  refine lc_it w (AccP (fun i => ((List.range i).filter p).map v) H1 Dl) ⟨hD, same_new hD, upd_same⟩ (fun _ _ _ _ => True.intro) (fun i x H' H2 hi p' y => ?_) (fun H' p' => q Dl H' (e1.free hD) (e1.trans p'.2.1) p'.2.2)
  obtain ⟨rfl, rfl⟩ := y
  exact ⟨hw _, lc_turn p' hA1 (Nat.lt_of_le_of_lt (range_len i) (by omega)) (ht i hi) (he i hi) (range_acc i)⟩
theorem n_lcA {α : Type} {l : List α} {f : α → V} (hj : Cj (wi σ) A J) (w : Walk J l.length G (YAt (l.map f))) (hG : ∀ H, A.P H → G H) (hm : l.length < sizeLine) (p : α → Bool) (v : α → V)
    (ht : ∀ x, x ∈ l → Ct (tt ((wipe σ vs).set j (some (f x)))) A (p x)) (he : ∀ x, x ∈ l → p x = true → Cv (te ((wipe σ vs).set j (some (f x)))) A (v x)) (hw : ∀ x, wipe ((wipe σ vs).set j (some x)) vs = wipe σ vs) :
    Cn (tLc wi (gName j) tt te vs σ) A (.lst ((l.filter p).map v)) := fun H hA Q q => hj H hA _ fun H1 e1 Dl hD => by
  have hA1 := A.st _ _ hA e1
  refine lc_it w (AccP (fun i => ((l.take i).filter p).map v) H1 Dl) ⟨hD, same_new hD, upd_same⟩ (fun i H' _ p' => hG H' (A.st _ _ hA1 p'.2.1)) (fun i x H' H2 hi p' y => ?_) (fun H' p' => q Dl H' (e1.free hD) (e1.trans p'.2.1) ?_)
  · obtain ⟨rfl, hx⟩ := y
    rw [List.getElem?_map] at hx
    obtain ⟨z, hz, rfl⟩ := Option.map_eq_some_iff.mp hx
    have hm' : z ∈ l := List.mem_of_getElem? hz
    exact ⟨hw _, lc_turn p' hA1 (Nat.lt_of_le_of_lt (take_len i) hm) (ht z hm') (he z hm') (take_acc hz)⟩
  · have h3 := p'.2.2
    simp only [List.take_length] at h3
    exact h3
theorem n_lcP {K' : PySem.W.Frag} {fx fy : Nat → Option V} (hj : Cj (wi σ) A J) (w : Walk J m G (YPair fx fy)) (hG : ∀ H, A.P H → G H) (hm : m < sizeLine) (p : Nat → Bool) (v : Nat → V)
    (ht : ∀ i x y, i < m → fx i = some x → fy i = some y → Ct (tt (((wipe σ vs).set j (some x)).set k (some y))) A (p i)) (he : ∀ i x y, i < m → fx i = some x → fy i = some y → p i = true → Cv (te (((wipe σ vs).set j (some x)).set k (some y))) A (v i))
    (hw : ∀ x y, wipe (((wipe σ vs).set j (some x)).set k (some y)) vs = wipe σ vs) :
    Cn (tLc wi (gTup K' 2 (gCons (gName j) (gCons (gName k) gNil))) tt te vs σ) A (.lst (((List.range m).filter p).map v)) := fun H hA Q q => hj H hA _ fun H1 e1 Dl hD => by
  have hA1 := A.st _ _ hA e1
  refine lc_it w (AccP (fun i => ((List.range i).filter p).map v) H1 Dl) ⟨hD, same_new hD, upd_same⟩ (fun i H' _ p' => hG H' (A.st _ _ hA1 p'.2.1)) (fun i x H' H2 hi p' y => ?_) (fun H' p' => q Dl H' (e1.free hD) (e1.trans p'.2.1) p'.2.2)
  obtain ⟨T, a, b, rfl, hT, rfl, h1, h2⟩ := y
  have p2 : AccP (fun i => ((List.range i).filter p).map v) H1 Dl i (upd H' T (.tup [a, b])) := ⟨p'.1, p'.2.1.trans (same_new hT), same_new hT _ _ p'.2.2⟩
  exact ⟨T, [a, b], rfl, SqT.of upd_same, rfl, a, [b], rfl, b, [], rfl, rfl, hw _ _, lc_turn p2 hA1 (Nat.lt_of_le_of_lt (range_len i) (by omega)) (ht i a b hi h1 h2) (he i a b hi h1 h2) (range_acc i)⟩
/-- without a test -/
theorem filt_yes {α : Type} (l : List α) : l.filter (fun _ => true) = l := by simp
/-- [e for x in range(n)] -/
theorem n_lcR {ta : TA} {n : Int} (v : Nat → V) (h : Ca (ta σ) A [.int n]) (hn : n ≤ 1000000) (h1 : -4611686018427387904 ≤ n) (he : ∀ i : Nat, (i : Int) < n → Cv (te ((wipe σ vs).set j (some (.int (i : Int))))) A (v i)) (hw : ∀ x, wipe ((wipe σ vs).set j (some x)) vs = wipe σ vs) :
    Cn (tLc (iRng1 ta) (gName j) tYes te vs σ) A (.lst ((List.range n.toNat).map v)) := by
  have e0 : ∀ i : Nat, (0 : Int) + (i : Int) = (i : Int) := fun i => Int.zero_add _
  have hs : sizeLine = 16777216 := sizeLine_eq
  have z := n_lcF (vs := vs) (te := te) (j := j) (j_rng1 h h1 (by omega)) walk_range (show n.toNat < sizeLine by omega) (fun _ => true) v (fun _ _ => t_yes) (fun i hi _ => by rw [e0 i]; exact he i (by omega)) hw
  rw [filt_yes] at z
  exact z
theorem n_lcRT {ta : TA} {n : Int} (p : Nat → Bool) (v : Nat → V) (h : Ca (ta σ) A [.int n]) (hn : n ≤ 1000000) (h1 : -4611686018427387904 ≤ n) (ht : ∀ i : Nat, (i : Int) < n → Ct (tt ((wipe σ vs).set j (some (.int (i : Int))))) A (p i)) (he : ∀ i : Nat, (i : Int) < n → p i = true → Cv (te ((wipe σ vs).set j (some (.int (i : Int))))) A (v i)) (hw : ∀ x, wipe ((wipe σ vs).set j (some x)) vs = wipe σ vs) :
    Cn (tLc (iRng1 ta) (gName j) tt te vs σ) A (.lst (((List.range n.toNat).filter p).map v)) := by
  have e0 : ∀ i : Nat, (0 : Int) + (i : Int) = (i : Int) := fun i => Int.zero_add _
  have hs : sizeLine = 16777216 := sizeLine_eq
  exact n_lcF (vs := vs) (te := te) (j := j) (j_rng1 h h1 (by omega)) walk_range (show n.toNat < sizeLine by omega) p v (fun i hi => by rw [e0 i]; exact ht i (by omega)) (fun i hi => by rw [e0 i]; exact he i (by omega)) hw
/-- [e for x in xs] -/
theorem n_lcL {α : Type} {l : List α} {f : α → V} {tl : TE} {a : Addr} (v : α → V) (h : Cv (tl σ) A (.ref a)) (hx : KnL K A a (l.map f)) (hm : l.length < sizeLine) (he : ∀ x, x ∈ l → Cv (te ((wipe σ vs).set j (some (f x)))) A (v x)) (hw : ∀ x, wipe ((wipe σ vs).set j (some x)) vs = wipe σ vs) :
    Cn (tLc (iList K tl) (gName j) tYes te vs σ) A (.lst (l.map v)) := by
  have z := n_lcA (vs := vs) (te := te) (j := j) (j_list h hx) (by have := walk_list (K := K) (a := a) (xs := l.map f); rw [List.length_map] at this; exact this) hx hm (fun _ => true) v (fun _ _ => t_yes) (fun x hx2 _ => he x hx2) hw
  rw [filt_yes] at z
  exact z
theorem n_lcLT {α : Type} {l : List α} {f : α → V} {tl : TE} {a : Addr} (p : α → Bool) (v : α → V) (h : Cv (tl σ) A (.ref a)) (hx : KnL K A a (l.map f)) (hm : l.length < sizeLine) (ht : ∀ x, x ∈ l → Ct (tt ((wipe σ vs).set j (some (f x)))) A (p x)) (he : ∀ x, x ∈ l → p x = true → Cv (te ((wipe σ vs).set j (some (f x)))) A (v x)) (hw : ∀ x, wipe ((wipe σ vs).set j (some x)) vs = wipe σ vs) :
    Cn (tLc (iList K tl) (gName j) tt te vs σ) A (.lst ((l.filter p).map v)) :=
  n_lcA (vs := vs) (te := te) (j := j) (j_list h hx) (by have := walk_list (K := K) (a := a) (xs := l.map f); rw [List.length_map] at this; exact this) hx hm p v ht he hw
end
/-! ### everything that is not one's own may stand for good -/
open Classical in
noncomputable def absb (S0 E0 : Hp) (L : List (Addr × HO)) (H : Hp) : Hp := fun a => if a ∈ L.map (·.1) ∨ (S0 a = none ∧ E0 a ≠ none) then none else H a
section
variable {S0 E0 S H : Hp} {L : List (Addr × HO)} {p : Addr} {o : HO}
theorem AtP.absorb (h : AtP S0 E0 S L H) : AtP S0 E0 (absb S0 E0 L H) L H ∧ Same S (absb S0 E0 L H) := by
  have own : ∀ a x, S a = some x → absb S0 E0 L H a = some x := fun a x e => by
    unfold absb
    rw [if_neg, h.sh a x e]
    rintro (hm | ⟨h1, h2⟩)
    · obtain ⟨q, hq, e1⟩ := List.mem_map.mp hm
      have z := (h.ow q hq).2.1
      rw [e1, e] at z
      cases z
    · have z := h.nw a h1 h2
      rw [e] at z
      cases z
  refine ⟨⟨fun a x e => own a x (h.s0 a x e), h.e0, fun a x e => ?_, fun a h1 h2 => ?_, fun q hq => ⟨(h.ow q hq).1, ?_, (h.ow q hq).2.2⟩, h.nd⟩, own⟩
  · unfold absb at e
    split at e
    · cases e
    · exact e
  · unfold absb
    rw [if_pos (.inr ⟨h1, h2⟩)]
  · unfold absb
    rw [if_pos (.inl (List.mem_map.mpr ⟨q, hq, rfl⟩))]
theorem absorb_at (h : AtP S0 E0 S L H) (hp : H p = some o) (h1 : p ∉ L.map (·.1)) (h2 : E0 p = none) : absb S0 E0 L H p = some o := by
  unfold absb
  rw [if_neg, hp]
  rintro (hm | ⟨_, h3⟩)
  · exact h1 hm
  · exact h3 h2
end
/-- a new list of new objects -/
def NewAll (H H' : Hp) (p : Addr) (vs : List V) (m : Nat) (o : Nat → HO) : Prop := vs.length = m ∧ ∀ i, i < m → ∃ q, vs[i]? = some (.ref q) ∧ H q = none ∧ q ≠ p ∧ H' q = some (o i)
def Cm2 (c : Cm) (A : Asr) (m : Nat) (o : Nat → HO) : Prop := ∀ H, A.P H → ∀ Q : VK, (∀ p H' vs, H p = none → Same H H' → H' p = some (.lst vs) → NewAll H H' p vs m o → Q (.ref p) H') → c H Q
def RetM (m : Nat) (o : Nat → HO) (H : Hp) (Q : VK) : Prop := ∀ p H' vs, H p = none → Same H H' → H' p = some (.lst vs) → NewAll H H' p vs m o → Q (.ref p) H'
section
variable {K : PySem.W.Frag} {S0 E0 S : Hp} {L : List (Addr × HO)} {σ : L2.St} {A : Asr} {wi : TI} {tt : TT} {te tl : TE} {J : It} {m j k l i : Nat} {G : Hp → Prop} {Y : Nat → Hp → V → Hp → Prop} {vs : List Nat} {D : Ends} {s tb : TS} {g : TG} {xs : List V} {a : Addr}
theorem d_lc (hj : Cj (wi σ) A J) (w : Walk J m G Y) (hG : ∀ H, A.P H → G H) (hm : m < sizeLine) (R : Nat → V → Prop) (hy : ∀ i H x H', i < m → Y i H x H' → H' = H ∧ R i x) (o : Nat → HO)
    (he : ∀ i x, i < m → R i x → Cn (te ((wipe σ vs).set j (some x))) A (o i)) (hw : ∀ x, wipe ((wipe σ vs).set j (some x)) vs = wipe σ vs) : Cm2 (tLc wi (gName j) tYes te vs σ) A m o := fun H hA Q q => hj H hA _ fun H1 e1 Dl hD => by
  have hA1 := A.st _ _ hA e1
  refine lc_it w (fun i H2 => Same H1 H2 ∧ ∃ acc : List V, H2 Dl = some (.lst acc) ∧ acc.length = i ∧ ∀ t, t < i → ∃ q, acc[t]? = some (.ref q) ∧ H1 q = none ∧ q ≠ Dl ∧ H2 q = some (o t)) ⟨same_new hD, [], upd_same, rfl, fun t ht => absurd ht (Nat.not_lt_zero t)⟩ (fun i H' _ p' => hG H' (A.st _ _ hA1 p'.1)) (fun i x H' H2 hi p' y => ?_) (fun H' p' => ?_)
  · obtain ⟨rfl, hx⟩ := hy i _ x _ hi y
    obtain ⟨p1, acc, p2, p3, p4⟩ := p'
    refine ⟨hw x, he i x hi hx _ (A.st _ _ hA1 p1) _ fun r H4 n e4 hr => ⟨acc, e4 Dl _ p2, by omega, same_mut (p1.trans e4) hD, acc ++ [.ref r], upd_same, by rw [List.length_append, p3]; rfl, fun t ht => ?_⟩⟩
    have hne : r ≠ Dl := fun e => by rw [e, p2] at n; cases n
    by_cases ht2 : t < i
    · obtain ⟨z, z1, z2, z3, z4⟩ := p4 t ht2
      exact ⟨z, by rw [List.getElem?_append_left (by omega)]; exact z1, z2, z3, by rw [upd_ne z3]; exact e4 _ _ z4⟩
    · have et : t = acc.length := by omega
      refine ⟨r, by rw [et]; simp, p1.free n, hne, ?_⟩
      rw [upd_ne hne, et, p3]
      exact hr
  · obtain ⟨p1, acc, p2, p3, p4⟩ := p'
    exact q Dl H' acc (e1.free hD) (e1.trans p1) p2 ⟨p3, fun t ht => by
      obtain ⟨z, z1, z2, z3, z4⟩ := p4 t ht
      exact ⟨z, z1, e1.free z2, z3, z4⟩⟩
theorem d_lcR {ta : TA} {n : Int} (o : Nat → HO) (h : Ca (ta σ) A [.int n]) (hn : n ≤ 1000000) (h1 : -4611686018427387904 ≤ n) (he : ∀ i : Nat, (i : Int) < n → Cn (te ((wipe σ vs).set j (some (.int (i : Int))))) A (o i)) (hw : ∀ x, wipe ((wipe σ vs).set j (some x)) vs = wipe σ vs) :
    Cm2 (tLc (iRng1 ta) (gName j) tYes te vs σ) A n.toNat o := by
  have hs : sizeLine = 16777216 := sizeLine_eq
  refine d_lc (j_rng1 h h1 (by omega)) walk_range (fun _ _ => True.intro) (by omega) (fun i x => x = .int (i : Int)) (fun i H x H' _ y => ⟨y.1, by rw [y.2]; show V.int (0 + _) = _; rw [Int.zero_add]⟩) o (fun i x hi hx => ?_) hw
  subst hx
  exact he i (by omega)
theorem d_lcL (o : Nat → HO) (h : Cv (tl σ) A (.ref a)) (hx : KnL K A a xs) (hm : xs.length < sizeLine) (he : ∀ i x, xs[i]? = some x → Cn (te ((wipe σ vs).set j (some x))) A (o i)) (hw : ∀ x, wipe ((wipe σ vs).set j (some x)) vs = wipe σ vs) :
    Cm2 (tLc (iList K tl) (gName j) tYes te vs σ) A xs.length o :=
  d_lc (j_list h hx) walk_list hx hm (fun i x => xs[i]? = some x) (fun i H x H' _ y => y) o (fun i x _ hx2 => he i x hx2) hw
theorem q_ownC {o : Nat → HO} (h : Cm2 (te σ) (at_ S0 E0 S L) m o) (k : ∀ p S' vs, Same S S' → vs.length = m → (∀ i, i < m → ∃ q, vs[i]? = some (.ref q) ∧ S' q = some (o i)) → Go s D (σ.set i (some (.ref p))) (at_ S0 E0 S' ((p, .lst vs) :: L))) :
    Go (tSeq (tAsg te (gName i)) s) D σ (at_ S0 E0 S L) := fun H a => h H a _ fun p H1 vs n e1 hp hv => by
  have a1 := AtP.own a n e1 hp
  obtain ⟨a2, sm⟩ := a1.absorb
  refine k p _ vs sm hv.1 (fun i hi => ?_) H1 a2
  obtain ⟨q, h1, h2, h3, h4⟩ := hv.2 i hi
  refine ⟨q, h1, absorb_at a1 h4 ?_ (AtP.e0 a |>.free h2)⟩
  rw [List.map_cons, List.mem_cons]
  rintro (e | hm)
  · exact h3 e
  · obtain ⟨y, hy, e⟩ := List.mem_map.mp hm
    have z := (AtP.ow a y hy).1
    rw [e, h2] at z
    cases z
/-- what a target comes to -/
def Gs (g : TG) (x : V) (σ : L2.St) (A : Asr) (σ2 : L2.St) : Prop := ∀ H, A.P H → ∀ Q : L2.St → Hp → Prop, Q σ2 H → g x σ H Q
theorem gs_L3 {x y z : V} {K' : PySem.W.Frag} (h : KnL K' A a [x, y, z]) : Gs (gLst K' 3 (gCons (gName j) (gCons (gName k) (gCons (gName l) gNil)))) (.ref a) σ A (((σ.set j (some x)).set k (some y)).set l (some z)) := fun H hA Q q =>
  ⟨a, [x, y, z], rfl, h H hA, rfl, x, _, rfl, y, _, rfl, z, [], rfl, rfl, q⟩
theorem gs_T3 {x y z : V} {K' : PySem.W.Frag} (h : KnT K' A a [x, y, z]) : Gs (gTup K' 3 (gCons (gName j) (gCons (gName k) (gCons (gName l) gNil)))) (.ref a) σ A (((σ.set j (some x)).set k (some y)).set l (some z)) := fun H hA Q q =>
  ⟨a, [x, y, z], rfl, h H hA, rfl, x, _, rfl, y, _, rfl, z, [], rfl, rfl, q⟩
theorem gs_L2 {x y : V} {K' : PySem.W.Frag} (h : KnL K' A a [x, y]) : Gs (gLst K' 2 (gCons (gName j) (gCons (gName k) gNil))) (.ref a) σ A ((σ.set j (some x)).set k (some y)) := fun H hA Q q =>
  ⟨a, [x, y], rfl, h H hA, rfl, x, _, rfl, y, [], rfl, rfl, q⟩
theorem gs_T2 {x y : V} {K' : PySem.W.Frag} (h : KnT K' A a [x, y]) : Gs (gTup K' 2 (gCons (gName j) (gCons (gName k) gNil))) (.ref a) σ A ((σ.set j (some x)).set k (some y)) := fun H hA Q q =>
  ⟨a, [x, y], rfl, h H hA, rfl, x, _, rfl, y, [], rfl, rfl, q⟩
theorem s_forG (h : Cv (tl σ) A (.ref a)) (P : Nat → L2.St → Asr → Prop) (h0 : P 0 σ A) (hx : ∀ i σ' A', P i σ' A' → KnL K A' a xs)
    (hs : ∀ i x σ' A', xs[i]? = some x → P i σ' A' → ∃ σ2, Gs g x σ' A' σ2 ∧ Go tb { D with nx := Nf P (i + 1), ct := Nf P (i + 1), bk := D.nx } σ2 A') (hd : ∀ σ' A', P xs.length σ' A' → ∀ H, A'.P H → D.nx σ' H) : Go (tFor (iList K tl) g tb) D σ A :=
  s_for (j_list h (hx 0 σ A h0)) walk_list P h0 (fun i σ' A' _ p => hx i σ' A' p) (fun i σ' A' hi p H hA x H' y => by
    obtain ⟨rfl, hx2⟩ := y
    obtain ⟨σ2, h1, h2⟩ := hs i x σ' A' hx2 p
    exact h1 _ hA _ (h2 _ hA)) hd
theorem q_forG (h : Cv (tl σ) A (.ref a)) (P : Nat → L2.St → Asr → Prop) (h0 : P 0 σ A) (hx : ∀ i σ' A', P i σ' A' → KnL K A' a xs)
    (hs : ∀ i x σ' A', xs[i]? = some x → P i σ' A' → ∃ σ2, Gs g x σ' A' σ2 ∧ Go tb { D with nx := Nf P (i + 1), ct := Nf P (i + 1), bk := s D } σ2 A') (hd : ∀ σ' A', P xs.length σ' A' → Go s D σ' A') : Go (tSeq (tFor (iList K tl) g tb) s) D σ A :=
  g_seq (s_forG h P h0 hx hs hd)
theorem s_forY (hj : Cj (wi σ) A J) (w : Walk J m G Y) (R : Nat → V → Prop) (hy : ∀ i H x H', i < m → Y i H x H' → H' = H ∧ R i x) (P : Nat → L2.St → Asr → Prop) (h0 : P 0 σ A) (hG : ∀ i σ' A', P i σ' A' → ∀ H, A'.P H → G H)
    (hs : ∀ i x σ' A', i < m → R i x → P i σ' A' → ∃ σ2, Gs g x σ' A' σ2 ∧ Go tb { D with nx := Nf P (i + 1), ct := Nf P (i + 1), bk := D.nx } σ2 A') (hd : ∀ σ' A', P m σ' A' → ∀ H, A'.P H → D.nx σ' H) : Go (tFor wi g tb) D σ A :=
  s_for hj w P h0 (fun i σ' A' _ p => hG i σ' A' p) (fun i σ' A' hi p H hA x H' y => by
    obtain ⟨rfl, hx2⟩ := hy i _ x _ hi y
    obtain ⟨σ2, h1, h2⟩ := hs i x σ' A' hi hx2 p
    exact h1 _ hA _ (h2 _ hA)) hd
/-- reversed(xs) -/
theorem q_forV {ta : TA} (h : Ca (ta σ) A [.ref a]) (P : Nat → L2.St → Asr → Prop) (h0 : P 0 σ A) (hx : ∀ i σ' A', P i σ' A' → KnL K A' a xs)
    (hs : ∀ i x σ' A', i < xs.length → xs[xs.length - 1 - i]? = some x → P i σ' A' → ∃ σ2, Gs g x σ' A' σ2 ∧ Go tb { D with nx := Nf P (i + 1), ct := Nf P (i + 1), bk := s D } σ2 A') (hd : ∀ σ' A', P xs.length σ' A' → Go s D σ' A') : Go (tSeq (tFor (iRev K ta) g tb) s) D σ A :=
  g_seq (s_forY (j_rev h (hx 0 σ A h0)) walk_rev (fun i x => xs[xs.length - 1 - i]? = some x) (fun i H x H' _ y => y) P h0 (fun i σ' A' p => hx i σ' A' p) hs hd)
theorem gs_name {x : V} : Gs (gName j) x σ A (σ.set j (some x)) := fun _ _ _ q => q
/-- [e for .. in xs], the items taken apart -/
theorem n_lcG (v : Nat → V) (h : Cv (tl σ) A (.ref a)) (hx : KnL K A a xs) (hm : xs.length < sizeLine) (he : ∀ i x, xs[i]? = some x → ∃ σ2, Gs g x (wipe σ vs) A σ2 ∧ wipe σ2 vs = wipe σ vs ∧ Cv (te σ2) A (v i)) :
    Cn (tLc (iList K tl) g tYes te vs σ) A (.lst ((List.range xs.length).map v)) := fun H hA Q q => j_list h hx H hA _ fun H1 e1 Dl hD => by
  have hA1 := A.st _ _ hA e1
  refine lc_it walk_list (AccP (fun i => (List.range i).map v) H1 Dl) ⟨hD, same_new hD, upd_same⟩ (fun i H' _ p' => hx H' (A.st _ _ hA1 p'.2.1)) (fun i x H' H2 hi p' y => ?_) (fun H' p' => q Dl H' (e1.free hD) (e1.trans p'.2.1) p'.2.2)
  obtain ⟨rfl, hx2⟩ := y
  obtain ⟨σ2, g1, g2, g3⟩ := he i x hx2
  obtain ⟨p1, p2, p3⟩ := p'
  refine g1 _ (A.st _ _ hA1 p2) _ ⟨g2, t_yes (A := A) _ (A.st _ _ hA1 p2) _ fun H3 e3 => ?_⟩
  rw [if_pos rfl]
  refine g3 _ (A.st _ _ hA1 (p2.trans e3)) _ fun H4 e4 => ⟨(List.range i).map v, e4 Dl _ (e3 Dl _ p3), by rw [List.length_map, List.length_range]; omega, p1, same_mut ((p2.trans e3).trans e4) p1, ?_⟩
  show upd H4 Dl _ Dl = some (HO.lst ((List.range (i + 1)).map v))
  rw [List.range_succ, List.map_append]
  exact upd_same
end
/-! ### new deep data -/
inductive Fp (N : Addr → Prop) (H : Hp) : V → PyData → Prop
  | non : Fp N H .non .none
  | bl (b : Bool) : Fp N H (.bl b) (.bool b)
  | int (i : Int) : Fp N H (.int i) (.int i)
  | str (x : Str) : Fp N H (.str x) (.str x)
  | lst {a : Addr} {xs : List V} {ds : List PyData} (n : N a) (h : H a = some (.lst xs)) (l : xs.length = ds.length) (f : ∀ (i : Nat) x d, xs[i]? = some x → ds[i]? = some d → Fp N H x d) : Fp N H (.ref a) (.list ds)
  | tup {a : Addr} {xs : List V} {ds : List PyData} (n : N a) (h : H a = some (.tup xs)) (l : xs.length = ds.length) (f : ∀ (i : Nat) x d, xs[i]? = some x → ds[i]? = some d → Fp N H x d) : Fp N H (.ref a) (.tuple ds)
theorem dpAll_of {K : PySem.W.Frag} {H : Hp} : ∀ {xs : List V} {ds : List PyData}, xs.length = ds.length → (∀ (i : Nat) x d, xs[i]? = some x → ds[i]? = some d → Dp K H x d) → DpAll K H xs ds
  | [], [], _, _ => .nil
  | x :: xs, d :: ds, l, f => .cons (f 0 x d rfl rfl) (dpAll_of (by simpa using l) fun i y e h1 h2 => f (i + 1) y e (by simpa using h1) (by simpa using h2))
  | [], _ :: _, l, _ => by simp at l
  | _ :: _, [], l, _ => by simp at l
theorem Fp.imp {N M : Addr → Prop} {H H' : Hp} {x : V} {d : PyData} (h : Fp N H x d) (hn : ∀ a, N a → M a) (e : ∀ a o, N a → H a = some o → H' a = some o) : Fp M H' x d := by
  induction h with
  | non => exact .non
  | bl b => exact .bl b
  | int i => exact .int i
  | str z => exact .str z
  | lst n h l _ ih => exact .lst (hn _ n) (e _ _ n h) l ih
  | tup n h l _ ih => exact .tup (hn _ n) (e _ _ n h) l ih
theorem Fp.dp {K : PySem.W.Frag} {N : Addr → Prop} {H S : Hp} {x : V} {d : PyData} (h : Fp N H x d) (e : ∀ a o, N a → H a = some o → S a = some o) : Dp K S x d := by
  induction h with
  | non => exact .non
  | bl b => exact .bl b
  | int i => exact .int i
  | str z => exact .str z
  | lst n h l _ ih => exact .lst (SqL.of (e _ _ n h)) (dpAll_of l ih)
  | tup n h l _ ih => exact .tup (SqT.of (e _ _ n h)) (dpAll_of l ih)
def RetD (d : PyData) (H : Hp) (Q : VK) : Prop := ∀ x H', Same H H' → Fp (fun a => H a = none) H' x d → Q x H'
def Cd (c : Cm) (A : Asr) (d : PyData) : Prop := ∀ H, A.P H → ∀ Q : VK, (∀ x H', Same H H' → Fp (fun a => H a = none) H' x d → Q x H') → c H Q
section
variable {K : PySem.W.Frag} {S0 E0 S : Hp} {L : List (Addr × HO)} {σ : L2.St} {A : Asr} {te : TE} {ts : TA} {vs : List V} {i : Nat} {D : Ends} {s : TS} {g : TG} {d : PyData}
theorem d_call {sp : Sp} {E : XK} (ha : Ca (ts σ) A vs) (hr : Cd (fun H Q => sp vs H Q E) A d) : Cd (tCall sp [] E ts σ) A d := fun H a Q q =>
  ha H a _ fun H1 e1 => by
    show sp (vs ++ []) H1 Q E
    rw [List.append_nil]
    exact hr H1 (A.st _ _ a e1) Q fun x H2 e2 f => q x H2 (e1.trans e2) (f.imp (fun b h => e1.free h) fun _ _ _ z => z)
/-- new deep data stands for good -/
theorem q_asgD (h : Cd (te σ) (at_ S0 E0 S L) d) (k : ∀ x S', Same S S' → Dp K S' x d → ∃ σ2, Gs g x σ (at_ S0 E0 S' L) σ2 ∧ Go s D σ2 (at_ S0 E0 S' L)) : Go (tSeq (tAsg te g) s) D σ (at_ S0 E0 S L) := fun H a => h H a _ fun x H1 e1 f => by
  have a1 : AtP S0 E0 S L H1 := AtP.ext a e1
  obtain ⟨a2, sm⟩ := a1.absorb
  obtain ⟨σ2, h1, h2⟩ := k x _ sm (f.dp fun b o hb ho => absorb_at a1 ho (fun hm => by
    obtain ⟨y, hy, e⟩ := List.mem_map.mp hm
    have z := (AtP.ow a y hy).1
    rw [e, hb] at z
    cases z) ((AtP.e0 a).free hb))
  exact h1 H1 a2 _ (h2 H1 a2)
end
end Lo
namespace Lo
open PySem L2
/-! ### isinstance -/
section
variable {K : PySem.W.Frag} {A : Asr} {x : V} {T U : String} {b : Bool}
def KnTy (K : PySem.W.Frag) (A : Asr) (x : V) (t : Value) : Prop := ∀ H, A.P H → TyX K H x t
theorem e_isi (ht : KnTy K A x (.type T)) (hk : kitB T U = some b) : Cv (rIsi K [x, .ty U]) A (.bl b) := fun H hA _ q => ⟨x, .ty U, .type T, .type U, b, rfl, .ty U, ht H hA, kit_ty hk, q H (Same.refl H)⟩
theorem ty_int {i : Int} : KnTy K A (.int i) (.type "int") := fun _ _ => .base (.int i)
theorem ty_bl {c : Bool} : KnTy K A (.bl c) (.type "bool") := fun _ _ => .base (.bl c)
theorem ty_str {z : Str} : KnTy K A (.str z) (.type "str") := fun _ _ => .base (.str z)
theorem ty_non : KnTy K A .non (.type "NoneType") := fun _ _ => .base .non
theorem ty_lst {p : Addr} {xs : List V} (h : Kn A p (.lst xs)) : KnTy K A (.ref p) (.type "list") := fun H a => .base (.lst (h H a))
theorem ty_tup {p : Addr} {xs : List V} (h : Kn A p (.tup xs)) : KnTy K A (.ref p) (.type "tuple") := fun H a => .base (.tup (h H a))
theorem ty_dK {p : Addr} {xs : List (Key × V)} (h : Kn A p (.dK xs)) : KnTy K A (.ref p) (.type "dict") := fun H a => .base (.dK (h H a))
/-- what isinstance tells of the flat kinds -/
def isTy (U : String) : V → Bool
  | .int _ => U == "int"
  | .bl _ => U == "bool" || U == "int"
  | .str _ => U == "str"
  | _ => false
theorem e_isiII {i : Int} : Cv (rIsi K [.int i, .ty "int"]) A (.bl true) := e_isi ty_int (by decide +kernel)
theorem e_isiIB {i : Int} : Cv (rIsi K [.int i, .ty "bool"]) A (.bl false) := e_isi ty_int (by decide +kernel)
theorem e_isiIS {i : Int} : Cv (rIsi K [.int i, .ty "str"]) A (.bl false) := e_isi ty_int (by decide +kernel)
theorem e_isiBI {c : Bool} : Cv (rIsi K [.bl c, .ty "int"]) A (.bl true) := e_isi ty_bl (by decide +kernel)
theorem e_isiBB {c : Bool} : Cv (rIsi K [.bl c, .ty "bool"]) A (.bl true) := e_isi ty_bl (by decide +kernel)
theorem e_isiSI {z : Str} : Cv (rIsi K [.str z, .ty "int"]) A (.bl false) := e_isi ty_str (by decide +kernel)
theorem e_isiSB {z : Str} : Cv (rIsi K [.str z, .ty "bool"]) A (.bl false) := e_isi ty_str (by decide +kernel)
theorem e_isiSS {z : Str} : Cv (rIsi K [.str z, .ty "str"]) A (.bl true) := e_isi ty_str (by decide +kernel)
theorem e_isiNI : Cv (rIsi K [.non, .ty "int"]) A (.bl false) := e_isi ty_non (by decide +kernel)
theorem e_isiNB : Cv (rIsi K [.non, .ty "bool"]) A (.bl false) := e_isi ty_non (by decide +kernel)
theorem e_isiLL {p : Addr} {xs : List V} (h : Kn A p (.lst xs)) : Cv (rIsi K [.ref p, .ty "list"]) A (.bl true) := e_isi (ty_lst h) (by decide +kernel)
theorem e_isiLT {p : Addr} {xs : List V} (h : Kn A p (.lst xs)) : Cv (rIsi K [.ref p, .ty "tuple"]) A (.bl false) := e_isi (ty_lst h) (by decide +kernel)
theorem e_isiLI {p : Addr} {xs : List V} (h : Kn A p (.lst xs)) : Cv (rIsi K [.ref p, .ty "int"]) A (.bl false) := e_isi (ty_lst h) (by decide +kernel)
theorem e_isiTT {p : Addr} {xs : List V} (h : Kn A p (.tup xs)) : Cv (rIsi K [.ref p, .ty "tuple"]) A (.bl true) := e_isi (ty_tup h) (by decide +kernel)
theorem e_isiTL {p : Addr} {xs : List V} (h : Kn A p (.tup xs)) : Cv (rIsi K [.ref p, .ty "list"]) A (.bl false) := e_isi (ty_tup h) (by decide +kernel)
/-- int(flag) -/
def rInt1 : List V → Hp → VK → Prop := fun xs H Q => (∃ i, xs = [.int i] ∧ Q (.int i) H) ∨ ∃ k, xs = [.bl k] ∧ Q (.int (if k then 1 else 0)) H
theorem call_intA {X : Cx} : CallR X (.type "int") rInt1 := call_int1
def rCnt : V → List V → Hp → VK → Prop := fun x xs H Q => ∃ a b, x = .str a ∧ xs = [.str b] ∧ Q (.int (PySem.Txt.count a b)) H
theorem mt_countA {X : Cx} : MtR X "str.count" rCnt := mt_count
theorem e_intI {i : Int} : Cv (rInt1 [.int i]) A (.int i) := fun H _ _ q => .inl ⟨i, rfl, q H (Same.refl H)⟩
theorem e_intB {c : Bool} : Cv (rInt1 [.bl c]) A (.int (if c then 1 else 0)) := fun H _ _ q => .inr ⟨c, rfl, q H (Same.refl H)⟩
theorem e_count {a c : Str} : Cv (rCnt (.str a) [.str c]) A (.int (PySem.Txt.count a c)) := fun H _ _ q => ⟨a, c, rfl, rfl, q H (Same.refl H)⟩
theorem c_pt {σ : L2.St} {te : TE} (h : Cv (te σ) A (.bl b)) : Ct (fun H Q => te σ H fun x H' => ∃ k, x = .bl k ∧ Q k H') A b := fun H hA Q q => h H hA _ fun H1 e1 => ⟨b, rfl, q H1 e1⟩
end
end Lo

namespace Lo
open PySem L2
local macro_rules | `(tactic| walk_at "Lo.mem") => `(tactic| first | exact List.Mem.head _ | ((apply List.Mem.tail); (· walk_at "Lo.mem")))
local macro_rules | `(tactic| walk_at "Lo.side") => `(tactic| first | with_reducible assumption | exact (Eq.refl true) | ((with_reducible apply cdiv_of); (· omega); (· omega)) | ((with_reducible apply cmul_l); (· omega); (· omega)) | ((with_reducible apply cmul_r); (· omega); (· omega)) | omega | decide)
local macro_rules | `(tactic| walk_at "Lo.kn") => `(tactic| first | assumption | exact kn_kn | exact knl_S ‹_› | exact knt_S ‹_› | exact kn_S ‹_› | ((with_reducible apply kn_L); (· walk_at "Lo.mem")) | exact knl_of kn_kn | exact knt_of kn_kn | exact knl_of (kn_S ‹_›) | exact knt_of (kn_S ‹_›) | ((with_reducible apply kn_up); (· walk_at "Lo.kn")) | ((with_reducible apply knl_up); (· walk_at "Lo.kn")) | ((with_reducible apply knt_up); (· walk_at "Lo.kn")) | ((with_reducible apply knl_of); (· walk_at "Lo.kn")) | ((with_reducible apply knt_of); (· walk_at "Lo.kn")))
local macro_rules | `(tactic| walk_at "Lo.op") => `(tactic| first
  | with_reducible exact r_I0
  | with_reducible exact r_U
  | with_reducible exact e_addI
  | with_reducible exact e_eqI
  | with_reducible exact e_neI
  | with_reducible exact e_eqS
  | with_reducible exact e_neS
  | with_reducible exact e_max
  | with_reducible exact e_min
  | with_reducible exact e_isiII
  | with_reducible exact e_isiIB
  | with_reducible exact e_isiSI
  | with_reducible exact e_isiSS
  | with_reducible exact e_isiSB
  | with_reducible exact e_intI
  | with_reducible exact e_intB
  | with_reducible exact e_count
  | with_reducible exact e_isN
  | ((with_reducible apply e_isiLL); (· walk_at "Lo.kn"))
  | ((with_reducible apply e_copyL); (· walk_at "Lo.kn"))
  | with_reducible exact e_ninSL
  | with_reducible exact e_notN
  | ((with_reducible apply r_I); (· walk_at "Lo.side"))
  | ((with_reducible apply e_mul); (· walk_at "Lo.side"))
  | ((with_reducible apply e_lenL); (· walk_at "Lo.kn"))
  | ((with_reducible apply e_lenK); (· walk_at "Lo.kn"))
  | ((with_reducible apply e_lenT); (· walk_at "Lo.kn"))
  | ((with_reducible apply e_lenS); (· walk_at "Lo.side"))
  | ((with_reducible apply e_addS); (· walk_at "Lo.side"))
  | ((with_reducible apply e_ixL); (· walk_at "Lo.kn"); (· walk_at "Lo.side"))
  | ((with_reducible apply e_ixT); (· walk_at "Lo.kn"); (· walk_at "Lo.side"))
  | ((with_reducible apply e_ixS); (· walk_at "Lo.side"); (· walk_at "Lo.side"))
  | ((with_reducible apply e_slS); (· walk_at "Lo.side"))
  | ((with_reducible apply e_slL); (· walk_at "Lo.kn"))
  | ((with_reducible apply e_cat); (· walk_at "Lo.kn"); (· walk_at "Lo.kn"); (· walk_at "Lo.side")))
local macro_rules | `(tactic| walk_at "Lo.call") => `(tactic| fail "no callee's rule")
local macro_rules | `(tactic| walk_at "Lo.ca") => `(tactic| first
  | with_reducible exact c_nil
  | ((with_reducible apply c_cons); (· walk_at "Lo.cv"); (· walk_at "Lo.ca")))
local macro_rules | `(tactic| walk_at "Lo.co") => `(tactic| first
  | with_reducible exact o_none
  | ((with_reducible apply o_some); (· walk_at "Lo.cv")))
local macro_rules | `(tactic| walk_at "Lo.cv") => `(tactic| first
  | with_reducible exact c_c
  | ((with_reducible apply c_var); (· exact rfl))
  | ((with_reducible apply c_op); (· walk_at "Lo.cv"); (· walk_at "Lo.cv"); (· walk_at "Lo.op"))
  | ((with_reducible apply c_opNv); (· walk_at "Lo.cn"); (· (intro p; walk_at "Lo.cv")); (· (intro p; walk_at "Lo.op")))
  | ((with_reducible apply c_opvN); (· walk_at "Lo.cv"); (· walk_at "Lo.cn"); (· (intro p; walk_at "Lo.op")))
  | ((with_reducible apply c_opNN); (· walk_at "Lo.cn"); (· (intro p; walk_at "Lo.cn")); (· (intro p q; walk_at "Lo.op")))
  | ((with_reducible apply c_un); (· walk_at "Lo.cv"); (· walk_at "Lo.op"))
  | ((with_reducible apply c_call); (· walk_at "Lo.ca"); (· walk_at "Lo.call"))
  | ((with_reducible apply c_callN); (· walk_at "Lo.cn"); (· (intro p; walk_at "Lo.call")))
  | ((with_reducible apply c_cb); (· walk_at "Lo.ca"); (· walk_at "Lo.op"))
  | ((with_reducible apply c_cbN); (· walk_at "Lo.cn"); (· (intro p; walk_at "Lo.op")))
  | ((with_reducible apply c_sl); (· walk_at "Lo.cv"); (· walk_at "Lo.co"); (· walk_at "Lo.co"); (· walk_at "Lo.op"))
  | ((with_reducible apply c_m1); (· walk_at "Lo.cv"); (· walk_at "Lo.cv"); (· walk_at "Lo.op"))
  | ((with_reducible apply c_m1N); (· walk_at "Lo.cv"); (· walk_at "Lo.cn"); (· (intro p; walk_at "Lo.op")))
  | ((with_reducible apply c_bits); (· walk_at "Lo.cv"))
  | ((with_reducible apply c_chain); (· walk_at "Lo.cv"); (· walk_at "Lo.cv"); (· walk_at "Lo.op"); (· (intro hb; walk_at "Lo.cv")); (· (intro hb; walk_at "Lo.op")))
  | ((with_reducible apply c_not); (· walk_at "Lo.cv"))
  | ((with_reducible apply c_and); (· walk_at "Lo.cv"); (· (intro hb; walk_at "Lo.cv")))
  | ((with_reducible apply c_or); (· walk_at "Lo.cv"); (· (intro hb; walk_at "Lo.cv"))))
local macro_rules | `(tactic| walk_at "Lo.cn") => `(tactic| first
  | ((with_reducible apply n_lcR); (· walk_at "Lo.ca"); (· walk_at "Lo.side"); (· walk_at "Lo.side"); (· (intro i hi; walk_at "Lo.cv")); (· (intro x; exact rfl)))
  | ((with_reducible apply n_lst); (· walk_at "Lo.ca"); (· (simp only [List.length_cons, List.length_nil]; walk_at "Lo.side")))
  | ((with_reducible apply n_tup); (· walk_at "Lo.ca"); (· (simp only [List.length_cons, List.length_nil]; walk_at "Lo.side")))
  | ((with_reducible apply n_call); (· walk_at "Lo.ca"); (· walk_at "Lo.call"))
  | ((with_reducible apply n_callN); (· walk_at "Lo.cn"); (· (intro p; walk_at "Lo.call")))
  | ((with_reducible apply n_sl); (· walk_at "Lo.cv"); (· walk_at "Lo.co"); (· walk_at "Lo.co"); (· walk_at "Lo.op"))
  | ((with_reducible apply n_cb); (· walk_at "Lo.ca"); (· walk_at "Lo.op"))
  | ((with_reducible apply n_op); (· walk_at "Lo.cv"); (· walk_at "Lo.cv"); (· walk_at "Lo.op"))
  | ((with_reducible apply n_opNv); (· walk_at "Lo.cn"); (· (intro p; walk_at "Lo.cv")); (· (intro p; walk_at "Lo.op")))
  | ((with_reducible apply n_opvN); (· walk_at "Lo.cv"); (· walk_at "Lo.cn"); (· (intro p; walk_at "Lo.op")))
  | ((with_reducible apply n_opNN); (· walk_at "Lo.cn"); (· (intro p; walk_at "Lo.cn")); (· (intro p q; walk_at "Lo.op"))))
local macro_rules | `(tactic| walk_at "Lo.ct") => `(tactic| first
  | ((with_reducible apply t_test); (· walk_at "Lo.cv"))
  | ((with_reducible apply t_B); (· walk_at "Lo.cv"))
  | ((with_reducible apply t_not); (· walk_at "Lo.ct"))
  | ((with_reducible apply t_and); (· walk_at "Lo.ct"); (· (intro hb; walk_at "Lo.ct")))
  | ((with_reducible apply t_or); (· walk_at "Lo.ct"); (· (intro hb; walk_at "Lo.ct")))
  | with_reducible exact t_yes)
local macro_rules | `(tactic| walk_at "Lo.q") => `(tactic| first
  | ((with_reducible apply q_asg); (· walk_at "Lo.cv"))
  | ((with_reducible apply q_asgN); (· walk_at "Lo.cn"))
  | ((with_reducible apply q_when); (· walk_at "Lo.ct"))
  | ((with_reducible apply q_if); (· walk_at "Lo.ct"))
  | ((with_reducible apply s_if); (· walk_at "Lo.ct")))
local macro_rules | `(tactic| walk_at "Lo.ext") => `(tactic| first | exact ext_at | ((with_reducible apply ext_kn); (· walk_at "Lo.ext")))
local macro_rules | `(tactic| walk_at "Lo.ret") => `(tactic| first
  | ((with_reducible apply s_retVx); (· walk_at "Lo.cv"); (· first | rfl | skip); (· walk_at "Lo.ext"); (· assumption))
  | ((with_reducible apply s_retNx); (· walk_at "Lo.cn"); (· first | rfl | skip); (· walk_at "Lo.ext"); (· assumption)))
local macro_rules | `(tactic| walk_at "Lo.aug") => `(tactic| first | ((with_reducible apply q_aug); (· exact rfl); (· walk_at "Lo.cv")) | ((with_reducible apply s_aug); (· exact rfl); (· walk_at "Lo.cv")))
local macro_rules | `(tactic| walk_at "Lo.up") => `(tactic| first | with_reducible exact Up1.head | ((with_reducible apply Up1.tail); (· walk_at "Lo.up")))
local macro_rules | `(tactic| walk_at "Lo.go") => `(tactic| ((try dsimp only); show Go _ _ _ _))
local macro_rules | `(tactic| walk_at "Lo.nf") => `(tactic| ((try dsimp only); refine nf ?_))
local macro_rules | `(tactic| walk_at "Lo.nw") => `(tactic| (try dsimp only))
def topS (i : Nat) : Stmt := PySem.Challenge.pw_lodge_k33_filled.main.body.getD i (.Pass ⟨0, 0, 0, 0⟩)
abbrev s_summed : Stmt := topS 1
theorem sc_summed : FnScope ["table", "places", "modulus", "total", "place"] ["table", "places", "modulus"] (defScope s_summed) := ⟨rfl, rfl, rfl, by decide +kernel, rfl, by decide +kernel, by decide +kernel⟩
abbrev s_filled : Stmt := topS 2
theorem sc_filled : FnScope ["edges", "size", "order", "wanted", "modulus", "table", "edge", "place", "lacking"] ["edges", "size", "order", "wanted", "modulus"] (defScope s_filled) := ⟨rfl, rfl, rfl, by decide +kernel, rfl, by decide +kernel, by decide +kernel⟩
abbrev s_l_mix : Stmt := topS 4
theorem sc_l_mix : FnScope ["_law_cell_here", "_law_k", "_law_first"] ["_law_cell_here", "_law_k"] (defScope s_l_mix) := ⟨rfl, rfl, rfl, by decide +kernel, rfl, by decide +kernel, by decide +kernel⟩
abbrev s_l_raw : Stmt := topS 5
theorem sc_l_raw : FnScope ["_law_script", "_law_k"] ["_law_script", "_law_k"] (defScope s_l_raw) := ⟨rfl, rfl, rfl, by decide +kernel, rfl, by decide +kernel, by decide +kernel⟩
abbrev s_l_cell : Stmt := topS 6
theorem sc_l_cell : FnScope ["_law_script", "_law_k"] ["_law_script", "_law_k"] (defScope s_l_cell) := ⟨rfl, rfl, rfl, by decide +kernel, rfl, by decide +kernel, by decide +kernel⟩
abbrev s_l_great : Stmt := topS 7
theorem sc_l_great : FnScope ["_law_cell_here"] ["_law_cell_here"] (defScope s_l_great) := ⟨rfl, rfl, rfl, by decide +kernel, rfl, by decide +kernel, by decide +kernel⟩
abbrev s_l_cells : Stmt := topS 8
theorem sc_l_cells : FnScope ["_law_script", "_law_start", "_law_most", "_law_cells_here", "_law_many", "_law_k"] ["_law_script", "_law_start", "_law_most"] (defScope s_l_cells) := ⟨rfl, rfl, rfl, by decide +kernel, rfl, by decide +kernel, by decide +kernel⟩
abbrev s_l_whole : Stmt := topS 9
theorem sc_l_whole : FnScope ["_law_found"] ["_law_found"] (defScope s_l_whole) := ⟨rfl, rfl, rfl, by decide +kernel, rfl, by decide +kernel, by decide +kernel⟩
abbrev s_l_edge : Stmt := topS 10
theorem sc_l_edge : FnScope ["_law_cell_here", "_law_k", "_law_size", "_law_own", "_law_others", "_law_turn", "_law_rest", "_law_place", "_law_at"] ["_law_cell_here", "_law_k", "_law_size"] (defScope s_l_edge) := ⟨rfl, rfl, rfl, by decide +kernel, rfl, by decide +kernel, by decide +kernel⟩
abbrev s_l_made : Stmt := topS 11
theorem sc_l_made : FnScope ["_law_cells_here", "_law_turn", "_law_many", "_law_k", "_law_names", "_law_edges", "_law_order", "_law_cell_here", "_law_name", "_law_step"] ["_law_cells_here", "_law_turn"] (defScope s_l_made) := ⟨rfl, rfl, rfl, by decide +kernel, rfl, by decide +kernel, by decide +kernel⟩
abbrev s_l_asked : Stmt := topS 12
theorem sc_l_asked : FnScope ["_law_edges", "_law_size", "_law_order", "_law_wanted", "_law_modulus", "_law_handed", "_law_found", "_law_edge_here", "_law_due", "_law_number", "_law_place"] ["_law_edges", "_law_size", "_law_order", "_law_wanted", "_law_modulus"] (defScope s_l_asked) := ⟨rfl, rfl, rfl, by decide +kernel, rfl, by decide +kernel, by decide +kernel⟩
abbrev s_law : Stmt := topS 13
theorem sc_law : FnScope ["_law_script", "_law_cells_here", "_law_cell_here", "_law_modulus", "_law_edges", "_law_order", "_law_wanted", "_law_k", "_law_step", "_law_size", "_law_turn"] ["_law_script"] (defScope s_law) := ⟨rfl, rfl, rfl, by decide +kernel, rfl, by decide +kernel, by decide +kernel⟩
structure Txt (K : PySem.W.Frag) (mg : Str → Option Value) where
  d_summed : Dfn K "summed" "summed" s_summed ["table", "places", "modulus"]
  g_summed : mg "summed" = some (.ref d_summed.f)
  d_filled : Dfn K "filled" "filled" s_filled ["edges", "size", "order", "wanted", "modulus"]
  g_filled : mg "filled" = some (.ref d_filled.f)
  d_l_mix : Dfn K "_law_mix" "_law_mix" s_l_mix ["_law_cell_here", "_law_k"]
  g_l_mix : mg "_law_mix" = some (.ref d_l_mix.f)
  d_l_raw : Dfn K "_law_raw" "_law_raw" s_l_raw ["_law_script", "_law_k"]
  g_l_raw : mg "_law_raw" = some (.ref d_l_raw.f)
  d_l_cell : Dfn K "_law_cell" "_law_cell" s_l_cell ["_law_script", "_law_k"]
  g_l_cell : mg "_law_cell" = some (.ref d_l_cell.f)
  d_l_great : Dfn K "_law_great" "_law_great" s_l_great ["_law_cell_here"]
  g_l_great : mg "_law_great" = some (.ref d_l_great.f)
  d_l_cells : Dfn K "_law_cells" "_law_cells" s_l_cells ["_law_script", "_law_start", "_law_most"]
  g_l_cells : mg "_law_cells" = some (.ref d_l_cells.f)
  d_l_whole : Dfn K "_law_whole" "_law_whole" s_l_whole ["_law_found"]
  g_l_whole : mg "_law_whole" = some (.ref d_l_whole.f)
  d_l_edge : Dfn K "_law_edge" "_law_edge" s_l_edge ["_law_cell_here", "_law_k", "_law_size"]
  g_l_edge : mg "_law_edge" = some (.ref d_l_edge.f)
  d_l_made : Dfn K "_law_made" "_law_made" s_l_made ["_law_cells_here", "_law_turn"]
  g_l_made : mg "_law_made" = some (.ref d_l_made.f)
  d_l_asked : Dfn K "_law_asked" "_law_asked" s_l_asked ["_law_edges", "_law_size", "_law_order", "_law_wanted", "_law_modulus"]
  g_l_asked : mg "_law_asked" = some (.ref d_l_asked.f)
  d_law : Dfn K "law" "law" s_law ["_law_script"]
  g_law : mg "law" = some (.ref d_law.f)
  z_bool : mg "bool" = none
  z_enumerate : mg "enumerate" = none
  z_int : mg "int" = none
  z_isinstance : mg "isinstance" = none
  z_len : mg "len" = none
  z_list : mg "list" = none
  z_max : mg "max" = none
  z_min : mg "min" = none
  z_range : mg "range" = none
  z_reversed : mg "reversed" = none
  z_sum : mg "sum" = none
  z_tuple : mg "tuple" = none
  z_zip : mg "zip" = none
/-! ### texts as lists of signs -/
def strL (l : List Nat) : Str := ⟨l.toArray⟩
theorem strL_tl (z : Str) : strL z.cps.toList = z := rfl
theorem strL_list (l : List Nat) : (strL l).cps.toList = l := by simp [strL]
theorem strL_len (l : List Nat) : (strL l).length = l.length := by simp [strL, Str.length]
theorem strL_app (l m : List Nat) : strL l ++ strL m = strL (l ++ m) := by
  show (⟨l.toArray ++ m.toArray⟩ : Str) = ⟨(l ++ m).toArray⟩
  simp
theorem strL_inj {l m : List Nat} (h : strL l = strL m) : l = m := by
  have e := congrArg (fun z : Str => z.cps.toList) h
  simpa [strL] using e
theorem strL_dec (l m : List Nat) : decide (strL l = strL m) = decide (l = m) := by
  by_cases h : l = m
  · rw [h]; simp
  · have h2 : ¬ strL l = strL m := fun e => h (strL_inj e)
    rw [decide_eq_false h, decide_eq_false h2]
theorem small_line {n : Nat} (h : n ≤ 1000000) : n ≤ sizeLine := Nat.le_trans h (by rw [sizeLine_eq]; decide)
theorem cutS_nat (l : List Nat) (i j : Nat) : cutS (strL l) (some (i : Int)) (some (j : Int)) = strL ((l.drop i).take (j - i)) := by
  unfold cutS
  rw [HT.sIx_nat, HT.sIx_nat, strL_len]
  show strL _ = strL _
  rw [strL_list]
  apply congrArg strL
  by_cases hi : i ≤ l.length
  · rw [Nat.min_eq_left hi]
    by_cases hj : j ≤ l.length
    · rw [Nat.min_eq_left hj]
    · rw [Nat.min_eq_right (by omega)]
      rw [List.take_of_length_le (by rw [List.length_drop]; exact Nat.le_refl _), List.take_of_length_le (by rw [List.length_drop]; omega)]
  · rw [List.drop_eq_nil_of_le (by omega), List.drop_eq_nil_of_le (by omega)]
    simp
theorem cutS_to (l : List Nat) (j : Nat) : cutS (strL l) none (some (j : Int)) = strL (l.take j) := by
  unfold cutS
  rw [HT.sIx_none, HT.sIx_nat, strL_len]
  show strL _ = strL _
  rw [strL_list, List.drop_zero, Nat.sub_zero]
  apply congrArg strL
  by_cases hj : j ≤ l.length
  · rw [Nat.min_eq_left hj]
  · rw [Nat.min_eq_right (by omega), List.take_of_length_le (Nat.le_refl _), List.take_of_length_le (by omega)]
theorem cutS_from (l : List Nat) (i : Nat) : cutS (strL l) (some (i : Int)) none = strL (l.drop i) := by
  unfold cutS
  rw [HT.sIx_none, HT.sIx_nat, strL_len]
  show strL _ = strL _
  rw [strL_list]
  apply congrArg strL
  rw [List.take_of_length_le (by rw [List.length_drop]; omega)]
  by_cases hj : i ≤ l.length
  · rw [Nat.min_eq_left hj]
  · rw [Nat.min_eq_right (by omega), List.drop_eq_nil_of_le (Nat.le_refl _), List.drop_eq_nil_of_le (by omega)]
/-! how often one sign stands in a text -/
theorem subAt_one (l : List Nat) (c i : Nat) : Builtin.Str.subAt (strL l) (strL [c]) i = decide (l[i]? = some c) := by
  unfold Builtin.Str.subAt
  show ((strL l).cps.extract i (i + (strL [c]).length) == (strL [c]).cps) = _
  rw [strL_len]
  show (l.toArray.extract i (i + 1) == [c].toArray) = _
  have e : l.toArray.extract i (i + 1) = ((l.drop i).take 1).toArray := by
    rw [List.extract_toArray]
    simp [List.extract]
  rw [e]
  cases h : l.drop i with
  | nil =>
    have hl : l.length ≤ i := List.drop_eq_nil_iff.mp h
    rw [List.getElem?_eq_none hl]
    rfl
  | cons x r =>
    have hx : l[i]? = some x := by
      have := congrArg List.head? h
      rw [List.head?_drop] at this
      exact this
    rw [hx]
    by_cases hc : x = c
    · subst hc; simp
    · simp [hc]
def occF (l : List Nat) (c : Nat) (s : Array Nat × Nat) (i : Nat) : Array Nat × Nat :=
  if (decide (s.1.size < l.length + 1) && decide (s.2 ≤ i) && decide (i + (strL [c]).length ≤ l.length) && Builtin.Str.subAt (strL l) (strL [c]) i) = true then (s.1.push i, i + (strL [c]).length) else (s.1, s.2)
theorem occF_count (l : List Nat) (c : Nat) : ∀ n, n ≤ l.length + 1 → ((List.range n).foldl (occF l c) (#[], 0)).1.size = (l.take n).count c ∧ ((List.range n).foldl (occF l c) (#[], 0)).2 ≤ n := by
  intro n hn
  induction n with
  | zero => simp
  | succ n ih =>
    obtain ⟨h1, h2⟩ := ih (by omega)
    rw [List.range_succ, List.foldl_append]
    generalize (List.range n).foldl (occF l c) (#[], 0) = st at h1 h2
    have hc1 : (l.take n).count c ≤ n := Nat.le_trans List.count_le_length (by rw [List.length_take]; omega)
    have e1 : (strL [c]).length = 1 := strL_len _
    rw [List.foldl_cons, List.foldl_nil, List.take_add_one, List.count_append]
    unfold occF
    rw [subAt_one, e1]
    by_cases hx : l[n]? = some c
    · have hlt : n < l.length := (List.getElem?_eq_some_iff.mp hx).1
      rw [if_pos (by simp [hx]; omega), hx]
      simp [h1]
    · rw [if_neg (by simp [hx])]
      have z : (l[n]?.toList).count c = 0 := by
        cases hy : l[n]? with
        | none => rfl
        | some y =>
          rw [hy] at hx
          have : y ≠ c := fun e => hx (by rw [e])
          simp [this]
      rw [z]
      exact ⟨by omega, by show st.2 ≤ n + 1; omega⟩
theorem occ_one (l : List Nat) (c : Nat) : (Builtin.Str.occurrences (strL l) (strL [c]) 0 l.length (l.length + 1)).length = l.count c := by
  have k := (occF_count l c (l.length + 1) (Nat.le_refl _)).1
  rw [List.take_of_length_le (by omega)] at k
  rw [← k]
  unfold Builtin.Str.occurrences
  simp only [Id.run, Std.Legacy.Range.forIn_eq_forIn_range', Std.Legacy.Range.size]
  rw [show l.length + 1 - 0 + 1 - 1 = l.length + 1 by omega, Nat.div_one, ← List.range_eq_range']
  have e : ∀ (i : Nat) (s : Array Nat × Nat), (if (decide (s.1.size < l.length + 1) && decide (s.2 ≤ i) && decide (i + (strL [c]).length ≤ l.length) && Builtin.Str.subAt (strL l) (strL [c]) i) = true then (pure (ForInStep.yield (s.1.push i, i + (strL [c]).length)) : Id (ForInStep (Array Nat × Nat))) else pure (ForInStep.yield (s.1, s.2))) = pure (ForInStep.yield (occF l c s i)) := by
    intro i s
    unfold occF
    split <;> rfl
  simp only [e, List.forIn_pure_yield_eq_foldl]
  rfl
theorem count_one (l : List Nat) (c : Nat) : PySem.Txt.count (strL l) (strL [c]) = (l.count c : Int) := by
  unfold PySem.Txt.count
  rw [strL_len, occ_one]

/-! enumerate over a text -/
section
open PySem.Spec PyProof.Rows
def Ies (z : Str) : It :=
  ⟨fun i _ => i < z.cps.size, fun i H v H' => ∃ T c, v = .ref T ∧ H T = none ∧ H' = upd H T (.tup [.int (i : Nat), .str ⟨#[c]⟩]) ∧ z.cps[i]? = some c, fun i _ => i = z.cps.size⟩
theorem draws_s {P : Program} {w : World} {A : Around} (hh : A.handled = none) (it : Addr) (z : Str) (t : Tok) (ty : String) (hty : ty = "str_ascii_iterator" ∨ ty = "str_iterator") :
    Draws P w A it [it] z.cps.size (fun i v => ∃ c u, z.cps[i]? = some c ∧ v = .str ⟨#[c]⟩ u) (fun i h => h.IsStrIter it ty z t i) := by
  rcases hty with e | e
  · rw [e]; exact Draws.strAscii hh it z t
  · rw [e]; exact Draws.strWide hh it z t
theorem turn_enumS {P : Program} {w : World} {K : PySem.W.Frag} {elts : List Expr} {kk : Nat} {tpos : Pos} (z : Str) (t : Tok) (e it : Addr) (ty : String) (hty : ty = "str_ascii_iterator" ∨ ty = "str_iterator") :
    Turn P w K (.Tuple elts kk tpos) (Ies z) [e, it] e (fun i h => (∃ old, IsEnum h e it ((i : Nat) : Int) old) ∧ h.IsStrIter it ty z t i ∧ e ≠ it) where
  mem := by simp
  obj := fun i h st b hb => by
    obtain ⟨⟨old, he⟩, ⟨o, ho, hc, hd⟩, _⟩ := st
    rcases (show b = e ∨ b = it by simpa using hb) with y | y <;> rw [y]
    · exact ⟨_, he, fun v q => nomatch q⟩
    · exact ⟨o, ho, fun v q => by rw [hd] at q; cases q⟩
  keep := fun i h h' st k => let ⟨⟨old, he⟩, ⟨o, ho, r⟩, hne⟩ := st; ⟨⟨old, k e (by simp) _ he⟩, ⟨o, k it (by simp) o ho, r⟩, hne⟩
  item := by
    intro X hP hw hK hc i pins s σ H E I hf st hg
    subst hP hw hK
    obtain ⟨⟨old, he⟩, hit, hne⟩ := st
    have le1 : e < s.heap.objs.size := Heap.lt_size he
    have le2 : it < s.heap.objs.size := by obtain ⟨_, q, _⟩ := id hit; exact Heap.lt_size q
    refine wpAny_pyNext_enum_itemD (draws_s (show X.A.in1.handled = none from I.ok.hd hc) it z t ty hty) he hit hg hne (by simp [hne]) fun x h' tk hP ho hit' hT hsz hk => ?_
    obtain ⟨c, u, hcx, rfl⟩ := hP
    refine ⟨_, rfl, wpAny_letOwnedTupleGo_enum (s := { s with heap := h', toks := tk + 1 }) ho fun g he' sb => ?_⟩
    have hT2 : g.get? s.heap.objs.size = some { cls := .type "tuple", data := .seq #[.int i tk, .str ⟨#[c]⟩ u] } := (sb.2 _ (Nat.ne_of_gt le1)).trans hT
    have new : ObjOk X.prog X.w (upd H s.heap.objs.size (.tup [.int (i : Nat), .str ⟨#[c]⟩])) g s.heap.objs.size (.tup [.int (i : Nat), .str ⟨#[c]⟩]) :=
      ⟨by show 2 ≤ sizeLine; decide, [.int i tk, .str ⟨#[c]⟩ u], .cons ⟨_, rfl⟩ (.cons ⟨_, rfl⟩ .nil), ⟨_, hT2, rfl, _, rfl⟩⟩
    have I1 : Inv X pins σ (upd H s.heap.objs.size (.tup [.int (i : Nat), .str ⟨#[c]⟩])) { s with heap := g, toks := tk + 1 } :=
      I.turnedNew (ch := [e, it]) (fun b ob hb q => (sb.2 b (fun y => hb (by simp [y]))).trans (hk b ob (fun y => hb (by simp [y])) (fun y => hb (by simp [y])) q)) hf (Nat.le_refl _) new
    obtain ⟨o, ho2, r⟩ := hit'
    refine ⟨.ref s.heap.objs.size, _, I1, rfl, ⟨_, c, rfl, I.hok.fresh (Nat.le_refl _), rfl, hcx⟩, ⟨⟨.str ⟨#[c]⟩ u, ?_⟩, ⟨o, (sb.2 it (Ne.symm hne)).trans ho2, r⟩, hne⟩, fun b hb => ?_⟩
    · rw [show ((i + 1 : Nat) : Int) = (i : Int) + 1 by omega]
      exact he'
    · have lb : b < s.heap.objs.size := by
        rcases (show b = e ∨ b = it by simpa using hb) with y | y <;> rw [y] <;> assumption
      rw [upd_ne (Nat.ne_of_lt lb)]
      exact (hf b hb).1
  done := by
    intro X hP hw hK hc i pins s σ H E I hf st hg
    subst hP hw hK
    obtain ⟨⟨old, he⟩, hit, hne⟩ := st
    obtain ⟨f0, f1, f2, f3, f4, f5⟩ := hf it (by simp)
    have hg2 : i = z.cps.size := hg
    subst hg2
    exact wpAny_pyNext_enum_endD (draws_s (show X.A.in1.handled = none from I.ok.hd hc) it z t ty hty) he hit fun h' eb => ⟨rfl, I.turned (t' := s.toks) (fun b o hb q => eb b o hb q) f0 f1 f3 f4 f5⟩
  self := fun A i s Q E st h => let ⟨⟨_, he⟩, _⟩ := st; wpAny_pyIter_enum he h
def iEnumS (ta : TA) : TI := fun σ H R => ta σ H fun vs H1 => ∃ z : Str, vs = [.str z] ∧ R (Ies z) H1
theorem pi_enumS {X : Cx} {e : Expr} {ta : TA} {p pos tpos : Pos} {elts : List Expr} {kk : Nat} (hg : Gl X "enumerate") (hm : X.mg "enumerate" = none) (ha : PA X [e] ta) (hs : starEach [e] X.env = [(false, eval e X.env)] := by rfl) :
    PI X (.Tuple elts kk tpos) (.Call (.Name "enumerate" p) [e] [] pos) (iEnumS ta) := by
  refine ⟨fun pins s σ H R I h => ?_⟩
  refine Call_ (ld_blt I hg hm boot_enumerate (PyProof.Rows.callWith_type1 (thn (ha.run pos pins s σ H _ I h) fun us s1 ⟨vs, H1, I1, r1, z, ex, q⟩ => ?_) hs rfl))
  subst ex
  cases r1 with
  | cons r rr =>
    cases rr
    obtain ⟨t, rfl⟩ := r
    refine call_enumerate_str fun h' he hit hsz hk => wpAny_pyIter_enum he ?_
    have hty : strIterType z = "str_ascii_iterator" ∨ strIterType z = "str_iterator" := by
      unfold strIterType
      split
      · exact .inl rfl
      · exact .inr rfl
    refine ⟨s1.heap.objs.size + 1, [s1.heap.objs.size + 1, s1.heap.objs.size], _, _, H1, rfl, I1.kept (t' := s1.toks) hk, turn_enumS z t (s1.heap.objs.size + 1) s1.heap.objs.size (strIterType z) hty, ⟨⟨.none, he⟩, hit, Nat.succ_ne_self _⟩, fun b hb => ?_, q⟩
    have le : s1.heap.objs.size ≤ b := by
      rcases (show b = s1.heap.objs.size + 1 ∨ b = s1.heap.objs.size by simpa using hb) with y | y <;> rw [y] <;> simp
    exact I1.fpOk le (I1.hok.fresh le)
theorem walk_enumS {z : Str} : Walk (Ies z) z.cps.size (fun _ => True) (YPair (fun i => some (.int (i : Nat))) (fun i => z.cps[i]?.map fun c => .str ⟨#[c]⟩)) := by
  refine ⟨fun _ _ hi _ => hi, fun _ _ => rfl, fun i H v H' _ _ y => ?_⟩
  obtain ⟨T, c, h1, h2, h3, h4⟩ := y
  exact ⟨T, .int (i : Nat), _, h1, h2, h3, rfl, by simp [h4]⟩
theorem j_enumS {σ : L2.St} {A : Asr} {ta : TA} {z : Str} (h : Ca (ta σ) A [.str z]) : Cj (iEnumS ta σ) A (Ies z) := fun H hA R k => h H hA _ fun H1 e1 => ⟨z, rfl, k H1 e1⟩
theorem q_forES {K' : PySem.W.Frag} {σ : L2.St} {A : Asr} {ta : TA} {j k : Nat} {tb s : TS} {D : Ends} {l : List Nat} (h : Ca (ta σ) A [.str (strL l)]) (P : Nat → L2.St → Asr → Prop) (h0 : P 0 σ A)
    (hs : ∀ (i : Nat) c σ' A', l[i]? = some c → P i σ' A' → Go tb { D with nx := Nf P (i + 1), ct := Nf P (i + 1), bk := s D } ((σ'.set j (some (.int (i : Int)))).set k (some (.str (strL [c])))) A') (hd : ∀ σ' A', P l.length σ' A' → Go s D σ' A') :
    Go (tSeq (tFor (iEnumS ta) (gTup K' 2 (gCons (gName j) (gCons (gName k) gNil))) tb) s) D σ A :=
  g_seq (s_forP (j_enumS h) (by have w := walk_enumS (z := strL l); rw [show (strL l).cps.size = l.length from strL_len l] at w; exact w) P h0 (fun _ _ _ _ _ _ _ => True.intro) (fun i x y σ' A' hi h1 h2 p => by
    cases h1
    have e : (strL l).cps[i]? = l[i]? := by simp [strL]
    rw [e] at h2
    obtain ⟨c, hc, rfl⟩ := Option.map_eq_some_iff.mp h2
    exact hs i c σ' A' hc p) hd)
end

/-! deep data: its shape, its equality -/
def Shp (k : Nat) (d : PyData) : Prop := d.canLay0 = true ∧ d.depth ≤ k
theorem shp_all {k : Nat} : ∀ {ds : List PyData}, (∀ d ∈ ds, Shp k d) → PyData.canLayAll0 ds = true ∧ PyData.depthAll ds ≤ k
  | [], _ => ⟨by simp only [PyData.canLayAll0], by simp only [PyData.depthAll]; omega⟩
  | d :: r, h => by
    have h1 := h d List.mem_cons_self
    have h2 := shp_all fun e he => h e (List.mem_cons_of_mem d he)
    constructor
    · simp only [PyData.canLayAll0, h1.1, h2.1, Bool.and_self]
    · have := h1.2
      have := h2.2
      simp only [PyData.depthAll]
      omega
theorem shp_list {k : Nat} {ds : List PyData} (h : ∀ d ∈ ds, Shp k d) : Shp (k + 1) (.list ds) := by
  have z := shp_all h
  exact ⟨by simp only [PyData.canLay0, z.1], by have := z.2; simp only [PyData.depth]; omega⟩
theorem shp_tup {k : Nat} {ds : List PyData} (h : ∀ d ∈ ds, Shp k d) : Shp (k + 1) (.tuple ds) := by
  have z := shp_all h
  exact ⟨by simp only [PyData.canLay0, z.1], by have := z.2; simp only [PyData.depth]; omega⟩
theorem shp_int {i : Int} : Shp 0 (.int i) := ⟨by simp only [PyData.canLay0], by simp only [PyData.depth]; omega⟩
theorem Shp.mono {k j : Nat} {d : PyData} (h : Shp k d) (l : k ≤ j) : Shp j d := ⟨h.1, Nat.le_trans h.2 l⟩
theorem Shp.shaped {k : Nat} {d : PyData} (h : Shp k d) (l : k ≤ 60) : SeqAt.shaped d = true := by
  have := h.2
  show (d.canLay0 && decide (d.depth ≤ 64)) = true
  rw [h.1, decide_eq_true (by omega)]
  rfl
def intsD (ns : List Int) : PyData := .list (ns.map PyData.int)
def tupD (ns : List Int) : PyData := .tuple (ns.map PyData.int)
theorem shp_ints {ns : List Int} : Shp 1 (intsD ns) := shp_list fun d hd => by
  obtain ⟨i, _, rfl⟩ := List.mem_map.mp hd
  exact shp_int
theorem shp_tupD {ns : List Int} : Shp 1 (tupD ns) := shp_tup fun d hd => by
  obtain ⟨i, _, rfl⟩ := List.mem_map.mp hd
  exact shp_int
section
variable {K : PySem.W.Frag} {A : Asr} {H : Hp} {x y : V} {d : PyData} {p : Addr} {ns : List Int}
theorem dpAll_ints : ∀ {ns : List Int}, DpAll K H (ns.map V.int) (ns.map PyData.int)
  | [] => .nil
  | i :: r => .cons (.int i) dpAll_ints
theorem knd_ints (h : KnL K A p (ns.map V.int)) : KnD K A (.ref p) (intsD ns) := fun H a => .lst (h H a) dpAll_ints
theorem knd_tupD (h : KnT K A p (ns.map V.int)) : KnD K A (.ref p) (tupD ns) := fun H a => .tup (h H a) dpAll_ints
theorem e_eqSame {k : Nat} (h1 : KnD K A x d) (h2 : KnD K A y d) (s : Shp k d) (l : k ≤ 60) : Cv (rEqA K x y) A (.bl true) := by
  have e := PySem.SeqAt.eqv_refl d s.1
  rw [← e]
  exact e_eqD h1 h2 (s.shaped l) (s.shaped l)
theorem e_neSame {k : Nat} (h1 : KnD K A x d) (h2 : KnD K A y d) (s : Shp k d) (l : k ≤ 60) : Cv (rNeA K x y) A (.bl false) := by
  have e := PySem.SeqAt.eqv_refl d s.1
  have z := e_neD h1 h2 (s.shaped l) (s.shaped l)
  rw [e] at z
  exact z
theorem e_eqInts {q : Addr} (h1 : KnL K A p (ns.map V.int)) (h2 : KnL K A q (ns.map V.int)) : Cv (rEqA K (.ref p) (.ref q)) A (.bl true) := e_eqSame (knd_ints h1) (knd_ints h2) shp_ints (by decide)
theorem e_neInts {q : Addr} (h1 : KnL K A p (ns.map V.int)) (h2 : KnL K A q (ns.map V.int)) : Cv (rNeA K (.ref p) (.ref q)) A (.bl false) := e_neSame (knd_ints h1) (knd_ints h2) shp_ints (by decide)
end
local macro_rules | `(tactic| walk_at "Lo.op") => `(tactic| first
  | ((with_reducible apply e_eqInts); (· walk_at "Lo.kn"); (· walk_at "Lo.kn"))
  | ((with_reducible apply e_neInts); (· walk_at "Lo.kn"); (· walk_at "Lo.kn")))

theorem cshl_1 {n : Int} (h : 0 ≤ n) (h2 : n ≤ 1000000) : CShl 1 n := ⟨h, by
  have e : (Builtin.Int.intBits 1 : Int) = 1 := by decide
  rw [e]
  omega⟩
theorem cpow_10 : CPow 10 39 := by unfold CPow; decide
theorem pow_10 : (0 : Int) < 10 ^ (39 : Int).toNat := by decide
theorem flat_take {α β : Type} {l : List α} {f : α → List β} {i : Nat} {x : α} (h : l[i]? = some x) : (l.take (i + 1)).flatMap f = (l.take i).flatMap f ++ f x := by
  rw [List.take_add_one, h, List.flatMap_append]
  simp
theorem range_take {β : Type} {n j : Nat} (f : Nat → β) (h : j < n) : ((List.range n).map f).take (j + 1) = ((List.range n).map f).take j ++ [f j] := by
  have e : ((List.range n).map f)[j]? = some (f j) := by rw [List.getElem?_map, List.getElem?_range h]; rfl
  rw [List.take_add_one, e]
  rfl
theorem sign01 (r : Int) : atI (("01" : Str).cps.toList) (r % 2) = some ((48 + r % 2).toNat) := by
  have h : r % 2 = 0 ∨ r % 2 = 1 := by omega
  rcases h with h | h <;> rw [h] <;> decide +kernel
theorem sgn (n : Nat) : (⟨#[n]⟩ : Str) = strL [n] := rfl
theorem div_div (c : Int) (j : Nat) : c / 2 ^ j / 2 = c / 2 ^ (j + 1) := by
  rw [Int.ediv_ediv_of_nonneg (by have := Int.pow_pos (n := 2) (m := j) (by omega); omega), Int.pow_succ]
theorem one_str : ("1" : Str) = strL [49] := by decide +kernel
theorem mem_cutV {xs : List V} {lo hi : Option Int} {x : V} (h : x ∈ cutV xs lo hi) : x ∈ xs := List.mem_of_mem_drop (List.mem_of_mem_take h)
theorem mem_ints {cs : List Int} {x : V} (h : x ∈ cs.map V.int) : ∃ c, x = .int c := by
  obtain ⟨c, _, rfl⟩ := List.mem_map.mp h
  exact ⟨c, rfl⟩
local macro_rules | `(tactic| walk_at "Lo.side") => `(tactic| first | with_reducible exact cpow_10 | with_reducible exact pow_10 | ((with_reducible apply cshl_1); (· omega); (· omega)))

/-! the law's mixing and draws -/
def mix (c k : Int) : Int :=
  let f := (c + 1) * (48271 + 118 * k) % 2147483629
  (f / 977 * 16807 + f * (k * k + 7) + k) % 2147483587
theorem mix_nn (c k : Int) : 0 ≤ mix c k := Int.emod_nonneg _ (by decide)
theorem mix_lt (c k : Int) : mix c k < 2147483587 := Int.emod_lt_of_pos _ (by decide)
def raw (ns : List Int) (k : Int) : Int := ns.getD k.toNat 0
def cell (ns : List Int) (k : Int) : Int := mix (raw ns k % 2147483647) (k + 101)
def great (c : Int) : Int := (mix c 1 * 2147483587 + mix c 2) * 2147483587 + mix c 3
theorem atI_map {α β : Type} (f : α → β) {xs : List α} {i : Int} {x : α} (h : atI xs i = some x) : atI (xs.map f) i = some (f x) := by
  unfold atI at *
  rw [List.length_map]
  cases e : ixN xs.length i with
  | none => rw [e] at h; cases h
  | some j =>
    rw [e] at h
    have h2 : xs[j]? = some x := h
    show (xs.map f)[j]? = some (f x)
    rw [List.getElem?_map, h2]
    rfl
theorem atI_getD {α : Type} {xs : List α} {i : Int} {d : α} (h0 : 0 ≤ i) (h : i < xs.length) : atI xs i = some (xs.getD i.toNat d) := by
  obtain ⟨j, rfl⟩ := Int.eq_ofNat_of_zero_le h0
  have hj : j < xs.length := by omega
  rw [atI_nat (v := xs[j]) (by simp [hj])]
  simp [List.getD, hj]
theorem raw_at {ns : List Int} {k : Int} (h0 : 0 ≤ k) (h : k < (ns.map V.int).length) : atI (ns.map V.int) k = some (.int (raw ns k)) :=
  atI_map V.int (atI_getD h0 (by rw [List.length_map] at h; exact h))
theorem raw_out {ns : List Int} {k : Int} (h : ¬ k < (ns.map V.int).length) : raw ns k = 0 := by
  rw [List.length_map] at h
  unfold raw
  rw [List.getD, List.getElem?_eq_none (by omega)]
  rfl
def sp_l_mix : Sp := fun vs H Q E => ∃ (c k : Int), vs = [.int c, .int k] ∧ (0 ≤ k ∧ k ≤ 10000000000) ∧ RetV (.int (mix c k)) H Q
theorem u_l_mix {A : Asr} {E : XK} {c k : Int}  (g0 : 0 ≤ k ∧ k ≤ 10000000000) : Cv (fun H Q => sp_l_mix [.int c, .int k] H Q E) A (.int (mix c k)) := fun H hA Q q => ⟨c, k, rfl, g0, q⟩
local macro_rules | `(tactic| walk_at "Lo.call") => `(tactic| ((with_reducible apply u_l_mix); (· walk_at "Lo.side")))
theorem ok_l_mix {P : Program} {w : World} {K : PySem.W.Frag} {mg : Str → Option Value} {base : Heap} (T : Txt K mg) : FnOk P w K mg base (L2.CX P w) 1 T.d_l_mix.f T.d_l_mix.fd ["_law_cell_here", "_law_k"] sp_l_mix := by
  refine T.d_l_mix.F.ok sc_l_mix (fun vs H Q E h => ?_) (fun cdv A outer s H vs Q E hr h => ?_)
  · obtain ⟨c, k, rfl, _⟩ := h
    rfl
  · obtain ⟨c, k, rfl, g0, q⟩ := h
    have hu := hu_of hr
    refine ⟨_, (pss_cons (ps_set (i := 2) sc_l_mix.nd rfl (Or.inl rfl) (pe_op op_mod (pe_op op_mulA (pe_op (r := rAddA K) op_addA (pv 0) pe_int) (pe_op (r := rAddA K) op_addA pe_int (pe_op op_mulA pe_int (pv 1)))) pe_int))
  (pss_one (ps_ret (pe_op op_mod (pe_op (r := rAddA K) op_addA (pe_op (r := rAddA K) op_addA (pe_op op_mulA (pe_op op_fdivW (pv 2) pe_int) pe_int) (pe_op op_mulA (pv 2) (pe_op (r := rAddA K) op_addA (pe_op op_mulA (pv 1) (pv 1)) pe_int))) (pv 1)) pe_int)))),
      body_go (σ' := [some (.int c), some (.int k), none]) rfl ?_⟩
    try dsimp only [cxOf]
    walk_at "Lo.q"
    walk_at "Lo.ret"
def sp_l_raw (K : PySem.W.Frag) : Sp := fun vs H Q E => ∃ (a : Addr) (ns : List Int) (k : Int), vs = [.ref a, .int k] ∧ (SqL K H a (ns.map V.int)) ∧ (0 ≤ k) ∧ RetV (.int (raw ns k)) H Q
theorem u_l_raw {K : PySem.W.Frag} {A : Asr} {E : XK} {a : Addr} {ns : List Int} {k : Int}  (h0 : KnL K A a (ns.map V.int)) (g0 : 0 ≤ k) : Cv (fun H Q => (sp_l_raw K) [.ref a, .int k] H Q E) A (.int (raw ns k)) := fun H hA Q q => ⟨a, ns, k, rfl, h0 H hA, g0, q⟩
local macro_rules | `(tactic| walk_at "Lo.call") => `(tactic| ((with_reducible apply u_l_raw); (· walk_at "Lo.kn"); (· walk_at "Lo.side")))
theorem ok_l_raw {P : Program} {w : World} {K : PySem.W.Frag} {mg : Str → Option Value} {base : Heap} (T : Txt K mg) : FnOk P w K mg base (L2.CX P w) 1 T.d_l_raw.f T.d_l_raw.fd ["_law_script", "_law_k"] (sp_l_raw K) := by
  refine T.d_l_raw.F.ok sc_l_raw (fun vs H Q E h => ?_) (fun cdv A outer s H vs Q E hr h => ?_)
  · obtain ⟨a, ns, k, rfl, _⟩ := h
    rfl
  · obtain ⟨a, ns, k, rfl, h0, g0, q⟩ := h
    have hu := hu_of hr
    refine ⟨_, (pss_cons (ps_if (pt_cmpR op_lt (pv 1) (pe_callB (r := rLenA K) call_lenA (by rfl) T.z_len (by decide +kernel) (pa_cons (pv 0) pa_nil)) (nomark _)) (pss_one (ps_ret (pe_ix (r := rIxA K) (ix_A hu) (pv 0) (pv 1) (fun _ _ => rfl)))) pss_nil)
  (pss_one (ps_ret pe_int))),
      body_go (σ' := [some (.ref a), some (.int k)]) rfl ?_⟩
    try dsimp only [cxOf]
    walk_at "Lo.q"
    · intro hb
      have e := raw_at g0 (of_decide_eq_true hb)
      walk_at "Lo.ret"
    · intro hb
      have e := raw_out (of_decide_eq_false hb)
      rw [e] at q
      walk_at "Lo.ret"
def sp_l_cell (K : PySem.W.Frag) : Sp := fun vs H Q E => ∃ (a : Addr) (ns : List Int) (k : Int), vs = [.ref a, .int k] ∧ (SqL K H a (ns.map V.int)) ∧ (0 ≤ k ∧ k ≤ 1000000) ∧ RetV (.int (cell ns k)) H Q
theorem u_l_cell {K : PySem.W.Frag} {A : Asr} {E : XK} {a : Addr} {ns : List Int} {k : Int}  (h0 : KnL K A a (ns.map V.int)) (g0 : 0 ≤ k ∧ k ≤ 1000000) : Cv (fun H Q => (sp_l_cell K) [.ref a, .int k] H Q E) A (.int (cell ns k)) := fun H hA Q q => ⟨a, ns, k, rfl, h0 H hA, g0, q⟩
local macro_rules | `(tactic| walk_at "Lo.call") => `(tactic| ((with_reducible apply u_l_cell); (· walk_at "Lo.kn"); (· walk_at "Lo.side")))
theorem ok_l_cell {P : Program} {w : World} {K : PySem.W.Frag} {mg : Str → Option Value} {base : Heap} (T : Txt K mg) : FnOk P w K mg base (L2.CX P w) 2 T.d_l_cell.f T.d_l_cell.fd ["_law_script", "_law_k"] (sp_l_cell K) := by
  have G_l_mix := ok_l_mix (P := P) (w := w) (base := base) T
  have G_l_raw := ok_l_raw (P := P) (w := w) (base := base) T
  refine T.d_l_cell.F.ok sc_l_cell (fun vs H Q E h => ?_) (fun cdv A outer s H vs Q E hr h => ?_)
  · obtain ⟨a, ns, k, rfl, _⟩ := h
    rfl
  · obtain ⟨a, ns, k, rfl, h0, g0, q⟩ := h
    have hu := hu_of hr
    refine ⟨_, (pss_one (ps_ret (pe_call G_l_mix (hr.mono (by decide)) (by rfl) T.g_l_mix T.d_l_mix.kp T.d_l_mix.b .nil passL (pa_cons (pe_op op_mod (pe_call G_l_raw (hr.mono (by decide)) (by rfl) T.g_l_raw T.d_l_raw.kp T.d_l_raw.b .nil passL (pa_cons (pv 0) (pa_cons (pv 1) pa_nil))) pe_int) (pa_cons (pe_op (r := rAddA K) op_addA (pv 1) pe_int) pa_nil))))),
      body_go (σ' := [some (.ref a), some (.int k)]) rfl ?_⟩
    try dsimp only [cxOf]
    walk_at "Lo.ret"
def sp_l_great : Sp := fun vs H Q E => ∃ (c : Int), vs = [.int c] ∧ RetV (.int (great c)) H Q
theorem u_l_great {A : Asr} {E : XK} {c : Int}  : Cv (fun H Q => sp_l_great [.int c] H Q E) A (.int (great c)) := fun H hA Q q => ⟨c, rfl, q⟩
local macro_rules | `(tactic| walk_at "Lo.call") => `(tactic| ((with_reducible apply u_l_great)))
theorem ok_l_great {P : Program} {w : World} {K : PySem.W.Frag} {mg : Str → Option Value} {base : Heap} (T : Txt K mg) : FnOk P w K mg base (L2.CX P w) 2 T.d_l_great.f T.d_l_great.fd ["_law_cell_here"] sp_l_great := by
  have G_l_mix := ok_l_mix (P := P) (w := w) (base := base) T
  refine T.d_l_great.F.ok sc_l_great (fun vs H Q E h => ?_) (fun cdv A outer s H vs Q E hr h => ?_)
  · obtain ⟨c, rfl, _⟩ := h
    rfl
  · obtain ⟨c, rfl, q⟩ := h
    have hu := hu_of hr
    refine ⟨_, (pss_one (ps_ret (pe_op (r := rAddA K) op_addA (pe_op op_mulA (pe_op (r := rAddA K) op_addA (pe_op op_mulA (pe_call G_l_mix (hr.mono (by decide)) (by rfl) T.g_l_mix T.d_l_mix.kp T.d_l_mix.b .nil passL (pa_cons (pv 0) (pa_cons pe_int pa_nil))) pe_int) (pe_call G_l_mix (hr.mono (by decide)) (by rfl) T.g_l_mix T.d_l_mix.kp T.d_l_mix.b .nil passL (pa_cons (pv 0) (pa_cons pe_int pa_nil)))) pe_int) (pe_call G_l_mix (hr.mono (by decide)) (by rfl) T.g_l_mix T.d_l_mix.kp T.d_l_mix.b .nil passL (pa_cons (pv 0) (pa_cons pe_int pa_nil)))))),
      body_go (σ' := [some (.int c)]) rfl ?_⟩
    try dsimp only [cxOf]
    have h1 := mix_nn c 1
    have h2 := mix_lt c 1
    walk_at "Lo.ret"
def cells (ns : List Int) (start most : Int) : List Int :=
  if raw ns 0 % 2 = 0 then (List.range (min most (max 0 (ns.length - start))).toNat).map fun (i : Nat) => raw ns (start + (i : Int))
  else (List.range (min most (max (max 0 (ns.length - start)) (1 + cell ns 0 % most))).toNat).map fun (i : Nat) => great (mix (cell ns (start + (i : Int) % max 1 (max 0 (ns.length - start)))) (i : Int))
theorem cells_len (ns : List Int) (start most : Int) : (cells ns start most).length ≤ most.toNat := by
  unfold cells
  split <;> (rw [List.length_map, List.length_range]; omega)
def whole : V → Bool
  | .int _ => true
  | _ => false
def flat2 : V → Bool
  | .int _ => true
  | .bl _ => true
  | .str _ => true
  | .non => true
  | _ => false
def sp_l_cells (K : PySem.W.Frag) : Sp := fun vs H Q E => ∃ (a : Addr) (ns : List Int) (start most : Int), vs = [.ref a, .int start, .int most] ∧ (SqL K H a (ns.map V.int)) ∧ (0 ≤ start ∧ start ≤ 1000 ∧ 1 ≤ most ∧ most ≤ 1000 ∧ ns.length ≤ 63) ∧ RetN (.lst ((cells ns start most).map V.int)) H Q
theorem u_l_cells {K : PySem.W.Frag} {A : Asr} {E : XK} {a : Addr} {ns : List Int} {start most : Int}  (h0 : KnL K A a (ns.map V.int)) (g0 : 0 ≤ start ∧ start ≤ 1000 ∧ 1 ≤ most ∧ most ≤ 1000 ∧ ns.length ≤ 63) : Cn (fun H Q => (sp_l_cells K) [.ref a, .int start, .int most] H Q E) A (.lst ((cells ns start most).map V.int)) := fun H hA Q q => ⟨a, ns, start, most, rfl, h0 H hA, g0, q⟩
local macro_rules | `(tactic| walk_at "Lo.call") => `(tactic| ((with_reducible apply u_l_cells); (· walk_at "Lo.kn"); (· walk_at "Lo.side")))
theorem ok_l_cells {P : Program} {w : World} {K : PySem.W.Frag} {mg : Str → Option Value} {base : Heap} (T : Txt K mg) : FnOk P w K mg base (L2.CX P w) 3 T.d_l_cells.f T.d_l_cells.fd ["_law_script", "_law_start", "_law_most"] (sp_l_cells K) := by
  have G_l_raw := ok_l_raw (P := P) (w := w) (base := base) T
  have G_l_cell := ok_l_cell (P := P) (w := w) (base := base) T
  have G_l_great := ok_l_great (P := P) (w := w) (base := base) T
  have G_l_mix := ok_l_mix (P := P) (w := w) (base := base) T
  refine T.d_l_cells.F.ok sc_l_cells (fun vs H Q E h => ?_) (fun cdv A outer s H vs Q E hr h => ?_)
  · obtain ⟨a, ns, start, most, rfl, _⟩ := h
    rfl
  · obtain ⟨a, ns, start, most, rfl, h0, g0, q⟩ := h
    have hu := hu_of hr
    refine ⟨_, (pss_cons (ps_set (i := 3) sc_l_cells.nd rfl (Or.inr rfl) (pe_callB (r := rMaxA K) (call_maxA rfl) (by rfl) T.z_max (by decide +kernel) (pa_cons pe_int (pa_cons (pe_op op_sub (pe_callB (r := rLenA K) call_lenA (by rfl) T.z_len (by decide +kernel) (pa_cons (pv 0) pa_nil)) (pv 1)) pa_nil))))
  (pss_cons (ps_if (pt_cmpR (r := rEqA K) (op_eqA hr.units) (pe_op op_mod (pe_call G_l_raw (hr.mono (by decide)) (by rfl) T.g_l_raw T.d_l_raw.kp T.d_l_raw.b .nil passL (pa_cons (pv 0) (pa_cons pe_int pa_nil))) pe_int) pe_int (nomark _)) (pss_one (ps_ret (pe_lc (own := [("_law_k", 5)]) (g := gName 5) (tt := tYes) rfl sc_l_cells.nd (pi_range1 (by rfl) T.z_range (pa_cons (pe_callB (r := rMinA K) (call_minA rfl) (by rfl) T.z_min (by decide +kernel) (pa_cons (pv 2) (pa_cons (pv 3) pa_nil))) pa_nil)) (blkOk_by (N := ["_law_script", "_law_start", "_law_most", "_law_cells_here", "_law_many", "_law_k"]) (sc := defScope s_l_cells) (by decide +kernel)) (fun _ _ _ _ _ => pg_name (i := 5) sc_l_cells.nd rfl (Or.inl rfl)) (fun _ _ _ _ _ => pts_nil) (fun _ _ _ _ _ => (pe_call G_l_raw (hr.mono (by decide)) (by rfl) T.g_l_raw T.d_l_raw.kp T.d_l_raw.b .nil passL (pa_cons (pv 0) (pa_cons (pe_op (r := rAddA K) op_addA (pv 1) (pv 5)) pa_nil))))))) pss_nil)
  (pss_cons (ps_set (i := 4) sc_l_cells.nd rfl (Or.inl rfl) (pe_callB (r := rMinA K) (call_minA rfl) (by rfl) T.z_min (by decide +kernel) (pa_cons (pv 2) (pa_cons (pe_callB (r := rMaxA K) (call_maxA rfl) (by rfl) T.z_max (by decide +kernel) (pa_cons (pv 3) (pa_cons (pe_op (r := rAddA K) op_addA pe_int (pe_op op_mod (pe_call G_l_cell (hr.mono (by decide)) (by rfl) T.g_l_cell T.d_l_cell.kp T.d_l_cell.b .nil passL (pa_cons (pv 0) (pa_cons pe_int pa_nil))) (pv 2))) pa_nil))) pa_nil))))
  (pss_one (ps_ret (pe_lc (own := [("_law_k", 5)]) (g := gName 5) (tt := tYes) rfl sc_l_cells.nd (pi_range1 (by rfl) T.z_range (pa_cons (pv 4) pa_nil)) (blkOk_by (N := ["_law_script", "_law_start", "_law_most", "_law_cells_here", "_law_many", "_law_k"]) (sc := defScope s_l_cells) (by decide +kernel)) (fun _ _ _ _ _ => pg_name (i := 5) sc_l_cells.nd rfl (Or.inl rfl)) (fun _ _ _ _ _ => pts_nil) (fun _ _ _ _ _ => (pe_call G_l_great (hr.mono (by decide)) (by rfl) T.g_l_great T.d_l_great.kp T.d_l_great.b .nil passL (pa_cons (pe_call G_l_mix (hr.mono (by decide)) (by rfl) T.g_l_mix T.d_l_mix.kp T.d_l_mix.b .nil passL (pa_cons (pe_call G_l_cell (hr.mono (by decide)) (by rfl) T.g_l_cell T.d_l_cell.kp T.d_l_cell.b .nil passL (pa_cons (pv 0) (pa_cons (pe_op (r := rAddA K) op_addA (pv 1) (pe_op op_mod (pv 5) (pe_callB (r := rMaxA K) (call_maxA rfl) (by rfl) T.z_max (by decide +kernel) (pa_cons pe_int (pa_cons (pv 3) pa_nil))))) pa_nil))) (pa_cons (pv 5) pa_nil))) pa_nil))))))))),
      body_go (σ' := [some (.ref a), some (.int start), some (.int most), none, none, none]) rfl ?_⟩
    try dsimp only [cxOf]
    have hz : (ns.map V.int).length = ns.length := List.length_map _
    walk_at "Lo.q"
    walk_at "Lo.q"
    · intro hb
      have h2 := of_decide_eq_true hb
      have hs : ∀ i : Nat, (i : Int) < min most (max 0 ((ns.map V.int).length - start)) → 0 ≤ start + (i : Int) := fun i hi => by omega
      refine s_retN (u := .lst ((List.range (min most (max 0 ((ns.map V.int).length - start))).toNat).map fun (i : Nat) => V.int (raw ns (start + (i : Int))))) ?_ ?_ q
      · walk_at "Lo.cn"
      · unfold cells
        rw [if_pos h2, List.map_map, hz]
        all_goals rfl
    · intro hb
      have h2 := of_decide_eq_false hb
      have hc := mix_nn (raw ns 0 % 2147483647) (0 + 101)
      walk_at "Lo.q"
      refine s_retN (u := .lst ((List.range (min most (max (max 0 ((ns.map V.int).length - start)) (1 + cell ns 0 % most))).toNat).map fun (i : Nat) => V.int (great (mix (cell ns (start + (i : Int) % max 1 (max 0 ((ns.map V.int).length - start)))) (i : Int))))) ?_ ?_ q
      · have hm : ∀ i : Int, 0 ≤ i % max 1 (max 0 ((ns.map V.int).length - start)) ∧ i % max 1 (max 0 ((ns.map V.int).length - start)) ≤ 1000 := fun i => ⟨Int.emod_nonneg _ (by omega), by have := Int.emod_lt_of_pos i (show 0 < max 1 (max 0 (((ns.map V.int).length : Int) - start)) by omega); omega⟩
        refine n_lcR _ ?_ ?_ ?_ ?_ (fun _ => rfl)
        · walk_at "Lo.ca"
        · omega
        · omega
        · intro i hi
          have := hm i
          walk_at "Lo.cv"
      · unfold cells
        rw [if_neg h2, List.map_map, hz]
        all_goals rfl
def sp_l_whole : Sp := fun vs H Q E => ∃ (x : V), vs = [x] ∧ (flat2 x = true) ∧ RetV (.bl (whole x)) H Q
theorem u_l_whole {A : Asr} {E : XK} {x : V}  (g0 : flat2 x = true) : Cv (fun H Q => sp_l_whole [x] H Q E) A (.bl (whole x)) := fun H hA Q q => ⟨x, rfl, g0, q⟩
local macro_rules | `(tactic| walk_at "Lo.call") => `(tactic| ((with_reducible apply u_l_whole); (· walk_at "Lo.side")))
theorem ok_l_whole {P : Program} {w : World} {K : PySem.W.Frag} {mg : Str → Option Value} {base : Heap} (T : Txt K mg) : FnOk P w K mg base (L2.CX P w) 1 T.d_l_whole.f T.d_l_whole.fd ["_law_found"] sp_l_whole := by
  refine T.d_l_whole.F.ok sc_l_whole (fun vs H Q E h => ?_) (fun cdv A outer s H vs Q E hr h => ?_)
  · obtain ⟨x, rfl, _⟩ := h
    rfl
  · obtain ⟨x, rfl, g0, q⟩ := h
    have hu := hu_of hr
    refine ⟨_, (pss_one (ps_ret (pe_and (pe_callB (r := rIsi K) call_isi (by rfl) T.z_isinstance (by decide +kernel) (pa_cons (pv 0) (pa_cons (pe_bltn (v := .ty "int") (by rfl) T.z_int (by decide +kernel) rfl) pa_nil))) (pe_one (pe_not (pe_callB (r := rIsi K) call_isi (by rfl) T.z_isinstance (by decide +kernel) (pa_cons (pv 0) (pa_cons (pe_bltn (v := .ty "bool") (by rfl) T.z_bool (by decide +kernel) rfl) pa_nil)))))))),
      body_go (σ' := [some (x)]) rfl ?_⟩
    try dsimp only [cxOf]
    cases x with
    | int i => walk_at "Lo.ret"
    | bl b => exact s_retV (v := .bl (whole (.bl b))) (c_and (c_cb (c_cons (c_var rfl) (c_cons c_c c_nil)) e_isiBI) fun _ => c_not (c_cb (c_cons (c_var rfl) (c_cons c_c c_nil)) e_isiBB)) rfl q
    | str z => exact s_retV (v := .bl (whole (.str z))) (c_and (b := false) (c := true) (c_cb (c_cons (c_var rfl) (c_cons c_c c_nil)) e_isiSI) (fun h => by cases h)) rfl q
    | non => exact s_retV (v := .bl (whole .non)) (c_and (b := false) (c := true) (c_cb (c_cons (c_var rfl) (c_cons c_c c_nil)) e_isiNI) (fun h => by cases h)) rfl q
    | byt _ => cases g0
    | flt _ => cases g0
    | ref _ => cases g0
    | ty _ => cases g0

/-! sums of a table's places -/
def natV (l : List Nat) : List V := l.map fun (i : Nat) => V.int (i : Int)
def sumAt (tb : List Int) (l : List Nat) : Int := (l.map fun i => tb.getD i 0).sum
theorem sumAt_take {tb : List Int} {l : List Nat} {i p : Nat} (h : l[i]? = some p) : sumAt tb (l.take (i + 1)) = sumAt tb (l.take i) + tb.getD p 0 := by
  unfold sumAt
  rw [List.take_add_one, h, List.map_append, List.sum_append]
  simp
theorem at_nat {tb : List Int} {p : Nat} (h : p < tb.length) : atI (tb.map V.int) (p : Int) = some (.int (tb.getD p 0)) := by
  have z := atI_map V.int (atI_getD (xs := tb) (i := (p : Int)) (d := 0) (by omega) (by omega))
  rw [z, Int.toNat_natCast]
def stepF (E : List (List Nat)) (W : List Int) (m : Int) (tb : List Int) (o : Nat × Nat) : List Int := tb.set o.2 ((tb.getD o.2 0 + (W.getD o.1 0 - sumAt tb (E.getD o.1 []) % m)) % m)
def filledM (E : List (List Nat)) (n : Nat) (O : List (Nat × Nat)) (W : List Int) (m : Int) : List Int := O.reverse.foldl (stepF E W m) (List.replicate n 0)
theorem stepF_len {E : List (List Nat)} {W : List Int} {m : Int} {tb : List Int} {o : Nat × Nat} : (stepF E W m tb o).length = tb.length := by simp [stepF]
theorem foldF_len {E : List (List Nat)} {W : List Int} {m : Int} : ∀ (O : List (Nat × Nat)) (tb : List Int), (O.foldl (stepF E W m) tb).length = tb.length
  | [], _ => rfl
  | o :: r, tb => by rw [List.foldl_cons, foldF_len r, stepF_len]
def tupN (l : List Nat) : PyData := .tuple (l.map fun (i : Nat) => .int (i : Int))
def pairD (o : Nat × Nat) : PyData := .tuple [.int (o.1 : Int), .int (o.2 : Int)]
section
variable {K : PySem.W.Frag} {H : Hp}
theorem dpAll_inv : ∀ {vs : List V} {ds : List PyData}, DpAll K H vs ds → vs.length = ds.length ∧ ∀ (i : Nat) d, ds[i]? = some d → ∃ x, vs[i]? = some x ∧ Dp K H x d
  | _, _, .nil => ⟨rfl, fun i d h => by simp at h⟩
  | _, _, .cons h1 h2 => by
    obtain ⟨e, z⟩ := dpAll_inv h2
    refine ⟨by simp [e], fun i d h => ?_⟩
    cases i with
    | zero =>
      simp only [List.getElem?_cons_zero, Option.some.injEq] at h
      subst h
      exact ⟨_, rfl, h1⟩
    | succ i => exact z i d (by simpa using h)
theorem dp_list {α : Type} {f : α → PyData} {x : V} {xs : List α} (h : Dp K H x (.list (xs.map f))) : ∃ a vs, x = .ref a ∧ SqL K H a vs ∧ vs.length = xs.length ∧ ∀ (i : Nat) y, xs[i]? = some y → ∃ v, vs[i]? = some v ∧ Dp K H v (f y) := by
  cases h with
  | lst h1 h2 =>
    obtain ⟨e, z⟩ := dpAll_inv h2
    rw [List.length_map] at e
    exact ⟨_, _, rfl, h1, e, fun i y hy => z i (f y) (by rw [List.getElem?_map, hy]; rfl)⟩
theorem dpAll_nat : ∀ {l : List Nat} {vs : List V}, DpAll K H vs (l.map fun (i : Nat) => PyData.int (i : Int)) → vs = natV l
  | [], _, h => by cases h; rfl
  | i :: r, _, h => by
    cases h with
    | cons h1 h2 =>
      cases h1
      rw [dpAll_nat h2]
      rfl
theorem dp_tupN {x : V} {l : List Nat} (h : Dp K H x (tupN l)) : ∃ q, x = .ref q ∧ SqT K H q (natV l) := by
  cases h with
  | tup h1 h2 => exact ⟨_, rfl, dpAll_nat h2 ▸ h1⟩
theorem dp_pair {x : V} {o : Nat × Nat} (h : Dp K H x (pairD o)) : ∃ q, x = .ref q ∧ SqT K H q [.int (o.1 : Int), .int (o.2 : Int)] := by
  cases h with
  | tup h1 h2 =>
    cases h2 with
    | cons a1 a2 =>
      cases a1
      cases a2 with
      | cons b1 b2 =>
        cases b1
        cases b2
        exact ⟨_, rfl, h1⟩
end
theorem rep_flat (n : Nat) : (List.replicate n [V.int 0]).flatten = (List.replicate n (0 : Int)).map V.int := by
  induction n with
  | zero => rfl
  | succ n ih =>
    rw [List.replicate_succ, List.flatten_cons, ih, List.replicate_succ]
    rfl
def sp_summed (K : PySem.W.Frag) : Sp := fun vs H Q E => ∃ (t p : Addr) (tb : List Int) (l : List Nat) (m : Int), vs = [.ref t, .ref p, .int m] ∧ (SqL K H t (tb.map V.int)) ∧ (SqT K H p (natV l)) ∧ (0 < m ∧ ∀ i ∈ l, i < tb.length) ∧ RetV (.int (sumAt tb l % m)) H Q
theorem u_summed {K : PySem.W.Frag} {A : Asr} {E : XK} {t p : Addr} {tb : List Int} {l : List Nat} {m : Int}  (h0 : KnL K A t (tb.map V.int)) (h1 : KnT K A p (natV l)) (g0 : 0 < m ∧ ∀ i ∈ l, i < tb.length) : Cv (fun H Q => (sp_summed K) [.ref t, .ref p, .int m] H Q E) A (.int (sumAt tb l % m)) := fun H hA Q q => ⟨t, p, tb, l, m, rfl, h0 H hA, h1 H hA, g0, q⟩
local macro_rules | `(tactic| walk_at "Lo.call") => `(tactic| ((with_reducible apply u_summed); (· walk_at "Lo.kn"); (· walk_at "Lo.kn"); (· walk_at "Lo.side")))
theorem ok_summed {P : Program} {w : World} {K : PySem.W.Frag} {mg : Str → Option Value} {base : Heap} (T : Txt K mg) : FnOk P w K mg base (L2.CX P w) 1 T.d_summed.f T.d_summed.fd ["table", "places", "modulus"] (sp_summed K) := by
  refine T.d_summed.F.ok sc_summed (fun vs H Q E h => ?_) (fun cdv A outer s H vs Q E hr h => ?_)
  · obtain ⟨t, p, tb, l, m, rfl, _⟩ := h
    rfl
  · obtain ⟨t, p, tb, l, m, rfl, h0, h1, g0, q⟩ := h
    have hu := hu_of hr
    refine ⟨_, (pss_cons (ps_set (i := 3) sc_summed.nd rfl (Or.inl rfl) pe_int)
  (pss_cons (ps_for (passes_of rfl) rfl (pi_tup (pv 1)) (pg_name (i := 4) sc_summed.nd rfl (Or.inl rfl))
  (pss_one (ps_aug (i := 3) sc_summed.nd rfl (Or.inl rfl) (pe_ix (r := rIxA K) (ix_A hu) (pv 0) (pv 4) (fun _ _ => rfl)) ip_add)))
  (pss_one (ps_ret (pe_op op_mod (pv 3) (pv 2)))))),
      body_go (σ' := [some (.ref t), some (.ref p), some (.int m), none, none]) rfl ?_⟩
    try dsimp only [cxOf]
    obtain ⟨g1, g2⟩ := g0
    walk_at "Lo.q"
    refine g_seq (s_forT (a := p) (xs := natV l) (c_var rfl) (fun i σ A' => A' = at_ H H H [] ∧ ∃ x, σ = [some (.ref t), some (.ref p), some (.int m), some (.int (sumAt tb (l.take i))), x]) ⟨rfl, _, rfl⟩ ?_ ?_ ?_)
    · rintro i σ' A' ⟨rfl, _⟩
      walk_at "Lo.kn"
    · rintro i x σ' A' hx ⟨rfl, x1, rfl⟩
      unfold natV at hx
      rw [List.getElem?_map] at hx
      obtain ⟨j, hj, rfl⟩ := Option.map_eq_some_iff.mp hx
      have ha := at_nat (g2 j (List.mem_of_getElem? hj))
      refine s_aug (n := tb.getD j 0) rfl (by walk_at "Lo.cv") ?_
      walk_at "Lo.nf"
      refine ⟨rfl, some (.int (j : Int)), ?_⟩
      rw [sumAt_take hj]
      rfl
    · rintro σ' A' ⟨rfl, x1, rfl⟩
      unfold natV
      rw [List.length_map, List.take_length]
      walk_at "Lo.go"
      walk_at "Lo.ret"
def sp_filled (K : PySem.W.Frag) : Sp := fun vs H Q E => ∃ (ae ao aw : Addr) (Es : List (List Nat)) (n : Nat) (Os : List (Nat × Nat)) (Ws : List Int) (m : Int), vs = [.ref ae, .int (n : Int), .ref ao, .ref aw, .int m] ∧ (Dp K H (.ref ae) (.list (Es.map tupN))) ∧ (Dp K H (.ref ao) (.list (Os.map pairD))) ∧ (SqL K H aw (Ws.map V.int)) ∧ ((0 < m ∧ n ≤ 1000000) ∧ (∀ l ∈ Es, ∀ i ∈ l, i < n) ∧ ∀ o ∈ Os, o.1 < Es.length ∧ o.1 < Ws.length ∧ o.2 < n) ∧ RetN (.lst ((filledM Es n Os Ws m).map V.int)) H Q
theorem u_filled {K : PySem.W.Frag} {A : Asr} {E : XK} {ae ao aw : Addr} {Es : List (List Nat)} {n : Nat} {Os : List (Nat × Nat)} {Ws : List Int} {m : Int}  (h0 : KnD K A (.ref ae) (.list (Es.map tupN))) (h1 : KnD K A (.ref ao) (.list (Os.map pairD))) (h2 : KnL K A aw (Ws.map V.int)) (g0 : (0 < m ∧ n ≤ 1000000) ∧ (∀ l ∈ Es, ∀ i ∈ l, i < n) ∧ ∀ o ∈ Os, o.1 < Es.length ∧ o.1 < Ws.length ∧ o.2 < n) : Cn (fun H Q => (sp_filled K) [.ref ae, .int (n : Int), .ref ao, .ref aw, .int m] H Q E) A (.lst ((filledM Es n Os Ws m).map V.int)) := fun H hA Q q => ⟨ae, ao, aw, Es, n, Os, Ws, m, rfl, h0 H hA, h1 H hA, h2 H hA, g0, q⟩
local macro_rules | `(tactic| walk_at "Lo.call") => `(tactic| ((with_reducible apply u_filled); (· walk_at "Lo.kn"); (· walk_at "Lo.kn"); (· walk_at "Lo.kn"); (· walk_at "Lo.side")))
theorem ok_filled {P : Program} {w : World} {K : PySem.W.Frag} {mg : Str → Option Value} {base : Heap} (T : Txt K mg) : FnOk P w K mg base (L2.CX P w) 2 T.d_filled.f T.d_filled.fd ["edges", "size", "order", "wanted", "modulus"] (sp_filled K) := by
  have G_summed := ok_summed (P := P) (w := w) (base := base) T
  refine T.d_filled.F.ok sc_filled (fun vs H Q E h => ?_) (fun cdv A outer s H vs Q E hr h => ?_)
  · obtain ⟨ae, ao, aw, Es, n, Os, Ws, m, rfl, _⟩ := h
    rfl
  · obtain ⟨ae, ao, aw, Es, n, Os, Ws, m, rfl, h0, h1, h2, g0, q⟩ := h
    have hu := hu_of hr
    refine ⟨_, (pss_cons (ps_set (i := 5) sc_filled.nd rfl (Or.inl rfl) (pe_op op_mulA (pe_lst (pa_cons pe_int pa_nil)) (pv 1)))
  (pss_cons (ps_for (passes_of rfl) rfl (pi_reversed (by rfl) T.z_reversed (pa_cons (pv 2) pa_nil)) (pg_tup rfl (pgs_cons (pg_name (i := 6) sc_filled.nd rfl (Or.inl rfl)) (pgs_cons (pg_name (i := 7) sc_filled.nd rfl (Or.inl rfl)) pgs_nil)))
  (pss_cons (ps_set (i := 8) sc_filled.nd rfl (Or.inl rfl) (pe_op op_sub (pe_ix (r := rIxA K) (ix_A hu) (pv 3) (pv 6) (fun _ _ => rfl)) (pe_call G_summed (hr.mono (by decide)) (by rfl) T.g_summed T.d_summed.kp T.d_summed.b .nil passL (pa_cons (pv 5) (pa_cons (pe_ix (r := rIxA K) (ix_A hu) (pv 0) (pv 6) (fun _ _ => rfl)) (pa_cons (pv 4) pa_nil))))))
  (pss_one (ps_asg (pe_op op_mod (pe_op (r := rAddA K) op_addA (pe_ix (r := rIxA K) (ix_A hu) (pv 5) (pv 7) (fun _ _ => rfl)) (pv 8)) (pv 4)) (pg_sub (pv 5) (pv 7) (set_A hu))))))
  (pss_one (ps_ret (pv 5))))),
      body_go (σ' := [some (.ref ae), some (.int (n : Int)), some (.ref ao), some (.ref aw), some (.int m), none, none, none, none]) rfl ?_⟩
    try dsimp only [cxOf]
    obtain ⟨⟨g1, g2⟩, g3, g4⟩ := g0
    obtain ⟨_, ve, e1, he, hel, hee⟩ := dp_list h0
    cases e1
    obtain ⟨_, vo, e2, ho, hol, hoo⟩ := dp_list h1
    cases e2
    have hsl := sizeLine_eq
    refine q_own (o := .lst ((List.replicate n (0 : Int)).map V.int)) (cn_is (o := .lst (List.replicate (n : Int).toNat [V.int 0]).flatten) ?_ ?_) fun p => ?_
    · with_reducible apply n_opNv
      · walk_at "Lo.cn"
      · intro r
        walk_at "Lo.cv"
      · intro r
        refine e_rep kn_kn (by omega) (by omega) ?_
        simp only [List.length_cons, List.length_nil]
        omega
    · rw [Int.toNat_natCast, rep_flat]
    refine q_forV (a := ao) (xs := vo) (by walk_at "Lo.ca") (fun i σ A' => A' = at_ H H H [(p, .lst (((Os.reverse.take i).foldl (stepF Es Ws m) (List.replicate n 0)).map V.int))] ∧ ∃ x y z, σ = [some (.ref ae), some (.int (n : Int)), some (.ref ao), some (.ref aw), some (.int m), some (.ref p), x, y, z]) ⟨rfl, _, _, _, rfl⟩ ?_ ?_ ?_
    · rintro i σ' A' ⟨rfl, _⟩
      walk_at "Lo.kn"
    · rintro i x σ' A' hi hx ⟨rfl, x6, x7, x8, rfl⟩
      rw [hol] at hi hx
      obtain ⟨o, hoi⟩ : ∃ o, Os[Os.length - 1 - i]? = some o := ⟨Os[Os.length - 1 - i]'(by omega), by simp [show Os.length - 1 - i < Os.length by omega]⟩
      obtain ⟨v, hv, hd⟩ := hoo _ o hoi
      rw [hx] at hv
      cases hv
      obtain ⟨q1, rfl, hq1⟩ := dp_pair hd
      obtain ⟨g5, g6, g7⟩ := g4 o (List.mem_of_getElem? hoi)
      have hri : Os.reverse[i]? = some o := by rw [List.getElem?_reverse hi, hoi]
      have htl : ((Os.reverse.take i).foldl (stepF Es Ws m) (List.replicate n 0)).length = n := by rw [foldF_len, List.length_replicate]
      have hst : (Os.reverse.take (i + 1)).foldl (stepF Es Ws m) (List.replicate n 0) = stepF Es Ws m ((Os.reverse.take i).foldl (stepF Es Ws m) (List.replicate n 0)) o := by
        rw [List.take_add_one, hri, List.foldl_append]
        rfl
      generalize (Os.reverse.take i).foldl (stepF Es Ws m) (List.replicate n 0) = tb at htl hst
      obtain ⟨l, hl⟩ : ∃ l, Es[o.1]? = some l := ⟨Es[o.1], by simp [g5]⟩
      have hgd : Es.getD o.1 [] = l := by rw [List.getD, hl]; rfl
      obtain ⟨v2, hv2, hd2⟩ := hee _ l hl
      obtain ⟨q2, rfl, hq2⟩ := dp_tupN hd2
      have a1 : atI ve (o.1 : Int) = some (.ref q2) := atI_nat hv2
      have a2 := at_nat g6
      have a3 := at_nat (tb := tb) (p := o.2) (by omega)
      have gs : 0 < m ∧ ∀ i ∈ l, i < tb.length := ⟨g1, fun j hj => by rw [htl]; exact g3 l (List.mem_of_getElem? hl) j hj⟩
      refine ⟨_, gs_T2 (x := .int (o.1 : Int)) (y := .int (o.2 : Int)) (knt_S hq1), ?_⟩
      refine q_asg (v := .int (Ws.getD o.1 0 - sumAt tb l % m)) (by walk_at "Lo.cv") ?_
      refine s_set (v := .int ((tb.getD o.2 0 + (Ws.getD o.1 0 - sumAt tb l % m)) % m)) (j := o.2) (k := (o.2 : Int)) (by walk_at "Lo.cv") (c_var rfl) (c_var rfl) ?_ Up1.head ?_
      · unfold ixN
        rw [if_pos (by omega), if_pos (by rw [List.length_map]; omega), Int.toNat_natCast]
      · walk_at "Lo.nf"
        refine ⟨?_, _, _, _, rfl⟩
        rw [hst]
        unfold stepF
        rw [hgd, List.map_set]
    · rintro σ' A' ⟨rfl, x6, x7, x8, rfl⟩
      have e : (Os.reverse.take vo.length).foldl (stepF Es Ws m) (List.replicate n 0) = filledM Es n Os Ws m := by
        rw [hol, List.take_of_length_le (by rw [List.length_reverse]; exact Nat.le_refl _)]
        rfl
      rw [e]
      exact s_retO (c_var rfl) (.head _) q

/-! what filling keeps -/
theorem sumAt_set_ne {tb : List Int} {l : List Nat} {p : Nat} {v : Int} (h : p ∉ l) : sumAt (tb.set p v) l = sumAt tb l := by
  unfold sumAt
  congr 1
  apply List.map_congr_left
  intro i hi
  have hne : p ≠ i := fun e => h (e ▸ hi)
  rw [List.getD, List.getD, List.getElem?_set_ne hne]
theorem sumAt_app (tb : List Int) (a b : List Nat) : sumAt tb (a ++ b) = sumAt tb a + sumAt tb b := by
  unfold sumAt
  rw [List.map_append, List.sum_append]
theorem sumAt_set {tb : List Int} {a b : List Nat} {p : Nat} {v : Int} (ha : p ∉ a) (hb : p ∉ b) (hp : p < tb.length) : sumAt (tb.set p v) (a ++ [p] ++ b) = sumAt tb (a ++ [p] ++ b) - tb.getD p 0 + v := by
  rw [sumAt_app, sumAt_app, sumAt_app, sumAt_app, sumAt_set_ne ha, sumAt_set_ne hb]
  have e1 : sumAt (tb.set p v) [p] = v := by
    unfold sumAt
    simp [List.getD, hp]
  have e2 : sumAt tb [p] = tb.getD p 0 := by
    unfold sumAt
    simp
  rw [e1, e2]
  omega
theorem fill_one {tb : List Int} {l : List Nat} {p : Nat} {w m : Int} (hm : 0 < m) (hw : 0 ≤ w ∧ w < m) (hl : ∃ a b, l = a ++ [p] ++ b ∧ p ∉ a ∧ p ∉ b) (hp : p < tb.length) :
    sumAt (tb.set p ((tb.getD p 0 + (w - sumAt tb l % m)) % m)) l % m = w := by
  obtain ⟨a, b, rfl, ha, hb⟩ := hl
  rw [sumAt_set ha hb hp]
  generalize sumAt tb (a ++ [p] ++ b) = s
  generalize tb.getD p 0 = x
  have e1 : (s - x + (x + (w - s % m)) % m) % m = (s - x + (x + (w - s % m))) % m := by
    rw [Int.add_emod, Int.emod_emod_of_dvd _ (Int.dvd_refl m), ← Int.add_emod]
  rw [e1]
  have e2 : s - x + (x + (w - s % m)) = w + (s - s % m) := by omega
  have e3 : s - s % m = m * (s / m) := by
    have := Int.mul_ediv_add_emod s m
    omega
  rw [e2, e3, Int.add_mul_emod_self_left]
  exact Int.emod_eq_of_lt hw.1 hw.2

/-! deep data that is made piece by piece -/
def FpL (N : Addr → Prop) (H : Hp) (vs : List V) (ds : List PyData) : Prop := vs.length = ds.length ∧ ∀ (i : Nat) x d, vs[i]? = some x → ds[i]? = some d → Fp N H x d
section
variable {N : Addr → Prop} {H H' : Hp} {vs : List V} {ds : List PyData} {x : V} {d : PyData}
theorem Fp.same (h : Fp N H x d) (e : Same H H') : Fp N H' x d := h.imp (fun _ n => n) fun a o _ k => e a o k
theorem FpL.same (h : FpL N H vs ds) (e : Same H H') : FpL N H' vs ds := ⟨h.1, fun i x d h1 h2 => (h.2 i x d h1 h2).same e⟩
theorem FpL.nil : FpL N H [] [] := ⟨rfl, fun i x d h => by simp at h⟩
theorem FpL.snoc (h : FpL N H vs ds) (k : Fp N H x d) : FpL N H (vs ++ [x]) (ds ++ [d]) := by
  refine ⟨by simp [h.1], fun i y e h1 h2 => ?_⟩
  by_cases hi : i < vs.length
  · rw [List.getElem?_append_left hi] at h1
    rw [List.getElem?_append_left (by rw [← h.1]; exact hi)] at h2
    exact h.2 i y e h1 h2
  · rw [List.getElem?_append_right (by omega)] at h1
    rw [List.getElem?_append_right (by rw [← h.1]; omega)] at h2
    have e0 : i - vs.length = 0 := by
      by_cases z : i - vs.length = 0
      · exact z
      · rw [List.getElem?_eq_none (by simp only [List.length_cons, List.length_nil]; omega)] at h1
        cases h1
    rw [e0] at h1
    rw [← h.1, e0] at h2
    cases h1
    cases h2
    exact k
theorem FpL.set (h : FpL N H vs ds) (k : Fp N H x d) (j : Nat) : FpL N H (vs.set j x) (ds.set j d) := by
  refine ⟨by simp [h.1], fun i y e h1 h2 => ?_⟩
  rw [List.getElem?_set] at h1 h2
  by_cases hj : j = i
  · rw [if_pos hj] at h1 h2
    split at h1
    · split at h2
      · cases h1
        cases h2
        exact k
      · cases h2
    · cases h1
  · rw [if_neg hj] at h1 h2
    exact h.2 i y e h1 h2
theorem FpL.rep (k : Fp N H x d) (n : Nat) : FpL N H (List.replicate n x) (List.replicate n d) := by
  refine ⟨by simp, fun i y e h1 h2 => ?_⟩
  rw [List.getElem?_replicate] at h1 h2
  by_cases hi : i < n
  · rw [if_pos hi] at h1 h2
    cases h1
    cases h2
    exact k
  · rw [if_neg hi] at h1
    cases h1
theorem FpL.rev (h : FpL N H vs ds) : FpL N H vs.reverse ds.reverse := by
  refine ⟨by simp [h.1], fun i y e h1 h2 => ?_⟩
  have hi : i < vs.length := by
    by_cases z : i < vs.length
    · exact z
    · rw [List.getElem?_eq_none (by rw [List.length_reverse]; omega)] at h1
      cases h1
  rw [List.getElem?_reverse hi] at h1
  rw [List.getElem?_reverse (by rw [← h.1]; exact hi), ← h.1] at h2
  exact h.2 _ y e h1 h2
theorem FpL.lst {a : Addr} (h : FpL N H vs ds) (n : N a) (e : H a = some (.lst vs)) : Fp N H (.ref a) (.list ds) := .lst n e h.1 h.2
theorem FpL.tup {a : Addr} (h : FpL N H vs ds) (n : N a) (e : H a = some (.tup vs)) : Fp N H (.ref a) (.tuple ds) := .tup n e h.1 h.2
theorem fpl_nat (l : List Nat) : FpL N H (natV l) (l.map fun (i : Nat) => .int (i : Int)) := by
  refine ⟨by simp [natV], fun i x d h1 h2 => ?_⟩
  unfold natV at h1
  rw [List.getElem?_map] at h1 h2
  cases e : l[i]? with
  | none => rw [e] at h1; cases h1
  | some k =>
    rw [e] at h1 h2
    cases h1
    cases h2
    exact .int _
theorem fpl_ints (l : List Int) : FpL N H (l.map V.int) (l.map PyData.int) := by
  refine ⟨by simp, fun i x d h1 h2 => ?_⟩
  rw [List.getElem?_map] at h1 h2
  cases e : l[i]? with
  | none => rw [e] at h1; cases h1
  | some k =>
    rw [e] at h1 h2
    cases h1
    cases h2
    exact .int _
end
section
variable {K : PySem.W.Frag} {S0 E0 S H0 : Hp} {L : List (Addr × HO)} {σ : L2.St} {A : Asr} {te tv ti : TE} {ts : TA} {vs xs : List V} {i j : Nat} {D : Ends} {s : TS} {d : PyData} {ds : List PyData} {c : Cm} {p : Addr} {k : Int}
theorem cd_tupN {l : List Nat} (h : Cn c A (.tup (natV l))) : Cd c A (tupN l) := fun H a Q q => h H a Q fun p H' n e hp => q (.ref p) H' e ((fpl_nat l).tup n hp)
theorem cd_ints {l : List Int} (h : Cn c A (.lst (l.map V.int))) : Cd c A (intsD l) := fun H a Q q => h H a Q fun p H' n e hp => q (.ref p) H' e ((fpl_ints l).lst n hp)
/-- what is new, by absorbing -/
theorem absorb_new {H H1 : Hp} {x : V} (a : AtP S0 E0 S L H) (e : Same H H1) (f : Fp (fun b => H b = none) H1 x d) : ∃ S', Same S S' ∧ AtP S0 E0 S' L H1 ∧ Fp (fun b => E0 b = none) S' x d := by
  have a1 := a.ext e
  obtain ⟨a2, sm⟩ := a1.absorb
  refine ⟨_, sm, a2, f.imp (fun b h => a.e0.free h) fun b o hb ho => absorb_at a1 ho (fun hm => ?_) (a.e0.free hb)⟩
  obtain ⟨y, hy, e2⟩ := List.mem_map.mp hm
  have z := (a.ow y hy).1
  rw [e2, hb] at z
  cases z
/-- a new deep item put behind -/
theorem appD_run {M : V → List (Addr × HO)} (hv : Cv (tv σ) (at_ S0 E0 S L) (.ref p)) (h : Cd (te σ) (at_ S0 E0 S L) d) (w : ∀ x, Up1 p (.lst xs) (.lst (xs ++ [x])) L (M x)) (hz : xs.length < sizeLine)
    (n : ∀ x S', Same S S' → Fp (fun b => E0 b = none) S' x d → ∀ H, (at_ S0 E0 S' (M x)).P H → D.nx σ H) : Go (tDrop (tBM K "list" rAppend tv (tCons te tNil))) D σ (at_ S0 E0 S L) := fun H a => hv H a _ fun H1 e1 => by
  have a1 : AtP S0 E0 S L H1 := AtP.ext a e1
  refine ⟨.inl ⟨rfl, xs, SqL.of (a1.ow _ (w .non).mem).1⟩, h H1 a1 _ fun x H2 e2 f => ?_⟩
  obtain ⟨S', sm, a2, f2⟩ := absorb_new a1 e2 f
  exact ⟨p, xs, x, rfl, rfl, (a2.ow _ (w .non).mem).1, hz, n x S' sm f2 _ (a2.put (w x))⟩
/-- a new deep item stored -/
theorem setD_run {M : V → List (Addr × HO)} (h : Cd (te σ) (at_ S0 E0 S L) d) (hv : Cv (tv σ) (at_ S0 E0 S L) (.ref p)) (hi : Cv (ti σ) (at_ S0 E0 S L) (.int k)) (hj : ixN xs.length k = some j) (w : ∀ x, Up1 p (.lst xs) (.lst (xs.set j x)) L (M x))
    (n : ∀ x S', Same S S' → Fp (fun b => E0 b = none) S' x d → ∀ H, (at_ S0 E0 S' (M x)).P H → D.nx σ H) : Go (tAsg te (gSub tv ti rSetA)) D σ (at_ S0 E0 S L) := fun H a => h H a _ fun x H1 e1 f => by
  have a1 : AtP S0 E0 S L H1 := AtP.ext a e1
  refine hv H1 a1 _ fun H2 e2 => hi H2 (a1.ext e2) _ fun H3 e3 => ?_
  obtain ⟨S', sm, a2, f2⟩ := absorb_new a (e1.trans (e2.trans e3)) (f.same (e2.trans e3))
  exact .inl ⟨p, xs, k, j, rfl, rfl, (a2.ow _ (w .non).mem).1, hj, n x S' sm f2 _ (a2.put (w x))⟩
theorem q_setD {M : V → List (Addr × HO)} (h : Cd (te σ) (at_ S0 E0 S L) d) (hv : Cv (tv σ) (at_ S0 E0 S L) (.ref p)) (hi : Cv (ti σ) (at_ S0 E0 S L) (.int k)) (hj : ixN xs.length k = some j) (w : ∀ x, Up1 p (.lst xs) (.lst (xs.set j x)) L (M x))
    (n : ∀ x S', Same S S' → Fp (fun b => E0 b = none) S' x d → Go s D σ (at_ S0 E0 S' (M x))) : Go (tSeq (tAsg te (gSub tv ti rSetA)) s) D σ (at_ S0 E0 S L) := g_seq (setD_run h hv hi hj w n)
theorem q_appD {M : V → List (Addr × HO)} (hv : Cv (tv σ) (at_ S0 E0 S L) (.ref p)) (h : Cd (te σ) (at_ S0 E0 S L) d) (w : ∀ x, Up1 p (.lst xs) (.lst (xs ++ [x])) L (M x)) (hz : xs.length < sizeLine)
    (n : ∀ x S', Same S S' → Fp (fun b => E0 b = none) S' x d → Go s D σ (at_ S0 E0 S' (M x))) : Go (tSeq (tDrop (tBM K "list" rAppend tv (tCons te tNil))) s) D σ (at_ S0 E0 S L) := g_seq (appD_run hv h w hz n)
/-! displays of deep items, seen from the start of the def -/
def CdN (N : Addr → Prop) (c : Cm) (A : Asr) (d : PyData) : Prop := ∀ H, A.P H → ∀ Q : VK, (∀ x H', Same H H' → Fp N H' x d → Q x H') → c H Q
def CaN (N : Addr → Prop) (c : CmA) (A : Asr) (ds : List PyData) : Prop := ∀ H, A.P H → ∀ Q : List V → Hp → Prop, (∀ xs H', Same H H' → FpL N H' xs ds → Q xs H') → c H Q
theorem cdN_of (h : Cd c A d) (x : Ext A H0) : CdN (fun b => H0 b = none) c A d := fun H a Q q => h H a Q fun y H' e f => q y H' e (f.imp (fun b n => (x H a).free n) fun _ _ _ z => z)
theorem cdN_var {N : Addr → Prop} {x : V} (h : σ[i]? = some (some x)) (f : ∀ H, A.P H → Fp N H x d) : CdN N (tVar i σ) A d := fun H a Q q => ⟨x, h, q x H (Same.refl H) (f H a)⟩
theorem caN_nil {N : Addr → Prop} : CaN N (tNil σ) A [] := fun H _ Q q => q [] H (Same.refl H) FpL.nil
theorem caN_cons {N : Addr → Prop} (h : CdN N (te σ) A d) (hr : CaN N (ts σ) A ds) : CaN N (tCons te ts σ) A (d :: ds) := fun H a Q q => h H a _ fun x H1 e1 f => hr H1 (A.st _ _ a e1) _ fun xs H2 e2 g => q (x :: xs) H2 (e1.trans e2) (by
  have f2 := f.same e2
  refine ⟨by simp [g.1], fun i y e h1 h2 => ?_⟩
  cases i with
  | zero =>
    cases h1
    cases h2
    exact f2
  | succ i => exact g.2 i y e (by simpa using h1) (by simpa using h2))
theorem cdN_lst (x : Ext A H0) (h : CaN (fun b => H0 b = none) (ts σ) A ds) (hz : ds.length ≤ sizeLine) : CdN (fun b => H0 b = none) (tLst ts σ) A (.list ds) := fun H a Q q => h H a _ fun xs H1 e1 g =>
  ⟨by rw [g.1]; exact hz, fun p hp => q (.ref p) _ (e1.trans (same_new hp)) ((g.same (same_new hp)).lst (((x H a).trans e1).free hp) upd_same)⟩
theorem cdN_tup (x : Ext A H0) (h : CaN (fun b => H0 b = none) (ts σ) A ds) (hz : ds.length ≤ sizeLine) : CdN (fun b => H0 b = none) (tTup ts σ) A (.tuple ds) := fun H a Q q => h H a _ fun xs H1 e1 g =>
  ⟨by rw [g.1]; exact hz, fun p hp => q (.ref p) _ (e1.trans (same_new hp)) ((g.same (same_new hp)).tup (((x H a).trans e1).free hp) upd_same)⟩
theorem s_retD {H : Hp} (h : CdN (fun b => H b = none) (te σ) A d) (x : Ext A H) (q : RetD d H D.rt) : Go (tRet te) D σ A := fun H1 a => h H1 a _ fun y H2 e2 f => q y H2 ((x H1 a).trans e2) f
end

section
variable {K : PySem.W.Frag} {H H' : Hp}
mutual
theorem dp_same (e : Same H H') : ∀ {x : V} {d : PyData}, Dp K H x d → Dp K H' x d
  | _, _, .non => .non
  | _, _, .bl b => .bl b
  | _, _, .int i => .int i
  | _, _, .str z => .str z
  | _, _, .lst h1 h2 => .lst (e.seq h1) (dpAll_same e h2)
  | _, _, .tup h1 h2 => .tup (sqt_same e h1) (dpAll_same e h2)
theorem dpAll_same (e : Same H H') : ∀ {xs : List V} {ds : List PyData}, DpAll K H xs ds → DpAll K H' xs ds
  | _, _, .nil => .nil
  | _, _, .cons h1 h2 => .cons (dp_same e h1) (dpAll_same e h2)
end
end
theorem knd_S {K : PySem.W.Frag} {S0 E0 S : Hp} {L : List (Addr × HO)} {x : V} {d : PyData} (h : Dp K S x d) : KnD K (at_ S0 E0 S L) x d := fun _ a => dp_same (AtP.sh a) h
theorem shp_tupN {l : List Nat} : Shp 1 (tupN l) := shp_tup fun d hd => by
  obtain ⟨i, _, rfl⟩ := List.mem_map.mp hd
  exact shp_int
section
variable {K : PySem.W.Frag} {S0 E0 S : Hp} {L : List (Addr × HO)} {σ : L2.St} {A : Asr} {t1 t2 t3 te : TE} {ts : TA} {o1 o2 o3 o : HO} {i : Nat} {D : Ends} {s : TS} {vs : List V} {v : V}
/-- a list of three new objects, for good -/
theorem q_lst3 (h1 : Cn (t1 σ) (at_ S0 E0 S L) o1) (h2 : Cn (t2 σ) (at_ S0 E0 S L) o2) (h3 : Cn (t3 σ) (at_ S0 E0 S L) o3)
    (k : ∀ p q1 q2 q3 S', Same S S' → S' q1 = some o1 → S' q2 = some o2 → S' q3 = some o3 → S' p = some (.lst [.ref q1, .ref q2, .ref q3]) → Go s D (σ.set i (some (.ref p))) (at_ S0 E0 S' L)) :
    Go (tSeq (tAsg (tLst (tCons t1 (tCons t2 (tCons t3 tNil)))) (gName i)) s) D σ (at_ S0 E0 S L) := fun H a =>
  h1 H a _ fun q1 H1 n1 e1 k1 => h2 H1 (AtP.ext a e1) _ fun q2 H2 n2 e2 k2 => h3 H2 (AtP.ext (AtP.ext a e1) e2) _ fun q3 H3 n3 e3 k3 => ⟨by have := sizeLine_eq; simp only [List.length_cons, List.length_nil]; omega, fun p hp => by
    have e4 := same_new (o := .lst [.ref q1, .ref q2, .ref q3]) hp
    have eF := ((e1.trans e2).trans e3).trans e4
    have aF : AtP S0 E0 S L _ := AtP.ext a eF
    obtain ⟨a2, sm⟩ := aF.absorb
    have fr : ∀ b, H b = none → b ∉ L.map (·.1) ∧ E0 b = none := fun b hb => by
      refine ⟨fun hm => ?_, (AtP.e0 a).free hb⟩
      obtain ⟨y, hy, e⟩ := List.mem_map.mp hm
      have z := (AtP.ow a y hy).1
      rw [e, hb] at z
      cases z
    have f1 := fr q1 n1
    have f2 := fr q2 (e1.free n2)
    have f3 := fr q3 ((e1.trans e2).free n3)
    have f4 := fr p (((e1.trans e2).trans e3).free hp)
    exact k p q1 q2 q3 _ sm (absorb_at aF (((e2.trans e3).trans e4) _ _ k1) f1.1 f1.2) (absorb_at aF ((e3.trans e4) _ _ k2) f2.1 f2.2) (absorb_at aF (e4 _ _ k3) f3.1 f3.2) (absorb_at aF upd_same f4.1 f4.2) _ a2⟩
/-- a call whose first argument is a new object -/
theorem c_call1N {sp : Sp} {E : XK} (h : Cn (te σ) A o) (ha : ∀ p, Ca (ts σ) (A.kn p o) vs) (hr : ∀ p, Cv (fun H Q => sp (.ref p :: vs) H Q E) (A.kn p o) v) : Cv (tCall sp [] E (tCons te ts) σ) A v := fun H a Q q =>
  h H a _ fun p H1 _ e1 hp => ha p H1 ⟨A.st _ _ a e1, hp⟩ _ fun H2 e2 => by
    show sp ((.ref p :: vs) ++ []) H2 Q E
    rw [List.append_nil]
    exact hr p H2 ⟨A.st _ _ a (e1.trans e2), e2 _ _ hp⟩ Q fun H3 e3 => q H3 ((e1.trans e2).trans e3)
end

theorem cutV_to (xs : List V) (j : Nat) : cutV xs none (some (j : Int)) = xs.take j := by
  unfold cutV
  rw [HT.sIx_none, HT.sIx_nat, List.drop_zero, Nat.sub_zero]
  by_cases hj : j ≤ xs.length
  · rw [Nat.min_eq_left hj]
  · rw [Nat.min_eq_right (by omega), List.take_of_length_le (Nat.le_refl _), List.take_of_length_le (by omega)]
theorem cutV_from (xs : List V) (i : Nat) : cutV xs (some (i : Int)) none = xs.drop i := by
  unfold cutV
  rw [HT.sIx_none, HT.sIx_nat, List.take_of_length_le (by rw [List.length_drop]; omega)]
  by_cases hj : i ≤ xs.length
  · rw [Nat.min_eq_left hj]
  · rw [Nat.min_eq_right (by omega), List.drop_eq_nil_of_le (Nat.le_refl _), List.drop_eq_nil_of_le (by omega)]
def D1 (t : Nat) : Int := if t = 0 then 4 else if t = 1 then 800 else 160000
def D2 (t : Nat) : Int := if t = 0 then 32000000 else if t = 1 then 64000000 else 128000000
theorem D1_at {t : Nat} (h : t < 3) : atI [V.int 4, V.int 800, V.int 160000] (t : Int) = some (.int (D1 t)) := by
  have e : t = 0 ∨ t = 1 ∨ t = 2 := by omega
  rcases e with e | e | e <;> subst e <;> rfl
theorem D2_at {t : Nat} (h : t < 3) : atI [V.int 32000000, V.int 64000000, V.int 128000000] (t : Int) = some (.int (D2 t)) := by
  have e : t = 0 ∨ t = 1 ∨ t = 2 := by omega
  rcases e with e | e | e <;> subst e <;> rfl
theorem D1_in (t : Nat) : 0 < D1 t ∧ D1 t < 1000000000 := by unfold D1; split <;> (try split) <;> omega
theorem D2_in (t : Nat) : 0 < D2 t ∧ D2 t < 1000000000 := by unfold D2; split <;> (try split) <;> omega
def plc (c : Int) (k t : Nat) : Nat := if c / D2 t % 2 = 0 then (2 * (c / D1 t % ((k : Int) + 1)) + 1).toNat else (2 * (c / D1 t % ((k : Int) + 1))).toNat
theorem plc_at (c : Int) (k t : Nat) : atI [V.int (2 * (c / D1 t % ((k : Int) + 1)) + 1), V.int (2 * (c / D1 t % ((k : Int) + 1)))] (c / D2 t % 2) = some (.int (plc c k t : Nat)) := by
  have h : c / D2 t % 2 = 0 ∨ c / D2 t % 2 = 1 := by omega
  have h0 := Int.emod_nonneg (c / D1 t) (show ((k : Int) + 1) ≠ 0 by omega)
  unfold plc
  generalize c / D1 t % ((k : Int) + 1) = r at h0
  rcases h with h | h <;> rw [h]
  · show some (V.int (2 * r + 1)) = some (V.int _)
    rw [if_pos rfl]
    congr 2
    omega
  · show some (V.int (2 * r)) = some (V.int _)
    rw [if_neg (by omega)]
    congr 2
    omega
theorem plc_in (c : Int) (k t : Nat) : plc c k t ≤ 2 * k + 1 ∧ (plc c k t % 2 = 0 → plc c k t ≤ 2 * k) := by
  have h0 := Int.emod_nonneg (c / D1 t) (show ((k : Int) + 1) ≠ 0 by omega)
  have h1 := Int.emod_lt_of_pos (c / D1 t) (show (0 : Int) < (k : Int) + 1 by omega)
  unfold plc
  generalize c / D1 t % ((k : Int) + 1) = r at h0 h1
  split <;> omega
def addP (own : Nat) (acc : List Nat) (p : Nat) : List Nat := if p ≠ own ∧ p ∉ acc then acc ++ [p] else acc
def othersN (c : Int) (k n : Nat) : List Nat := (List.range n).foldl (fun acc t => addP (2 * k) acc (plc c k t)) []
def othersM (c : Int) (k : Nat) : List Nat := othersN c k (c % 4).toNat
theorem othersN_succ (c : Int) (k n : Nat) : othersN c k (n + 1) = addP (2 * k) (othersN c k n) (plc c k n) := by
  unfold othersN
  rw [List.range_succ, List.foldl_append]
  rfl
theorem othersN_in (c : Int) (k : Nat) : ∀ n, (othersN c k n).length ≤ n ∧ ∀ p ∈ othersN c k n, p ≤ 2 * k + 1 ∧ p ≠ 2 * k ∧ (p % 2 = 0 → p ≤ 2 * k)
  | 0 => ⟨Nat.le_refl _, fun p h => by simp [othersN] at h⟩
  | n + 1 => by
    obtain ⟨h1, h2⟩ := othersN_in c k n
    have hp := plc_in c k n
    rw [othersN_succ]
    unfold addP
    split
    · rename_i hc
      refine ⟨by rw [List.length_append]; simp only [List.length_cons, List.length_nil]; omega, fun p h => ?_⟩
      rcases List.mem_append.mp h with h | h
      · exact h2 p h
      · rw [List.mem_singleton.mp h]
        exact ⟨hp.1, hc.1, hp.2⟩
    · exact ⟨by omega, h2⟩
def atM (c : Int) (k : Nat) : Nat := (c / 256000000 % (((othersM c k).length : Int) + 1)).toNat
def edgeM (c : Int) (k : Nat) : List Nat := (othersM c k).take (atM c k) ++ [2 * k] ++ (othersM c k).drop (atM c k)
theorem nat_in (p : Nat) (l : List Nat) : inV (.int (p : Int)) (natV l) = decide (p ∈ l) := by
  unfold inV natV
  rw [List.any_map]
  by_cases h : p ∈ l
  · rw [decide_eq_true h]
    exact List.any_eq_true.mpr ⟨p, h, by show ((p : Int) == (p : Int)) = true; simp⟩
  · rw [decide_eq_false h]
    refine List.any_eq_false.mpr fun x hx => ?_
    show ¬ ((x : Int) == (p : Int)) = true
    intro e
    have e2 : (x : Int) = (p : Int) := by simpa using e
    have : x = p := by omega
    exact h (this ▸ hx)
theorem nat_flat (l : List Nat) : (natV l).all flatV = true := List.all_eq_true.mpr fun x hx => by
  obtain ⟨k, _, rfl⟩ := List.mem_map.mp hx
  rfl
def sp_l_edge : Sp := fun vs H Q E => ∃ (c z : Int) (k : Nat), vs = [.int c, .int (k : Int), .int z] ∧ (k ≤ 1000) ∧ RetN (.tup (natV (edgeM c k))) H Q
theorem u_l_edge {A : Asr} {E : XK} {c z : Int} {k : Nat}  (g0 : k ≤ 1000) : Cn (fun H Q => sp_l_edge [.int c, .int (k : Int), .int z] H Q E) A (.tup (natV (edgeM c k))) := fun H hA Q q => ⟨c, z, k, rfl, g0, q⟩
local macro_rules | `(tactic| walk_at "Lo.call") => `(tactic| ((with_reducible apply u_l_edge); (· walk_at "Lo.side")))
theorem ok_l_edge {P : Program} {w : World} {K : PySem.W.Frag} {mg : Str → Option Value} {base : Heap} (T : Txt K mg) : FnOk P w K mg base (L2.CX P w) 1 T.d_l_edge.f T.d_l_edge.fd ["_law_cell_here", "_law_k", "_law_size"] sp_l_edge := by
  refine T.d_l_edge.F.ok sc_l_edge (fun vs H Q E h => ?_) (fun cdv A outer s H vs Q E hr h => ?_)
  · obtain ⟨c, z, k, rfl, _⟩ := h
    rfl
  · obtain ⟨c, z, k, rfl, g0, q⟩ := h
    have hu := hu_of hr
    refine ⟨_, (pss_cons (ps_set (i := 3) sc_l_edge.nd rfl (Or.inl rfl) (pe_op op_mulA pe_int (pv 1)))
  (pss_cons (ps_set (i := 4) sc_l_edge.nd rfl (Or.inl rfl) (pe_lst pa_nil))
  (pss_cons (ps_for (passes_of rfl) rfl (pi_range1 (by rfl) T.z_range (pa_cons (pe_op op_mod (pv 0) pe_int) pa_nil)) (pg_name (i := 5) sc_l_edge.nd rfl (Or.inl rfl))
  (pss_cons (ps_set (i := 6) sc_l_edge.nd rfl (Or.inl rfl) (pe_op op_mod (pe_op op_fdivW (pv 0) (pe_ix (r := rIxA K) (ix_A hu) (pe_lst (pa_cons pe_int (pa_cons pe_int (pa_cons pe_int pa_nil)))) (pv 5) (fun _ _ => rfl))) (pe_op (r := rAddA K) op_addA (pv 1) pe_int)))
  (pss_cons (ps_set (i := 7) sc_l_edge.nd rfl (Or.inl rfl) (pe_ix (r := rIxA K) (ix_A hu) (pe_lst (pa_cons (pe_op (r := rAddA K) op_addA (pe_op op_mulA pe_int (pv 6)) pe_int) (pa_cons (pe_op op_mulA pe_int (pv 6)) pa_nil))) (pe_op op_mod (pe_op op_fdivW (pv 0) (pe_ix (r := rIxA K) (ix_A hu) (pe_lst (pa_cons pe_int (pa_cons pe_int (pa_cons pe_int pa_nil)))) (pv 5) (fun _ _ => rfl))) pe_int) (fun _ _ => rfl)))
  (pss_one (ps_if (PW.pt (pw_and (pt_cmpR (r := rNeA K) (op_neA hr.units) (pv 7) (pv 3) (nomark _)) (pw_and1 (pt_cmpR (r := rNinA K) (op_notinA hu) (pv 7) (pv 4) (by rfl))))) (pss_one (ps_expr (pe_bm PySem.F.plainAttrs_list PySem.F.slot_list_append PySem.F.type_list_append mt_append (pv 4) (pa_cons (pv 7) pa_nil)))) pss_nil)))))
  (pss_cons (ps_set (i := 8) sc_l_edge.nd rfl (Or.inl rfl) (pe_op op_mod (pe_op op_fdivW (pv 0) pe_int) (pe_op (r := rAddA K) op_addA (pe_callB (r := rLenA K) call_lenA (by rfl) T.z_len (by decide +kernel) (pa_cons (pv 4) pa_nil)) pe_int)))
  (pss_one (ps_ret (pe_callTy (r := rTupA K) call_tupA (by rfl) T.z_tuple (by decide +kernel) (pa_cons (pe_op (r := rAddA K) op_addA (pe_op (r := rAddA K) op_addA (pe_slice (r := rSlA K) sl_A (pv 4) po_none (po_some (pv 8))) (pe_lst (pa_cons (pv 3) pa_nil))) (pe_slice (r := rSlA K) sl_A (pv 4) (po_some (pv 8)) po_none)) pa_nil)))))))),
      body_go (σ' := [some (.int c), some (.int (k : Int)), some (.int z), none, none, none, none, none, none]) rfl ?_⟩
    try dsimp only [cxOf]
    have hsl := sizeLine_eq
    refine q_asg (v := .int ((2 * k : Nat) : Int)) (cv_is (v := .int (2 * (k : Int))) (by walk_at "Lo.cv") rfl) ?_
    refine q_own (o := .lst []) (by walk_at "Lo.cn") fun p => ?_
    refine q_forR (n := c % 4) (by walk_at "Lo.ca") (by omega) (by omega) (fun t σ A' => A' = at_ H H H [(p, .lst (natV (othersN c k t)))] ∧ ∃ x5 x6 x7, σ = [some (.int c), some (.int (k : Int)), some (.int z), some (.int ((2 * k : Nat) : Int)), some (.ref p), x5, x6, x7, none]) ⟨rfl, _, _, _, rfl⟩ ?_ ?_
    · rintro t σ' A' ht ⟨rfl, x5, x6, x7, rfl⟩
      have ht3 : t < 3 := by omega
      have a1 := D1_at ht3
      have a2 := D2_at ht3
      have a3 := plc_at c k t
      have d1 : CDivW c (D1 t) := by have := D1_in t; exact cdiv_of this.1 (by omega)
      have d2 : CDivW c (D2 t) := by have := D2_in t; exact cdiv_of this.1 (by omega)
      have hk1 : (0 : Int) < (k : Int) + 1 := by omega
      have hlen := (othersN_in c k t).1
      have hst := othersN_succ c k t
      walk_at "Lo.q"
      walk_at "Lo.q"
      have hin := nat_in (plc c k t) (othersN c k t)
      have hfl := nat_flat (othersN c k t)
      generalize othersN c k t = acc at hlen hst hin hfl
      generalize plc c k t = pl at hst hin
      refine s_if (b := (!decide ((pl : Int) = ((2 * k : Nat) : Int)) && !inV (.int (pl : Int)) (natV acc))) (t_and (t_test (by walk_at "Lo.cv")) fun _ => t_test (c_op (c_var rfl) (c_var rfl) (e_ninL (by walk_at "Lo.kn") rfl hfl))) ?_ ?_
      · intro hb
        rw [hin] at hb
        have hc : pl ≠ 2 * k ∧ pl ∉ acc := by
          rw [Bool.and_eq_true] at hb
          obtain ⟨b1, b2⟩ := hb
          refine ⟨fun e => ?_, by simpa using b2⟩
          rw [e] at b1
          simp at b1
        refine s_app (v := .int (pl : Int)) (c_var rfl) (c_var rfl) Up1.head (by unfold natV; rw [List.length_map]; omega) ?_
        walk_at "Lo.nf"
        refine ⟨?_, _, _, _, rfl⟩
        rw [hst]
        unfold addP natV
        rw [if_pos hc, List.map_append]
        rfl
      · intro hb
        rw [hin] at hb
        have hc : ¬ (pl ≠ 2 * k ∧ pl ∉ acc) := by
          rintro ⟨c1, c2⟩
          simp [c2] at hb
          exact c1 (by omega)
        refine s_next ?_
        walk_at "Lo.nf"
        refine ⟨?_, _, _, _, rfl⟩
        rw [hst]
        unfold addP
        rw [if_neg hc]
    · rintro σ' A' ⟨rfl, x5, x6, x7, rfl⟩
      have hlen := (othersN_in c k (c % 4).toNat).1
      have hl0 : (natV (othersM c k)).length = (othersM c k).length := by unfold natV; rw [List.length_map]
      have hl1 : (othersM c k).length ≤ 3 := by unfold othersM; omega
      have hp1 : (0 : Int) < ((natV (othersM c k)).length : Int) + 1 := by omega
      have hat : c / 256000000 % (((natV (othersM c k)).length : Int) + 1) = (atM c k : Int) := by
        have h0 := Int.emod_nonneg (c / 256000000) (show (((othersM c k).length : Int) + 1) ≠ 0 by omega)
        unfold atM
        rw [hl0]
        omega
      have he : natV (edgeM c k) = (cutV (natV (othersM c k)) none (some (atM c k : Int)) ++ [V.int ((2 * k : Nat) : Int)]) ++ cutV (natV (othersM c k)) (some (atM c k : Int)) none := by
        rw [cutV_to, cutV_from]
        unfold natV edgeM
        rw [List.map_append, List.map_append, List.map_take, List.map_drop]
        rfl
      change Go _ _ _ (at_ H H H [(p, .lst (natV (othersM c k)))])
      refine q_asg (v := .int (atM c k : Int)) (cv_is (v := .int (c / 256000000 % (((natV (othersM c k)).length : Int) + 1))) (by walk_at "Lo.cv") (by rw [hat])) ?_
      have z1 := cutV_length (natV (othersM c k)) none (some (atM c k : Int))
      have z2 := cutV_length (natV (othersM c k)) (some (atM c k : Int)) none
      rw [he] at q
      have s1 : (cutV (natV (othersM c k)) none (some (atM c k : Int))).length + [V.int ((2 * k : Nat) : Int)].length ≤ sizeLine := by
        simp only [List.length_cons, List.length_nil]
        omega
      have s2 : (cutV (natV (othersM c k)) none (some (atM c k : Int)) ++ [V.int ((2 * k : Nat) : Int)]).length + (cutV (natV (othersM c k)) (some (atM c k : Int)) none).length ≤ sizeLine := by
        rw [List.length_append]
        simp only [List.length_cons, List.length_nil]
        omega
      refine s_retN (u := .tup ((cutV (natV (othersM c k)) none (some (atM c k : Int)) ++ [V.int ((2 * k : Nat) : Int)]) ++ cutV (natV (othersM c k)) (some (atM c k : Int)) none)) ?_ rfl q
      refine n_cbN (o := .lst ((cutV (natV (othersM c k)) none (some (atM c k : Int)) ++ [V.int ((2 * k : Nat) : Int)]) ++ cutV (natV (othersM c k)) (some (atM c k : Int)) none)) ?_ fun r => e_tupL (knl_of kn_kn)
      refine n_opNN (o := .lst (cutV (natV (othersM c k)) none (some (atM c k : Int)) ++ [V.int ((2 * k : Nat) : Int)])) (u := .lst (cutV (natV (othersM c k)) (some (atM c k : Int)) none)) (n_opNN (o := .lst (cutV (natV (othersM c k)) none (some (atM c k : Int)))) (u := .lst [V.int ((2 * k : Nat) : Int)]) ?_ (fun r => ?_) fun r r2 => e_cat (kn_up kn_kn) kn_kn s1) (fun r => ?_) fun r r2 => e_cat (kn_up kn_kn) kn_kn s2
      · walk_at "Lo.cn"
      · walk_at "Lo.cn"
      · walk_at "Lo.cn"

/-! names drawn modulo 61 -/
def nmF (t : Int) (k : Nat) : Int := (t * (k : Int) + t / 61) % 61
theorem inv61 : ∀ t : Nat, t < 61 → t ≠ 0 → ∃ u : Nat, u < 61 ∧ t * u % 61 = 1 := by decide +kernel
theorem inv61I (t : Int) (h : t % 61 ≠ 0) : ∃ u : Int, (t * u) % 61 = 1 := by
  obtain ⟨u, _, hu⟩ := inv61 (t % 61).toNat (by omega) (by omega)
  refine ⟨(u : Int), ?_⟩
  rw [Int.mul_emod]
  have e : ((t % 61).toNat : Int) = t % 61 := by omega
  have z : (((t % 61).toNat : Int) * (u : Int)) % 61 = 1 := by exact_mod_cast hu
  rw [e, Int.mul_emod, Int.emod_emod_of_dvd _ (Int.dvd_refl 61)] at z
  exact z
theorem nmF_in (t : Int) (k : Nat) : 0 ≤ nmF t k ∧ nmF t k < 61 := ⟨Int.emod_nonneg _ (by decide), Int.emod_lt_of_pos _ (by decide)⟩
theorem nmF_onto (t : Int) (h : t % 61 ≠ 0) (j : Nat) (hj : j < 61) : ∃ k : Nat, k < 61 ∧ nmF t k = j := by
  obtain ⟨u, hu⟩ := inv61I t h
  have h0 := Int.emod_nonneg (((j : Int) - t / 61) * u) (show (61 : Int) ≠ 0 by decide)
  have h1 := Int.emod_lt_of_pos (((j : Int) - t / 61) * u) (show (0 : Int) < 61 by decide)
  refine ⟨(((j : Int) - t / 61) * u % 61).toNat, by omega, ?_⟩
  unfold nmF
  have e : (((((j : Int) - t / 61) * u % 61).toNat : Nat) : Int) = ((j : Int) - t / 61) * u % 61 := by omega
  rw [e]
  have e1 : (t * (((j : Int) - t / 61) * u % 61)) % 61 = ((j : Int) - t / 61) % 61 := by
    have : (t * (((j : Int) - t / 61) * u % 61)) % 61 = (t * (((j : Int) - t / 61) * u)) % 61 := by
      rw [Int.mul_emod, Int.emod_emod_of_dvd _ (Int.dvd_refl 61), ← Int.mul_emod]
    rw [this]
    have e2 : t * (((j : Int) - t / 61) * u) = ((j : Int) - t / 61) * (t * u) := by
      rw [← Int.mul_assoc, Int.mul_comm t, Int.mul_assoc]
    rw [e2, Int.mul_emod, hu, Int.mul_one, Int.emod_emod_of_dvd _ (Int.dvd_refl 61)]
  omega
theorem nmF_inj (t : Int) (h : t % 61 ≠ 0) {k l : Nat} (hk : k < 61) (hl : l < 61) (e : nmF t k = nmF t l) : k = l := by
  obtain ⟨u, hu⟩ := inv61I t h
  unfold nmF at e
  have e1 : (t * (k : Int)) % 61 = (t * (l : Int)) % 61 := by omega
  have key : ∀ m : Nat, ((t * (m : Int)) % 61 * u) % 61 = (m : Int) % 61 := fun m => by
    have : ((t * (m : Int)) % 61 * u) % 61 = ((t * (m : Int)) * u) % 61 := by
      rw [Int.mul_emod, Int.emod_emod_of_dvd _ (Int.dvd_refl 61), ← Int.mul_emod]
    rw [this]
    have e2 : t * (m : Int) * u = (m : Int) * (t * u) := by rw [Int.mul_comm t, Int.mul_assoc]
    rw [e2, Int.mul_emod, hu, Int.mul_one, Int.emod_emod_of_dvd _ (Int.dvd_refl 61)]
  have k1 := key k
  have k2 := key l
  rw [e1, k2] at k1
  omega
def nmL (t : Int) : List Int := (List.range 61).map (nmF t)
def nmI (t : Int) (n : Nat) : List Int := if t % 61 = 0 then (List.range n).map (fun (i : Nat) => (i : Int)) else (nmL t).filter fun x => decide (x < (n : Int))
theorem nodup_map {α β : Type} {f : α → β} {l : List α} (h : l.Nodup) (hf : ∀ a ∈ l, ∀ b ∈ l, f a = f b → a = b) : (l.map f).Nodup := by
  induction l with
  | nil => exact List.nodup_nil
  | cons x r ih =>
    rw [List.nodup_cons] at h
    rw [List.map_cons, List.nodup_cons]
    refine ⟨fun hm => ?_, ih h.2 fun a ha b hb => hf a (List.mem_cons_of_mem _ ha) b (List.mem_cons_of_mem _ hb)⟩
    obtain ⟨y, hy, e⟩ := List.mem_map.mp hm
    have := hf y (List.mem_cons_of_mem _ hy) x List.mem_cons_self e
    exact h.1 (this ▸ hy)
theorem nmL_perm (t : Int) (h : t % 61 ≠ 0) : (nmL t).Perm ((List.range 61).map fun (i : Nat) => (i : Int)) := by
  refine (List.perm_ext_iff_of_nodup (nodup_map List.nodup_range fun a ha b hb e => nmF_inj t h (List.mem_range.mp ha) (List.mem_range.mp hb) e) (nodup_map List.nodup_range fun a _ b _ e => by omega)).mpr fun x => ?_
  constructor
  · intro hx
    obtain ⟨k, _, rfl⟩ := List.mem_map.mp hx
    have z := nmF_in t k
    exact List.mem_map.mpr ⟨(nmF t k).toNat, List.mem_range.mpr (by omega), by omega⟩
  · intro hx
    obtain ⟨j, hj, rfl⟩ := List.mem_map.mp hx
    obtain ⟨k, hk, e⟩ := nmF_onto t h j (List.mem_range.mp hj)
    exact List.mem_map.mpr ⟨k, List.mem_range.mpr hk, e⟩
theorem filt61 : ∀ n : Nat, n ≤ 61 → (((List.range 61).map fun (i : Nat) => (i : Int)).filter fun x => decide (x < (n : Int))).length = n := by decide +kernel
theorem nmI_ok (t : Int) (n : Nat) (hn : n ≤ 60) : (nmI t n).length = n ∧ (nmI t n).Nodup ∧ ∀ x ∈ nmI t n, 0 ≤ x ∧ x < (n : Int) := by
  unfold nmI
  split
  · refine ⟨by simp, nodup_map List.nodup_range fun a _ b _ e => by omega, fun x hx => ?_⟩
    obtain ⟨k, hk, rfl⟩ := List.mem_map.mp hx
    have := List.mem_range.mp hk
    omega
  · rename_i h
    have hp := nmL_perm t h
    refine ⟨by rw [(hp.filter _).length_eq]; exact filt61 n (by omega), (hp.nodup_iff.mpr (nodup_map List.nodup_range fun a _ b _ e => by omega)).filter _, fun x hx => ?_⟩
    obtain ⟨h1, h2⟩ := List.mem_filter.mp hx
    obtain ⟨k, _, rfl⟩ := List.mem_map.mp h1
    exact ⟨(nmF_in t k).1, of_decide_eq_true h2⟩
theorem rep_one (n : Nat) (x : V) : (List.replicate n [x]).flatten = List.replicate n x := by
  induction n with
  | zero => rfl
  | succ n ih =>
    rw [List.replicate_succ, List.flatten_cons, ih, List.replicate_succ]
    rfl
section
variable {K : PySem.W.Frag} {S0 E0 S : Hp} {L L' : List (Addr × HO)} {σ : L2.St} {te : TE} {i j : Nat} {D : Ends} {s t : TS} {d : PyData} {n : Int}
theorem go_drop (hs : L'.Sublist L) (g : Go t D σ (at_ S0 E0 S L')) : Go t D σ (at_ S0 E0 S L) := fun H a => g H (AtP.drop a hs)
/-- [x] * n -/
theorem q_rep1 (h : Cd (te σ) (at_ S0 E0 S L) d) (hb : σ[j]? = some (some (.int n))) (h0 : 0 ≤ n) (h1 : n ≤ 1000000)
    (k : ∀ p x S', Same S S' → Fp (fun b => E0 b = none) S' x d → Go s D (σ.set i (some (.ref p))) (at_ S0 E0 S' ((p, .lst (List.replicate n.toNat x)) :: L))) :
    Go (tSeq (tAsg (tOp rMulA (tLst (tCons te tNil)) (tVar j)) (gName i)) s) D σ (at_ S0 E0 S L) := fun H a => h H a _ fun x H1 e1 f => by
  have hsl := sizeLine_eq
  refine ⟨by simp only [List.length_cons, List.length_nil]; omega, fun r hr => ⟨.int n, hb, .inr (.inr ⟨r, n, [x], rfl, rfl, upd_same, by omega, by omega, by simp only [List.length_cons, List.length_nil]; omega, fun p hp => ?_⟩)⟩⟩
  obtain ⟨S', sm, a2, f2⟩ := absorb_new a (e1.trans (same_new hr)) (f.same (same_new hr))
  rw [rep_one]
  exact k p x S' sm f2 _ (a2.own hp (same_new hp) upd_same)
end
def nmN (t : Int) (n : Nat) : List Nat := (nmI t n).map Int.toNat
theorem nmN_ok (t : Int) (n : Nat) (hn : n ≤ 60) : (nmN t n).length = n ∧ (nmN t n).Nodup ∧ (∀ x ∈ nmN t n, x < n) ∧ (nmI t n).map V.int = natV (nmN t n) := by
  obtain ⟨h1, h2, h3⟩ := nmI_ok t n hn
  unfold nmN natV
  refine ⟨by rw [List.length_map]; exact h1, nodup_map h2 fun a ha b hb e => ?_, fun x hx => ?_, ?_⟩
  · have := h3 a ha
    have := h3 b hb
    omega
  · obtain ⟨y, hy, rfl⟩ := List.mem_map.mp hx
    have := h3 y hy
    omega
  · rw [List.map_map]
    apply List.map_congr_left
    intro y hy
    have := h3 y hy
    show V.int y = V.int ((y.toNat : Nat) : Int)
    congr 1
    omega
def edS (cs : List Int) (nm : List Nat) (k : Nat) : List (List Nat) := (List.range k).foldl (fun acc i => acc.set (nm.getD i 0) (edgeM (cs.getD i 0) i)) (List.replicate cs.length [])
def orS (nm : List Nat) (k : Nat) : List (Nat × Nat) := (List.range k).map fun i => (nm.getD i 0, 2 * i)
theorem edS_succ {cs : List Int} {nm : List Nat} {k : Nat} : edS cs nm (k + 1) = (edS cs nm k).set (nm.getD k 0) (edgeM (cs.getD k 0) k) := by
  unfold edS
  rw [List.range_succ, List.foldl_append]
  rfl
theorem orS_succ {nm : List Nat} {k : Nat} : orS nm (k + 1) = orS nm k ++ [(nm.getD k 0, 2 * k)] := by
  unfold orS
  rw [List.range_succ, List.map_append]
  rfl
theorem edS_len {cs : List Int} {nm : List Nat} : ∀ k, (edS cs nm k).length = cs.length
  | 0 => by simp [edS]
  | k + 1 => by rw [edS_succ, List.length_set, edS_len k]
theorem at_natV {l : List Nat} {k : Nat} (h : k < l.length) : atI (natV l) (k : Int) = some (.int (l.getD k 0 : Nat)) := by
  have z := atI_map (fun (i : Nat) => V.int (i : Int)) (atI_getD (xs := l) (i := (k : Int)) (d := 0) (by omega) (by omega))
  rw [Int.toNat_natCast] at z
  exact z
theorem n_lcRev {K : PySem.W.Frag} {A : Asr} {σ : L2.St} {ta : TA} {a : Addr} {xs : List V} {j : Nat} {vs : List Nat} {te : TE} (h : Ca (ta σ) A [.ref a]) (hx : KnL K A a xs) (hm : xs.length < sizeLine) (he : ∀ x, Cv (te ((wipe σ vs).set j (some x))) A x) (hw : ∀ x, wipe ((wipe σ vs).set j (some x)) vs = wipe σ vs) :
    Cn (tLc (iRev K ta) (gName j) tYes te vs σ) A (.lst xs.reverse) := by
  have w : Walk (Itv K a xs.length) xs.reverse.length (fun H => SqL K H a xs) (YAt (xs.reverse.map fun x => x)) := by
    have w0 := walk_rev (K := K) (a := a) (xs := xs)
    rw [List.length_reverse]
    refine w0.mono (fun _ h => h) fun i H x H' hi _ y => ⟨y.1, ?_⟩
    rw [List.map_id', List.getElem?_reverse hi]
    exact y.2
  have z := n_lcA (l := xs.reverse) (f := fun x => x) (vs := vs) (te := te) (j := j) (j_rev h hx) w hx (by rw [List.length_reverse]; exact hm) (fun _ => true) (fun x => x) (fun _ _ => t_yes) (fun x _ _ => he x) hw
  rw [filt_yes, List.map_id'] at z
  exact z

/-! the edges made one after another are filled -/
theorem edge_split (c : Int) (j : Nat) : ∃ a b, edgeM c j = a ++ [2 * j] ++ b ∧ 2 * j ∉ a ∧ 2 * j ∉ b :=
  ⟨_, _, rfl, fun h => ((othersN_in c j _).2 _ (List.mem_of_mem_take h)).2.1 rfl, fun h => ((othersN_in c j _).2 _ (List.mem_of_mem_drop h)).2.1 rfl⟩
theorem edge_in {c : Int} {j p : Nat} (h : p ∈ edgeM c j) : p ≤ 2 * j + 1 ∧ (p % 2 = 0 → p ≤ 2 * j) := by
  unfold edgeM at h
  rcases List.mem_append.mp h with h | h
  · rcases List.mem_append.mp h with h | h
    · have z := (othersN_in c j _).2 _ (List.mem_of_mem_take h)
      exact ⟨z.1, z.2.2⟩
    · rw [List.mem_singleton.mp h]
      omega
  · have z := (othersN_in c j _).2 _ (List.mem_of_mem_drop h)
    exact ⟨z.1, z.2.2⟩
theorem getD_at {nm : List Nat} {j : Nat} (h : j < nm.length) : nm.getD j 0 = nm[j] := by rw [List.getD, List.getElem?_eq_getElem h]; rfl
theorem nm_ne {nm : List Nat} (nd : nm.Nodup) {j k : Nat} (hj : j < k) (hk : k < nm.length) : nm.getD j 0 ≠ nm.getD k 0 := by
  rw [getD_at (by omega), getD_at hk]
  exact List.pairwise_iff_getElem.mp nd j k (by omega) hk hj
theorem edS_at {cs : List Int} {nm : List Nat} (hn : nm.length = cs.length) (nd : nm.Nodup) (hr : ∀ x ∈ nm, x < cs.length) : ∀ k, k ≤ cs.length → ∀ j, j < k → (edS cs nm k)[nm.getD j 0]? = some (edgeM (cs.getD j 0) j)
  | 0, _, j, h => absurd h (Nat.not_lt_zero j)
  | k + 1, hk, j, h => by
    rw [edS_succ]
    by_cases e : j = k
    · subst e
      have z : nm.getD j 0 < cs.length := by rw [getD_at (by omega)]; exact hr _ (List.getElem_mem _)
      rw [List.getElem?_set_self (by rw [edS_len]; exact z)]
    · rw [List.getElem?_set_ne (Ne.symm (nm_ne nd (by omega) (by omega)))]
      exact edS_at hn nd hr k (by omega) j (by omega)
theorem fill_in {E : List (List Nat)} {W : List Int} {m : Int} (hm : 0 < m) : ∀ (O : List (Nat × Nat)) (tb : List Int), (∀ x ∈ tb, 0 ≤ x ∧ x < m) → ∀ x ∈ O.foldl (stepF E W m) tb, 0 ≤ x ∧ x < m
  | [], _, h => h
  | o :: r, tb, h => by
    rw [List.foldl_cons]
    refine fill_in hm r _ fun x hx => ?_
    unfold stepF at hx
    rcases List.mem_or_eq_of_mem_set hx with hx | hx
    · exact h x hx
    · rw [hx]
      exact ⟨Int.emod_nonneg _ (by omega), Int.emod_lt_of_pos _ hm⟩
theorem fill_inv {cs : List Int} {nm : List Nat} {E : List (List Nat)} {W : List Int} {m : Int} {n : Nat} (hm : 0 < m) (hn : nm.length = cs.length) (nd : nm.Nodup)
    (hE : ∀ j, j < cs.length → E.getD (nm.getD j 0) [] = edgeM (cs.getD j 0) j) (hW : ∀ j, 0 ≤ W.getD j 0 ∧ W.getD j 0 < m) (hs : 2 * cs.length ≤ n) :
    ∀ k, k ≤ cs.length → ∀ j, j < k → sumAt ((orS nm k).foldl (stepF E W m) (List.replicate n 0)) (edgeM (cs.getD j 0) j) % m = W.getD (nm.getD j 0) 0
  | 0, _, j, h => absurd h (Nat.not_lt_zero j)
  | k + 1, hk, j, h => by
    rw [orS_succ, List.foldl_append]
    show sumAt (stepF E W m ((orS nm k).foldl (stepF E W m) (List.replicate n 0)) (nm.getD k 0, 2 * k)) _ % m = _
    have hl : ((orS nm k).foldl (stepF E W m) (List.replicate n 0)).length = n := by rw [foldF_len, List.length_replicate]
    have ih := fill_inv hm hn nd hE hW hs k (by omega)
    generalize (orS nm k).foldl (stepF E W m) (List.replicate n 0) = tb at hl ih
    unfold stepF
    by_cases e : j = k
    · subst e
      rw [hE j (by omega)]
      exact fill_one hm (hW _) (edge_split _ _) (by omega)
    · rw [sumAt_set_ne (fun hp => by have := edge_in hp; omega)]
      exact ih j (by omega)

def sp_l_made : Sp := fun vs H Q E => ∃ (a : Addr) (cs : List Int) (t : Int), vs = [.ref a, .int t] ∧ (H a = some (.lst (cs.map V.int))) ∧ (cs.length ≤ 60) ∧ RetD (.list [.list ((edS cs (nmN t cs.length) cs.length).map tupN), .list ((orS (nmN t cs.length) cs.length).reverse.map pairD)]) H Q
theorem u_l_made {A : Asr} {E : XK} {a : Addr} {cs : List Int} {t : Int}  (h0 : Kn A a (.lst (cs.map V.int))) (g0 : cs.length ≤ 60) : Cd (fun H Q => sp_l_made [.ref a, .int t] H Q E) A (.list [.list ((edS cs (nmN t cs.length) cs.length).map tupN), .list ((orS (nmN t cs.length) cs.length).reverse.map pairD)]) := fun H hA Q q => ⟨a, cs, t, rfl, h0 H hA, g0, q⟩
local macro_rules | `(tactic| walk_at "Lo.call") => `(tactic| ((with_reducible apply u_l_made); (· walk_at "Lo.kn"); (· walk_at "Lo.side")))
theorem ok_l_made {P : Program} {w : World} {K : PySem.W.Frag} {mg : Str → Option Value} {base : Heap} (T : Txt K mg) : FnOk P w K mg base (L2.CX P w) 2 T.d_l_made.f T.d_l_made.fd ["_law_cells_here", "_law_turn"] sp_l_made := by
  have G_l_edge := ok_l_edge (P := P) (w := w) (base := base) T
  refine T.d_l_made.F.ok sc_l_made (fun vs H Q E h => ?_) (fun cdv A outer s H vs Q E hr h => ?_)
  · obtain ⟨a, cs, t, rfl, _⟩ := h
    rfl
  · obtain ⟨a, cs, t, rfl, h0, g0, q⟩ := h
    have hu := hu_of hr
    refine ⟨_, (pss_cons (ps_set (i := 2) sc_l_made.nd rfl (Or.inr rfl) (pe_callB (r := rLenA K) call_lenA (by rfl) T.z_len (by decide +kernel) (pa_cons (pv 0) pa_nil)))
  (pss_cons (ps_setLc (i := 4) (own := [("_law_k", 3)]) (g := gName 3) (tt := tYes) rfl sc_l_made.nd rfl rfl (sw_true rfl rfl rfl (by decide +kernel)) (pi_range1 (by rfl) T.z_range (pa_cons pe_int pa_nil)) (blkOk_by (N := ["_law_cells_here", "_law_turn", "_law_many", "_law_k", "_law_names", "_law_edges", "_law_order", "_law_cell_here", "_law_name", "_law_step"]) (sc := defScope s_l_made) (by decide +kernel)) (fun _ _ _ _ _ => pg_name (i := 3) sc_l_made.nd rfl (Or.inl rfl)) (fun _ _ _ _ _ => pts_nil) (fun _ _ _ _ _ => (pe_op op_mod (pe_op (r := rAddA K) op_addA (pe_op op_mulA (pv 1) (pv 3)) (pe_op op_fdivW (pv 1) pe_int)) pe_int)))
  (pss_cons (ps_setLc (i := 4) (own := [("_law_name", 8)]) (g := gName 8) rfl sc_l_made.nd rfl rfl (sw_true rfl rfl rfl (by decide +kernel)) (pi_list (pv 4)) (blkOk_by (N := ["_law_cells_here", "_law_turn", "_law_many", "_law_k", "_law_names", "_law_edges", "_law_order", "_law_cell_here", "_law_name", "_law_step"]) (sc := defScope s_l_made) (by decide +kernel)) (fun _ _ _ _ _ => pg_name (i := 8) sc_l_made.nd rfl (Or.inl rfl)) (fun _ _ _ _ _ => pts_one (pt_cmpR op_lt (pv 8) (pv 2) (nomark _))) (fun _ _ _ _ _ => (pv 8)))
  (pss_cons (ps_if (PW.pt (pw_or (pt_cmpR (r := rEqA K) (op_eqA hr.units) (pe_op op_mod (pv 1) pe_int) pe_int (nomark _)) (pw_or1 (pt_cmpR (r := rEqA K) (op_eqA hr.units) (pv 2) pe_int (nomark _))))) (pss_one (ps_set (i := 4) sc_l_made.nd rfl (Or.inl rfl) (pe_listRg rfl (by rfl) T.z_list (prg_1 (by rfl) T.z_range (pv 2))))) pss_nil)
  (pss_cons (ps_set (i := 5) sc_l_made.nd rfl (Or.inl rfl) (pe_op op_mulA (pe_lst (pa_cons (pe_tup pa_nil) pa_nil)) (pv 2)))
  (pss_cons (ps_set (i := 6) sc_l_made.nd rfl (Or.inl rfl) (pe_lst pa_nil))
  (pss_cons (ps_for (passes_of rfl) rfl (pi_enum (by rfl) T.z_enumerate (pa_cons (pv 0) pa_nil)) (pg_tup rfl (pgs_cons (pg_name (i := 3) sc_l_made.nd rfl (Or.inl rfl)) (pgs_cons (pg_name (i := 7) sc_l_made.nd rfl (Or.inl rfl)) pgs_nil)))
  (pss_cons (ps_asg (pe_call G_l_edge (hr.mono (by decide)) (by rfl) T.g_l_edge T.d_l_edge.kp T.d_l_edge.b .nil passL (pa_cons (pv 7) (pa_cons (pv 3) (pa_cons (pe_op op_mulA pe_int (pv 2)) pa_nil)))) (pg_sub (pv 5) (pe_ix (r := rIxA K) (ix_A hu) (pv 4) (pv 3) (fun _ _ => rfl)) (set_A hu)))
  (pss_one (ps_expr (pe_bm PySem.F.plainAttrs_list PySem.F.slot_list_append PySem.F.type_list_append mt_append (pv 6) (pa_cons (pe_tup (pa_cons (pe_ix (r := rIxA K) (ix_A hu) (pv 4) (pv 3) (fun _ _ => rfl)) (pa_cons (pe_op op_mulA pe_int (pv 3)) pa_nil))) pa_nil))))))
  (pss_one (ps_ret (pe_lst (pa_cons (pv 5) (pa_cons (pe_lc (own := [("_law_step", 9)]) (g := gName 9) (tt := tYes) rfl sc_l_made.nd (pi_reversed (by rfl) T.z_reversed (pa_cons (pv 6) pa_nil)) (blkOk_by (N := ["_law_cells_here", "_law_turn", "_law_many", "_law_k", "_law_names", "_law_edges", "_law_order", "_law_cell_here", "_law_name", "_law_step"]) (sc := defScope s_l_made) (by decide +kernel)) (fun _ _ _ _ _ => pg_name (i := 9) sc_l_made.nd rfl (Or.inl rfl)) (fun _ _ _ _ _ => pts_nil) (fun _ _ _ _ _ => (pv 9))) pa_nil)))))))))))),
      body_go (σ' := [some (.ref a), some (.int t), none, none, none, none, none, none, none, none]) rfl ?_⟩
    try dsimp only [cxOf]
    have hsl := sizeLine_eq
    have hnm := nmN_ok t cs.length g0
    refine q_asg (v := .int (cs.length : Int)) (cv_is (v := .int ((cs.map V.int).length : Int)) (by walk_at "Lo.cv") (by rw [List.length_map])) ?_
    refine q_own (o := .lst ((nmL t).map V.int)) ?_ fun p1 => ?_
    · refine cn_is (o := .lst ((List.range (61 : Int).toNat).map fun (k : Nat) => V.int ((t * (k : Int) + t / 61) % 61))) (n_lcR _ (by walk_at "Lo.ca") (by omega) (by omega) (fun k hk => by walk_at "Lo.cv") (fun _ => rfl)) (by unfold nmL nmF; rw [List.map_map]; rfl)
    refine q_own (o := .lst (((nmL t).filter fun x => decide (x < (cs.length : Int))).map V.int)) ?_ fun p2 => ?_
    · exact n_lcLT (l := nmL t) (f := V.int) (a := p1) (fun x => decide (x < (cs.length : Int))) V.int (by walk_at "Lo.cv") (by walk_at "Lo.kn") (by unfold nmL; rw [List.length_map, List.length_range]; omega) (fun x _ => by walk_at "Lo.ct") (fun x _ _ => by walk_at "Lo.cv") (fun _ => rfl)
    have hor : decide (t % 61 = 0) = true ∨ decide (t % 61 = 0) = false := by
      by_cases h : t % 61 = 0
      · exact .inl (decide_eq_true h)
      · exact .inr (decide_eq_false h)
    have h61 : decide ((cs.length : Int) = 61) = false := decide_eq_false (by omega)
    refine q_if (b := (decide (t % 61 = 0) || decide ((cs.length : Int) = 61))) (by walk_at "Lo.ct") (fun hb => ?_) (fun hb => ?_)
    · rw [h61, Bool.or_false] at hb
      have ht := of_decide_eq_true hb
      have hnat : rgV 0 (cs.length : Int) = natV (nmN t cs.length) := by
        rw [← hnm.2.2.2]
        unfold rgV nmI
        rw [if_pos ht, List.map_map]
        simp
      refine s_own (o := .lst (natV (nmN t cs.length))) ?_ fun pn => ?_
      · intro H1 a1 Q1 q1
        refine ⟨.int (cs.length : Int), rfl, (cs.length : Int), rfl, RgOk.of_le (by omega) (by omega) (by omega) (by omega), fun r hr => ?_⟩
        rw [hnat]
        exact q1 r _ hr (same_new hr) upd_same
      · walk_at "Lo.go"
        refine go_drop (L' := [(pn, .lst (natV (nmN t cs.length)))]) (.cons_cons _ (.cons _ (.cons _ (List.Sublist.refl _)))) ?_
        refine q_rep1 (d := tupN []) (cd_tupN (l := []) (cn_is (o := .tup []) (by walk_at "Lo.cn") rfl)) rfl (by omega) (by omega) fun pe x S' hS hx => ?_
        refine q_own (o := .lst []) (by walk_at "Lo.cn") fun po => ?_
        obtain ⟨hn1, hn2, hn3, _⟩ := hnm
        generalize nmN t cs.length = nm at *
        refine q_forE (a := a) (xs := cs.map V.int) (by walk_at "Lo.ca") (fun k σ A' => ∃ S2 ve vo, Same H S2 ∧ FpL (fun b => H b = none) S2 ve ((edS cs nm k).map tupN) ∧ FpL (fun b => H b = none) S2 vo ((orS nm k).map pairD) ∧ A' = at_ H H S2 [(po, .lst vo), (pe, .lst ve), (pn, .lst (natV nm))] ∧ ∃ x3 x7, σ = [some (.ref a), some (.int t), some (.int (cs.length : Int)), x3, some (.ref pn), some (.ref pe), some (.ref po), x7, none, none]) ?_ ?_ ?_ ?_
        · refine ⟨S', List.replicate cs.length x, [], hS, ?_, FpL.nil, ?_, _, _, rfl⟩
          · have f := FpL.rep hx cs.length
            unfold edS
            rw [List.range_zero, List.foldl_nil, List.map_replicate]
            exact f
          · rw [Int.toNat_natCast]
        · rintro i σ' A' ⟨S2, ve, vo, hS2, _, _, rfl, _⟩
          exact knl_of (kn_S (hS2 _ _ h0))
        · rintro k y σ' A' hy ⟨S2, ve, vo, hS2, f1, f2, rfl, x3, x7, rfl⟩
          rw [List.getElem?_map] at hy
          obtain ⟨c, hc, rfl⟩ := Option.map_eq_some_iff.mp hy
          have hk : k < cs.length := by
            by_cases h : k < cs.length
            · exact h
            · rw [List.getElem?_eq_none (by omega)] at hc
              cases hc
          have hcg : cs.getD k 0 = c := by rw [List.getD, hc]; rfl
          have gk : k ≤ 1000 := by omega
          have ai := at_natV (l := nm) (k := k) (by omega)
          have hnk : nm.getD k 0 < cs.length := by
            have e : nm.getD k 0 = nm[k] := by rw [List.getD, List.getElem?_eq_getElem (by omega)]; rfl
            rw [e]
            exact hn3 _ (List.getElem_mem _)
          have hvl : ve.length = cs.length := by rw [f1.1, List.length_map, edS_len]
          have hol : vo.length = k := by rw [f2.1, List.length_map]; simp [orS]
          refine q_setD (d := tupN (edgeM c k)) (xs := ve) (j := nm.getD k 0) (k := ((nm.getD k 0 : Nat) : Int)) (M := fun z => [(po, .lst vo), (pe, .lst (ve.set (nm.getD k 0) z)), (pn, .lst (natV nm))]) (cd_tupN (by walk_at "Lo.cn")) (c_var rfl) (by walk_at "Lo.cv") ?_ (fun z => Up1.tail Up1.head) fun z S3 hS3 fz => ?_
          · unfold ixN
            rw [if_pos (by omega), if_pos (by omega), Int.toNat_natCast]
          refine appD_run (d := pairD (nm.getD k 0, 2 * k)) (xs := vo) (M := fun u => [(po, .lst (vo ++ [u])), (pe, .lst (ve.set (nm.getD k 0) z)), (pn, .lst (natV nm))]) (c_var rfl) (cd_tupN (l := [nm.getD k 0, 2 * k]) (cn_is (o := .tup [.int (nm.getD k 0 : Nat), .int (2 * (k : Int))]) (by walk_at "Lo.cn") rfl)) (fun u => Up1.head) (by omega) fun u S4 hS4 fu => ?_
          walk_at "Lo.nf"
          refine ⟨S4, ve.set (nm.getD k 0) z, vo ++ [u], (hS2.trans hS3).trans hS4, ?_, ?_, rfl, _, _, rfl⟩
          · rw [edS_succ, List.map_set, hcg]
            exact (f1.same (hS3.trans hS4)).set (fz.same hS4) _
          · rw [orS_succ, List.map_append]
            exact (f2.same (hS3.trans hS4)).snoc fu
        · rintro σ' A' ⟨S2, ve, vo, hS2, f1, f2, rfl, x3, x7, rfl⟩
          rw [List.length_map] at f1 f2
          have hol : vo.length ≤ 60 := by rw [f2.1, List.length_map]; simp [orS]; omega
          refine s_retD (cdN_lst ext_at (caN_cons (cdN_var rfl fun H1 a1 => (f1.same a1.sh).lst ((a1.ow (pe, .lst ve) (.tail _ (.head _))).2.2) (a1.ow (pe, .lst ve) (.tail _ (.head _))).1) (caN_cons ?_ caN_nil)) (by simp only [List.length_cons, List.length_nil]; omega)) ext_at q
          intro H1 a1 Q1 q1
          refine n_lcRev (a := po) (xs := vo) (by walk_at "Lo.ca") (by walk_at "Lo.kn") (by omega) (fun x => by walk_at "Lo.cv") (fun _ => rfl) H1 a1 Q1 fun p H2 n e hp => q1 (.ref p) H2 e ?_
          have fr := (f2.same (a1.sh.trans e)).rev
          rw [← List.map_reverse] at fr
          exact fr.lst (a1.e0.free n) hp
    · rw [h61, Bool.or_false] at hb
      have ht := of_decide_eq_false hb
      refine s_next ?_
      walk_at "Lo.go"
      have e2 : (((nmL t).filter fun x => decide (x < (cs.length : Int))).map V.int) = natV (nmN t cs.length) := by
        rw [← hnm.2.2.2]
        unfold nmI
        rw [if_neg ht]
      rw [e2]
      generalize p2 = pn
      · refine go_drop (L' := [(pn, .lst (natV (nmN t cs.length)))]) (.cons_cons _ (.cons _ (List.Sublist.refl _))) ?_
        refine q_rep1 (d := tupN []) (cd_tupN (l := []) (cn_is (o := .tup []) (by walk_at "Lo.cn") rfl)) rfl (by omega) (by omega) fun pe x S' hS hx => ?_
        refine q_own (o := .lst []) (by walk_at "Lo.cn") fun po => ?_
        obtain ⟨hn1, hn2, hn3, _⟩ := hnm
        generalize nmN t cs.length = nm at *
        refine q_forE (a := a) (xs := cs.map V.int) (by walk_at "Lo.ca") (fun k σ A' => ∃ S2 ve vo, Same H S2 ∧ FpL (fun b => H b = none) S2 ve ((edS cs nm k).map tupN) ∧ FpL (fun b => H b = none) S2 vo ((orS nm k).map pairD) ∧ A' = at_ H H S2 [(po, .lst vo), (pe, .lst ve), (pn, .lst (natV nm))] ∧ ∃ x3 x7, σ = [some (.ref a), some (.int t), some (.int (cs.length : Int)), x3, some (.ref pn), some (.ref pe), some (.ref po), x7, none, none]) ?_ ?_ ?_ ?_
        · refine ⟨S', List.replicate cs.length x, [], hS, ?_, FpL.nil, ?_, _, _, rfl⟩
          · have f := FpL.rep hx cs.length
            unfold edS
            rw [List.range_zero, List.foldl_nil, List.map_replicate]
            exact f
          · rw [Int.toNat_natCast]
        · rintro i σ' A' ⟨S2, ve, vo, hS2, _, _, rfl, _⟩
          exact knl_of (kn_S (hS2 _ _ h0))
        · rintro k y σ' A' hy ⟨S2, ve, vo, hS2, f1, f2, rfl, x3, x7, rfl⟩
          rw [List.getElem?_map] at hy
          obtain ⟨c, hc, rfl⟩ := Option.map_eq_some_iff.mp hy
          have hk : k < cs.length := by
            by_cases h : k < cs.length
            · exact h
            · rw [List.getElem?_eq_none (by omega)] at hc
              cases hc
          have hcg : cs.getD k 0 = c := by rw [List.getD, hc]; rfl
          have gk : k ≤ 1000 := by omega
          have ai := at_natV (l := nm) (k := k) (by omega)
          have hnk : nm.getD k 0 < cs.length := by
            have e : nm.getD k 0 = nm[k] := by rw [List.getD, List.getElem?_eq_getElem (by omega)]; rfl
            rw [e]
            exact hn3 _ (List.getElem_mem _)
          have hvl : ve.length = cs.length := by rw [f1.1, List.length_map, edS_len]
          have hol : vo.length = k := by rw [f2.1, List.length_map]; simp [orS]
          refine q_setD (d := tupN (edgeM c k)) (xs := ve) (j := nm.getD k 0) (k := ((nm.getD k 0 : Nat) : Int)) (M := fun z => [(po, .lst vo), (pe, .lst (ve.set (nm.getD k 0) z)), (pn, .lst (natV nm))]) (cd_tupN (by walk_at "Lo.cn")) (c_var rfl) (by walk_at "Lo.cv") ?_ (fun z => Up1.tail Up1.head) fun z S3 hS3 fz => ?_
          · unfold ixN
            rw [if_pos (by omega), if_pos (by omega), Int.toNat_natCast]
          refine appD_run (d := pairD (nm.getD k 0, 2 * k)) (xs := vo) (M := fun u => [(po, .lst (vo ++ [u])), (pe, .lst (ve.set (nm.getD k 0) z)), (pn, .lst (natV nm))]) (c_var rfl) (cd_tupN (l := [nm.getD k 0, 2 * k]) (cn_is (o := .tup [.int (nm.getD k 0 : Nat), .int (2 * (k : Int))]) (by walk_at "Lo.cn") rfl)) (fun u => Up1.head) (by omega) fun u S4 hS4 fu => ?_
          walk_at "Lo.nf"
          refine ⟨S4, ve.set (nm.getD k 0) z, vo ++ [u], (hS2.trans hS3).trans hS4, ?_, ?_, rfl, _, _, rfl⟩
          · rw [edS_succ, List.map_set, hcg]
            exact (f1.same (hS3.trans hS4)).set (fz.same hS4) _
          · rw [orS_succ, List.map_append]
            exact (f2.same (hS3.trans hS4)).snoc fu
        · rintro σ' A' ⟨S2, ve, vo, hS2, f1, f2, rfl, x3, x7, rfl⟩
          rw [List.length_map] at f1 f2
          have hol : vo.length ≤ 60 := by rw [f2.1, List.length_map]; simp [orS]; omega
          refine s_retD (cdN_lst ext_at (caN_cons (cdN_var rfl fun H1 a1 => (f1.same a1.sh).lst ((a1.ow (pe, .lst ve) (.tail _ (.head _))).2.2) (a1.ow (pe, .lst ve) (.tail _ (.head _))).1) (caN_cons ?_ caN_nil)) (by simp only [List.length_cons, List.length_nil]; omega)) ext_at q
          intro H1 a1 Q1 q1
          refine n_lcRev (a := po) (xs := vo) (by walk_at "Lo.ca") (by walk_at "Lo.kn") (by omega) (fun x => by walk_at "Lo.cv") (fun _ => rfl) H1 a1 Q1 fun p H2 n e hp => q1 (.ref p) H2 e ?_
          have fr := (f2.same (a1.sh.trans e)).rev
          rw [← List.map_reverse] at fr
          exact fr.lst (a1.e0.free n) hp

theorem dp_list2 {K : PySem.W.Frag} {H : Hp} {a : Addr} {ds : List PyData} (h : Dp K H (.ref a) (.list ds)) : ∃ vs, SqL K H a vs ∧ DpAll K H vs ds := by
  cases h with
  | lst h1 h2 => exact ⟨_, h1, h2⟩
theorem e_sum {K : PySem.W.Frag} {A : Asr} {p : Addr} {ns : List Int} (h : KnL K A p (ns.map V.int)) : Cv (rSum K [.ref p]) A (.int ns.sum) := fun H a _ q => ⟨p, ns, rfl, h H a, q H (Same.refl H)⟩
theorem n_lcT {K : PySem.W.Frag} {A : Asr} {σ : L2.St} {tl te : TE} {a : Addr} {α : Type} {l : List α} {f : α → V} {j : Nat} {vs : List Nat} (v : α → V) (h : Cv (tl σ) A (.ref a)) (hx : KnT K A a (l.map f)) (hm : l.length < sizeLine) (he : ∀ x, x ∈ l → Cv (te ((wipe σ vs).set j (some (f x)))) A (v x)) (hw : ∀ x, wipe ((wipe σ vs).set j (some x)) vs = wipe σ vs) :
    Cn (tLc (iTup K tl) (gName j) tYes te vs σ) A (.lst (l.map v)) := by
  have z := n_lcA (vs := vs) (te := te) (j := j) (j_tup h hx) (by have := walk_tup (K := K) (a := a) (xs := l.map f); rw [List.length_map] at this; exact this) hx hm (fun _ => true) v (fun _ _ => t_yes) (fun x hx2 _ => he x hx2) hw
  rw [filt_yes] at z
  exact z
def sp_l_asked (K : PySem.W.Frag) : Sp := fun vs H Q E => ∃ (ae ao aw : Addr) (Es : List (List Nat)) (n : Nat) (Os : List (Nat × Nat)) (Ws : List Int) (m : Int), vs = [.ref ae, .int (n : Int), .ref ao, .ref aw, .int m] ∧ (Dp K H (.ref ae) (.list (Es.map tupN))) ∧ (Dp K H (.ref ao) (.list (Os.map pairD))) ∧ (SqL K H aw (Ws.map V.int)) ∧ ((0 < m ∧ n ≤ 1000000) ∧ (∀ l ∈ Es, ∀ i ∈ l, i < n) ∧ ∀ o ∈ Os, o.1 < Es.length ∧ o.1 < Ws.length ∧ o.2 < n) ∧ (Es.length = Ws.length ∧ Es.length ≤ 1000 ∧ ∀ l ∈ Es, l.length ≤ 1000) ∧ (∀ i l, Es[i]? = some l → sumAt (filledM Es n Os Ws m) l % m = Ws.getD i 0) ∧ RetV (.bl true) H Q
theorem u_l_asked {K : PySem.W.Frag} {A : Asr} {E : XK} {ae ao aw : Addr} {Es : List (List Nat)} {n : Nat} {Os : List (Nat × Nat)} {Ws : List Int} {m : Int}  (h0 : KnD K A (.ref ae) (.list (Es.map tupN))) (h1 : KnD K A (.ref ao) (.list (Os.map pairD))) (h2 : KnL K A aw (Ws.map V.int)) (g0 : (0 < m ∧ n ≤ 1000000) ∧ (∀ l ∈ Es, ∀ i ∈ l, i < n) ∧ ∀ o ∈ Os, o.1 < Es.length ∧ o.1 < Ws.length ∧ o.2 < n) (g1 : Es.length = Ws.length ∧ Es.length ≤ 1000 ∧ ∀ l ∈ Es, l.length ≤ 1000) (g2 : ∀ i l, Es[i]? = some l → sumAt (filledM Es n Os Ws m) l % m = Ws.getD i 0) : Cv (fun H Q => (sp_l_asked K) [.ref ae, .int (n : Int), .ref ao, .ref aw, .int m] H Q E) A (.bl true) := fun H hA Q q => ⟨ae, ao, aw, Es, n, Os, Ws, m, rfl, h0 H hA, h1 H hA, h2 H hA, g0, g1, g2, q⟩
local macro_rules | `(tactic| walk_at "Lo.call") => `(tactic| ((with_reducible apply u_l_asked); (· walk_at "Lo.kn"); (· walk_at "Lo.kn"); (· walk_at "Lo.kn"); (· walk_at "Lo.side"); (· walk_at "Lo.side"); (· walk_at "Lo.side")))
theorem ok_l_asked {P : Program} {w : World} {K : PySem.W.Frag} {mg : Str → Option Value} {base : Heap} (T : Txt K mg) : FnOk P w K mg base (L2.CX P w) 3 T.d_l_asked.f T.d_l_asked.fd ["_law_edges", "_law_size", "_law_order", "_law_wanted", "_law_modulus"] (sp_l_asked K) := by
  have G_filled := ok_filled (P := P) (w := w) (base := base) T
  have G_l_whole := ok_l_whole (P := P) (w := w) (base := base) T
  have G_summed := ok_summed (P := P) (w := w) (base := base) T
  refine T.d_l_asked.F.ok sc_l_asked (fun vs H Q E h => ?_) (fun cdv A outer s H vs Q E hr h => ?_)
  · obtain ⟨ae, ao, aw, Es, n, Os, Ws, m, rfl, _⟩ := h
    rfl
  · obtain ⟨ae, ao, aw, Es, n, Os, Ws, m, rfl, h0, h1, h2, g0, g1, g2, q⟩ := h
    have hu := hu_of hr
    refine ⟨_, (pss_cons (ps_set (i := 5) sc_l_asked.nd rfl (Or.inl rfl) (pe_lst (pa_cons (pe_callTy (r := rCopy K) call_copyA (by rfl) T.z_list (by decide +kernel) (pa_cons (pv 0) pa_nil)) (pa_cons (pe_callTy (r := rCopy K) call_copyA (by rfl) T.z_list (by decide +kernel) (pa_cons (pv 2) pa_nil)) (pa_cons (pe_callTy (r := rCopy K) call_copyA (by rfl) T.z_list (by decide +kernel) (pa_cons (pv 3) pa_nil)) pa_nil)))))
  (pss_cons (ps_set (i := 6) sc_l_asked.nd rfl (Or.inr rfl) (pe_call G_filled (hr.mono (by decide)) (by rfl) T.g_filled T.d_filled.kp T.d_filled.b .nil passL (pa_cons (pe_ix (r := rIxA K) (ix_A hu) (pv 5) pe_int (fun _ _ => rfl)) (pa_cons (pv 1) (pa_cons (pe_ix (r := rIxA K) (ix_A hu) (pv 5) pe_int (fun _ _ => rfl)) (pa_cons (pe_ix (r := rIxA K) (ix_A hu) (pv 5) pe_int (fun _ _ => rfl)) (pa_cons (pv 4) pa_nil)))))))
  (pss_cons (ps_if (PW.pt (pw_or (pt_cmpR (r := rNeA K) (op_neA hr.units) (pv 5) (pe_lst (pa_cons (pv 0) (pa_cons (pv 2) (pa_cons (pv 3) pa_nil)))) (nomark _)) (pw_or (pt_not (pt_val (pe_callB (r := rIsi K) call_isi (by rfl) T.z_isinstance (by decide +kernel) (pa_cons (pv 6) (pa_cons (pe_bltn (v := .ty "list") (by rfl) T.z_list (by decide +kernel) rfl) pa_nil))))) (pw_or1 (pt_cmpR (r := rNeA K) (op_neA hr.units) (pe_callB (r := rLenA K) call_lenA (by rfl) T.z_len (by decide +kernel) (pa_cons (pv 6) pa_nil)) (pv 1) (nomark _)))))) (pss_one (ps_ret pe_bl)) pss_nil)
  (pss_cons (ps_if (pt_cmpR (r := rNeA K) (op_neA hr.units) (pe_lc (own := [("_law_number", 9)]) (g := gName 9) rfl sc_l_asked.nd (pi_list (pv 6)) (blkOk_by (N := ["_law_edges", "_law_size", "_law_order", "_law_wanted", "_law_modulus", "_law_handed", "_law_found", "_law_edge_here", "_law_due", "_law_number", "_law_place"]) (sc := defScope s_l_asked) (by decide +kernel)) (fun _ _ _ _ _ => pg_name (i := 9) sc_l_asked.nd rfl (Or.inl rfl)) (fun _ _ _ _ _ => pts_one (PW.pt (pw_or (pt_not (pt_val (pe_call G_l_whole (hr.mono (by decide)) (by rfl) T.g_l_whole T.d_l_whole.kp T.d_l_whole.b .nil passL (pa_cons (pv 9) pa_nil)))) (pw_or (pt_cmpR op_lt (pv 9) pe_int (nomark _)) (pw_or1 (pt_cmpR op_ge (pv 9) (pv 4) (nomark _))))))) (fun _ _ _ _ _ => (pv 9))) (pe_lst pa_nil) (nomark _)) (pss_one (ps_ret pe_bl)) pss_nil)
  (pss_cons (ps_for (passes_of rfl) rfl (pi_zip (by rfl) T.z_zip (pa_cons (pv 0) (pa_cons (pv 3) pa_nil))) (pg_tup rfl (pgs_cons (pg_name (i := 7) sc_l_asked.nd rfl (Or.inl rfl)) (pgs_cons (pg_name (i := 8) sc_l_asked.nd rfl (Or.inl rfl)) pgs_nil)))
  (pss_one (ps_if (PW.pt (pw_or (pt_cmpR (r := rNeA K) (op_neA hr.units) (pe_op op_mod (pe_callB (r := rSum K) (cr_sum rfl) (by rfl) T.z_sum (by decide +kernel) (pa_cons (pe_lc (own := [("_law_place", 10)]) (g := gName 10) (tt := tYes) rfl sc_l_asked.nd (pi_tup (pv 7)) (blkOk_by (N := ["_law_edges", "_law_size", "_law_order", "_law_wanted", "_law_modulus", "_law_handed", "_law_found", "_law_edge_here", "_law_due", "_law_number", "_law_place"]) (sc := defScope s_l_asked) (by decide +kernel)) (fun _ _ _ _ _ => pg_name (i := 10) sc_l_asked.nd rfl (Or.inl rfl)) (fun _ _ _ _ _ => pts_nil) (fun _ _ _ _ _ => (pe_ix (r := rIxA K) (ix_A hu) (pv 6) (pv 10) (fun _ _ => rfl)))) pa_nil)) (pv 4)) (pv 8) (nomark _)) (pw_or1 (pt_cmpR (r := rNeA K) (op_neA hr.units) (pe_call G_summed (hr.mono (by decide)) (by rfl) T.g_summed T.d_summed.kp T.d_summed.b .nil passL (pa_cons (pe_callTy (r := rCopy K) call_copyA (by rfl) T.z_list (by decide +kernel) (pa_cons (pv 6) pa_nil)) (pa_cons (pv 7) (pa_cons (pv 4) pa_nil)))) (pv 8) (nomark _))))) (pss_one (ps_ret pe_bl)) pss_nil)))
  (pss_cons (ps_expr (pe_bm PySem.F.plainAttrs_list PySem.F.slot_list_append PySem.F.type_list_append mt_append (pv 6) (pa_cons pe_int pa_nil)))
  (pss_one (ps_ret pe_bl)))))))),
      body_go (σ' := [some (.ref ae), some (.int (n : Int)), some (.ref ao), some (.ref aw), some (.int m), none, none, none, none, none, none]) rfl ?_⟩
    try dsimp only [cxOf]
    have hsl := sizeLine_eq
    obtain ⟨ve, he, hde⟩ := dp_list2 h0
    obtain ⟨vo, ho, hdo⟩ := dp_list2 h1
    have hvi := dpAll_inv hde
    refine q_lst3 (o1 := .lst ve) (o2 := .lst vo) (o3 := .lst (Ws.map V.int)) (by walk_at "Lo.cn") (by walk_at "Lo.cn") (by walk_at "Lo.cn") fun p q1 q2 q3 S' hS k1 k2 k3 kp => ?_
    have d1 : Dp K S' (.ref q1) (.list (Es.map tupN)) := .lst (SqL.of k1) (dpAll_same hS hde)
    have d2 : Dp K S' (.ref q2) (.list (Os.map pairD)) := .lst (SqL.of k2) (dpAll_same hS hdo)
    have d3 : Dp K S' (.ref q3) (intsD Ws) := .lst (SqL.of k3) dpAll_ints
    have s3 : SqL K S' q3 (Ws.map V.int) := SqL.of k3
    have b1 := dp_same hS h0
    have b2 := dp_same hS h1
    have b3 : SqL K S' aw (Ws.map V.int) := hS.seq h2
    have i0 : atI [V.ref q1, V.ref q2, V.ref q3] 0 = some (.ref q1) := rfl
    have i1 : atI [V.ref q1, V.ref q2, V.ref q3] 1 = some (.ref q2) := rfl
    have i2 : atI [V.ref q1, V.ref q2, V.ref q3] 2 = some (.ref q3) := rfl
    have kd1 := knd_S (S0 := H) (E0 := H) (L := []) d1
    have kd2 := knd_S (S0 := H) (E0 := H) (L := []) d2
    have hfl : (filledM Es n Os Ws m).length = n := by unfold filledM; rw [foldF_len, List.length_replicate]
    have hfi : ∀ x ∈ filledM Es n Os Ws m, 0 ≤ x ∧ x < m := fill_in g0.1.1 _ _ fun x hx => by
      rw [List.eq_of_mem_replicate hx]
      exact ⟨by omega, g0.1.1⟩
    refine q_own (o := .lst ((filledM Es n Os Ws m).map V.int)) (by walk_at "Lo.cn") fun pf => ?_
    generalize filledM Es n Os Ws m = F at *
    have dH : Dp K S' (.ref p) (.list [.list (Es.map tupN), .list (Os.map pairD), intsD Ws]) := .lst (SqL.of kp) (.cons d1 (.cons d2 (.cons d3 .nil)))
    have hshp : Shp 3 (.list [.list (Es.map tupN), .list (Os.map pairD), intsD Ws]) := shp_list fun d hd => by
      simp only [List.mem_cons, List.not_mem_nil, or_false] at hd
      rcases hd with h | h | h
      · rw [h]
        exact shp_list fun y hy => by
          obtain ⟨l, _, rfl⟩ := List.mem_map.mp hy
          exact shp_tupN
      · rw [h]
        exact shp_list fun y hy => by
          obtain ⟨o, _, rfl⟩ := List.mem_map.mp hy
          exact shp_tupN (l := [o.1, o.2])
      · rw [h]
        exact shp_ints.mono (by decide)
    refine q_when (b := (false || (!true || !decide (((F.map V.int).length : Int) = (n : Int))))) (t_or (t_test (c_opvN (c_var rfl) (by walk_at "Lo.cn") fun r => e_neSame (d := .list [.list (Es.map tupN), .list (Os.map pairD), intsD Ws]) (fun H1 a1 => dp_same a1.1.sh dH) (fun H1 a1 => .lst (SqL.of a1.2) (.cons (dp_same a1.1.sh b1) (.cons (dp_same a1.1.sh b2) (.cons (.lst (a1.1.sh.seq b3) dpAll_ints) .nil)))) hshp (by decide))) fun _ => t_or (t_not (t_test (by walk_at "Lo.cv"))) fun _ => t_test (by walk_at "Lo.cv")) (fun hb => ?_) (fun _ => ?_)
    · rw [List.length_map, hfl] at hb
      simp at hb
    have hz : F.length < sizeLine := by omega
    have hnil : Shp 1 (.list []) := shp_list (k := 0) (ds := []) fun d hd => by cases hd
    refine q_when (b := false) (t_test (c_opNN (o := .lst []) (u := .lst []) (cn_is (o := .lst ((F.filter fun _ => false).map V.int)) (n_lcLT (l := F) (f := V.int) (a := pf) (fun _ => false) V.int (by walk_at "Lo.cv") (by walk_at "Lo.kn") hz (fun x hx => ct_is (a := (!whole (.int x) || (decide (x < 0) || decide (x ≥ m)))) (by walk_at "Lo.ct") ?_) (fun x _ h => by cases h) (fun _ => rfl)) (by simp)) (fun r => by walk_at "Lo.cn") fun r r2 => e_neSame (d := .list []) (fun H1 a1 => .lst (SqL.of a1.1.2) .nil) (fun H1 a1 => .lst (SqL.of a1.2) .nil) hnil (by decide))) (fun hb => by cases hb) (fun _ => ?_)
    · have := hfi x hx
      simp only [whole, Bool.not_true, Bool.false_or]
      rw [decide_eq_false (by omega), decide_eq_false (by omega)]
      rfl
    have he' : SqL K S' ae ve := hS.seq he
    refine g_seq (s_forP (j_zip (a := ae) (b := aw) (xs := ve) (ys := Ws.map V.int) (by walk_at "Lo.ca") (knl_S he') (knl_S b3)) (walk_zip (K := K) (a := ae) (b := aw) (xs := ve) (ys := Ws.map V.int) rfl) (fun i σ A' => A' = at_ H H S' [(pf, .lst (F.map V.int))] ∧ ∃ x7 x8, σ = [some (.ref ae), some (.int (n : Int)), some (.ref ao), some (.ref aw), some (.int m), some (.ref p), some (.ref pf), x7, x8, none, none]) ⟨rfl, _, _, rfl⟩ ?_ ?_ ?_)
    · rintro i σ' A' _ ⟨rfl, _⟩ H1 a1
      exact ⟨(AtP.sh a1).seq he', (AtP.sh a1).seq b3⟩
    · rintro i x y σ' A' hi hx hy ⟨rfl, x7, x8, rfl⟩
      rw [List.getElem?_map] at hy
      obtain ⟨w, hw, rfl⟩ := Option.map_eq_some_iff.mp hy
      obtain ⟨l, hl⟩ : ∃ l, Es[i]? = some l := by
        have : i < Es.length := by
          rw [g1.1]
          by_cases h : i < Ws.length
          · exact h
          · rw [List.getElem?_eq_none (by omega)] at hw
            cases hw
        exact ⟨Es[i], by simp [this]⟩
      obtain ⟨x2, hx2, dx⟩ := hvi.2 i (tupN l) (by rw [List.getElem?_map, hl]; rfl)
      rw [hx] at hx2
      cases hx2
      obtain ⟨qt, rfl, ht⟩ := dp_tupN dx
      have ht2 : SqT K S' qt (natV l) := sqt_same hS ht
      have hml := List.mem_of_getElem? hl
      have hin : ∀ j ∈ l, j < F.length := fun j hj => by rw [hfl]; exact g0.2.1 l hml j hj
      have hll := g1.2.2 l hml
      have gs : 0 < m ∧ ∀ j ∈ l, j < F.length := ⟨g0.1.1, hin⟩
      have hm0 := g0.1.1
      have hsum : sumAt F l % m = w := by
        rw [g2 i l hl, List.getD, hw]
        rfl
      refine s_if (b := (!decide (sumAt F l % m = w) || !decide (sumAt F l % m = w))) (t_or (t_test (c_op (x := .int (sumAt F l % m)) (c_op (x := .int (sumAt F l)) (c_cbN (o := .lst ((l.map fun i => F.getD i 0).map V.int)) (cn_is (o := .lst (l.map fun i => V.int (F.getD i 0))) (n_lcT (l := l) (f := fun (i : Nat) => V.int (i : Int)) (a := qt) (fun i => V.int (F.getD i 0)) (by walk_at "Lo.cv") (knt_S ht2) (by omega) (fun j hj => ?_) (fun _ => rfl)) (by rw [List.map_map]; rfl)) fun r => e_sum (knl_of kn_kn)) (by walk_at "Lo.cv") (by walk_at "Lo.op")) (by walk_at "Lo.cv") (by walk_at "Lo.op"))) fun _ => t_test (c_op (x := .int (sumAt F l % m)) (c_call1N (o := .lst (F.map V.int)) (vs := [.ref qt, .int m]) (by walk_at "Lo.cn") (fun r => by walk_at "Lo.ca") fun r => by walk_at "Lo.call") (by walk_at "Lo.cv") (by walk_at "Lo.op"))) (fun hb => ?_) (fun _ => ?_)
      · have ha := at_nat (hin j hj)
        walk_at "Lo.cv"
      · rw [hsum] at hb
        simp at hb
      · refine s_next ?_
        walk_at "Lo.nf"
        exact ⟨rfl, _, _, rfl⟩
    · rintro σ' A' ⟨rfl, x7, x8, rfl⟩
      walk_at "Lo.go"
      refine q_app (v := .int 0) (c_var rfl) c_c Up1.head (by rw [List.length_map]; exact hz) ?_
      walk_at "Lo.ret"

def modM (c : Int) : Int := if c % 6 = 0 then 1 else if c % 6 = 1 then 2 else if c % 6 = 2 then 3 else if c % 6 = 3 then 1 + c / 8 % 100 else if c % 6 = 4 then 1 + c / 8 % 2 ^ (32 : Int).toNat else 2 + c / 8 % 3
theorem modM_at (c : Int) : atI [V.int 1, V.int 2, V.int 3, V.int (1 + c / 8 % 100), V.int (1 + c / 8 % 2 ^ (32 : Int).toNat), V.int (2 + c / 8 % 3)] (c % 6) = some (.int (modM c)) := by
  have h : c % 6 = 0 ∨ c % 6 = 1 ∨ c % 6 = 2 ∨ c % 6 = 3 ∨ c % 6 = 4 ∨ c % 6 = 5 := by omega
  unfold modM
  rcases h with h | h | h | h | h | h <;> rw [h] <;> rfl
theorem modM_pos (c : Int) : 0 < modM c ∧ modM c < 10000000000 := by
  have h1 : (2 : Int) ^ (32 : Int).toNat = 4294967296 := by decide
  unfold modM
  rw [h1]
  split
  · omega
  · split
    · omega
    · split
      · omega
      · split
        · omega
        · split <;> omega
theorem nmN_onto (t : Int) {n i : Nat} (hn : n ≤ 60) (hi : i < n) : ∃ j, j < n ∧ (nmN t n).getD j 0 = i := by
  have hm : (i : Int) ∈ nmI t n := by
    unfold nmI
    split
    · exact List.mem_map.mpr ⟨i, List.mem_range.mpr hi, rfl⟩
    · rename_i h
      exact List.mem_filter.mpr ⟨(nmL_perm t h).mem_iff.mpr (List.mem_map.mpr ⟨i, List.mem_range.mpr (by omega), rfl⟩), decide_eq_true (by omega)⟩
  have hm2 : i ∈ nmN t n := List.mem_map.mpr ⟨(i : Int), hm, by omega⟩
  obtain ⟨j, hj, e⟩ := List.getElem_of_mem hm2
  exact ⟨j, by rw [← (nmN_ok t n hn).1]; exact hj, by rw [getD_at hj]; exact e⟩
def wvM (cs : List Int) (m : Int) (j : Nat) : Int := cs.getD j 0 / 1024000000 % m
def wkM (cs : List Int) (m : Int) (k : Nat) : List Int := (List.range cs.length).map fun j => if j < k then wvM cs m j else 0
theorem wk_set {cs : List Int} {m : Int} {k : Nat} (hk : k < cs.length) : wkM cs m (k + 1) = (wkM cs m k).set k (wvM cs m k) := by
  unfold wkM
  apply List.ext_getElem
  · simp
  · intro i h1 h2
    rw [List.getElem_set]
    simp only [List.getElem_map, List.getElem_range]
    by_cases e : k = i
    · subst e
      simp
    · rw [if_neg e]
      by_cases h : i < k
      · rw [if_pos h, if_pos (by omega)]
      · rw [if_neg h, if_neg (by omega)]
theorem wk_0 {cs : List Int} {m : Int} : wkM cs m 0 = List.replicate cs.length 0 := by
  unfold wkM
  apply List.ext_getElem
  · simp
  · intro i h1 h2
    simp
theorem wk_getD {cs : List Int} {m : Int} (hm : 0 < m) (i : Nat) : 0 ≤ (wkM cs m cs.length).getD i 0 ∧ (wkM cs m cs.length).getD i 0 < m := by
  by_cases h : i < cs.length
  · have e : (wkM cs m cs.length).getD i 0 = wvM cs m i := by
      unfold wkM
      rw [List.getD, List.getElem?_map, List.getElem?_range h]
      show (if i < cs.length then wvM cs m i else 0) = _
      rw [if_pos h]
    rw [e]
    exact ⟨Int.emod_nonneg _ (by omega), Int.emod_lt_of_pos _ hm⟩
  · rw [List.getD, List.getElem?_eq_none (by unfold wkM; rw [List.length_map, List.length_range]; omega)]
    exact ⟨by show (0 : Int) ≤ 0; omega, hm⟩

theorem wkM_len {cs : List Int} {m : Int} {k : Nat} : (wkM cs m k).length = cs.length := by
  unfold wkM
  rw [List.length_map, List.length_range]
theorem edgeM_small (c : Int) (k : Nat) : (edgeM c k).length ≤ 1000 := by
  have h := (othersN_in c k (c % 4).toNat).1
  have h2 : (othersM c k).length ≤ 3 := by
    show (othersN c k (c % 4).toNat).length ≤ 3
    omega
  unfold edgeM
  simp only [List.length_append, List.length_take, List.length_drop, List.length_cons, List.length_nil]
  omega
theorem k33_all {cs : List Int} {t : Int} (h60 : cs.length ≤ 60) {l : List Nat} {i : Nat} (hl : (edS cs (nmN t cs.length) cs.length)[i]? = some l) : ∃ j, j < cs.length ∧ (nmN t cs.length).getD j 0 = i ∧ l = edgeM (cs.getD j 0) j := by
  have hnm := nmN_ok t cs.length h60
  have hi : i < cs.length := by
    have := (List.getElem?_eq_some_iff.mp hl).1
    rw [edS_len] at this
    exact this
  obtain ⟨j, hj, e⟩ := nmN_onto t h60 hi
  have z := edS_at (cs := cs) hnm.1 hnm.2.1 hnm.2.2.1 cs.length (Nat.le_refl _) j hj
  rw [e, hl] at z
  exact ⟨j, hj, e, by injection z⟩
theorem k33_pre {cs : List Int} {t m : Int} {n : Nat} (h60 : cs.length ≤ 60) (hm : 0 < m) (hn : 2 * cs.length ≤ n) :
    (∀ l ∈ edS cs (nmN t cs.length) cs.length, ∀ i ∈ l, i < n) ∧
    (∀ o ∈ (orS (nmN t cs.length) cs.length).reverse, o.1 < (edS cs (nmN t cs.length) cs.length).length ∧ o.1 < (wkM cs m cs.length).length ∧ o.2 < n) ∧
    (∀ l ∈ edS cs (nmN t cs.length) cs.length, l.length ≤ 1000) ∧
    ∀ i l, (edS cs (nmN t cs.length) cs.length)[i]? = some l → sumAt (filledM (edS cs (nmN t cs.length) cs.length) n (orS (nmN t cs.length) cs.length).reverse (wkM cs m cs.length) m) l % m = (wkM cs m cs.length).getD i 0 := by
  have hnm := nmN_ok t cs.length h60
  refine ⟨fun l hl i hi => ?_, fun o ho => ?_, fun l hl => ?_, fun i l hl => ?_⟩
  · obtain ⟨x, hx⟩ := List.getElem?_of_mem hl
    obtain ⟨j, hj, _, rfl⟩ := k33_all h60 hx
    have := (edge_in hi).1
    omega
  · obtain ⟨i, hi, rfl⟩ := List.mem_map.mp (List.mem_reverse.mp ho)
    have hi := List.mem_range.mp hi
    rw [edS_len, wkM_len]
    have h1 : (nmN t cs.length).getD i 0 < cs.length := by
      rw [getD_at (by omega)]
      exact hnm.2.2.1 _ (List.getElem_mem _)
    exact ⟨h1, h1, by show 2 * i < n; omega⟩
  · obtain ⟨x, hx⟩ := List.getElem?_of_mem hl
    obtain ⟨j, hj, _, rfl⟩ := k33_all h60 hx
    exact edgeM_small _ _
  · obtain ⟨j, hj, rfl, rfl⟩ := k33_all h60 hl
    unfold filledM
    rw [List.reverse_reverse]
    refine fill_inv hm hnm.1 hnm.2.1 (fun j hj => ?_) (wk_getD hm) hn cs.length (Nat.le_refl _) j hj
    have z := edS_at (cs := cs) hnm.1 hnm.2.1 hnm.2.2.1 cs.length (Nat.le_refl _) j hj
    rw [List.getD, z]
    rfl
/-- a call of which the first, third and fourth arguments are new lists -/
theorem n_call134 {sp : Sp} {E : XK} {σ : L2.St} {A : Asr} {t1 t2 t3 t4 t5 : TE} {o1 o3 o4 u : HO} {x2 x5 : V} (h1 : Cn (t1 σ) A o1) (h2 : ∀ A', Cv (t2 σ) A' x2) (h3 : ∀ A', Cn (t3 σ) A' o3) (h4 : ∀ A', Cn (t4 σ) A' o4) (h5 : ∀ A', Cv (t5 σ) A' x5)
    (hr : ∀ A' p q r, Kn A' p o1 → Kn A' q o3 → Kn A' r o4 → Cn (fun H Q => sp [.ref p, x2, .ref q, .ref r, x5] H Q E) A' u) : Cn (tCall sp [] E (tCons t1 (tCons t2 (tCons t3 (tCons t4 (tCons t5 tNil))))) σ) A u := fun H a Q qq =>
  h1 H a _ fun p H1 n1 e1 k1 => h2 (A.kn p o1) H1 ⟨A.st _ _ a e1, k1⟩ _ fun H2 e2 => h3 ((A.kn p o1)) H2 ((A.kn p o1).st _ _ ⟨A.st _ _ a e1, k1⟩ e2) _ fun q H3 n3 e3 k3 =>
    h4 ((A.kn p o1).kn q o3) H3 ⟨(A.kn p o1).st _ _ ⟨A.st _ _ a e1, k1⟩ (e2.trans e3), k3⟩ _ fun r H4 n4 e4 k4 =>
      h5 (((A.kn p o1).kn q o3).kn r o4) H4 ⟨((A.kn p o1).kn q o3).st _ _ ⟨(A.kn p o1).st _ _ ⟨A.st _ _ a e1, k1⟩ (e2.trans e3), k3⟩ e4, k4⟩ _ fun H5 e5 =>
        hr (((A.kn p o1).kn q o3).kn r o4) p q r (fun H h => h.1.1.2) (fun H h => h.1.2) (fun H h => h.2) H5 ((((A.kn p o1).kn q o3).kn r o4).st _ _ ⟨((A.kn p o1).kn q o3).st _ _ ⟨(A.kn p o1).st _ _ ⟨A.st _ _ a e1, k1⟩ (e2.trans e3), k3⟩ e4, k4⟩ e5) Q
          fun s H6 n6 e6 k6 => qq s H6 (e1.free (e2.free (e3.free (e4.free (e5.free n6))))) (((((e1.trans e2).trans e3).trans e4).trans e5).trans e6) k6
def sp_law (K : PySem.W.Frag) : Sp := fun vs H Q E => ∃ (a : Addr) (ns : List Int), vs = [.ref a] ∧ (SqL K H a (ns.map V.int)) ∧ (ns.length ≤ 63) ∧ RetV (.bl true) H Q
theorem u_law {K : PySem.W.Frag} {A : Asr} {E : XK} {a : Addr} {ns : List Int}  (h0 : KnL K A a (ns.map V.int)) (g0 : ns.length ≤ 63) : Cv (fun H Q => (sp_law K) [.ref a] H Q E) A (.bl true) := fun H hA Q q => ⟨a, ns, rfl, h0 H hA, g0, q⟩
local macro_rules | `(tactic| walk_at "Lo.call") => `(tactic| ((with_reducible apply u_law); (· walk_at "Lo.kn"); (· walk_at "Lo.side")))
theorem ok_law {P : Program} {w : World} {K : PySem.W.Frag} {mg : Str → Option Value} {base : Heap} (T : Txt K mg) : FnOk P w K mg base (L2.CX P w) 4 T.d_law.f T.d_law.fd ["_law_script"] (sp_law K) := by
  have G_l_cells := ok_l_cells (P := P) (w := w) (base := base) T
  have G_l_raw := ok_l_raw (P := P) (w := w) (base := base) T
  have G_l_made := ok_l_made (P := P) (w := w) (base := base) T
  have G_l_cell := ok_l_cell (P := P) (w := w) (base := base) T
  have G_l_asked := ok_l_asked (P := P) (w := w) (base := base) T
  have G_filled := ok_filled (P := P) (w := w) (base := base) T
  refine T.d_law.F.ok sc_law (fun vs H Q E h => ?_) (fun cdv A outer s H vs Q E hr h => ?_)
  · obtain ⟨a, ns, rfl, _⟩ := h
    rfl
  · obtain ⟨a, ns, rfl, h0, g0, q⟩ := h
    have hu := hu_of hr
    refine ⟨_, (pss_cons (ps_set (i := 1) sc_law.nd rfl (Or.inl rfl) (pe_call G_l_cells (hr.mono (by decide)) (by rfl) T.g_l_cells T.d_l_cells.kp T.d_l_cells.b .nil passL (pa_cons (pv 0) (pa_cons pe_int (pa_cons pe_int pa_nil)))))
  (pss_cons (ps_set (i := 2) sc_law.nd rfl (Or.inl rfl) (pe_call G_l_raw (hr.mono (by decide)) (by rfl) T.g_l_raw T.d_l_raw.kp T.d_l_raw.b .nil passL (pa_cons (pv 0) (pa_cons pe_int pa_nil))))
  (pss_cons (ps_set (i := 3) sc_law.nd rfl (Or.inl rfl) (pe_ix (r := rIxA K) (ix_A hu) (pe_lst (pa_cons pe_int (pa_cons pe_int (pa_cons pe_int (pa_cons (pe_op (r := rAddA K) op_addA pe_int (pe_op op_mod (pe_op op_fdivW (pv 2) pe_int) pe_int)) (pa_cons (pe_op (r := rAddA K) op_addA pe_int (pe_op op_mod (pe_op op_fdivW (pv 2) pe_int) (pe_op op_pow pe_int pe_int))) (pa_cons (pe_op (r := rAddA K) op_addA pe_int (pe_op op_mod (pe_op op_fdivW (pv 2) pe_int) pe_int)) pa_nil))))))) (pe_op op_mod (pv 2) pe_int) (fun _ _ => rfl)))
  (pss_cons (ps_asg (pe_call G_l_made (hr.mono (by decide)) (by rfl) T.g_l_made T.d_l_made.kp T.d_l_made.b .nil passL (pa_cons (pv 1) (pa_cons (pe_call G_l_cell (hr.mono (by decide)) (by rfl) T.g_l_cell T.d_l_cell.kp T.d_l_cell.b .nil passL (pa_cons (pv 0) (pa_cons pe_int pa_nil))) pa_nil))) (pg_lst rfl (pgs_cons (pg_name (i := 4) sc_law.nd rfl (Or.inl rfl)) (pgs_cons (pg_name (i := 5) sc_law.nd rfl (Or.inl rfl)) pgs_nil))))
  (pss_cons (ps_set (i := 6) sc_law.nd rfl (Or.inl rfl) (pe_op op_mulA (pe_lst (pa_cons pe_int pa_nil)) (pe_callB (r := rLenA K) call_lenA (by rfl) T.z_len (by decide +kernel) (pa_cons (pv 1) pa_nil))))
  (pss_cons (ps_for (passes_of rfl) rfl (pi_enum (by rfl) T.z_enumerate (pa_cons (pv 1) pa_nil)) (pg_tup rfl (pgs_cons (pg_name (i := 7) sc_law.nd rfl (Or.inl rfl)) (pgs_cons (pg_name (i := 8) sc_law.nd rfl (Or.inl rfl)) pgs_nil)))
  (pss_one (ps_asg (pe_op op_mod (pe_op op_fdivW (pv 8) pe_int) (pv 3)) (pg_sub (pv 6) (pv 7) (set_A hu)))))
  (pss_cons (ps_set (i := 9) sc_law.nd rfl (Or.inl rfl) (pe_op (r := rAddA K) op_addA (pe_op (r := rAddA K) op_addA (pe_op op_mulA pe_int (pe_callB (r := rLenA K) call_lenA (by rfl) T.z_len (by decide +kernel) (pa_cons (pv 1) pa_nil))) pe_int) (pe_op op_mod (pe_call G_l_cell (hr.mono (by decide)) (by rfl) T.g_l_cell T.d_l_cell.kp T.d_l_cell.b .nil passL (pa_cons (pv 0) (pa_cons pe_int pa_nil))) pe_int)))
  (pss_cons (ps_for (passes_of rfl) rfl (pi_range1 (by rfl) T.z_range (pa_cons pe_int pa_nil)) (pg_name (i := 10) sc_law.nd rfl (Or.inl rfl))
  (pss_one (ps_if (pt_not (pt_val (pe_call G_l_asked (hr.mono (by decide)) (by rfl) T.g_l_asked T.d_l_asked.kp T.d_l_asked.b .nil passL (pa_cons (pv 4) (pa_cons (pv 9) (pa_cons (pv 5) (pa_cons (pv 6) (pa_cons (pv 3) pa_nil)))))))) (pss_one (ps_ret pe_bl)) pss_nil)))
  (pss_one (ps_ret (pe_cmpR (r := rEqA K) (op_eqA hr.units) (pe_call G_filled (hr.mono (by decide)) (by rfl) T.g_filled T.d_filled.kp T.d_filled.b .nil passL (pa_cons (pe_lst pa_nil) (pa_cons pe_int (pa_cons (pe_lst pa_nil) (pa_cons (pe_lst pa_nil) (pa_cons (pv 3) pa_nil)))))) (pe_lst pa_nil) (nomark _)))))))))))),
      body_go (σ' := [some (.ref a), none, none, none, none, none, none, none, none, none, none]) rfl ?_⟩
    try dsimp only [cxOf]
    have hsl := sizeLine_eq
    have hcl := cells_len ns 2 60
    have g1 : (0 : Int) ≤ 2 ∧ (2 : Int) ≤ 1000 ∧ (1 : Int) ≤ 60 ∧ (60 : Int) ≤ 1000 ∧ ns.length ≤ 63 := ⟨by omega, by omega, by omega, by omega, g0⟩
    refine q_own (o := .lst ((cells ns 2 60).map V.int)) (by walk_at "Lo.cn") fun pc => ?_
    generalize cells ns 2 60 = cs at hcl
    have h60 : cs.length ≤ 60 := by omega
    walk_at "Lo.q"
    have hmat := modM_at (raw ns 1)
    have hp : CPow 2 32 := by unfold CPow; decide
    have hp2 : (0 : Int) < 2 ^ (32 : Int).toNat := by decide
    refine q_asg (v := .int (modM (raw ns 1))) (by walk_at "Lo.cv") ?_
    obtain ⟨hm0, hm1⟩ := modM_pos (raw ns 1)
    generalize modM (raw ns 1) = m at *
    refine q_asgD (K := K) (d := .list [.list ((edS cs (nmN (cell ns 1) cs.length) cs.length).map tupN), .list ((orS (nmN (cell ns 1) cs.length) cs.length).reverse.map pairD)]) (d_call (by walk_at "Lo.ca") (by walk_at "Lo.call")) fun x S' hS dx => ?_
    have hns := hS.seq h0
    have hc5 : 0 ≤ cell ns 0 % 5 ∧ cell ns 0 % 5 < 5 := by omega
    have hpre := k33_pre (cs := cs) (t := cell ns 1) (m := m) (n := 2 * cs.length + 1 + (cell ns 0 % 5).toNat) h60 hm0 (by omega)
    have hel : (edS cs (nmN (cell ns 1) cs.length) cs.length).length = cs.length := edS_len _
    generalize edS cs (nmN (cell ns 1) cs.length) cs.length = Es at *
    generalize (orS (nmN (cell ns 1) cs.length) cs.length).reverse = Os at *
    cases dx with
    | lst hl hd =>
      cases hd with
      | cons d1 hr =>
        cases hr with
        | cons d2 hr2 =>
          cases hr2
          obtain ⟨ae, ve, rfl, _⟩ := dp_list d1
          obtain ⟨ao, vo, rfl, _⟩ := dp_list d2
          refine ⟨_, gs_L2 (x := .ref ae) (y := .ref ao) (knl_S hl), ?_⟩
          refine q_own (o := .lst ((wkM cs m 0).map V.int)) (cn_is (o := .lst (List.replicate (((cs.map V.int).length : Int)).toNat [V.int 0]).flatten) (n_opNv (o := .lst [V.int 0]) (y := .int ((cs.map V.int).length : Int)) (by walk_at "Lo.cn") (fun r => by walk_at "Lo.cv") fun r => e_rep kn_kn (by rw [List.length_map]; omega) (by rw [List.length_map]; omega) (by rw [List.length_map]; simp only [List.length_cons, List.length_nil]; omega)) ?_) fun pw => ?_
          · rw [rep_one, wk_0, List.map_replicate, List.length_map, Int.toNat_natCast]
          refine q_forE (a := pc) (xs := cs.map V.int) (by walk_at "Lo.ca") (fun k σ A' => A' = at_ H H S' [(pw, .lst ((wkM cs m k).map V.int)), (pc, .lst (cs.map V.int))] ∧ ∃ x7 x8, σ = [some (.ref a), some (.ref pc), some (.int (raw ns 1)), some (.int m), some (.ref ae), some (.ref ao), some (.ref pw), x7, x8, none, none]) ⟨rfl, _, _, rfl⟩ ?_ ?_ ?_
          · rintro i σ' A' ⟨rfl, _⟩
            walk_at "Lo.kn"
          · rintro k y σ' A' hy ⟨rfl, x7, x8, rfl⟩
            rw [List.getElem?_map] at hy
            obtain ⟨c, hc, rfl⟩ := Option.map_eq_some_iff.mp hy
            have hk : k < cs.length := by
              by_cases h : k < cs.length
              · exact h
              · rw [List.getElem?_eq_none (by omega)] at hc
                cases hc
            have hcg : cs.getD k 0 = c := by rw [List.getD, hc]; rfl
            refine s_set (v := .int (wvM cs m k)) (xs := (wkM cs m k).map V.int) (j := k) (k := ((k : Nat) : Int)) (cv_is (v := .int (c / 1024000000 % m)) (by walk_at "Lo.cv") (by unfold wvM; rw [hcg])) (c_var rfl) (by walk_at "Lo.cv") ?_ Up1.head ?_
            · rw [List.length_map, wkM_len]
              unfold ixN
              rw [if_pos (by omega), if_pos (by omega), Int.toNat_natCast]
            · walk_at "Lo.nf"
              refine ⟨?_, _, _, rfl⟩
              rw [wk_set hk, List.map_set]
          · rintro σ' A' ⟨rfl, x7, x8, rfl⟩
            rw [List.length_map]
            refine q_asg (v := .int ((2 * cs.length + 1 + (cell ns 0 % 5).toNat : Nat) : Int)) (cv_is (v := .int (2 * ((cs.map V.int).length : Int) + 1 + cell ns 0 % 5)) (by walk_at "Lo.cv") (by rw [List.length_map]; congr 1; omega)) ?_
            have hn6 : 2 * cs.length + 1 + (cell ns 0 % 5).toNat ≤ 1000000 := by omega
            generalize 2 * cs.length + 1 + (cell ns 0 % 5).toNat = n at *
            obtain ⟨p1, p2, p3, p4⟩ := hpre
            have hwl : (wkM cs m cs.length).length = cs.length := wkM_len
            generalize wkM cs m cs.length = Ws at *
            have kdE : KnD K (at_ H H S' [(pw, .lst (Ws.map V.int)), (pc, .lst (cs.map V.int))]) (.ref ae) (.list (Es.map tupN)) := knd_S d1
            have kdO : KnD K (at_ H H S' [(pw, .lst (Ws.map V.int)), (pc, .lst (cs.map V.int))]) (.ref ao) (.list (Os.map pairD)) := knd_S d2
            have q0 : (0 < m ∧ n ≤ 1000000) ∧ (∀ l ∈ Es, ∀ i ∈ l, i < n) ∧ ∀ o ∈ Os, o.1 < Es.length ∧ o.1 < Ws.length ∧ o.2 < n := ⟨⟨hm0, hn6⟩, p1, p2⟩
            have q1 : Es.length = Ws.length ∧ Es.length ≤ 1000 ∧ ∀ l ∈ Es, l.length ≤ 1000 := ⟨by omega, by omega, p3⟩
            refine q_forR (n := 2) (by walk_at "Lo.ca") (by omega) (by omega) (fun j σ A' => A' = at_ H H S' [(pw, .lst (Ws.map V.int)), (pc, .lst (cs.map V.int))] ∧ ∃ x10, σ = [some (.ref a), some (.ref pc), some (.int (raw ns 1)), some (.int m), some (.ref ae), some (.ref ao), some (.ref pw), x7, x8, some (.int (n : Int)), x10]) ⟨rfl, _, rfl⟩ ?_ ?_
            · rintro j σ' A' hj ⟨rfl, x10, rfl⟩
              refine s_if (b := !true) (by walk_at "Lo.ct") (fun hb => by cases hb) fun _ => ?_
              refine s_next ?_
              walk_at "Lo.nf"
              exact ⟨rfl, _, rfl⟩
            · rintro σ' A' ⟨rfl, x10, rfl⟩
              walk_at "Lo.go"
              have hnil : Shp 1 (.list []) := shp_list (k := 0) (ds := []) fun d hd => by cases hd
              refine s_retV (v := .bl true) (w := .bl true) (c_opNN (o := .lst []) (u := .lst []) (n_call134 (o1 := .lst []) (o3 := .lst []) (o4 := .lst []) (x2 := .int 0) (x5 := .int m) (by walk_at "Lo.cn") (fun A' => c_c) (fun A' => by walk_at "Lo.cn") (fun A' => by walk_at "Lo.cn") (fun A' => c_var rfl) fun A' p q r kp kq kr => ?_) (fun p => by walk_at "Lo.cn") fun p q => e_eqSame (d := .list []) (fun H1 a1 => .lst (SqL.of a1.1.2) .nil) (fun H1 a1 => .lst (SqL.of a1.2) .nil) hnil (by decide)) rfl q
              exact u_filled (Es := []) (n := 0) (Os := []) (Ws := []) (m := m) (fun H1 a1 => .lst (SqL.of (kp H1 a1)) .nil) (fun H1 a1 => .lst (SqL.of (kq H1 a1)) .nil) (knl_of kr) ⟨⟨hm0, by omega⟩, ⟨(fun l hl => by cases hl), (fun o ho => by cases ho)⟩⟩
def dd_summed : He.DefD := ⟨("summed", none), "summed", "summed", defArgs s_summed, defBody s_summed, defScope s_summed, [], []⟩
def dd_filled : He.DefD := ⟨("filled", none), "filled", "filled", defArgs s_filled, defBody s_filled, defScope s_filled, [], []⟩
def dd_l_mix : He.DefD := ⟨("_law_mix", none), "_law_mix", "_law_mix", defArgs s_l_mix, defBody s_l_mix, defScope s_l_mix, [], []⟩
def dd_l_raw : He.DefD := ⟨("_law_raw", none), "_law_raw", "_law_raw", defArgs s_l_raw, defBody s_l_raw, defScope s_l_raw, [], []⟩
def dd_l_cell : He.DefD := ⟨("_law_cell", none), "_law_cell", "_law_cell", defArgs s_l_cell, defBody s_l_cell, defScope s_l_cell, [], []⟩
def dd_l_great : He.DefD := ⟨("_law_great", none), "_law_great", "_law_great", defArgs s_l_great, defBody s_l_great, defScope s_l_great, [], []⟩
def dd_l_cells : He.DefD := ⟨("_law_cells", none), "_law_cells", "_law_cells", defArgs s_l_cells, defBody s_l_cells, defScope s_l_cells, [], []⟩
def dd_l_whole : He.DefD := ⟨("_law_whole", none), "_law_whole", "_law_whole", defArgs s_l_whole, defBody s_l_whole, defScope s_l_whole, [], []⟩
def dd_l_edge : He.DefD := ⟨("_law_edge", none), "_law_edge", "_law_edge", defArgs s_l_edge, defBody s_l_edge, defScope s_l_edge, [], []⟩
def dd_l_made : He.DefD := ⟨("_law_made", none), "_law_made", "_law_made", defArgs s_l_made, defBody s_l_made, defScope s_l_made, [], []⟩
def dd_l_asked : He.DefD := ⟨("_law_asked", none), "_law_asked", "_law_asked", defArgs s_l_asked, defBody s_l_asked, defScope s_l_asked, [], []⟩
def dd_law : He.DefD := ⟨("law", none), "law", "law", defArgs s_law, defBody s_law, defScope s_law, [], []⟩
def fn0 : List He.DefD := [dd_summed, dd_filled, dd_l_mix, dd_l_raw, dd_l_cell, dd_l_great, dd_l_cells, dd_l_whole, dd_l_edge, dd_l_made, dd_l_asked, dd_law]
def fn : List He.DefD := fn0
def fa0 : List He.Fa := [.glo "summed", .glo "filled", .glo "_law_mix", .glo "_law_raw", .glo "_law_cell", .glo "_law_great", .glo "_law_cells", .glo "_law_whole", .glo "_law_edge", .glo "_law_made", .glo "_law_asked", .glo "law", .free "bool", .free "enumerate", .free "int", .free "isinstance", .free "len", .free "list", .free "max", .free "min", .free "range", .free "reversed", .free "sum", .free "tuple", .free "zip"]
def fa : List He.Fa := fa0
def ls0 : List PySem.Str := ["summed", "filled", "_law_mix", "_law_raw", "_law_cell", "_law_great", "_law_cells", "_law_whole", "_law_edge", "_law_made", "_law_asked"]
def ls : List PySem.Str := ls0
abbrev R : PySem.W.OpenRow := PySem.W.OpenLaw.row PySem.Challenge.rw_lodge_k33_filled
abbrev hk : PySem.W.Hook := He.hookD 4 fa fn
def ob (s : PySem.W.SharedT) : He.AlD := He.obsDG 4 fa fn (HandSHeadRun.getT s)
theorem ob_eq (s : PySem.W.SharedT) : ob s = hk.obs s.abs := He.obsDG_eq (HandSHeadRun.getT_eq s)
theorem run (w : World) : HandSHeadRun.RunEq R (PySem.W.view R.prog [13]) hk ob 760 ls w := by
  intro os
  kernel_rfl
theorem txt {K : PySem.W.Frag} {h : Heap} {mg : Str → Option Value} (X : K.In h) (G : h.Ns mainGlobals mg) (c : He.SaysD fa fn K) : Nonempty (Txt K mg) := by
  obtain ⟨fd_summed, F_summed⟩ := c.def_ 0 (d := dd_summed) rfl
  obtain ⟨fd_filled, F_filled⟩ := c.def_ 1 (d := dd_filled) rfl
  obtain ⟨fd_l_mix, F_l_mix⟩ := c.def_ 2 (d := dd_l_mix) rfl
  obtain ⟨fd_l_raw, F_l_raw⟩ := c.def_ 3 (d := dd_l_raw) rfl
  obtain ⟨fd_l_cell, F_l_cell⟩ := c.def_ 4 (d := dd_l_cell) rfl
  obtain ⟨fd_l_great, F_l_great⟩ := c.def_ 5 (d := dd_l_great) rfl
  obtain ⟨fd_l_cells, F_l_cells⟩ := c.def_ 6 (d := dd_l_cells) rfl
  obtain ⟨fd_l_whole, F_l_whole⟩ := c.def_ 7 (d := dd_l_whole) rfl
  obtain ⟨fd_l_edge, F_l_edge⟩ := c.def_ 8 (d := dd_l_edge) rfl
  obtain ⟨fd_l_made, F_l_made⟩ := c.def_ 9 (d := dd_l_made) rfl
  obtain ⟨fd_l_asked, F_l_asked⟩ := c.def_ 10 (d := dd_l_asked) rfl
  obtain ⟨fd_law, F_law⟩ := c.def_ 11 (d := dd_law) rfl
  exact ⟨{
    d_summed := ⟨_, fd_summed, F_summed, FunD.bindsN F_summed (fun _ _ _ _ _ _ us hl => match us, hl with | [_, _, _], _ => rfl)⟩,
    g_summed := He.glo_ok X G (c.fact 0 (f := .glo "summed") rfl),
    d_filled := ⟨_, fd_filled, F_filled, FunD.bindsN F_filled (fun _ _ _ _ _ _ us hl => match us, hl with | [_, _, _, _, _], _ => rfl)⟩,
    g_filled := He.glo_ok X G (c.fact 1 (f := .glo "filled") rfl),
    d_l_mix := ⟨_, fd_l_mix, F_l_mix, FunD.bindsN F_l_mix (fun _ _ _ _ _ _ us hl => match us, hl with | [_, _], _ => rfl)⟩,
    g_l_mix := He.glo_ok X G (c.fact 2 (f := .glo "_law_mix") rfl),
    d_l_raw := ⟨_, fd_l_raw, F_l_raw, FunD.bindsN F_l_raw (fun _ _ _ _ _ _ us hl => match us, hl with | [_, _], _ => rfl)⟩,
    g_l_raw := He.glo_ok X G (c.fact 3 (f := .glo "_law_raw") rfl),
    d_l_cell := ⟨_, fd_l_cell, F_l_cell, FunD.bindsN F_l_cell (fun _ _ _ _ _ _ us hl => match us, hl with | [_, _], _ => rfl)⟩,
    g_l_cell := He.glo_ok X G (c.fact 4 (f := .glo "_law_cell") rfl),
    d_l_great := ⟨_, fd_l_great, F_l_great, FunD.bindsN F_l_great (fun _ _ _ _ _ _ us hl => match us, hl with | [_], _ => rfl)⟩,
    g_l_great := He.glo_ok X G (c.fact 5 (f := .glo "_law_great") rfl),
    d_l_cells := ⟨_, fd_l_cells, F_l_cells, FunD.bindsN F_l_cells (fun _ _ _ _ _ _ us hl => match us, hl with | [_, _, _], _ => rfl)⟩,
    g_l_cells := He.glo_ok X G (c.fact 6 (f := .glo "_law_cells") rfl),
    d_l_whole := ⟨_, fd_l_whole, F_l_whole, FunD.bindsN F_l_whole (fun _ _ _ _ _ _ us hl => match us, hl with | [_], _ => rfl)⟩,
    g_l_whole := He.glo_ok X G (c.fact 7 (f := .glo "_law_whole") rfl),
    d_l_edge := ⟨_, fd_l_edge, F_l_edge, FunD.bindsN F_l_edge (fun _ _ _ _ _ _ us hl => match us, hl with | [_, _, _], _ => rfl)⟩,
    g_l_edge := He.glo_ok X G (c.fact 8 (f := .glo "_law_edge") rfl),
    d_l_made := ⟨_, fd_l_made, F_l_made, FunD.bindsN F_l_made (fun _ _ _ _ _ _ us hl => match us, hl with | [_, _], _ => rfl)⟩,
    g_l_made := He.glo_ok X G (c.fact 9 (f := .glo "_law_made") rfl),
    d_l_asked := ⟨_, fd_l_asked, F_l_asked, FunD.bindsN F_l_asked (fun _ _ _ _ _ _ us hl => match us, hl with | [_, _, _, _, _], _ => rfl)⟩,
    g_l_asked := He.glo_ok X G (c.fact 10 (f := .glo "_law_asked") rfl),
    d_law := ⟨_, fd_law, F_law, FunD.bindsN F_law (fun _ _ _ _ _ _ us hl => match us, hl with | [_], _ => rfl)⟩,
    g_law := He.glo_ok X G (c.fact 11 (f := .glo "law") rfl),
    z_bool := He.free_ok X G (c.fact 12 (f := .free "bool") rfl),
    z_enumerate := He.free_ok X G (c.fact 13 (f := .free "enumerate") rfl),
    z_int := He.free_ok X G (c.fact 14 (f := .free "int") rfl),
    z_isinstance := He.free_ok X G (c.fact 15 (f := .free "isinstance") rfl),
    z_len := He.free_ok X G (c.fact 16 (f := .free "len") rfl),
    z_list := He.free_ok X G (c.fact 17 (f := .free "list") rfl),
    z_max := He.free_ok X G (c.fact 18 (f := .free "max") rfl),
    z_min := He.free_ok X G (c.fact 19 (f := .free "min") rfl),
    z_range := He.free_ok X G (c.fact 20 (f := .free "range") rfl),
    z_reversed := He.free_ok X G (c.fact 21 (f := .free "reversed") rfl),
    z_sum := He.free_ok X G (c.fact 22 (f := .free "sum") rfl),
    z_tuple := He.free_ok X G (c.fact 23 (f := .free "tuple") rfl),
    z_zip := He.free_ok X G (c.fact 24 (f := .free "zip") rfl)}⟩
theorem walk_end {l : PySem.W.OpenLaw} {n k : Nat} {q : Program} {loose : List Str} {XP : (Str → Option Value) → Heap → Prop} {YP : World → Heap → Prop} {d : DefRec} {CX : World → CXT} {x : Str}
    (hn : l.most = some n) (hs : n ≤ sizeLine) (hd : d.params.defaults = []) (hr : Room k callerA)
    (F : ∀ (w : World) (mg : Str → Option Value) (fa : Addr) (h : Heap), YP w h → h.Ns mainGlobals mg → mg d.name = some (.ref fa) → ∃ (K : PySem.W.Frag) (fd : FuncData) (sp : Sp), K.In h ∧
      (∀ (s : Shared) (u : Value), BindsTo s fd ⟨[u], []⟩ [(x, u)]) ∧ (∀ (H : Hp) (a : Addr) (ns : List Int), ns.length ≤ n → SqL K H a (ns.map V.int) → sp [.ref a] H (fun v _ => v = .bl true) fun _ _ _ => False) ∧
      ∀ base : Heap, K.In base → base.Ns mainGlobals mg → FnOk l.prog w K mg base (CX w) k fa fd [x] sp)
    (hx : ∀ (w : World) (H : Hp) (s : Shared) (e : Value) (t : Shared), CX w [] H s (fun _ _ _ => False) e t → False) : PySem.W.WalkO q loose XP YP l.row.toRowW d [] (fun f vs => PySem.call f vs) :=
  Att.attach_call hn hd fun w _ st mg _ fa _ _ _ _ a _ ns G Y _ _ _ hm ho hi hl hg => by
    obtain ⟨K, fd, sp, X, hb, hp, ok⟩ := F w mg fa _ Y G.T.g hm
    exact law_call X G.T.g G.T.b G.T.builtins G.T.nolimit hg ho hi (Nat.le_trans hl hs) hr ok hb (fun H _ h => hp H a ns hl h) fun H e t => hx w H st e t
end Lo
open PySem PySem.W PySem.Calls PyProof.Rows
theorem PySem.Challenge.cw_lodge_k33_filled_holds : PySem.Challenge.rw_lodge_k33_filled.Holds := by
  w_on; o_law
  refine HandSHeadRun.head_any (r := OpenLaw.row PySem.Challenge.rw_lodge_k33_filled) (q := view (OpenLaw.row PySem.Challenge.rw_lodge_k33_filled).prog [13]) (H := Lo.hk) (ob := Lo.ob) (M := 760) (loose := Lo.ls) (d := HandSHeadRun.topDef (OpenLaw.row PySem.Challenge.rw_lodge_k33_filled).prog 13) (kwd := []) Lo.ob_eq
    (by kernel_rfl) (fun s => by kernel_rfl) Lo.run (by kernel_rfl) (by kernel_rfl) (by kernel_rfl) (by rfl) (by first | assumption | decide +kernel) (by decide +kernel) ⟨rfl, rfl, rfl, rfl, rfl, by decide +kernel⟩ ?hw ?hc
  case hw => w_witness2
  case hc =>
    refine Lo.walk_end (l := PySem.Challenge.rw_lodge_k33_filled) (n := 63) (k := 4) (x := "_law_script") (CX := L2.CX PySem.Challenge.rw_lodge_k33_filled.prog) rfl (by decide) (by kernel_rfl) ⟨rfl, by decide, by decide⟩ ?F (fun w H s e t z => by
      obtain ⟨_, _, _, _, _, _, _, _, _, _, _, _, z⟩ := z
      exact z)
    intro w mg fa h Y G hmg0
    obtain ⟨K, KX, c⟩ := Y
    have hmg : mg ("law" : PySem.Str) = some (.ref fa) := by
      have e : (HandSHeadRun.topDef (OpenLaw.row PySem.Challenge.rw_lodge_k33_filled).prog 13).name = ("law" : PySem.Str) := by kernel_rfl
      rw [← e]
      exact hmg0
    obtain ⟨T⟩ := Lo.txt KX G c
    have e := hmg.symm.trans T.g_law
    cases e
    have b := L2.FunD.bindsA (ps := ["_law_script"]) T.d_law.F fun _ _ _ _ _ _ us hl => match us, hl with | [_], _ => rfl
    exact ⟨K, T.d_law.fd, Lo.sp_law K, KX, fun s v => b s [v] rfl, fun H a ns hl hS => ⟨a, ns, rfl, hS, hl, fun _ _ => rfl⟩, fun base _ _ => Lo.ok_law T⟩
