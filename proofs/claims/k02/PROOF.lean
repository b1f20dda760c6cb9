import PyProof.Rows.All
import Wide.All
import OpenK.AllK
import Wide.FinOn
import HandS.Base
import HandS.Call
import HandS.List
import HandS.Comp
import HandS.Ends
import HandS.Dict
import HandS.Iter
import HandS.Text
import HandS.Words
import HandS.WordsList
import HandS.WordsDict
import HandS.Wide
import HandS.WideBits
import HandS.IsInst
import HandS.Defaults
import HandS.WordsExc
import HandS.Conv
import HandS.Walk
import HandS.Codes
import HandS.TryOnly
import HandS.Replace
import KE.KStateDown
import HandS.Head0
import HandS.Head1
import HandS.Head2
import HandS.HeadEnd
import HandS.HeadHook1
import HandS.HeadHook2
import PySem.Challenge.RW_lodge_k02_mixed
set_option Elab.async false
set_option linter.all false
set_option maxRecDepth 100000
set_option maxHeartbeats 4000000
namespace Lo
open PySem L2
/-! ### assertions about the heap that stand when it grows -/
structure Asr where
  P : Hp → Prop
  st : ∀ H H', P H → Same H H' → P H'
theorem same_new {H : Hp} {p : Addr} {o : HO} (h : H p = none) : Same H (upd H p o) := fun b x e => by
  rw [upd_ne (ne_of_none e h)]
  exact e
/-- the assertion A, and: o stands at p -/
def Asr.kn (A : Asr) (p : Addr) (o : HO) : Asr := ⟨fun H => A.P H ∧ H p = some o, fun H H' h e => ⟨A.st H H' h.1 e, e p o h.2⟩⟩
/-- A tells that o stands at p | that a list, a tuple of xs is to be read at p -/
def Kn (A : Asr) (p : Addr) (o : HO) : Prop := ∀ H, A.P H → H p = some o
def KnL (K : PySem.W.Frag) (A : Asr) (p : Addr) (xs : List V) : Prop := ∀ H, A.P H → SqL K H p xs
def KnT (K : PySem.W.Frag) (A : Asr) (p : Addr) (xs : List V) : Prop := ∀ H, A.P H → SqT K H p xs
theorem kn_kn {A : Asr} {p : Addr} {o : HO} : Kn (A.kn p o) p o := fun _ h => h.2
theorem kn_up {A : Asr} {p q : Addr} {o u : HO} (h : Kn A p o) : Kn (A.kn q u) p o := fun H k => h H k.1
theorem knl_of {K : PySem.W.Frag} {A : Asr} {p : Addr} {xs : List V} (h : Kn A p (.lst xs)) : KnL K A p xs := fun H k => SqL.of (h H k)
theorem knt_of {K : PySem.W.Frag} {A : Asr} {p : Addr} {xs : List V} (h : Kn A p (.tup xs)) : KnT K A p xs := fun H k => SqT.of (h H k)
theorem knl_up {K : PySem.W.Frag} {A : Asr} {p q : Addr} {u : HO} {xs : List V} (h : KnL K A p xs) : KnL K (A.kn q u) p xs := fun H k => h H k.1
theorem knt_up {K : PySem.W.Frag} {A : Asr} {p q : Addr} {u : HO} {xs : List V} (h : KnT K A p xs) : KnT K (A.kn q u) p xs := fun H k => h H k.1

/-! ### the heap by a stable part S and a ledger L of objects of one's own -/
structure AtP (S0 E0 S : Hp) (L : List (Addr × HO)) (H : Hp) : Prop where
  s0 : Same S0 S
  e0 : Same E0 H
  sh : Same S H
  nw : ∀ a, S0 a = none → E0 a ≠ none → S a = none
  ow : ∀ q ∈ L, H q.1 = some q.2 ∧ S q.1 = none ∧ E0 q.1 = none
  nd : (L.map (·.1)).Nodup
theorem AtP.ext {S0 E0 S H H' : Hp} {L : List (Addr × HO)} (h : AtP S0 E0 S L H) (e : Same H H') : AtP S0 E0 S L H' :=
  ⟨h.s0, h.e0.trans e, h.sh.trans e, h.nw, fun q hq => ⟨e _ _ (h.ow q hq).1, (h.ow q hq).2⟩, h.nd⟩
def at_ (S0 E0 S : Hp) (L : List (Addr × HO)) : Asr := ⟨AtP S0 E0 S L, fun _ _ h e => h.ext e⟩
theorem at_start {S H : Hp} (h : Same S H) : AtP S H S [] H := ⟨Same.refl S, Same.refl H, h, fun _ h _ => h, fun _ hq => absurd hq (List.not_mem_nil), List.nodup_nil⟩
section
variable {S0 E0 S S' H H' : Hp} {L L' : List (Addr × HO)} {p : Addr} {o u : HO} {K : PySem.W.Frag} {xs : List V}
theorem kn_S (h : S p = some o) : Kn (at_ S0 E0 S L) p o := fun _ k => k.sh _ _ h
theorem kn_L (h : (p, o) ∈ L) : Kn (at_ S0 E0 S L) p o := fun _ k => (k.ow _ h).1
theorem knl_S (h : SqL K S p xs) : KnL K (at_ S0 E0 S L) p xs := fun _ k => k.sh.seq h
theorem sqt_same {H H' : Hp} (e : Same H H') (h : SqT K H p xs) : SqT K H' p xs := by
  rcases h with (h | ⟨o, h⟩) | h
  · exact .inl (.inl (e _ _ h))
  · exact .inl (.inr ⟨o, e _ _ h⟩)
  · exact .inr h
theorem knt_S (h : SqT K S p xs) : KnT K (at_ S0 E0 S L) p xs := fun _ k => sqt_same k.sh h
/-- a new object of one's own -/
theorem AtP.own (h : AtP S0 E0 S L H) (hp : H p = none) (e : Same H H') (ho : H' p = some o) : AtP S0 E0 S ((p, o) :: L) H' := by
  have h' := h.ext e
  have hS : S p = none := h.sh.free hp
  have hE : E0 p = none := h.e0.free hp
  refine ⟨h'.s0, h'.e0, h'.sh, h'.nw, fun q hq => ?_, ?_⟩
  · rcases List.mem_cons.mp hq with rfl | hq
    · exact ⟨ho, hS, hE⟩
    · exact h'.ow q hq
  · rw [List.map_cons, List.nodup_cons]
    refine ⟨fun hm => ?_, h.nd⟩
    obtain ⟨q, hq, e1⟩ := List.mem_map.mp hm
    have z := (h.ow q hq).1
    rw [e1, hp] at z
    cases z
/-- an object of one's own is written -/
inductive Up1 (p : Addr) (o u : HO) : List (Addr × HO) → List (Addr × HO) → Prop
  | head {L : List (Addr × HO)} : Up1 p o u ((p, o) :: L) ((p, u) :: L)
  | tail {q : Addr × HO} {L L' : List (Addr × HO)} (h : Up1 p o u L L') : Up1 p o u (q :: L) (q :: L')
theorem Up1.keys (h : Up1 p o u L L') : L'.map (·.1) = L.map (·.1) := by
  induction h with
  | head => rfl
  | tail _ ih => rw [List.map_cons, List.map_cons, ih]
theorem Up1.mem (h : Up1 p o u L L') : (p, o) ∈ L := by
  induction h with
  | head => exact List.mem_cons_self
  | tail _ ih => exact List.mem_cons_of_mem _ ih
theorem Up1.new (h : Up1 p o u L L') (nd : (L.map (·.1)).Nodup) : ∀ q ∈ L', q = (p, u) ∨ (q ∈ L ∧ q.1 ≠ p) := by
  induction h with
  | head =>
    intro q hq
    rcases List.mem_cons.mp hq with e | hq
    · exact .inl e
    · refine .inr ⟨List.mem_cons_of_mem _ hq, fun e => ?_⟩
      rw [List.map_cons, List.nodup_cons] at nd
      exact nd.1 (List.mem_map.mpr ⟨q, hq, e⟩)
  | @tail r L L' h ih =>
    intro q hq
    rw [List.map_cons, List.nodup_cons] at nd
    rcases List.mem_cons.mp hq with e | hq
    · subst e
      refine .inr ⟨List.mem_cons_self, fun e => nd.1 ?_⟩
      rw [e]
      exact List.mem_map.mpr ⟨(p, o), h.mem, rfl⟩
    · rcases ih nd.2 q hq with e | ⟨h1, h2⟩
      · exact .inl e
      · exact .inr ⟨List.mem_cons_of_mem _ h1, h2⟩
theorem AtP.put (h : AtP S0 E0 S L H) (k : Up1 p o u L L') : AtP S0 E0 S L' (upd H p u) := by
  obtain ⟨h1, h2, h3⟩ := h.ow _ k.mem
  refine ⟨h.s0, fun a x e => ?_, fun a x e => ?_, h.nw, fun q hq => ?_, ?_⟩
  · rw [upd_ne (ne_of_none e h3)]
    exact h.e0 a x e
  · rw [upd_ne (ne_of_none e h2)]
    exact h.sh a x e
  · rcases k.new h.nd q hq with e | ⟨m, ne⟩
    · subst e
      exact ⟨upd_same, h2, h3⟩
    · obtain ⟨g1, g2⟩ := h.ow q m
      exact ⟨by rw [upd_ne ne]; exact g1, g2⟩
  · rw [k.keys]
    exact h.nd
theorem AtP.drop (h : AtP S0 E0 S L H) (k : L'.Sublist L) : AtP S0 E0 S L' H :=
  ⟨h.s0, h.e0, h.sh, h.nw, fun q hq => h.ow q (k.subset hq), h.nd.sublist (k.map _)⟩
/-- behind a call that grew the stable part -/
theorem AtP.call (h : AtP S0 E0 S L H) (c : AtP S H S' L' H') : AtP S0 E0 S' (L' ++ L) H' := by
  refine ⟨h.s0.trans c.s0, h.e0.trans c.e0, c.sh, fun a h1 h2 => ?_, fun q hq => ?_, ?_⟩
  · have z : E0 a ≠ none := h2
    cases e : E0 a with
    | none => exact absurd e z
    | some x => exact c.nw a (h.nw a h1 h2) (by rw [h.e0 a x e]; intro y; cases y)
  · rcases List.mem_append.mp hq with hq | hq
    · obtain ⟨g1, g2, g3⟩ := c.ow q hq
      exact ⟨g1, g2, h.e0.free g3⟩
    · obtain ⟨g1, g2, g3⟩ := h.ow q hq
      exact ⟨c.e0 _ _ g1, c.nw _ g2 (by rw [g1]; intro y; cases y), g3⟩
  · rw [List.map_append, List.nodup_append]
    refine ⟨c.nd, h.nd, fun a ha b hb e => ?_⟩
    subst e
    obtain ⟨q, hq, e1⟩ := List.mem_map.mp ha
    obtain ⟨r, hr, e2⟩ := List.mem_map.mp hb
    have z1 := (c.ow q hq).2.2
    have z2 := (h.ow r hr).1
    rw [e1] at z1
    rw [e2, z1] at z2
    cases z2
/-- an object of one's own becomes a stable one -/
theorem AtP.keep (h : AtP S0 E0 S ((p, o) :: L) H) : AtP S0 E0 (upd S p o) L H := by
  obtain ⟨h1, h2, h3⟩ := h.ow _ List.mem_cons_self
  have nd := h.nd
  rw [List.map_cons, List.nodup_cons] at nd
  refine ⟨h.s0.trans (same_new h2), h.e0, fun a x e => ?_, fun a g1 g2 => ?_, fun q hq => ?_, nd.2⟩
  · by_cases ha : a = p
    · rw [ha, upd_same] at e
      cases e
      rw [ha]
      exact h1
    · rw [upd_ne ha] at e
      exact h.sh a x e
  · have na : a ≠ p := fun e => by rw [e] at g2; exact g2 h3
    rw [upd_ne na]
    exact h.nw a g1 g2
  · have hq' := h.ow q (List.mem_cons_of_mem _ hq)
    have ne : q.1 ≠ p := fun e => nd.1 (List.mem_map.mpr ⟨q, hq, e⟩)
    exact ⟨hq'.1, by rw [upd_ne ne]; exact hq'.2.1, hq'.2.2⟩
end

/-! ### what a computation comes to -/
/-- a computation: what must hold of the heap so that its end is as wished -/
abbrev Cm := Hp → VK → Prop
abbrev CmB := Hp → (Bool → Hp → Prop) → Prop
abbrev CmA := Hp → (List V → Hp → Prop) → Prop
abbrev CmO := Hp → (Option Int → Hp → Prop) → Prop
def Cv (c : Cm) (A : Asr) (v : V) : Prop := ∀ H, A.P H → ∀ Q : VK, (∀ H', Same H H' → Q v H') → c H Q
/-- a new object -/
def Cn (c : Cm) (A : Asr) (o : HO) : Prop := ∀ H, A.P H → ∀ Q : VK, (∀ p H', H p = none → Same H H' → H' p = some o → Q (.ref p) H') → c H Q
/-- a test -/
def Ct (c : CmB) (A : Asr) (b : Bool) : Prop := ∀ H, A.P H → ∀ Q : Bool → Hp → Prop, (∀ H', Same H H' → Q b H') → c H Q
/-- arguments -/
def Ca (c : CmA) (A : Asr) (vs : List V) : Prop := ∀ H, A.P H → ∀ Q : List V → Hp → Prop, (∀ H', Same H H' → Q vs H') → c H Q
/-- a slice's part -/
def Co (c : CmO) (A : Asr) (o : Option Int) : Prop := ∀ H, A.P H → ∀ Q : Option Int → Hp → Prop, (∀ H', Same H H' → Q o H') → c H Q
abbrev Cl (c : Cm) (A : Asr) (xs : List V) : Prop := Cn c A (.lst xs)
abbrev Cu (c : Cm) (A : Asr) (xs : List V) : Prop := Cn c A (.tup xs)
section
variable {K : PySem.W.Frag} {σ : L2.St} {A : Asr} {ta tb te : TE} {x y z v w : V} {xs ys : List V} {o u : HO}
theorem cv_is {c : Cm} (h : Cv c A v) (e : v = w) : Cv c A w := e ▸ h
theorem ct_is {c : CmB} {a b : Bool} (h : Ct c A a) (e : a = b) : Ct c A b := e ▸ h
theorem cn_is {c : Cm} (h : Cn c A o) (e : o = u) : Cn c A u := e ▸ h
theorem cl_is {c : Cm} (h : Cl c A xs) (e : xs = ys) : Cl c A ys := e ▸ h
/-! binds: what follows as a function of the value -/
theorem cv_bind {c : Cm} {k : V → Cm} (h : Cv c A x) (hk : Cv (k x) A v) : Cv (fun H Q => c H fun y H1 => k y H1 Q) A v := fun H a Q q =>
  h H a _ fun H1 e1 => hk H1 (A.st _ _ a e1) Q fun H2 e2 => q H2 (e1.trans e2)
theorem cv_bindN {c : Cm} {k : V → Cm} (h : Cn c A o) (hk : ∀ p, Cv (k (.ref p)) (A.kn p o) v) : Cv (fun H Q => c H fun y H1 => k y H1 Q) A v := fun H a Q q =>
  h H a _ fun p H1 _ e1 hp => hk p H1 ⟨A.st _ _ a e1, hp⟩ Q fun H2 e2 => q H2 (e1.trans e2)
theorem cn_bind {c : Cm} {k : V → Cm} (h : Cv c A x) (hk : Cn (k x) A u) : Cn (fun H Q => c H fun y H1 => k y H1 Q) A u := fun H a Q q =>
  h H a _ fun H1 e1 => hk H1 (A.st _ _ a e1) Q fun p H2 n e2 => q p H2 (e1.free n) (e1.trans e2)
theorem cn_bindN {c : Cm} {k : V → Cm} (h : Cn c A o) (hk : ∀ p, Cn (k (.ref p)) (A.kn p o) u) : Cn (fun H Q => c H fun y H1 => k y H1 Q) A u := fun H a Q q =>
  h H a _ fun p H1 _ e1 hp => hk p H1 ⟨A.st _ _ a e1, hp⟩ Q fun r H2 n e2 => q r H2 (e1.free n) (e1.trans e2)
theorem ct_bind {c : Cm} {k : V → CmB} {b : Bool} (h : Cv c A x) (hk : Ct (k x) A b) : Ct (fun H Q => c H fun y H1 => k y H1 Q) A b := fun H a Q q =>
  h H a _ fun H1 e1 => hk H1 (A.st _ _ a e1) Q fun H2 e2 => q H2 (e1.trans e2)
theorem ct_bindN {c : Cm} {k : V → CmB} {b : Bool} (h : Cn c A o) (hk : ∀ p, Ct (k (.ref p)) (A.kn p o) b) : Ct (fun H Q => c H fun y H1 => k y H1 Q) A b := fun H a Q q =>
  h H a _ fun p H1 _ e1 hp => hk p H1 ⟨A.st _ _ a e1, hp⟩ Q fun H2 e2 => q H2 (e1.trans e2)
/-! leaves -/
theorem c_c : Cv (tC v σ) A v := fun H _ _ q => q H (Same.refl H)
theorem c_var {i : Nat} (h : σ[i]? = some (some v)) : Cv (tVar i σ) A v := fun H _ _ q => ⟨v, h, q H (Same.refl H)⟩
theorem c_nil : Ca (tNil σ) A [] := fun H _ _ q => q H (Same.refl H)
/-- arguments, one more -/
theorem c_cons {tr : TA} {vs : List V} (h : Cv (te σ) A x) (hr : Ca (tr σ) A vs) : Ca (tCons te tr σ) A (x :: vs) := fun H a Q q =>
  h H a _ fun H1 e1 => hr H1 (A.st _ _ a e1) _ fun H2 e2 => q H2 (e1.trans e2)
/-! two operands -/
theorem c_op {r : R2} (ha : Cv (ta σ) A x) (hb : Cv (tb σ) A y) (hr : Cv (r x y) A v) : Cv (tOp r ta tb σ) A v :=
  cv_bind (c := ta σ) (k := fun x H Q => tb σ H fun y H1 => r x y H1 Q) ha (cv_bind (c := tb σ) (k := fun y H Q => r x y H Q) hb hr)
theorem c_opNv {r : R2} (ha : Cn (ta σ) A o) (hb : ∀ p, Cv (tb σ) (A.kn p o) y) (hr : ∀ p, Cv (r (.ref p) y) (A.kn p o) v) : Cv (tOp r ta tb σ) A v :=
  cv_bindN (c := ta σ) (k := fun x H Q => tb σ H fun y H1 => r x y H1 Q) ha fun p => cv_bind (c := tb σ) (k := fun y H Q => r (.ref p) y H Q) (hb p) (hr p)
theorem c_opvN {r : R2} (ha : Cv (ta σ) A x) (hb : Cn (tb σ) A o) (hr : ∀ p, Cv (r x (.ref p)) (A.kn p o) v) : Cv (tOp r ta tb σ) A v :=
  cv_bind (c := ta σ) (k := fun x H Q => tb σ H fun y H1 => r x y H1 Q) ha (cv_bindN (c := tb σ) (k := fun y H Q => r x y H Q) hb hr)
theorem c_opNN {r : R2} (ha : Cn (ta σ) A o) (hb : ∀ p, Cn (tb σ) (A.kn p o) u) (hr : ∀ p q, Cv (r (.ref p) (.ref q)) ((A.kn p o).kn q u) v) : Cv (tOp r ta tb σ) A v :=
  cv_bindN (c := ta σ) (k := fun x H Q => tb σ H fun y H1 => r x y H1 Q) ha fun p => cv_bindN (c := tb σ) (k := fun y H Q => r (.ref p) y H Q) (hb p) (hr p)
theorem n_op {r : R2} {t : HO} (ha : Cv (ta σ) A x) (hb : Cv (tb σ) A y) (hr : Cn (r x y) A t) : Cn (tOp r ta tb σ) A t :=
  cn_bind (c := ta σ) (k := fun x H Q => tb σ H fun y H1 => r x y H1 Q) ha (cn_bind (c := tb σ) (k := fun y H Q => r x y H Q) hb hr)
theorem n_opNv {r : R2} {t : HO} (ha : Cn (ta σ) A o) (hb : ∀ p, Cv (tb σ) (A.kn p o) y) (hr : ∀ p, Cn (r (.ref p) y) (A.kn p o) t) : Cn (tOp r ta tb σ) A t :=
  cn_bindN (c := ta σ) (k := fun x H Q => tb σ H fun y H1 => r x y H1 Q) ha fun p => cn_bind (c := tb σ) (k := fun y H Q => r (.ref p) y H Q) (hb p) (hr p)
theorem n_opvN {r : R2} {t : HO} (ha : Cv (ta σ) A x) (hb : Cn (tb σ) A o) (hr : ∀ p, Cn (r x (.ref p)) (A.kn p o) t) : Cn (tOp r ta tb σ) A t :=
  cn_bind (c := ta σ) (k := fun x H Q => tb σ H fun y H1 => r x y H1 Q) ha (cn_bindN (c := tb σ) (k := fun y H Q => r x y H Q) hb hr)
theorem n_opNN {r : R2} {t : HO} (ha : Cn (ta σ) A o) (hb : ∀ p, Cn (tb σ) (A.kn p o) u) (hr : ∀ p q, Cn (r (.ref p) (.ref q)) ((A.kn p o).kn q u) t) : Cn (tOp r ta tb σ) A t :=
  cn_bindN (c := ta σ) (k := fun x H Q => tb σ H fun y H1 => r x y H1 Q) ha fun p => cn_bindN (c := tb σ) (k := fun y H Q => r (.ref p) y H Q) (hb p) (hr p)
/-- one operand -/
theorem c_un {r : V → Hp → VK → Prop} (ha : Cv (ta σ) A x) (hr : Cv (r x) A v) : Cv (tUn r ta σ) A v := cv_bind (k := fun y H Q => r y H Q) ha hr
/-! operations on values -/
theorem r_I0 {g : Int → Int → V} {i j : Int} : Cv (rI0 g (.int i) (.int j)) A (g i j) := fun H _ _ q => ⟨i, j, rfl, rfl, q H (Same.refl H)⟩
theorem r_I {C : Int → Int → Prop} {g : Int → Int → V} {i j : Int} (hc : C i j) : Cv (rI C g (.int i) (.int j)) A (g i j) := fun H _ _ q => ⟨i, j, rfl, rfl, hc, q H (Same.refl H)⟩
theorem r_U {g : Int → V} {i : Int} : Cv (rU g (.int i)) A (g i) := fun H _ _ q => ⟨i, rfl, q H (Same.refl H)⟩
end
end Lo
namespace Lo
open PySem L2
/-! ### operations whose rule goes by the operands -/
def rAddI : R2 := rI0 fun i j => .int (i + j)
def rAddS : R2 := fun x y H Q => ∃ i j, x = .str i ∧ y = .str j ∧ i.length + j.length ≤ sizeLine ∧ Q (.str (i ++ j)) H
def rAddA (K : PySem.W.Frag) : R2 := fun x y H Q => rAddI x y H Q ∨ rAddS x y H Q ∨ rCat x y H Q ∨ rCatT K x y H Q
def rMulI : R2 := rI CMul fun i j => .int (i * j)
def rMulX : R2 := rI CMulX fun i j => .int (i * j)
def rMulA : R2 := fun x y H Q => rMulI x y H Q ∨ rMulX x y H Q ∨ rRep x y H Q
def rEqA (K : PySem.W.Frag) : R2 := fun x y H Q => rEq x y H Q ∨ rEqD K x y H Q
def rNeA (K : PySem.W.Frag) : R2 := fun x y H Q => rNe x y H Q ∨ rNeD K x y H Q
def rIsN : R2 := fun x y H Q => y = .non ∧ Q (.bl (decide (x = .non))) H
def rNotN : R2 := fun x y H Q => y = .non ∧ Q (.bl (!decide (x = .non))) H
/-- x in d, a dict -/
def rInK : R2 := fun x y H Q => ∃ a o, y = .ref a ∧ DGet H a x o ∧ Q (.bl o.isSome) H
def rNinK : R2 := fun x y H Q => ∃ a o, y = .ref a ∧ DGet H a x o ∧ Q (.bl (!o.isSome)) H
def rInS : R2 := fun x y H Q => ∃ (c : Nat) (z : Str), x = .str ⟨#[c]⟩ ∧ y = .str z ∧ Q (.bl (decide (c ∈ z.cps.toList))) H
def rNinS : R2 := fun x y H Q => ∃ (c : Nat) (z : Str), x = .str ⟨#[c]⟩ ∧ y = .str z ∧ Q (.bl (!decide (c ∈ z.cps.toList))) H
def rInA (K : PySem.W.Frag) : R2 := fun x y H Q => rIn K false x y H Q ∨ rInK x y H Q ∨ rInS x y H Q
def rNinA (K : PySem.W.Frag) : R2 := fun x y H Q => rIn K true x y H Q ∨ rNinK x y H Q ∨ rNinS x y H Q
/-- d[k] of a dict -/
def rIxK : R2 := fun x y H Q => ∃ a v, x = .ref a ∧ DGet H a y (some v) ∧ Q v H
def rIxA (K : PySem.W.Frag) : R2 := fun x y H Q => rIxL K x y H Q ∨ rIxT K x y H Q ∨ rIxS x y H Q ∨ rIxK x y H Q
def rLenS (K : PySem.W.Frag) : List V → Hp → VK → Prop := fun xs H Q => ∃ p ys, xs = [.ref p] ∧ (SqL K H p ys ∨ SqT K H p ys) ∧ Q (.int ys.length) H
def rLenT : List V → Hp → VK → Prop := fun xs H Q => ∃ z, xs = [.str z] ∧ z.length ≤ sizeLine ∧ Q (.int z.length) H
def rLenK : List V → Hp → VK → Prop := fun xs H Q => ∃ d kvs, xs = [.ref d] ∧ H d = some (.dK kvs) ∧ Q (.int kvs.length) H
def rLenA (K : PySem.W.Frag) : List V → Hp → VK → Prop := fun xs H Q => rLenS K xs H Q ∨ rLenT xs H Q ∨ rLenK xs H Q
def rMax2 : List V → Hp → VK → Prop := fun xs H Q => ∃ i j, xs = [.int i, .int j] ∧ Q (.int (if j > i then j else i)) H
def rMin2 : List V → Hp → VK → Prop := fun xs H Q => ∃ i j, xs = [.int i, .int j] ∧ Q (.int (if j < i then j else i)) H
def rMaxA (K : PySem.W.Frag) : List V → Hp → VK → Prop := fun xs H Q => rMax2 xs H Q ∨ rMax K xs H Q
def rMinA (K : PySem.W.Frag) : List V → Hp → VK → Prop := fun xs H Q => rMin2 xs H Q ∨ rMin K xs H Q
def rSlA (K : PySem.W.Frag) : V → Option Int → Option Int → Hp → VK → Prop := fun x lo hi H Q => rSlL K x lo hi H Q ∨ rSlT K x lo hi H Q ∨ rSlS x lo hi H Q
section
variable {X : Cx}
theorem op_addA : OpR X (binaryOp .Add) (rAddA X.K) := op_add.or (op_add_str.or (op_cat.or op_catT))
theorem op_mulA : OpR X (binaryOp .Mult) rMulA := op_mul.or (op_mulX.or op_rep)
theorem op_eqA (hu : X.A.units + 64 < cLine) : OpR X (compareOp .Eq) (rEqA X.K) := op_eq.or (op_eqD hu)
theorem op_neA (hu : X.A.units + 64 < cLine) : OpR X (compareOp .NotEq) (rNeA X.K) := op_ne.or (op_neD hu)
theorem op_isA : OpR X (compareOp .Is) rIsN := op_isN
theorem op_isnotA : OpR X (compareOp .IsNot) rNotN := op_notN
theorem op_inK (hu : X.A.units + 1 < cLine) : OpR X (compareOp .In) rInK := by
  intro pins s σ H x y v u Q I rx ry h
  obtain ⟨a, o, rfl, g, q⟩ := h
  cases ry
  exact d_in hu I g rx fun s' J => ⟨.bl _, H, J, rfl, q⟩
theorem op_ninK (hu : X.A.units + 1 < cLine) : OpR X (compareOp .NotIn) rNinK := by
  intro pins s σ H x y v u Q I rx ry h
  obtain ⟨a, o, rfl, g, q⟩ := h
  cases ry
  exact d_notIn hu I g rx fun s' J => ⟨.bl _, H, J, rfl, q⟩
theorem op_inA (hu : X.A.units + 1 < cLine) : OpR X (compareOp .In) (rInA X.K) := op_in_seq.or ((op_inK hu).or op_in_sign)
theorem op_notinA (hu : X.A.units + 1 < cLine) : OpR X (compareOp .NotIn) (rNinA X.K) := op_notIn_seq.or ((op_ninK hu).or op_notIn_sign)
theorem ix_K (hu : X.A.units + 1 < cLine) : IxR X rIxK := by
  intro value slice pins s σ H x y v u Q I rx ry h hs
  obtain ⟨a, z, rfl, g, q⟩ := h
  cases rx
  exact PyProof.Rows.tail_any (dict_typeIs I g) PySem.F.slot_dict_getitem.lookup (d_getItem hu I g ry fun w' s' J rw' => ⟨z, H, J, rw', q⟩) hs
theorem ix_A (hu : X.A.units + 1 < cLine) : IxR X (rIxA X.K) := ix_list.or (ix_tup.or (ix_str.or (ix_K hu)))
theorem call_lenA : CallR X (.builtin "len") (rLenA X.K) := call_len_seq.or (call_len_str.or call_lenD)
theorem call_maxA (hc : X.calm = true) : CallR X (.builtin "max") (rMaxA X.K) := (call_max2 hc).or (cr_max hc)
theorem call_minA (hc : X.calm = true) : CallR X (.builtin "min") (rMinA X.K) := (call_min2 hc).or (cr_min hc)
theorem sl_A : SlR X (rSlA X.K) := sl_list.or (sl_tup.or sl_str)
/-- d[k] = v, l[i] = v -/
def rSetK : V → V → V → Hp → (Hp → Prop) → Prop := fun o i v H Q => ∃ a H', o = .ref a ∧ DPut H a i v H' ∧ Q H'
def rSetA : V → V → V → Hp → (Hp → Prop) → Prop := fun o i v H Q => rSetL o i v H Q ∨ rSetK o i v H Q
theorem set_A (hu : X.A.units + 1 < cLine) : PSet X rSetA := by
  intro pins s σ H o i v ov iv u Q I ro ri rv h
  rcases h with h | ⟨a, H', rfl, g, q⟩
  · exact set_list pins s σ H o i v ov iv u Q I ro ri rv h
  · cases ro
    exact d_setItem hu I g ri rv fun s' J => ⟨H', J, q⟩
end
theorem cdiv_of {i j : Int} (h : 0 < j) (h2 : j < 1000000000000000000000000000000000000000000000000000000000000) : CDivW i j := wide_div (b := 200) h (by omega) (by decide) (by decide)
theorem cmul_l {i j : Int} (h : -18446744073709551616 < i) (h2 : i < 18446744073709551616) : CMul i j := .inl ⟨by omega, by omega⟩
theorem cmul_r {i j : Int} (h : -18446744073709551616 < j) (h2 : j < 18446744073709551616) : CMul i j := .inr ⟨by omega, by omega⟩
/-! ### what they come to -/
section
variable {K : PySem.W.Frag} {A : Asr} {x y z v : V} {i j : Int} {a b : Str} {p q : Addr} {xs ys : List V} {kvs : List (Key × V)}
theorem e_addI : Cv (rAddA K (.int i) (.int j)) A (.int (i + j)) := fun H _ _ q => .inl ⟨i, j, rfl, rfl, q H (Same.refl H)⟩
theorem e_addS (h : a.length + b.length ≤ sizeLine) : Cv (rAddA K (.str a) (.str b)) A (.str (a ++ b)) := fun H _ _ q => .inr (.inl ⟨a, b, rfl, rfl, h, q H (Same.refl H)⟩)
theorem e_cat (h1 : Kn A p (.lst xs)) (h2 : Kn A q (.lst ys)) (hz : xs.length + ys.length ≤ sizeLine) : Cn (rAddA K (.ref p) (.ref q)) A (.lst (xs ++ ys)) := fun H a _ k =>
  .inr (.inr (.inl ⟨p, q, xs, ys, rfl, rfl, h1 H a, h2 H a, hz, fun r hr => k r _ hr (same_new hr) upd_same⟩))
theorem e_mul (h : CMul i j) : Cv (rMulA (.int i) (.int j)) A (.int (i * j)) := fun H _ _ q => .inl ⟨i, j, rfl, rfl, h, q H (Same.refl H)⟩
theorem e_mulX (h : CMulX i j) : Cv (rMulA (.int i) (.int j)) A (.int (i * j)) := fun H _ _ q => .inr (.inl ⟨i, j, rfl, rfl, h, q H (Same.refl H)⟩)
theorem e_rep (h : Kn A p (.lst xs)) (h0 : -(2 ^ 63) ≤ i) (h1 : i < 2 ^ 63) (hz : xs.length * i.toNat ≤ sizeLine) : Cn (rMulA (.ref p) (.int i)) A (.lst (List.replicate i.toNat xs).flatten) := fun H a _ k =>
  .inr (.inr ⟨p, i, xs, rfl, rfl, h H a, h0, h1, hz, fun r hr => k r _ hr (same_new hr) upd_same⟩)
theorem e_eqI : Cv (rEqA K (.int i) (.int j)) A (.bl (decide (i = j))) := fun H _ _ q => .inl ⟨rfl, by
  have e : decide (V.int i = V.int j) = decide (i = j) := by rw [dec_int, Bool.beq_eq_decide_eq]
  rw [e]
  exact q H (Same.refl H)⟩
theorem e_neI : Cv (rNeA K (.int i) (.int j)) A (.bl (!decide (i = j))) := fun H _ _ q => .inl ⟨rfl, by
  have e : decide (V.int i = V.int j) = decide (i = j) := by rw [dec_int, Bool.beq_eq_decide_eq]
  rw [e]
  exact q H (Same.refl H)⟩
theorem e_eqS : Cv (rEqA K (.str a) (.str b)) A (.bl (decide (a = b))) := fun H _ _ q => .inl ⟨rfl, by
  have e : decide (V.str a = V.str b) = decide (a = b) := by rw [dec_str, Bool.beq_eq_decide_eq]
  rw [e]
  exact q H (Same.refl H)⟩
theorem e_neS : Cv (rNeA K (.str a) (.str b)) A (.bl (!decide (a = b))) := fun H _ _ q => .inl ⟨rfl, by
  have e : decide (V.str a = V.str b) = decide (a = b) := by rw [dec_str, Bool.beq_eq_decide_eq]
  rw [e]
  exact q H (Same.refl H)⟩
theorem e_eqV (h : scal x y = true) : Cv (rEqA K x y) A (.bl (decide (x = y))) := fun H _ _ q => .inl ⟨h, q H (Same.refl H)⟩
theorem e_neV (h : scal x y = true) : Cv (rNeA K x y) A (.bl (!decide (x = y))) := fun H _ _ q => .inl ⟨h, q H (Same.refl H)⟩
theorem e_isN : Cv (rIsN x .non) A (.bl (decide (x = .non))) := fun H _ _ q => ⟨rfl, q H (Same.refl H)⟩
theorem e_notN : Cv (rNotN x .non) A (.bl (!decide (x = .non))) := fun H _ _ q => ⟨rfl, q H (Same.refl H)⟩
/-- what a heap tells of data -/
def KnD (K : PySem.W.Frag) (A : Asr) (x : V) (d : PyData) : Prop := ∀ H, A.P H → Dp K H x d
theorem e_eqD {d e : PyData} (h1 : KnD K A x d) (h2 : KnD K A y e) (s1 : SeqAt.shaped d = true) (s2 : SeqAt.shaped e = true) : Cv (rEqA K x y) A (.bl (PyData.eqv d e)) := fun H a _ q =>
  .inr ⟨d, e, h1 H a, h2 H a, s1, s2, q H (Same.refl H)⟩
theorem e_neD {d e : PyData} (h1 : KnD K A x d) (h2 : KnD K A y e) (s1 : SeqAt.shaped d = true) (s2 : SeqAt.shaped e = true) : Cv (rNeA K x y) A (.bl (!PyData.eqv d e)) := fun H a _ q =>
  .inr ⟨d, e, h1 H a, h2 H a, s1, s2, q H (Same.refl H)⟩
theorem e_inK {k : Key} (h : Kn A p (.dK kvs)) : Cv (rInA K (kV k) (.ref p)) A (.bl (valV kvs k).isSome) := fun H a _ q => .inr (.inl ⟨p, _, rfl, DGet.k (h H a), q H (Same.refl H)⟩)
theorem e_ninK {k : Key} (h : Kn A p (.dK kvs)) : Cv (rNinA K (kV k) (.ref p)) A (.bl (!(valV kvs k).isSome)) := fun H a _ q => .inr (.inl ⟨p, _, rfl, DGet.k (h H a), q H (Same.refl H)⟩)
theorem e_inL (h : KnL K A p xs) (hx : flatV x = true) (hs : xs.all flatV = true) : Cv (rInA K x (.ref p)) A (.bl (inV x xs)) := fun H a _ q => .inl ⟨p, xs, rfl, .inl (h H a), hx, hs, q H (Same.refl H)⟩
theorem e_ninL (h : KnL K A p xs) (hx : flatV x = true) (hs : xs.all flatV = true) : Cv (rNinA K x (.ref p)) A (.bl (!inV x xs)) := fun H a _ q => .inl ⟨p, xs, rfl, .inl (h H a), hx, hs, q H (Same.refl H)⟩
theorem e_inT (h : KnT K A p xs) (hx : flatV x = true) (hs : xs.all flatV = true) : Cv (rInA K x (.ref p)) A (.bl (inV x xs)) := fun H a _ q => .inl ⟨p, xs, rfl, .inr (h H a), hx, hs, q H (Same.refl H)⟩
theorem e_ninT (h : KnT K A p xs) (hx : flatV x = true) (hs : xs.all flatV = true) : Cv (rNinA K x (.ref p)) A (.bl (!inV x xs)) := fun H a _ q => .inl ⟨p, xs, rfl, .inr (h H a), hx, hs, q H (Same.refl H)⟩
theorem e_inS {c : Nat} : Cv (rInA K (.str ⟨#[c]⟩) (.str b)) A (.bl (decide (c ∈ b.cps.toList))) := fun H _ _ q => .inr (.inr ⟨c, b, rfl, rfl, q H (Same.refl H)⟩)
theorem e_ninS {c : Nat} : Cv (rNinA K (.str ⟨#[c]⟩) (.str b)) A (.bl (!decide (c ∈ b.cps.toList))) := fun H _ _ q => .inr (.inr ⟨c, b, rfl, rfl, q H (Same.refl H)⟩)
theorem e_ixL (h : KnL K A p xs) (e : atI xs i = some v) : Cv (rIxA K (.ref p) (.int i)) A v := fun H a _ q => .inl ⟨p, xs, i, v, rfl, rfl, h H a, e, q H (Same.refl H)⟩
theorem e_ixT (h : KnT K A p xs) (e : atI xs i = some v) : Cv (rIxA K (.ref p) (.int i)) A v := fun H a _ q => .inr (.inl ⟨p, xs, i, v, rfl, rfl, h H a, e, q H (Same.refl H)⟩)
theorem e_ixS {c : Nat} (hz : a.length ≤ sizeLine) (e : atI a.cps.toList i = some c) : Cv (rIxA K (.str a) (.int i)) A (.str ⟨#[c]⟩) := fun H _ _ q => .inr (.inr (.inl ⟨a, i, c, rfl, rfl, hz, e, q H (Same.refl H)⟩))
theorem e_ixK {k : Key} (h : Kn A p (.dK kvs)) (e : valV kvs k = some v) : Cv (rIxA K (.ref p) (kV k)) A v := fun H a _ q => .inr (.inr (.inr ⟨p, v, rfl, by rw [← e]; exact DGet.k (h H a), q H (Same.refl H)⟩))
theorem e_inSL {c : Nat} {l : List Nat} : Cv (rInA K (.str ⟨#[c]⟩) (.str b)) A (.bl (decide (c ∈ b.cps.toList))) := e_inS
theorem e_ninSL {c : Nat} : Cv (rNinA K (.str ⟨#[c]⟩) (.str b)) A (.bl (!decide (c ∈ b.cps.toList))) := e_ninS
theorem e_lenL (h : KnL K A p xs) : Cv (rLenA K [.ref p]) A (.int xs.length) := fun H a _ q => .inl ⟨p, xs, rfl, .inl (h H a), q H (Same.refl H)⟩
theorem e_lenT (h : KnT K A p xs) : Cv (rLenA K [.ref p]) A (.int xs.length) := fun H a _ q => .inl ⟨p, xs, rfl, .inr (h H a), q H (Same.refl H)⟩
theorem e_lenS (hz : a.length ≤ sizeLine) : Cv (rLenA K [.str a]) A (.int a.length) := fun H _ _ q => .inr (.inl ⟨a, rfl, hz, q H (Same.refl H)⟩)
theorem e_lenK (h : Kn A p (.dK kvs)) : Cv (rLenA K [.ref p]) A (.int kvs.length) := fun H a _ q => .inr (.inr ⟨p, kvs, rfl, h H a, q H (Same.refl H)⟩)
theorem max2_eq (i j : Int) : (if j > i then j else i) = max i j := by omega
theorem min2_eq (i j : Int) : (if j < i then j else i) = min i j := by omega
theorem e_max : Cv (rMaxA K [.int i, .int j]) A (.int (max i j)) := fun H _ _ q => .inl ⟨i, j, rfl, by rw [max2_eq]; exact q H (Same.refl H)⟩
theorem e_min : Cv (rMinA K [.int i, .int j]) A (.int (min i j)) := fun H _ _ q => .inl ⟨i, j, rfl, by rw [min2_eq]; exact q H (Same.refl H)⟩
theorem e_slL {lo hi : Option Int} (h : KnL K A p xs) : Cn (rSlA K (.ref p) lo hi) A (.lst (cutV xs lo hi)) := fun H a _ k => .inl ⟨p, xs, rfl, h H a, fun r hr => k r _ hr (same_new hr) upd_same⟩
theorem e_slS {lo hi : Option Int} (hz : a.length ≤ sizeLine) : Cv (rSlA K (.str a) lo hi) A (.str (cutS a lo hi)) := fun H _ _ q => .inr (.inr ⟨a, rfl, hz, q H (Same.refl H)⟩)
end
section
variable {K : PySem.W.Frag} {σ : L2.St} {A : Asr} {ta tb te to : TE} {x y z v w : V} {xs ys vs : List V} {o u : HO} {ts : TA} {tl th : TO} {b c : Bool}
/-! calls of built-ins -/
theorem c_cb {r : List V → Hp → VK → Prop} (ha : Ca (ts σ) A vs) (hr : Cv (r vs) A v) : Cv (tCB r ts σ) A v := fun H a Q q =>
  ha H a _ fun H1 e1 => hr H1 (A.st _ _ a e1) Q fun H2 e2 => q H2 (e1.trans e2)
theorem n_cb {r : List V → Hp → VK → Prop} (ha : Ca (ts σ) A vs) (hr : Cn (r vs) A o) : Cn (tCB r ts σ) A o := fun H a Q q =>
  ha H a _ fun H1 e1 => hr H1 (A.st _ _ a e1) Q fun p H2 n e2 h => q p H2 (e1.free n) (e1.trans e2) h
/-- one argument that is a new object -/
theorem c_cbN {r : List V → Hp → VK → Prop} (ha : Cn (te σ) A o) (hr : ∀ p, Cv (r [.ref p]) (A.kn p o) v) : Cv (tCB r (tCons te tNil) σ) A v := fun H a Q q =>
  ha H a _ fun p H1 _ e1 hp => hr p H1 ⟨A.st _ _ a e1, hp⟩ Q fun H2 e2 => q H2 (e1.trans e2)
theorem n_cbN {r : List V → Hp → VK → Prop} (ha : Cn (te σ) A o) (hr : ∀ p, Cn (r [.ref p]) (A.kn p o) u) : Cn (tCB r (tCons te tNil) σ) A u := fun H a Q q =>
  ha H a _ fun p H1 _ e1 hp => hr p H1 ⟨A.st _ _ a e1, hp⟩ Q fun s H2 n e2 h => q s H2 (e1.free n) (e1.trans e2) h
/-! calls of defs -/
theorem c_call {sp : Sp} {E : XK} (ha : Ca (ts σ) A vs) (hr : Cv (fun H Q => sp vs H Q E) A v) : Cv (tCall sp [] E ts σ) A v := fun H a Q q =>
  ha H a _ fun H1 e1 => by
    show sp (vs ++ []) H1 Q E
    rw [List.append_nil]
    exact hr H1 (A.st _ _ a e1) Q fun H2 e2 => q H2 (e1.trans e2)
theorem n_call {sp : Sp} {E : XK} (ha : Ca (ts σ) A vs) (hr : Cn (fun H Q => sp vs H Q E) A o) : Cn (tCall sp [] E ts σ) A o := fun H a Q q =>
  ha H a _ fun H1 e1 => by
    show sp (vs ++ []) H1 Q E
    rw [List.append_nil]
    exact hr H1 (A.st _ _ a e1) Q fun p H2 n e2 h => q p H2 (e1.free n) (e1.trans e2) h
theorem c_callN {sp : Sp} {E : XK} (ha : Cn (te σ) A o) (hr : ∀ p, Cv (fun H Q => sp [.ref p] H Q E) (A.kn p o) v) : Cv (tCall sp [] E (tCons te tNil) σ) A v := fun H a Q q =>
  ha H a _ fun p H1 _ e1 hp => hr p H1 ⟨A.st _ _ a e1, hp⟩ Q fun H2 e2 => q H2 (e1.trans e2)
theorem n_callN {sp : Sp} {E : XK} (ha : Cn (te σ) A o) (hr : ∀ p, Cn (fun H Q => sp [.ref p] H Q E) (A.kn p o) u) : Cn (tCall sp [] E (tCons te tNil) σ) A u := fun H a Q q =>
  ha H a _ fun p H1 _ e1 hp => hr p H1 ⟨A.st _ _ a e1, hp⟩ Q fun s H2 n e2 h => q s H2 (e1.free n) (e1.trans e2) h
/-! displays, slices -/
theorem n_lst (ha : Ca (ts σ) A vs) (hz : vs.length ≤ sizeLine) : Cn (tLst ts σ) A (.lst vs) := fun H a Q q =>
  ha H a _ fun H1 e1 => ⟨hz, fun p hp => q p _ (e1.free hp) (e1.trans (same_new hp)) upd_same⟩
theorem n_tup (ha : Ca (ts σ) A vs) (hz : vs.length ≤ sizeLine) : Cn (tTup ts σ) A (.tup vs) := fun H a Q q =>
  ha H a _ fun H1 e1 => ⟨hz, fun p hp => q p _ (e1.free hp) (e1.trans (same_new hp)) upd_same⟩
theorem o_none : Co (tNoPart σ) A none := fun H _ _ q => q H (Same.refl H)
theorem o_some {i : Int} (h : Cv (te σ) A (.int i)) : Co (tPart te σ) A (some i) := fun H a Q q => h H a _ fun H1 e1 => ⟨i, rfl, q H1 e1⟩
theorem n_sl {r : V → Option Int → Option Int → Hp → VK → Prop} {lo hi : Option Int} (h : Cv (te σ) A x) (h1 : Co (tl σ) A lo) (h2 : Co (th σ) A hi) (hr : Cn (r x lo hi) A o) : Cn (tSl r te tl th σ) A o := fun H a Q q =>
  h H a _ fun H1 e1 => h1 H1 (A.st _ _ a e1) _ fun H2 e2 => h2 H2 (A.st _ _ a (e1.trans e2)) _ fun H3 e3 => hr H3 (A.st _ _ a ((e1.trans e2).trans e3)) Q fun p H4 n e4 hp => q p H4 (((e1.trans e2).trans e3).free n) (((e1.trans e2).trans e3).trans e4) hp
theorem c_sl {r : V → Option Int → Option Int → Hp → VK → Prop} {lo hi : Option Int} (h : Cv (te σ) A x) (h1 : Co (tl σ) A lo) (h2 : Co (th σ) A hi) (hr : Cv (r x lo hi) A v) : Cv (tSl r te tl th σ) A v := fun H a Q q =>
  h H a _ fun H1 e1 => h1 H1 (A.st _ _ a e1) _ fun H2 e2 => h2 H2 (A.st _ _ a (e1.trans e2)) _ fun H3 e3 => hr H3 (A.st _ _ a ((e1.trans e2).trans e3)) Q fun H4 e4 => q H4 (((e1.trans e2).trans e3).trans e4)
/-! methods of texts -/
theorem c_m1 {r : V → List V → Hp → VK → Prop} {z : Str} (h : Cv (to σ) A (.str z)) (h1 : Cv (te σ) A y) (hr : Cv (r (.str z) [y]) A v) : Cv (tM1 r to te σ) A v := fun H a Q q =>
  h H a _ fun H1 e1 => ⟨⟨z, rfl⟩, h1 H1 (A.st _ _ a e1) _ fun H2 e2 => hr H2 (A.st _ _ a (e1.trans e2)) Q fun H3 e3 => q H3 ((e1.trans e2).trans e3)⟩
theorem c_m1N {r : V → List V → Hp → VK → Prop} {z : Str} (h : Cv (to σ) A (.str z)) (h1 : Cn (te σ) A o) (hr : ∀ p, Cv (r (.str z) [.ref p]) (A.kn p o) v) : Cv (tM1 r to te σ) A v := fun H a Q q =>
  h H a _ fun H1 e1 => ⟨⟨z, rfl⟩, h1 H1 (A.st _ _ a e1) _ fun p H2 n e2 hp => hr p H2 ⟨A.st _ _ a (e1.trans e2), hp⟩ Q fun H3 e3 => q H3 ((e1.trans e2).trans e3)⟩
theorem c_bits {i : Int} (h : Cv (to σ) A (.int i)) : Cv (tBits to σ) A (.int (Builtin.Int.intBits i : Nat)) := fun H a Q q => h H a _ fun H1 e1 => ⟨i, rfl, q H1 e1⟩
/-! booleans -/
theorem c_and (h1 : Cv (ta σ) A (.bl b)) (h2 : b = true → Cv (tb σ) A (.bl c)) : Cv (tAndV ta tb σ) A (.bl (b && c)) := fun H a Q q => h1 H a _ fun H1 e1 => ⟨b, rfl, by
  cases b with
  | true => exact h2 rfl H1 (A.st _ _ a e1) Q fun H2 e2 => q H2 (e1.trans e2)
  | false => exact q H1 e1⟩
theorem c_or (h1 : Cv (ta σ) A (.bl b)) (h2 : b = false → Cv (tb σ) A (.bl c)) : Cv (tOrV ta tb σ) A (.bl (b || c)) := fun H a Q q => h1 H a _ fun H1 e1 => ⟨b, rfl, by
  cases b with
  | true => exact q H1 e1
  | false => exact h2 rfl H1 (A.st _ _ a e1) Q fun H2 e2 => q H2 (e1.trans e2)⟩
theorem c_chain {r r' : R2} {tc : TE} (h1 : Cv (ta σ) A x) (h2 : Cv (tb σ) A y) (hr : Cv (r x y) A (.bl b)) (h3 : b = true → Cv (tc σ) A z) (hr' : b = true → Cv (r' y z) A (.bl c)) : Cv (tChain r r' ta tb tc σ) A (.bl (b && c)) := fun H a Q q =>
  h1 H a _ fun H1 e1 => h2 H1 (A.st _ _ a e1) _ fun H2 e2 => hr H2 (A.st _ _ a (e1.trans e2)) _ fun H3 e3 => ⟨b, rfl, by
    have e := (e1.trans e2).trans e3
    cases b with
    | true => exact h3 rfl H3 (A.st _ _ a e) _ fun H4 e4 => hr' rfl H4 (A.st _ _ a (e.trans e4)) Q fun H5 e5 => q H5 ((e.trans e4).trans e5)
    | false => exact q H3 e⟩
theorem c_not (h1 : Cv (ta σ) A (.bl b)) : Cv (tNotV ta σ) A (.bl (!b)) := fun H a Q q => h1 H a _ fun H1 e1 => ⟨b, rfl, q H1 e1⟩
theorem t_test (h : Cv (te σ) A (.bl b)) : Ct (tTest te σ) A b := fun H a Q q => h H a _ fun H1 e1 => ⟨b, rfl, q H1 e1⟩
theorem t_B (h : Cv (te σ) A (.bl b)) : Ct (tB te σ) A b := fun H a Q q => h H a _ fun H1 e1 => ⟨b, rfl, q H1 e1⟩
theorem t_and {t u : TT} (h1 : Ct (t σ) A b) (h2 : b = true → Ct (u σ) A c) : Ct (tAnd t u σ) A (b && c) := fun H a Q q => h1 H a _ fun H1 e1 => by
  cases b with
  | true => exact h2 rfl H1 (A.st _ _ a e1) Q fun H2 e2 => q H2 (e1.trans e2)
  | false => exact q H1 e1
theorem t_or {t u : TT} (h1 : Ct (t σ) A b) (h2 : b = false → Ct (u σ) A c) : Ct (tOr t u σ) A (b || c) := fun H a Q q => h1 H a _ fun H1 e1 => by
  cases b with
  | true => exact q H1 e1
  | false => exact h2 rfl H1 (A.st _ _ a e1) Q fun H2 e2 => q H2 (e1.trans e2)
theorem t_not {t : TT} (h1 : Ct (t σ) A b) : Ct (tNot t σ) A (!b) := fun H a Q q => h1 H a _ fun H1 e1 => q H1 e1
theorem t_yes : Ct (tYes σ) A true := fun H _ _ q => q H (Same.refl H)
theorem c_if {t : TT} (h : Ct (t σ) A b) (h1 : b = true → Cv (ta σ) A v) (h2 : b = false → Cv (tb σ) A v) : Cv (tIf t ta tb σ) A v := fun H a Q q => h H a _ fun H1 e1 => by
  cases b with
  | true => exact h1 rfl H1 (A.st _ _ a e1) Q fun H2 e2 => q H2 (e1.trans e2)
  | false => exact h2 rfl H1 (A.st _ _ a e1) Q fun H2 e2 => q H2 (e1.trans e2)
end
/-! ### statements -/
def Go (t : TS) (D : Ends) (σ : L2.St) (A : Asr) : Prop := ∀ H, A.P H → t D σ H
section
variable {K : PySem.W.Frag} {σ σ' : L2.St} {A B : Asr} {ta tb te to : TE} {x y z v w : V} {xs ys vs : List V} {o u : HO} {b c : Bool} {D : Ends} {t s : TS} {tt : TT} {i : Nat}
theorem go_of (h : ∀ H, A.P H → B.P H) (g : Go t D σ B) : Go t D σ A := fun H a => g H (h H a)
theorem go_set (e : σ = σ') (g : Go t D σ' A) : Go t D σ A := e ▸ g
theorem g_seq (h : Go t { D with nx := s D } σ A) : Go (tSeq t s) D σ A := h
theorem q_asg (h : Cv (te σ) A v) (k : Go s D (σ.set i (some v)) A) : Go (tSeq (tAsg te (gName i)) s) D σ A := fun H a => h H a _ fun H1 e1 => k H1 (A.st _ _ a e1)
theorem s_asg (h : Cv (te σ) A v) (k : ∀ H, A.P H → D.nx (σ.set i (some v)) H) : Go (tAsg te (gName i)) D σ A := fun H a => h H a _ fun H1 e1 => k H1 (A.st _ _ a e1)
theorem q_asgN (h : Cn (te σ) A o) (k : ∀ p, Go s D (σ.set i (some (.ref p))) (A.kn p o)) : Go (tSeq (tAsg te (gName i)) s) D σ A := fun H a => h H a _ fun p H1 _ e1 hp => k p H1 ⟨A.st _ _ a e1, hp⟩
theorem s_ret (h : Cv (te σ) A v) (k : ∀ H, A.P H → D.rt v H) : Go (tRet te) D σ A := fun H a => h H a _ fun H1 e1 => k H1 (A.st _ _ a e1)
theorem s_next (k : ∀ H, A.P H → D.nx σ H) : Go tNext D σ A := k
theorem q_if {u' : TS} (h : Ct (tt σ) A b) (h1 : b = true → Go t { D with nx := s D } σ A) (h2 : b = false → Go u' { D with nx := s D } σ A) : Go (tSeq (tIfS tt t u') s) D σ A := fun H a => h H a _ fun H1 e1 => by
  cases b with
  | true => exact h1 rfl H1 (A.st _ _ a e1)
  | false => exact h2 rfl H1 (A.st _ _ a e1)
theorem q_when (h : Ct (tt σ) A b) (h1 : b = true → Go t { D with nx := s D } σ A) (h2 : b = false → Go s D σ A) : Go (tSeq (tIfS tt t tNext) s) D σ A := q_if h h1 h2
theorem s_if {u' : TS} (h : Ct (tt σ) A b) (h1 : b = true → Go t D σ A) (h2 : b = false → Go u' D σ A) : Go (tIfS tt t u') D σ A := fun H a => h H a _ fun H1 e1 => by
  cases b with
  | true => exact h1 rfl H1 (A.st _ _ a e1)
  | false => exact h2 rfl H1 (A.st _ _ a e1)
end
/-! ### promises -/
def RetV (v : V) (H : Hp) (Q : VK) : Prop := ∀ H', Same H H' → Q v H'
def RetN (o : HO) (H : Hp) (Q : VK) : Prop := ∀ p H', H p = none → Same H H' → H' p = some o → Q (.ref p) H'
theorem body_go {t : TS} {D : Ends} {σ σ' : L2.St} {H : Hp} (e : σ = σ') (g : Go t D σ' (at_ H H H [])) : t D σ H := by
  rw [e]
  exact g H (at_start (Same.refl H))
structure Dfn (K : PySem.W.Frag) (x qual : Str) (st : Stmt) (ps : List Str) where
  f : Addr
  fd : FuncData
  F : FunD K x qual (defArgs st) (defBody st) (defScope st) [] [] f fd
  b : Binds K fd ps []
theorem Dfn.kp {K : PySem.W.Frag} {x qual : Str} {st : Stmt} {ps : List Str} (d : Dfn K x qual st ps) : PySem.W.keepIn K (.ref d.f) = true := d.F.kp
section
variable {S0 E0 S : Hp} {L : List (Addr × HO)} {v : V} {o : HO} {H : Hp} {Q : VK}
theorem RetV.at (q : RetV v H Q) : ∀ H', (at_ S0 H S L).P H' → Q v H' := fun H' a => q H' a.e0
theorem s_retV {te : TE} {D : Ends} {σ : L2.St} {w : V} (h : Cv (te σ) (at_ S0 H S L) w) (e : w = v) (q : RetV v H D.rt) : Go (tRet te) D σ (at_ S0 H S L) := by
  subst e
  exact s_ret h fun H' a => q H' a.e0
theorem s_retN {te : TE} {D : Ends} {σ : L2.St} {u : HO} (h : Cn (te σ) (at_ S0 H S L) u) (e : u = o) (q : RetN o H D.rt) : Go (tRet te) D σ (at_ S0 H S L) := fun H1 a => h H1 a _ fun p H2 n e2 hp => q p H2 (a.e0.free n) (a.e0.trans e2) (e ▸ hp)
/-- A keeps what H tells -/
def Ext (A : Asr) (H : Hp) : Prop := ∀ H', A.P H' → Same H H'
theorem ext_at : Ext (at_ S0 H S L) H := fun _ a => a.e0
theorem ext_kn {A : Asr} {p : Addr} {o : HO} (h : Ext A H) : Ext (A.kn p o) H := fun H' a => h H' a.1
theorem s_retVx {te : TE} {D : Ends} {σ : L2.St} {w : V} {A : Asr} (h : Cv (te σ) A w) (e : w = v) (x : Ext A H) (q : RetV v H D.rt) : Go (tRet te) D σ A := by
  subst e
  exact s_ret h fun H' a => q H' (x H' a)
theorem s_retNx {te : TE} {D : Ends} {σ : L2.St} {u : HO} {A : Asr} (h : Cn (te σ) A u) (e : u = o) (x : Ext A H) (q : RetN o H D.rt) : Go (tRet te) D σ A := fun H1 a => h H1 a _ fun p H2 n e2 hp => q p H2 ((x H1 a).free n) ((x H1 a).trans e2) (e ▸ hp)
end
end Lo
namespace Lo
open PySem L2
/-! ### loops -/
abbrev CmJ := Hp → (It → Hp → Prop) → Prop
def Cj (c : CmJ) (A : Asr) (J : It) : Prop := ∀ H, A.P H → ∀ R : It → Hp → Prop, (∀ H', Same H H' → R J H') → c H R
/-- what is wanted behind a turn -/
def Nf (P : Nat → L2.St → Asr → Prop) (i : Nat) : L2.St → Hp → Prop := fun σ H => ∃ A, P i σ A ∧ A.P H
def Nw (P : Nat → L2.St → Asr → Prop) (m : Nat) : L2.St → Hp → Prop := fun σ H => ∃ m' A, m' < m ∧ P m' σ A ∧ A.P H
section
variable {K : PySem.W.Frag} {σ : L2.St} {A : Asr} {ta : TA} {te tl : TE} {a b : Addr} {xs ys : List V} {n : Int}
theorem j_rng1 (h : Ca (ta σ) A [.int n]) (h1 : -4611686018427387904 ≤ n) (h2 : n < 4611686018427387904) : Cj (iRng1 ta σ) A (Itr 0 n.toNat) := fun H hA R k => h H hA _ fun H1 e1 => ⟨n, rfl, by omega, by omega, k H1 e1⟩
theorem j_rng2 {lo : Int} (h : Ca (ta σ) A [.int lo, .int n]) (h1 : -4611686018427387904 ≤ lo ∧ lo < 4611686018427387904 ∧ -4611686018427387904 ≤ n ∧ n < 4611686018427387904) : Cj (iRng2 ta σ) A (Itr lo (n - lo).toNat) := fun H hA R k => h H hA _ fun H1 e1 => ⟨lo, n, rfl, by omega, k H1 e1⟩
theorem j_list (h : Cv (tl σ) A (.ref a)) (hx : KnL K A a xs) : Cj (iList K tl σ) A (Itl K a) := fun H hA R k => h H hA _ fun H1 e1 => ⟨a, rfl, ⟨xs, hx H1 (A.st _ _ hA e1)⟩, k H1 e1⟩
theorem j_tup (h : Cv (tl σ) A (.ref a)) (hx : KnT K A a xs) : Cj (iTup K tl σ) A (Itt K a) := fun H hA R k => h H hA _ fun H1 e1 => ⟨a, rfl, ⟨xs, hx H1 (A.st _ _ hA e1)⟩, k H1 e1⟩
theorem j_str {z : Str} (h : Cv (tl σ) A (.str z)) : Cj (iStr tl σ) A (Its z) := fun H hA R k => h H hA _ fun H1 e1 => ⟨z, rfl, k H1 e1⟩
theorem j_enum (h : Ca (ta σ) A [.ref a]) (hx : KnL K A a xs) : Cj (iEnum K ta σ) A (Ite K a) := fun H hA R k => h H hA _ fun H1 e1 => ⟨a, xs, rfl, hx H1 (A.st _ _ hA e1), k H1 e1⟩
theorem j_rev (h : Ca (ta σ) A [.ref a]) (hx : KnL K A a xs) : Cj (iRev K ta σ) A (Itv K a xs.length) := fun H hA R k => h H hA _ fun H1 e1 => ⟨a, xs, rfl, hx H1 (A.st _ _ hA e1), k H1 e1⟩
theorem j_zip (h : Ca (ta σ) A [.ref a, .ref b]) (hx : KnL K A a xs) (hy : KnL K A b ys) : Cj (iZip K ta σ) A (Itz K a b) := fun H hA R k => h H hA _ fun H1 e1 => ⟨a, b, xs, ys, rfl, hx H1 (A.st _ _ hA e1), hy H1 (A.st _ _ hA e1), k H1 e1⟩
end
section
variable {K : PySem.W.Frag} {σ : L2.St} {A : Asr} {wi : TI} {g : TG} {tb : TS} {D : Ends} {J : It} {m j k : Nat} {G : Hp → Prop} {Y : Nat → Hp → V → Hp → Prop} {xs : List V}
/-- the end of a turn -/
theorem nf {P : Nat → L2.St → Asr → Prop} {i : Nat} {σ' : L2.St} {A' : Asr} (h : P i σ' A') : ∀ H, A'.P H → Nf P i σ' H := fun _ hA => ⟨A', h, hA⟩
theorem nw {P : Nat → L2.St → Asr → Prop} {i i' : Nat} {σ' : L2.St} {A' : Asr} (hl : i' < i) (h : P i' σ' A') : ∀ H, A'.P H → Nw P i σ' H := fun _ hA => ⟨i', A', hl, h, hA⟩
theorem nf_drop {P : Nat → L2.St → Asr → Prop} {i : Nat} {σ' : L2.St} {S0 E0 S : Hp} {L L' : List (Addr × HO)} (hs : L'.Sublist L) (h : P i σ' (at_ S0 E0 S L')) : ∀ H, (at_ S0 E0 S L).P H → Nf P i σ' H := fun _ hA => ⟨_, h, AtP.drop hA hs⟩
theorem s_for (hj : Cj (wi σ) A J) (w : Walk J m G Y) (P : Nat → L2.St → Asr → Prop) (h0 : P 0 σ A) (hG : ∀ i σ' A', i ≤ m → P i σ' A' → ∀ H, A'.P H → G H)
    (hs : ∀ i σ' A', i < m → P i σ' A' → ∀ H, A'.P H → ∀ x H', Y i H x H' → g x σ' H' fun σ2 H2 => tb { D with nx := Nf P (i + 1), ct := Nf P (i + 1), bk := D.nx } σ2 H2)
    (hd : ∀ σ' A', P m σ' A' → ∀ H, A'.P H → D.nx σ' H) : Go (tFor wi g tb) D σ A := fun H hA => hj H hA _ fun H1 e1 =>
  for_it w (Nf P) ⟨A, h0, A.st _ _ hA e1⟩ (fun i σ' H' hi ⟨A', p, a⟩ => hG i σ' A' hi p H' a) (fun i x σ' H' H2 hi ⟨A', p, a⟩ y => hs i σ' A' hi p H' a x H2 y) (fun σ' H' ⟨A', p, a⟩ => hd σ' A' p H' a)
/-- each turn's value is told by the turn -/
theorem s_forF {f : Nat → V} (hj : Cj (wi σ) A J) (w : Walk J m (fun _ => True) (YFn f)) (P : Nat → L2.St → Asr → Prop) (h0 : P 0 σ A)
    (hs : ∀ i σ' A', i < m → P i σ' A' → Go tb { D with nx := Nf P (i + 1), ct := Nf P (i + 1), bk := D.nx } (σ'.set j (some (f i))) A') (hd : ∀ σ' A', P m σ' A' → ∀ H, A'.P H → D.nx σ' H) : Go (tFor wi (gName j) tb) D σ A :=
  s_for hj w P h0 (fun _ _ _ _ _ _ _ => True.intro) (fun i σ' A' hi p H hA x H' y => by
    obtain ⟨rfl, rfl⟩ := y
    exact hs i σ' A' hi p _ hA) hd
theorem s_forA (hj : Cj (wi σ) A J) (w : Walk J m G (YAt xs)) (P : Nat → L2.St → Asr → Prop) (h0 : P 0 σ A) (hG : ∀ i σ' A', i ≤ m → P i σ' A' → ∀ H, A'.P H → G H)
    (hs : ∀ i x σ' A', xs[i]? = some x → P i σ' A' → Go tb { D with nx := Nf P (i + 1), ct := Nf P (i + 1), bk := D.nx } (σ'.set j (some x)) A') (hd : ∀ σ' A', P m σ' A' → ∀ H, A'.P H → D.nx σ' H) : Go (tFor wi (gName j) tb) D σ A :=
  s_for hj w P h0 hG (fun i σ' A' hi p H hA x H' y => by
    obtain ⟨rfl, hx⟩ := y
    exact hs i x σ' A' hx p _ hA) hd
/-- range(n) -/
theorem s_forR {ta : TA} {n : Int} (h : Ca (ta σ) A [.int n]) (h2 : n < 4611686018427387904) (h1 : -4611686018427387904 ≤ n) (P : Nat → L2.St → Asr → Prop) (h0 : P 0 σ A)
    (hs : ∀ (i : Nat) σ' A', (i : Int) < n → P i σ' A' → Go tb { D with nx := Nf P (i + 1), ct := Nf P (i + 1), bk := D.nx } (σ'.set j (some (.int (i : Int)))) A') (hd : ∀ σ' A', P n.toNat σ' A' → ∀ H, A'.P H → D.nx σ' H) : Go (tFor (iRng1 ta) (gName j) tb) D σ A :=
  s_forF (j_rng1 h h1 h2) walk_range P h0 (fun i σ' A' hi p => by
    have e0 : (0 : Int) + (i : Int) = (i : Int) := Int.zero_add _
    rw [e0]
    exact hs i σ' A' (by omega) p) hd
theorem s_forR2 {ta : TA} {lo n : Int} (h : Ca (ta σ) A [.int lo, .int n]) (h1 : -4611686018427387904 ≤ lo ∧ lo < 4611686018427387904 ∧ -4611686018427387904 ≤ n ∧ n < 4611686018427387904) (P : Nat → L2.St → Asr → Prop) (h0 : P 0 σ A)
    (hs : ∀ (i : Nat) σ' A', lo + (i : Int) < n → P i σ' A' → Go tb { D with nx := Nf P (i + 1), ct := Nf P (i + 1), bk := D.nx } (σ'.set j (some (.int (lo + (i : Int))))) A') (hd : ∀ σ' A', P (n - lo).toNat σ' A' → ∀ H, A'.P H → D.nx σ' H) : Go (tFor (iRng2 ta) (gName j) tb) D σ A :=
  s_forF (j_rng2 h h1) walk_range P h0 (fun i σ' A' hi p => hs i σ' A' (by omega) p) hd
/-- a list that stays -/
theorem s_forL {tl : TE} {a : Addr} (h : Cv (tl σ) A (.ref a)) (P : Nat → L2.St → Asr → Prop) (h0 : P 0 σ A) (hx : ∀ i σ' A', P i σ' A' → KnL K A' a xs)
    (hs : ∀ i x σ' A', xs[i]? = some x → P i σ' A' → Go tb { D with nx := Nf P (i + 1), ct := Nf P (i + 1), bk := D.nx } (σ'.set j (some x)) A') (hd : ∀ σ' A', P xs.length σ' A' → ∀ H, A'.P H → D.nx σ' H) : Go (tFor (iList K tl) (gName j) tb) D σ A :=
  s_forA (j_list h (hx 0 σ A h0)) walk_list P h0 (fun i σ' A' _ p => hx i σ' A' p) hs hd
/-- a new list -/
theorem s_forN {tl : TE} (h : Cn (tl σ) A (.lst xs)) (P : Addr → Nat → L2.St → Asr → Prop) (h0 : ∀ p, P p 0 σ (A.kn p (.lst xs))) (hx : ∀ p i σ' A', P p i σ' A' → KnL K A' p xs)
    (hs : ∀ p i x σ' A', xs[i]? = some x → P p i σ' A' → Go tb { D with nx := Nf (P p) (i + 1), ct := Nf (P p) (i + 1), bk := D.nx } (σ'.set j (some x)) A') (hd : ∀ p σ' A', P p xs.length σ' A' → ∀ H, A'.P H → D.nx σ' H) : Go (tFor (iList K tl) (gName j) tb) D σ A := fun H hA =>
  h H hA _ fun p H1 _ e1 hp => ⟨p, rfl, ⟨xs, SqL.of hp⟩, for_it walk_list (Nf (P p)) ⟨_, h0 p, A.st _ _ hA e1, hp⟩ (fun i σ' H' _ ⟨A', q, a⟩ => hx p i σ' A' q H' a) (fun i x σ' H' H2 _ ⟨A', q, a⟩ y => by
    obtain ⟨rfl, hx2⟩ := y
    exact hs p i x σ' A' hx2 q _ a) (fun σ' H' ⟨A', q, a⟩ => hd p σ' A' q H' a)⟩
theorem s_forT {tl : TE} {a : Addr} (h : Cv (tl σ) A (.ref a)) (P : Nat → L2.St → Asr → Prop) (h0 : P 0 σ A) (hx : ∀ i σ' A', P i σ' A' → KnT K A' a xs)
    (hs : ∀ i x σ' A', xs[i]? = some x → P i σ' A' → Go tb { D with nx := Nf P (i + 1), ct := Nf P (i + 1), bk := D.nx } (σ'.set j (some x)) A') (hd : ∀ σ' A', P xs.length σ' A' → ∀ H, A'.P H → D.nx σ' H) : Go (tFor (iTup K tl) (gName j) tb) D σ A :=
  s_forA (j_tup h (hx 0 σ A h0)) walk_tup P h0 (fun i σ' A' _ p => hx i σ' A' p) hs hd
/-- a text -/
theorem s_forS {tl : TE} {z : Str} (h : Cv (tl σ) A (.str z)) (P : Nat → L2.St → Asr → Prop) (h0 : P 0 σ A)
    (hs : ∀ i c σ' A', z.cps.toList[i]? = some c → P i σ' A' → Go tb { D with nx := Nf P (i + 1), ct := Nf P (i + 1), bk := D.nx } (σ'.set j (some (.str ⟨#[c]⟩))) A') (hd : ∀ σ' A', P z.length σ' A' → ∀ H, A'.P H → D.nx σ' H) : Go (tFor (iStr tl) (gName j) tb) D σ A :=
  s_for (j_str h) walk_str P h0 (fun _ _ _ _ _ _ _ => True.intro) (fun i σ' A' hi p H hA x H' y => by
    obtain ⟨rfl, c, hc, rfl⟩ := y
    exact hs i c σ' A' (by rw [← hc]; simp) p _ hA) hd
/-- for i, x in pairs that are made for each turn -/
theorem s_forP {K' : PySem.W.Frag} {fx fy : Nat → Option V} (hj : Cj (wi σ) A J) (w : Walk J m G (YPair fx fy)) (P : Nat → L2.St → Asr → Prop) (h0 : P 0 σ A) (hG : ∀ i σ' A', i ≤ m → P i σ' A' → ∀ H, A'.P H → G H)
    (hs : ∀ i x y σ' A', i < m → fx i = some x → fy i = some y → P i σ' A' → Go tb { D with nx := Nf P (i + 1), ct := Nf P (i + 1), bk := D.nx } ((σ'.set j (some x)).set k (some y)) A') (hd : ∀ σ' A', P m σ' A' → ∀ H, A'.P H → D.nx σ' H) :
    Go (tFor wi (gTup K' 2 (gCons (gName j) (gCons (gName k) gNil))) tb) D σ A :=
  s_for hj w P h0 hG (fun i σ' A' hi p H hA x H' y => by
    obtain ⟨T, u, v, rfl, hT, rfl, h1, h2⟩ := y
    exact ⟨T, [u, v], rfl, SqT.of upd_same, rfl, u, [v], rfl, v, [], rfl, rfl, hs i u v σ' A' hi h1 h2 p _ (A'.st _ _ hA (same_new hT))⟩) hd
theorem s_forE {ta : TA} {a : Addr} {K' : PySem.W.Frag} (h : Ca (ta σ) A [.ref a]) (P : Nat → L2.St → Asr → Prop) (h0 : P 0 σ A) (hx : ∀ i σ' A', P i σ' A' → KnL K A' a xs)
    (hs : ∀ (i : Nat) x σ' A', xs[i]? = some x → P i σ' A' → Go tb { D with nx := Nf P (i + 1), ct := Nf P (i + 1), bk := D.nx } ((σ'.set j (some (.int (i : Int)))).set k (some x)) A') (hd : ∀ σ' A', P xs.length σ' A' → ∀ H, A'.P H → D.nx σ' H) :
    Go (tFor (iEnum K ta) (gTup K' 2 (gCons (gName j) (gCons (gName k) gNil))) tb) D σ A :=
  s_forP (j_enum h (hx 0 σ A h0)) walk_enum P h0 (fun i σ' A' _ p => hx i σ' A' p) (fun i x y σ' A' hi h1 h2 p => by
    cases h1
    exact hs i y σ' A' h2 p) hd
theorem s_while {tt : TT} (P : Nat → L2.St → Asr → Prop) (m0 : Nat) (h0 : P m0 σ A)
    (hs : ∀ m σ' A', P m σ' A' → ∃ b, Ct (tt σ') A' b ∧ (b = true → Go tb { D with nx := Nw P m, ct := Nw P m, bk := D.nx } σ' A') ∧ (b = false → ∀ H, A'.P H → D.nx σ' H)) : Go (tWhile tt tb) D σ A := fun H hA =>
  ⟨fun m σ' H' => ∃ A', P m σ' A' ∧ A'.P H', ⟨m0, A, h0, hA⟩, fun m σ' H' ⟨A', p, a⟩ => by
    obtain ⟨b, hb, h1, h2⟩ := hs m σ' A' p
    refine hb H' a _ fun H1 e1 => ?_
    cases b with
    | true =>
      rw [if_pos rfl]
      exact ⟨Nw P m, fun σ2 H2 ⟨m', A2, hl, p2, a2⟩ => ⟨m', hl, A2, p2, a2⟩, h1 rfl H1 (A'.st _ _ a e1)⟩
    | false =>
      rw [if_neg Bool.false_ne_true]
      exact h2 rfl H1 (A'.st _ _ a e1)⟩
end
section
variable {K : PySem.W.Frag} {σ : L2.St} {A : Asr} {wi : TI} {g : TG} {tb s : TS} {D : Ends} {m j k : Nat} {xs : List V}
theorem q_forR {ta : TA} {n : Int} (h : Ca (ta σ) A [.int n]) (h2 : n < 4611686018427387904) (h1 : -4611686018427387904 ≤ n) (P : Nat → L2.St → Asr → Prop) (h0 : P 0 σ A)
    (hs : ∀ (i : Nat) σ' A', (i : Int) < n → P i σ' A' → Go tb { D with nx := Nf P (i + 1), ct := Nf P (i + 1), bk := s D } (σ'.set j (some (.int (i : Int)))) A') (hd : ∀ σ' A', P n.toNat σ' A' → Go s D σ' A') : Go (tSeq (tFor (iRng1 ta) (gName j) tb) s) D σ A :=
  g_seq (s_forR h h2 h1 P h0 hs hd)
theorem q_forR2 {ta : TA} {lo n : Int} (h : Ca (ta σ) A [.int lo, .int n]) (h1 : -4611686018427387904 ≤ lo ∧ lo < 4611686018427387904 ∧ -4611686018427387904 ≤ n ∧ n < 4611686018427387904) (P : Nat → L2.St → Asr → Prop) (h0 : P 0 σ A)
    (hs : ∀ (i : Nat) σ' A', lo + (i : Int) < n → P i σ' A' → Go tb { D with nx := Nf P (i + 1), ct := Nf P (i + 1), bk := s D } (σ'.set j (some (.int (lo + (i : Int))))) A') (hd : ∀ σ' A', P (n - lo).toNat σ' A' → Go s D σ' A') : Go (tSeq (tFor (iRng2 ta) (gName j) tb) s) D σ A :=
  g_seq (s_forR2 h h1 P h0 hs hd)
theorem q_forL {tl : TE} {a : Addr} (h : Cv (tl σ) A (.ref a)) (P : Nat → L2.St → Asr → Prop) (h0 : P 0 σ A) (hx : ∀ i σ' A', P i σ' A' → KnL K A' a xs)
    (hs : ∀ i x σ' A', xs[i]? = some x → P i σ' A' → Go tb { D with nx := Nf P (i + 1), ct := Nf P (i + 1), bk := s D } (σ'.set j (some x)) A') (hd : ∀ σ' A', P xs.length σ' A' → Go s D σ' A') : Go (tSeq (tFor (iList K tl) (gName j) tb) s) D σ A :=
  g_seq (s_forL h P h0 hx hs hd)
theorem q_forN {tl : TE} (h : Cn (tl σ) A (.lst xs)) (P : Addr → Nat → L2.St → Asr → Prop) (h0 : ∀ p, P p 0 σ (A.kn p (.lst xs))) (hx : ∀ p i σ' A', P p i σ' A' → KnL K A' p xs)
    (hs : ∀ p i x σ' A', xs[i]? = some x → P p i σ' A' → Go tb { D with nx := Nf (P p) (i + 1), ct := Nf (P p) (i + 1), bk := s D } (σ'.set j (some x)) A') (hd : ∀ p σ' A', P p xs.length σ' A' → Go s D σ' A') : Go (tSeq (tFor (iList K tl) (gName j) tb) s) D σ A :=
  g_seq (s_forN h P h0 hx hs hd)
theorem q_forT {tl : TE} {a : Addr} (h : Cv (tl σ) A (.ref a)) (P : Nat → L2.St → Asr → Prop) (h0 : P 0 σ A) (hx : ∀ i σ' A', P i σ' A' → KnT K A' a xs)
    (hs : ∀ i x σ' A', xs[i]? = some x → P i σ' A' → Go tb { D with nx := Nf P (i + 1), ct := Nf P (i + 1), bk := s D } (σ'.set j (some x)) A') (hd : ∀ σ' A', P xs.length σ' A' → Go s D σ' A') : Go (tSeq (tFor (iTup K tl) (gName j) tb) s) D σ A :=
  g_seq (s_forT h P h0 hx hs hd)
theorem q_forS {tl : TE} {z : Str} (h : Cv (tl σ) A (.str z)) (P : Nat → L2.St → Asr → Prop) (h0 : P 0 σ A)
    (hs : ∀ i c σ' A', z.cps.toList[i]? = some c → P i σ' A' → Go tb { D with nx := Nf P (i + 1), ct := Nf P (i + 1), bk := s D } (σ'.set j (some (.str ⟨#[c]⟩))) A') (hd : ∀ σ' A', P z.length σ' A' → Go s D σ' A') : Go (tSeq (tFor (iStr tl) (gName j) tb) s) D σ A :=
  g_seq (s_forS h P h0 hs hd)
theorem q_forE {ta : TA} {a : Addr} {K' : PySem.W.Frag} (h : Ca (ta σ) A [.ref a]) (P : Nat → L2.St → Asr → Prop) (h0 : P 0 σ A) (hx : ∀ i σ' A', P i σ' A' → KnL K A' a xs)
    (hs : ∀ (i : Nat) x σ' A', xs[i]? = some x → P i σ' A' → Go tb { D with nx := Nf P (i + 1), ct := Nf P (i + 1), bk := s D } ((σ'.set j (some (.int (i : Int)))).set k (some x)) A') (hd : ∀ σ' A', P xs.length σ' A' → Go s D σ' A') :
    Go (tSeq (tFor (iEnum K ta) (gTup K' 2 (gCons (gName j) (gCons (gName k) gNil))) tb) s) D σ A :=
  g_seq (s_forE h P h0 hx hs hd)
theorem q_while {tt : TT} (P : Nat → L2.St → Asr → Prop) (m0 : Nat) (h0 : P m0 σ A)
    (hs : ∀ m σ' A', P m σ' A' → ∃ b, Ct (tt σ') A' b ∧ (b = true → Go tb { D with nx := Nw P m, ct := Nw P m, bk := s D } σ' A') ∧ (b = false → Go s D σ' A')) : Go (tSeq (tWhile tt tb) s) D σ A :=
  g_seq (s_while P m0 h0 hs)
end
/-! ### objects of one's own in statements -/
section
variable {K : PySem.W.Frag} {S0 E0 S : Hp} {L L' : List (Addr × HO)} {σ : L2.St} {te tv ti : TE} {v y : V} {o u : HO} {D : Ends} {s : TS} {i j : Nat} {k : Int} {p : Addr} {xs : List V}
theorem q_own (h : Cn (te σ) (at_ S0 E0 S L) o) (k : ∀ p, Go s D (σ.set i (some (.ref p))) (at_ S0 E0 S ((p, o) :: L))) : Go (tSeq (tAsg te (gName i)) s) D σ (at_ S0 E0 S L) :=
  fun H a => h H a _ fun p H1 n e1 hp => k p H1 (AtP.own a n e1 hp)
theorem s_own (h : Cn (te σ) (at_ S0 E0 S L) o) (k : ∀ p H, (at_ S0 E0 S ((p, o) :: L)).P H → D.nx (σ.set i (some (.ref p))) H) : Go (tAsg te (gName i)) D σ (at_ S0 E0 S L) :=
  fun H a => h H a _ fun p H1 n e1 hp => k p H1 (AtP.own a n e1 hp)
theorem app_run (hv : Cv (tv σ) (at_ S0 E0 S L) (.ref p)) (h : Cv (te σ) (at_ S0 E0 S L) v) (w : Up1 p (.lst xs) (.lst (xs ++ [v])) L L') (hz : xs.length < sizeLine) (k : ∀ H, AtP S0 E0 S L' H → D.nx σ H) :
    Go (tDrop (tBM K "list" rAppend tv (tCons te tNil))) D σ (at_ S0 E0 S L) := fun H a => hv H a _ fun H1 e1 => by
  have a1 : AtP S0 E0 S L H1 := AtP.ext a e1
  exact ⟨.inl ⟨rfl, xs, SqL.of (a1.ow _ w.mem).1⟩, h H1 a1 _ fun H2 e2 => ⟨p, xs, v, rfl, rfl, ((a1.ext e2).ow _ w.mem).1, hz, k _ ((a1.ext e2).put w)⟩⟩
theorem q_app (hv : Cv (tv σ) (at_ S0 E0 S L) (.ref p)) (h : Cv (te σ) (at_ S0 E0 S L) v) (w : Up1 p (.lst xs) (.lst (xs ++ [v])) L L') (hz : xs.length < sizeLine) (k : Go s D σ (at_ S0 E0 S L')) :
    Go (tSeq (tDrop (tBM K "list" rAppend tv (tCons te tNil))) s) D σ (at_ S0 E0 S L) := g_seq (app_run hv h w hz k)
theorem s_app (hv : Cv (tv σ) (at_ S0 E0 S L) (.ref p)) (h : Cv (te σ) (at_ S0 E0 S L) v) (w : Up1 p (.lst xs) (.lst (xs ++ [v])) L L') (hz : xs.length < sizeLine) (k : ∀ H, (at_ S0 E0 S L').P H → D.nx σ H) :
    Go (tDrop (tBM K "list" rAppend tv (tCons te tNil))) D σ (at_ S0 E0 S L) := app_run hv h w hz k
/-- a new object is put behind, for good -/
theorem appN_run {N : Addr → List (Addr × HO)} (hv : Cv (tv σ) (at_ S0 E0 S L) (.ref p)) (h : Cn (te σ) (at_ S0 E0 S L) o) (w : ∀ q, Up1 p (.lst xs) (.lst (xs ++ [.ref q])) L (N q)) (hz : xs.length < sizeLine)
    (k : ∀ q, S q = none → q ≠ p → ∀ H, AtP S0 E0 (upd S q o) (N q) H → D.nx σ H) :
    Go (tDrop (tBM K "list" rAppend tv (tCons te tNil))) D σ (at_ S0 E0 S L) := fun H a => hv H a _ fun H1 e1 => by
  have a1 : AtP S0 E0 S L H1 := AtP.ext a e1
  have m := (w p).mem
  refine ⟨.inl ⟨rfl, xs, SqL.of (a1.ow _ m).1⟩, h H1 a1 _ fun q H2 n e2 hq => ?_⟩
  have a2 : AtP S0 E0 S L H2 := a1.ext e2
  exact ⟨p, xs, .ref q, rfl, rfl, (a2.ow _ m).1, hz, k q (a1.sh.free n) (fun e => by rw [e, (a1.ow _ m).1] at n; cases n) _ ((a1.own n e2 hq).put (Up1.tail (w q))).keep⟩
theorem q_appN {N : Addr → List (Addr × HO)} (hv : Cv (tv σ) (at_ S0 E0 S L) (.ref p)) (h : Cn (te σ) (at_ S0 E0 S L) o) (w : ∀ q, Up1 p (.lst xs) (.lst (xs ++ [.ref q])) L (N q)) (hz : xs.length < sizeLine)
    (k : ∀ q, S q = none → q ≠ p → Go s D σ (at_ S0 E0 (upd S q o) (N q))) : Go (tSeq (tDrop (tBM K "list" rAppend tv (tCons te tNil))) s) D σ (at_ S0 E0 S L) := g_seq (appN_run hv h w hz k)
theorem s_appN {N : Addr → List (Addr × HO)} (hv : Cv (tv σ) (at_ S0 E0 S L) (.ref p)) (h : Cn (te σ) (at_ S0 E0 S L) o) (w : ∀ q, Up1 p (.lst xs) (.lst (xs ++ [.ref q])) L (N q)) (hz : xs.length < sizeLine)
    (k : ∀ q, S q = none → q ≠ p → ∀ H, (at_ S0 E0 (upd S q o) (N q)).P H → D.nx σ H) : Go (tDrop (tBM K "list" rAppend tv (tCons te tNil))) D σ (at_ S0 E0 S L) := appN_run hv h w hz k
theorem set_run (h : Cv (te σ) (at_ S0 E0 S L) v) (hv : Cv (tv σ) (at_ S0 E0 S L) (.ref p)) (hi : Cv (ti σ) (at_ S0 E0 S L) (.int k)) (hj : ixN xs.length k = some j) (w : Up1 p (.lst xs) (.lst (xs.set j v)) L L') (c : ∀ H, AtP S0 E0 S L' H → D.nx σ H) :
    Go (tAsg te (gSub tv ti rSetA)) D σ (at_ S0 E0 S L) := fun H a => h H a _ fun H1 e1 => by
  have a1 : AtP S0 E0 S L H1 := AtP.ext a e1
  refine hv H1 a1 _ fun H2 e2 => hi H2 (a1.ext e2) _ fun H3 e3 => ?_
  have a3 : AtP S0 E0 S L H3 := (a1.ext e2).ext e3
  exact .inl ⟨p, xs, k, j, rfl, rfl, (a3.ow _ w.mem).1, hj, c _ (a3.put w)⟩
theorem q_set (h : Cv (te σ) (at_ S0 E0 S L) v) (hv : Cv (tv σ) (at_ S0 E0 S L) (.ref p)) (hi : Cv (ti σ) (at_ S0 E0 S L) (.int k)) (hj : ixN xs.length k = some j) (w : Up1 p (.lst xs) (.lst (xs.set j v)) L L') (c : Go s D σ (at_ S0 E0 S L')) :
    Go (tSeq (tAsg te (gSub tv ti rSetA)) s) D σ (at_ S0 E0 S L) := g_seq (set_run h hv hi hj w c)
theorem s_set (h : Cv (te σ) (at_ S0 E0 S L) v) (hv : Cv (tv σ) (at_ S0 E0 S L) (.ref p)) (hi : Cv (ti σ) (at_ S0 E0 S L) (.int k)) (hj : ixN xs.length k = some j) (w : Up1 p (.lst xs) (.lst (xs.set j v)) L L') (c : ∀ H, (at_ S0 E0 S L').P H → D.nx σ H) :
    Go (tAsg te (gSub tv ti rSetA)) D σ (at_ S0 E0 S L) := set_run h hv hi hj w c
theorem q_pop (hv : Cv (tv σ) (at_ S0 E0 S L) (.ref p)) (hy : xs[xs.length - 1]? = some y) (w : Up1 p (.lst xs) (.lst xs.dropLast) L L') (c : Go s D (σ.set i (some y)) (at_ S0 E0 S L')) :
    Go (tSeq (tAsg (tBM0 K "list" rPop tv) (gName i)) s) D σ (at_ S0 E0 S L) := fun H a => hv H a _ fun H1 e1 => by
  have a1 : AtP S0 E0 S L H1 := AtP.ext a e1
  exact ⟨.inl ⟨rfl, xs, SqL.of (a1.ow _ w.mem).1⟩, p, xs, y, rfl, rfl, (a1.ow _ w.mem).1, hy, c _ (a1.put w)⟩
end
section
variable {S0 S H : Hp} {L : List (Addr × HO)} {σ : L2.St} {te : TE} {o : HO} {D : Ends} {p : Addr}
theorem s_retO (hv : Cv (te σ) (at_ S0 H S L) (.ref p)) (hm : (p, o) ∈ L) (q : RetN o H D.rt) : Go (tRet te) D σ (at_ S0 H S L) := fun H1 a => hv H1 a _ fun H2 e2 => by
  have a2 : AtP S0 H S L H2 := AtP.ext a e2
  exact q p H2 (a2.ow _ hm).2.2 a2.e0 (a2.ow _ hm).1
end
/-- a statement that is never reached -/
def tDead : TS := fun _ _ _ => False
theorem ps_dead {X : Cx} {st : Stmt} : PS X st tDead := ⟨fun _ _ _ _ _ _ h => False.elim h⟩
theorem go_dead {D : Ends} {σ : L2.St} {A : Asr} (h : False) : Go tDead D σ A := h.elim
/-- sep.join(xs) -/
def rJoin (K : PySem.W.Frag) : V → List V → Hp → VK → Prop := fun x xs H Q => ∃ a p, ∃ ys : List Str, x = .str a ∧ xs = [.ref p] ∧ (SqL K H p (ys.map V.str) ∨ SqT K H p (ys.map V.str)) ∧
  (ys.map (·.length)).sum + ys.length * a.length ≤ 16777216 ∧ Q (.str (Txt.join a ys)) H
open PySem.Spec PyProof.Rows in
theorem pe_joinA {X : Cx} {o e : Expr} {to te : TE} {apos pos : Pos} (ho : PE X o to) (he : PE X e te) (hs : starEach [e] X.env = [(false, eval e X.env)] := by rfl) (hbase : attributeBase o "join" X.env (eval o X.env) = eval o X.env := by rfl) (hline : (apos.endLine == pos.line) = true := by rfl) :
    PE X (.Call (.Attribute o "join" apos) [e] [] pos) (tM1 (rJoin X.K) to te) := pe_join ho he hs hbase hline
theorem e_join {K : PySem.W.Frag} {A : Asr} {a : Str} {p : Addr} {ys : List Str} (h : KnL K A p (ys.map V.str)) (hz : (ys.map (·.length)).sum + ys.length * a.length ≤ 16777216) : Cv (rJoin K (.str a) [.ref p]) A (.str (Txt.join a ys)) := fun H hA _ q =>
  ⟨a, p, ys, rfl, rfl, .inl (h H hA), hz, q H (Same.refl H)⟩
/-- list(xs) -/
def rCopy (K : PySem.W.Frag) : List V → Hp → VK → Prop := fun xs H Q => ∃ p ys, xs = [.ref p] ∧ (SqL K H p ys ∨ SqT K H p ys) ∧ ∀ l, H l = none → Q (.ref l) (upd H l (.lst ys))
theorem call_copyA {X : Cx} : CallR X (.type "list") (rCopy X.K) := call_list_of
theorem e_copyL {K : PySem.W.Frag} {A : Asr} {p : Addr} {ys : List V} (h : KnL K A p ys) : Cn (rCopy K [.ref p]) A (.lst ys) := fun H hA _ q => ⟨p, ys, rfl, .inl (h H hA), fun l hl => q l _ hl (same_new hl) upd_same⟩
theorem e_copyT {K : PySem.W.Frag} {A : Asr} {p : Addr} {ys : List V} (h : KnT K A p ys) : Cn (rCopy K [.ref p]) A (.lst ys) := fun H hA _ q => ⟨p, ys, rfl, .inr (h H hA), fun l hl => q l _ hl (same_new hl) upd_same⟩
/-- range with a step -/
theorem j_rng3 {σ : L2.St} {A : Asr} {ta : TA} {lo n c : Int} {m : Nat} (h : Ca (ta σ) A [.int lo, .int n, .int c]) (h1 : RgC lo n c m) : Cj (iRng3 ta σ) A (Itc lo c m) := fun H hA R k => h H hA _ fun H1 e1 => ⟨lo, n, c, m, rfl, h1, k H1 e1⟩
section
variable {K : PySem.W.Frag} {S0 E0 S : Hp} {L : List (Addr × HO)} {σ : L2.St} {tb s : TS} {D : Ends} {j : Nat} {xs : List V}
theorem s_forO {tl : TE} (h : Cn (tl σ) (at_ S0 E0 S L) (.lst xs)) (P : Addr → Nat → L2.St → Asr → Prop) (h0 : ∀ p, P p 0 σ (at_ S0 E0 S ((p, .lst xs) :: L))) (hx : ∀ p i σ' A', P p i σ' A' → KnL K A' p xs)
    (hs : ∀ p i x σ' A', xs[i]? = some x → P p i σ' A' → Go tb { D with nx := Nf (P p) (i + 1), ct := Nf (P p) (i + 1), bk := D.nx } (σ'.set j (some x)) A') (hd : ∀ p σ' A', P p xs.length σ' A' → ∀ H, A'.P H → D.nx σ' H) : Go (tFor (iList K tl) (gName j) tb) D σ (at_ S0 E0 S L) := fun H hA =>
  h H hA _ fun p H1 n e1 hp => ⟨p, rfl, ⟨xs, SqL.of hp⟩, for_it walk_list (Nf (P p)) ⟨_, h0 p, AtP.own hA n e1 hp⟩ (fun i σ' H' _ ⟨A', q, a⟩ => hx p i σ' A' q H' a) (fun i x σ' H' H2 _ ⟨A', q, a⟩ y => by
    obtain ⟨rfl, hx2⟩ := y
    exact hs p i x σ' A' hx2 q _ a) (fun σ' H' ⟨A', q, a⟩ => hd p σ' A' q H' a)⟩
theorem q_forO {tl : TE} (h : Cn (tl σ) (at_ S0 E0 S L) (.lst xs)) (P : Addr → Nat → L2.St → Asr → Prop) (h0 : ∀ p, P p 0 σ (at_ S0 E0 S ((p, .lst xs) :: L))) (hx : ∀ p i σ' A', P p i σ' A' → KnL K A' p xs)
    (hs : ∀ p i x σ' A', xs[i]? = some x → P p i σ' A' → Go tb { D with nx := Nf (P p) (i + 1), ct := Nf (P p) (i + 1), bk := s D } (σ'.set j (some x)) A') (hd : ∀ p σ' A', P p xs.length σ' A' → Go s D σ' A') : Go (tSeq (tFor (iList K tl) (gName j) tb) s) D σ (at_ S0 E0 S L) :=
  g_seq (s_forO h P h0 hx hs hd)
end
/-! ### comprehensions -/
section
variable {K : PySem.W.Frag} {σ : L2.St} {A : Asr} {wi : TI} {g : TG} {tt : TT} {te : TE} {J : It} {m j k : Nat} {G : Hp → Prop} {Y : Nat → Hp → V → Hp → Prop} {vs : List Nat}
def AccP (acc : Nat → List V) (H1 : Hp) (Dl : Addr) (i : Nat) (H : Hp) : Prop := H1 Dl = none ∧ Same H1 H ∧ H Dl = some (.lst (acc i))
theorem same_mut {H H' : Hp} {p : Addr} {o : HO} (e : Same H H') (h : H p = none) : Same H (upd H' p o) := fun a u ha => by
  rw [upd_ne (ne_of_none ha h)]
  exact e a u ha
theorem lc_turn {c : CmB} {e : Cm} {b : Bool} {v : V} {H1 H' : Hp} {Dl : Addr} {acc : Nat → List V} {i : Nat} (p : AccP acc H1 Dl i H') (hA : A.P H1) (hz : (acc i).length < sizeLine) (ht : Ct c A b) (he : b = true → Cv e A v)
    (ha : acc (i + 1) = if b then acc i ++ [v] else acc i) :
    c H' fun b H3 => if b = true then e H3 fun y H4 => ∃ ac, H4 Dl = some (.lst ac) ∧ ac.length < sizeLine ∧ AccP acc H1 Dl (i + 1) (upd H4 Dl (.lst (ac ++ [y]))) else AccP acc H1 Dl (i + 1) H3 := by
  obtain ⟨p1, p2, p3⟩ := p
  refine ht H' (A.st _ _ hA p2) _ fun H3 e3 => ?_
  cases b with
  | true =>
    rw [if_pos rfl]
    rw [if_pos rfl] at ha
    refine he rfl H3 (A.st _ _ hA (p2.trans e3)) _ fun H4 e4 => ⟨acc i, e4 Dl _ (e3 Dl _ p3), hz, p1, same_mut ((p2.trans e3).trans e4) p1, ?_⟩
    rw [ha]
    exact upd_same
  | false =>
    rw [if_neg Bool.false_ne_true]
    rw [if_neg Bool.false_ne_true] at ha
    refine ⟨p1, p2.trans e3, ?_⟩
    rw [ha]
    exact e3 Dl _ p3
theorem range_acc {p : Nat → Bool} {v : Nat → V} (i : Nat) : ((List.range (i + 1)).filter p).map v = if p i then ((List.range i).filter p).map v ++ [v i] else ((List.range i).filter p).map v := by
  rw [List.range_succ, List.filter_append, List.map_append, List.filter_cons]
  split <;> simp
theorem range_len {p : Nat → Bool} {v : Nat → V} (i : Nat) : (((List.range i).filter p).map v).length ≤ i := by
  rw [List.length_map]
  exact Nat.le_trans (List.length_filter_le _ _) (by simp)
theorem take_acc {α : Type} {l : List α} {p : α → Bool} {v : α → V} {i : Nat} {x : α} (h : l[i]? = some x) : ((l.take (i + 1)).filter p).map v = if p x then ((l.take i).filter p).map v ++ [v x] else ((l.take i).filter p).map v := by
  rw [List.take_add_one, h, List.filter_append, List.map_append]
  show _ ++ List.map v (List.filter p [x]) = _
  rw [List.filter_cons]
  split <;> simp
theorem take_len {α : Type} {l : List α} {p : α → Bool} {v : α → V} (i : Nat) : (((l.take i).filter p).map v).length ≤ l.length := by
  rw [List.length_map]
  exact Nat.le_trans (List.length_filter_le _ _) (by rw [List.length_take]; omega)
theorem n_lcF {f : Nat → V} (hj : Cj (wi σ) A J) (w : Walk J m (fun _ => True) (YFn f)) (hm : m < sizeLine) (p : Nat → Bool) (v : Nat → V)
    (ht : ∀ i, i < m → Ct (tt ((wipe σ vs).set j (some (f i)))) A (p i)) (he : ∀ i, i < m → p i = true → Cv (te ((wipe σ vs).set j (some (f i)))) A (v i)) (hw : ∀ x, wipe ((wipe σ vs).set j (some x)) vs = wipe σ vs) :
    Cn (tLc wi (gName j) tt te vs σ) A (.lst (((List.range m).filter p).map v)) := fun H hA Q q => hj H hA _ fun H1 e1 Dl hD => by
  have hA1 := A.st _ _ hA e1
  refine lc_it w (AccP (fun i => ((List.range i).filter p).map v) H1 Dl) ⟨hD, same_new hD, upd_same⟩ (fun _ _ _ _ => True.intro) (fun i x H' H2 hi p' y => ?_) (fun H' p' => q Dl H' (e1.free hD) (e1.trans p'.2.1) p'.2.2)
  obtain ⟨rfl, rfl⟩ := y
  exact ⟨hw _, lc_turn p' hA1 (Nat.lt_of_le_of_lt (range_len i) (by omega)) (ht i hi) (he i hi) (range_acc i)⟩
theorem n_lcA {α : Type} {l : List α} {f : α → V} (hj : Cj (wi σ) A J) (w : Walk J l.length G (YAt (l.map f))) (hG : ∀ H, A.P H → G H) (hm : l.length < sizeLine) (p : α → Bool) (v : α → V)
    (ht : ∀ x, x ∈ l → Ct (tt ((wipe σ vs).set j (some (f x)))) A (p x)) (he : ∀ x, x ∈ l → p x = true → Cv (te ((wipe σ vs).set j (some (f x)))) A (v x)) (hw : ∀ x, wipe ((wipe σ vs).set j (some x)) vs = wipe σ vs) :
    Cn (tLc wi (gName j) tt te vs σ) A (.lst ((l.filter p).map v)) := fun H hA Q q => hj H hA _ fun H1 e1 Dl hD => by
  have hA1 := A.st _ _ hA e1
  refine lc_it w (AccP (fun i => ((l.take i).filter p).map v) H1 Dl) ⟨hD, same_new hD, upd_same⟩ (fun i H' _ p' => hG H' (A.st _ _ hA1 p'.2.1)) (fun i x H' H2 hi p' y => ?_) (fun H' p' => q Dl H' (e1.free hD) (e1.trans p'.2.1) ?_)
  · obtain ⟨rfl, hx⟩ := y
    rw [List.getElem?_map] at hx
    obtain ⟨z, hz, rfl⟩ := Option.map_eq_some_iff.mp hx
    have hm' : z ∈ l := List.mem_of_getElem? hz
    exact ⟨hw _, lc_turn p' hA1 (Nat.lt_of_le_of_lt (take_len i) hm) (ht z hm') (he z hm') (take_acc hz)⟩
  · have h3 := p'.2.2
    simp only [List.take_length] at h3
    exact h3
theorem n_lcP {K' : PySem.W.Frag} {fx fy : Nat → Option V} (hj : Cj (wi σ) A J) (w : Walk J m G (YPair fx fy)) (hG : ∀ H, A.P H → G H) (hm : m < sizeLine) (p : Nat → Bool) (v : Nat → V)
    (ht : ∀ i x y, i < m → fx i = some x → fy i = some y → Ct (tt (((wipe σ vs).set j (some x)).set k (some y))) A (p i)) (he : ∀ i x y, i < m → fx i = some x → fy i = some y → p i = true → Cv (te (((wipe σ vs).set j (some x)).set k (some y))) A (v i))
    (hw : ∀ x y, wipe (((wipe σ vs).set j (some x)).set k (some y)) vs = wipe σ vs) :
    Cn (tLc wi (gTup K' 2 (gCons (gName j) (gCons (gName k) gNil))) tt te vs σ) A (.lst (((List.range m).filter p).map v)) := fun H hA Q q => hj H hA _ fun H1 e1 Dl hD => by
  have hA1 := A.st _ _ hA e1
  refine lc_it w (AccP (fun i => ((List.range i).filter p).map v) H1 Dl) ⟨hD, same_new hD, upd_same⟩ (fun i H' _ p' => hG H' (A.st _ _ hA1 p'.2.1)) (fun i x H' H2 hi p' y => ?_) (fun H' p' => q Dl H' (e1.free hD) (e1.trans p'.2.1) p'.2.2)
  obtain ⟨T, a, b, rfl, hT, rfl, h1, h2⟩ := y
  have p2 : AccP (fun i => ((List.range i).filter p).map v) H1 Dl i (upd H' T (.tup [a, b])) := ⟨p'.1, p'.2.1.trans (same_new hT), same_new hT _ _ p'.2.2⟩
  exact ⟨T, [a, b], rfl, SqT.of upd_same, rfl, a, [b], rfl, b, [], rfl, rfl, hw _ _, lc_turn p2 hA1 (Nat.lt_of_le_of_lt (range_len i) (by omega)) (ht i a b hi h1 h2) (he i a b hi h1 h2) (range_acc i)⟩
/-- without a test -/
theorem filt_yes {α : Type} (l : List α) : l.filter (fun _ => true) = l := by simp
/-- [e for x in range(n)] -/
theorem n_lcR {ta : TA} {n : Int} (v : Nat → V) (h : Ca (ta σ) A [.int n]) (hn : n ≤ 1000000) (h1 : -4611686018427387904 ≤ n) (he : ∀ i : Nat, (i : Int) < n → Cv (te ((wipe σ vs).set j (some (.int (i : Int))))) A (v i)) (hw : ∀ x, wipe ((wipe σ vs).set j (some x)) vs = wipe σ vs) :
    Cn (tLc (iRng1 ta) (gName j) tYes te vs σ) A (.lst ((List.range n.toNat).map v)) := by
  have e0 : ∀ i : Nat, (0 : Int) + (i : Int) = (i : Int) := fun i => Int.zero_add _
  have hs : sizeLine = 16777216 := sizeLine_eq
  have z := n_lcF (vs := vs) (te := te) (j := j) (j_rng1 h h1 (by omega)) walk_range (show n.toNat < sizeLine by omega) (fun _ => true) v (fun _ _ => t_yes) (fun i hi _ => by rw [e0 i]; exact he i (by omega)) hw
  rw [filt_yes] at z
  exact z
theorem n_lcRT {ta : TA} {n : Int} (p : Nat → Bool) (v : Nat → V) (h : Ca (ta σ) A [.int n]) (hn : n ≤ 1000000) (h1 : -4611686018427387904 ≤ n) (ht : ∀ i : Nat, (i : Int) < n → Ct (tt ((wipe σ vs).set j (some (.int (i : Int))))) A (p i)) (he : ∀ i : Nat, (i : Int) < n → p i = true → Cv (te ((wipe σ vs).set j (some (.int (i : Int))))) A (v i)) (hw : ∀ x, wipe ((wipe σ vs).set j (some x)) vs = wipe σ vs) :
    Cn (tLc (iRng1 ta) (gName j) tt te vs σ) A (.lst (((List.range n.toNat).filter p).map v)) := by
  have e0 : ∀ i : Nat, (0 : Int) + (i : Int) = (i : Int) := fun i => Int.zero_add _
  have hs : sizeLine = 16777216 := sizeLine_eq
  exact n_lcF (vs := vs) (te := te) (j := j) (j_rng1 h h1 (by omega)) walk_range (show n.toNat < sizeLine by omega) p v (fun i hi => by rw [e0 i]; exact ht i (by omega)) (fun i hi => by rw [e0 i]; exact he i (by omega)) hw
/-- [e for x in xs] -/
theorem n_lcL {α : Type} {l : List α} {f : α → V} {tl : TE} {a : Addr} (v : α → V) (h : Cv (tl σ) A (.ref a)) (hx : KnL K A a (l.map f)) (hm : l.length < sizeLine) (he : ∀ x, x ∈ l → Cv (te ((wipe σ vs).set j (some (f x)))) A (v x)) (hw : ∀ x, wipe ((wipe σ vs).set j (some x)) vs = wipe σ vs) :
    Cn (tLc (iList K tl) (gName j) tYes te vs σ) A (.lst (l.map v)) := by
  have z := n_lcA (vs := vs) (te := te) (j := j) (j_list h hx) (by have := walk_list (K := K) (a := a) (xs := l.map f); rw [List.length_map] at this; exact this) hx hm (fun _ => true) v (fun _ _ => t_yes) (fun x hx2 _ => he x hx2) hw
  rw [filt_yes] at z
  exact z
theorem n_lcLT {α : Type} {l : List α} {f : α → V} {tl : TE} {a : Addr} (p : α → Bool) (v : α → V) (h : Cv (tl σ) A (.ref a)) (hx : KnL K A a (l.map f)) (hm : l.length < sizeLine) (ht : ∀ x, x ∈ l → Ct (tt ((wipe σ vs).set j (some (f x)))) A (p x)) (he : ∀ x, x ∈ l → p x = true → Cv (te ((wipe σ vs).set j (some (f x)))) A (v x)) (hw : ∀ x, wipe ((wipe σ vs).set j (some x)) vs = wipe σ vs) :
    Cn (tLc (iList K tl) (gName j) tt te vs σ) A (.lst ((l.filter p).map v)) :=
  n_lcA (vs := vs) (te := te) (j := j) (j_list h hx) (by have := walk_list (K := K) (a := a) (xs := l.map f); rw [List.length_map] at this; exact this) hx hm p v ht he hw
end
/-! ### everything that is not one's own may stand for good -/
open Classical in
noncomputable def absb (S0 E0 : Hp) (L : List (Addr × HO)) (H : Hp) : Hp := fun a => if a ∈ L.map (·.1) ∨ (S0 a = none ∧ E0 a ≠ none) then none else H a
section
variable {S0 E0 S H : Hp} {L : List (Addr × HO)} {p : Addr} {o : HO}
theorem AtP.absorb (h : AtP S0 E0 S L H) : AtP S0 E0 (absb S0 E0 L H) L H ∧ Same S (absb S0 E0 L H) := by
  have own : ∀ a x, S a = some x → absb S0 E0 L H a = some x := fun a x e => by
    unfold absb
    rw [if_neg, h.sh a x e]
    rintro (hm | ⟨h1, h2⟩)
    · obtain ⟨q, hq, e1⟩ := List.mem_map.mp hm
      have z := (h.ow q hq).2.1
      rw [e1, e] at z
      cases z
    · have z := h.nw a h1 h2
      rw [e] at z
      cases z
  refine ⟨⟨fun a x e => own a x (h.s0 a x e), h.e0, fun a x e => ?_, fun a h1 h2 => ?_, fun q hq => ⟨(h.ow q hq).1, ?_, (h.ow q hq).2.2⟩, h.nd⟩, own⟩
  · unfold absb at e
    split at e
    · cases e
    · exact e
  · unfold absb
    rw [if_pos (.inr ⟨h1, h2⟩)]
  · unfold absb
    rw [if_pos (.inl (List.mem_map.mpr ⟨q, hq, rfl⟩))]
theorem absorb_at (h : AtP S0 E0 S L H) (hp : H p = some o) (h1 : p ∉ L.map (·.1)) (h2 : E0 p = none) : absb S0 E0 L H p = some o := by
  unfold absb
  rw [if_neg, hp]
  rintro (hm | ⟨_, h3⟩)
  · exact h1 hm
  · exact h3 h2
end
/-- a new list of new objects -/
def NewAll (H H' : Hp) (p : Addr) (vs : List V) (m : Nat) (o : Nat → HO) : Prop := vs.length = m ∧ ∀ i, i < m → ∃ q, vs[i]? = some (.ref q) ∧ H q = none ∧ q ≠ p ∧ H' q = some (o i)
def Cm2 (c : Cm) (A : Asr) (m : Nat) (o : Nat → HO) : Prop := ∀ H, A.P H → ∀ Q : VK, (∀ p H' vs, H p = none → Same H H' → H' p = some (.lst vs) → NewAll H H' p vs m o → Q (.ref p) H') → c H Q
def RetM (m : Nat) (o : Nat → HO) (H : Hp) (Q : VK) : Prop := ∀ p H' vs, H p = none → Same H H' → H' p = some (.lst vs) → NewAll H H' p vs m o → Q (.ref p) H'
section
variable {K : PySem.W.Frag} {S0 E0 S : Hp} {L : List (Addr × HO)} {σ : L2.St} {A : Asr} {wi : TI} {tt : TT} {te tl : TE} {J : It} {m j k l i : Nat} {G : Hp → Prop} {Y : Nat → Hp → V → Hp → Prop} {vs : List Nat} {D : Ends} {s tb : TS} {g : TG} {xs : List V} {a : Addr}
theorem d_lc (hj : Cj (wi σ) A J) (w : Walk J m G Y) (hG : ∀ H, A.P H → G H) (hm : m < sizeLine) (R : Nat → V → Prop) (hy : ∀ i H x H', i < m → Y i H x H' → H' = H ∧ R i x) (o : Nat → HO)
    (he : ∀ i x, i < m → R i x → Cn (te ((wipe σ vs).set j (some x))) A (o i)) (hw : ∀ x, wipe ((wipe σ vs).set j (some x)) vs = wipe σ vs) : Cm2 (tLc wi (gName j) tYes te vs σ) A m o := fun H hA Q q => hj H hA _ fun H1 e1 Dl hD => by
  have hA1 := A.st _ _ hA e1
  refine lc_it w (fun i H2 => Same H1 H2 ∧ ∃ acc : List V, H2 Dl = some (.lst acc) ∧ acc.length = i ∧ ∀ t, t < i → ∃ q, acc[t]? = some (.ref q) ∧ H1 q = none ∧ q ≠ Dl ∧ H2 q = some (o t)) ⟨same_new hD, [], upd_same, rfl, fun t ht => absurd ht (Nat.not_lt_zero t)⟩ (fun i H' _ p' => hG H' (A.st _ _ hA1 p'.1)) (fun i x H' H2 hi p' y => ?_) (fun H' p' => ?_)
  · obtain ⟨rfl, hx⟩ := hy i _ x _ hi y
    obtain ⟨p1, acc, p2, p3, p4⟩ := p'
    refine ⟨hw x, he i x hi hx _ (A.st _ _ hA1 p1) _ fun r H4 n e4 hr => ⟨acc, e4 Dl _ p2, by omega, same_mut (p1.trans e4) hD, acc ++ [.ref r], upd_same, by rw [List.length_append, p3]; rfl, fun t ht => ?_⟩⟩
    have hne : r ≠ Dl := fun e => by rw [e, p2] at n; cases n
    by_cases ht2 : t < i
    · obtain ⟨z, z1, z2, z3, z4⟩ := p4 t ht2
      exact ⟨z, by rw [List.getElem?_append_left (by omega)]; exact z1, z2, z3, by rw [upd_ne z3]; exact e4 _ _ z4⟩
    · have et : t = acc.length := by omega
      refine ⟨r, by rw [et]; simp, p1.free n, hne, ?_⟩
      rw [upd_ne hne, et, p3]
      exact hr
  · obtain ⟨p1, acc, p2, p3, p4⟩ := p'
    exact q Dl H' acc (e1.free hD) (e1.trans p1) p2 ⟨p3, fun t ht => by
      obtain ⟨z, z1, z2, z3, z4⟩ := p4 t ht
      exact ⟨z, z1, e1.free z2, z3, z4⟩⟩
theorem d_lcR {ta : TA} {n : Int} (o : Nat → HO) (h : Ca (ta σ) A [.int n]) (hn : n ≤ 1000000) (h1 : -4611686018427387904 ≤ n) (he : ∀ i : Nat, (i : Int) < n → Cn (te ((wipe σ vs).set j (some (.int (i : Int))))) A (o i)) (hw : ∀ x, wipe ((wipe σ vs).set j (some x)) vs = wipe σ vs) :
    Cm2 (tLc (iRng1 ta) (gName j) tYes te vs σ) A n.toNat o := by
  have hs : sizeLine = 16777216 := sizeLine_eq
  refine d_lc (j_rng1 h h1 (by omega)) walk_range (fun _ _ => True.intro) (by omega) (fun i x => x = .int (i : Int)) (fun i H x H' _ y => ⟨y.1, by rw [y.2]; show V.int (0 + _) = _; rw [Int.zero_add]⟩) o (fun i x hi hx => ?_) hw
  subst hx
  exact he i (by omega)
theorem d_lcL (o : Nat → HO) (h : Cv (tl σ) A (.ref a)) (hx : KnL K A a xs) (hm : xs.length < sizeLine) (he : ∀ i x, xs[i]? = some x → Cn (te ((wipe σ vs).set j (some x))) A (o i)) (hw : ∀ x, wipe ((wipe σ vs).set j (some x)) vs = wipe σ vs) :
    Cm2 (tLc (iList K tl) (gName j) tYes te vs σ) A xs.length o :=
  d_lc (j_list h hx) walk_list hx hm (fun i x => xs[i]? = some x) (fun i H x H' _ y => y) o (fun i x _ hx2 => he i x hx2) hw
theorem q_ownC {o : Nat → HO} (h : Cm2 (te σ) (at_ S0 E0 S L) m o) (k : ∀ p S' vs, Same S S' → vs.length = m → (∀ i, i < m → ∃ q, vs[i]? = some (.ref q) ∧ S' q = some (o i)) → Go s D (σ.set i (some (.ref p))) (at_ S0 E0 S' ((p, .lst vs) :: L))) :
    Go (tSeq (tAsg te (gName i)) s) D σ (at_ S0 E0 S L) := fun H a => h H a _ fun p H1 vs n e1 hp hv => by
  have a1 := AtP.own a n e1 hp
  obtain ⟨a2, sm⟩ := a1.absorb
  refine k p _ vs sm hv.1 (fun i hi => ?_) H1 a2
  obtain ⟨q, h1, h2, h3, h4⟩ := hv.2 i hi
  refine ⟨q, h1, absorb_at a1 h4 ?_ (AtP.e0 a |>.free h2)⟩
  rw [List.map_cons, List.mem_cons]
  rintro (e | hm)
  · exact h3 e
  · obtain ⟨y, hy, e⟩ := List.mem_map.mp hm
    have z := (AtP.ow a y hy).1
    rw [e, h2] at z
    cases z
/-- what a target comes to -/
def Gs (g : TG) (x : V) (σ : L2.St) (A : Asr) (σ2 : L2.St) : Prop := ∀ H, A.P H → ∀ Q : L2.St → Hp → Prop, Q σ2 H → g x σ H Q
theorem gs_L3 {x y z : V} {K' : PySem.W.Frag} (h : KnL K' A a [x, y, z]) : Gs (gLst K' 3 (gCons (gName j) (gCons (gName k) (gCons (gName l) gNil)))) (.ref a) σ A (((σ.set j (some x)).set k (some y)).set l (some z)) := fun H hA Q q =>
  ⟨a, [x, y, z], rfl, h H hA, rfl, x, _, rfl, y, _, rfl, z, [], rfl, rfl, q⟩
theorem gs_T3 {x y z : V} {K' : PySem.W.Frag} (h : KnT K' A a [x, y, z]) : Gs (gTup K' 3 (gCons (gName j) (gCons (gName k) (gCons (gName l) gNil)))) (.ref a) σ A (((σ.set j (some x)).set k (some y)).set l (some z)) := fun H hA Q q =>
  ⟨a, [x, y, z], rfl, h H hA, rfl, x, _, rfl, y, _, rfl, z, [], rfl, rfl, q⟩
theorem gs_L2 {x y : V} {K' : PySem.W.Frag} (h : KnL K' A a [x, y]) : Gs (gLst K' 2 (gCons (gName j) (gCons (gName k) gNil))) (.ref a) σ A ((σ.set j (some x)).set k (some y)) := fun H hA Q q =>
  ⟨a, [x, y], rfl, h H hA, rfl, x, _, rfl, y, [], rfl, rfl, q⟩
theorem gs_T2 {x y : V} {K' : PySem.W.Frag} (h : KnT K' A a [x, y]) : Gs (gTup K' 2 (gCons (gName j) (gCons (gName k) gNil))) (.ref a) σ A ((σ.set j (some x)).set k (some y)) := fun H hA Q q =>
  ⟨a, [x, y], rfl, h H hA, rfl, x, _, rfl, y, [], rfl, rfl, q⟩
theorem s_forG (h : Cv (tl σ) A (.ref a)) (P : Nat → L2.St → Asr → Prop) (h0 : P 0 σ A) (hx : ∀ i σ' A', P i σ' A' → KnL K A' a xs)
    (hs : ∀ i x σ' A', xs[i]? = some x → P i σ' A' → ∃ σ2, Gs g x σ' A' σ2 ∧ Go tb { D with nx := Nf P (i + 1), ct := Nf P (i + 1), bk := D.nx } σ2 A') (hd : ∀ σ' A', P xs.length σ' A' → ∀ H, A'.P H → D.nx σ' H) : Go (tFor (iList K tl) g tb) D σ A :=
  s_for (j_list h (hx 0 σ A h0)) walk_list P h0 (fun i σ' A' _ p => hx i σ' A' p) (fun i σ' A' hi p H hA x H' y => by
    obtain ⟨rfl, hx2⟩ := y
    obtain ⟨σ2, h1, h2⟩ := hs i x σ' A' hx2 p
    exact h1 _ hA _ (h2 _ hA)) hd
theorem q_forG (h : Cv (tl σ) A (.ref a)) (P : Nat → L2.St → Asr → Prop) (h0 : P 0 σ A) (hx : ∀ i σ' A', P i σ' A' → KnL K A' a xs)
    (hs : ∀ i x σ' A', xs[i]? = some x → P i σ' A' → ∃ σ2, Gs g x σ' A' σ2 ∧ Go tb { D with nx := Nf P (i + 1), ct := Nf P (i + 1), bk := s D } σ2 A') (hd : ∀ σ' A', P xs.length σ' A' → Go s D σ' A') : Go (tSeq (tFor (iList K tl) g tb) s) D σ A :=
  g_seq (s_forG h P h0 hx hs hd)
/-- [e for .. in xs], the items taken apart -/
theorem n_lcG (v : Nat → V) (h : Cv (tl σ) A (.ref a)) (hx : KnL K A a xs) (hm : xs.length < sizeLine) (he : ∀ i x, xs[i]? = some x → ∃ σ2, Gs g x (wipe σ vs) A σ2 ∧ wipe σ2 vs = wipe σ vs ∧ Cv (te σ2) A (v i)) :
    Cn (tLc (iList K tl) g tYes te vs σ) A (.lst ((List.range xs.length).map v)) := fun H hA Q q => j_list h hx H hA _ fun H1 e1 Dl hD => by
  have hA1 := A.st _ _ hA e1
  refine lc_it walk_list (AccP (fun i => (List.range i).map v) H1 Dl) ⟨hD, same_new hD, upd_same⟩ (fun i H' _ p' => hx H' (A.st _ _ hA1 p'.2.1)) (fun i x H' H2 hi p' y => ?_) (fun H' p' => q Dl H' (e1.free hD) (e1.trans p'.2.1) p'.2.2)
  obtain ⟨rfl, hx2⟩ := y
  obtain ⟨σ2, g1, g2, g3⟩ := he i x hx2
  obtain ⟨p1, p2, p3⟩ := p'
  refine g1 _ (A.st _ _ hA1 p2) _ ⟨g2, t_yes (A := A) _ (A.st _ _ hA1 p2) _ fun H3 e3 => ?_⟩
  rw [if_pos rfl]
  refine g3 _ (A.st _ _ hA1 (p2.trans e3)) _ fun H4 e4 => ⟨(List.range i).map v, e4 Dl _ (e3 Dl _ p3), by rw [List.length_map, List.length_range]; omega, p1, same_mut ((p2.trans e3).trans e4) p1, ?_⟩
  show upd H4 Dl _ Dl = some (HO.lst ((List.range (i + 1)).map v))
  rw [List.range_succ, List.map_append]
  exact upd_same
end
end Lo
namespace Lo
open PySem L2
/-! ### isinstance -/
section
variable {K : PySem.W.Frag} {A : Asr} {x : V} {T U : String} {b : Bool}
def KnTy (K : PySem.W.Frag) (A : Asr) (x : V) (t : Value) : Prop := ∀ H, A.P H → TyX K H x t
theorem e_isi (ht : KnTy K A x (.type T)) (hk : kitB T U = some b) : Cv (rIsi K [x, .ty U]) A (.bl b) := fun H hA _ q => ⟨x, .ty U, .type T, .type U, b, rfl, .ty U, ht H hA, kit_ty hk, q H (Same.refl H)⟩
theorem ty_int {i : Int} : KnTy K A (.int i) (.type "int") := fun _ _ => .base (.int i)
theorem ty_bl {c : Bool} : KnTy K A (.bl c) (.type "bool") := fun _ _ => .base (.bl c)
theorem ty_str {z : Str} : KnTy K A (.str z) (.type "str") := fun _ _ => .base (.str z)
theorem ty_non : KnTy K A .non (.type "NoneType") := fun _ _ => .base .non
theorem ty_lst {p : Addr} {xs : List V} (h : Kn A p (.lst xs)) : KnTy K A (.ref p) (.type "list") := fun H a => .base (.lst (h H a))
theorem ty_tup {p : Addr} {xs : List V} (h : Kn A p (.tup xs)) : KnTy K A (.ref p) (.type "tuple") := fun H a => .base (.tup (h H a))
theorem ty_dK {p : Addr} {xs : List (Key × V)} (h : Kn A p (.dK xs)) : KnTy K A (.ref p) (.type "dict") := fun H a => .base (.dK (h H a))
/-- what isinstance tells of the flat kinds -/
def isTy (U : String) : V → Bool
  | .int _ => U == "int"
  | .bl _ => U == "bool" || U == "int"
  | .str _ => U == "str"
  | _ => false
theorem e_isiII {i : Int} : Cv (rIsi K [.int i, .ty "int"]) A (.bl true) := e_isi ty_int (by decide +kernel)
theorem e_isiIB {i : Int} : Cv (rIsi K [.int i, .ty "bool"]) A (.bl false) := e_isi ty_int (by decide +kernel)
theorem e_isiIS {i : Int} : Cv (rIsi K [.int i, .ty "str"]) A (.bl false) := e_isi ty_int (by decide +kernel)
theorem e_isiBI {c : Bool} : Cv (rIsi K [.bl c, .ty "int"]) A (.bl true) := e_isi ty_bl (by decide +kernel)
theorem e_isiBB {c : Bool} : Cv (rIsi K [.bl c, .ty "bool"]) A (.bl true) := e_isi ty_bl (by decide +kernel)
theorem e_isiSI {z : Str} : Cv (rIsi K [.str z, .ty "int"]) A (.bl false) := e_isi ty_str (by decide +kernel)
theorem e_isiSB {z : Str} : Cv (rIsi K [.str z, .ty "bool"]) A (.bl false) := e_isi ty_str (by decide +kernel)
theorem e_isiSS {z : Str} : Cv (rIsi K [.str z, .ty "str"]) A (.bl true) := e_isi ty_str (by decide +kernel)
theorem e_isiNI : Cv (rIsi K [.non, .ty "int"]) A (.bl false) := e_isi ty_non (by decide +kernel)
theorem e_isiNB : Cv (rIsi K [.non, .ty "bool"]) A (.bl false) := e_isi ty_non (by decide +kernel)
theorem e_isiLL {p : Addr} {xs : List V} (h : Kn A p (.lst xs)) : Cv (rIsi K [.ref p, .ty "list"]) A (.bl true) := e_isi (ty_lst h) (by decide +kernel)
theorem e_isiLT {p : Addr} {xs : List V} (h : Kn A p (.lst xs)) : Cv (rIsi K [.ref p, .ty "tuple"]) A (.bl false) := e_isi (ty_lst h) (by decide +kernel)
theorem e_isiLI {p : Addr} {xs : List V} (h : Kn A p (.lst xs)) : Cv (rIsi K [.ref p, .ty "int"]) A (.bl false) := e_isi (ty_lst h) (by decide +kernel)
theorem e_isiTT {p : Addr} {xs : List V} (h : Kn A p (.tup xs)) : Cv (rIsi K [.ref p, .ty "tuple"]) A (.bl true) := e_isi (ty_tup h) (by decide +kernel)
theorem e_isiTL {p : Addr} {xs : List V} (h : Kn A p (.tup xs)) : Cv (rIsi K [.ref p, .ty "list"]) A (.bl false) := e_isi (ty_tup h) (by decide +kernel)
/-- int(flag) -/
def rInt1 : List V → Hp → VK → Prop := fun xs H Q => (∃ i, xs = [.int i] ∧ Q (.int i) H) ∨ ∃ k, xs = [.bl k] ∧ Q (.int (if k then 1 else 0)) H
theorem call_intA {X : Cx} : CallR X (.type "int") rInt1 := call_int1
def rCnt : V → List V → Hp → VK → Prop := fun x xs H Q => ∃ a b, x = .str a ∧ xs = [.str b] ∧ Q (.int (PySem.Txt.count a b)) H
theorem mt_countA {X : Cx} : MtR X "str.count" rCnt := mt_count
theorem e_intI {i : Int} : Cv (rInt1 [.int i]) A (.int i) := fun H _ _ q => .inl ⟨i, rfl, q H (Same.refl H)⟩
theorem e_intB {c : Bool} : Cv (rInt1 [.bl c]) A (.int (if c then 1 else 0)) := fun H _ _ q => .inr ⟨c, rfl, q H (Same.refl H)⟩
theorem e_count {a c : Str} : Cv (rCnt (.str a) [.str c]) A (.int (PySem.Txt.count a c)) := fun H _ _ q => ⟨a, c, rfl, rfl, q H (Same.refl H)⟩
theorem c_pt {σ : L2.St} {te : TE} (h : Cv (te σ) A (.bl b)) : Ct (fun H Q => te σ H fun x H' => ∃ k, x = .bl k ∧ Q k H') A b := fun H hA Q q => h H hA _ fun H1 e1 => ⟨b, rfl, q H1 e1⟩
end
end Lo

namespace Lo
open PySem L2
local macro_rules | `(tactic| walk_at "Lo.mem") => `(tactic| first | exact List.Mem.head _ | ((apply List.Mem.tail); (· walk_at "Lo.mem")))
local macro_rules | `(tactic| walk_at "Lo.side") => `(tactic| first | with_reducible assumption | exact (Eq.refl true) | ((with_reducible apply cdiv_of); (· omega); (· omega)) | ((with_reducible apply cmul_l); (· omega); (· omega)) | ((with_reducible apply cmul_r); (· omega); (· omega)) | omega | decide)
local macro_rules | `(tactic| walk_at "Lo.kn") => `(tactic| first | assumption | exact kn_kn | exact knl_S ‹_› | exact knt_S ‹_› | exact kn_S ‹_› | ((with_reducible apply kn_L); (· walk_at "Lo.mem")) | exact knl_of kn_kn | exact knt_of kn_kn | exact knl_of (kn_S ‹_›) | exact knt_of (kn_S ‹_›) | ((with_reducible apply kn_up); (· walk_at "Lo.kn")) | ((with_reducible apply knl_up); (· walk_at "Lo.kn")) | ((with_reducible apply knt_up); (· walk_at "Lo.kn")) | ((with_reducible apply knl_of); (· walk_at "Lo.kn")) | ((with_reducible apply knt_of); (· walk_at "Lo.kn")))
local macro_rules | `(tactic| walk_at "Lo.op") => `(tactic| first
  | with_reducible exact r_I0
  | with_reducible exact r_U
  | with_reducible exact e_addI
  | with_reducible exact e_eqI
  | with_reducible exact e_neI
  | with_reducible exact e_eqS
  | with_reducible exact e_neS
  | with_reducible exact e_max
  | with_reducible exact e_min
  | with_reducible exact e_isiII
  | with_reducible exact e_isiIB
  | with_reducible exact e_isiSI
  | with_reducible exact e_isiSS
  | with_reducible exact e_isiSB
  | with_reducible exact e_intI
  | with_reducible exact e_intB
  | with_reducible exact e_count
  | with_reducible exact e_isN
  | ((with_reducible apply e_isiLL); (· walk_at "Lo.kn"))
  | ((with_reducible apply e_copyL); (· walk_at "Lo.kn"))
  | with_reducible exact e_ninSL
  | with_reducible exact e_notN
  | ((with_reducible apply r_I); (· walk_at "Lo.side"))
  | ((with_reducible apply e_mul); (· walk_at "Lo.side"))
  | ((with_reducible apply e_lenL); (· walk_at "Lo.kn"))
  | ((with_reducible apply e_lenK); (· walk_at "Lo.kn"))
  | ((with_reducible apply e_lenT); (· walk_at "Lo.kn"))
  | ((with_reducible apply e_lenS); (· walk_at "Lo.side"))
  | ((with_reducible apply e_addS); (· walk_at "Lo.side"))
  | ((with_reducible apply e_ixL); (· walk_at "Lo.kn"); (· walk_at "Lo.side"))
  | ((with_reducible apply e_ixT); (· walk_at "Lo.kn"); (· walk_at "Lo.side"))
  | ((with_reducible apply e_ixS); (· walk_at "Lo.side"); (· walk_at "Lo.side"))
  | ((with_reducible apply e_slS); (· walk_at "Lo.side"))
  | ((with_reducible apply e_slL); (· walk_at "Lo.kn"))
  | ((with_reducible apply e_cat); (· walk_at "Lo.kn"); (· walk_at "Lo.kn"); (· walk_at "Lo.side")))
local macro_rules | `(tactic| walk_at "Lo.call") => `(tactic| fail "no callee's rule")
local macro_rules | `(tactic| walk_at "Lo.ca") => `(tactic| first
  | with_reducible exact c_nil
  | ((with_reducible apply c_cons); (· walk_at "Lo.cv"); (· walk_at "Lo.ca")))
local macro_rules | `(tactic| walk_at "Lo.co") => `(tactic| first
  | with_reducible exact o_none
  | ((with_reducible apply o_some); (· walk_at "Lo.cv")))
local macro_rules | `(tactic| walk_at "Lo.cv") => `(tactic| first
  | with_reducible exact c_c
  | ((with_reducible apply c_var); (· exact rfl))
  | ((with_reducible apply c_op); (· walk_at "Lo.cv"); (· walk_at "Lo.cv"); (· walk_at "Lo.op"))
  | ((with_reducible apply c_opNv); (· walk_at "Lo.cn"); (· (intro p; walk_at "Lo.cv")); (· (intro p; walk_at "Lo.op")))
  | ((with_reducible apply c_opvN); (· walk_at "Lo.cv"); (· walk_at "Lo.cn"); (· (intro p; walk_at "Lo.op")))
  | ((with_reducible apply c_opNN); (· walk_at "Lo.cn"); (· (intro p; walk_at "Lo.cn")); (· (intro p q; walk_at "Lo.op")))
  | ((with_reducible apply c_un); (· walk_at "Lo.cv"); (· walk_at "Lo.op"))
  | ((with_reducible apply c_call); (· walk_at "Lo.ca"); (· walk_at "Lo.call"))
  | ((with_reducible apply c_callN); (· walk_at "Lo.cn"); (· (intro p; walk_at "Lo.call")))
  | ((with_reducible apply c_cb); (· walk_at "Lo.ca"); (· walk_at "Lo.op"))
  | ((with_reducible apply c_cbN); (· walk_at "Lo.cn"); (· (intro p; walk_at "Lo.op")))
  | ((with_reducible apply c_sl); (· walk_at "Lo.cv"); (· walk_at "Lo.co"); (· walk_at "Lo.co"); (· walk_at "Lo.op"))
  | ((with_reducible apply c_m1); (· walk_at "Lo.cv"); (· walk_at "Lo.cv"); (· walk_at "Lo.op"))
  | ((with_reducible apply c_m1N); (· walk_at "Lo.cv"); (· walk_at "Lo.cn"); (· (intro p; walk_at "Lo.op")))
  | ((with_reducible apply c_bits); (· walk_at "Lo.cv"))
  | ((with_reducible apply c_chain); (· walk_at "Lo.cv"); (· walk_at "Lo.cv"); (· walk_at "Lo.op"); (· (intro hb; walk_at "Lo.cv")); (· (intro hb; walk_at "Lo.op")))
  | ((with_reducible apply c_not); (· walk_at "Lo.cv"))
  | ((with_reducible apply c_and); (· walk_at "Lo.cv"); (· (intro hb; walk_at "Lo.cv")))
  | ((with_reducible apply c_or); (· walk_at "Lo.cv"); (· (intro hb; walk_at "Lo.cv"))))
local macro_rules | `(tactic| walk_at "Lo.cn") => `(tactic| first
  | ((with_reducible apply n_lcR); (· walk_at "Lo.ca"); (· walk_at "Lo.side"); (· walk_at "Lo.side"); (· (intro i hi; walk_at "Lo.cv")); (· (intro x; exact rfl)))
  | ((with_reducible apply n_lst); (· walk_at "Lo.ca"); (· (simp only [List.length_cons, List.length_nil]; walk_at "Lo.side")))
  | ((with_reducible apply n_tup); (· walk_at "Lo.ca"); (· (simp only [List.length_cons, List.length_nil]; walk_at "Lo.side")))
  | ((with_reducible apply n_call); (· walk_at "Lo.ca"); (· walk_at "Lo.call"))
  | ((with_reducible apply n_callN); (· walk_at "Lo.cn"); (· (intro p; walk_at "Lo.call")))
  | ((with_reducible apply n_sl); (· walk_at "Lo.cv"); (· walk_at "Lo.co"); (· walk_at "Lo.co"); (· walk_at "Lo.op"))
  | ((with_reducible apply n_cb); (· walk_at "Lo.ca"); (· walk_at "Lo.op"))
  | ((with_reducible apply n_op); (· walk_at "Lo.cv"); (· walk_at "Lo.cv"); (· walk_at "Lo.op"))
  | ((with_reducible apply n_opNv); (· walk_at "Lo.cn"); (· (intro p; walk_at "Lo.cv")); (· (intro p; walk_at "Lo.op")))
  | ((with_reducible apply n_opvN); (· walk_at "Lo.cv"); (· walk_at "Lo.cn"); (· (intro p; walk_at "Lo.op")))
  | ((with_reducible apply n_opNN); (· walk_at "Lo.cn"); (· (intro p; walk_at "Lo.cn")); (· (intro p q; walk_at "Lo.op"))))
local macro_rules | `(tactic| walk_at "Lo.ct") => `(tactic| first
  | ((with_reducible apply t_test); (· walk_at "Lo.cv"))
  | ((with_reducible apply t_B); (· walk_at "Lo.cv"))
  | ((with_reducible apply t_not); (· walk_at "Lo.ct"))
  | ((with_reducible apply t_and); (· walk_at "Lo.ct"); (· (intro hb; walk_at "Lo.ct")))
  | ((with_reducible apply t_or); (· walk_at "Lo.ct"); (· (intro hb; walk_at "Lo.ct")))
  | with_reducible exact t_yes)
local macro_rules | `(tactic| walk_at "Lo.q") => `(tactic| first
  | ((with_reducible apply q_asg); (· walk_at "Lo.cv"))
  | ((with_reducible apply q_asgN); (· walk_at "Lo.cn"))
  | ((with_reducible apply q_when); (· walk_at "Lo.ct"))
  | ((with_reducible apply q_if); (· walk_at "Lo.ct"))
  | ((with_reducible apply s_if); (· walk_at "Lo.ct")))
local macro_rules | `(tactic| walk_at "Lo.ext") => `(tactic| first | exact ext_at | ((with_reducible apply ext_kn); (· walk_at "Lo.ext")))
local macro_rules | `(tactic| walk_at "Lo.ret") => `(tactic| first
  | ((with_reducible apply s_retVx); (· walk_at "Lo.cv"); (· first | rfl | skip); (· walk_at "Lo.ext"); (· assumption))
  | ((with_reducible apply s_retNx); (· walk_at "Lo.cn"); (· first | rfl | skip); (· walk_at "Lo.ext"); (· assumption)))
local macro_rules | `(tactic| walk_at "Lo.up") => `(tactic| first | with_reducible exact Up1.head | ((with_reducible apply Up1.tail); (· walk_at "Lo.up")))
local macro_rules | `(tactic| walk_at "Lo.go") => `(tactic| ((try dsimp only); show Go _ _ _ _))
local macro_rules | `(tactic| walk_at "Lo.nf") => `(tactic| ((try dsimp only); refine nf ?_))
local macro_rules | `(tactic| walk_at "Lo.nw") => `(tactic| (try dsimp only))
def topS (i : Nat) : Stmt := PySem.Challenge.pw_lodge_k02_mixed.main.body.getD i (.Pass ⟨0, 0, 0, 0⟩)
abbrev s_NoKey_init : Stmt := inClass (topS 2) 0
theorem sc_NoKey_init : FnScope ["self", "at"] ["self", "at"] (defScope s_NoKey_init) := ⟨rfl, rfl, rfl, by decide +kernel, rfl, by decide +kernel, by decide +kernel⟩
abbrev s_is_key : Stmt := topS 9
theorem sc_is_key : FnScope ["thing", "sign"] ["thing"] (defScope s_is_key) := ⟨rfl, rfl, rfl, by decide +kernel, rfl, by decide +kernel, by decide +kernel⟩
abbrev s_stamp : Stmt := topS 10
theorem sc_stamp : FnScope ["key", "worth", "sign"] ["key"] (defScope s_stamp) := ⟨rfl, rfl, rfl, by decide +kernel, rfl, by decide +kernel, by decide +kernel⟩
abbrev s_mixed : Stmt := topS 11
theorem sc_mixed : FnScope ["number", "salt", "size", "factor", "added", "first"] ["number", "salt", "size"] (defScope s_mixed) := ⟨rfl, rfl, rfl, by decide +kernel, rfl, by decide +kernel, by decide +kernel⟩
abbrev s_mark : Stmt := topS 12
theorem sc_mark : FnScope ["key", "width"] ["key", "width"] (defScope s_mark) := ⟨rfl, rfl, rfl, by decide +kernel, rfl, by decide +kernel, by decide +kernel⟩
abbrev s_l_mix : Stmt := topS 14
theorem sc_l_mix : FnScope ["_law_cell_here", "_law_k", "_law_first"] ["_law_cell_here", "_law_k"] (defScope s_l_mix) := ⟨rfl, rfl, rfl, by decide +kernel, rfl, by decide +kernel, by decide +kernel⟩
abbrev s_l_raw : Stmt := topS 15
theorem sc_l_raw : FnScope ["_law_script", "_law_k"] ["_law_script", "_law_k"] (defScope s_l_raw) := ⟨rfl, rfl, rfl, by decide +kernel, rfl, by decide +kernel, by decide +kernel⟩
abbrev s_l_cell : Stmt := topS 16
theorem sc_l_cell : FnScope ["_law_script", "_law_k"] ["_law_script", "_law_k"] (defScope s_l_cell) := ⟨rfl, rfl, rfl, by decide +kernel, rfl, by decide +kernel, by decide +kernel⟩
abbrev s_l_key : Stmt := topS 17
theorem sc_l_key : FnScope ["_law_cell_here", "_law_signs", "_law_rest", "_law_found", "_law_size", "_law_k"] ["_law_cell_here"] (defScope s_l_key) := ⟨rfl, rfl, rfl, by decide +kernel, rfl, by decide +kernel, by decide +kernel⟩
abbrev s_l_great : Stmt := topS 18
theorem sc_l_great : FnScope ["_law_cell_here"] ["_law_cell_here"] (defScope s_l_great) := ⟨rfl, rfl, rfl, by decide +kernel, rfl, by decide +kernel, by decide +kernel⟩
abbrev s_l_cells : Stmt := topS 19
theorem sc_l_cells : FnScope ["_law_script", "_law_start", "_law_most", "_law_cells_here", "_law_many", "_law_k"] ["_law_script", "_law_start", "_law_most"] (defScope s_l_cells) := ⟨rfl, rfl, rfl, by decide +kernel, rfl, by decide +kernel, by decide +kernel⟩
abbrev s_l_keys : Stmt := topS 20
theorem sc_l_keys : FnScope ["_law_script", "_law_start", "_law_most", "_law_found", "_law_cell_here", "_law_key_here"] ["_law_script", "_law_start", "_law_most"] (defScope s_l_keys) := ⟨rfl, rfl, rfl, by decide +kernel, rfl, by decide +kernel, by decide +kernel⟩
abbrev s_l_stamp : Stmt := topS 21
theorem sc_l_stamp : FnScope ["_law_key_here", "_law_worth", "_law_sign"] ["_law_key_here"] (defScope s_l_stamp) := ⟨rfl, rfl, rfl, by decide +kernel, rfl, by decide +kernel, by decide +kernel⟩
abbrev s_l_mixed : Stmt := topS 22
theorem sc_l_mixed : FnScope ["_law_number", "_law_salt", "_law_size", "_law_prime", "_law_a", "_law_b", "_law_first"] ["_law_number", "_law_salt", "_law_size"] (defScope s_l_mixed) := ⟨rfl, rfl, rfl, by decide +kernel, rfl, by decide +kernel, by decide +kernel⟩
abbrev s_l_whole : Stmt := topS 23
theorem sc_l_whole : FnScope ["_law_found"] ["_law_found"] (defScope s_l_whole) := ⟨rfl, rfl, rfl, by decide +kernel, rfl, by decide +kernel, by decide +kernel⟩
abbrev s_l_three : Stmt := topS 24
theorem sc_l_three : FnScope ["_law_cells_here", "_law_k", "_law_number", "_law_salt", "_law_size"] ["_law_cells_here", "_law_k"] (defScope s_l_three) := ⟨rfl, rfl, rfl, by decide +kernel, rfl, by decide +kernel, by decide +kernel⟩
abbrev s_l_width : Stmt := topS 25
theorem sc_l_width : FnScope ["_law_key_here", "_law_width_here", "_law_size", "_law_k", "_law_found"] ["_law_key_here", "_law_width_here"] (defScope s_l_width) := ⟨rfl, rfl, rfl, by decide +kernel, rfl, by decide +kernel, by decide +kernel⟩
abbrev s_law : Stmt := topS 26
theorem sc_law : FnScope ["_law_script", "_law_cells_here", "_law_k", "_law_asked", "_law_told", "_law_number", "_law_salt", "_law_size", "_law_found", "_law_keys_here", "_law_key_here"] ["_law_script"] (defScope s_law) := ⟨rfl, rfl, rfl, by decide +kernel, rfl, by decide +kernel, by decide +kernel⟩
structure Txt (K : PySem.W.Frag) (mg : Str → Option Value) where
  d_is_key : Dfn K "is_key" "is_key" s_is_key ["thing"]
  g_is_key : mg "is_key" = some (.ref d_is_key.f)
  d_stamp : Dfn K "stamp" "stamp" s_stamp ["key"]
  g_stamp : mg "stamp" = some (.ref d_stamp.f)
  d_mixed : Dfn K "mixed" "mixed" s_mixed ["number", "salt", "size"]
  g_mixed : mg "mixed" = some (.ref d_mixed.f)
  d_mark : Dfn K "mark" "mark" s_mark ["key", "width"]
  g_mark : mg "mark" = some (.ref d_mark.f)
  d_l_mix : Dfn K "_law_mix" "_law_mix" s_l_mix ["_law_cell_here", "_law_k"]
  g_l_mix : mg "_law_mix" = some (.ref d_l_mix.f)
  d_l_raw : Dfn K "_law_raw" "_law_raw" s_l_raw ["_law_script", "_law_k"]
  g_l_raw : mg "_law_raw" = some (.ref d_l_raw.f)
  d_l_cell : Dfn K "_law_cell" "_law_cell" s_l_cell ["_law_script", "_law_k"]
  g_l_cell : mg "_law_cell" = some (.ref d_l_cell.f)
  d_l_key : Dfn K "_law_key" "_law_key" s_l_key ["_law_cell_here"]
  g_l_key : mg "_law_key" = some (.ref d_l_key.f)
  d_l_great : Dfn K "_law_great" "_law_great" s_l_great ["_law_cell_here"]
  g_l_great : mg "_law_great" = some (.ref d_l_great.f)
  d_l_cells : Dfn K "_law_cells" "_law_cells" s_l_cells ["_law_script", "_law_start", "_law_most"]
  g_l_cells : mg "_law_cells" = some (.ref d_l_cells.f)
  d_l_keys : Dfn K "_law_keys" "_law_keys" s_l_keys ["_law_script", "_law_start", "_law_most"]
  g_l_keys : mg "_law_keys" = some (.ref d_l_keys.f)
  d_l_stamp : Dfn K "_law_stamp" "_law_stamp" s_l_stamp ["_law_key_here"]
  g_l_stamp : mg "_law_stamp" = some (.ref d_l_stamp.f)
  d_l_mixed : Dfn K "_law_mixed" "_law_mixed" s_l_mixed ["_law_number", "_law_salt", "_law_size"]
  g_l_mixed : mg "_law_mixed" = some (.ref d_l_mixed.f)
  d_l_whole : Dfn K "_law_whole" "_law_whole" s_l_whole ["_law_found"]
  g_l_whole : mg "_law_whole" = some (.ref d_l_whole.f)
  d_l_three : Dfn K "_law_three" "_law_three" s_l_three ["_law_cells_here", "_law_k"]
  g_l_three : mg "_law_three" = some (.ref d_l_three.f)
  d_l_width : Dfn K "_law_width" "_law_width" s_l_width ["_law_key_here", "_law_width_here"]
  g_l_width : mg "_law_width" = some (.ref d_l_width.f)
  d_law : Dfn K "law" "law" s_law ["_law_script"]
  g_law : mg "law" = some (.ref d_law.f)
  z_ValueError : mg "ValueError" = none
  z_bool : mg "bool" = none
  z_enumerate : mg "enumerate" = none
  z_int : mg "int" = none
  z_isinstance : mg "isinstance" = none
  z_len : mg "len" = none
  z_max : mg "max" = none
  z_min : mg "min" = none
  z_range : mg "range" = none
  t_PRIME : Tok
  k_PRIME : mg "PRIME" = some (.int 2305843009213693951 t_PRIME)
  t_SIGNS : Tok
  k_SIGNS : mg "SIGNS" = some (.str "abcdefghijklmnopqrstuvwxyz0123456789-_ " t_SIGNS)
  t_MOST_NUMBER : Tok
  k_MOST_NUMBER : mg "MOST_NUMBER" = some (.int 999999999999999999 t_MOST_NUMBER)
  t_MOST_SIGNS : Tok
  k_MOST_SIGNS : mg "MOST_SIGNS" = some (.int 11 t_MOST_SIGNS)
  t_MARK_SALT : Tok
  k_MARK_SALT : mg "MARK_SALT" = some (.int 3 t_MARK_SALT)
/-! ### texts as lists of signs -/
def strL (l : List Nat) : Str := ⟨l.toArray⟩
theorem strL_tl (z : Str) : strL z.cps.toList = z := rfl
theorem strL_list (l : List Nat) : (strL l).cps.toList = l := by simp [strL]
theorem strL_len (l : List Nat) : (strL l).length = l.length := by simp [strL, Str.length]
theorem strL_app (l m : List Nat) : strL l ++ strL m = strL (l ++ m) := by
  show (⟨l.toArray ++ m.toArray⟩ : Str) = ⟨(l ++ m).toArray⟩
  simp
theorem strL_inj {l m : List Nat} (h : strL l = strL m) : l = m := by
  have e := congrArg (fun z : Str => z.cps.toList) h
  simpa [strL] using e
theorem strL_dec (l m : List Nat) : decide (strL l = strL m) = decide (l = m) := by
  by_cases h : l = m
  · rw [h]; simp
  · have h2 : ¬ strL l = strL m := fun e => h (strL_inj e)
    rw [decide_eq_false h, decide_eq_false h2]
theorem small_line {n : Nat} (h : n ≤ 1000000) : n ≤ sizeLine := Nat.le_trans h (by rw [sizeLine_eq]; decide)
theorem cutS_nat (l : List Nat) (i j : Nat) : cutS (strL l) (some (i : Int)) (some (j : Int)) = strL ((l.drop i).take (j - i)) := by
  unfold cutS
  rw [HT.sIx_nat, HT.sIx_nat, strL_len]
  show strL _ = strL _
  rw [strL_list]
  apply congrArg strL
  by_cases hi : i ≤ l.length
  · rw [Nat.min_eq_left hi]
    by_cases hj : j ≤ l.length
    · rw [Nat.min_eq_left hj]
    · rw [Nat.min_eq_right (by omega)]
      rw [List.take_of_length_le (by rw [List.length_drop]; exact Nat.le_refl _), List.take_of_length_le (by rw [List.length_drop]; omega)]
  · rw [List.drop_eq_nil_of_le (by omega), List.drop_eq_nil_of_le (by omega)]
    simp
theorem cutS_to (l : List Nat) (j : Nat) : cutS (strL l) none (some (j : Int)) = strL (l.take j) := by
  unfold cutS
  rw [HT.sIx_none, HT.sIx_nat, strL_len]
  show strL _ = strL _
  rw [strL_list, List.drop_zero, Nat.sub_zero]
  apply congrArg strL
  by_cases hj : j ≤ l.length
  · rw [Nat.min_eq_left hj]
  · rw [Nat.min_eq_right (by omega), List.take_of_length_le (Nat.le_refl _), List.take_of_length_le (by omega)]
theorem cutS_from (l : List Nat) (i : Nat) : cutS (strL l) (some (i : Int)) none = strL (l.drop i) := by
  unfold cutS
  rw [HT.sIx_none, HT.sIx_nat, strL_len]
  show strL _ = strL _
  rw [strL_list]
  apply congrArg strL
  rw [List.take_of_length_le (by rw [List.length_drop]; omega)]
  by_cases hj : i ≤ l.length
  · rw [Nat.min_eq_left hj]
  · rw [Nat.min_eq_right (by omega), List.drop_eq_nil_of_le (Nat.le_refl _), List.drop_eq_nil_of_le (by omega)]
/-! how often one sign stands in a text -/
theorem subAt_one (l : List Nat) (c i : Nat) : Builtin.Str.subAt (strL l) (strL [c]) i = decide (l[i]? = some c) := by
  unfold Builtin.Str.subAt
  show ((strL l).cps.extract i (i + (strL [c]).length) == (strL [c]).cps) = _
  rw [strL_len]
  show (l.toArray.extract i (i + 1) == [c].toArray) = _
  have e : l.toArray.extract i (i + 1) = ((l.drop i).take 1).toArray := by
    rw [List.extract_toArray]
    simp [List.extract]
  rw [e]
  cases h : l.drop i with
  | nil =>
    have hl : l.length ≤ i := List.drop_eq_nil_iff.mp h
    rw [List.getElem?_eq_none hl]
    rfl
  | cons x r =>
    have hx : l[i]? = some x := by
      have := congrArg List.head? h
      rw [List.head?_drop] at this
      exact this
    rw [hx]
    by_cases hc : x = c
    · subst hc; simp
    · simp [hc]
def occF (l : List Nat) (c : Nat) (s : Array Nat × Nat) (i : Nat) : Array Nat × Nat :=
  if (decide (s.1.size < l.length + 1) && decide (s.2 ≤ i) && decide (i + (strL [c]).length ≤ l.length) && Builtin.Str.subAt (strL l) (strL [c]) i) = true then (s.1.push i, i + (strL [c]).length) else (s.1, s.2)
theorem occF_count (l : List Nat) (c : Nat) : ∀ n, n ≤ l.length + 1 → ((List.range n).foldl (occF l c) (#[], 0)).1.size = (l.take n).count c ∧ ((List.range n).foldl (occF l c) (#[], 0)).2 ≤ n := by
  intro n hn
  induction n with
  | zero => simp
  | succ n ih =>
    obtain ⟨h1, h2⟩ := ih (by omega)
    rw [List.range_succ, List.foldl_append]
    generalize (List.range n).foldl (occF l c) (#[], 0) = st at h1 h2
    have hc1 : (l.take n).count c ≤ n := Nat.le_trans List.count_le_length (by rw [List.length_take]; omega)
    have e1 : (strL [c]).length = 1 := strL_len _
    rw [List.foldl_cons, List.foldl_nil, List.take_add_one, List.count_append]
    unfold occF
    rw [subAt_one, e1]
    by_cases hx : l[n]? = some c
    · have hlt : n < l.length := (List.getElem?_eq_some_iff.mp hx).1
      rw [if_pos (by simp [hx]; omega), hx]
      simp [h1]
    · rw [if_neg (by simp [hx])]
      have z : (l[n]?.toList).count c = 0 := by
        cases hy : l[n]? with
        | none => rfl
        | some y =>
          rw [hy] at hx
          have : y ≠ c := fun e => hx (by rw [e])
          simp [this]
      rw [z]
      exact ⟨by omega, by show st.2 ≤ n + 1; omega⟩
theorem occ_one (l : List Nat) (c : Nat) : (Builtin.Str.occurrences (strL l) (strL [c]) 0 l.length (l.length + 1)).length = l.count c := by
  have k := (occF_count l c (l.length + 1) (Nat.le_refl _)).1
  rw [List.take_of_length_le (by omega)] at k
  rw [← k]
  unfold Builtin.Str.occurrences
  simp only [Id.run, Std.Legacy.Range.forIn_eq_forIn_range', Std.Legacy.Range.size]
  rw [show l.length + 1 - 0 + 1 - 1 = l.length + 1 by omega, Nat.div_one, ← List.range_eq_range']
  have e : ∀ (i : Nat) (s : Array Nat × Nat), (if (decide (s.1.size < l.length + 1) && decide (s.2 ≤ i) && decide (i + (strL [c]).length ≤ l.length) && Builtin.Str.subAt (strL l) (strL [c]) i) = true then (pure (ForInStep.yield (s.1.push i, i + (strL [c]).length)) : Id (ForInStep (Array Nat × Nat))) else pure (ForInStep.yield (s.1, s.2))) = pure (ForInStep.yield (occF l c s i)) := by
    intro i s
    unfold occF
    split <;> rfl
  simp only [e, List.forIn_pure_yield_eq_foldl]
  rfl
theorem count_one (l : List Nat) (c : Nat) : PySem.Txt.count (strL l) (strL [c]) = (l.count c : Int) := by
  unfold PySem.Txt.count
  rw [strL_len, occ_one]

/-! enumerate over a text -/
section
open PySem.Spec PyProof.Rows
def Ies (z : Str) : It :=
  ⟨fun i _ => i < z.cps.size, fun i H v H' => ∃ T c, v = .ref T ∧ H T = none ∧ H' = upd H T (.tup [.int (i : Nat), .str ⟨#[c]⟩]) ∧ z.cps[i]? = some c, fun i _ => i = z.cps.size⟩
theorem draws_s {P : Program} {w : World} {A : Around} (hh : A.handled = none) (it : Addr) (z : Str) (t : Tok) (ty : String) (hty : ty = "str_ascii_iterator" ∨ ty = "str_iterator") :
    Draws P w A it [it] z.cps.size (fun i v => ∃ c u, z.cps[i]? = some c ∧ v = .str ⟨#[c]⟩ u) (fun i h => h.IsStrIter it ty z t i) := by
  rcases hty with e | e
  · rw [e]; exact Draws.strAscii hh it z t
  · rw [e]; exact Draws.strWide hh it z t
theorem turn_enumS {P : Program} {w : World} {K : PySem.W.Frag} {elts : List Expr} {kk : Nat} {tpos : Pos} (z : Str) (t : Tok) (e it : Addr) (ty : String) (hty : ty = "str_ascii_iterator" ∨ ty = "str_iterator") :
    Turn P w K (.Tuple elts kk tpos) (Ies z) [e, it] e (fun i h => (∃ old, IsEnum h e it ((i : Nat) : Int) old) ∧ h.IsStrIter it ty z t i ∧ e ≠ it) where
  mem := by simp
  obj := fun i h st b hb => by
    obtain ⟨⟨old, he⟩, ⟨o, ho, hc, hd⟩, _⟩ := st
    rcases (show b = e ∨ b = it by simpa using hb) with y | y <;> rw [y]
    · exact ⟨_, he, fun v q => nomatch q⟩
    · exact ⟨o, ho, fun v q => by rw [hd] at q; cases q⟩
  keep := fun i h h' st k => let ⟨⟨old, he⟩, ⟨o, ho, r⟩, hne⟩ := st; ⟨⟨old, k e (by simp) _ he⟩, ⟨o, k it (by simp) o ho, r⟩, hne⟩
  item := by
    intro X hP hw hK hc i pins s σ H E I hf st hg
    subst hP hw hK
    obtain ⟨⟨old, he⟩, hit, hne⟩ := st
    have le1 : e < s.heap.objs.size := Heap.lt_size he
    have le2 : it < s.heap.objs.size := by obtain ⟨_, q, _⟩ := id hit; exact Heap.lt_size q
    refine wpAny_pyNext_enum_itemD (draws_s (show X.A.in1.handled = none from I.ok.hd hc) it z t ty hty) he hit hg hne (by simp [hne]) fun x h' tk hP ho hit' hT hsz hk => ?_
    obtain ⟨c, u, hcx, rfl⟩ := hP
    refine ⟨_, rfl, wpAny_letOwnedTupleGo_enum (s := { s with heap := h', toks := tk + 1 }) ho fun g he' sb => ?_⟩
    have hT2 : g.get? s.heap.objs.size = some { cls := .type "tuple", data := .seq #[.int i tk, .str ⟨#[c]⟩ u] } := (sb.2 _ (Nat.ne_of_gt le1)).trans hT
    have new : ObjOk X.prog X.w (upd H s.heap.objs.size (.tup [.int (i : Nat), .str ⟨#[c]⟩])) g s.heap.objs.size (.tup [.int (i : Nat), .str ⟨#[c]⟩]) :=
      ⟨by show 2 ≤ sizeLine; decide, [.int i tk, .str ⟨#[c]⟩ u], .cons ⟨_, rfl⟩ (.cons ⟨_, rfl⟩ .nil), ⟨_, hT2, rfl, _, rfl⟩⟩
    have I1 : Inv X pins σ (upd H s.heap.objs.size (.tup [.int (i : Nat), .str ⟨#[c]⟩])) { s with heap := g, toks := tk + 1 } :=
      I.turnedNew (ch := [e, it]) (fun b ob hb q => (sb.2 b (fun y => hb (by simp [y]))).trans (hk b ob (fun y => hb (by simp [y])) (fun y => hb (by simp [y])) q)) hf (Nat.le_refl _) new
    obtain ⟨o, ho2, r⟩ := hit'
    refine ⟨.ref s.heap.objs.size, _, I1, rfl, ⟨_, c, rfl, I.hok.fresh (Nat.le_refl _), rfl, hcx⟩, ⟨⟨.str ⟨#[c]⟩ u, ?_⟩, ⟨o, (sb.2 it (Ne.symm hne)).trans ho2, r⟩, hne⟩, fun b hb => ?_⟩
    · rw [show ((i + 1 : Nat) : Int) = (i : Int) + 1 by omega]
      exact he'
    · have lb : b < s.heap.objs.size := by
        rcases (show b = e ∨ b = it by simpa using hb) with y | y <;> rw [y] <;> assumption
      rw [upd_ne (Nat.ne_of_lt lb)]
      exact (hf b hb).1
  done := by
    intro X hP hw hK hc i pins s σ H E I hf st hg
    subst hP hw hK
    obtain ⟨⟨old, he⟩, hit, hne⟩ := st
    obtain ⟨f0, f1, f2, f3, f4, f5⟩ := hf it (by simp)
    have hg2 : i = z.cps.size := hg
    subst hg2
    exact wpAny_pyNext_enum_endD (draws_s (show X.A.in1.handled = none from I.ok.hd hc) it z t ty hty) he hit fun h' eb => ⟨rfl, I.turned (t' := s.toks) (fun b o hb q => eb b o hb q) f0 f1 f3 f4 f5⟩
  self := fun A i s Q E st h => let ⟨⟨_, he⟩, _⟩ := st; wpAny_pyIter_enum he h
def iEnumS (ta : TA) : TI := fun σ H R => ta σ H fun vs H1 => ∃ z : Str, vs = [.str z] ∧ R (Ies z) H1
theorem pi_enumS {X : Cx} {e : Expr} {ta : TA} {p pos tpos : Pos} {elts : List Expr} {kk : Nat} (hg : Gl X "enumerate") (hm : X.mg "enumerate" = none) (ha : PA X [e] ta) (hs : starEach [e] X.env = [(false, eval e X.env)] := by rfl) :
    PI X (.Tuple elts kk tpos) (.Call (.Name "enumerate" p) [e] [] pos) (iEnumS ta) := by
  refine ⟨fun pins s σ H R I h => ?_⟩
  refine Call_ (ld_blt I hg hm boot_enumerate (PyProof.Rows.callWith_type1 (thn (ha.run pos pins s σ H _ I h) fun us s1 ⟨vs, H1, I1, r1, z, ex, q⟩ => ?_) hs rfl))
  subst ex
  cases r1 with
  | cons r rr =>
    cases rr
    obtain ⟨t, rfl⟩ := r
    refine call_enumerate_str fun h' he hit hsz hk => wpAny_pyIter_enum he ?_
    have hty : strIterType z = "str_ascii_iterator" ∨ strIterType z = "str_iterator" := by
      unfold strIterType
      split
      · exact .inl rfl
      · exact .inr rfl
    refine ⟨s1.heap.objs.size + 1, [s1.heap.objs.size + 1, s1.heap.objs.size], _, _, H1, rfl, I1.kept (t' := s1.toks) hk, turn_enumS z t (s1.heap.objs.size + 1) s1.heap.objs.size (strIterType z) hty, ⟨⟨.none, he⟩, hit, Nat.succ_ne_self _⟩, fun b hb => ?_, q⟩
    have le : s1.heap.objs.size ≤ b := by
      rcases (show b = s1.heap.objs.size + 1 ∨ b = s1.heap.objs.size by simpa using hb) with y | y <;> rw [y] <;> simp
    exact I1.fpOk le (I1.hok.fresh le)
theorem walk_enumS {z : Str} : Walk (Ies z) z.cps.size (fun _ => True) (YPair (fun i => some (.int (i : Nat))) (fun i => z.cps[i]?.map fun c => .str ⟨#[c]⟩)) := by
  refine ⟨fun _ _ hi _ => hi, fun _ _ => rfl, fun i H v H' _ _ y => ?_⟩
  obtain ⟨T, c, h1, h2, h3, h4⟩ := y
  exact ⟨T, .int (i : Nat), _, h1, h2, h3, rfl, by simp [h4]⟩
theorem j_enumS {σ : L2.St} {A : Asr} {ta : TA} {z : Str} (h : Ca (ta σ) A [.str z]) : Cj (iEnumS ta σ) A (Ies z) := fun H hA R k => h H hA _ fun H1 e1 => ⟨z, rfl, k H1 e1⟩
theorem q_forES {K' : PySem.W.Frag} {σ : L2.St} {A : Asr} {ta : TA} {j k : Nat} {tb s : TS} {D : Ends} {l : List Nat} (h : Ca (ta σ) A [.str (strL l)]) (P : Nat → L2.St → Asr → Prop) (h0 : P 0 σ A)
    (hs : ∀ (i : Nat) c σ' A', l[i]? = some c → P i σ' A' → Go tb { D with nx := Nf P (i + 1), ct := Nf P (i + 1), bk := s D } ((σ'.set j (some (.int (i : Int)))).set k (some (.str (strL [c])))) A') (hd : ∀ σ' A', P l.length σ' A' → Go s D σ' A') :
    Go (tSeq (tFor (iEnumS ta) (gTup K' 2 (gCons (gName j) (gCons (gName k) gNil))) tb) s) D σ A :=
  g_seq (s_forP (j_enumS h) (by have w := walk_enumS (z := strL l); rw [show (strL l).cps.size = l.length from strL_len l] at w; exact w) P h0 (fun _ _ _ _ _ _ _ => True.intro) (fun i x y σ' A' hi h1 h2 p => by
    cases h1
    have e : (strL l).cps[i]? = l[i]? := by simp [strL]
    rw [e] at h2
    obtain ⟨c, hc, rfl⟩ := Option.map_eq_some_iff.mp h2
    exact hs i c σ' A' hc p) hd)
end

/-! deep data: its shape, its equality -/
def Shp (k : Nat) (d : PyData) : Prop := d.canLay0 = true ∧ d.depth ≤ k
theorem shp_all {k : Nat} : ∀ {ds : List PyData}, (∀ d ∈ ds, Shp k d) → PyData.canLayAll0 ds = true ∧ PyData.depthAll ds ≤ k
  | [], _ => ⟨by simp only [PyData.canLayAll0], by simp only [PyData.depthAll]; omega⟩
  | d :: r, h => by
    have h1 := h d List.mem_cons_self
    have h2 := shp_all fun e he => h e (List.mem_cons_of_mem d he)
    constructor
    · simp only [PyData.canLayAll0, h1.1, h2.1, Bool.and_self]
    · have := h1.2
      have := h2.2
      simp only [PyData.depthAll]
      omega
theorem shp_list {k : Nat} {ds : List PyData} (h : ∀ d ∈ ds, Shp k d) : Shp (k + 1) (.list ds) := by
  have z := shp_all h
  exact ⟨by simp only [PyData.canLay0, z.1], by have := z.2; simp only [PyData.depth]; omega⟩
theorem shp_tup {k : Nat} {ds : List PyData} (h : ∀ d ∈ ds, Shp k d) : Shp (k + 1) (.tuple ds) := by
  have z := shp_all h
  exact ⟨by simp only [PyData.canLay0, z.1], by have := z.2; simp only [PyData.depth]; omega⟩
theorem shp_int {i : Int} : Shp 0 (.int i) := ⟨by simp only [PyData.canLay0], by simp only [PyData.depth]; omega⟩
theorem Shp.mono {k j : Nat} {d : PyData} (h : Shp k d) (l : k ≤ j) : Shp j d := ⟨h.1, Nat.le_trans h.2 l⟩
theorem Shp.shaped {k : Nat} {d : PyData} (h : Shp k d) (l : k ≤ 60) : SeqAt.shaped d = true := by
  have := h.2
  show (d.canLay0 && decide (d.depth ≤ 64)) = true
  rw [h.1, decide_eq_true (by omega)]
  rfl
def intsD (ns : List Int) : PyData := .list (ns.map PyData.int)
def tupD (ns : List Int) : PyData := .tuple (ns.map PyData.int)
theorem shp_ints {ns : List Int} : Shp 1 (intsD ns) := shp_list fun d hd => by
  obtain ⟨i, _, rfl⟩ := List.mem_map.mp hd
  exact shp_int
theorem shp_tupD {ns : List Int} : Shp 1 (tupD ns) := shp_tup fun d hd => by
  obtain ⟨i, _, rfl⟩ := List.mem_map.mp hd
  exact shp_int
section
variable {K : PySem.W.Frag} {A : Asr} {H : Hp} {x y : V} {d : PyData} {p : Addr} {ns : List Int}
theorem dpAll_ints : ∀ {ns : List Int}, DpAll K H (ns.map V.int) (ns.map PyData.int)
  | [] => .nil
  | i :: r => .cons (.int i) dpAll_ints
theorem knd_ints (h : KnL K A p (ns.map V.int)) : KnD K A (.ref p) (intsD ns) := fun H a => .lst (h H a) dpAll_ints
theorem knd_tupD (h : KnT K A p (ns.map V.int)) : KnD K A (.ref p) (tupD ns) := fun H a => .tup (h H a) dpAll_ints
theorem e_eqSame {k : Nat} (h1 : KnD K A x d) (h2 : KnD K A y d) (s : Shp k d) (l : k ≤ 60) : Cv (rEqA K x y) A (.bl true) := by
  have e := PySem.SeqAt.eqv_refl d s.1
  rw [← e]
  exact e_eqD h1 h2 (s.shaped l) (s.shaped l)
theorem e_neSame {k : Nat} (h1 : KnD K A x d) (h2 : KnD K A y d) (s : Shp k d) (l : k ≤ 60) : Cv (rNeA K x y) A (.bl false) := by
  have e := PySem.SeqAt.eqv_refl d s.1
  have z := e_neD h1 h2 (s.shaped l) (s.shaped l)
  rw [e] at z
  exact z
theorem e_eqInts {q : Addr} (h1 : KnL K A p (ns.map V.int)) (h2 : KnL K A q (ns.map V.int)) : Cv (rEqA K (.ref p) (.ref q)) A (.bl true) := e_eqSame (knd_ints h1) (knd_ints h2) shp_ints (by decide)
theorem e_neInts {q : Addr} (h1 : KnL K A p (ns.map V.int)) (h2 : KnL K A q (ns.map V.int)) : Cv (rNeA K (.ref p) (.ref q)) A (.bl false) := e_neSame (knd_ints h1) (knd_ints h2) shp_ints (by decide)
end
local macro_rules | `(tactic| walk_at "Lo.op") => `(tactic| first
  | ((with_reducible apply e_eqInts); (· walk_at "Lo.kn"); (· walk_at "Lo.kn"))
  | ((with_reducible apply e_neInts); (· walk_at "Lo.kn"); (· walk_at "Lo.kn")))

theorem cshl_1 {n : Int} (h : 0 ≤ n) (h2 : n ≤ 1000000) : CShl 1 n := ⟨h, by
  have e : (Builtin.Int.intBits 1 : Int) = 1 := by decide
  rw [e]
  omega⟩
theorem cpow_10 : CPow 10 39 := by unfold CPow; decide
theorem pow_10 : (0 : Int) < 10 ^ (39 : Int).toNat := by decide
theorem flat_take {α β : Type} {l : List α} {f : α → List β} {i : Nat} {x : α} (h : l[i]? = some x) : (l.take (i + 1)).flatMap f = (l.take i).flatMap f ++ f x := by
  rw [List.take_add_one, h, List.flatMap_append]
  simp
theorem range_take {β : Type} {n j : Nat} (f : Nat → β) (h : j < n) : ((List.range n).map f).take (j + 1) = ((List.range n).map f).take j ++ [f j] := by
  have e : ((List.range n).map f)[j]? = some (f j) := by rw [List.getElem?_map, List.getElem?_range h]; rfl
  rw [List.take_add_one, e]
  rfl
theorem sign01 (r : Int) : atI (("01" : Str).cps.toList) (r % 2) = some ((48 + r % 2).toNat) := by
  have h : r % 2 = 0 ∨ r % 2 = 1 := by omega
  rcases h with h | h <;> rw [h] <;> decide +kernel
theorem sgn (n : Nat) : (⟨#[n]⟩ : Str) = strL [n] := rfl
theorem div_div (c : Int) (j : Nat) : c / 2 ^ j / 2 = c / 2 ^ (j + 1) := by
  rw [Int.ediv_ediv_of_nonneg (by have := Int.pow_pos (n := 2) (m := j) (by omega); omega), Int.pow_succ]
theorem one_str : ("1" : Str) = strL [49] := by decide +kernel
theorem mem_cutV {xs : List V} {lo hi : Option Int} {x : V} (h : x ∈ cutV xs lo hi) : x ∈ xs := List.mem_of_mem_drop (List.mem_of_mem_take h)
theorem mem_ints {cs : List Int} {x : V} (h : x ∈ cs.map V.int) : ∃ c, x = .int c := by
  obtain ⟨c, _, rfl⟩ := List.mem_map.mp h
  exact ⟨c, rfl⟩
local macro_rules | `(tactic| walk_at "Lo.side") => `(tactic| first | with_reducible exact cpow_10 | with_reducible exact pow_10 | ((with_reducible apply cshl_1); (· omega); (· omega)))

/-! keys: numbers and texts -/
inductive KeyM where
  | n (i : Int)
  | s (l : List Nat)
deriving DecidableEq
def kv : KeyM → V
  | .n i => .int i
  | .s l => .str (strL l)
def SG : List Nat := ("abcdefghijklmnopqrstuvwxyz0123456789-_ " : Str).cps.toList
theorem SG_len : SG.length = 39 := by decide +kernel
def okK : KeyM → Bool
  | .n i => decide (0 ≤ i) && decide (i ≤ 999999999999999999)
  | .s l => l.all (fun c => decide (c ∈ SG)) && decide (l.length ≤ 11)
theorem okK_s {l : List Nat} : okK (.s l) = (l.all (fun c => decide (c ∈ SG)) && decide (l.length ≤ 11)) := rfl
theorem okK_n {i : Int} : okK (.n i) = (decide (0 ≤ i) && decide (i ≤ 999999999999999999)) := rfl
def smK : KeyM → Bool
  | .n _ => true
  | .s l => decide (l.length ≤ 1000000)
def worthL (l : List Nat) : Int := l.foldl (fun (w : Int) (c : Nat) => 40 * w + (SG.idxOf c : Nat) + 1) 0
theorem worthL_snoc (l : List Nat) (c : Nat) : worthL (l ++ [c]) = 40 * worthL l + (SG.idxOf c : Nat) + 1 := by
  unfold worthL
  rw [List.foldl_append]
  rfl
def stampK : KeyM → Int
  | .n i => 2 * i
  | .s l => 2 * worthL l + 1
def mixedM (number salt size : Int) : Int :=
  let f := 1 + (1103515245 * salt + 12345) % (2305843009213693951 - 1)
  let a := (69069 * salt * salt + 7 * salt) % 2305843009213693951
  let x := (f * number + a) % 2305843009213693951
  (x + x / 2147483648) % size
theorem mixedM_in (number salt : Int) {size : Int} (h : 0 < size) : 0 ≤ mixedM number salt size ∧ mixedM number salt size < size := ⟨Int.emod_nonneg _ (by omega), Int.emod_lt_of_pos _ h⟩
theorem idx_all : SG.all (fun c => match Builtin.Str.occurrences ("abcdefghijklmnopqrstuvwxyz0123456789-_ " : Str) ⟨#[c]⟩ 0 ("abcdefghijklmnopqrstuvwxyz0123456789-_ " : Str).length 1 with | i :: _ => i == SG.idxOf c | [] => false) = true := by decide +kernel
theorem idx_at {c : Nat} (h : c ∈ SG) : ∃ rest, Builtin.Str.occurrences ("abcdefghijklmnopqrstuvwxyz0123456789-_ " : Str) ⟨#[c]⟩ 0 ("abcdefghijklmnopqrstuvwxyz0123456789-_ " : Str).length 1 = SG.idxOf c :: rest := by
  have z := List.all_eq_true.mp idx_all c h
  cases e : Builtin.Str.occurrences ("abcdefghijklmnopqrstuvwxyz0123456789-_ " : Str) ⟨#[c]⟩ 0 ("abcdefghijklmnopqrstuvwxyz0123456789-_ " : Str).length 1 with
  | nil => rw [e] at z; cases z
  | cons i r =>
    rw [e] at z
    exact ⟨r, by rw [eq_of_beq z]⟩
def rSIx : V → List V → Hp → VK → Prop := fun x xs H Q => ∃ a b i rest, x = .str a ∧ xs = [.str b] ∧ Builtin.Str.occurrences a b 0 a.length 1 = i :: rest ∧ Q (.int (i : Nat)) H
theorem mt_sindexA {X : Cx} : MtR X "str.index" rSIx := mt_sindex
theorem e_sIdx {A : Asr} {c : Nat} (h : c ∈ SG) : Cv (rSIx (.str "abcdefghijklmnopqrstuvwxyz0123456789-_ ") [.str ⟨#[c]⟩]) A (.int (SG.idxOf c : Nat)) := fun H _ _ q => by
  obtain ⟨r, e⟩ := idx_at h
  exact ⟨_, _, _, r, rfl, rfl, e, q H (Same.refl H)⟩
theorem okS {l : List Nat} (h : okK (.s l) = true) : (∀ c ∈ l, c ∈ SG) ∧ l.length ≤ 11 := by
  rw [okK_s, Bool.and_eq_true] at h
  exact ⟨fun c hc => of_decide_eq_true (List.all_eq_true.mp h.1 c hc), of_decide_eq_true h.2⟩
theorem okK_sm {k : KeyM} (h : okK k = true) : smK k = true := by
  cases k with
  | n i => rfl
  | s l => exact decide_eq_true (by have := (okS h).2; omega)
theorem worth_nn (l : List Nat) : 0 ≤ worthL l := by
  have key : ∀ (m : List Nat) (w : Int), 0 ≤ w → 0 ≤ m.foldl (fun (w : Int) (c : Nat) => 40 * w + (SG.idxOf c : Nat) + 1) w := by
    intro m
    induction m with
    | nil => intro w h; exact h
    | cons a r ih =>
      intro w h
      exact ih _ (by show 0 ≤ 40 * w + ((SG.idxOf a : Nat) : Int) + 1; omega)
  exact key l 0 (by omega)
local macro_rules | `(tactic| walk_at "Lo.op") => `(tactic| ((with_reducible apply e_sIdx); (· walk_at "Lo.side")))
def sp_is_key : Sp := fun vs H Q E => ∃ (k : KeyM), vs = [kv k] ∧ (smK k = true) ∧ RetV (.bl (okK k)) H Q
theorem u_is_key {A : Asr} {E : XK} {k : KeyM}  (g0 : smK k = true) : Cv (fun H Q => sp_is_key [kv k] H Q E) A (.bl (okK k)) := fun H hA Q q => ⟨k, rfl, g0, q⟩
local macro_rules | `(tactic| walk_at "Lo.call") => `(tactic| ((with_reducible apply u_is_key); (· walk_at "Lo.side")))
theorem ok_is_key {P : Program} {w : World} {K : PySem.W.Frag} {mg : Str → Option Value} {base : Heap} (T : Txt K mg) : FnOk P w K mg base (L2.CX P w) 1 T.d_is_key.f T.d_is_key.fd ["thing"] sp_is_key := by
  refine T.d_is_key.F.ok sc_is_key (fun vs H Q E h => ?_) (fun cdv A outer s H vs Q E hr h => ?_)
  · obtain ⟨k, rfl, _⟩ := h
    rfl
  · obtain ⟨k, rfl, g0, q⟩ := h
    have hu := hu_of hr
    refine ⟨_, (pss_cons (ps_if (pt_val (pe_callB (r := rIsi K) call_isi (by rfl) T.z_isinstance (by decide +kernel) (pa_cons (pv 0) (pa_cons (pe_bltn (v := .ty "int") (by rfl) T.z_int (by decide +kernel) rfl) pa_nil)))) (pss_one (ps_ret (pe_chain op_le op_le pe_int (pv 0) (pe_glob (v := .int 999999999999999999) (by rfl) T.k_MOST_NUMBER ⟨_, rfl⟩)))) pss_nil)
  (pss_cons (ps_for (passes_of rfl) rfl (pi_str (pv 0)) (pg_name (i := 1) sc_is_key.nd rfl (Or.inl rfl))
  (pss_one (ps_if (pt_cmpR (r := rNinA K) (op_notinA hu) (pv 1) (pe_glob (v := .str "abcdefghijklmnopqrstuvwxyz0123456789-_ ") (by rfl) T.k_SIGNS ⟨_, rfl⟩) (by rfl)) (pss_one (ps_ret pe_bl)) pss_nil)))
  (pss_one (ps_ret (pe_cmpR op_le (pe_callB (r := rLenA K) call_lenA (by rfl) T.z_len (by decide +kernel) (pa_cons (pv 0) pa_nil)) (pe_glob (v := .int 11) (by rfl) T.k_MOST_SIGNS ⟨_, rfl⟩) (nomark _)))))),
      body_go (σ' := [some (kv k), none]) rfl ?_⟩
    try dsimp only [cxOf]
    cases k with
    | n i =>
      refine q_when (b := true) (t_test (c_cb (c_cons (c_var rfl) (c_cons c_c c_nil)) e_isiII)) ?_ (fun hb => by cases hb)
      intro _
      exact s_retV (v := .bl (okK (.n i))) (w := .bl (decide (0 ≤ i) && decide (i ≤ 999999999999999999))) (c_chain c_c (c_var rfl) r_I0 (fun _ => c_c) (fun _ => r_I0)) rfl q
    | s l =>
      have hl : l.length ≤ 1000000 := of_decide_eq_true g0
      have hz : (strL l).length ≤ sizeLine := by rw [strL_len]; exact small_line hl
      refine q_when (b := false) (t_test (c_cb (c_cons (c_var rfl) (c_cons c_c c_nil)) e_isiSI)) (fun hb => by cases hb) ?_
      intro _
      refine g_seq (s_forS (z := strL l) (c_var rfl) (fun i σ A' => A' = at_ H H H [] ∧ ∃ x, σ = [some (.str (strL l)), x] ∧ ∀ c ∈ l.take i, c ∈ SG) ⟨rfl, _, rfl, fun c hc => by simp at hc⟩ ?_ ?_)
      · rintro i c σ' A' hc ⟨rfl, x, rfl, hall⟩
        rw [strL_list] at hc
        refine s_if (b := !decide (c ∈ SG)) (t_test (c_op (c_var rfl) c_c e_ninS)) ?_ ?_
        · intro hb
          refine s_retV (v := .bl (okK (.s l))) (w := .bl false) c_c ?_ q
          have hno : c ∉ SG := by simpa using hb
          have : okK (.s l) = false := by
            rw [okK_s]
            have : l.all (fun c => decide (c ∈ SG)) = false := by
              rw [List.all_eq_false]
              exact ⟨c, List.mem_of_getElem? hc, by simpa using hno⟩
            rw [this]
            rfl
          rw [this]
        · intro hb
          refine s_next ?_
          walk_at "Lo.nf"
          refine ⟨rfl, _, rfl, ?_⟩
          rw [List.take_add_one, hc]
          intro d hd
          rcases List.mem_append.mp hd with h | h
          · exact hall d h
          · have : d = c := by simpa using h
            rw [this]
            simpa using hb
      · rintro σ' A' ⟨rfl, x, rfl, hall⟩
        rw [strL_len, List.take_length] at hall
        walk_at "Lo.go"
        refine s_retV (v := .bl (okK (.s l))) (w := .bl (decide (((strL l).length : Int) ≤ 11))) (c_op (c_cb (c_cons (c_var rfl) c_nil) (e_lenS hz)) c_c r_I0) ?_ q
        rw [okK_s, strL_len, List.all_eq_true.mpr fun c hc => decide_eq_true (hall c hc), Bool.true_and]
        congr 1
        apply decide_eq_decide.mpr
        omega
def sp_stamp : Sp := fun vs H Q E => ∃ (k : KeyM), vs = [kv k] ∧ (okK k = true) ∧ RetV (.int (stampK k)) H Q
theorem u_stamp {A : Asr} {E : XK} {k : KeyM}  (g0 : okK k = true) : Cv (fun H Q => sp_stamp [kv k] H Q E) A (.int (stampK k)) := fun H hA Q q => ⟨k, rfl, g0, q⟩
local macro_rules | `(tactic| walk_at "Lo.call") => `(tactic| ((with_reducible apply u_stamp); (· walk_at "Lo.side")))
theorem ok_stamp {P : Program} {w : World} {K : PySem.W.Frag} {mg : Str → Option Value} {base : Heap} (T : Txt K mg) : FnOk P w K mg base (L2.CX P w) 3 T.d_stamp.f T.d_stamp.fd ["key"] sp_stamp := by
  have G_is_key := ok_is_key (P := P) (w := w) (base := base) T
  refine T.d_stamp.F.ok sc_stamp (fun vs H Q E h => ?_) (fun cdv A outer s H vs Q E hr h => ?_)
  · obtain ⟨k, rfl, _⟩ := h
    rfl
  · obtain ⟨k, rfl, g0, q⟩ := h
    have hu := hu_of hr
    refine ⟨_, (pss_cons (ps_if (pt_not (pt_val (pe_call G_is_key (hr.mono (by decide)) (by rfl) T.g_is_key T.d_is_key.kp T.d_is_key.b .nil passL (pa_cons (pv 0) pa_nil)))) (pss_one ps_dead) pss_nil)
  (pss_cons (ps_if (pt_val (pe_callB (r := rIsi K) call_isi (by rfl) T.z_isinstance (by decide +kernel) (pa_cons (pv 0) (pa_cons (pe_bltn (v := .ty "int") (by rfl) T.z_int (by decide +kernel) rfl) pa_nil)))) (pss_one (ps_ret (pe_op op_mulA pe_int (pv 0)))) pss_nil)
  (pss_cons (ps_set (i := 1) sc_stamp.nd rfl (Or.inl rfl) pe_int)
  (pss_cons (ps_for (passes_of rfl) rfl (pi_str (pv 0)) (pg_name (i := 2) sc_stamp.nd rfl (Or.inl rfl))
  (pss_one (ps_set (i := 1) sc_stamp.nd rfl (Or.inl rfl) (pe_op (r := rAddA K) op_addA (pe_op (r := rAddA K) op_addA (pe_op op_mulA pe_int (pv 1)) (pe_m1 (r := rSIx) PySem.F.slot_str_index PySem.F.type_str_index mt_sindexA (pe_glob (v := .str "abcdefghijklmnopqrstuvwxyz0123456789-_ ") (by rfl) T.k_SIGNS ⟨_, rfl⟩) (pv 2))) pe_int))))
  (pss_one (ps_ret (pe_op (r := rAddA K) op_addA (pe_op op_mulA pe_int (pv 1)) pe_int))))))),
      body_go (σ' := [some (kv k), none, none]) rfl ?_⟩
    try dsimp only [cxOf]
    have hsm := okK_sm g0
    refine q_when (b := !okK k) (t_not (t_test (c_call (c_cons (c_var rfl) c_nil) (u_is_key hsm)))) (fun hb => go_dead (by rw [g0] at hb; cases hb)) ?_
    intro _
    cases k with
    | n i =>
      refine q_when (b := true) (t_test (c_cb (c_cons (c_var rfl) (c_cons c_c c_nil)) e_isiII)) ?_ (fun hb => by cases hb)
      intro _
      exact s_retV (v := .int (stampK (.n i))) (w := .int (2 * i)) (c_op c_c (c_var rfl) (e_mul (cmul_l (by omega) (by omega)))) rfl q
    | s l =>
      obtain ⟨hs, hl⟩ := okS g0
      refine q_when (b := false) (t_test (c_cb (c_cons (c_var rfl) (c_cons c_c c_nil)) e_isiSI)) (fun hb => by cases hb) ?_
      intro _
      walk_at "Lo.q"
      refine g_seq (s_forS (z := strL l) (c_var rfl) (fun i σ A' => A' = at_ H H H [] ∧ ∃ x, σ = [some (.str (strL l)), some (.int (worthL (l.take i))), x]) ⟨rfl, _, rfl⟩ ?_ ?_)
      · rintro i c σ' A' hc ⟨rfl, x, rfl⟩
        rw [strL_list] at hc
        have hcs := hs c (List.mem_of_getElem? hc)
        refine s_asg (v := .int (40 * worthL (l.take i) + (SG.idxOf c : Nat) + 1)) (by walk_at "Lo.cv") ?_
        walk_at "Lo.nf"
        refine ⟨rfl, some (.str ⟨#[c]⟩), ?_⟩
        rw [List.take_add_one, hc]
        have e := worthL_snoc (l.take i) c
        rw [← e]
        rfl
      · rintro σ' A' ⟨rfl, x, rfl⟩
        rw [strL_len, List.take_length]
        walk_at "Lo.go"
        exact s_retV (v := .int (stampK (.s l))) (w := .int (2 * worthL l + 1)) (by walk_at "Lo.cv") rfl q
def sp_mixed : Sp := fun vs H Q E => ∃ (number salt size : Int), vs = [.int number, .int salt, .int size] ∧ (-18446744073709551616 < salt ∧ salt < 18446744073709551616 ∧ 0 < size) ∧ RetV (.int (mixedM number salt size)) H Q
theorem u_mixed {A : Asr} {E : XK} {number salt size : Int}  (g0 : -18446744073709551616 < salt ∧ salt < 18446744073709551616 ∧ 0 < size) : Cv (fun H Q => sp_mixed [.int number, .int salt, .int size] H Q E) A (.int (mixedM number salt size)) := fun H hA Q q => ⟨number, salt, size, rfl, g0, q⟩
local macro_rules | `(tactic| walk_at "Lo.call") => `(tactic| ((with_reducible apply u_mixed); (· walk_at "Lo.side")))
theorem ok_mixed {P : Program} {w : World} {K : PySem.W.Frag} {mg : Str → Option Value} {base : Heap} (T : Txt K mg) : FnOk P w K mg base (L2.CX P w) 1 T.d_mixed.f T.d_mixed.fd ["number", "salt", "size"] sp_mixed := by
  refine T.d_mixed.F.ok sc_mixed (fun vs H Q E h => ?_) (fun cdv A outer s H vs Q E hr h => ?_)
  · obtain ⟨number, salt, size, rfl, _⟩ := h
    rfl
  · obtain ⟨number, salt, size, rfl, g0, q⟩ := h
    have hu := hu_of hr
    refine ⟨_, (pss_cons (ps_set (i := 3) sc_mixed.nd rfl (Or.inl rfl) (pe_op (r := rAddA K) op_addA pe_int (pe_op op_mod (pe_op (r := rAddA K) op_addA (pe_op op_mulA pe_int (pv 1)) pe_int) (pe_op op_sub (pe_glob (v := .int 2305843009213693951) (by rfl) T.k_PRIME ⟨_, rfl⟩) pe_int))))
  (pss_cons (ps_set (i := 4) sc_mixed.nd rfl (Or.inl rfl) (pe_op op_mod (pe_op (r := rAddA K) op_addA (pe_op op_mulA (pe_op op_mulA pe_int (pv 1)) (pv 1)) (pe_op op_mulA pe_int (pv 1))) (pe_glob (v := .int 2305843009213693951) (by rfl) T.k_PRIME ⟨_, rfl⟩)))
  (pss_cons (ps_set (i := 5) sc_mixed.nd rfl (Or.inl rfl) (pe_op op_mod (pe_op (r := rAddA K) op_addA (pe_op op_mulA (pv 3) (pv 0)) (pv 4)) (pe_glob (v := .int 2305843009213693951) (by rfl) T.k_PRIME ⟨_, rfl⟩)))
  (pss_one (ps_ret (pe_op op_mod (pe_op (r := rAddA K) op_addA (pv 5) (pe_op op_fdivW (pv 5) pe_int)) (pv 2))))))),
      body_go (σ' := [some (.int number), some (.int salt), some (.int size), none, none, none]) rfl ?_⟩
    try dsimp only [cxOf]
    obtain ⟨g1, g2, g3⟩ := g0
    walk_at "Lo.q"
    walk_at "Lo.q"
    walk_at "Lo.q"
    walk_at "Lo.ret"
def sp_mark : Sp := fun vs H Q E => ∃ (k : KeyM) (w : Nat), vs = [kv k, .int (w : Int)] ∧ (okK k = true ∧ w ≤ 1000) ∧ RetV (.int (mixedM (stampK k) 3 (1 * 2 ^ w))) H Q
theorem u_mark {A : Asr} {E : XK} {k : KeyM} {w : Nat}  (g0 : okK k = true ∧ w ≤ 1000) : Cv (fun H Q => sp_mark [kv k, .int (w : Int)] H Q E) A (.int (mixedM (stampK k) 3 (1 * 2 ^ w))) := fun H hA Q q => ⟨k, w, rfl, g0, q⟩
local macro_rules | `(tactic| walk_at "Lo.call") => `(tactic| ((with_reducible apply u_mark); (· walk_at "Lo.side")))
theorem ok_mark {P : Program} {w : World} {K : PySem.W.Frag} {mg : Str → Option Value} {base : Heap} (T : Txt K mg) : FnOk P w K mg base (L2.CX P w) 4 T.d_mark.f T.d_mark.fd ["key", "width"] sp_mark := by
  have G_mixed := ok_mixed (P := P) (w := w) (base := base) T
  have G_stamp := ok_stamp (P := P) (w := w) (base := base) T
  refine T.d_mark.F.ok sc_mark (fun vs H Q E h => ?_) (fun cdv A outer s H vs Q E hr h => ?_)
  · obtain ⟨k, w, rfl, _⟩ := h
    rfl
  · obtain ⟨k, w, rfl, g0, q⟩ := h
    have hu := hu_of hr
    refine ⟨_, (pss_one (ps_ret (pe_call G_mixed (hr.mono (by decide)) (by rfl) T.g_mixed T.d_mixed.kp T.d_mixed.b .nil passL (pa_cons (pe_call G_stamp (hr.mono (by decide)) (by rfl) T.g_stamp T.d_stamp.kp T.d_stamp.b .nil passL (pa_cons (pv 0) pa_nil)) (pa_cons (pe_glob (v := .int 3) (by rfl) T.k_MARK_SALT ⟨_, rfl⟩) (pa_cons (pe_op op_shlW pe_int (pv 1)) pa_nil)))))),
      body_go (σ' := [some (kv k), some (.int (w : Int))]) rfl ?_⟩
    try dsimp only [cxOf]
    obtain ⟨g1, g2⟩ := g0
    have hp : (0 : Int) < 2 ^ (w : Int).toNat := Int.pow_pos (by omega)
    walk_at "Lo.ret"

/-! the law's mixing and draws -/
def mix (c k : Int) : Int :=
  let f := (c + 1) * (48271 + 118 * k) % 2147483629
  (f / 977 * 16807 + f * (k * k + 7) + k) % 2147483587
theorem mix_nn (c k : Int) : 0 ≤ mix c k := Int.emod_nonneg _ (by decide)
theorem mix_lt (c k : Int) : mix c k < 2147483587 := Int.emod_lt_of_pos _ (by decide)
def raw (ns : List Int) (k : Int) : Int := ns.getD k.toNat 0
def cell (ns : List Int) (k : Int) : Int := mix (raw ns k % 2147483647) (k + 101)
def great (c : Int) : Int := (mix c 1 * 2147483587 + mix c 2) * 2147483587 + mix c 3
theorem atI_map {α β : Type} (f : α → β) {xs : List α} {i : Int} {x : α} (h : atI xs i = some x) : atI (xs.map f) i = some (f x) := by
  unfold atI at *
  rw [List.length_map]
  cases e : ixN xs.length i with
  | none => rw [e] at h; cases h
  | some j =>
    rw [e] at h
    have h2 : xs[j]? = some x := h
    show (xs.map f)[j]? = some (f x)
    rw [List.getElem?_map, h2]
    rfl
theorem atI_getD {α : Type} {xs : List α} {i : Int} {d : α} (h0 : 0 ≤ i) (h : i < xs.length) : atI xs i = some (xs.getD i.toNat d) := by
  obtain ⟨j, rfl⟩ := Int.eq_ofNat_of_zero_le h0
  have hj : j < xs.length := by omega
  rw [atI_nat (v := xs[j]) (by simp [hj])]
  simp [List.getD, hj]
theorem raw_at {ns : List Int} {k : Int} (h0 : 0 ≤ k) (h : k < (ns.map V.int).length) : atI (ns.map V.int) k = some (.int (raw ns k)) :=
  atI_map V.int (atI_getD h0 (by rw [List.length_map] at h; exact h))
theorem raw_out {ns : List Int} {k : Int} (h : ¬ k < (ns.map V.int).length) : raw ns k = 0 := by
  rw [List.length_map] at h
  unfold raw
  rw [List.getD, List.getElem?_eq_none (by omega)]
  rfl
def sp_l_mix : Sp := fun vs H Q E => ∃ (c k : Int), vs = [.int c, .int k] ∧ (0 ≤ k ∧ k ≤ 10000000000) ∧ RetV (.int (mix c k)) H Q
theorem u_l_mix {A : Asr} {E : XK} {c k : Int}  (g0 : 0 ≤ k ∧ k ≤ 10000000000) : Cv (fun H Q => sp_l_mix [.int c, .int k] H Q E) A (.int (mix c k)) := fun H hA Q q => ⟨c, k, rfl, g0, q⟩
local macro_rules | `(tactic| walk_at "Lo.call") => `(tactic| ((with_reducible apply u_l_mix); (· walk_at "Lo.side")))
theorem ok_l_mix {P : Program} {w : World} {K : PySem.W.Frag} {mg : Str → Option Value} {base : Heap} (T : Txt K mg) : FnOk P w K mg base (L2.CX P w) 1 T.d_l_mix.f T.d_l_mix.fd ["_law_cell_here", "_law_k"] sp_l_mix := by
  refine T.d_l_mix.F.ok sc_l_mix (fun vs H Q E h => ?_) (fun cdv A outer s H vs Q E hr h => ?_)
  · obtain ⟨c, k, rfl, _⟩ := h
    rfl
  · obtain ⟨c, k, rfl, g0, q⟩ := h
    have hu := hu_of hr
    refine ⟨_, (pss_cons (ps_set (i := 2) sc_l_mix.nd rfl (Or.inl rfl) (pe_op op_mod (pe_op op_mulA (pe_op (r := rAddA K) op_addA (pv 0) pe_int) (pe_op (r := rAddA K) op_addA pe_int (pe_op op_mulA pe_int (pv 1)))) pe_int))
  (pss_one (ps_ret (pe_op op_mod (pe_op (r := rAddA K) op_addA (pe_op (r := rAddA K) op_addA (pe_op op_mulA (pe_op op_fdivW (pv 2) pe_int) pe_int) (pe_op op_mulA (pv 2) (pe_op (r := rAddA K) op_addA (pe_op op_mulA (pv 1) (pv 1)) pe_int))) (pv 1)) pe_int)))),
      body_go (σ' := [some (.int c), some (.int k), none]) rfl ?_⟩
    try dsimp only [cxOf]
    walk_at "Lo.q"
    walk_at "Lo.ret"
def sp_l_raw (K : PySem.W.Frag) : Sp := fun vs H Q E => ∃ (a : Addr) (ns : List Int) (k : Int), vs = [.ref a, .int k] ∧ (SqL K H a (ns.map V.int)) ∧ (0 ≤ k) ∧ RetV (.int (raw ns k)) H Q
theorem u_l_raw {K : PySem.W.Frag} {A : Asr} {E : XK} {a : Addr} {ns : List Int} {k : Int}  (h0 : KnL K A a (ns.map V.int)) (g0 : 0 ≤ k) : Cv (fun H Q => (sp_l_raw K) [.ref a, .int k] H Q E) A (.int (raw ns k)) := fun H hA Q q => ⟨a, ns, k, rfl, h0 H hA, g0, q⟩
local macro_rules | `(tactic| walk_at "Lo.call") => `(tactic| ((with_reducible apply u_l_raw); (· walk_at "Lo.kn"); (· walk_at "Lo.side")))
theorem ok_l_raw {P : Program} {w : World} {K : PySem.W.Frag} {mg : Str → Option Value} {base : Heap} (T : Txt K mg) : FnOk P w K mg base (L2.CX P w) 1 T.d_l_raw.f T.d_l_raw.fd ["_law_script", "_law_k"] (sp_l_raw K) := by
  refine T.d_l_raw.F.ok sc_l_raw (fun vs H Q E h => ?_) (fun cdv A outer s H vs Q E hr h => ?_)
  · obtain ⟨a, ns, k, rfl, _⟩ := h
    rfl
  · obtain ⟨a, ns, k, rfl, h0, g0, q⟩ := h
    have hu := hu_of hr
    refine ⟨_, (pss_cons (ps_if (pt_cmpR op_lt (pv 1) (pe_callB (r := rLenA K) call_lenA (by rfl) T.z_len (by decide +kernel) (pa_cons (pv 0) pa_nil)) (nomark _)) (pss_one (ps_ret (pe_ix (r := rIxA K) (ix_A hu) (pv 0) (pv 1) (fun _ _ => rfl)))) pss_nil)
  (pss_one (ps_ret pe_int))),
      body_go (σ' := [some (.ref a), some (.int k)]) rfl ?_⟩
    try dsimp only [cxOf]
    walk_at "Lo.q"
    · intro hb
      have e := raw_at g0 (of_decide_eq_true hb)
      walk_at "Lo.ret"
    · intro hb
      have e := raw_out (of_decide_eq_false hb)
      rw [e] at q
      walk_at "Lo.ret"
def sp_l_cell (K : PySem.W.Frag) : Sp := fun vs H Q E => ∃ (a : Addr) (ns : List Int) (k : Int), vs = [.ref a, .int k] ∧ (SqL K H a (ns.map V.int)) ∧ (0 ≤ k ∧ k ≤ 1000000) ∧ RetV (.int (cell ns k)) H Q
theorem u_l_cell {K : PySem.W.Frag} {A : Asr} {E : XK} {a : Addr} {ns : List Int} {k : Int}  (h0 : KnL K A a (ns.map V.int)) (g0 : 0 ≤ k ∧ k ≤ 1000000) : Cv (fun H Q => (sp_l_cell K) [.ref a, .int k] H Q E) A (.int (cell ns k)) := fun H hA Q q => ⟨a, ns, k, rfl, h0 H hA, g0, q⟩
local macro_rules | `(tactic| walk_at "Lo.call") => `(tactic| ((with_reducible apply u_l_cell); (· walk_at "Lo.kn"); (· walk_at "Lo.side")))
theorem ok_l_cell {P : Program} {w : World} {K : PySem.W.Frag} {mg : Str → Option Value} {base : Heap} (T : Txt K mg) : FnOk P w K mg base (L2.CX P w) 2 T.d_l_cell.f T.d_l_cell.fd ["_law_script", "_law_k"] (sp_l_cell K) := by
  have G_l_mix := ok_l_mix (P := P) (w := w) (base := base) T
  have G_l_raw := ok_l_raw (P := P) (w := w) (base := base) T
  refine T.d_l_cell.F.ok sc_l_cell (fun vs H Q E h => ?_) (fun cdv A outer s H vs Q E hr h => ?_)
  · obtain ⟨a, ns, k, rfl, _⟩ := h
    rfl
  · obtain ⟨a, ns, k, rfl, h0, g0, q⟩ := h
    have hu := hu_of hr
    refine ⟨_, (pss_one (ps_ret (pe_call G_l_mix (hr.mono (by decide)) (by rfl) T.g_l_mix T.d_l_mix.kp T.d_l_mix.b .nil passL (pa_cons (pe_op op_mod (pe_call G_l_raw (hr.mono (by decide)) (by rfl) T.g_l_raw T.d_l_raw.kp T.d_l_raw.b .nil passL (pa_cons (pv 0) (pa_cons (pv 1) pa_nil))) pe_int) (pa_cons (pe_op (r := rAddA K) op_addA (pv 1) pe_int) pa_nil))))),
      body_go (σ' := [some (.ref a), some (.int k)]) rfl ?_⟩
    try dsimp only [cxOf]
    walk_at "Lo.ret"
def sp_l_great : Sp := fun vs H Q E => ∃ (c : Int), vs = [.int c] ∧ RetV (.int (great c)) H Q
theorem u_l_great {A : Asr} {E : XK} {c : Int}  : Cv (fun H Q => sp_l_great [.int c] H Q E) A (.int (great c)) := fun H hA Q q => ⟨c, rfl, q⟩
local macro_rules | `(tactic| walk_at "Lo.call") => `(tactic| ((with_reducible apply u_l_great)))
theorem ok_l_great {P : Program} {w : World} {K : PySem.W.Frag} {mg : Str → Option Value} {base : Heap} (T : Txt K mg) : FnOk P w K mg base (L2.CX P w) 2 T.d_l_great.f T.d_l_great.fd ["_law_cell_here"] sp_l_great := by
  have G_l_mix := ok_l_mix (P := P) (w := w) (base := base) T
  refine T.d_l_great.F.ok sc_l_great (fun vs H Q E h => ?_) (fun cdv A outer s H vs Q E hr h => ?_)
  · obtain ⟨c, rfl, _⟩ := h
    rfl
  · obtain ⟨c, rfl, q⟩ := h
    have hu := hu_of hr
    refine ⟨_, (pss_one (ps_ret (pe_op (r := rAddA K) op_addA (pe_op op_mulA (pe_op (r := rAddA K) op_addA (pe_op op_mulA (pe_call G_l_mix (hr.mono (by decide)) (by rfl) T.g_l_mix T.d_l_mix.kp T.d_l_mix.b .nil passL (pa_cons (pv 0) (pa_cons pe_int pa_nil))) pe_int) (pe_call G_l_mix (hr.mono (by decide)) (by rfl) T.g_l_mix T.d_l_mix.kp T.d_l_mix.b .nil passL (pa_cons (pv 0) (pa_cons pe_int pa_nil)))) pe_int) (pe_call G_l_mix (hr.mono (by decide)) (by rfl) T.g_l_mix T.d_l_mix.kp T.d_l_mix.b .nil passL (pa_cons (pv 0) (pa_cons pe_int pa_nil)))))),
      body_go (σ' := [some (.int c)]) rfl ?_⟩
    try dsimp only [cxOf]
    have h1 := mix_nn c 1
    have h2 := mix_lt c 1
    walk_at "Lo.ret"
def cells (ns : List Int) (start most : Int) : List Int :=
  if raw ns 0 % 2 = 0 then (List.range (min most (max 0 (ns.length - start))).toNat).map fun (i : Nat) => raw ns (start + (i : Int))
  else (List.range (min most (max (max 0 (ns.length - start)) (1 + cell ns 0 % most))).toNat).map fun (i : Nat) => great (mix (cell ns (start + (i : Int) % max 1 (max 0 (ns.length - start)))) (i : Int))
theorem cells_len (ns : List Int) (start most : Int) : (cells ns start most).length ≤ most.toNat := by
  unfold cells
  split <;> (rw [List.length_map, List.length_range]; omega)
def whole : V → Bool
  | .int _ => true
  | _ => false
def flat2 : V → Bool
  | .int _ => true
  | .bl _ => true
  | .str _ => true
  | .non => true
  | _ => false
def sp_l_cells (K : PySem.W.Frag) : Sp := fun vs H Q E => ∃ (a : Addr) (ns : List Int) (start most : Int), vs = [.ref a, .int start, .int most] ∧ (SqL K H a (ns.map V.int)) ∧ (0 ≤ start ∧ start ≤ 1000 ∧ 1 ≤ most ∧ most ≤ 1000 ∧ ns.length ≤ 63) ∧ RetN (.lst ((cells ns start most).map V.int)) H Q
theorem u_l_cells {K : PySem.W.Frag} {A : Asr} {E : XK} {a : Addr} {ns : List Int} {start most : Int}  (h0 : KnL K A a (ns.map V.int)) (g0 : 0 ≤ start ∧ start ≤ 1000 ∧ 1 ≤ most ∧ most ≤ 1000 ∧ ns.length ≤ 63) : Cn (fun H Q => (sp_l_cells K) [.ref a, .int start, .int most] H Q E) A (.lst ((cells ns start most).map V.int)) := fun H hA Q q => ⟨a, ns, start, most, rfl, h0 H hA, g0, q⟩
local macro_rules | `(tactic| walk_at "Lo.call") => `(tactic| ((with_reducible apply u_l_cells); (· walk_at "Lo.kn"); (· walk_at "Lo.side")))
theorem ok_l_cells {P : Program} {w : World} {K : PySem.W.Frag} {mg : Str → Option Value} {base : Heap} (T : Txt K mg) : FnOk P w K mg base (L2.CX P w) 3 T.d_l_cells.f T.d_l_cells.fd ["_law_script", "_law_start", "_law_most"] (sp_l_cells K) := by
  have G_l_raw := ok_l_raw (P := P) (w := w) (base := base) T
  have G_l_cell := ok_l_cell (P := P) (w := w) (base := base) T
  have G_l_great := ok_l_great (P := P) (w := w) (base := base) T
  have G_l_mix := ok_l_mix (P := P) (w := w) (base := base) T
  refine T.d_l_cells.F.ok sc_l_cells (fun vs H Q E h => ?_) (fun cdv A outer s H vs Q E hr h => ?_)
  · obtain ⟨a, ns, start, most, rfl, _⟩ := h
    rfl
  · obtain ⟨a, ns, start, most, rfl, h0, g0, q⟩ := h
    have hu := hu_of hr
    refine ⟨_, (pss_cons (ps_set (i := 3) sc_l_cells.nd rfl (Or.inr rfl) (pe_callB (r := rMaxA K) (call_maxA rfl) (by rfl) T.z_max (by decide +kernel) (pa_cons pe_int (pa_cons (pe_op op_sub (pe_callB (r := rLenA K) call_lenA (by rfl) T.z_len (by decide +kernel) (pa_cons (pv 0) pa_nil)) (pv 1)) pa_nil))))
  (pss_cons (ps_if (pt_cmpR (r := rEqA K) (op_eqA hr.units) (pe_op op_mod (pe_call G_l_raw (hr.mono (by decide)) (by rfl) T.g_l_raw T.d_l_raw.kp T.d_l_raw.b .nil passL (pa_cons (pv 0) (pa_cons pe_int pa_nil))) pe_int) pe_int (nomark _)) (pss_one (ps_ret (pe_lc (own := [("_law_k", 5)]) (g := gName 5) (tt := tYes) rfl sc_l_cells.nd (pi_range1 (by rfl) T.z_range (pa_cons (pe_callB (r := rMinA K) (call_minA rfl) (by rfl) T.z_min (by decide +kernel) (pa_cons (pv 2) (pa_cons (pv 3) pa_nil))) pa_nil)) (blkOk_by (N := ["_law_script", "_law_start", "_law_most", "_law_cells_here", "_law_many", "_law_k"]) (sc := defScope s_l_cells) (by decide +kernel)) (fun _ _ _ _ _ => pg_name (i := 5) sc_l_cells.nd rfl (Or.inl rfl)) (fun _ _ _ _ _ => pts_nil) (fun _ _ _ _ _ => (pe_call G_l_raw (hr.mono (by decide)) (by rfl) T.g_l_raw T.d_l_raw.kp T.d_l_raw.b .nil passL (pa_cons (pv 0) (pa_cons (pe_op (r := rAddA K) op_addA (pv 1) (pv 5)) pa_nil))))))) pss_nil)
  (pss_cons (ps_set (i := 4) sc_l_cells.nd rfl (Or.inl rfl) (pe_callB (r := rMinA K) (call_minA rfl) (by rfl) T.z_min (by decide +kernel) (pa_cons (pv 2) (pa_cons (pe_callB (r := rMaxA K) (call_maxA rfl) (by rfl) T.z_max (by decide +kernel) (pa_cons (pv 3) (pa_cons (pe_op (r := rAddA K) op_addA pe_int (pe_op op_mod (pe_call G_l_cell (hr.mono (by decide)) (by rfl) T.g_l_cell T.d_l_cell.kp T.d_l_cell.b .nil passL (pa_cons (pv 0) (pa_cons pe_int pa_nil))) (pv 2))) pa_nil))) pa_nil))))
  (pss_one (ps_ret (pe_lc (own := [("_law_k", 5)]) (g := gName 5) (tt := tYes) rfl sc_l_cells.nd (pi_range1 (by rfl) T.z_range (pa_cons (pv 4) pa_nil)) (blkOk_by (N := ["_law_script", "_law_start", "_law_most", "_law_cells_here", "_law_many", "_law_k"]) (sc := defScope s_l_cells) (by decide +kernel)) (fun _ _ _ _ _ => pg_name (i := 5) sc_l_cells.nd rfl (Or.inl rfl)) (fun _ _ _ _ _ => pts_nil) (fun _ _ _ _ _ => (pe_call G_l_great (hr.mono (by decide)) (by rfl) T.g_l_great T.d_l_great.kp T.d_l_great.b .nil passL (pa_cons (pe_call G_l_mix (hr.mono (by decide)) (by rfl) T.g_l_mix T.d_l_mix.kp T.d_l_mix.b .nil passL (pa_cons (pe_call G_l_cell (hr.mono (by decide)) (by rfl) T.g_l_cell T.d_l_cell.kp T.d_l_cell.b .nil passL (pa_cons (pv 0) (pa_cons (pe_op (r := rAddA K) op_addA (pv 1) (pe_op op_mod (pv 5) (pe_callB (r := rMaxA K) (call_maxA rfl) (by rfl) T.z_max (by decide +kernel) (pa_cons pe_int (pa_cons (pv 3) pa_nil))))) pa_nil))) (pa_cons (pv 5) pa_nil))) pa_nil))))))))),
      body_go (σ' := [some (.ref a), some (.int start), some (.int most), none, none, none]) rfl ?_⟩
    try dsimp only [cxOf]
    have hz : (ns.map V.int).length = ns.length := List.length_map _
    walk_at "Lo.q"
    walk_at "Lo.q"
    · intro hb
      have h2 := of_decide_eq_true hb
      have hs : ∀ i : Nat, (i : Int) < min most (max 0 ((ns.map V.int).length - start)) → 0 ≤ start + (i : Int) := fun i hi => by omega
      refine s_retN (u := .lst ((List.range (min most (max 0 ((ns.map V.int).length - start))).toNat).map fun (i : Nat) => V.int (raw ns (start + (i : Int))))) ?_ ?_ q
      · walk_at "Lo.cn"
      · unfold cells
        rw [if_pos h2, List.map_map, hz]
        all_goals rfl
    · intro hb
      have h2 := of_decide_eq_false hb
      have hc := mix_nn (raw ns 0 % 2147483647) (0 + 101)
      walk_at "Lo.q"
      refine s_retN (u := .lst ((List.range (min most (max (max 0 ((ns.map V.int).length - start)) (1 + cell ns 0 % most))).toNat).map fun (i : Nat) => V.int (great (mix (cell ns (start + (i : Int) % max 1 (max 0 ((ns.map V.int).length - start)))) (i : Int))))) ?_ ?_ q
      · have hm : ∀ i : Int, 0 ≤ i % max 1 (max 0 ((ns.map V.int).length - start)) ∧ i % max 1 (max 0 ((ns.map V.int).length - start)) ≤ 1000 := fun i => ⟨Int.emod_nonneg _ (by omega), by have := Int.emod_lt_of_pos i (show 0 < max 1 (max 0 (((ns.map V.int).length : Int) - start)) by omega); omega⟩
        refine n_lcR _ ?_ ?_ ?_ ?_ (fun _ => rfl)
        · walk_at "Lo.ca"
        · omega
        · omega
        · intro i hi
          have := hm i
          walk_at "Lo.cv"
      · unfold cells
        rw [if_neg h2, List.map_map, hz]
        all_goals rfl
def sp_l_whole : Sp := fun vs H Q E => ∃ (x : V), vs = [x] ∧ (flat2 x = true) ∧ RetV (.bl (whole x)) H Q
theorem u_l_whole {A : Asr} {E : XK} {x : V}  (g0 : flat2 x = true) : Cv (fun H Q => sp_l_whole [x] H Q E) A (.bl (whole x)) := fun H hA Q q => ⟨x, rfl, g0, q⟩
local macro_rules | `(tactic| walk_at "Lo.call") => `(tactic| ((with_reducible apply u_l_whole); (· walk_at "Lo.side")))
theorem ok_l_whole {P : Program} {w : World} {K : PySem.W.Frag} {mg : Str → Option Value} {base : Heap} (T : Txt K mg) : FnOk P w K mg base (L2.CX P w) 1 T.d_l_whole.f T.d_l_whole.fd ["_law_found"] sp_l_whole := by
  refine T.d_l_whole.F.ok sc_l_whole (fun vs H Q E h => ?_) (fun cdv A outer s H vs Q E hr h => ?_)
  · obtain ⟨x, rfl, _⟩ := h
    rfl
  · obtain ⟨x, rfl, g0, q⟩ := h
    have hu := hu_of hr
    refine ⟨_, (pss_one (ps_ret (pe_and (pe_callB (r := rIsi K) call_isi (by rfl) T.z_isinstance (by decide +kernel) (pa_cons (pv 0) (pa_cons (pe_bltn (v := .ty "int") (by rfl) T.z_int (by decide +kernel) rfl) pa_nil))) (pe_one (pe_not (pe_callB (r := rIsi K) call_isi (by rfl) T.z_isinstance (by decide +kernel) (pa_cons (pv 0) (pa_cons (pe_bltn (v := .ty "bool") (by rfl) T.z_bool (by decide +kernel) rfl) pa_nil)))))))),
      body_go (σ' := [some (x)]) rfl ?_⟩
    try dsimp only [cxOf]
    cases x with
    | int i => walk_at "Lo.ret"
    | bl b => exact s_retV (v := .bl (whole (.bl b))) (c_and (c_cb (c_cons (c_var rfl) (c_cons c_c c_nil)) e_isiBI) fun _ => c_not (c_cb (c_cons (c_var rfl) (c_cons c_c c_nil)) e_isiBB)) rfl q
    | str z => exact s_retV (v := .bl (whole (.str z))) (c_and (b := false) (c := true) (c_cb (c_cons (c_var rfl) (c_cons c_c c_nil)) e_isiSI) (fun h => by cases h)) rfl q
    | non => exact s_retV (v := .bl (whole .non)) (c_and (b := false) (c := true) (c_cb (c_cons (c_var rfl) (c_cons c_c c_nil)) e_isiNI) (fun h => by cases h)) rfl q
    | byt _ => cases g0
    | flt _ => cases g0
    | ref _ => cases g0
    | ty _ => cases g0

/-! the law's own keys -/
def restK (r : Int) (k : Nat) : Int := if k = 0 then r else r / 12 / 39 ^ (k - 1)
def txtK (r : Int) (m : Nat) : List Nat := (List.range m).map fun (k : Nat) => SG.getD (restK r (k + 1) % 39).toNat 0
def keyM (c : Int) : KeyM := if c % 3 = 0 then .n (c / 3 % 10 ^ (18 : Int).toNat) else if c % 3 = 2 then .n (c / 3 % 50) else .s (txtK (c / 3) (c / 3 % 12).toNat)
theorem getD_SG (i : Int) : SG.getD (i % 39).toNat 0 ∈ SG := by
  have h : (i % 39).toNat < SG.length := by rw [SG_len]; omega
  rw [List.getD, List.getElem?_eq_getElem h]
  exact List.getElem_mem h
theorem keyM_ok (c : Int) : okK (keyM c) = true := by
  unfold keyM
  split
  · have h1 := Int.emod_nonneg (c / 3) (show (10 ^ (18 : Int).toNat : Int) ≠ 0 by decide)
    have h2 := Int.emod_lt_of_pos (c / 3) (show (0 : Int) < 10 ^ (18 : Int).toNat by decide)
    have h3 : (10 ^ (18 : Int).toNat : Int) = 1000000000000000000 := by decide
    rw [okK_n, decide_eq_true (by omega), decide_eq_true (by omega)]
    rfl
  · split
    · rw [okK_n, decide_eq_true (by omega), decide_eq_true (by omega)]
      rfl
    · rw [okK_s, Bool.and_eq_true]
      refine ⟨List.all_eq_true.mpr fun d hd => ?_, decide_eq_true ?_⟩
      · obtain ⟨k, _, rfl⟩ := List.mem_map.mp hd
        exact decide_eq_true (getD_SG _)
      · unfold txtK
        rw [List.length_map, List.length_range]
        omega
theorem rest_step (r : Int) (j : Nat) : restK r j / (if j = 0 then 12 else 39) = restK r (j + 1) := by
  unfold restK
  rw [if_neg (by omega : ¬ j + 1 = 0), Nat.add_sub_cancel]
  by_cases h : j = 0
  · subst h
    simp
  · rw [if_neg h, if_neg h]
    obtain ⟨m, rfl⟩ : ∃ m, j = m + 1 := ⟨j - 1, by omega⟩
    rw [Nat.add_sub_cancel, Int.ediv_ediv_of_nonneg (by have := Int.pow_pos (n := 39) (m := m) (by omega); omega), Int.pow_succ]
theorem kv_eq (a b : KeyM) : eqV (kv a) (kv b) = decide (a = b) := by
  cases a with
  | n i => cases b with
    | n j =>
      show (i == j) = _
      by_cases h : i = j
      · subst h; simp
      · simp [h]
    | s l => simp [kv, eqV]
  | s l => cases b with
    | n j => simp [kv, eqV]
    | s m =>
      show (strL l == strL m) = _
      by_cases h : l = m
      · subst h; simp
      · have : ¬ strL l = strL m := fun e => h (strL_inj e)
        simp [h, this]
theorem kv_in (k : KeyM) (ks : List KeyM) : inV (kv k) (ks.map kv) = decide (k ∈ ks) := by
  unfold inV
  rw [List.any_map]
  by_cases h : k ∈ ks
  · rw [decide_eq_true h]
    exact List.any_eq_true.mpr ⟨k, h, by show eqV (kv k) (kv k) = true; rw [kv_eq]; simp⟩
  · rw [decide_eq_false h]
    refine List.any_eq_false.mpr fun x hx => ?_
    show ¬ eqV (kv x) (kv k) = true
    rw [kv_eq]
    intro e
    exact h (of_decide_eq_true e ▸ hx)
theorem kv_flat (k : KeyM) : flatV (kv k) = true := by cases k <;> rfl
theorem kvs_flat (ks : List KeyM) : (ks.map kv).all flatV = true := List.all_eq_true.mpr fun x hx => by
  obtain ⟨k, _, rfl⟩ := List.mem_map.mp hx
  exact kv_flat k
def kD : KeyM → PyData
  | .n i => .int i
  | .s l => .str (strL l)
theorem shp_kD {k : KeyM} (h : okK k = true) : Shp 0 (kD k) := by
  cases k with
  | n i => exact shp_int
  | s l =>
    refine ⟨?_, by simp only [kD, PyData.depth]; omega⟩
    have hs := (okS h).1
    have ha : SG.all (fun c => decide (c < 0x110000)) = true := by decide +kernel
    simp only [kD, PyData.canLay0]
    show (strL l).cps.all (fun c => decide (c < 0x110000)) = true
    rw [← Array.all_toList, strL_list]
    exact List.all_eq_true.mpr fun c hc => List.all_eq_true.mp ha c (hs c hc)
theorem dpAll_keys {K : PySem.W.Frag} {H : Hp} : ∀ {ks : List KeyM}, DpAll K H (ks.map kv) (ks.map kD)
  | [] => .nil
  | k :: r => .cons (by cases k with | n i => exact .int i | s l => exact .str _) dpAll_keys
theorem knd_keys {K : PySem.W.Frag} {A : Asr} {p : Addr} {ks : List KeyM} (h : KnL K A p (ks.map kv)) : KnD K A (.ref p) (.list (ks.map kD)) := fun H a => .lst (h H a) dpAll_keys
theorem knd_nil {K : PySem.W.Frag} {A : Asr} {p : Addr} (h : Kn A p (.lst [])) : KnD K A (.ref p) (.list []) := fun H a => .lst (SqL.of (h H a)) .nil
theorem shp_keys {ks : List KeyM} (h : ∀ k ∈ ks, okK k = true) : Shp 1 (.list (ks.map kD)) := shp_list fun d hd => by
  obtain ⟨k, hk, rfl⟩ := List.mem_map.mp hd
  exact shp_kD (h k hk)
theorem e_eqKeysNil {K : PySem.W.Frag} {A : Asr} {p q : Addr} {ks : List KeyM} (h : KnL K A p (ks.map kv)) (ho : ∀ k ∈ ks, okK k = true) (h2 : Kn A q (.lst [])) : Cv (rEqA K (.ref p) (.ref q)) A (.bl ks.isEmpty) := by
  have z := e_eqD (knd_keys h) (knd_nil h2) ((shp_keys ho).shaped (by decide)) ((shp_list (k := 0) (ds := []) fun d hd => by cases hd).shaped (by decide))
  have e : PyData.eqv (.list (ks.map kD)) (.list []) = ks.isEmpty := by
    cases ks with
    | nil => simp [PyData.eqv, PyData.eqvAll]
    | cons a r => simp [PyData.eqv, PyData.eqvAll]
  rw [e] at z
  exact z
def addK (acc : List KeyM) (k : KeyM) : List KeyM := if k ∈ acc then acc else acc ++ [k]
def dedupK (cs : List Int) : List KeyM := cs.foldl (fun acc c => addK acc (keyM c)) []
def keysM (ns : List Int) (start most : Int) : List KeyM := if (dedupK (cells ns start most)).isEmpty = true then [keyM (raw ns 0 / 2)] else dedupK (cells ns start most)
theorem dedupK_ok (cs : List Int) : (∀ k ∈ dedupK cs, okK k = true) ∧ (dedupK cs).Nodup ∧ (dedupK cs).length ≤ cs.length := by
  have key : ∀ (m : List Int) (acc : List KeyM), (∀ k ∈ acc, okK k = true) → acc.Nodup → (∀ k ∈ m.foldl (fun acc c => addK acc (keyM c)) acc, okK k = true) ∧ (m.foldl (fun acc c => addK acc (keyM c)) acc).Nodup ∧ (m.foldl (fun acc c => addK acc (keyM c)) acc).length ≤ acc.length + m.length := by
    intro m
    induction m with
    | nil => intro acc h1 h2; exact ⟨h1, h2, by simp⟩
    | cons c r ih =>
      intro acc h1 h2
      have g : (∀ k ∈ addK acc (keyM c), okK k = true) ∧ (addK acc (keyM c)).Nodup ∧ (addK acc (keyM c)).length ≤ acc.length + 1 := by
        unfold addK
        split
        · exact ⟨h1, h2, by omega⟩
        · rename_i hn
          refine ⟨fun k hk => ?_, ?_, by simp⟩
          · rcases List.mem_append.mp hk with h | h
            · exact h1 k h
            · rw [List.mem_singleton.mp h]
              exact keyM_ok c
          · rw [List.nodup_append]
            refine ⟨h2, by simp, fun a ha b hb e => hn ?_⟩
            rw [← List.mem_singleton.mp hb, ← e]
            exact ha
      obtain ⟨z1, z2, z3⟩ := ih _ g.1 g.2.1
      exact ⟨z1, z2, by rw [List.length_cons]; exact Nat.le_trans z3 (by omega)⟩
  have z := key cs [] (fun k hk => by cases hk) List.nodup_nil
  have z3 := z.2.2
  rw [List.length_nil, Nat.zero_add] at z3
  exact ⟨z.1, z.2.1, z3⟩
theorem keysM_ok (ns : List Int) (start most : Int) : (∀ k ∈ keysM ns start most, okK k = true) ∧ (keysM ns start most).Nodup ∧ (keysM ns start most).length ≤ max 1 most.toNat ∧ keysM ns start most ≠ [] := by
  have h := dedupK_ok (cells ns start most)
  have hc := cells_len ns start most
  unfold keysM
  split
  · exact ⟨fun k hk => by rw [List.mem_singleton.mp hk]; exact keyM_ok _, by simp, by simp; omega, by simp⟩
  · rename_i hn
    exact ⟨h.1, h.2.1, by omega, fun e => hn (by rw [e]; rfl)⟩
theorem dedup_take {cs : List Int} {i : Nat} {c : Int} (h : cs[i]? = some c) : dedupK (cs.take (i + 1)) = addK (dedupK (cs.take i)) (keyM c) := by
  unfold dedupK
  rw [List.take_add_one, h, List.foldl_append]
  rfl
theorem pow18 : CPow 10 18 := by unfold CPow; decide
theorem pow18p : (0 : Int) < 10 ^ (18 : Int).toNat := by decide
local macro_rules | `(tactic| walk_at "Lo.side") => `(tactic| first | with_reducible exact pow18 | with_reducible exact pow18p)
def sp_l_key : Sp := fun vs H Q E => ∃ (c : Int), vs = [.int c] ∧ RetV (kv (keyM c)) H Q
theorem u_l_key {A : Asr} {E : XK} {c : Int}  : Cv (fun H Q => sp_l_key [.int c] H Q E) A (kv (keyM c)) := fun H hA Q q => ⟨c, rfl, q⟩
local macro_rules | `(tactic| walk_at "Lo.call") => `(tactic| ((with_reducible apply u_l_key)))
theorem ok_l_key {P : Program} {w : World} {K : PySem.W.Frag} {mg : Str → Option Value} {base : Heap} (T : Txt K mg) : FnOk P w K mg base (L2.CX P w) 1 T.d_l_key.f T.d_l_key.fd ["_law_cell_here"] sp_l_key := by
  refine T.d_l_key.F.ok sc_l_key (fun vs H Q E h => ?_) (fun cdv A outer s H vs Q E hr h => ?_)
  · obtain ⟨c, rfl, _⟩ := h
    rfl
  · obtain ⟨c, rfl, q⟩ := h
    have hu := hu_of hr
    refine ⟨_, (pss_cons (ps_set (i := 1) sc_l_key.nd rfl (Or.inl rfl) pe_str)
  (pss_cons (ps_set (i := 2) sc_l_key.nd rfl (Or.inl rfl) (pe_op op_fdivW (pv 0) pe_int))
  (pss_cons (ps_if (pt_cmpR (r := rEqA K) (op_eqA hr.units) (pe_op op_mod (pv 0) pe_int) pe_int (nomark _)) (pss_one (ps_ret (pe_op op_mod (pv 2) (pe_op op_pow pe_int pe_int)))) pss_nil)
  (pss_cons (ps_if (pt_cmpR (r := rEqA K) (op_eqA hr.units) (pe_op op_mod (pv 0) pe_int) pe_int (nomark _)) (pss_one (ps_ret (pe_op op_mod (pv 2) pe_int))) pss_nil)
  (pss_cons (ps_set (i := 3) sc_l_key.nd rfl (Or.inl rfl) pe_str)
  (pss_cons (ps_set (i := 4) sc_l_key.nd rfl (Or.inl rfl) (pe_op op_mod (pv 2) pe_int))
  (pss_cons (ps_for (passes_of rfl) rfl (pi_range1 (by rfl) T.z_range (pa_cons (pv 4) pa_nil)) (pg_name (i := 5) sc_l_key.nd rfl (Or.inl rfl))
  (pss_cons (ps_set (i := 2) sc_l_key.nd rfl (Or.inl rfl) (pe_op op_fdivW (pv 2) (pe_ix (r := rIxA K) (ix_A hu) (pe_lst (pa_cons pe_int (pa_cons pe_int pa_nil))) (pe_callTy (r := rInt1) call_intA (by rfl) T.z_int (by decide +kernel) (pa_cons (pe_cmpR op_gt (pv 5) pe_int (nomark _)) pa_nil)) (fun _ _ => rfl))))
  (pss_one (ps_set (i := 3) sc_l_key.nd rfl (Or.inl rfl) (pe_op (r := rAddA K) op_addA (pv 3) (pe_ix (r := rIxA K) (ix_A hu) (pv 1) (pe_op op_mod (pv 2) pe_int) (fun _ _ => rfl)))))))
  (pss_one (ps_ret (pv 3)))))))))),
      body_go (σ' := [some (.int c), none, none, none, none, none]) rfl ?_⟩
    try dsimp only [cxOf]
    walk_at "Lo.q"
    walk_at "Lo.q"
    by_cases h0 : c % 3 = 0
    · refine q_when (b := decide (c % 3 = 0)) (by walk_at "Lo.ct") ?_ (fun hb => absurd h0 (of_decide_eq_false hb))
      intro _
      refine s_retV (w := .int (c / 3 % 10 ^ (18 : Int).toNat)) (by walk_at "Lo.cv") ?_ q
      unfold keyM
      rw [if_pos h0]
      rfl
    refine q_when (b := decide (c % 3 = 0)) (by walk_at "Lo.ct") (fun hb => absurd (of_decide_eq_true hb) h0) ?_
    intro _
    by_cases h2 : c % 3 = 2
    · refine q_when (b := decide (c % 3 = 2)) (by walk_at "Lo.ct") ?_ (fun hb => absurd h2 (of_decide_eq_false hb))
      intro _
      refine s_retV (w := .int (c / 3 % 50)) (by walk_at "Lo.cv") ?_ q
      unfold keyM
      rw [if_neg h0, if_pos h2]
      rfl
    refine q_when (b := decide (c % 3 = 2)) (by walk_at "Lo.ct") (fun hb => absurd (of_decide_eq_true hb) h2) ?_
    intro _
    walk_at "Lo.q"
    walk_at "Lo.q"
    have hk : keyM c = .s (txtK (c / 3) (c / 3 % 12).toNat) := by
      unfold keyM
      rw [if_neg h0, if_neg h2]
    rw [hk] at q
    generalize c / 3 = r at q
    refine q_forR (n := r % 12) (by walk_at "Lo.ca") (by omega) (by omega) (fun j σ A' => A' = at_ H H H [] ∧ ∃ x, σ = [some (.int c), some (.str "abcdefghijklmnopqrstuvwxyz0123456789-_ "), some (.int (restK r j)), some (.str (strL (txtK r j))), some (.int (r % 12)), x]) ⟨rfl, none, by simp [restK, txtK]; rfl⟩ ?_ ?_
    · rintro j σ' A' hj ⟨rfl, x, rfl⟩
      have ha : atI [V.int 12, V.int 39] (if decide ((j : Int) > 0) = true then 1 else 0) = some (.int (if j = 0 then 12 else 39)) := by
        by_cases h : j = 0
        · subst h
          rfl
        · rw [if_pos (decide_eq_true (by omega)), if_neg h]
          rfl
      have hd : CDivW (restK r j) (if j = 0 then 12 else 39) := by
        by_cases h : j = 0
        · rw [if_pos h]
          exact cdiv_of (by omega) (by omega)
        · rw [if_neg h]
          exact cdiv_of (by omega) (by omega)
      refine q_asg (v := .int (restK r (j + 1))) (cv_is (v := .int (restK r j / (if j = 0 then 12 else 39))) (by walk_at "Lo.cv") (by rw [rest_step])) ?_
      have hs : atI (("abcdefghijklmnopqrstuvwxyz0123456789-_ " : Str).cps.toList) (restK r (j + 1) % 39) = some (SG.getD (restK r (j + 1) % 39).toNat 0) := atI_getD (xs := SG) (by omega) (by rw [SG_len]; omega)
      have hz : ("abcdefghijklmnopqrstuvwxyz0123456789-_ " : Str).length ≤ sizeLine := by decide +kernel
      have hz2 : (strL (txtK r j)).length + (⟨#[SG.getD (restK r (j + 1) % 39).toNat 0]⟩ : Str).length ≤ sizeLine := by
        rw [strL_len, sgn, strL_len]
        unfold txtK
        rw [List.length_map, List.length_range]
        exact small_line (by simp only [List.length_cons, List.length_nil]; omega)
      refine s_asg (v := .str (strL (txtK r j) ++ ⟨#[SG.getD (restK r (j + 1) % 39).toNat 0]⟩)) (by walk_at "Lo.cv") ?_
      walk_at "Lo.nf"
      refine ⟨rfl, some (.int (j : Int)), ?_⟩
      rw [sgn, strL_app]
      unfold txtK
      rw [List.range_succ, List.map_append]
      rfl
    · rintro σ' A' ⟨rfl, x, rfl⟩
      walk_at "Lo.ret"
def sp_l_keys (K : PySem.W.Frag) : Sp := fun vs H Q E => ∃ (a : Addr) (ns : List Int) (start most : Int), vs = [.ref a, .int start, .int most] ∧ (SqL K H a (ns.map V.int)) ∧ (0 ≤ start ∧ start ≤ 1000 ∧ 1 ≤ most ∧ most ≤ 1000 ∧ ns.length ≤ 63) ∧ RetN (.lst ((keysM ns start most).map kv)) H Q
theorem u_l_keys {K : PySem.W.Frag} {A : Asr} {E : XK} {a : Addr} {ns : List Int} {start most : Int}  (h0 : KnL K A a (ns.map V.int)) (g0 : 0 ≤ start ∧ start ≤ 1000 ∧ 1 ≤ most ∧ most ≤ 1000 ∧ ns.length ≤ 63) : Cn (fun H Q => (sp_l_keys K) [.ref a, .int start, .int most] H Q E) A (.lst ((keysM ns start most).map kv)) := fun H hA Q q => ⟨a, ns, start, most, rfl, h0 H hA, g0, q⟩
local macro_rules | `(tactic| walk_at "Lo.call") => `(tactic| ((with_reducible apply u_l_keys); (· walk_at "Lo.kn"); (· walk_at "Lo.side")))
theorem ok_l_keys {P : Program} {w : World} {K : PySem.W.Frag} {mg : Str → Option Value} {base : Heap} (T : Txt K mg) : FnOk P w K mg base (L2.CX P w) 4 T.d_l_keys.f T.d_l_keys.fd ["_law_script", "_law_start", "_law_most"] (sp_l_keys K) := by
  have G_l_cells := ok_l_cells (P := P) (w := w) (base := base) T
  have G_l_key := ok_l_key (P := P) (w := w) (base := base) T
  have G_l_raw := ok_l_raw (P := P) (w := w) (base := base) T
  refine T.d_l_keys.F.ok sc_l_keys (fun vs H Q E h => ?_) (fun cdv A outer s H vs Q E hr h => ?_)
  · obtain ⟨a, ns, start, most, rfl, _⟩ := h
    rfl
  · obtain ⟨a, ns, start, most, rfl, h0, g0, q⟩ := h
    have hu := hu_of hr
    refine ⟨_, (pss_cons (ps_set (i := 3) sc_l_keys.nd rfl (Or.inl rfl) (pe_lst pa_nil))
  (pss_cons (ps_for (passes_of rfl) rfl (pi_list (pe_call G_l_cells (hr.mono (by decide)) (by rfl) T.g_l_cells T.d_l_cells.kp T.d_l_cells.b .nil passL (pa_cons (pv 0) (pa_cons (pv 1) (pa_cons (pv 2) pa_nil))))) (pg_name (i := 4) sc_l_keys.nd rfl (Or.inl rfl))
  (pss_cons (ps_set (i := 5) sc_l_keys.nd rfl (Or.inl rfl) (pe_call G_l_key (hr.mono (by decide)) (by rfl) T.g_l_key T.d_l_key.kp T.d_l_key.b .nil passL (pa_cons (pv 4) pa_nil)))
  (pss_one (ps_if (pt_cmpR (r := rNinA K) (op_notinA hu) (pv 5) (pv 3) (by rfl)) (pss_one (ps_expr (pe_bm PySem.F.plainAttrs_list PySem.F.slot_list_append PySem.F.type_list_append mt_append (pv 3) (pa_cons (pv 5) pa_nil)))) pss_nil))))
  (pss_cons (ps_if (pt_cmpR (r := rEqA K) (op_eqA hr.units) (pv 3) (pe_lst pa_nil) (nomark _)) (pss_one (ps_set (i := 3) sc_l_keys.nd rfl (Or.inl rfl) (pe_lst (pa_cons (pe_call G_l_key (hr.mono (by decide)) (by rfl) T.g_l_key T.d_l_key.kp T.d_l_key.b .nil passL (pa_cons (pe_op op_fdivW (pe_call G_l_raw (hr.mono (by decide)) (by rfl) T.g_l_raw T.d_l_raw.kp T.d_l_raw.b .nil passL (pa_cons (pv 0) (pa_cons pe_int pa_nil))) pe_int) pa_nil)) pa_nil)))) pss_nil)
  (pss_one (ps_ret (pv 3)))))),
      body_go (σ' := [some (.ref a), some (.int start), some (.int most), none, none, none]) rfl ?_⟩
    try dsimp only [cxOf]
    have hcl := cells_len ns start most
    have hok := dedupK_ok (cells ns start most)
    refine q_own (o := .lst []) (by walk_at "Lo.cn") fun p => ?_
    refine q_forO (xs := (cells ns start most).map V.int) (by walk_at "Lo.cn") (fun pc i σ A' => A' = at_ H H H [(pc, .lst ((cells ns start most).map V.int)), (p, .lst ((dedupK ((cells ns start most).take i)).map kv))] ∧ ∃ x y, σ = [some (.ref a), some (.int start), some (.int most), some (.ref p), x, y]) (fun pc => ⟨rfl, _, _, rfl⟩) ?_ ?_ ?_
    · rintro pc i σ' A' ⟨rfl, _⟩
      walk_at "Lo.kn"
    · rintro pc i x σ' A' hx ⟨rfl, x1, x2, rfl⟩
      rw [List.getElem?_map] at hx
      obtain ⟨c, hc, rfl⟩ := Option.map_eq_some_iff.mp hx
      have hlen := (dedupK_ok ((cells ns start most).take i)).2.2
      have hst := dedup_take hc
      rw [List.length_take] at hlen
      walk_at "Lo.q"
      have hf := kv_flat (keyM c)
      have hfs := kvs_flat (dedupK ((cells ns start most).take i))
      have hin := kv_in (keyM c) (dedupK ((cells ns start most).take i))
      generalize dedupK ((cells ns start most).take i) = acc at *
      refine s_if (b := !inV (kv (keyM c)) (acc.map kv)) (t_test (c_op (c_var rfl) (c_var rfl) (e_ninL (by walk_at "Lo.kn") hf hfs))) ?_ ?_
      · intro hb
        rw [hin] at hb
        have hno : ¬ keyM c ∈ acc := by simpa using hb
        refine s_app (v := kv (keyM c)) (c_var rfl) (c_var rfl) (Up1.tail Up1.head) ?_ ?_
        · rw [List.length_map]
          have := sizeLine_eq
          omega
        · walk_at "Lo.nf"
          refine ⟨?_, _, _, rfl⟩
          rw [hst]
          unfold addK
          rw [if_neg hno, List.map_append]
          rfl
      · intro hb
        rw [hin] at hb
        have hno : keyM c ∈ acc := by simpa using hb
        refine s_next ?_
        walk_at "Lo.nf"
        refine ⟨?_, _, _, rfl⟩
        rw [hst]
        unfold addK
        rw [if_pos hno]
    · rintro pc σ' A' ⟨rfl, x1, x2, rfl⟩
      rw [List.length_map, List.take_length]
      by_cases he : (dedupK (cells ns start most)).isEmpty = true
      · have hk : keysM ns start most = [keyM (raw ns 0 / 2)] := by unfold keysM; rw [if_pos he]
        rw [hk] at q
        refine q_if (b := (dedupK (cells ns start most)).isEmpty) (t_test (c_opvN (c_var rfl) (by walk_at "Lo.cn") fun r => e_eqKeysNil (by walk_at "Lo.kn") hok.1 (by walk_at "Lo.kn"))) ?_ (fun hb => by rw [he] at hb; cases hb)
        intro _
        refine s_own (o := .lst [kv (keyM (raw ns 0 / 2))]) (by walk_at "Lo.cn") fun p2 => ?_
        walk_at "Lo.go"
        exact s_retO (c_var rfl) (.head _) q
      · have hk : keysM ns start most = dedupK (cells ns start most) := by unfold keysM; rw [if_neg he]
        rw [hk] at q
        refine q_if (b := (dedupK (cells ns start most)).isEmpty) (t_test (c_opvN (c_var rfl) (by walk_at "Lo.cn") fun r => e_eqKeysNil (by walk_at "Lo.kn") hok.1 (by walk_at "Lo.kn"))) (fun hb => absurd hb he) ?_
        intro _
        refine s_next ?_
        walk_at "Lo.go"
        exact s_retO (c_var rfl) (.tail _ (.head _)) q
def sp_l_stamp : Sp := fun vs H Q E => ∃ (k : KeyM), vs = [kv k] ∧ (okK k = true) ∧ RetV (.int (stampK k)) H Q
theorem u_l_stamp {A : Asr} {E : XK} {k : KeyM}  (g0 : okK k = true) : Cv (fun H Q => sp_l_stamp [kv k] H Q E) A (.int (stampK k)) := fun H hA Q q => ⟨k, rfl, g0, q⟩
local macro_rules | `(tactic| walk_at "Lo.call") => `(tactic| ((with_reducible apply u_l_stamp); (· walk_at "Lo.side")))
theorem ok_l_stamp {P : Program} {w : World} {K : PySem.W.Frag} {mg : Str → Option Value} {base : Heap} (T : Txt K mg) : FnOk P w K mg base (L2.CX P w) 1 T.d_l_stamp.f T.d_l_stamp.fd ["_law_key_here"] sp_l_stamp := by
  refine T.d_l_stamp.F.ok sc_l_stamp (fun vs H Q E h => ?_) (fun cdv A outer s H vs Q E hr h => ?_)
  · obtain ⟨k, rfl, _⟩ := h
    rfl
  · obtain ⟨k, rfl, g0, q⟩ := h
    have hu := hu_of hr
    refine ⟨_, (pss_cons (ps_if (pt_val (pe_callB (r := rIsi K) call_isi (by rfl) T.z_isinstance (by decide +kernel) (pa_cons (pv 0) (pa_cons (pe_bltn (v := .ty "int") (by rfl) T.z_int (by decide +kernel) rfl) pa_nil)))) (pss_one (ps_ret (pe_op op_mulA pe_int (pv 0)))) pss_nil)
  (pss_cons (ps_set (i := 1) sc_l_stamp.nd rfl (Or.inl rfl) pe_int)
  (pss_cons (ps_for (passes_of rfl) rfl (pi_str (pv 0)) (pg_name (i := 2) sc_l_stamp.nd rfl (Or.inl rfl))
  (pss_one (ps_set (i := 1) sc_l_stamp.nd rfl (Or.inl rfl) (pe_op (r := rAddA K) op_addA (pe_op (r := rAddA K) op_addA (pe_op op_mulA (pv 1) pe_int) (pe_m1 (r := rSIx) PySem.F.slot_str_index PySem.F.type_str_index mt_sindexA pe_str (pv 2))) pe_int))))
  (pss_one (ps_ret (pe_op (r := rAddA K) op_addA (pe_op op_mulA pe_int (pv 1)) pe_int)))))),
      body_go (σ' := [some (kv k), none, none]) rfl ?_⟩
    try dsimp only [cxOf]
    cases k with
    | n i =>
      refine q_when (b := true) (t_test (c_cb (c_cons (c_var rfl) (c_cons c_c c_nil)) e_isiII)) ?_ (fun hb => by cases hb)
      intro _
      exact s_retV (v := .int (stampK (.n i))) (w := .int (2 * i)) (c_op c_c (c_var rfl) (e_mul (cmul_l (by omega) (by omega)))) rfl q
    | s l =>
      obtain ⟨hs, hl⟩ := okS g0
      refine q_when (b := false) (t_test (c_cb (c_cons (c_var rfl) (c_cons c_c c_nil)) e_isiSI)) (fun hb => by cases hb) ?_
      intro _
      walk_at "Lo.q"
      refine g_seq (s_forS (z := strL l) (c_var rfl) (fun i σ A' => A' = at_ H H H [] ∧ ∃ x, σ = [some (.str (strL l)), some (.int (worthL (l.take i))), x]) ⟨rfl, _, rfl⟩ ?_ ?_)
      · rintro i c σ' A' hc ⟨rfl, x, rfl⟩
        rw [strL_list] at hc
        have hcs := hs c (List.mem_of_getElem? hc)
        refine s_asg (v := .int (worthL (l.take i) * 40 + (SG.idxOf c : Nat) + 1)) (by walk_at "Lo.cv") ?_
        walk_at "Lo.nf"
        refine ⟨rfl, some (.str ⟨#[c]⟩), ?_⟩
        rw [List.take_add_one, hc, Int.mul_comm]
        have e := worthL_snoc (l.take i) c
        rw [← e]
        rfl
      · rintro σ' A' ⟨rfl, x, rfl⟩
        rw [strL_len, List.take_length]
        walk_at "Lo.go"
        exact s_retV (v := .int (stampK (.s l))) (w := .int (2 * worthL l + 1)) (by walk_at "Lo.cv") rfl q
def sp_l_mixed : Sp := fun vs H Q E => ∃ (number salt size : Int), vs = [.int number, .int salt, .int size] ∧ (-18446744073709551616 < salt ∧ salt < 18446744073709551616 ∧ 0 < size) ∧ RetV (.int (mixedM number salt size)) H Q
theorem u_l_mixed {A : Asr} {E : XK} {number salt size : Int}  (g0 : -18446744073709551616 < salt ∧ salt < 18446744073709551616 ∧ 0 < size) : Cv (fun H Q => sp_l_mixed [.int number, .int salt, .int size] H Q E) A (.int (mixedM number salt size)) := fun H hA Q q => ⟨number, salt, size, rfl, g0, q⟩
local macro_rules | `(tactic| walk_at "Lo.call") => `(tactic| ((with_reducible apply u_l_mixed); (· walk_at "Lo.side")))
theorem ok_l_mixed {P : Program} {w : World} {K : PySem.W.Frag} {mg : Str → Option Value} {base : Heap} (T : Txt K mg) : FnOk P w K mg base (L2.CX P w) 1 T.d_l_mixed.f T.d_l_mixed.fd ["_law_number", "_law_salt", "_law_size"] sp_l_mixed := by
  refine T.d_l_mixed.F.ok sc_l_mixed (fun vs H Q E h => ?_) (fun cdv A outer s H vs Q E hr h => ?_)
  · obtain ⟨number, salt, size, rfl, _⟩ := h
    rfl
  · obtain ⟨number, salt, size, rfl, g0, q⟩ := h
    have hu := hu_of hr
    refine ⟨_, (pss_cons (ps_set (i := 3) sc_l_mixed.nd rfl (Or.inl rfl) pe_int)
  (pss_cons (ps_set (i := 4) sc_l_mixed.nd rfl (Or.inl rfl) (pe_op (r := rAddA K) op_addA pe_int (pe_op op_mod (pe_op (r := rAddA K) op_addA (pe_op op_mulA pe_int (pv 1)) pe_int) (pe_op op_sub (pv 3) pe_int))))
  (pss_cons (ps_set (i := 5) sc_l_mixed.nd rfl (Or.inl rfl) (pe_op op_mod (pe_op (r := rAddA K) op_addA (pe_op op_mulA (pe_op op_mulA pe_int (pv 1)) (pv 1)) (pe_op op_mulA pe_int (pv 1))) (pv 3)))
  (pss_cons (ps_set (i := 6) sc_l_mixed.nd rfl (Or.inl rfl) (pe_op op_mod (pe_op (r := rAddA K) op_addA (pe_op op_mulA (pv 4) (pv 0)) (pv 5)) (pv 3)))
  (pss_one (ps_ret (pe_op op_mod (pe_op (r := rAddA K) op_addA (pv 6) (pe_op op_fdivW (pv 6) pe_int)) (pv 2)))))))),
      body_go (σ' := [some (.int number), some (.int salt), some (.int size), none, none, none, none]) rfl ?_⟩
    try dsimp only [cxOf]
    obtain ⟨g1, g2, g3⟩ := g0
    walk_at "Lo.q"
    walk_at "Lo.q"
    walk_at "Lo.q"
    walk_at "Lo.q"
    walk_at "Lo.ret"

def pick4 (a b c d i : Int) : Int := if i % 4 = 0 then a else if i % 4 = 1 then b else if i % 4 = 2 then c else d
theorem pick4_at (a b c d i : Int) : atI [V.int a, V.int b, V.int c, V.int d] (i % 4) = some (.int (pick4 a b c d i)) := by
  have h : i % 4 = 0 ∨ i % 4 = 1 ∨ i % 4 = 2 ∨ i % 4 = 3 := by omega
  unfold pick4
  rcases h with h | h | h | h <;> rw [h] <;> rfl
def saltP (s : Int) : Int := pick4 10 1000 (10 ^ (9 : Int).toNat) (10 ^ (18 : Int).toNat) s
def sizeP (s : Int) : Int := pick4 10 1000 (2 ^ (32 : Int).toNat) (2 ^ (40 : Int).toNat) s
theorem saltP_in (s : Int) : 0 < saltP s ∧ saltP s ≤ 1000000000000000000 := by
  have h1 : (10 : Int) ^ (9 : Int).toNat = 1000000000 := by decide
  have h2 : (10 : Int) ^ (18 : Int).toNat = 1000000000000000000 := by decide
  unfold saltP pick4
  rw [h1, h2]
  split
  · omega
  · split
    · omega
    · split <;> omega
theorem sizeP_in (s : Int) : 0 < sizeP s := by
  have h1 : (2 : Int) ^ (32 : Int).toNat = 4294967296 := by decide
  have h2 : (2 : Int) ^ (40 : Int).toNat = 1099511627776 := by decide
  unfold sizeP pick4
  rw [h1, h2]
  split
  · omega
  · split
    · omega
    · split <;> omega
def t1 (cs : List Int) (k : Nat) : Int := cs.getD (3 * k) 0 % 2305843009213693951
def t2 (cs : List Int) (k : Nat) : Int := cs.getD (3 * k + 1) 0 / 4 % saltP (cs.getD (3 * k + 1) 0)
def t3 (cs : List Int) (k : Nat) : Int := 1 + cs.getD (3 * k + 2) 0 / 4 % sizeP (cs.getD (3 * k + 2) 0)
theorem t2_in (cs : List Int) (k : Nat) : 0 ≤ t2 cs k ∧ t2 cs k < 18446744073709551616 := by
  have h := saltP_in (cs.getD (3 * k + 1) 0)
  have h1 := Int.emod_nonneg (cs.getD (3 * k + 1) 0 / 4) (show saltP (cs.getD (3 * k + 1) 0) ≠ 0 by omega)
  have h2 := Int.emod_lt_of_pos (cs.getD (3 * k + 1) 0 / 4) h.1
  unfold t2
  omega
theorem t3_in (cs : List Int) (k : Nat) : 0 < t3 cs k := by
  have h := sizeP_in (cs.getD (3 * k + 2) 0)
  have h1 := Int.emod_nonneg (cs.getD (3 * k + 2) 0 / 4) (show sizeP (cs.getD (3 * k + 2) 0) ≠ 0 by omega)
  unfold t3
  omega
def sp_l_three : Sp := fun vs H Q E => ∃ (a : Addr) (cs : List Int) (k : Nat), vs = [.ref a, .int (k : Int)] ∧ (H a = some (.lst (cs.map V.int))) ∧ (3 * k + 2 < cs.length ∧ cs.length ≤ 1000) ∧ RetN (.lst [.int (t1 cs k), .int (t2 cs k), .int (t3 cs k)]) H Q
theorem u_l_three {A : Asr} {E : XK} {a : Addr} {cs : List Int} {k : Nat}  (h0 : Kn A a (.lst (cs.map V.int))) (g0 : 3 * k + 2 < cs.length ∧ cs.length ≤ 1000) : Cn (fun H Q => sp_l_three [.ref a, .int (k : Int)] H Q E) A (.lst [.int (t1 cs k), .int (t2 cs k), .int (t3 cs k)]) := fun H hA Q q => ⟨a, cs, k, rfl, h0 H hA, g0, q⟩
local macro_rules | `(tactic| walk_at "Lo.call") => `(tactic| ((with_reducible apply u_l_three); (· walk_at "Lo.kn"); (· walk_at "Lo.side")))
theorem ok_l_three {P : Program} {w : World} {K : PySem.W.Frag} {mg : Str → Option Value} {base : Heap} (T : Txt K mg) : FnOk P w K mg base (L2.CX P w) 1 T.d_l_three.f T.d_l_three.fd ["_law_cells_here", "_law_k"] sp_l_three := by
  refine T.d_l_three.F.ok sc_l_three (fun vs H Q E h => ?_) (fun cdv A outer s H vs Q E hr h => ?_)
  · obtain ⟨a, cs, k, rfl, _⟩ := h
    rfl
  · obtain ⟨a, cs, k, rfl, h0, g0, q⟩ := h
    have hu := hu_of hr
    refine ⟨_, (pss_cons (ps_set (i := 2) sc_l_three.nd rfl (Or.inl rfl) (pe_op op_mod (pe_ix (r := rIxA K) (ix_A hu) (pv 0) (pe_op op_mulA pe_int (pv 1)) (fun _ _ => rfl)) pe_int))
  (pss_cons (ps_set (i := 3) sc_l_three.nd rfl (Or.inl rfl) (pe_ix (r := rIxA K) (ix_A hu) (pv 0) (pe_op (r := rAddA K) op_addA (pe_op op_mulA pe_int (pv 1)) pe_int) (fun _ _ => rfl)))
  (pss_cons (ps_set (i := 4) sc_l_three.nd rfl (Or.inl rfl) (pe_ix (r := rIxA K) (ix_A hu) (pv 0) (pe_op (r := rAddA K) op_addA (pe_op op_mulA pe_int (pv 1)) pe_int) (fun _ _ => rfl)))
  (pss_cons (ps_set (i := 3) sc_l_three.nd rfl (Or.inl rfl) (pe_op op_mod (pe_op op_fdivW (pv 3) pe_int) (pe_ix (r := rIxA K) (ix_A hu) (pe_lst (pa_cons pe_int (pa_cons pe_int (pa_cons (pe_op op_pow pe_int pe_int) (pa_cons (pe_op op_pow pe_int pe_int) pa_nil))))) (pe_op op_mod (pv 3) pe_int) (fun _ _ => rfl))))
  (pss_one (ps_ret (pe_lst (pa_cons (pv 2) (pa_cons (pv 3) (pa_cons (pe_op (r := rAddA K) op_addA pe_int (pe_op op_mod (pe_op op_fdivW (pv 4) pe_int) (pe_ix (r := rIxA K) (ix_A hu) (pe_lst (pa_cons pe_int (pa_cons pe_int (pa_cons (pe_op op_pow pe_int pe_int) (pa_cons (pe_op op_pow pe_int pe_int) pa_nil))))) (pe_op op_mod (pv 4) pe_int) (fun _ _ => rfl)))) pa_nil)))))))))),
      body_go (σ' := [some (.ref a), some (.int (k : Int)), none, none, none]) rfl ?_⟩
    try dsimp only [cxOf]
    obtain ⟨g1, g2⟩ := g0
    have a1 : atI (cs.map V.int) (3 * (k : Int)) = some (.int (cs.getD (3 * k) 0)) := by
      have z := atI_map V.int (atI_getD (xs := cs) (i := 3 * (k : Int)) (d := 0) (by omega) (by omega))
      rw [z, show (3 * (k : Int)).toNat = 3 * k by omega]
    have a2 : atI (cs.map V.int) (3 * (k : Int) + 1) = some (.int (cs.getD (3 * k + 1) 0)) := by
      have z := atI_map V.int (atI_getD (xs := cs) (i := 3 * (k : Int) + 1) (d := 0) (by omega) (by omega))
      rw [z, show (3 * (k : Int) + 1).toNat = 3 * k + 1 by omega]
    have a3 : atI (cs.map V.int) (3 * (k : Int) + 2) = some (.int (cs.getD (3 * k + 2) 0)) := by
      have z := atI_map V.int (atI_getD (xs := cs) (i := 3 * (k : Int) + 2) (d := 0) (by omega) (by omega))
      rw [z, show (3 * (k : Int) + 2).toNat = 3 * k + 2 by omega]
    have p9 : CPow 10 9 := by unfold CPow; decide
    have p32 : CPow 2 32 := by unfold CPow; decide
    have p40 : CPow 2 40 := by unfold CPow; decide
    have b2 := pick4_at 10 1000 (10 ^ (9 : Int).toNat) (10 ^ (18 : Int).toNat) (cs.getD (3 * k + 1) 0)
    have b3 := pick4_at 10 1000 (2 ^ (32 : Int).toNat) (2 ^ (40 : Int).toNat) (cs.getD (3 * k + 2) 0)
    have c2 := (saltP_in (cs.getD (3 * k + 1) 0)).1
    have c3 := sizeP_in (cs.getD (3 * k + 2) 0)
    change atI _ _ = some (V.int (saltP _)) at b2
    change atI _ _ = some (V.int (sizeP _)) at b3
    walk_at "Lo.q"
    walk_at "Lo.q"
    walk_at "Lo.q"
    walk_at "Lo.q"
    walk_at "Lo.ret"
def sp_l_width : Sp := fun vs H Q E => ∃ (k : KeyM) (w : Int), vs = [kv k, .int w] ∧ (okK k = true ∧ 0 ≤ w ∧ w ≤ 64) ∧ RetV (.bl true) H Q
theorem u_l_width {A : Asr} {E : XK} {k : KeyM} {w : Int}  (g0 : okK k = true ∧ 0 ≤ w ∧ w ≤ 64) : Cv (fun H Q => sp_l_width [kv k, .int w] H Q E) A (.bl true) := fun H hA Q q => ⟨k, w, rfl, g0, q⟩
local macro_rules | `(tactic| walk_at "Lo.call") => `(tactic| ((with_reducible apply u_l_width); (· walk_at "Lo.side")))
theorem ok_l_width {P : Program} {w : World} {K : PySem.W.Frag} {mg : Str → Option Value} {base : Heap} (T : Txt K mg) : FnOk P w K mg base (L2.CX P w) 5 T.d_l_width.f T.d_l_width.fd ["_law_key_here", "_law_width_here"] sp_l_width := by
  have G_mark := ok_mark (P := P) (w := w) (base := base) T
  have G_l_mixed := ok_l_mixed (P := P) (w := w) (base := base) T
  have G_l_stamp := ok_l_stamp (P := P) (w := w) (base := base) T
  have G_l_whole := ok_l_whole (P := P) (w := w) (base := base) T
  refine T.d_l_width.F.ok sc_l_width (fun vs H Q E h => ?_) (fun cdv A outer s H vs Q E hr h => ?_)
  · obtain ⟨k, w, rfl, _⟩ := h
    rfl
  · obtain ⟨k, w, rfl, g0, q⟩ := h
    have hu := hu_of hr
    refine ⟨_, (pss_cons (ps_set (i := 2) sc_l_width.nd rfl (Or.inl rfl) pe_int)
  (pss_cons (ps_for (passes_of rfl) rfl (pi_range1 (by rfl) T.z_range (pa_cons (pv 1) pa_nil)) (pg_name (i := 3) sc_l_width.nd rfl (Or.inl rfl))
  (pss_one (ps_set (i := 2) sc_l_width.nd rfl (Or.inl rfl) (pe_op op_mulA pe_int (pv 2)))))
  (pss_cons (ps_set (i := 4) sc_l_width.nd rfl (Or.inl rfl) (pe_call G_mark (hr.mono (by decide)) (by rfl) T.g_mark T.d_mark.kp T.d_mark.b .nil passL (pa_cons (pv 0) (pa_cons (pv 1) pa_nil))))
  (pss_one (ps_ret (pe_and (pe_call G_l_whole (hr.mono (by decide)) (by rfl) T.g_l_whole T.d_l_whole.kp T.d_l_whole.b .nil passL (pa_cons (pv 4) pa_nil)) (pe_one (pe_cmpR (r := rEqA K) (op_eqA hr.units) (pv 4) (pe_call G_l_mixed (hr.mono (by decide)) (by rfl) T.g_l_mixed T.d_l_mixed.kp T.d_l_mixed.b .nil passL (pa_cons (pe_call G_l_stamp (hr.mono (by decide)) (by rfl) T.g_l_stamp T.d_l_stamp.kp T.d_l_stamp.b .nil passL (pa_cons (pv 0) pa_nil)) (pa_cons pe_int (pa_cons (pv 2) pa_nil)))) (nomark _))))))))),
      body_go (σ' := [some (kv k), some (.int w), none, none, none]) rfl ?_⟩
    try dsimp only [cxOf]
    obtain ⟨g1, g2, g3⟩ := g0
    obtain ⟨n, rfl⟩ := Int.eq_ofNat_of_zero_le g2
    have hp : ∀ j : Nat, (0 : Int) < 2 ^ j := fun j => Int.pow_pos (by omega)
    walk_at "Lo.q"
    refine q_forR (n := (n : Int)) (by walk_at "Lo.ca") (by omega) (by omega) (fun j σ A' => A' = at_ H H H [] ∧ ∃ x, σ = [some (kv k), some (.int (n : Int)), some (.int (2 ^ j)), x, none]) ⟨rfl, _, rfl⟩ ?_ ?_
    · rintro j σ' A' hj ⟨rfl, x, rfl⟩
      refine s_asg (v := .int (2 * 2 ^ j)) (by walk_at "Lo.cv") ?_
      walk_at "Lo.nf"
      refine ⟨rfl, some (.int (j : Int)), ?_⟩
      rw [Int.pow_succ, Int.mul_comm]
      rfl
    · rintro σ' A' ⟨rfl, x, rfl⟩
      rw [Int.toNat_natCast]
      have gm : okK k = true ∧ n ≤ 1000 := ⟨g1, by omega⟩
      have hpn := hp n
      have gl : -18446744073709551616 < (3 : Int) ∧ (3 : Int) < 18446744073709551616 ∧ (0 : Int) < 2 ^ n := ⟨by omega, by omega, hpn⟩
      refine q_asg (v := .int (mixedM (stampK k) 3 (2 ^ n))) (cv_is (v := .int (mixedM (stampK k) 3 (1 * 2 ^ n))) (by walk_at "Lo.cv") (by rw [Int.one_mul])) ?_
      refine s_retV (v := .bl true) (w := .bl (whole (.int (mixedM (stampK k) 3 (2 ^ n))) && decide (mixedM (stampK k) 3 (2 ^ n) = mixedM (stampK k) 3 (2 ^ n)))) (by walk_at "Lo.cv") ?_ q
      simp [whole]
def sp_law (K : PySem.W.Frag) : Sp := fun vs H Q E => ∃ (a : Addr) (ns : List Int), vs = [.ref a] ∧ (SqL K H a (ns.map V.int)) ∧ (ns.length ≤ 63) ∧ RetV (.bl true) H Q
theorem u_law {K : PySem.W.Frag} {A : Asr} {E : XK} {a : Addr} {ns : List Int}  (h0 : KnL K A a (ns.map V.int)) (g0 : ns.length ≤ 63) : Cv (fun H Q => (sp_law K) [.ref a] H Q E) A (.bl true) := fun H hA Q q => ⟨a, ns, rfl, h0 H hA, g0, q⟩
local macro_rules | `(tactic| walk_at "Lo.call") => `(tactic| ((with_reducible apply u_law); (· walk_at "Lo.kn"); (· walk_at "Lo.side")))
theorem ok_law {P : Program} {w : World} {K : PySem.W.Frag} {mg : Str → Option Value} {base : Heap} (T : Txt K mg) : FnOk P w K mg base (L2.CX P w) 6 T.d_law.f T.d_law.fd ["_law_script"] (sp_law K) := by
  have G_l_cells := ok_l_cells (P := P) (w := w) (base := base) T
  have G_l_three := ok_l_three (P := P) (w := w) (base := base) T
  have G_l_cell := ok_l_cell (P := P) (w := w) (base := base) T
  have G_mixed := ok_mixed (P := P) (w := w) (base := base) T
  have G_l_mixed := ok_l_mixed (P := P) (w := w) (base := base) T
  have G_l_whole := ok_l_whole (P := P) (w := w) (base := base) T
  have G_l_keys := ok_l_keys (P := P) (w := w) (base := base) T
  have G_l_width := ok_l_width (P := P) (w := w) (base := base) T
  refine T.d_law.F.ok sc_law (fun vs H Q E h => ?_) (fun cdv A outer s H vs Q E hr h => ?_)
  · obtain ⟨a, ns, rfl, _⟩ := h
    rfl
  · obtain ⟨a, ns, rfl, h0, g0, q⟩ := h
    have hu := hu_of hr
    refine ⟨_, (pss_cons (ps_set (i := 1) sc_law.nd rfl (Or.inr rfl) (pe_call G_l_cells (hr.mono (by decide)) (by rfl) T.g_l_cells T.d_l_cells.kp T.d_l_cells.b .nil passL (pa_cons (pv 0) (pa_cons pe_int (pa_cons pe_int pa_nil)))))
  (pss_cons (ps_setLc (i := 3) (own := [("_law_k", 2)]) (g := gName 2) (tt := tYes) rfl sc_law.nd rfl rfl (sw_true rfl rfl rfl (by decide +kernel)) (pi_range1 (by rfl) T.z_range (pa_cons (pe_op op_fdivW (pe_callB (r := rLenA K) call_lenA (by rfl) T.z_len (by decide +kernel) (pa_cons (pv 1) pa_nil)) pe_int) pa_nil)) (blkOk_by (N := ["_law_script", "_law_cells_here", "_law_k", "_law_asked", "_law_told", "_law_number", "_law_salt", "_law_size", "_law_found", "_law_keys_here", "_law_key_here"]) (sc := defScope s_law) (by decide +kernel)) (fun _ _ _ _ _ => pg_name (i := 2) sc_law.nd rfl (Or.inl rfl)) (fun _ _ _ _ _ => pts_nil) (fun _ _ _ _ _ => (pe_call G_l_three (hr.mono (by decide)) (by rfl) T.g_l_three T.d_l_three.kp T.d_l_three.b .nil passL (pa_cons (pv 1) (pa_cons (pv 2) pa_nil)))))
  (pss_cons (ps_expr (pe_bm PySem.F.plainAttrs_list PySem.F.slot_list_append PySem.F.type_list_append mt_append (pv 3) (pa_cons (pe_lst (pa_cons (pe_call G_l_cell (hr.mono (by decide)) (by rfl) T.g_l_cell T.d_l_cell.kp T.d_l_cell.b .nil passL (pa_cons (pv 0) (pa_cons pe_int pa_nil))) (pa_cons (pe_op op_mod (pe_call G_l_cell (hr.mono (by decide)) (by rfl) T.g_l_cell T.d_l_cell.kp T.d_l_cell.b .nil passL (pa_cons (pv 0) (pa_cons pe_int pa_nil))) pe_int) (pa_cons (pe_op (r := rAddA K) op_addA pe_int (pe_op op_mod (pe_call G_l_cell (hr.mono (by decide)) (by rfl) T.g_l_cell T.d_l_cell.kp T.d_l_cell.b .nil passL (pa_cons (pv 0) (pa_cons pe_int pa_nil))) pe_int)) pa_nil)))) pa_nil)))
  (pss_cons (ps_set (i := 4) sc_law.nd rfl (Or.inl rfl) (pe_lst pa_nil))
  (pss_cons (ps_for (passes_of rfl) rfl (pi_list (pv 3)) (pg_lst rfl (pgs_cons (pg_name (i := 5) sc_law.nd rfl (Or.inl rfl)) (pgs_cons (pg_name (i := 6) sc_law.nd rfl (Or.inl rfl)) (pgs_cons (pg_name (i := 7) sc_law.nd rfl (Or.inl rfl)) pgs_nil))))
  (pss_cons (ps_set (i := 8) sc_law.nd rfl (Or.inl rfl) (pe_call G_mixed (hr.mono (by decide)) (by rfl) T.g_mixed T.d_mixed.kp T.d_mixed.b .nil passL (pa_cons (pv 5) (pa_cons (pv 6) (pa_cons (pv 7) pa_nil)))))
  (pss_cons (ps_if (PW.pt (pw_or (pt_not (pt_val (pe_call G_l_whole (hr.mono (by decide)) (by rfl) T.g_l_whole T.d_l_whole.kp T.d_l_whole.b .nil passL (pa_cons (pv 8) pa_nil)))) (pw_or1 (pt_cmpR (r := rNeA K) (op_neA hr.units) (pv 8) (pe_call G_l_mixed (hr.mono (by decide)) (by rfl) T.g_l_mixed T.d_l_mixed.kp T.d_l_mixed.b .nil passL (pa_cons (pv 5) (pa_cons (pv 6) (pa_cons (pv 7) pa_nil)))) (nomark _))))) (pss_one (ps_ret pe_bl)) pss_nil)
  (pss_one (ps_expr (pe_bm PySem.F.plainAttrs_list PySem.F.slot_list_append PySem.F.type_list_append mt_append (pv 4) (pa_cons (pv 8) pa_nil)))))))
  (pss_cons (ps_set (i := 9) sc_law.nd rfl (Or.inl rfl) (pe_call G_l_keys (hr.mono (by decide)) (by rfl) T.g_l_keys T.d_l_keys.kp T.d_l_keys.b .nil passL (pa_cons (pv 0) (pa_cons pe_int (pa_cons pe_int pa_nil)))))
  (pss_cons (ps_for (passes_of rfl) rfl (pi_enum (by rfl) T.z_enumerate (pa_cons (pv 9) pa_nil)) (pg_tup rfl (pgs_cons (pg_name (i := 2) sc_law.nd rfl (Or.inl rfl)) (pgs_cons (pg_name (i := 10) sc_law.nd rfl (Or.inl rfl)) pgs_nil)))
  (pss_one (ps_if (pt_not (pt_val (pe_call G_l_width (hr.mono (by decide)) (by rfl) T.g_l_width T.d_l_width.kp T.d_l_width.b .nil passL (pa_cons (pv 10) (pa_cons (pe_op (r := rAddA K) op_addA pe_int (pe_op op_mod (pe_op (r := rAddA K) op_addA (pv 2) (pe_call G_l_cell (hr.mono (by decide)) (by rfl) T.g_l_cell T.d_l_cell.kp T.d_l_cell.b .nil passL (pa_cons (pv 0) (pa_cons pe_int pa_nil)))) pe_int)) pa_nil))))) (pss_one (ps_ret pe_bl)) pss_nil)))
  (pss_one (ps_ret (pe_cmpR (r := rEqA K) (op_eqA hr.units) (pe_lc (own := [("_law_number", 5), ("_law_salt", 6), ("_law_size", 7)]) (g := gLst K 3 (gCons (gName 5) (gCons (gName 6) (gCons (gName 7) (gNil))))) (tt := tYes) rfl sc_law.nd (pi_list (pv 3)) (blkOk_by (N := ["_law_script", "_law_cells_here", "_law_k", "_law_asked", "_law_told", "_law_number", "_law_salt", "_law_size", "_law_found", "_law_keys_here", "_law_key_here"]) (sc := defScope s_law) (by decide +kernel)) (fun _ _ _ _ _ => (pg_lst rfl (pgs_cons (pg_name (i := 5) sc_law.nd rfl (Or.inl rfl)) (pgs_cons (pg_name (i := 6) sc_law.nd rfl (Or.inl rfl)) (pgs_cons (pg_name (i := 7) sc_law.nd rfl (Or.inl rfl)) pgs_nil))))) (fun _ _ _ _ _ => pts_nil) (fun _ _ _ _ _ => (pe_call G_mixed (hr.mono (by decide)) (by rfl) T.g_mixed T.d_mixed.kp T.d_mixed.b .nil passL (pa_cons (pv 5) (pa_cons (pv 6) (pa_cons (pv 7) pa_nil)))))) (pv 4) (nomark _))))))))))),
      body_go (σ' := [some (.ref a), none, none, none, none, none, none, none, none, none, none]) rfl ?_⟩
    try dsimp only [cxOf]
    have hcl := cells_len ns 1 60
    refine q_own (o := .lst ((cells ns 1 60).map V.int)) (by walk_at "Lo.cn") fun pc => ?_
    generalize cells ns 1 60 = cs at hcl
    have hm : (((cs.map V.int).length : Int) / 3).toNat = cs.length / 3 := by rw [List.length_map]; omega
    refine q_ownC (m := (((cs.map V.int).length : Int) / 3).toNat) (o := fun k => .lst [.int (t1 cs k), .int (t2 cs k), .int (t3 cs k)]) ?_ ?_
    · refine d_lcR (n := ((cs.map V.int).length : Int) / 3) _ (by walk_at "Lo.ca") (by rw [List.length_map]; omega) (by rw [List.length_map]; omega) (fun k hk => ?_) (fun _ => rfl)
      rw [List.length_map] at hk
      have g : 3 * k + 2 < cs.length ∧ cs.length ≤ 1000 := ⟨by omega, by omega⟩
      walk_at "Lo.cn"
    rw [hm]
    intro p S' vs hS hvl hv
    have h0' : SqL K S' a (ns.map V.int) := hS.seq h0
    have cb1 := mix_nn (raw ns 1 % 2147483647) (1 + 101)
    have cb2 := mix_nn (raw ns 2 % 2147483647) (2 + 101)
    refine q_appN (o := .lst [.int (cell ns 1), .int (cell ns 2 % 300), .int (1 + cell ns 3 % 70)]) (xs := vs) (N := fun q => [(p, .lst (vs ++ [.ref q])), (pc, .lst (cs.map V.int))]) (c_var rfl) (by walk_at "Lo.cn") (fun q => Up1.head) (by rw [hvl]; have := sizeLine_eq; omega) fun qa hq _ => ?_
    have h0q : SqL K (upd S' qa (.lst [.int (cell ns 1), .int (cell ns 2 % 300), .int (1 + cell ns 3 % 70)])) a (ns.map V.int) := (same_new hq).seq h0'
    obtain ⟨T, hT⟩ : ∃ T : Nat → Int × Int × Int, ∀ i, i < cs.length / 3 + 1 → ∃ r, (vs ++ [V.ref qa])[i]? = some (.ref r) ∧ (upd S' qa (.lst [.int (cell ns 1), .int (cell ns 2 % 300), .int (1 + cell ns 3 % 70)])) r = some (.lst [.int (T i).1, .int (T i).2.1, .int (T i).2.2]) ∧ 0 ≤ (T i).2.1 ∧ (T i).2.1 < 18446744073709551616 ∧ 0 < (T i).2.2 := by
      refine ⟨fun i => if i < cs.length / 3 then (t1 cs i, t2 cs i, t3 cs i) else (cell ns 1, cell ns 2 % 300, 1 + cell ns 3 % 70), fun i hi => ?_⟩
      by_cases hi2 : i < cs.length / 3
      · obtain ⟨r, r1, r2⟩ := hv i hi2
        refine ⟨r, by rw [List.getElem?_append_left (by omega)]; exact r1, ?_, ?_, ?_, ?_⟩
        · simp only [if_pos hi2]
          exact same_new hq _ _ r2
        · simp only [if_pos hi2]
          exact (t2_in cs i).1
        · simp only [if_pos hi2]
          exact (t2_in cs i).2
        · simp only [if_pos hi2]
          exact t3_in cs i
      · have e : i = vs.length := by omega
        refine ⟨qa, by rw [e]; simp, ?_, ?_, ?_, ?_⟩
        · simp only [if_neg hi2]
          exact upd_same
        · simp only [if_neg hi2]
          omega
        · simp only [if_neg hi2]
          omega
        · simp only [if_neg hi2]
          omega
    have hlen : (vs ++ [V.ref qa]).length = cs.length / 3 + 1 := by rw [List.length_append, hvl]; rfl
    generalize vs ++ [V.ref qa] = xs at hT hlen
    generalize upd S' qa (.lst [.int (cell ns 1), .int (cell ns 2 % 300), .int (1 + cell ns 3 % 70)]) = S2 at hT h0q
    rw [← hlen] at hT
    have hxl : xs.length ≤ 100 := by omega
    refine q_own (o := .lst []) (by walk_at "Lo.cn") fun pt => ?_
    have hsl := sizeLine_eq
    refine q_forG (a := p) (xs := xs) (c_var rfl) (fun i σ A' => A' = at_ H H S2 [(pt, .lst (((List.range i).map fun j => mixedM (T j).1 (T j).2.1 (T j).2.2).map V.int)), (p, .lst xs), (pc, .lst (cs.map V.int))] ∧ ∃ x5 x6 x7 x8, σ = [some (.ref a), some (.ref pc), none, some (.ref p), some (.ref pt), x5, x6, x7, x8, none, none]) ⟨rfl, _, _, _, _, rfl⟩ ?_ ?_ ?_
    · rintro i σ' A' ⟨rfl, _⟩
      walk_at "Lo.kn"
    · rintro i x σ' A' hx ⟨rfl, x5, x6, x7, x8, rfl⟩
      have hi : i < xs.length := by
        by_cases h : i < xs.length
        · exact h
        · rw [List.getElem?_eq_none (by omega)] at hx
          cases hx
      obtain ⟨r, r1, r2, r3, r4, r5⟩ := hT i hi
      rw [hx] at r1
      cases r1
      refine ⟨_, gs_L3 (x := .int (T i).1) (y := .int (T i).2.1) (z := .int (T i).2.2) (knl_of (kn_S r2)), ?_⟩
      have g : -18446744073709551616 < (T i).2.1 ∧ (T i).2.1 < 18446744073709551616 ∧ 0 < (T i).2.2 := ⟨by omega, r4, r5⟩
      walk_at "Lo.q"
      walk_at "Lo.q"
      · intro hb
        simp [whole] at hb
      intro _
      refine s_app (v := .int (mixedM (T i).1 (T i).2.1 (T i).2.2)) (c_var rfl) (c_var rfl) Up1.head (by rw [List.length_map, List.length_map, List.length_range]; omega) ?_
      walk_at "Lo.nf"
      refine ⟨?_, _, _, _, _, rfl⟩
      rw [List.range_succ]
      simp
    · rintro σ' A' ⟨rfl, x5, x6, x7, x8, rfl⟩
      have hk := keysM_ok ns 1 60
      have g1 : (0 : Int) ≤ 1 ∧ (1 : Int) ≤ 1000 ∧ (1 : Int) ≤ 60 ∧ (60 : Int) ≤ 1000 ∧ ns.length ≤ 63 := ⟨by omega, by omega, by omega, by omega, g0⟩
      refine q_own (o := .lst ((keysM ns 1 60).map kv)) (by walk_at "Lo.cn") fun pk => ?_
      generalize keysM ns 1 60 = ks at hk
      have hkl : ks.length ≤ 60 := by have := hk.2.2.1; omega
      refine q_forE (a := pk) (xs := ks.map kv) (by walk_at "Lo.ca") (fun i σ A' => A' = at_ H H S2 [(pk, .lst (ks.map kv)), (pt, .lst (((List.range xs.length).map fun j => mixedM (T j).1 (T j).2.1 (T j).2.2).map V.int)), (p, .lst xs), (pc, .lst (cs.map V.int))] ∧ ∃ x2 x5 x6 x7 x8 x10, σ = [some (.ref a), some (.ref pc), x2, some (.ref p), some (.ref pt), x5, x6, x7, x8, some (.ref pk), x10]) ⟨rfl, _, _, _, _, _, _, rfl⟩ ?_ ?_ ?_
      · rintro i σ' A' ⟨rfl, _⟩
        walk_at "Lo.kn"
      · rintro i x σ' A' hx ⟨rfl, x2, x5, x6, x7, x8, x10, rfl⟩
        rw [List.getElem?_map] at hx
        obtain ⟨k, hk2, rfl⟩ := Option.map_eq_some_iff.mp hx
        have g2 : okK k = true ∧ 0 ≤ 1 + ((i : Int) + cell ns 0) % 32 ∧ 1 + ((i : Int) + cell ns 0) % 32 ≤ 64 := ⟨hk.1 k (List.mem_of_getElem? hk2), by omega, by omega⟩
        walk_at "Lo.q"
        · intro hb
          simp at hb
        intro _
        refine s_next ?_
        walk_at "Lo.nf"
        exact ⟨rfl, _, _, _, _, _, _, rfl⟩
      · rintro σ' A' ⟨rfl, x2, x5, x6, x7, x8, x10, rfl⟩
        refine s_retV (v := .bl true) (w := .bl true) ?_ rfl q
        with_reducible apply c_opNv
        · refine cn_is (o := .lst ((List.range xs.length).map fun j => V.int (mixedM (T j).1 (T j).2.1 (T j).2.2))) (u := .lst (((List.range xs.length).map fun j => mixedM (T j).1 (T j).2.1 (T j).2.2).map V.int)) ?_ (by rw [List.map_map]; rfl)
          refine n_lcG (a := p) (xs := xs) _ (by walk_at "Lo.cv") (by walk_at "Lo.kn") (by omega) fun i x hx => ?_
          have hi : i < xs.length := by
            by_cases h : i < xs.length
            · exact h
            · rw [List.getElem?_eq_none (by omega)] at hx
              cases hx
          obtain ⟨r, r1, r2, r3, r4, r5⟩ := hT i hi
          rw [hx] at r1
          cases r1
          have g : -18446744073709551616 < (T i).2.1 ∧ (T i).2.1 < 18446744073709551616 ∧ 0 < (T i).2.2 := ⟨by omega, r4, r5⟩
          refine ⟨_, gs_L3 (x := .int (T i).1) (y := .int (T i).2.1) (z := .int (T i).2.2) (knl_of (kn_S r2)), rfl, ?_⟩
          walk_at "Lo.cv"
        · intro r
          walk_at "Lo.cv"
        · intro r
          walk_at "Lo.op"
def dd_is_key : He.DefD := ⟨("is_key", none), "is_key", "is_key", defArgs s_is_key, defBody s_is_key, defScope s_is_key, [], []⟩
def dd_stamp : He.DefD := ⟨("stamp", none), "stamp", "stamp", defArgs s_stamp, defBody s_stamp, defScope s_stamp, [], []⟩
def dd_mixed : He.DefD := ⟨("mixed", none), "mixed", "mixed", defArgs s_mixed, defBody s_mixed, defScope s_mixed, [], []⟩
def dd_mark : He.DefD := ⟨("mark", none), "mark", "mark", defArgs s_mark, defBody s_mark, defScope s_mark, [], []⟩
def dd_l_mix : He.DefD := ⟨("_law_mix", none), "_law_mix", "_law_mix", defArgs s_l_mix, defBody s_l_mix, defScope s_l_mix, [], []⟩
def dd_l_raw : He.DefD := ⟨("_law_raw", none), "_law_raw", "_law_raw", defArgs s_l_raw, defBody s_l_raw, defScope s_l_raw, [], []⟩
def dd_l_cell : He.DefD := ⟨("_law_cell", none), "_law_cell", "_law_cell", defArgs s_l_cell, defBody s_l_cell, defScope s_l_cell, [], []⟩
def dd_l_key : He.DefD := ⟨("_law_key", none), "_law_key", "_law_key", defArgs s_l_key, defBody s_l_key, defScope s_l_key, [], []⟩
def dd_l_great : He.DefD := ⟨("_law_great", none), "_law_great", "_law_great", defArgs s_l_great, defBody s_l_great, defScope s_l_great, [], []⟩
def dd_l_cells : He.DefD := ⟨("_law_cells", none), "_law_cells", "_law_cells", defArgs s_l_cells, defBody s_l_cells, defScope s_l_cells, [], []⟩
def dd_l_keys : He.DefD := ⟨("_law_keys", none), "_law_keys", "_law_keys", defArgs s_l_keys, defBody s_l_keys, defScope s_l_keys, [], []⟩
def dd_l_stamp : He.DefD := ⟨("_law_stamp", none), "_law_stamp", "_law_stamp", defArgs s_l_stamp, defBody s_l_stamp, defScope s_l_stamp, [], []⟩
def dd_l_mixed : He.DefD := ⟨("_law_mixed", none), "_law_mixed", "_law_mixed", defArgs s_l_mixed, defBody s_l_mixed, defScope s_l_mixed, [], []⟩
def dd_l_whole : He.DefD := ⟨("_law_whole", none), "_law_whole", "_law_whole", defArgs s_l_whole, defBody s_l_whole, defScope s_l_whole, [], []⟩
def dd_l_three : He.DefD := ⟨("_law_three", none), "_law_three", "_law_three", defArgs s_l_three, defBody s_l_three, defScope s_l_three, [], []⟩
def dd_l_width : He.DefD := ⟨("_law_width", none), "_law_width", "_law_width", defArgs s_l_width, defBody s_l_width, defScope s_l_width, [], []⟩
def dd_law : He.DefD := ⟨("law", none), "law", "law", defArgs s_law, defBody s_law, defScope s_law, [], []⟩
def fn0 : List He.DefD := [dd_is_key, dd_stamp, dd_mixed, dd_mark, dd_l_mix, dd_l_raw, dd_l_cell, dd_l_key, dd_l_great, dd_l_cells, dd_l_keys, dd_l_stamp, dd_l_mixed, dd_l_whole, dd_l_three, dd_l_width, dd_law]
def fn : List He.DefD := fn0
def fa0 : List He.Fa := [.glo "is_key", .glo "stamp", .glo "mixed", .glo "mark", .glo "_law_mix", .glo "_law_raw", .glo "_law_cell", .glo "_law_key", .glo "_law_great", .glo "_law_cells", .glo "_law_keys", .glo "_law_stamp", .glo "_law_mixed", .glo "_law_whole", .glo "_law_three", .glo "_law_width", .glo "law", .free "ValueError", .free "bool", .free "enumerate", .free "int", .free "isinstance", .free "len", .free "max", .free "min", .free "range", .int "PRIME" 2305843009213693951, .str "SIGNS" "abcdefghijklmnopqrstuvwxyz0123456789-_ ", .int "MOST_NUMBER" 999999999999999999, .int "MOST_SIGNS" 11]
def fa1 : List He.Fa := [.int "MARK_SALT" 3]
def fa : List He.Fa := fa0 ++ (fa1)
def ls0 : List PySem.Str := ["LodgeError", "NoKey", "PRIME", "SIGNS", "MOST_NUMBER", "MOST_SIGNS", "MARK_SALT", "is_key", "stamp", "mixed", "mark", "_law_mix", "_law_raw", "_law_cell", "_law_key", "_law_great", "_law_cells", "_law_keys", "_law_stamp", "_law_mixed", "_law_whole", "_law_three", "_law_width"]
def ls : List PySem.Str := ls0
abbrev R : PySem.W.OpenRow := PySem.W.OpenLaw.row PySem.Challenge.rw_lodge_k02_mixed
abbrev hk : PySem.W.Hook := He.hookD 4 fa fn
def ob (s : PySem.W.SharedT) : He.AlD := He.obsDG 4 fa fn (HandSHeadRun.getT s)
theorem ob_eq (s : PySem.W.SharedT) : ob s = hk.obs s.abs := He.obsDG_eq (HandSHeadRun.getT_eq s)
theorem run (w : World) : HandSHeadRun.RunEq R (PySem.W.view R.prog [26]) hk ob 1280 ls w := by
  intro os
  kernel_rfl
theorem txt {K : PySem.W.Frag} {h : Heap} {mg : Str → Option Value} (X : K.In h) (G : h.Ns mainGlobals mg) (c : He.SaysD fa fn K) : Nonempty (Txt K mg) := by
  obtain ⟨fd_is_key, F_is_key⟩ := c.def_ 0 (d := dd_is_key) rfl
  obtain ⟨fd_stamp, F_stamp⟩ := c.def_ 1 (d := dd_stamp) rfl
  obtain ⟨fd_mixed, F_mixed⟩ := c.def_ 2 (d := dd_mixed) rfl
  obtain ⟨fd_mark, F_mark⟩ := c.def_ 3 (d := dd_mark) rfl
  obtain ⟨fd_l_mix, F_l_mix⟩ := c.def_ 4 (d := dd_l_mix) rfl
  obtain ⟨fd_l_raw, F_l_raw⟩ := c.def_ 5 (d := dd_l_raw) rfl
  obtain ⟨fd_l_cell, F_l_cell⟩ := c.def_ 6 (d := dd_l_cell) rfl
  obtain ⟨fd_l_key, F_l_key⟩ := c.def_ 7 (d := dd_l_key) rfl
  obtain ⟨fd_l_great, F_l_great⟩ := c.def_ 8 (d := dd_l_great) rfl
  obtain ⟨fd_l_cells, F_l_cells⟩ := c.def_ 9 (d := dd_l_cells) rfl
  obtain ⟨fd_l_keys, F_l_keys⟩ := c.def_ 10 (d := dd_l_keys) rfl
  obtain ⟨fd_l_stamp, F_l_stamp⟩ := c.def_ 11 (d := dd_l_stamp) rfl
  obtain ⟨fd_l_mixed, F_l_mixed⟩ := c.def_ 12 (d := dd_l_mixed) rfl
  obtain ⟨fd_l_whole, F_l_whole⟩ := c.def_ 13 (d := dd_l_whole) rfl
  obtain ⟨fd_l_three, F_l_three⟩ := c.def_ 14 (d := dd_l_three) rfl
  obtain ⟨fd_l_width, F_l_width⟩ := c.def_ 15 (d := dd_l_width) rfl
  obtain ⟨fd_law, F_law⟩ := c.def_ 16 (d := dd_law) rfl
  obtain ⟨t_PRIME, k_PRIME⟩ := He.int_ok X G (c.fact 26 (f := .int "PRIME" 2305843009213693951) rfl)
  obtain ⟨t_SIGNS, k_SIGNS⟩ := He.str_ok X G (c.fact 27 (f := .str "SIGNS" "abcdefghijklmnopqrstuvwxyz0123456789-_ ") rfl)
  obtain ⟨t_MOST_NUMBER, k_MOST_NUMBER⟩ := He.int_ok X G (c.fact 28 (f := .int "MOST_NUMBER" 999999999999999999) rfl)
  obtain ⟨t_MOST_SIGNS, k_MOST_SIGNS⟩ := He.int_ok X G (c.fact 29 (f := .int "MOST_SIGNS" 11) rfl)
  obtain ⟨t_MARK_SALT, k_MARK_SALT⟩ := He.int_ok X G (c.fact 30 (f := .int "MARK_SALT" 3) rfl)
  exact ⟨{
    d_is_key := ⟨_, fd_is_key, F_is_key, FunD.bindsN F_is_key (fun _ _ _ _ _ _ us hl => match us, hl with | [_], _ => rfl)⟩,
    g_is_key := He.glo_ok X G (c.fact 0 (f := .glo "is_key") rfl),
    d_stamp := ⟨_, fd_stamp, F_stamp, FunD.bindsN F_stamp (fun _ _ _ _ _ _ us hl => match us, hl with | [_], _ => rfl)⟩,
    g_stamp := He.glo_ok X G (c.fact 1 (f := .glo "stamp") rfl),
    d_mixed := ⟨_, fd_mixed, F_mixed, FunD.bindsN F_mixed (fun _ _ _ _ _ _ us hl => match us, hl with | [_, _, _], _ => rfl)⟩,
    g_mixed := He.glo_ok X G (c.fact 2 (f := .glo "mixed") rfl),
    d_mark := ⟨_, fd_mark, F_mark, FunD.bindsN F_mark (fun _ _ _ _ _ _ us hl => match us, hl with | [_, _], _ => rfl)⟩,
    g_mark := He.glo_ok X G (c.fact 3 (f := .glo "mark") rfl),
    d_l_mix := ⟨_, fd_l_mix, F_l_mix, FunD.bindsN F_l_mix (fun _ _ _ _ _ _ us hl => match us, hl with | [_, _], _ => rfl)⟩,
    g_l_mix := He.glo_ok X G (c.fact 4 (f := .glo "_law_mix") rfl),
    d_l_raw := ⟨_, fd_l_raw, F_l_raw, FunD.bindsN F_l_raw (fun _ _ _ _ _ _ us hl => match us, hl with | [_, _], _ => rfl)⟩,
    g_l_raw := He.glo_ok X G (c.fact 5 (f := .glo "_law_raw") rfl),
    d_l_cell := ⟨_, fd_l_cell, F_l_cell, FunD.bindsN F_l_cell (fun _ _ _ _ _ _ us hl => match us, hl with | [_, _], _ => rfl)⟩,
    g_l_cell := He.glo_ok X G (c.fact 6 (f := .glo "_law_cell") rfl),
    d_l_key := ⟨_, fd_l_key, F_l_key, FunD.bindsN F_l_key (fun _ _ _ _ _ _ us hl => match us, hl with | [_], _ => rfl)⟩,
    g_l_key := He.glo_ok X G (c.fact 7 (f := .glo "_law_key") rfl),
    d_l_great := ⟨_, fd_l_great, F_l_great, FunD.bindsN F_l_great (fun _ _ _ _ _ _ us hl => match us, hl with | [_], _ => rfl)⟩,
    g_l_great := He.glo_ok X G (c.fact 8 (f := .glo "_law_great") rfl),
    d_l_cells := ⟨_, fd_l_cells, F_l_cells, FunD.bindsN F_l_cells (fun _ _ _ _ _ _ us hl => match us, hl with | [_, _, _], _ => rfl)⟩,
    g_l_cells := He.glo_ok X G (c.fact 9 (f := .glo "_law_cells") rfl),
    d_l_keys := ⟨_, fd_l_keys, F_l_keys, FunD.bindsN F_l_keys (fun _ _ _ _ _ _ us hl => match us, hl with | [_, _, _], _ => rfl)⟩,
    g_l_keys := He.glo_ok X G (c.fact 10 (f := .glo "_law_keys") rfl),
    d_l_stamp := ⟨_, fd_l_stamp, F_l_stamp, FunD.bindsN F_l_stamp (fun _ _ _ _ _ _ us hl => match us, hl with | [_], _ => rfl)⟩,
    g_l_stamp := He.glo_ok X G (c.fact 11 (f := .glo "_law_stamp") rfl),
    d_l_mixed := ⟨_, fd_l_mixed, F_l_mixed, FunD.bindsN F_l_mixed (fun _ _ _ _ _ _ us hl => match us, hl with | [_, _, _], _ => rfl)⟩,
    g_l_mixed := He.glo_ok X G (c.fact 12 (f := .glo "_law_mixed") rfl),
    d_l_whole := ⟨_, fd_l_whole, F_l_whole, FunD.bindsN F_l_whole (fun _ _ _ _ _ _ us hl => match us, hl with | [_], _ => rfl)⟩,
    g_l_whole := He.glo_ok X G (c.fact 13 (f := .glo "_law_whole") rfl),
    d_l_three := ⟨_, fd_l_three, F_l_three, FunD.bindsN F_l_three (fun _ _ _ _ _ _ us hl => match us, hl with | [_, _], _ => rfl)⟩,
    g_l_three := He.glo_ok X G (c.fact 14 (f := .glo "_law_three") rfl),
    d_l_width := ⟨_, fd_l_width, F_l_width, FunD.bindsN F_l_width (fun _ _ _ _ _ _ us hl => match us, hl with | [_, _], _ => rfl)⟩,
    g_l_width := He.glo_ok X G (c.fact 15 (f := .glo "_law_width") rfl),
    d_law := ⟨_, fd_law, F_law, FunD.bindsN F_law (fun _ _ _ _ _ _ us hl => match us, hl with | [_], _ => rfl)⟩,
    g_law := He.glo_ok X G (c.fact 16 (f := .glo "law") rfl),
    z_ValueError := He.free_ok X G (c.fact 17 (f := .free "ValueError") rfl),
    z_bool := He.free_ok X G (c.fact 18 (f := .free "bool") rfl),
    z_enumerate := He.free_ok X G (c.fact 19 (f := .free "enumerate") rfl),
    z_int := He.free_ok X G (c.fact 20 (f := .free "int") rfl),
    z_isinstance := He.free_ok X G (c.fact 21 (f := .free "isinstance") rfl),
    z_len := He.free_ok X G (c.fact 22 (f := .free "len") rfl),
    z_max := He.free_ok X G (c.fact 23 (f := .free "max") rfl),
    z_min := He.free_ok X G (c.fact 24 (f := .free "min") rfl),
    z_range := He.free_ok X G (c.fact 25 (f := .free "range") rfl),
    t_PRIME := t_PRIME,
    k_PRIME := k_PRIME,
    t_SIGNS := t_SIGNS,
    k_SIGNS := k_SIGNS,
    t_MOST_NUMBER := t_MOST_NUMBER,
    k_MOST_NUMBER := k_MOST_NUMBER,
    t_MOST_SIGNS := t_MOST_SIGNS,
    k_MOST_SIGNS := k_MOST_SIGNS,
    t_MARK_SALT := t_MARK_SALT,
    k_MARK_SALT := k_MARK_SALT}⟩
theorem walk_end {l : PySem.W.OpenLaw} {n k : Nat} {q : Program} {loose : List Str} {XP : (Str → Option Value) → Heap → Prop} {YP : World → Heap → Prop} {d : DefRec} {CX : World → CXT} {x : Str}
    (hn : l.most = some n) (hs : n ≤ sizeLine) (hd : d.params.defaults = []) (hr : Room k callerA)
    (F : ∀ (w : World) (mg : Str → Option Value) (fa : Addr) (h : Heap), YP w h → h.Ns mainGlobals mg → mg d.name = some (.ref fa) → ∃ (K : PySem.W.Frag) (fd : FuncData) (sp : Sp), K.In h ∧
      (∀ (s : Shared) (u : Value), BindsTo s fd ⟨[u], []⟩ [(x, u)]) ∧ (∀ (H : Hp) (a : Addr) (ns : List Int), ns.length ≤ n → SqL K H a (ns.map V.int) → sp [.ref a] H (fun v _ => v = .bl true) fun _ _ _ => False) ∧
      ∀ base : Heap, K.In base → base.Ns mainGlobals mg → FnOk l.prog w K mg base (CX w) k fa fd [x] sp)
    (hx : ∀ (w : World) (H : Hp) (s : Shared) (e : Value) (t : Shared), CX w [] H s (fun _ _ _ => False) e t → False) : PySem.W.WalkO q loose XP YP l.row.toRowW d [] (fun f vs => PySem.call f vs) :=
  Att.attach_call hn hd fun w _ st mg _ fa _ _ _ _ a _ ns G Y _ _ _ hm ho hi hl hg => by
    obtain ⟨K, fd, sp, X, hb, hp, ok⟩ := F w mg fa _ Y G.T.g hm
    exact law_call X G.T.g G.T.b G.T.builtins G.T.nolimit hg ho hi (Nat.le_trans hl hs) hr ok hb (fun H _ h => hp H a ns hl h) fun H e t => hx w H st e t
end Lo
open PySem PySem.W PySem.Calls PyProof.Rows
theorem PySem.Challenge.cw_lodge_k02_mixed_holds : PySem.Challenge.rw_lodge_k02_mixed.Holds := by
  w_on; o_law
  refine HandSHeadRun.head_any (r := OpenLaw.row PySem.Challenge.rw_lodge_k02_mixed) (q := view (OpenLaw.row PySem.Challenge.rw_lodge_k02_mixed).prog [26]) (H := Lo.hk) (ob := Lo.ob) (M := 1280) (loose := Lo.ls) (d := HandSHeadRun.topDef (OpenLaw.row PySem.Challenge.rw_lodge_k02_mixed).prog 26) (kwd := []) Lo.ob_eq
    (by kernel_rfl) (fun s => by kernel_rfl) Lo.run (by kernel_rfl) (by kernel_rfl) (by kernel_rfl) (by rfl) (by first | assumption | decide +kernel) (by decide +kernel) ⟨rfl, rfl, rfl, rfl, rfl, by decide +kernel⟩ ?hw ?hc
  case hw => w_witness2
  case hc =>
    refine Lo.walk_end (l := PySem.Challenge.rw_lodge_k02_mixed) (n := 63) (k := 6) (x := "_law_script") (CX := L2.CX PySem.Challenge.rw_lodge_k02_mixed.prog) rfl (by decide) (by kernel_rfl) ⟨rfl, by decide, by decide⟩ ?F (fun w H s e t z => by
      obtain ⟨_, _, _, _, _, _, _, _, _, _, _, _, z⟩ := z
      exact z)
    intro w mg fa h Y G hmg0
    obtain ⟨K, KX, c⟩ := Y
    have hmg : mg ("law" : PySem.Str) = some (.ref fa) := by
      have e : (HandSHeadRun.topDef (OpenLaw.row PySem.Challenge.rw_lodge_k02_mixed).prog 26).name = ("law" : PySem.Str) := by kernel_rfl
      rw [← e]
      exact hmg0
    obtain ⟨T⟩ := Lo.txt KX G c
    have e := hmg.symm.trans T.g_law
    cases e
    have b := L2.FunD.bindsA (ps := ["_law_script"]) T.d_law.F fun _ _ _ _ _ _ us hl => match us, hl with | [_], _ => rfl
    exact ⟨K, T.d_law.fd, Lo.sp_law K, KX, fun s v => b s [v] rfl, fun H a ns hl hS => ⟨a, ns, rfl, hS, hl, fun _ _ => rfl⟩, fun base _ _ => Lo.ok_law T⟩
