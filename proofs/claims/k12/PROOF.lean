import PyProof.Rows.All
import Wide.All
import OpenK.AllK
import Wide.FinOn
import HandS.Base
import HandS.Call
import HandS.List
import HandS.Comp
import HandS.Ends
import HandS.Dict
import HandS.Iter
import HandS.Text
import HandS.Words
import HandS.WordsList
import HandS.WordsDict
import HandS.Wide
import HandS.WideBits
import HandS.IsInst
import HandS.Defaults
import HandS.WordsExc
import HandS.Conv
import HandS.Walk
import HandS.Codes
import KE.KStateDown
import HandS.Head0
import HandS.Head1
import HandS.Head2
import HandS.HeadEnd
import HandS.HeadHook1
import HandS.HeadHook2
import PySem.Challenge.RW_lodge_k12_read_back
set_option Elab.async false
set_option linter.all false
set_option maxRecDepth 100000
set_option maxHeartbeats 4000000
namespace Lo
open PySem L2
/-! ### assertions about the heap that stand when it grows -/
structure Asr where
  P : Hp → Prop
  st : ∀ H H', P H → Same H H' → P H'
theorem same_new {H : Hp} {p : Addr} {o : HO} (h : H p = none) : Same H (upd H p o) := fun b x e => by
  rw [upd_ne (ne_of_none e h)]
  exact e
/-- the assertion A, and: o stands at p -/
def Asr.kn (A : Asr) (p : Addr) (o : HO) : Asr := ⟨fun H => A.P H ∧ H p = some o, fun H H' h e => ⟨A.st H H' h.1 e, e p o h.2⟩⟩
/-- A tells that o stands at p | that a list, a tuple of xs is to be read at p -/
def Kn (A : Asr) (p : Addr) (o : HO) : Prop := ∀ H, A.P H → H p = some o
def KnL (K : PySem.W.Frag) (A : Asr) (p : Addr) (xs : List V) : Prop := ∀ H, A.P H → SqL K H p xs
def KnT (K : PySem.W.Frag) (A : Asr) (p : Addr) (xs : List V) : Prop := ∀ H, A.P H → SqT K H p xs
theorem kn_kn {A : Asr} {p : Addr} {o : HO} : Kn (A.kn p o) p o := fun _ h => h.2
theorem kn_up {A : Asr} {p q : Addr} {o u : HO} (h : Kn A p o) : Kn (A.kn q u) p o := fun H k => h H k.1
theorem knl_of {K : PySem.W.Frag} {A : Asr} {p : Addr} {xs : List V} (h : Kn A p (.lst xs)) : KnL K A p xs := fun H k => SqL.of (h H k)
theorem knt_of {K : PySem.W.Frag} {A : Asr} {p : Addr} {xs : List V} (h : Kn A p (.tup xs)) : KnT K A p xs := fun H k => SqT.of (h H k)
theorem knl_up {K : PySem.W.Frag} {A : Asr} {p q : Addr} {u : HO} {xs : List V} (h : KnL K A p xs) : KnL K (A.kn q u) p xs := fun H k => h H k.1
theorem knt_up {K : PySem.W.Frag} {A : Asr} {p q : Addr} {u : HO} {xs : List V} (h : KnT K A p xs) : KnT K (A.kn q u) p xs := fun H k => h H k.1

/-! ### the heap by a stable part S and a ledger L of objects of one's own -/
structure AtP (S0 E0 S : Hp) (L : List (Addr × HO)) (H : Hp) : Prop where
  s0 : Same S0 S
  e0 : Same E0 H
  sh : Same S H
  nw : ∀ a, S0 a = none → E0 a ≠ none → S a = none
  ow : ∀ q ∈ L, H q.1 = some q.2 ∧ S q.1 = none ∧ E0 q.1 = none
  nd : (L.map (·.1)).Nodup
theorem AtP.ext {S0 E0 S H H' : Hp} {L : List (Addr × HO)} (h : AtP S0 E0 S L H) (e : Same H H') : AtP S0 E0 S L H' :=
  ⟨h.s0, h.e0.trans e, h.sh.trans e, h.nw, fun q hq => ⟨e _ _ (h.ow q hq).1, (h.ow q hq).2⟩, h.nd⟩
def at_ (S0 E0 S : Hp) (L : List (Addr × HO)) : Asr := ⟨AtP S0 E0 S L, fun _ _ h e => h.ext e⟩
theorem at_start {S H : Hp} (h : Same S H) : AtP S H S [] H := ⟨Same.refl S, Same.refl H, h, fun _ h _ => h, fun _ hq => absurd hq (List.not_mem_nil), List.nodup_nil⟩
section
variable {S0 E0 S S' H H' : Hp} {L L' : List (Addr × HO)} {p : Addr} {o u : HO} {K : PySem.W.Frag} {xs : List V}
theorem kn_S (h : S p = some o) : Kn (at_ S0 E0 S L) p o := fun _ k => k.sh _ _ h
theorem kn_L (h : (p, o) ∈ L) : Kn (at_ S0 E0 S L) p o := fun _ k => (k.ow _ h).1
theorem knl_S (h : SqL K S p xs) : KnL K (at_ S0 E0 S L) p xs := fun _ k => k.sh.seq h
theorem sqt_same {H H' : Hp} (e : Same H H') (h : SqT K H p xs) : SqT K H' p xs := by
  rcases h with (h | ⟨o, h⟩) | h
  · exact .inl (.inl (e _ _ h))
  · exact .inl (.inr ⟨o, e _ _ h⟩)
  · exact .inr h
theorem knt_S (h : SqT K S p xs) : KnT K (at_ S0 E0 S L) p xs := fun _ k => sqt_same k.sh h
/-- a new object of one's own -/
theorem AtP.own (h : AtP S0 E0 S L H) (hp : H p = none) (e : Same H H') (ho : H' p = some o) : AtP S0 E0 S ((p, o) :: L) H' := by
  have h' := h.ext e
  have hS : S p = none := h.sh.free hp
  have hE : E0 p = none := h.e0.free hp
  refine ⟨h'.s0, h'.e0, h'.sh, h'.nw, fun q hq => ?_, ?_⟩
  · rcases List.mem_cons.mp hq with rfl | hq
    · exact ⟨ho, hS, hE⟩
    · exact h'.ow q hq
  · rw [List.map_cons, List.nodup_cons]
    refine ⟨fun hm => ?_, h.nd⟩
    obtain ⟨q, hq, e1⟩ := List.mem_map.mp hm
    have z := (h.ow q hq).1
    rw [e1, hp] at z
    cases z
/-- an object of one's own is written -/
inductive Up1 (p : Addr) (o u : HO) : List (Addr × HO) → List (Addr × HO) → Prop
  | head {L : List (Addr × HO)} : Up1 p o u ((p, o) :: L) ((p, u) :: L)
  | tail {q : Addr × HO} {L L' : List (Addr × HO)} (h : Up1 p o u L L') : Up1 p o u (q :: L) (q :: L')
theorem Up1.keys (h : Up1 p o u L L') : L'.map (·.1) = L.map (·.1) := by
  induction h with
  | head => rfl
  | tail _ ih => rw [List.map_cons, List.map_cons, ih]
theorem Up1.mem (h : Up1 p o u L L') : (p, o) ∈ L := by
  induction h with
  | head => exact List.mem_cons_self
  | tail _ ih => exact List.mem_cons_of_mem _ ih
theorem Up1.new (h : Up1 p o u L L') (nd : (L.map (·.1)).Nodup) : ∀ q ∈ L', q = (p, u) ∨ (q ∈ L ∧ q.1 ≠ p) := by
  induction h with
  | head =>
    intro q hq
    rcases List.mem_cons.mp hq with e | hq
    · exact .inl e
    · refine .inr ⟨List.mem_cons_of_mem _ hq, fun e => ?_⟩
      rw [List.map_cons, List.nodup_cons] at nd
      exact nd.1 (List.mem_map.mpr ⟨q, hq, e⟩)
  | @tail r L L' h ih =>
    intro q hq
    rw [List.map_cons, List.nodup_cons] at nd
    rcases List.mem_cons.mp hq with e | hq
    · subst e
      refine .inr ⟨List.mem_cons_self, fun e => nd.1 ?_⟩
      rw [e]
      exact List.mem_map.mpr ⟨(p, o), h.mem, rfl⟩
    · rcases ih nd.2 q hq with e | ⟨h1, h2⟩
      · exact .inl e
      · exact .inr ⟨List.mem_cons_of_mem _ h1, h2⟩
theorem AtP.put (h : AtP S0 E0 S L H) (k : Up1 p o u L L') : AtP S0 E0 S L' (upd H p u) := by
  obtain ⟨h1, h2, h3⟩ := h.ow _ k.mem
  refine ⟨h.s0, fun a x e => ?_, fun a x e => ?_, h.nw, fun q hq => ?_, ?_⟩
  · rw [upd_ne (ne_of_none e h3)]
    exact h.e0 a x e
  · rw [upd_ne (ne_of_none e h2)]
    exact h.sh a x e
  · rcases k.new h.nd q hq with e | ⟨m, ne⟩
    · subst e
      exact ⟨upd_same, h2, h3⟩
    · obtain ⟨g1, g2⟩ := h.ow q m
      exact ⟨by rw [upd_ne ne]; exact g1, g2⟩
  · rw [k.keys]
    exact h.nd
theorem AtP.drop (h : AtP S0 E0 S L H) (k : L'.Sublist L) : AtP S0 E0 S L' H :=
  ⟨h.s0, h.e0, h.sh, h.nw, fun q hq => h.ow q (k.subset hq), h.nd.sublist (k.map _)⟩
/-- behind a call that grew the stable part -/
theorem AtP.call (h : AtP S0 E0 S L H) (c : AtP S H S' L' H') : AtP S0 E0 S' (L' ++ L) H' := by
  refine ⟨h.s0.trans c.s0, h.e0.trans c.e0, c.sh, fun a h1 h2 => ?_, fun q hq => ?_, ?_⟩
  · have z : E0 a ≠ none := h2
    cases e : E0 a with
    | none => exact absurd e z
    | some x => exact c.nw a (h.nw a h1 h2) (by rw [h.e0 a x e]; intro y; cases y)
  · rcases List.mem_append.mp hq with hq | hq
    · obtain ⟨g1, g2, g3⟩ := c.ow q hq
      exact ⟨g1, g2, h.e0.free g3⟩
    · obtain ⟨g1, g2, g3⟩ := h.ow q hq
      exact ⟨c.e0 _ _ g1, c.nw _ g2 (by rw [g1]; intro y; cases y), g3⟩
  · rw [List.map_append, List.nodup_append]
    refine ⟨c.nd, h.nd, fun a ha b hb e => ?_⟩
    subst e
    obtain ⟨q, hq, e1⟩ := List.mem_map.mp ha
    obtain ⟨r, hr, e2⟩ := List.mem_map.mp hb
    have z1 := (c.ow q hq).2.2
    have z2 := (h.ow r hr).1
    rw [e1] at z1
    rw [e2, z1] at z2
    cases z2
/-- an object of one's own becomes a stable one -/
theorem AtP.keep (h : AtP S0 E0 S ((p, o) :: L) H) : AtP S0 E0 (upd S p o) L H := by
  obtain ⟨h1, h2, h3⟩ := h.ow _ List.mem_cons_self
  have nd := h.nd
  rw [List.map_cons, List.nodup_cons] at nd
  refine ⟨h.s0.trans (same_new h2), h.e0, fun a x e => ?_, fun a g1 g2 => ?_, fun q hq => ?_, nd.2⟩
  · by_cases ha : a = p
    · rw [ha, upd_same] at e
      cases e
      rw [ha]
      exact h1
    · rw [upd_ne ha] at e
      exact h.sh a x e
  · have na : a ≠ p := fun e => by rw [e] at g2; exact g2 h3
    rw [upd_ne na]
    exact h.nw a g1 g2
  · have hq' := h.ow q (List.mem_cons_of_mem _ hq)
    have ne : q.1 ≠ p := fun e => nd.1 (List.mem_map.mpr ⟨q, hq, e⟩)
    exact ⟨hq'.1, by rw [upd_ne ne]; exact hq'.2.1, hq'.2.2⟩
end

/-! ### what a computation comes to -/
/-- a computation: what must hold of the heap so that its end is as wished -/
abbrev Cm := Hp → VK → Prop
abbrev CmB := Hp → (Bool → Hp → Prop) → Prop
abbrev CmA := Hp → (List V → Hp → Prop) → Prop
abbrev CmO := Hp → (Option Int → Hp → Prop) → Prop
def Cv (c : Cm) (A : Asr) (v : V) : Prop := ∀ H, A.P H → ∀ Q : VK, (∀ H', Same H H' → Q v H') → c H Q
/-- a new object -/
def Cn (c : Cm) (A : Asr) (o : HO) : Prop := ∀ H, A.P H → ∀ Q : VK, (∀ p H', H p = none → Same H H' → H' p = some o → Q (.ref p) H') → c H Q
/-- a test -/
def Ct (c : CmB) (A : Asr) (b : Bool) : Prop := ∀ H, A.P H → ∀ Q : Bool → Hp → Prop, (∀ H', Same H H' → Q b H') → c H Q
/-- arguments -/
def Ca (c : CmA) (A : Asr) (vs : List V) : Prop := ∀ H, A.P H → ∀ Q : List V → Hp → Prop, (∀ H', Same H H' → Q vs H') → c H Q
/-- a slice's part -/
def Co (c : CmO) (A : Asr) (o : Option Int) : Prop := ∀ H, A.P H → ∀ Q : Option Int → Hp → Prop, (∀ H', Same H H' → Q o H') → c H Q
abbrev Cl (c : Cm) (A : Asr) (xs : List V) : Prop := Cn c A (.lst xs)
abbrev Cu (c : Cm) (A : Asr) (xs : List V) : Prop := Cn c A (.tup xs)
section
variable {K : PySem.W.Frag} {σ : L2.St} {A : Asr} {ta tb te : TE} {x y z v w : V} {xs ys : List V} {o u : HO}
theorem cv_is {c : Cm} (h : Cv c A v) (e : v = w) : Cv c A w := e ▸ h
theorem ct_is {c : CmB} {a b : Bool} (h : Ct c A a) (e : a = b) : Ct c A b := e ▸ h
theorem cn_is {c : Cm} (h : Cn c A o) (e : o = u) : Cn c A u := e ▸ h
theorem cl_is {c : Cm} (h : Cl c A xs) (e : xs = ys) : Cl c A ys := e ▸ h
/-! binds: what follows as a function of the value -/
theorem cv_bind {c : Cm} {k : V → Cm} (h : Cv c A x) (hk : Cv (k x) A v) : Cv (fun H Q => c H fun y H1 => k y H1 Q) A v := fun H a Q q =>
  h H a _ fun H1 e1 => hk H1 (A.st _ _ a e1) Q fun H2 e2 => q H2 (e1.trans e2)
theorem cv_bindN {c : Cm} {k : V → Cm} (h : Cn c A o) (hk : ∀ p, Cv (k (.ref p)) (A.kn p o) v) : Cv (fun H Q => c H fun y H1 => k y H1 Q) A v := fun H a Q q =>
  h H a _ fun p H1 _ e1 hp => hk p H1 ⟨A.st _ _ a e1, hp⟩ Q fun H2 e2 => q H2 (e1.trans e2)
theorem cn_bind {c : Cm} {k : V → Cm} (h : Cv c A x) (hk : Cn (k x) A u) : Cn (fun H Q => c H fun y H1 => k y H1 Q) A u := fun H a Q q =>
  h H a _ fun H1 e1 => hk H1 (A.st _ _ a e1) Q fun p H2 n e2 => q p H2 (e1.free n) (e1.trans e2)
theorem cn_bindN {c : Cm} {k : V → Cm} (h : Cn c A o) (hk : ∀ p, Cn (k (.ref p)) (A.kn p o) u) : Cn (fun H Q => c H fun y H1 => k y H1 Q) A u := fun H a Q q =>
  h H a _ fun p H1 _ e1 hp => hk p H1 ⟨A.st _ _ a e1, hp⟩ Q fun r H2 n e2 => q r H2 (e1.free n) (e1.trans e2)
theorem ct_bind {c : Cm} {k : V → CmB} {b : Bool} (h : Cv c A x) (hk : Ct (k x) A b) : Ct (fun H Q => c H fun y H1 => k y H1 Q) A b := fun H a Q q =>
  h H a _ fun H1 e1 => hk H1 (A.st _ _ a e1) Q fun H2 e2 => q H2 (e1.trans e2)
theorem ct_bindN {c : Cm} {k : V → CmB} {b : Bool} (h : Cn c A o) (hk : ∀ p, Ct (k (.ref p)) (A.kn p o) b) : Ct (fun H Q => c H fun y H1 => k y H1 Q) A b := fun H a Q q =>
  h H a _ fun p H1 _ e1 hp => hk p H1 ⟨A.st _ _ a e1, hp⟩ Q fun H2 e2 => q H2 (e1.trans e2)
/-! leaves -/
theorem c_c : Cv (tC v σ) A v := fun H _ _ q => q H (Same.refl H)
theorem c_var {i : Nat} (h : σ[i]? = some (some v)) : Cv (tVar i σ) A v := fun H _ _ q => ⟨v, h, q H (Same.refl H)⟩
theorem c_nil : Ca (tNil σ) A [] := fun H _ _ q => q H (Same.refl H)
/-- arguments, one more -/
theorem c_cons {tr : TA} {vs : List V} (h : Cv (te σ) A x) (hr : Ca (tr σ) A vs) : Ca (tCons te tr σ) A (x :: vs) := fun H a Q q =>
  h H a _ fun H1 e1 => hr H1 (A.st _ _ a e1) _ fun H2 e2 => q H2 (e1.trans e2)
/-! two operands -/
theorem c_op {r : R2} (ha : Cv (ta σ) A x) (hb : Cv (tb σ) A y) (hr : Cv (r x y) A v) : Cv (tOp r ta tb σ) A v :=
  cv_bind (c := ta σ) (k := fun x H Q => tb σ H fun y H1 => r x y H1 Q) ha (cv_bind (c := tb σ) (k := fun y H Q => r x y H Q) hb hr)
theorem c_opNv {r : R2} (ha : Cn (ta σ) A o) (hb : ∀ p, Cv (tb σ) (A.kn p o) y) (hr : ∀ p, Cv (r (.ref p) y) (A.kn p o) v) : Cv (tOp r ta tb σ) A v :=
  cv_bindN (c := ta σ) (k := fun x H Q => tb σ H fun y H1 => r x y H1 Q) ha fun p => cv_bind (c := tb σ) (k := fun y H Q => r (.ref p) y H Q) (hb p) (hr p)
theorem c_opvN {r : R2} (ha : Cv (ta σ) A x) (hb : Cn (tb σ) A o) (hr : ∀ p, Cv (r x (.ref p)) (A.kn p o) v) : Cv (tOp r ta tb σ) A v :=
  cv_bind (c := ta σ) (k := fun x H Q => tb σ H fun y H1 => r x y H1 Q) ha (cv_bindN (c := tb σ) (k := fun y H Q => r x y H Q) hb hr)
theorem c_opNN {r : R2} (ha : Cn (ta σ) A o) (hb : ∀ p, Cn (tb σ) (A.kn p o) u) (hr : ∀ p q, Cv (r (.ref p) (.ref q)) ((A.kn p o).kn q u) v) : Cv (tOp r ta tb σ) A v :=
  cv_bindN (c := ta σ) (k := fun x H Q => tb σ H fun y H1 => r x y H1 Q) ha fun p => cv_bindN (c := tb σ) (k := fun y H Q => r (.ref p) y H Q) (hb p) (hr p)
theorem n_op {r : R2} {t : HO} (ha : Cv (ta σ) A x) (hb : Cv (tb σ) A y) (hr : Cn (r x y) A t) : Cn (tOp r ta tb σ) A t :=
  cn_bind (c := ta σ) (k := fun x H Q => tb σ H fun y H1 => r x y H1 Q) ha (cn_bind (c := tb σ) (k := fun y H Q => r x y H Q) hb hr)
theorem n_opNv {r : R2} {t : HO} (ha : Cn (ta σ) A o) (hb : ∀ p, Cv (tb σ) (A.kn p o) y) (hr : ∀ p, Cn (r (.ref p) y) (A.kn p o) t) : Cn (tOp r ta tb σ) A t :=
  cn_bindN (c := ta σ) (k := fun x H Q => tb σ H fun y H1 => r x y H1 Q) ha fun p => cn_bind (c := tb σ) (k := fun y H Q => r (.ref p) y H Q) (hb p) (hr p)
theorem n_opvN {r : R2} {t : HO} (ha : Cv (ta σ) A x) (hb : Cn (tb σ) A o) (hr : ∀ p, Cn (r x (.ref p)) (A.kn p o) t) : Cn (tOp r ta tb σ) A t :=
  cn_bind (c := ta σ) (k := fun x H Q => tb σ H fun y H1 => r x y H1 Q) ha (cn_bindN (c := tb σ) (k := fun y H Q => r x y H Q) hb hr)
theorem n_opNN {r : R2} {t : HO} (ha : Cn (ta σ) A o) (hb : ∀ p, Cn (tb σ) (A.kn p o) u) (hr : ∀ p q, Cn (r (.ref p) (.ref q)) ((A.kn p o).kn q u) t) : Cn (tOp r ta tb σ) A t :=
  cn_bindN (c := ta σ) (k := fun x H Q => tb σ H fun y H1 => r x y H1 Q) ha fun p => cn_bindN (c := tb σ) (k := fun y H Q => r (.ref p) y H Q) (hb p) (hr p)
/-- one operand -/
theorem c_un {r : V → Hp → VK → Prop} (ha : Cv (ta σ) A x) (hr : Cv (r x) A v) : Cv (tUn r ta σ) A v := cv_bind (k := fun y H Q => r y H Q) ha hr
/-! operations on values -/
theorem r_I0 {g : Int → Int → V} {i j : Int} : Cv (rI0 g (.int i) (.int j)) A (g i j) := fun H _ _ q => ⟨i, j, rfl, rfl, q H (Same.refl H)⟩
theorem r_I {C : Int → Int → Prop} {g : Int → Int → V} {i j : Int} (hc : C i j) : Cv (rI C g (.int i) (.int j)) A (g i j) := fun H _ _ q => ⟨i, j, rfl, rfl, hc, q H (Same.refl H)⟩
theorem r_U {g : Int → V} {i : Int} : Cv (rU g (.int i)) A (g i) := fun H _ _ q => ⟨i, rfl, q H (Same.refl H)⟩
end
end Lo
namespace Lo
open PySem L2
/-! ### operations whose rule goes by the operands -/
def rAddI : R2 := rI0 fun i j => .int (i + j)
def rAddS : R2 := fun x y H Q => ∃ i j, x = .str i ∧ y = .str j ∧ i.length + j.length ≤ sizeLine ∧ Q (.str (i ++ j)) H
def rAddA (K : PySem.W.Frag) : R2 := fun x y H Q => rAddI x y H Q ∨ rAddS x y H Q ∨ rCat x y H Q ∨ rCatT K x y H Q
def rMulI : R2 := rI CMul fun i j => .int (i * j)
def rMulX : R2 := rI CMulX fun i j => .int (i * j)
def rMulA : R2 := fun x y H Q => rMulI x y H Q ∨ rMulX x y H Q ∨ rRep x y H Q
def rEqA (K : PySem.W.Frag) : R2 := fun x y H Q => rEq x y H Q ∨ rEqD K x y H Q
def rNeA (K : PySem.W.Frag) : R2 := fun x y H Q => rNe x y H Q ∨ rNeD K x y H Q
def rIsN : R2 := fun x y H Q => y = .non ∧ Q (.bl (decide (x = .non))) H
def rNotN : R2 := fun x y H Q => y = .non ∧ Q (.bl (!decide (x = .non))) H
/-- x in d, a dict -/
def rInK : R2 := fun x y H Q => ∃ a o, y = .ref a ∧ DGet H a x o ∧ Q (.bl o.isSome) H
def rNinK : R2 := fun x y H Q => ∃ a o, y = .ref a ∧ DGet H a x o ∧ Q (.bl (!o.isSome)) H
def rInS : R2 := fun x y H Q => ∃ (c : Nat) (z : Str), x = .str ⟨#[c]⟩ ∧ y = .str z ∧ Q (.bl (decide (c ∈ z.cps.toList))) H
def rNinS : R2 := fun x y H Q => ∃ (c : Nat) (z : Str), x = .str ⟨#[c]⟩ ∧ y = .str z ∧ Q (.bl (!decide (c ∈ z.cps.toList))) H
def rInA (K : PySem.W.Frag) : R2 := fun x y H Q => rIn K false x y H Q ∨ rInK x y H Q ∨ rInS x y H Q
def rNinA (K : PySem.W.Frag) : R2 := fun x y H Q => rIn K true x y H Q ∨ rNinK x y H Q ∨ rNinS x y H Q
/-- d[k] of a dict -/
def rIxK : R2 := fun x y H Q => ∃ a v, x = .ref a ∧ DGet H a y (some v) ∧ Q v H
def rIxA (K : PySem.W.Frag) : R2 := fun x y H Q => rIxL K x y H Q ∨ rIxT K x y H Q ∨ rIxS x y H Q ∨ rIxK x y H Q
def rLenS (K : PySem.W.Frag) : List V → Hp → VK → Prop := fun xs H Q => ∃ p ys, xs = [.ref p] ∧ (SqL K H p ys ∨ SqT K H p ys) ∧ Q (.int ys.length) H
def rLenT : List V → Hp → VK → Prop := fun xs H Q => ∃ z, xs = [.str z] ∧ z.length ≤ sizeLine ∧ Q (.int z.length) H
def rLenK : List V → Hp → VK → Prop := fun xs H Q => ∃ d kvs, xs = [.ref d] ∧ H d = some (.dK kvs) ∧ Q (.int kvs.length) H
def rLenA (K : PySem.W.Frag) : List V → Hp → VK → Prop := fun xs H Q => rLenS K xs H Q ∨ rLenT xs H Q ∨ rLenK xs H Q
def rMax2 : List V → Hp → VK → Prop := fun xs H Q => ∃ i j, xs = [.int i, .int j] ∧ Q (.int (if j > i then j else i)) H
def rMin2 : List V → Hp → VK → Prop := fun xs H Q => ∃ i j, xs = [.int i, .int j] ∧ Q (.int (if j < i then j else i)) H
def rMaxA (K : PySem.W.Frag) : List V → Hp → VK → Prop := fun xs H Q => rMax2 xs H Q ∨ rMax K xs H Q
def rMinA (K : PySem.W.Frag) : List V → Hp → VK → Prop := fun xs H Q => rMin2 xs H Q ∨ rMin K xs H Q
def rSlA (K : PySem.W.Frag) : V → Option Int → Option Int → Hp → VK → Prop := fun x lo hi H Q => rSlL K x lo hi H Q ∨ rSlT K x lo hi H Q ∨ rSlS x lo hi H Q
section
variable {X : Cx}
theorem op_addA : OpR X (binaryOp .Add) (rAddA X.K) := op_add.or (op_add_str.or (op_cat.or op_catT))
theorem op_mulA : OpR X (binaryOp .Mult) rMulA := op_mul.or (op_mulX.or op_rep)
theorem op_eqA (hu : X.A.units + 64 < cLine) : OpR X (compareOp .Eq) (rEqA X.K) := op_eq.or (op_eqD hu)
theorem op_neA (hu : X.A.units + 64 < cLine) : OpR X (compareOp .NotEq) (rNeA X.K) := op_ne.or (op_neD hu)
theorem op_isA : OpR X (compareOp .Is) rIsN := op_isN
theorem op_isnotA : OpR X (compareOp .IsNot) rNotN := op_notN
theorem op_inK (hu : X.A.units + 1 < cLine) : OpR X (compareOp .In) rInK := by
  intro pins s σ H x y v u Q I rx ry h
  obtain ⟨a, o, rfl, g, q⟩ := h
  cases ry
  exact d_in hu I g rx fun s' J => ⟨.bl _, H, J, rfl, q⟩
theorem op_ninK (hu : X.A.units + 1 < cLine) : OpR X (compareOp .NotIn) rNinK := by
  intro pins s σ H x y v u Q I rx ry h
  obtain ⟨a, o, rfl, g, q⟩ := h
  cases ry
  exact d_notIn hu I g rx fun s' J => ⟨.bl _, H, J, rfl, q⟩
theorem op_inA (hu : X.A.units + 1 < cLine) : OpR X (compareOp .In) (rInA X.K) := op_in_seq.or ((op_inK hu).or op_in_sign)
theorem op_notinA (hu : X.A.units + 1 < cLine) : OpR X (compareOp .NotIn) (rNinA X.K) := op_notIn_seq.or ((op_ninK hu).or op_notIn_sign)
theorem ix_K (hu : X.A.units + 1 < cLine) : IxR X rIxK := by
  intro value slice pins s σ H x y v u Q I rx ry h hs
  obtain ⟨a, z, rfl, g, q⟩ := h
  cases rx
  exact PyProof.Rows.tail_any (dict_typeIs I g) PySem.F.slot_dict_getitem.lookup (d_getItem hu I g ry fun w' s' J rw' => ⟨z, H, J, rw', q⟩) hs
theorem ix_A (hu : X.A.units + 1 < cLine) : IxR X (rIxA X.K) := ix_list.or (ix_tup.or (ix_str.or (ix_K hu)))
theorem call_lenA : CallR X (.builtin "len") (rLenA X.K) := call_len_seq.or (call_len_str.or call_lenD)
theorem call_maxA (hc : X.calm = true) : CallR X (.builtin "max") (rMaxA X.K) := (call_max2 hc).or (cr_max hc)
theorem call_minA (hc : X.calm = true) : CallR X (.builtin "min") (rMinA X.K) := (call_min2 hc).or (cr_min hc)
theorem sl_A : SlR X (rSlA X.K) := sl_list.or (sl_tup.or sl_str)
/-- d[k] = v, l[i] = v -/
def rSetK : V → V → V → Hp → (Hp → Prop) → Prop := fun o i v H Q => ∃ a H', o = .ref a ∧ DPut H a i v H' ∧ Q H'
def rSetA : V → V → V → Hp → (Hp → Prop) → Prop := fun o i v H Q => rSetL o i v H Q ∨ rSetK o i v H Q
theorem set_A (hu : X.A.units + 1 < cLine) : PSet X rSetA := by
  intro pins s σ H o i v ov iv u Q I ro ri rv h
  rcases h with h | ⟨a, H', rfl, g, q⟩
  · exact set_list pins s σ H o i v ov iv u Q I ro ri rv h
  · cases ro
    exact d_setItem hu I g ri rv fun s' J => ⟨H', J, q⟩
end
theorem cdiv_of {i j : Int} (h : 0 < j) (h2 : j < 1000000000000000000000000000000000000000000000000000000000000) : CDivW i j := wide_div (b := 200) h (by omega) (by decide) (by decide)
theorem cmul_l {i j : Int} (h : -18446744073709551616 < i) (h2 : i < 18446744073709551616) : CMul i j := .inl ⟨by omega, by omega⟩
theorem cmul_r {i j : Int} (h : -18446744073709551616 < j) (h2 : j < 18446744073709551616) : CMul i j := .inr ⟨by omega, by omega⟩
/-! ### what they come to -/
section
variable {K : PySem.W.Frag} {A : Asr} {x y z v : V} {i j : Int} {a b : Str} {p q : Addr} {xs ys : List V} {kvs : List (Key × V)}
theorem e_addI : Cv (rAddA K (.int i) (.int j)) A (.int (i + j)) := fun H _ _ q => .inl ⟨i, j, rfl, rfl, q H (Same.refl H)⟩
theorem e_addS (h : a.length + b.length ≤ sizeLine) : Cv (rAddA K (.str a) (.str b)) A (.str (a ++ b)) := fun H _ _ q => .inr (.inl ⟨a, b, rfl, rfl, h, q H (Same.refl H)⟩)
theorem e_cat (h1 : Kn A p (.lst xs)) (h2 : Kn A q (.lst ys)) (hz : xs.length + ys.length ≤ sizeLine) : Cn (rAddA K (.ref p) (.ref q)) A (.lst (xs ++ ys)) := fun H a _ k =>
  .inr (.inr (.inl ⟨p, q, xs, ys, rfl, rfl, h1 H a, h2 H a, hz, fun r hr => k r _ hr (same_new hr) upd_same⟩))
theorem e_mul (h : CMul i j) : Cv (rMulA (.int i) (.int j)) A (.int (i * j)) := fun H _ _ q => .inl ⟨i, j, rfl, rfl, h, q H (Same.refl H)⟩
theorem e_mulX (h : CMulX i j) : Cv (rMulA (.int i) (.int j)) A (.int (i * j)) := fun H _ _ q => .inr (.inl ⟨i, j, rfl, rfl, h, q H (Same.refl H)⟩)
theorem e_rep (h : Kn A p (.lst xs)) (h0 : -(2 ^ 63) ≤ i) (h1 : i < 2 ^ 63) (hz : xs.length * i.toNat ≤ sizeLine) : Cn (rMulA (.ref p) (.int i)) A (.lst (List.replicate i.toNat xs).flatten) := fun H a _ k =>
  .inr (.inr ⟨p, i, xs, rfl, rfl, h H a, h0, h1, hz, fun r hr => k r _ hr (same_new hr) upd_same⟩)
theorem e_eqI : Cv (rEqA K (.int i) (.int j)) A (.bl (decide (i = j))) := fun H _ _ q => .inl ⟨rfl, by
  have e : decide (V.int i = V.int j) = decide (i = j) := by rw [dec_int, Bool.beq_eq_decide_eq]
  rw [e]
  exact q H (Same.refl H)⟩
theorem e_neI : Cv (rNeA K (.int i) (.int j)) A (.bl (!decide (i = j))) := fun H _ _ q => .inl ⟨rfl, by
  have e : decide (V.int i = V.int j) = decide (i = j) := by rw [dec_int, Bool.beq_eq_decide_eq]
  rw [e]
  exact q H (Same.refl H)⟩
theorem e_eqS : Cv (rEqA K (.str a) (.str b)) A (.bl (decide (a = b))) := fun H _ _ q => .inl ⟨rfl, by
  have e : decide (V.str a = V.str b) = decide (a = b) := by rw [dec_str, Bool.beq_eq_decide_eq]
  rw [e]
  exact q H (Same.refl H)⟩
theorem e_neS : Cv (rNeA K (.str a) (.str b)) A (.bl (!decide (a = b))) := fun H _ _ q => .inl ⟨rfl, by
  have e : decide (V.str a = V.str b) = decide (a = b) := by rw [dec_str, Bool.beq_eq_decide_eq]
  rw [e]
  exact q H (Same.refl H)⟩
theorem e_eqV (h : scal x y = true) : Cv (rEqA K x y) A (.bl (decide (x = y))) := fun H _ _ q => .inl ⟨h, q H (Same.refl H)⟩
theorem e_neV (h : scal x y = true) : Cv (rNeA K x y) A (.bl (!decide (x = y))) := fun H _ _ q => .inl ⟨h, q H (Same.refl H)⟩
theorem e_isN : Cv (rIsN x .non) A (.bl (decide (x = .non))) := fun H _ _ q => ⟨rfl, q H (Same.refl H)⟩
theorem e_notN : Cv (rNotN x .non) A (.bl (!decide (x = .non))) := fun H _ _ q => ⟨rfl, q H (Same.refl H)⟩
/-- what a heap tells of data -/
def KnD (K : PySem.W.Frag) (A : Asr) (x : V) (d : PyData) : Prop := ∀ H, A.P H → Dp K H x d
theorem e_eqD {d e : PyData} (h1 : KnD K A x d) (h2 : KnD K A y e) (s1 : SeqAt.shaped d = true) (s2 : SeqAt.shaped e = true) : Cv (rEqA K x y) A (.bl (PyData.eqv d e)) := fun H a _ q =>
  .inr ⟨d, e, h1 H a, h2 H a, s1, s2, q H (Same.refl H)⟩
theorem e_neD {d e : PyData} (h1 : KnD K A x d) (h2 : KnD K A y e) (s1 : SeqAt.shaped d = true) (s2 : SeqAt.shaped e = true) : Cv (rNeA K x y) A (.bl (!PyData.eqv d e)) := fun H a _ q =>
  .inr ⟨d, e, h1 H a, h2 H a, s1, s2, q H (Same.refl H)⟩
theorem e_inK {k : Key} (h : Kn A p (.dK kvs)) : Cv (rInA K (kV k) (.ref p)) A (.bl (valV kvs k).isSome) := fun H a _ q => .inr (.inl ⟨p, _, rfl, DGet.k (h H a), q H (Same.refl H)⟩)
theorem e_ninK {k : Key} (h : Kn A p (.dK kvs)) : Cv (rNinA K (kV k) (.ref p)) A (.bl (!(valV kvs k).isSome)) := fun H a _ q => .inr (.inl ⟨p, _, rfl, DGet.k (h H a), q H (Same.refl H)⟩)
theorem e_inL (h : KnL K A p xs) (hx : flatV x = true) (hs : xs.all flatV = true) : Cv (rInA K x (.ref p)) A (.bl (inV x xs)) := fun H a _ q => .inl ⟨p, xs, rfl, .inl (h H a), hx, hs, q H (Same.refl H)⟩
theorem e_ninL (h : KnL K A p xs) (hx : flatV x = true) (hs : xs.all flatV = true) : Cv (rNinA K x (.ref p)) A (.bl (!inV x xs)) := fun H a _ q => .inl ⟨p, xs, rfl, .inl (h H a), hx, hs, q H (Same.refl H)⟩
theorem e_inT (h : KnT K A p xs) (hx : flatV x = true) (hs : xs.all flatV = true) : Cv (rInA K x (.ref p)) A (.bl (inV x xs)) := fun H a _ q => .inl ⟨p, xs, rfl, .inr (h H a), hx, hs, q H (Same.refl H)⟩
theorem e_ninT (h : KnT K A p xs) (hx : flatV x = true) (hs : xs.all flatV = true) : Cv (rNinA K x (.ref p)) A (.bl (!inV x xs)) := fun H a _ q => .inl ⟨p, xs, rfl, .inr (h H a), hx, hs, q H (Same.refl H)⟩
theorem e_inS {c : Nat} : Cv (rInA K (.str ⟨#[c]⟩) (.str b)) A (.bl (decide (c ∈ b.cps.toList))) := fun H _ _ q => .inr (.inr ⟨c, b, rfl, rfl, q H (Same.refl H)⟩)
theorem e_ninS {c : Nat} : Cv (rNinA K (.str ⟨#[c]⟩) (.str b)) A (.bl (!decide (c ∈ b.cps.toList))) := fun H _ _ q => .inr (.inr ⟨c, b, rfl, rfl, q H (Same.refl H)⟩)
theorem e_ixL (h : KnL K A p xs) (e : atI xs i = some v) : Cv (rIxA K (.ref p) (.int i)) A v := fun H a _ q => .inl ⟨p, xs, i, v, rfl, rfl, h H a, e, q H (Same.refl H)⟩
theorem e_ixT (h : KnT K A p xs) (e : atI xs i = some v) : Cv (rIxA K (.ref p) (.int i)) A v := fun H a _ q => .inr (.inl ⟨p, xs, i, v, rfl, rfl, h H a, e, q H (Same.refl H)⟩)
theorem e_ixS {c : Nat} (hz : a.length ≤ sizeLine) (e : atI a.cps.toList i = some c) : Cv (rIxA K (.str a) (.int i)) A (.str ⟨#[c]⟩) := fun H _ _ q => .inr (.inr (.inl ⟨a, i, c, rfl, rfl, hz, e, q H (Same.refl H)⟩))
theorem e_ixK {k : Key} (h : Kn A p (.dK kvs)) (e : valV kvs k = some v) : Cv (rIxA K (.ref p) (kV k)) A v := fun H a _ q => .inr (.inr (.inr ⟨p, v, rfl, by rw [← e]; exact DGet.k (h H a), q H (Same.refl H)⟩))
theorem e_inSL {c : Nat} {l : List Nat} : Cv (rInA K (.str ⟨#[c]⟩) (.str b)) A (.bl (decide (c ∈ b.cps.toList))) := e_inS
theorem e_ninSL {c : Nat} : Cv (rNinA K (.str ⟨#[c]⟩) (.str b)) A (.bl (!decide (c ∈ b.cps.toList))) := e_ninS
theorem e_lenL (h : KnL K A p xs) : Cv (rLenA K [.ref p]) A (.int xs.length) := fun H a _ q => .inl ⟨p, xs, rfl, .inl (h H a), q H (Same.refl H)⟩
theorem e_lenT (h : KnT K A p xs) : Cv (rLenA K [.ref p]) A (.int xs.length) := fun H a _ q => .inl ⟨p, xs, rfl, .inr (h H a), q H (Same.refl H)⟩
theorem e_lenS (hz : a.length ≤ sizeLine) : Cv (rLenA K [.str a]) A (.int a.length) := fun H _ _ q => .inr (.inl ⟨a, rfl, hz, q H (Same.refl H)⟩)
theorem e_lenK (h : Kn A p (.dK kvs)) : Cv (rLenA K [.ref p]) A (.int kvs.length) := fun H a _ q => .inr (.inr ⟨p, kvs, rfl, h H a, q H (Same.refl H)⟩)
theorem max2_eq (i j : Int) : (if j > i then j else i) = max i j := by omega
theorem min2_eq (i j : Int) : (if j < i then j else i) = min i j := by omega
theorem e_max : Cv (rMaxA K [.int i, .int j]) A (.int (max i j)) := fun H _ _ q => .inl ⟨i, j, rfl, by rw [max2_eq]; exact q H (Same.refl H)⟩
theorem e_min : Cv (rMinA K [.int i, .int j]) A (.int (min i j)) := fun H _ _ q => .inl ⟨i, j, rfl, by rw [min2_eq]; exact q H (Same.refl H)⟩
theorem e_slL {lo hi : Option Int} (h : KnL K A p xs) : Cn (rSlA K (.ref p) lo hi) A (.lst (cutV xs lo hi)) := fun H a _ k => .inl ⟨p, xs, rfl, h H a, fun r hr => k r _ hr (same_new hr) upd_same⟩
theorem e_slS {lo hi : Option Int} (hz : a.length ≤ sizeLine) : Cv (rSlA K (.str a) lo hi) A (.str (cutS a lo hi)) := fun H _ _ q => .inr (.inr ⟨a, rfl, hz, q H (Same.refl H)⟩)
end
section
variable {K : PySem.W.Frag} {σ : L2.St} {A : Asr} {ta tb te to : TE} {x y z v w : V} {xs ys vs : List V} {o u : HO} {ts : TA} {tl th : TO} {b c : Bool}
/-! calls of built-ins -/
theorem c_cb {r : List V → Hp → VK → Prop} (ha : Ca (ts σ) A vs) (hr : Cv (r vs) A v) : Cv (tCB r ts σ) A v := fun H a Q q =>
  ha H a _ fun H1 e1 => hr H1 (A.st _ _ a e1) Q fun H2 e2 => q H2 (e1.trans e2)
theorem n_cb {r : List V → Hp → VK → Prop} (ha : Ca (ts σ) A vs) (hr : Cn (r vs) A o) : Cn (tCB r ts σ) A o := fun H a Q q =>
  ha H a _ fun H1 e1 => hr H1 (A.st _ _ a e1) Q fun p H2 n e2 h => q p H2 (e1.free n) (e1.trans e2) h
/-- one argument that is a new object -/
theorem c_cbN {r : List V → Hp → VK → Prop} (ha : Cn (te σ) A o) (hr : ∀ p, Cv (r [.ref p]) (A.kn p o) v) : Cv (tCB r (tCons te tNil) σ) A v := fun H a Q q =>
  ha H a _ fun p H1 _ e1 hp => hr p H1 ⟨A.st _ _ a e1, hp⟩ Q fun H2 e2 => q H2 (e1.trans e2)
theorem n_cbN {r : List V → Hp → VK → Prop} (ha : Cn (te σ) A o) (hr : ∀ p, Cn (r [.ref p]) (A.kn p o) u) : Cn (tCB r (tCons te tNil) σ) A u := fun H a Q q =>
  ha H a _ fun p H1 _ e1 hp => hr p H1 ⟨A.st _ _ a e1, hp⟩ Q fun s H2 n e2 h => q s H2 (e1.free n) (e1.trans e2) h
/-! calls of defs -/
theorem c_call {sp : Sp} {E : XK} (ha : Ca (ts σ) A vs) (hr : Cv (fun H Q => sp vs H Q E) A v) : Cv (tCall sp [] E ts σ) A v := fun H a Q q =>
  ha H a _ fun H1 e1 => by
    show sp (vs ++ []) H1 Q E
    rw [List.append_nil]
    exact hr H1 (A.st _ _ a e1) Q fun H2 e2 => q H2 (e1.trans e2)
theorem n_call {sp : Sp} {E : XK} (ha : Ca (ts σ) A vs) (hr : Cn (fun H Q => sp vs H Q E) A o) : Cn (tCall sp [] E ts σ) A o := fun H a Q q =>
  ha H a _ fun H1 e1 => by
    show sp (vs ++ []) H1 Q E
    rw [List.append_nil]
    exact hr H1 (A.st _ _ a e1) Q fun p H2 n e2 h => q p H2 (e1.free n) (e1.trans e2) h
theorem c_callN {sp : Sp} {E : XK} (ha : Cn (te σ) A o) (hr : ∀ p, Cv (fun H Q => sp [.ref p] H Q E) (A.kn p o) v) : Cv (tCall sp [] E (tCons te tNil) σ) A v := fun H a Q q =>
  ha H a _ fun p H1 _ e1 hp => hr p H1 ⟨A.st _ _ a e1, hp⟩ Q fun H2 e2 => q H2 (e1.trans e2)
theorem n_callN {sp : Sp} {E : XK} (ha : Cn (te σ) A o) (hr : ∀ p, Cn (fun H Q => sp [.ref p] H Q E) (A.kn p o) u) : Cn (tCall sp [] E (tCons te tNil) σ) A u := fun H a Q q =>
  ha H a _ fun p H1 _ e1 hp => hr p H1 ⟨A.st _ _ a e1, hp⟩ Q fun s H2 n e2 h => q s H2 (e1.free n) (e1.trans e2) h
/-! displays, slices -/
theorem n_lst (ha : Ca (ts σ) A vs) (hz : vs.length ≤ sizeLine) : Cn (tLst ts σ) A (.lst vs) := fun H a Q q =>
  ha H a _ fun H1 e1 => ⟨hz, fun p hp => q p _ (e1.free hp) (e1.trans (same_new hp)) upd_same⟩
theorem n_tup (ha : Ca (ts σ) A vs) (hz : vs.length ≤ sizeLine) : Cn (tTup ts σ) A (.tup vs) := fun H a Q q =>
  ha H a _ fun H1 e1 => ⟨hz, fun p hp => q p _ (e1.free hp) (e1.trans (same_new hp)) upd_same⟩
theorem o_none : Co (tNoPart σ) A none := fun H _ _ q => q H (Same.refl H)
theorem o_some {i : Int} (h : Cv (te σ) A (.int i)) : Co (tPart te σ) A (some i) := fun H a Q q => h H a _ fun H1 e1 => ⟨i, rfl, q H1 e1⟩
theorem n_sl {r : V → Option Int → Option Int → Hp → VK → Prop} {lo hi : Option Int} (h : Cv (te σ) A x) (h1 : Co (tl σ) A lo) (h2 : Co (th σ) A hi) (hr : Cn (r x lo hi) A o) : Cn (tSl r te tl th σ) A o := fun H a Q q =>
  h H a _ fun H1 e1 => h1 H1 (A.st _ _ a e1) _ fun H2 e2 => h2 H2 (A.st _ _ a (e1.trans e2)) _ fun H3 e3 => hr H3 (A.st _ _ a ((e1.trans e2).trans e3)) Q fun p H4 n e4 hp => q p H4 (((e1.trans e2).trans e3).free n) (((e1.trans e2).trans e3).trans e4) hp
theorem c_sl {r : V → Option Int → Option Int → Hp → VK → Prop} {lo hi : Option Int} (h : Cv (te σ) A x) (h1 : Co (tl σ) A lo) (h2 : Co (th σ) A hi) (hr : Cv (r x lo hi) A v) : Cv (tSl r te tl th σ) A v := fun H a Q q =>
  h H a _ fun H1 e1 => h1 H1 (A.st _ _ a e1) _ fun H2 e2 => h2 H2 (A.st _ _ a (e1.trans e2)) _ fun H3 e3 => hr H3 (A.st _ _ a ((e1.trans e2).trans e3)) Q fun H4 e4 => q H4 (((e1.trans e2).trans e3).trans e4)
/-! methods of texts -/
theorem c_m1 {r : V → List V → Hp → VK → Prop} {z : Str} (h : Cv (to σ) A (.str z)) (h1 : Cv (te σ) A y) (hr : Cv (r (.str z) [y]) A v) : Cv (tM1 r to te σ) A v := fun H a Q q =>
  h H a _ fun H1 e1 => ⟨⟨z, rfl⟩, h1 H1 (A.st _ _ a e1) _ fun H2 e2 => hr H2 (A.st _ _ a (e1.trans e2)) Q fun H3 e3 => q H3 ((e1.trans e2).trans e3)⟩
theorem c_m1N {r : V → List V → Hp → VK → Prop} {z : Str} (h : Cv (to σ) A (.str z)) (h1 : Cn (te σ) A o) (hr : ∀ p, Cv (r (.str z) [.ref p]) (A.kn p o) v) : Cv (tM1 r to te σ) A v := fun H a Q q =>
  h H a _ fun H1 e1 => ⟨⟨z, rfl⟩, h1 H1 (A.st _ _ a e1) _ fun p H2 n e2 hp => hr p H2 ⟨A.st _ _ a (e1.trans e2), hp⟩ Q fun H3 e3 => q H3 ((e1.trans e2).trans e3)⟩
theorem c_bits {i : Int} (h : Cv (to σ) A (.int i)) : Cv (tBits to σ) A (.int (Builtin.Int.intBits i : Nat)) := fun H a Q q => h H a _ fun H1 e1 => ⟨i, rfl, q H1 e1⟩
/-! booleans -/
theorem c_and (h1 : Cv (ta σ) A (.bl b)) (h2 : b = true → Cv (tb σ) A (.bl c)) : Cv (tAndV ta tb σ) A (.bl (b && c)) := fun H a Q q => h1 H a _ fun H1 e1 => ⟨b, rfl, by
  cases b with
  | true => exact h2 rfl H1 (A.st _ _ a e1) Q fun H2 e2 => q H2 (e1.trans e2)
  | false => exact q H1 e1⟩
theorem c_or (h1 : Cv (ta σ) A (.bl b)) (h2 : b = false → Cv (tb σ) A (.bl c)) : Cv (tOrV ta tb σ) A (.bl (b || c)) := fun H a Q q => h1 H a _ fun H1 e1 => ⟨b, rfl, by
  cases b with
  | true => exact q H1 e1
  | false => exact h2 rfl H1 (A.st _ _ a e1) Q fun H2 e2 => q H2 (e1.trans e2)⟩
theorem c_not (h1 : Cv (ta σ) A (.bl b)) : Cv (tNotV ta σ) A (.bl (!b)) := fun H a Q q => h1 H a _ fun H1 e1 => ⟨b, rfl, q H1 e1⟩
theorem t_test (h : Cv (te σ) A (.bl b)) : Ct (tTest te σ) A b := fun H a Q q => h H a _ fun H1 e1 => ⟨b, rfl, q H1 e1⟩
theorem t_B (h : Cv (te σ) A (.bl b)) : Ct (tB te σ) A b := fun H a Q q => h H a _ fun H1 e1 => ⟨b, rfl, q H1 e1⟩
theorem t_and {t u : TT} (h1 : Ct (t σ) A b) (h2 : b = true → Ct (u σ) A c) : Ct (tAnd t u σ) A (b && c) := fun H a Q q => h1 H a _ fun H1 e1 => by
  cases b with
  | true => exact h2 rfl H1 (A.st _ _ a e1) Q fun H2 e2 => q H2 (e1.trans e2)
  | false => exact q H1 e1
theorem t_or {t u : TT} (h1 : Ct (t σ) A b) (h2 : b = false → Ct (u σ) A c) : Ct (tOr t u σ) A (b || c) := fun H a Q q => h1 H a _ fun H1 e1 => by
  cases b with
  | true => exact q H1 e1
  | false => exact h2 rfl H1 (A.st _ _ a e1) Q fun H2 e2 => q H2 (e1.trans e2)
theorem t_not {t : TT} (h1 : Ct (t σ) A b) : Ct (tNot t σ) A (!b) := fun H a Q q => h1 H a _ fun H1 e1 => q H1 e1
theorem t_yes : Ct (tYes σ) A true := fun H _ _ q => q H (Same.refl H)
theorem c_if {t : TT} (h : Ct (t σ) A b) (h1 : b = true → Cv (ta σ) A v) (h2 : b = false → Cv (tb σ) A v) : Cv (tIf t ta tb σ) A v := fun H a Q q => h H a _ fun H1 e1 => by
  cases b with
  | true => exact h1 rfl H1 (A.st _ _ a e1) Q fun H2 e2 => q H2 (e1.trans e2)
  | false => exact h2 rfl H1 (A.st _ _ a e1) Q fun H2 e2 => q H2 (e1.trans e2)
end
/-! ### statements -/
def Go (t : TS) (D : Ends) (σ : L2.St) (A : Asr) : Prop := ∀ H, A.P H → t D σ H
section
variable {K : PySem.W.Frag} {σ σ' : L2.St} {A B : Asr} {ta tb te to : TE} {x y z v w : V} {xs ys vs : List V} {o u : HO} {b c : Bool} {D : Ends} {t s : TS} {tt : TT} {i : Nat}
theorem go_of (h : ∀ H, A.P H → B.P H) (g : Go t D σ B) : Go t D σ A := fun H a => g H (h H a)
theorem go_set (e : σ = σ') (g : Go t D σ' A) : Go t D σ A := e ▸ g
theorem g_seq (h : Go t { D with nx := s D } σ A) : Go (tSeq t s) D σ A := h
theorem q_asg (h : Cv (te σ) A v) (k : Go s D (σ.set i (some v)) A) : Go (tSeq (tAsg te (gName i)) s) D σ A := fun H a => h H a _ fun H1 e1 => k H1 (A.st _ _ a e1)
theorem s_asg (h : Cv (te σ) A v) (k : ∀ H, A.P H → D.nx (σ.set i (some v)) H) : Go (tAsg te (gName i)) D σ A := fun H a => h H a _ fun H1 e1 => k H1 (A.st _ _ a e1)
theorem q_asgN (h : Cn (te σ) A o) (k : ∀ p, Go s D (σ.set i (some (.ref p))) (A.kn p o)) : Go (tSeq (tAsg te (gName i)) s) D σ A := fun H a => h H a _ fun p H1 _ e1 hp => k p H1 ⟨A.st _ _ a e1, hp⟩
theorem s_ret (h : Cv (te σ) A v) (k : ∀ H, A.P H → D.rt v H) : Go (tRet te) D σ A := fun H a => h H a _ fun H1 e1 => k H1 (A.st _ _ a e1)
theorem s_next (k : ∀ H, A.P H → D.nx σ H) : Go tNext D σ A := k
theorem q_if {u' : TS} (h : Ct (tt σ) A b) (h1 : b = true → Go t { D with nx := s D } σ A) (h2 : b = false → Go u' { D with nx := s D } σ A) : Go (tSeq (tIfS tt t u') s) D σ A := fun H a => h H a _ fun H1 e1 => by
  cases b with
  | true => exact h1 rfl H1 (A.st _ _ a e1)
  | false => exact h2 rfl H1 (A.st _ _ a e1)
theorem q_when (h : Ct (tt σ) A b) (h1 : b = true → Go t { D with nx := s D } σ A) (h2 : b = false → Go s D σ A) : Go (tSeq (tIfS tt t tNext) s) D σ A := q_if h h1 h2
theorem s_if {u' : TS} (h : Ct (tt σ) A b) (h1 : b = true → Go t D σ A) (h2 : b = false → Go u' D σ A) : Go (tIfS tt t u') D σ A := fun H a => h H a _ fun H1 e1 => by
  cases b with
  | true => exact h1 rfl H1 (A.st _ _ a e1)
  | false => exact h2 rfl H1 (A.st _ _ a e1)
end
/-! ### promises -/
def RetV (v : V) (H : Hp) (Q : VK) : Prop := ∀ H', Same H H' → Q v H'
def RetN (o : HO) (H : Hp) (Q : VK) : Prop := ∀ p H', H p = none → Same H H' → H' p = some o → Q (.ref p) H'
theorem body_go {t : TS} {D : Ends} {σ σ' : L2.St} {H : Hp} (e : σ = σ') (g : Go t D σ' (at_ H H H [])) : t D σ H := by
  rw [e]
  exact g H (at_start (Same.refl H))
structure Dfn (K : PySem.W.Frag) (x qual : Str) (st : Stmt) (ps : List Str) where
  f : Addr
  fd : FuncData
  F : FunD K x qual (defArgs st) (defBody st) (defScope st) [] [] f fd
  b : Binds K fd ps []
theorem Dfn.kp {K : PySem.W.Frag} {x qual : Str} {st : Stmt} {ps : List Str} (d : Dfn K x qual st ps) : PySem.W.keepIn K (.ref d.f) = true := d.F.kp
section
variable {S0 E0 S : Hp} {L : List (Addr × HO)} {v : V} {o : HO} {H : Hp} {Q : VK}
theorem RetV.at (q : RetV v H Q) : ∀ H', (at_ S0 H S L).P H' → Q v H' := fun H' a => q H' a.e0
theorem s_retV {te : TE} {D : Ends} {σ : L2.St} {w : V} (h : Cv (te σ) (at_ S0 H S L) w) (e : w = v) (q : RetV v H D.rt) : Go (tRet te) D σ (at_ S0 H S L) := by
  subst e
  exact s_ret h fun H' a => q H' a.e0
theorem s_retN {te : TE} {D : Ends} {σ : L2.St} {u : HO} (h : Cn (te σ) (at_ S0 H S L) u) (e : u = o) (q : RetN o H D.rt) : Go (tRet te) D σ (at_ S0 H S L) := fun H1 a => h H1 a _ fun p H2 n e2 hp => q p H2 (a.e0.free n) (a.e0.trans e2) (e ▸ hp)
/-- A keeps what H tells -/
def Ext (A : Asr) (H : Hp) : Prop := ∀ H', A.P H' → Same H H'
theorem ext_at : Ext (at_ S0 H S L) H := fun _ a => a.e0
theorem ext_kn {A : Asr} {p : Addr} {o : HO} (h : Ext A H) : Ext (A.kn p o) H := fun H' a => h H' a.1
theorem s_retVx {te : TE} {D : Ends} {σ : L2.St} {w : V} {A : Asr} (h : Cv (te σ) A w) (e : w = v) (x : Ext A H) (q : RetV v H D.rt) : Go (tRet te) D σ A := by
  subst e
  exact s_ret h fun H' a => q H' (x H' a)
theorem s_retNx {te : TE} {D : Ends} {σ : L2.St} {u : HO} {A : Asr} (h : Cn (te σ) A u) (e : u = o) (x : Ext A H) (q : RetN o H D.rt) : Go (tRet te) D σ A := fun H1 a => h H1 a _ fun p H2 n e2 hp => q p H2 ((x H1 a).free n) ((x H1 a).trans e2) (e ▸ hp)
end
end Lo
namespace Lo
open PySem L2
/-! ### loops -/
abbrev CmJ := Hp → (It → Hp → Prop) → Prop
def Cj (c : CmJ) (A : Asr) (J : It) : Prop := ∀ H, A.P H → ∀ R : It → Hp → Prop, (∀ H', Same H H' → R J H') → c H R
/-- what is wanted behind a turn -/
def Nf (P : Nat → L2.St → Asr → Prop) (i : Nat) : L2.St → Hp → Prop := fun σ H => ∃ A, P i σ A ∧ A.P H
def Nw (P : Nat → L2.St → Asr → Prop) (m : Nat) : L2.St → Hp → Prop := fun σ H => ∃ m' A, m' < m ∧ P m' σ A ∧ A.P H
section
variable {K : PySem.W.Frag} {σ : L2.St} {A : Asr} {ta : TA} {te tl : TE} {a b : Addr} {xs ys : List V} {n : Int}
theorem j_rng1 (h : Ca (ta σ) A [.int n]) (h1 : -4611686018427387904 ≤ n) (h2 : n < 4611686018427387904) : Cj (iRng1 ta σ) A (Itr 0 n.toNat) := fun H hA R k => h H hA _ fun H1 e1 => ⟨n, rfl, by omega, by omega, k H1 e1⟩
theorem j_rng2 {lo : Int} (h : Ca (ta σ) A [.int lo, .int n]) (h1 : -4611686018427387904 ≤ lo ∧ lo < 4611686018427387904 ∧ -4611686018427387904 ≤ n ∧ n < 4611686018427387904) : Cj (iRng2 ta σ) A (Itr lo (n - lo).toNat) := fun H hA R k => h H hA _ fun H1 e1 => ⟨lo, n, rfl, by omega, k H1 e1⟩
theorem j_list (h : Cv (tl σ) A (.ref a)) (hx : KnL K A a xs) : Cj (iList K tl σ) A (Itl K a) := fun H hA R k => h H hA _ fun H1 e1 => ⟨a, rfl, ⟨xs, hx H1 (A.st _ _ hA e1)⟩, k H1 e1⟩
theorem j_tup (h : Cv (tl σ) A (.ref a)) (hx : KnT K A a xs) : Cj (iTup K tl σ) A (Itt K a) := fun H hA R k => h H hA _ fun H1 e1 => ⟨a, rfl, ⟨xs, hx H1 (A.st _ _ hA e1)⟩, k H1 e1⟩
theorem j_str {z : Str} (h : Cv (tl σ) A (.str z)) : Cj (iStr tl σ) A (Its z) := fun H hA R k => h H hA _ fun H1 e1 => ⟨z, rfl, k H1 e1⟩
theorem j_enum (h : Ca (ta σ) A [.ref a]) (hx : KnL K A a xs) : Cj (iEnum K ta σ) A (Ite K a) := fun H hA R k => h H hA _ fun H1 e1 => ⟨a, xs, rfl, hx H1 (A.st _ _ hA e1), k H1 e1⟩
theorem j_rev (h : Ca (ta σ) A [.ref a]) (hx : KnL K A a xs) : Cj (iRev K ta σ) A (Itv K a xs.length) := fun H hA R k => h H hA _ fun H1 e1 => ⟨a, xs, rfl, hx H1 (A.st _ _ hA e1), k H1 e1⟩
theorem j_zip (h : Ca (ta σ) A [.ref a, .ref b]) (hx : KnL K A a xs) (hy : KnL K A b ys) : Cj (iZip K ta σ) A (Itz K a b) := fun H hA R k => h H hA _ fun H1 e1 => ⟨a, b, xs, ys, rfl, hx H1 (A.st _ _ hA e1), hy H1 (A.st _ _ hA e1), k H1 e1⟩
end
section
variable {K : PySem.W.Frag} {σ : L2.St} {A : Asr} {wi : TI} {g : TG} {tb : TS} {D : Ends} {J : It} {m j k : Nat} {G : Hp → Prop} {Y : Nat → Hp → V → Hp → Prop} {xs : List V}
/-- the end of a turn -/
theorem nf {P : Nat → L2.St → Asr → Prop} {i : Nat} {σ' : L2.St} {A' : Asr} (h : P i σ' A') : ∀ H, A'.P H → Nf P i σ' H := fun _ hA => ⟨A', h, hA⟩
theorem nw {P : Nat → L2.St → Asr → Prop} {i i' : Nat} {σ' : L2.St} {A' : Asr} (hl : i' < i) (h : P i' σ' A') : ∀ H, A'.P H → Nw P i σ' H := fun _ hA => ⟨i', A', hl, h, hA⟩
theorem nf_drop {P : Nat → L2.St → Asr → Prop} {i : Nat} {σ' : L2.St} {S0 E0 S : Hp} {L L' : List (Addr × HO)} (hs : L'.Sublist L) (h : P i σ' (at_ S0 E0 S L')) : ∀ H, (at_ S0 E0 S L).P H → Nf P i σ' H := fun _ hA => ⟨_, h, AtP.drop hA hs⟩
theorem s_for (hj : Cj (wi σ) A J) (w : Walk J m G Y) (P : Nat → L2.St → Asr → Prop) (h0 : P 0 σ A) (hG : ∀ i σ' A', i ≤ m → P i σ' A' → ∀ H, A'.P H → G H)
    (hs : ∀ i σ' A', i < m → P i σ' A' → ∀ H, A'.P H → ∀ x H', Y i H x H' → g x σ' H' fun σ2 H2 => tb { D with nx := Nf P (i + 1), ct := Nf P (i + 1), bk := D.nx } σ2 H2)
    (hd : ∀ σ' A', P m σ' A' → ∀ H, A'.P H → D.nx σ' H) : Go (tFor wi g tb) D σ A := fun H hA => hj H hA _ fun H1 e1 =>
  for_it w (Nf P) ⟨A, h0, A.st _ _ hA e1⟩ (fun i σ' H' hi ⟨A', p, a⟩ => hG i σ' A' hi p H' a) (fun i x σ' H' H2 hi ⟨A', p, a⟩ y => hs i σ' A' hi p H' a x H2 y) (fun σ' H' ⟨A', p, a⟩ => hd σ' A' p H' a)
/-- each turn's value is told by the turn -/
theorem s_forF {f : Nat → V} (hj : Cj (wi σ) A J) (w : Walk J m (fun _ => True) (YFn f)) (P : Nat → L2.St → Asr → Prop) (h0 : P 0 σ A)
    (hs : ∀ i σ' A', i < m → P i σ' A' → Go tb { D with nx := Nf P (i + 1), ct := Nf P (i + 1), bk := D.nx } (σ'.set j (some (f i))) A') (hd : ∀ σ' A', P m σ' A' → ∀ H, A'.P H → D.nx σ' H) : Go (tFor wi (gName j) tb) D σ A :=
  s_for hj w P h0 (fun _ _ _ _ _ _ _ => True.intro) (fun i σ' A' hi p H hA x H' y => by
    obtain ⟨rfl, rfl⟩ := y
    exact hs i σ' A' hi p _ hA) hd
theorem s_forA (hj : Cj (wi σ) A J) (w : Walk J m G (YAt xs)) (P : Nat → L2.St → Asr → Prop) (h0 : P 0 σ A) (hG : ∀ i σ' A', i ≤ m → P i σ' A' → ∀ H, A'.P H → G H)
    (hs : ∀ i x σ' A', xs[i]? = some x → P i σ' A' → Go tb { D with nx := Nf P (i + 1), ct := Nf P (i + 1), bk := D.nx } (σ'.set j (some x)) A') (hd : ∀ σ' A', P m σ' A' → ∀ H, A'.P H → D.nx σ' H) : Go (tFor wi (gName j) tb) D σ A :=
  s_for hj w P h0 hG (fun i σ' A' hi p H hA x H' y => by
    obtain ⟨rfl, hx⟩ := y
    exact hs i x σ' A' hx p _ hA) hd
/-- range(n) -/
theorem s_forR {ta : TA} {n : Int} (h : Ca (ta σ) A [.int n]) (h2 : n < 4611686018427387904) (h1 : -4611686018427387904 ≤ n) (P : Nat → L2.St → Asr → Prop) (h0 : P 0 σ A)
    (hs : ∀ (i : Nat) σ' A', (i : Int) < n → P i σ' A' → Go tb { D with nx := Nf P (i + 1), ct := Nf P (i + 1), bk := D.nx } (σ'.set j (some (.int (i : Int)))) A') (hd : ∀ σ' A', P n.toNat σ' A' → ∀ H, A'.P H → D.nx σ' H) : Go (tFor (iRng1 ta) (gName j) tb) D σ A :=
  s_forF (j_rng1 h h1 h2) walk_range P h0 (fun i σ' A' hi p => by
    have e0 : (0 : Int) + (i : Int) = (i : Int) := Int.zero_add _
    rw [e0]
    exact hs i σ' A' (by omega) p) hd
theorem s_forR2 {ta : TA} {lo n : Int} (h : Ca (ta σ) A [.int lo, .int n]) (h1 : -4611686018427387904 ≤ lo ∧ lo < 4611686018427387904 ∧ -4611686018427387904 ≤ n ∧ n < 4611686018427387904) (P : Nat → L2.St → Asr → Prop) (h0 : P 0 σ A)
    (hs : ∀ (i : Nat) σ' A', lo + (i : Int) < n → P i σ' A' → Go tb { D with nx := Nf P (i + 1), ct := Nf P (i + 1), bk := D.nx } (σ'.set j (some (.int (lo + (i : Int))))) A') (hd : ∀ σ' A', P (n - lo).toNat σ' A' → ∀ H, A'.P H → D.nx σ' H) : Go (tFor (iRng2 ta) (gName j) tb) D σ A :=
  s_forF (j_rng2 h h1) walk_range P h0 (fun i σ' A' hi p => hs i σ' A' (by omega) p) hd
/-- a list that stays -/
theorem s_forL {tl : TE} {a : Addr} (h : Cv (tl σ) A (.ref a)) (P : Nat → L2.St → Asr → Prop) (h0 : P 0 σ A) (hx : ∀ i σ' A', P i σ' A' → KnL K A' a xs)
    (hs : ∀ i x σ' A', xs[i]? = some x → P i σ' A' → Go tb { D with nx := Nf P (i + 1), ct := Nf P (i + 1), bk := D.nx } (σ'.set j (some x)) A') (hd : ∀ σ' A', P xs.length σ' A' → ∀ H, A'.P H → D.nx σ' H) : Go (tFor (iList K tl) (gName j) tb) D σ A :=
  s_forA (j_list h (hx 0 σ A h0)) walk_list P h0 (fun i σ' A' _ p => hx i σ' A' p) hs hd
/-- a new list -/
theorem s_forN {tl : TE} (h : Cn (tl σ) A (.lst xs)) (P : Addr → Nat → L2.St → Asr → Prop) (h0 : ∀ p, P p 0 σ (A.kn p (.lst xs))) (hx : ∀ p i σ' A', P p i σ' A' → KnL K A' p xs)
    (hs : ∀ p i x σ' A', xs[i]? = some x → P p i σ' A' → Go tb { D with nx := Nf (P p) (i + 1), ct := Nf (P p) (i + 1), bk := D.nx } (σ'.set j (some x)) A') (hd : ∀ p σ' A', P p xs.length σ' A' → ∀ H, A'.P H → D.nx σ' H) : Go (tFor (iList K tl) (gName j) tb) D σ A := fun H hA =>
  h H hA _ fun p H1 _ e1 hp => ⟨p, rfl, ⟨xs, SqL.of hp⟩, for_it walk_list (Nf (P p)) ⟨_, h0 p, A.st _ _ hA e1, hp⟩ (fun i σ' H' _ ⟨A', q, a⟩ => hx p i σ' A' q H' a) (fun i x σ' H' H2 _ ⟨A', q, a⟩ y => by
    obtain ⟨rfl, hx2⟩ := y
    exact hs p i x σ' A' hx2 q _ a) (fun σ' H' ⟨A', q, a⟩ => hd p σ' A' q H' a)⟩
theorem s_forT {tl : TE} {a : Addr} (h : Cv (tl σ) A (.ref a)) (P : Nat → L2.St → Asr → Prop) (h0 : P 0 σ A) (hx : ∀ i σ' A', P i σ' A' → KnT K A' a xs)
    (hs : ∀ i x σ' A', xs[i]? = some x → P i σ' A' → Go tb { D with nx := Nf P (i + 1), ct := Nf P (i + 1), bk := D.nx } (σ'.set j (some x)) A') (hd : ∀ σ' A', P xs.length σ' A' → ∀ H, A'.P H → D.nx σ' H) : Go (tFor (iTup K tl) (gName j) tb) D σ A :=
  s_forA (j_tup h (hx 0 σ A h0)) walk_tup P h0 (fun i σ' A' _ p => hx i σ' A' p) hs hd
/-- a text -/
theorem s_forS {tl : TE} {z : Str} (h : Cv (tl σ) A (.str z)) (P : Nat → L2.St → Asr → Prop) (h0 : P 0 σ A)
    (hs : ∀ i c σ' A', z.cps.toList[i]? = some c → P i σ' A' → Go tb { D with nx := Nf P (i + 1), ct := Nf P (i + 1), bk := D.nx } (σ'.set j (some (.str ⟨#[c]⟩))) A') (hd : ∀ σ' A', P z.length σ' A' → ∀ H, A'.P H → D.nx σ' H) : Go (tFor (iStr tl) (gName j) tb) D σ A :=
  s_for (j_str h) walk_str P h0 (fun _ _ _ _ _ _ _ => True.intro) (fun i σ' A' hi p H hA x H' y => by
    obtain ⟨rfl, c, hc, rfl⟩ := y
    exact hs i c σ' A' (by rw [← hc]; simp) p _ hA) hd
/-- for i, x in pairs that are made for each turn -/
theorem s_forP {K' : PySem.W.Frag} {fx fy : Nat → Option V} (hj : Cj (wi σ) A J) (w : Walk J m G (YPair fx fy)) (P : Nat → L2.St → Asr → Prop) (h0 : P 0 σ A) (hG : ∀ i σ' A', i ≤ m → P i σ' A' → ∀ H, A'.P H → G H)
    (hs : ∀ i x y σ' A', i < m → fx i = some x → fy i = some y → P i σ' A' → Go tb { D with nx := Nf P (i + 1), ct := Nf P (i + 1), bk := D.nx } ((σ'.set j (some x)).set k (some y)) A') (hd : ∀ σ' A', P m σ' A' → ∀ H, A'.P H → D.nx σ' H) :
    Go (tFor wi (gTup K' 2 (gCons (gName j) (gCons (gName k) gNil))) tb) D σ A :=
  s_for hj w P h0 hG (fun i σ' A' hi p H hA x H' y => by
    obtain ⟨T, u, v, rfl, hT, rfl, h1, h2⟩ := y
    exact ⟨T, [u, v], rfl, SqT.of upd_same, rfl, u, [v], rfl, v, [], rfl, rfl, hs i u v σ' A' hi h1 h2 p _ (A'.st _ _ hA (same_new hT))⟩) hd
theorem s_forE {ta : TA} {a : Addr} {K' : PySem.W.Frag} (h : Ca (ta σ) A [.ref a]) (P : Nat → L2.St → Asr → Prop) (h0 : P 0 σ A) (hx : ∀ i σ' A', P i σ' A' → KnL K A' a xs)
    (hs : ∀ (i : Nat) x σ' A', xs[i]? = some x → P i σ' A' → Go tb { D with nx := Nf P (i + 1), ct := Nf P (i + 1), bk := D.nx } ((σ'.set j (some (.int (i : Int)))).set k (some x)) A') (hd : ∀ σ' A', P xs.length σ' A' → ∀ H, A'.P H → D.nx σ' H) :
    Go (tFor (iEnum K ta) (gTup K' 2 (gCons (gName j) (gCons (gName k) gNil))) tb) D σ A :=
  s_forP (j_enum h (hx 0 σ A h0)) walk_enum P h0 (fun i σ' A' _ p => hx i σ' A' p) (fun i x y σ' A' hi h1 h2 p => by
    cases h1
    exact hs i y σ' A' h2 p) hd
theorem s_while {tt : TT} (P : Nat → L2.St → Asr → Prop) (m0 : Nat) (h0 : P m0 σ A)
    (hs : ∀ m σ' A', P m σ' A' → ∃ b, Ct (tt σ') A' b ∧ (b = true → Go tb { D with nx := Nw P m, ct := Nw P m, bk := D.nx } σ' A') ∧ (b = false → ∀ H, A'.P H → D.nx σ' H)) : Go (tWhile tt tb) D σ A := fun H hA =>
  ⟨fun m σ' H' => ∃ A', P m σ' A' ∧ A'.P H', ⟨m0, A, h0, hA⟩, fun m σ' H' ⟨A', p, a⟩ => by
    obtain ⟨b, hb, h1, h2⟩ := hs m σ' A' p
    refine hb H' a _ fun H1 e1 => ?_
    cases b with
    | true =>
      rw [if_pos rfl]
      exact ⟨Nw P m, fun σ2 H2 ⟨m', A2, hl, p2, a2⟩ => ⟨m', hl, A2, p2, a2⟩, h1 rfl H1 (A'.st _ _ a e1)⟩
    | false =>
      rw [if_neg Bool.false_ne_true]
      exact h2 rfl H1 (A'.st _ _ a e1)⟩
end
section
variable {K : PySem.W.Frag} {σ : L2.St} {A : Asr} {wi : TI} {g : TG} {tb s : TS} {D : Ends} {m j k : Nat} {xs : List V}
theorem q_forR {ta : TA} {n : Int} (h : Ca (ta σ) A [.int n]) (h2 : n < 4611686018427387904) (h1 : -4611686018427387904 ≤ n) (P : Nat → L2.St → Asr → Prop) (h0 : P 0 σ A)
    (hs : ∀ (i : Nat) σ' A', (i : Int) < n → P i σ' A' → Go tb { D with nx := Nf P (i + 1), ct := Nf P (i + 1), bk := s D } (σ'.set j (some (.int (i : Int)))) A') (hd : ∀ σ' A', P n.toNat σ' A' → Go s D σ' A') : Go (tSeq (tFor (iRng1 ta) (gName j) tb) s) D σ A :=
  g_seq (s_forR h h2 h1 P h0 hs hd)
theorem q_forR2 {ta : TA} {lo n : Int} (h : Ca (ta σ) A [.int lo, .int n]) (h1 : -4611686018427387904 ≤ lo ∧ lo < 4611686018427387904 ∧ -4611686018427387904 ≤ n ∧ n < 4611686018427387904) (P : Nat → L2.St → Asr → Prop) (h0 : P 0 σ A)
    (hs : ∀ (i : Nat) σ' A', lo + (i : Int) < n → P i σ' A' → Go tb { D with nx := Nf P (i + 1), ct := Nf P (i + 1), bk := s D } (σ'.set j (some (.int (lo + (i : Int))))) A') (hd : ∀ σ' A', P (n - lo).toNat σ' A' → Go s D σ' A') : Go (tSeq (tFor (iRng2 ta) (gName j) tb) s) D σ A :=
  g_seq (s_forR2 h h1 P h0 hs hd)
theorem q_forL {tl : TE} {a : Addr} (h : Cv (tl σ) A (.ref a)) (P : Nat → L2.St → Asr → Prop) (h0 : P 0 σ A) (hx : ∀ i σ' A', P i σ' A' → KnL K A' a xs)
    (hs : ∀ i x σ' A', xs[i]? = some x → P i σ' A' → Go tb { D with nx := Nf P (i + 1), ct := Nf P (i + 1), bk := s D } (σ'.set j (some x)) A') (hd : ∀ σ' A', P xs.length σ' A' → Go s D σ' A') : Go (tSeq (tFor (iList K tl) (gName j) tb) s) D σ A :=
  g_seq (s_forL h P h0 hx hs hd)
theorem q_forN {tl : TE} (h : Cn (tl σ) A (.lst xs)) (P : Addr → Nat → L2.St → Asr → Prop) (h0 : ∀ p, P p 0 σ (A.kn p (.lst xs))) (hx : ∀ p i σ' A', P p i σ' A' → KnL K A' p xs)
    (hs : ∀ p i x σ' A', xs[i]? = some x → P p i σ' A' → Go tb { D with nx := Nf (P p) (i + 1), ct := Nf (P p) (i + 1), bk := s D } (σ'.set j (some x)) A') (hd : ∀ p σ' A', P p xs.length σ' A' → Go s D σ' A') : Go (tSeq (tFor (iList K tl) (gName j) tb) s) D σ A :=
  g_seq (s_forN h P h0 hx hs hd)
theorem q_forT {tl : TE} {a : Addr} (h : Cv (tl σ) A (.ref a)) (P : Nat → L2.St → Asr → Prop) (h0 : P 0 σ A) (hx : ∀ i σ' A', P i σ' A' → KnT K A' a xs)
    (hs : ∀ i x σ' A', xs[i]? = some x → P i σ' A' → Go tb { D with nx := Nf P (i + 1), ct := Nf P (i + 1), bk := s D } (σ'.set j (some x)) A') (hd : ∀ σ' A', P xs.length σ' A' → Go s D σ' A') : Go (tSeq (tFor (iTup K tl) (gName j) tb) s) D σ A :=
  g_seq (s_forT h P h0 hx hs hd)
theorem q_forS {tl : TE} {z : Str} (h : Cv (tl σ) A (.str z)) (P : Nat → L2.St → Asr → Prop) (h0 : P 0 σ A)
    (hs : ∀ i c σ' A', z.cps.toList[i]? = some c → P i σ' A' → Go tb { D with nx := Nf P (i + 1), ct := Nf P (i + 1), bk := s D } (σ'.set j (some (.str ⟨#[c]⟩))) A') (hd : ∀ σ' A', P z.length σ' A' → Go s D σ' A') : Go (tSeq (tFor (iStr tl) (gName j) tb) s) D σ A :=
  g_seq (s_forS h P h0 hs hd)
theorem q_forE {ta : TA} {a : Addr} {K' : PySem.W.Frag} (h : Ca (ta σ) A [.ref a]) (P : Nat → L2.St → Asr → Prop) (h0 : P 0 σ A) (hx : ∀ i σ' A', P i σ' A' → KnL K A' a xs)
    (hs : ∀ (i : Nat) x σ' A', xs[i]? = some x → P i σ' A' → Go tb { D with nx := Nf P (i + 1), ct := Nf P (i + 1), bk := s D } ((σ'.set j (some (.int (i : Int)))).set k (some x)) A') (hd : ∀ σ' A', P xs.length σ' A' → Go s D σ' A') :
    Go (tSeq (tFor (iEnum K ta) (gTup K' 2 (gCons (gName j) (gCons (gName k) gNil))) tb) s) D σ A :=
  g_seq (s_forE h P h0 hx hs hd)
theorem q_while {tt : TT} (P : Nat → L2.St → Asr → Prop) (m0 : Nat) (h0 : P m0 σ A)
    (hs : ∀ m σ' A', P m σ' A' → ∃ b, Ct (tt σ') A' b ∧ (b = true → Go tb { D with nx := Nw P m, ct := Nw P m, bk := s D } σ' A') ∧ (b = false → Go s D σ' A')) : Go (tSeq (tWhile tt tb) s) D σ A :=
  g_seq (s_while P m0 h0 hs)
end
/-! ### objects of one's own in statements -/
section
variable {K : PySem.W.Frag} {S0 E0 S : Hp} {L L' : List (Addr × HO)} {σ : L2.St} {te tv ti : TE} {v y : V} {o u : HO} {D : Ends} {s : TS} {i j : Nat} {k : Int} {p : Addr} {xs : List V}
theorem q_own (h : Cn (te σ) (at_ S0 E0 S L) o) (k : ∀ p, Go s D (σ.set i (some (.ref p))) (at_ S0 E0 S ((p, o) :: L))) : Go (tSeq (tAsg te (gName i)) s) D σ (at_ S0 E0 S L) :=
  fun H a => h H a _ fun p H1 n e1 hp => k p H1 (AtP.own a n e1 hp)
theorem app_run (hv : Cv (tv σ) (at_ S0 E0 S L) (.ref p)) (h : Cv (te σ) (at_ S0 E0 S L) v) (w : Up1 p (.lst xs) (.lst (xs ++ [v])) L L') (hz : xs.length < sizeLine) (k : ∀ H, AtP S0 E0 S L' H → D.nx σ H) :
    Go (tDrop (tBM K "list" rAppend tv (tCons te tNil))) D σ (at_ S0 E0 S L) := fun H a => hv H a _ fun H1 e1 => by
  have a1 : AtP S0 E0 S L H1 := AtP.ext a e1
  exact ⟨.inl ⟨rfl, xs, SqL.of (a1.ow _ w.mem).1⟩, h H1 a1 _ fun H2 e2 => ⟨p, xs, v, rfl, rfl, ((a1.ext e2).ow _ w.mem).1, hz, k _ ((a1.ext e2).put w)⟩⟩
theorem q_app (hv : Cv (tv σ) (at_ S0 E0 S L) (.ref p)) (h : Cv (te σ) (at_ S0 E0 S L) v) (w : Up1 p (.lst xs) (.lst (xs ++ [v])) L L') (hz : xs.length < sizeLine) (k : Go s D σ (at_ S0 E0 S L')) :
    Go (tSeq (tDrop (tBM K "list" rAppend tv (tCons te tNil))) s) D σ (at_ S0 E0 S L) := g_seq (app_run hv h w hz k)
theorem s_app (hv : Cv (tv σ) (at_ S0 E0 S L) (.ref p)) (h : Cv (te σ) (at_ S0 E0 S L) v) (w : Up1 p (.lst xs) (.lst (xs ++ [v])) L L') (hz : xs.length < sizeLine) (k : ∀ H, (at_ S0 E0 S L').P H → D.nx σ H) :
    Go (tDrop (tBM K "list" rAppend tv (tCons te tNil))) D σ (at_ S0 E0 S L) := app_run hv h w hz k
/-- a new object is put behind, for good -/
theorem appN_run {N : Addr → List (Addr × HO)} (hv : Cv (tv σ) (at_ S0 E0 S L) (.ref p)) (h : Cn (te σ) (at_ S0 E0 S L) o) (w : ∀ q, Up1 p (.lst xs) (.lst (xs ++ [.ref q])) L (N q)) (hz : xs.length < sizeLine)
    (k : ∀ q, S q = none → q ≠ p → ∀ H, AtP S0 E0 (upd S q o) (N q) H → D.nx σ H) :
    Go (tDrop (tBM K "list" rAppend tv (tCons te tNil))) D σ (at_ S0 E0 S L) := fun H a => hv H a _ fun H1 e1 => by
  have a1 : AtP S0 E0 S L H1 := AtP.ext a e1
  have m := (w p).mem
  refine ⟨.inl ⟨rfl, xs, SqL.of (a1.ow _ m).1⟩, h H1 a1 _ fun q H2 n e2 hq => ?_⟩
  have a2 : AtP S0 E0 S L H2 := a1.ext e2
  exact ⟨p, xs, .ref q, rfl, rfl, (a2.ow _ m).1, hz, k q (a1.sh.free n) (fun e => by rw [e, (a1.ow _ m).1] at n; cases n) _ ((a1.own n e2 hq).put (Up1.tail (w q))).keep⟩
theorem q_appN {N : Addr → List (Addr × HO)} (hv : Cv (tv σ) (at_ S0 E0 S L) (.ref p)) (h : Cn (te σ) (at_ S0 E0 S L) o) (w : ∀ q, Up1 p (.lst xs) (.lst (xs ++ [.ref q])) L (N q)) (hz : xs.length < sizeLine)
    (k : ∀ q, S q = none → q ≠ p → Go s D σ (at_ S0 E0 (upd S q o) (N q))) : Go (tSeq (tDrop (tBM K "list" rAppend tv (tCons te tNil))) s) D σ (at_ S0 E0 S L) := g_seq (appN_run hv h w hz k)
theorem s_appN {N : Addr → List (Addr × HO)} (hv : Cv (tv σ) (at_ S0 E0 S L) (.ref p)) (h : Cn (te σ) (at_ S0 E0 S L) o) (w : ∀ q, Up1 p (.lst xs) (.lst (xs ++ [.ref q])) L (N q)) (hz : xs.length < sizeLine)
    (k : ∀ q, S q = none → q ≠ p → ∀ H, (at_ S0 E0 (upd S q o) (N q)).P H → D.nx σ H) : Go (tDrop (tBM K "list" rAppend tv (tCons te tNil))) D σ (at_ S0 E0 S L) := appN_run hv h w hz k
theorem set_run (h : Cv (te σ) (at_ S0 E0 S L) v) (hv : Cv (tv σ) (at_ S0 E0 S L) (.ref p)) (hi : Cv (ti σ) (at_ S0 E0 S L) (.int k)) (hj : ixN xs.length k = some j) (w : Up1 p (.lst xs) (.lst (xs.set j v)) L L') (c : ∀ H, AtP S0 E0 S L' H → D.nx σ H) :
    Go (tAsg te (gSub tv ti rSetA)) D σ (at_ S0 E0 S L) := fun H a => h H a _ fun H1 e1 => by
  have a1 : AtP S0 E0 S L H1 := AtP.ext a e1
  refine hv H1 a1 _ fun H2 e2 => hi H2 (a1.ext e2) _ fun H3 e3 => ?_
  have a3 : AtP S0 E0 S L H3 := (a1.ext e2).ext e3
  exact .inl ⟨p, xs, k, j, rfl, rfl, (a3.ow _ w.mem).1, hj, c _ (a3.put w)⟩
theorem q_set (h : Cv (te σ) (at_ S0 E0 S L) v) (hv : Cv (tv σ) (at_ S0 E0 S L) (.ref p)) (hi : Cv (ti σ) (at_ S0 E0 S L) (.int k)) (hj : ixN xs.length k = some j) (w : Up1 p (.lst xs) (.lst (xs.set j v)) L L') (c : Go s D σ (at_ S0 E0 S L')) :
    Go (tSeq (tAsg te (gSub tv ti rSetA)) s) D σ (at_ S0 E0 S L) := g_seq (set_run h hv hi hj w c)
theorem s_set (h : Cv (te σ) (at_ S0 E0 S L) v) (hv : Cv (tv σ) (at_ S0 E0 S L) (.ref p)) (hi : Cv (ti σ) (at_ S0 E0 S L) (.int k)) (hj : ixN xs.length k = some j) (w : Up1 p (.lst xs) (.lst (xs.set j v)) L L') (c : ∀ H, (at_ S0 E0 S L').P H → D.nx σ H) :
    Go (tAsg te (gSub tv ti rSetA)) D σ (at_ S0 E0 S L) := set_run h hv hi hj w c
theorem q_pop (hv : Cv (tv σ) (at_ S0 E0 S L) (.ref p)) (hy : xs[xs.length - 1]? = some y) (w : Up1 p (.lst xs) (.lst xs.dropLast) L L') (c : Go s D (σ.set i (some y)) (at_ S0 E0 S L')) :
    Go (tSeq (tAsg (tBM0 K "list" rPop tv) (gName i)) s) D σ (at_ S0 E0 S L) := fun H a => hv H a _ fun H1 e1 => by
  have a1 : AtP S0 E0 S L H1 := AtP.ext a e1
  exact ⟨.inl ⟨rfl, xs, SqL.of (a1.ow _ w.mem).1⟩, p, xs, y, rfl, rfl, (a1.ow _ w.mem).1, hy, c _ (a1.put w)⟩
end
section
variable {S0 S H : Hp} {L : List (Addr × HO)} {σ : L2.St} {te : TE} {o : HO} {D : Ends} {p : Addr}
theorem s_retO (hv : Cv (te σ) (at_ S0 H S L) (.ref p)) (hm : (p, o) ∈ L) (q : RetN o H D.rt) : Go (tRet te) D σ (at_ S0 H S L) := fun H1 a => hv H1 a _ fun H2 e2 => by
  have a2 : AtP S0 H S L H2 := AtP.ext a e2
  exact q p H2 (a2.ow _ hm).2.2 a2.e0 (a2.ow _ hm).1
end
/-- a statement that is never reached -/
def tDead : TS := fun _ _ _ => False
theorem ps_dead {X : Cx} {st : Stmt} : PS X st tDead := ⟨fun _ _ _ _ _ _ h => False.elim h⟩
theorem go_dead {D : Ends} {σ : L2.St} {A : Asr} (h : False) : Go tDead D σ A := h.elim
/-- sep.join(xs) -/
def rJoin (K : PySem.W.Frag) : V → List V → Hp → VK → Prop := fun x xs H Q => ∃ a p, ∃ ys : List Str, x = .str a ∧ xs = [.ref p] ∧ (SqL K H p (ys.map V.str) ∨ SqT K H p (ys.map V.str)) ∧
  (ys.map (·.length)).sum + ys.length * a.length ≤ 16777216 ∧ Q (.str (Txt.join a ys)) H
open PySem.Spec PyProof.Rows in
theorem pe_joinA {X : Cx} {o e : Expr} {to te : TE} {apos pos : Pos} (ho : PE X o to) (he : PE X e te) (hs : starEach [e] X.env = [(false, eval e X.env)] := by rfl) (hbase : attributeBase o "join" X.env (eval o X.env) = eval o X.env := by rfl) (hline : (apos.endLine == pos.line) = true := by rfl) :
    PE X (.Call (.Attribute o "join" apos) [e] [] pos) (tM1 (rJoin X.K) to te) := pe_join ho he hs hbase hline
theorem e_join {K : PySem.W.Frag} {A : Asr} {a : Str} {p : Addr} {ys : List Str} (h : KnL K A p (ys.map V.str)) (hz : (ys.map (·.length)).sum + ys.length * a.length ≤ 16777216) : Cv (rJoin K (.str a) [.ref p]) A (.str (Txt.join a ys)) := fun H hA _ q =>
  ⟨a, p, ys, rfl, rfl, .inl (h H hA), hz, q H (Same.refl H)⟩
/-- list(xs) -/
def rCopy (K : PySem.W.Frag) : List V → Hp → VK → Prop := fun xs H Q => ∃ p ys, xs = [.ref p] ∧ (SqL K H p ys ∨ SqT K H p ys) ∧ ∀ l, H l = none → Q (.ref l) (upd H l (.lst ys))
theorem call_copyA {X : Cx} : CallR X (.type "list") (rCopy X.K) := call_list_of
theorem e_copyL {K : PySem.W.Frag} {A : Asr} {p : Addr} {ys : List V} (h : KnL K A p ys) : Cn (rCopy K [.ref p]) A (.lst ys) := fun H hA _ q => ⟨p, ys, rfl, .inl (h H hA), fun l hl => q l _ hl (same_new hl) upd_same⟩
theorem e_copyT {K : PySem.W.Frag} {A : Asr} {p : Addr} {ys : List V} (h : KnT K A p ys) : Cn (rCopy K [.ref p]) A (.lst ys) := fun H hA _ q => ⟨p, ys, rfl, .inr (h H hA), fun l hl => q l _ hl (same_new hl) upd_same⟩
/-- range with a step -/
theorem j_rng3 {σ : L2.St} {A : Asr} {ta : TA} {lo n c : Int} {m : Nat} (h : Ca (ta σ) A [.int lo, .int n, .int c]) (h1 : RgC lo n c m) : Cj (iRng3 ta σ) A (Itc lo c m) := fun H hA R k => h H hA _ fun H1 e1 => ⟨lo, n, c, m, rfl, h1, k H1 e1⟩
section
variable {K : PySem.W.Frag} {S0 E0 S : Hp} {L : List (Addr × HO)} {σ : L2.St} {tb s : TS} {D : Ends} {j : Nat} {xs : List V}
theorem s_forO {tl : TE} (h : Cn (tl σ) (at_ S0 E0 S L) (.lst xs)) (P : Addr → Nat → L2.St → Asr → Prop) (h0 : ∀ p, P p 0 σ (at_ S0 E0 S ((p, .lst xs) :: L))) (hx : ∀ p i σ' A', P p i σ' A' → KnL K A' p xs)
    (hs : ∀ p i x σ' A', xs[i]? = some x → P p i σ' A' → Go tb { D with nx := Nf (P p) (i + 1), ct := Nf (P p) (i + 1), bk := D.nx } (σ'.set j (some x)) A') (hd : ∀ p σ' A', P p xs.length σ' A' → ∀ H, A'.P H → D.nx σ' H) : Go (tFor (iList K tl) (gName j) tb) D σ (at_ S0 E0 S L) := fun H hA =>
  h H hA _ fun p H1 n e1 hp => ⟨p, rfl, ⟨xs, SqL.of hp⟩, for_it walk_list (Nf (P p)) ⟨_, h0 p, AtP.own hA n e1 hp⟩ (fun i σ' H' _ ⟨A', q, a⟩ => hx p i σ' A' q H' a) (fun i x σ' H' H2 _ ⟨A', q, a⟩ y => by
    obtain ⟨rfl, hx2⟩ := y
    exact hs p i x σ' A' hx2 q _ a) (fun σ' H' ⟨A', q, a⟩ => hd p σ' A' q H' a)⟩
theorem q_forO {tl : TE} (h : Cn (tl σ) (at_ S0 E0 S L) (.lst xs)) (P : Addr → Nat → L2.St → Asr → Prop) (h0 : ∀ p, P p 0 σ (at_ S0 E0 S ((p, .lst xs) :: L))) (hx : ∀ p i σ' A', P p i σ' A' → KnL K A' p xs)
    (hs : ∀ p i x σ' A', xs[i]? = some x → P p i σ' A' → Go tb { D with nx := Nf (P p) (i + 1), ct := Nf (P p) (i + 1), bk := s D } (σ'.set j (some x)) A') (hd : ∀ p σ' A', P p xs.length σ' A' → Go s D σ' A') : Go (tSeq (tFor (iList K tl) (gName j) tb) s) D σ (at_ S0 E0 S L) :=
  g_seq (s_forO h P h0 hx hs hd)
end
/-! ### comprehensions -/
section
variable {K : PySem.W.Frag} {σ : L2.St} {A : Asr} {wi : TI} {g : TG} {tt : TT} {te : TE} {J : It} {m j k : Nat} {G : Hp → Prop} {Y : Nat → Hp → V → Hp → Prop} {vs : List Nat}
def AccP (acc : Nat → List V) (H1 : Hp) (Dl : Addr) (i : Nat) (H : Hp) : Prop := H1 Dl = none ∧ Same H1 H ∧ H Dl = some (.lst (acc i))
theorem same_mut {H H' : Hp} {p : Addr} {o : HO} (e : Same H H') (h : H p = none) : Same H (upd H' p o) := fun a u ha => by
  rw [upd_ne (ne_of_none ha h)]
  exact e a u ha
theorem lc_turn {c : CmB} {e : Cm} {b : Bool} {v : V} {H1 H' : Hp} {Dl : Addr} {acc : Nat → List V} {i : Nat} (p : AccP acc H1 Dl i H') (hA : A.P H1) (hz : (acc i).length < sizeLine) (ht : Ct c A b) (he : b = true → Cv e A v)
    (ha : acc (i + 1) = if b then acc i ++ [v] else acc i) :
    c H' fun b H3 => if b = true then e H3 fun y H4 => ∃ ac, H4 Dl = some (.lst ac) ∧ ac.length < sizeLine ∧ AccP acc H1 Dl (i + 1) (upd H4 Dl (.lst (ac ++ [y]))) else AccP acc H1 Dl (i + 1) H3 := by
  obtain ⟨p1, p2, p3⟩ := p
  refine ht H' (A.st _ _ hA p2) _ fun H3 e3 => ?_
  cases b with
  | true =>
    rw [if_pos rfl]
    rw [if_pos rfl] at ha
    refine he rfl H3 (A.st _ _ hA (p2.trans e3)) _ fun H4 e4 => ⟨acc i, e4 Dl _ (e3 Dl _ p3), hz, p1, same_mut ((p2.trans e3).trans e4) p1, ?_⟩
    rw [ha]
    exact upd_same
  | false =>
    rw [if_neg Bool.false_ne_true]
    rw [if_neg Bool.false_ne_true] at ha
    refine ⟨p1, p2.trans e3, ?_⟩
    rw [ha]
    exact e3 Dl _ p3
theorem range_acc {p : Nat → Bool} {v : Nat → V} (i : Nat) : ((List.range (i + 1)).filter p).map v = if p i then ((List.range i).filter p).map v ++ [v i] else ((List.range i).filter p).map v := by
  rw [List.range_succ, List.filter_append, List.map_append, List.filter_cons]
  split <;> simp
theorem range_len {p : Nat → Bool} {v : Nat → V} (i : Nat) : (((List.range i).filter p).map v).length ≤ i := by
  rw [List.length_map]
  exact Nat.le_trans (List.length_filter_le _ _) (by simp)
theorem take_acc {α : Type} {l : List α} {p : α → Bool} {v : α → V} {i : Nat} {x : α} (h : l[i]? = some x) : ((l.take (i + 1)).filter p).map v = if p x then ((l.take i).filter p).map v ++ [v x] else ((l.take i).filter p).map v := by
  rw [List.take_add_one, h, List.filter_append, List.map_append]
  show _ ++ List.map v (List.filter p [x]) = _
  rw [List.filter_cons]
  split <;> simp
theorem take_len {α : Type} {l : List α} {p : α → Bool} {v : α → V} (i : Nat) : (((l.take i).filter p).map v).length ≤ l.length := by
  rw [List.length_map]
  exact Nat.le_trans (List.length_filter_le _ _) (by rw [List.length_take]; omega)
theorem n_lcF {f : Nat → V} (hj : Cj (wi σ) A J) (w : Walk J m (fun _ => True) (YFn f)) (hm : m < sizeLine) (p : Nat → Bool) (v : Nat → V)
    (ht : ∀ i, i < m → Ct (tt ((wipe σ vs).set j (some (f i)))) A (p i)) (he : ∀ i, i < m → p i = true → Cv (te ((wipe σ vs).set j (some (f i)))) A (v i)) (hw : ∀ x, wipe ((wipe σ vs).set j (some x)) vs = wipe σ vs) :
    Cn (tLc wi (gName j) tt te vs σ) A (.lst (((List.range m).filter p).map v)) := fun H hA Q q => hj H hA _ fun H1 e1 Dl hD => by
  have hA1 := A.st _ _ hA e1
  refine lc_it w (AccP (fun i => ((List.range i).filter p).map v) H1 Dl) ⟨hD, same_new hD, upd_same⟩ (fun _ _ _ _ => True.intro) (fun i x H' H2 hi p' y => ?_) (fun H' p' => q Dl H' (e1.free hD) (e1.trans p'.2.1) p'.2.2)
  obtain ⟨rfl, rfl⟩ := y
  exact ⟨hw _, lc_turn p' hA1 (Nat.lt_of_le_of_lt (range_len i) (by omega)) (ht i hi) (he i hi) (range_acc i)⟩
theorem n_lcA {α : Type} {l : List α} {f : α → V} (hj : Cj (wi σ) A J) (w : Walk J l.length G (YAt (l.map f))) (hG : ∀ H, A.P H → G H) (hm : l.length < sizeLine) (p : α → Bool) (v : α → V)
    (ht : ∀ x, x ∈ l → Ct (tt ((wipe σ vs).set j (some (f x)))) A (p x)) (he : ∀ x, x ∈ l → p x = true → Cv (te ((wipe σ vs).set j (some (f x)))) A (v x)) (hw : ∀ x, wipe ((wipe σ vs).set j (some x)) vs = wipe σ vs) :
    Cn (tLc wi (gName j) tt te vs σ) A (.lst ((l.filter p).map v)) := fun H hA Q q => hj H hA _ fun H1 e1 Dl hD => by
  have hA1 := A.st _ _ hA e1
  refine lc_it w (AccP (fun i => ((l.take i).filter p).map v) H1 Dl) ⟨hD, same_new hD, upd_same⟩ (fun i H' _ p' => hG H' (A.st _ _ hA1 p'.2.1)) (fun i x H' H2 hi p' y => ?_) (fun H' p' => q Dl H' (e1.free hD) (e1.trans p'.2.1) ?_)
  · obtain ⟨rfl, hx⟩ := y
    rw [List.getElem?_map] at hx
    obtain ⟨z, hz, rfl⟩ := Option.map_eq_some_iff.mp hx
    have hm' : z ∈ l := List.mem_of_getElem? hz
    exact ⟨hw _, lc_turn p' hA1 (Nat.lt_of_le_of_lt (take_len i) hm) (ht z hm') (he z hm') (take_acc hz)⟩
  · have h3 := p'.2.2
    simp only [List.take_length] at h3
    exact h3
theorem n_lcP {K' : PySem.W.Frag} {fx fy : Nat → Option V} (hj : Cj (wi σ) A J) (w : Walk J m G (YPair fx fy)) (hG : ∀ H, A.P H → G H) (hm : m < sizeLine) (p : Nat → Bool) (v : Nat → V)
    (ht : ∀ i x y, i < m → fx i = some x → fy i = some y → Ct (tt (((wipe σ vs).set j (some x)).set k (some y))) A (p i)) (he : ∀ i x y, i < m → fx i = some x → fy i = some y → p i = true → Cv (te (((wipe σ vs).set j (some x)).set k (some y))) A (v i))
    (hw : ∀ x y, wipe (((wipe σ vs).set j (some x)).set k (some y)) vs = wipe σ vs) :
    Cn (tLc wi (gTup K' 2 (gCons (gName j) (gCons (gName k) gNil))) tt te vs σ) A (.lst (((List.range m).filter p).map v)) := fun H hA Q q => hj H hA _ fun H1 e1 Dl hD => by
  have hA1 := A.st _ _ hA e1
  refine lc_it w (AccP (fun i => ((List.range i).filter p).map v) H1 Dl) ⟨hD, same_new hD, upd_same⟩ (fun i H' _ p' => hG H' (A.st _ _ hA1 p'.2.1)) (fun i x H' H2 hi p' y => ?_) (fun H' p' => q Dl H' (e1.free hD) (e1.trans p'.2.1) p'.2.2)
  obtain ⟨T, a, b, rfl, hT, rfl, h1, h2⟩ := y
  have p2 : AccP (fun i => ((List.range i).filter p).map v) H1 Dl i (upd H' T (.tup [a, b])) := ⟨p'.1, p'.2.1.trans (same_new hT), same_new hT _ _ p'.2.2⟩
  exact ⟨T, [a, b], rfl, SqT.of upd_same, rfl, a, [b], rfl, b, [], rfl, rfl, hw _ _, lc_turn p2 hA1 (Nat.lt_of_le_of_lt (range_len i) (by omega)) (ht i a b hi h1 h2) (he i a b hi h1 h2) (range_acc i)⟩
/-- without a test -/
theorem filt_yes {α : Type} (l : List α) : l.filter (fun _ => true) = l := by simp
/-- [e for x in range(n)] -/
theorem n_lcR {ta : TA} {n : Int} (v : Nat → V) (h : Ca (ta σ) A [.int n]) (hn : n ≤ 1000000) (h1 : -4611686018427387904 ≤ n) (he : ∀ i : Nat, (i : Int) < n → Cv (te ((wipe σ vs).set j (some (.int (i : Int))))) A (v i)) (hw : ∀ x, wipe ((wipe σ vs).set j (some x)) vs = wipe σ vs) :
    Cn (tLc (iRng1 ta) (gName j) tYes te vs σ) A (.lst ((List.range n.toNat).map v)) := by
  have e0 : ∀ i : Nat, (0 : Int) + (i : Int) = (i : Int) := fun i => Int.zero_add _
  have hs : sizeLine = 16777216 := sizeLine_eq
  have z := n_lcF (vs := vs) (te := te) (j := j) (j_rng1 h h1 (by omega)) walk_range (show n.toNat < sizeLine by omega) (fun _ => true) v (fun _ _ => t_yes) (fun i hi _ => by rw [e0 i]; exact he i (by omega)) hw
  rw [filt_yes] at z
  exact z
theorem n_lcRT {ta : TA} {n : Int} (p : Nat → Bool) (v : Nat → V) (h : Ca (ta σ) A [.int n]) (hn : n ≤ 1000000) (h1 : -4611686018427387904 ≤ n) (ht : ∀ i : Nat, (i : Int) < n → Ct (tt ((wipe σ vs).set j (some (.int (i : Int))))) A (p i)) (he : ∀ i : Nat, (i : Int) < n → p i = true → Cv (te ((wipe σ vs).set j (some (.int (i : Int))))) A (v i)) (hw : ∀ x, wipe ((wipe σ vs).set j (some x)) vs = wipe σ vs) :
    Cn (tLc (iRng1 ta) (gName j) tt te vs σ) A (.lst (((List.range n.toNat).filter p).map v)) := by
  have e0 : ∀ i : Nat, (0 : Int) + (i : Int) = (i : Int) := fun i => Int.zero_add _
  have hs : sizeLine = 16777216 := sizeLine_eq
  exact n_lcF (vs := vs) (te := te) (j := j) (j_rng1 h h1 (by omega)) walk_range (show n.toNat < sizeLine by omega) p v (fun i hi => by rw [e0 i]; exact ht i (by omega)) (fun i hi => by rw [e0 i]; exact he i (by omega)) hw
/-- [e for x in xs] -/
theorem n_lcL {α : Type} {l : List α} {f : α → V} {tl : TE} {a : Addr} (v : α → V) (h : Cv (tl σ) A (.ref a)) (hx : KnL K A a (l.map f)) (hm : l.length < sizeLine) (he : ∀ x, x ∈ l → Cv (te ((wipe σ vs).set j (some (f x)))) A (v x)) (hw : ∀ x, wipe ((wipe σ vs).set j (some x)) vs = wipe σ vs) :
    Cn (tLc (iList K tl) (gName j) tYes te vs σ) A (.lst (l.map v)) := by
  have z := n_lcA (vs := vs) (te := te) (j := j) (j_list h hx) (by have := walk_list (K := K) (a := a) (xs := l.map f); rw [List.length_map] at this; exact this) hx hm (fun _ => true) v (fun _ _ => t_yes) (fun x hx2 _ => he x hx2) hw
  rw [filt_yes] at z
  exact z
theorem n_lcLT {α : Type} {l : List α} {f : α → V} {tl : TE} {a : Addr} (p : α → Bool) (v : α → V) (h : Cv (tl σ) A (.ref a)) (hx : KnL K A a (l.map f)) (hm : l.length < sizeLine) (ht : ∀ x, x ∈ l → Ct (tt ((wipe σ vs).set j (some (f x)))) A (p x)) (he : ∀ x, x ∈ l → p x = true → Cv (te ((wipe σ vs).set j (some (f x)))) A (v x)) (hw : ∀ x, wipe ((wipe σ vs).set j (some x)) vs = wipe σ vs) :
    Cn (tLc (iList K tl) (gName j) tt te vs σ) A (.lst ((l.filter p).map v)) :=
  n_lcA (vs := vs) (te := te) (j := j) (j_list h hx) (by have := walk_list (K := K) (a := a) (xs := l.map f); rw [List.length_map] at this; exact this) hx hm p v ht he hw
end
end Lo
namespace Lo
open PySem L2
/-! ### isinstance -/
section
variable {K : PySem.W.Frag} {A : Asr} {x : V} {T U : String} {b : Bool}
def KnTy (K : PySem.W.Frag) (A : Asr) (x : V) (t : Value) : Prop := ∀ H, A.P H → TyX K H x t
theorem e_isi (ht : KnTy K A x (.type T)) (hk : kitB T U = some b) : Cv (rIsi K [x, .ty U]) A (.bl b) := fun H hA _ q => ⟨x, .ty U, .type T, .type U, b, rfl, .ty U, ht H hA, kit_ty hk, q H (Same.refl H)⟩
theorem ty_int {i : Int} : KnTy K A (.int i) (.type "int") := fun _ _ => .base (.int i)
theorem ty_bl {c : Bool} : KnTy K A (.bl c) (.type "bool") := fun _ _ => .base (.bl c)
theorem ty_str {z : Str} : KnTy K A (.str z) (.type "str") := fun _ _ => .base (.str z)
theorem ty_non : KnTy K A .non (.type "NoneType") := fun _ _ => .base .non
theorem ty_lst {p : Addr} {xs : List V} (h : Kn A p (.lst xs)) : KnTy K A (.ref p) (.type "list") := fun H a => .base (.lst (h H a))
theorem ty_tup {p : Addr} {xs : List V} (h : Kn A p (.tup xs)) : KnTy K A (.ref p) (.type "tuple") := fun H a => .base (.tup (h H a))
theorem ty_dK {p : Addr} {xs : List (Key × V)} (h : Kn A p (.dK xs)) : KnTy K A (.ref p) (.type "dict") := fun H a => .base (.dK (h H a))
/-- what isinstance tells of the flat kinds -/
def isTy (U : String) : V → Bool
  | .int _ => U == "int"
  | .bl _ => U == "bool" || U == "int"
  | .str _ => U == "str"
  | _ => false
theorem e_isiII {i : Int} : Cv (rIsi K [.int i, .ty "int"]) A (.bl true) := e_isi ty_int (by decide +kernel)
theorem e_isiIB {i : Int} : Cv (rIsi K [.int i, .ty "bool"]) A (.bl false) := e_isi ty_int (by decide +kernel)
theorem e_isiIS {i : Int} : Cv (rIsi K [.int i, .ty "str"]) A (.bl false) := e_isi ty_int (by decide +kernel)
theorem e_isiBI {c : Bool} : Cv (rIsi K [.bl c, .ty "int"]) A (.bl true) := e_isi ty_bl (by decide +kernel)
theorem e_isiBB {c : Bool} : Cv (rIsi K [.bl c, .ty "bool"]) A (.bl true) := e_isi ty_bl (by decide +kernel)
theorem e_isiSI {z : Str} : Cv (rIsi K [.str z, .ty "int"]) A (.bl false) := e_isi ty_str (by decide +kernel)
theorem e_isiSB {z : Str} : Cv (rIsi K [.str z, .ty "bool"]) A (.bl false) := e_isi ty_str (by decide +kernel)
theorem e_isiSS {z : Str} : Cv (rIsi K [.str z, .ty "str"]) A (.bl true) := e_isi ty_str (by decide +kernel)
theorem e_isiNI : Cv (rIsi K [.non, .ty "int"]) A (.bl false) := e_isi ty_non (by decide +kernel)
theorem e_isiNB : Cv (rIsi K [.non, .ty "bool"]) A (.bl false) := e_isi ty_non (by decide +kernel)
theorem e_isiLL {p : Addr} {xs : List V} (h : Kn A p (.lst xs)) : Cv (rIsi K [.ref p, .ty "list"]) A (.bl true) := e_isi (ty_lst h) (by decide +kernel)
theorem e_isiLT {p : Addr} {xs : List V} (h : Kn A p (.lst xs)) : Cv (rIsi K [.ref p, .ty "tuple"]) A (.bl false) := e_isi (ty_lst h) (by decide +kernel)
theorem e_isiLI {p : Addr} {xs : List V} (h : Kn A p (.lst xs)) : Cv (rIsi K [.ref p, .ty "int"]) A (.bl false) := e_isi (ty_lst h) (by decide +kernel)
theorem e_isiTT {p : Addr} {xs : List V} (h : Kn A p (.tup xs)) : Cv (rIsi K [.ref p, .ty "tuple"]) A (.bl true) := e_isi (ty_tup h) (by decide +kernel)
theorem e_isiTL {p : Addr} {xs : List V} (h : Kn A p (.tup xs)) : Cv (rIsi K [.ref p, .ty "list"]) A (.bl false) := e_isi (ty_tup h) (by decide +kernel)
/-- int(flag) -/
def rInt1 : List V → Hp → VK → Prop := fun xs H Q => (∃ i, xs = [.int i] ∧ Q (.int i) H) ∨ ∃ k, xs = [.bl k] ∧ Q (.int (if k then 1 else 0)) H
theorem call_intA {X : Cx} : CallR X (.type "int") rInt1 := call_int1
def rCnt : V → List V → Hp → VK → Prop := fun x xs H Q => ∃ a b, x = .str a ∧ xs = [.str b] ∧ Q (.int (PySem.Txt.count a b)) H
theorem mt_countA {X : Cx} : MtR X "str.count" rCnt := mt_count
theorem e_intI {i : Int} : Cv (rInt1 [.int i]) A (.int i) := fun H _ _ q => .inl ⟨i, rfl, q H (Same.refl H)⟩
theorem e_intB {c : Bool} : Cv (rInt1 [.bl c]) A (.int (if c then 1 else 0)) := fun H _ _ q => .inr ⟨c, rfl, q H (Same.refl H)⟩
theorem e_count {a c : Str} : Cv (rCnt (.str a) [.str c]) A (.int (PySem.Txt.count a c)) := fun H _ _ q => ⟨a, c, rfl, rfl, q H (Same.refl H)⟩
theorem c_pt {σ : L2.St} {te : TE} (h : Cv (te σ) A (.bl b)) : Ct (fun H Q => te σ H fun x H' => ∃ k, x = .bl k ∧ Q k H') A b := fun H hA Q q => h H hA _ fun H1 e1 => ⟨b, rfl, q H1 e1⟩
end
end Lo

namespace Lo
open PySem L2
local macro_rules | `(tactic| walk_at "Lo.mem") => `(tactic| first | exact List.Mem.head _ | ((apply List.Mem.tail); (· walk_at "Lo.mem")))
local macro_rules | `(tactic| walk_at "Lo.side") => `(tactic| first | assumption | exact (Eq.refl true) | ((with_reducible apply cdiv_of); (· omega); (· omega)) | ((with_reducible apply cmul_l); (· omega); (· omega)) | ((with_reducible apply cmul_r); (· omega); (· omega)) | omega | decide)
local macro_rules | `(tactic| walk_at "Lo.kn") => `(tactic| first | assumption | exact kn_kn | exact knl_S ‹_› | exact knt_S ‹_› | exact kn_S ‹_› | ((with_reducible apply kn_L); (· walk_at "Lo.mem")) | exact knl_of kn_kn | exact knt_of kn_kn | exact knl_of (kn_S ‹_›) | exact knt_of (kn_S ‹_›) | ((with_reducible apply kn_up); (· walk_at "Lo.kn")) | ((with_reducible apply knl_up); (· walk_at "Lo.kn")) | ((with_reducible apply knt_up); (· walk_at "Lo.kn")) | ((with_reducible apply knl_of); (· walk_at "Lo.kn")) | ((with_reducible apply knt_of); (· walk_at "Lo.kn")))
local macro_rules | `(tactic| walk_at "Lo.op") => `(tactic| first
  | with_reducible exact r_I0
  | with_reducible exact r_U
  | with_reducible exact e_addI
  | with_reducible exact e_eqI
  | with_reducible exact e_neI
  | with_reducible exact e_eqS
  | with_reducible exact e_neS
  | with_reducible exact e_max
  | with_reducible exact e_min
  | with_reducible exact e_isiII
  | with_reducible exact e_isiIB
  | with_reducible exact e_isiSI
  | with_reducible exact e_isiSS
  | with_reducible exact e_isiSB
  | with_reducible exact e_intI
  | with_reducible exact e_intB
  | with_reducible exact e_count
  | with_reducible exact e_isN
  | ((with_reducible apply e_isiLL); (· walk_at "Lo.kn"))
  | ((with_reducible apply e_copyL); (· walk_at "Lo.kn"))
  | with_reducible exact e_ninSL
  | with_reducible exact e_notN
  | ((with_reducible apply r_I); (· walk_at "Lo.side"))
  | ((with_reducible apply e_mul); (· walk_at "Lo.side"))
  | ((with_reducible apply e_lenL); (· walk_at "Lo.kn"))
  | ((with_reducible apply e_lenK); (· walk_at "Lo.kn"))
  | ((with_reducible apply e_lenT); (· walk_at "Lo.kn"))
  | ((with_reducible apply e_lenS); (· walk_at "Lo.side"))
  | ((with_reducible apply e_addS); (· walk_at "Lo.side"))
  | ((with_reducible apply e_ixL); (· walk_at "Lo.kn"); (· walk_at "Lo.side"))
  | ((with_reducible apply e_ixT); (· walk_at "Lo.kn"); (· walk_at "Lo.side"))
  | ((with_reducible apply e_ixS); (· walk_at "Lo.side"); (· walk_at "Lo.side"))
  | ((with_reducible apply e_slS); (· walk_at "Lo.side"))
  | ((with_reducible apply e_slL); (· walk_at "Lo.kn"))
  | ((with_reducible apply e_cat); (· walk_at "Lo.kn"); (· walk_at "Lo.kn"); (· walk_at "Lo.side")))
local macro_rules | `(tactic| walk_at "Lo.call") => `(tactic| fail "no callee's rule")
local macro_rules | `(tactic| walk_at "Lo.ca") => `(tactic| first
  | with_reducible exact c_nil
  | ((with_reducible apply c_cons); (· walk_at "Lo.cv"); (· walk_at "Lo.ca")))
local macro_rules | `(tactic| walk_at "Lo.co") => `(tactic| first
  | with_reducible exact o_none
  | ((with_reducible apply o_some); (· walk_at "Lo.cv")))
local macro_rules | `(tactic| walk_at "Lo.cv") => `(tactic| first
  | with_reducible exact c_c
  | ((with_reducible apply c_var); (· exact rfl))
  | ((with_reducible apply c_op); (· walk_at "Lo.cv"); (· walk_at "Lo.cv"); (· walk_at "Lo.op"))
  | ((with_reducible apply c_opNv); (· walk_at "Lo.cn"); (· (intro p; walk_at "Lo.cv")); (· (intro p; walk_at "Lo.op")))
  | ((with_reducible apply c_opvN); (· walk_at "Lo.cv"); (· walk_at "Lo.cn"); (· (intro p; walk_at "Lo.op")))
  | ((with_reducible apply c_opNN); (· walk_at "Lo.cn"); (· (intro p; walk_at "Lo.cn")); (· (intro p q; walk_at "Lo.op")))
  | ((with_reducible apply c_un); (· walk_at "Lo.cv"); (· walk_at "Lo.op"))
  | ((with_reducible apply c_call); (· walk_at "Lo.ca"); (· walk_at "Lo.call"))
  | ((with_reducible apply c_callN); (· walk_at "Lo.cn"); (· (intro p; walk_at "Lo.call")))
  | ((with_reducible apply c_cb); (· walk_at "Lo.ca"); (· walk_at "Lo.op"))
  | ((with_reducible apply c_cbN); (· walk_at "Lo.cn"); (· (intro p; walk_at "Lo.op")))
  | ((with_reducible apply c_sl); (· walk_at "Lo.cv"); (· walk_at "Lo.co"); (· walk_at "Lo.co"); (· walk_at "Lo.op"))
  | ((with_reducible apply c_m1); (· walk_at "Lo.cv"); (· walk_at "Lo.cv"); (· walk_at "Lo.op"))
  | ((with_reducible apply c_m1N); (· walk_at "Lo.cv"); (· walk_at "Lo.cn"); (· (intro p; walk_at "Lo.op")))
  | ((with_reducible apply c_bits); (· walk_at "Lo.cv"))
  | ((with_reducible apply c_not); (· walk_at "Lo.cv"))
  | ((with_reducible apply c_and); (· walk_at "Lo.cv"); (· (intro hb; walk_at "Lo.cv")))
  | ((with_reducible apply c_or); (· walk_at "Lo.cv"); (· (intro hb; walk_at "Lo.cv"))))
local macro_rules | `(tactic| walk_at "Lo.cn") => `(tactic| first
  | ((with_reducible apply n_lcR); (· walk_at "Lo.ca"); (· walk_at "Lo.side"); (· walk_at "Lo.side"); (· (intro i hi; walk_at "Lo.cv")); (· (intro x; exact rfl)))
  | ((with_reducible apply n_lst); (· walk_at "Lo.ca"); (· (simp only [List.length_cons, List.length_nil]; walk_at "Lo.side")))
  | ((with_reducible apply n_tup); (· walk_at "Lo.ca"); (· (simp only [List.length_cons, List.length_nil]; walk_at "Lo.side")))
  | ((with_reducible apply n_call); (· walk_at "Lo.ca"); (· walk_at "Lo.call"))
  | ((with_reducible apply n_callN); (· walk_at "Lo.cn"); (· (intro p; walk_at "Lo.call")))
  | ((with_reducible apply n_sl); (· walk_at "Lo.cv"); (· walk_at "Lo.co"); (· walk_at "Lo.co"); (· walk_at "Lo.op"))
  | ((with_reducible apply n_cb); (· walk_at "Lo.ca"); (· walk_at "Lo.op"))
  | ((with_reducible apply n_op); (· walk_at "Lo.cv"); (· walk_at "Lo.cv"); (· walk_at "Lo.op"))
  | ((with_reducible apply n_opNv); (· walk_at "Lo.cn"); (· (intro p; walk_at "Lo.cv")); (· (intro p; walk_at "Lo.op")))
  | ((with_reducible apply n_opvN); (· walk_at "Lo.cv"); (· walk_at "Lo.cn"); (· (intro p; walk_at "Lo.op")))
  | ((with_reducible apply n_opNN); (· walk_at "Lo.cn"); (· (intro p; walk_at "Lo.cn")); (· (intro p q; walk_at "Lo.op"))))
local macro_rules | `(tactic| walk_at "Lo.ct") => `(tactic| first
  | ((with_reducible apply t_test); (· walk_at "Lo.cv"))
  | ((with_reducible apply t_B); (· walk_at "Lo.cv"))
  | ((with_reducible apply t_not); (· walk_at "Lo.ct"))
  | ((with_reducible apply t_and); (· walk_at "Lo.ct"); (· (intro hb; walk_at "Lo.ct")))
  | ((with_reducible apply t_or); (· walk_at "Lo.ct"); (· (intro hb; walk_at "Lo.ct")))
  | with_reducible exact t_yes)
local macro_rules | `(tactic| walk_at "Lo.q") => `(tactic| first
  | ((with_reducible apply q_asg); (· walk_at "Lo.cv"))
  | ((with_reducible apply q_asgN); (· walk_at "Lo.cn"))
  | ((with_reducible apply q_when); (· walk_at "Lo.ct"))
  | ((with_reducible apply q_if); (· walk_at "Lo.ct"))
  | ((with_reducible apply s_if); (· walk_at "Lo.ct")))
local macro_rules | `(tactic| walk_at "Lo.ext") => `(tactic| first | exact ext_at | ((with_reducible apply ext_kn); (· walk_at "Lo.ext")))
local macro_rules | `(tactic| walk_at "Lo.ret") => `(tactic| first
  | ((with_reducible apply s_retVx); (· walk_at "Lo.cv"); (· first | rfl | skip); (· walk_at "Lo.ext"); (· assumption))
  | ((with_reducible apply s_retNx); (· walk_at "Lo.cn"); (· first | rfl | skip); (· walk_at "Lo.ext"); (· assumption)))
local macro_rules | `(tactic| walk_at "Lo.up") => `(tactic| first | with_reducible exact Up1.head | ((with_reducible apply Up1.tail); (· walk_at "Lo.up")))
local macro_rules | `(tactic| walk_at "Lo.go") => `(tactic| ((try dsimp only); show Go _ _ _ _))
local macro_rules | `(tactic| walk_at "Lo.nf") => `(tactic| ((try dsimp only); refine nf ?_))
local macro_rules | `(tactic| walk_at "Lo.nw") => `(tactic| (try dsimp only))
def topS (i : Nat) : Stmt := PySem.Challenge.pw_lodge_k12_read_back.main.body.getD i (.Pass ⟨0, 0, 0, 0⟩)
abbrev s_NoBits_init : Stmt := inClass (topS 2) 0
theorem sc_NoBits_init : FnScope ["self", "at"] ["self", "at"] (defScope s_NoBits_init) := ⟨rfl, rfl, rfl, by decide +kernel, rfl, by decide +kernel, by decide +kernel⟩
abbrev s_written : Stmt := topS 4
theorem sc_written : FnScope ["numbers", "width", "found", "at", "number", "k"] ["numbers", "width"] (defScope s_written) := ⟨rfl, rfl, rfl, by decide +kernel, rfl, by decide +kernel, by decide +kernel⟩
abbrev s_read_bits : Stmt := topS 5
theorem sc_read_bits : FnScope ["bits", "width", "at", "sign", "found"] ["bits", "width"] (defScope s_read_bits) := ⟨rfl, rfl, rfl, by decide +kernel, rfl, by decide +kernel, by decide +kernel⟩
abbrev s_l_mix : Stmt := topS 7
theorem sc_l_mix : FnScope ["_law_cell_here", "_law_k", "_law_first"] ["_law_cell_here", "_law_k"] (defScope s_l_mix) := ⟨rfl, rfl, rfl, by decide +kernel, rfl, by decide +kernel, by decide +kernel⟩
abbrev s_l_raw : Stmt := topS 8
theorem sc_l_raw : FnScope ["_law_script", "_law_k"] ["_law_script", "_law_k"] (defScope s_l_raw) := ⟨rfl, rfl, rfl, by decide +kernel, rfl, by decide +kernel, by decide +kernel⟩
abbrev s_l_cell : Stmt := topS 9
theorem sc_l_cell : FnScope ["_law_script", "_law_k"] ["_law_script", "_law_k"] (defScope s_l_cell) := ⟨rfl, rfl, rfl, by decide +kernel, rfl, by decide +kernel, by decide +kernel⟩
abbrev s_l_great : Stmt := topS 10
theorem sc_l_great : FnScope ["_law_cell_here"] ["_law_cell_here"] (defScope s_l_great) := ⟨rfl, rfl, rfl, by decide +kernel, rfl, by decide +kernel, by decide +kernel⟩
abbrev s_l_cells : Stmt := topS 11
theorem sc_l_cells : FnScope ["_law_script", "_law_start", "_law_most", "_law_cells_here", "_law_many", "_law_k"] ["_law_script", "_law_start", "_law_most"] (defScope s_l_cells) := ⟨rfl, rfl, rfl, by decide +kernel, rfl, by decide +kernel, by decide +kernel⟩
abbrev s_l_same : Stmt := topS 12
theorem sc_l_same : FnScope ["_law_found", "_law_due", "_law_one"] ["_law_found", "_law_due"] (defScope s_l_same) := ⟨rfl, rfl, rfl, by decide +kernel, rfl, by decide +kernel, by decide +kernel⟩
abbrev s_l_row : Stmt := topS 13
theorem sc_l_row : FnScope ["_law_script", "_law_found", "_law_cell_here", "_law_many", "_law_rest", "_law_k"] ["_law_script"] (defScope s_l_row) := ⟨rfl, rfl, rfl, by decide +kernel, rfl, by decide +kernel, by decide +kernel⟩
abbrev s_l_numbers : Stmt := topS 14
theorem sc_l_numbers : FnScope ["_law_bits", "_law_width", "_law_found", "_law_at", "_law_number", "_law_sign"] ["_law_bits", "_law_width"] (defScope s_l_numbers) := ⟨rfl, rfl, rfl, by decide +kernel, rfl, by decide +kernel, by decide +kernel⟩
abbrev s_law : Stmt := topS 15
theorem sc_law : FnScope ["_law_script", "_law_bits", "_law_width", "_law_widths", "_law_due", "_law_turn", "_law_found"] ["_law_script"] (defScope s_law) := ⟨rfl, rfl, rfl, by decide +kernel, rfl, by decide +kernel, by decide +kernel⟩
structure Txt (K : PySem.W.Frag) (mg : Str → Option Value) where
  d_written : Dfn K "written" "written" s_written ["numbers", "width"]
  g_written : mg "written" = some (.ref d_written.f)
  d_read_bits : Dfn K "read_bits" "read_bits" s_read_bits ["bits", "width"]
  g_read_bits : mg "read_bits" = some (.ref d_read_bits.f)
  d_l_mix : Dfn K "_law_mix" "_law_mix" s_l_mix ["_law_cell_here", "_law_k"]
  g_l_mix : mg "_law_mix" = some (.ref d_l_mix.f)
  d_l_raw : Dfn K "_law_raw" "_law_raw" s_l_raw ["_law_script", "_law_k"]
  g_l_raw : mg "_law_raw" = some (.ref d_l_raw.f)
  d_l_cell : Dfn K "_law_cell" "_law_cell" s_l_cell ["_law_script", "_law_k"]
  g_l_cell : mg "_law_cell" = some (.ref d_l_cell.f)
  d_l_great : Dfn K "_law_great" "_law_great" s_l_great ["_law_cell_here"]
  g_l_great : mg "_law_great" = some (.ref d_l_great.f)
  d_l_cells : Dfn K "_law_cells" "_law_cells" s_l_cells ["_law_script", "_law_start", "_law_most"]
  g_l_cells : mg "_law_cells" = some (.ref d_l_cells.f)
  d_l_same : Dfn K "_law_same" "_law_same" s_l_same ["_law_found", "_law_due"]
  g_l_same : mg "_law_same" = some (.ref d_l_same.f)
  d_l_row : Dfn K "_law_row" "_law_row" s_l_row ["_law_script"]
  g_l_row : mg "_law_row" = some (.ref d_l_row.f)
  d_l_numbers : Dfn K "_law_numbers" "_law_numbers" s_l_numbers ["_law_bits", "_law_width"]
  g_l_numbers : mg "_law_numbers" = some (.ref d_l_numbers.f)
  d_law : Dfn K "law" "law" s_law ["_law_script"]
  g_law : mg "law" = some (.ref d_law.f)
  z_ValueError : mg "ValueError" = none
  z_bool : mg "bool" = none
  z_enumerate : mg "enumerate" = none
  z_int : mg "int" = none
  z_isinstance : mg "isinstance" = none
  z_len : mg "len" = none
  z_list : mg "list" = none
  z_max : mg "max" = none
  z_min : mg "min" = none
  z_range : mg "range" = none
/-! ### texts as lists of signs -/
def strL (l : List Nat) : Str := ⟨l.toArray⟩
theorem strL_tl (z : Str) : strL z.cps.toList = z := rfl
theorem strL_list (l : List Nat) : (strL l).cps.toList = l := by simp [strL]
theorem strL_len (l : List Nat) : (strL l).length = l.length := by simp [strL, Str.length]
theorem strL_app (l m : List Nat) : strL l ++ strL m = strL (l ++ m) := by
  show (⟨l.toArray ++ m.toArray⟩ : Str) = ⟨(l ++ m).toArray⟩
  simp
theorem strL_inj {l m : List Nat} (h : strL l = strL m) : l = m := by
  have e := congrArg (fun z : Str => z.cps.toList) h
  simpa [strL] using e
theorem strL_dec (l m : List Nat) : decide (strL l = strL m) = decide (l = m) := by
  by_cases h : l = m
  · rw [h]; simp
  · have h2 : ¬ strL l = strL m := fun e => h (strL_inj e)
    rw [decide_eq_false h, decide_eq_false h2]
theorem small_line {n : Nat} (h : n ≤ 1000000) : n ≤ sizeLine := Nat.le_trans h (by rw [sizeLine_eq]; decide)
theorem cutS_nat (l : List Nat) (i j : Nat) : cutS (strL l) (some (i : Int)) (some (j : Int)) = strL ((l.drop i).take (j - i)) := by
  unfold cutS
  rw [HT.sIx_nat, HT.sIx_nat, strL_len]
  show strL _ = strL _
  rw [strL_list]
  apply congrArg strL
  by_cases hi : i ≤ l.length
  · rw [Nat.min_eq_left hi]
    by_cases hj : j ≤ l.length
    · rw [Nat.min_eq_left hj]
    · rw [Nat.min_eq_right (by omega)]
      rw [List.take_of_length_le (by rw [List.length_drop]; exact Nat.le_refl _), List.take_of_length_le (by rw [List.length_drop]; omega)]
  · rw [List.drop_eq_nil_of_le (by omega), List.drop_eq_nil_of_le (by omega)]
    simp
theorem cutS_to (l : List Nat) (j : Nat) : cutS (strL l) none (some (j : Int)) = strL (l.take j) := by
  unfold cutS
  rw [HT.sIx_none, HT.sIx_nat, strL_len]
  show strL _ = strL _
  rw [strL_list, List.drop_zero, Nat.sub_zero]
  apply congrArg strL
  by_cases hj : j ≤ l.length
  · rw [Nat.min_eq_left hj]
  · rw [Nat.min_eq_right (by omega), List.take_of_length_le (Nat.le_refl _), List.take_of_length_le (by omega)]
theorem cutS_from (l : List Nat) (i : Nat) : cutS (strL l) (some (i : Int)) none = strL (l.drop i) := by
  unfold cutS
  rw [HT.sIx_none, HT.sIx_nat, strL_len]
  show strL _ = strL _
  rw [strL_list]
  apply congrArg strL
  rw [List.take_of_length_le (by rw [List.length_drop]; omega)]
  by_cases hj : i ≤ l.length
  · rw [Nat.min_eq_left hj]
  · rw [Nat.min_eq_right (by omega), List.drop_eq_nil_of_le (Nat.le_refl _), List.drop_eq_nil_of_le (by omega)]
/-! how often one sign stands in a text -/
theorem subAt_one (l : List Nat) (c i : Nat) : Builtin.Str.subAt (strL l) (strL [c]) i = decide (l[i]? = some c) := by
  unfold Builtin.Str.subAt
  show ((strL l).cps.extract i (i + (strL [c]).length) == (strL [c]).cps) = _
  rw [strL_len]
  show (l.toArray.extract i (i + 1) == [c].toArray) = _
  have e : l.toArray.extract i (i + 1) = ((l.drop i).take 1).toArray := by
    rw [List.extract_toArray]
    simp [List.extract]
  rw [e]
  cases h : l.drop i with
  | nil =>
    have hl : l.length ≤ i := List.drop_eq_nil_iff.mp h
    rw [List.getElem?_eq_none hl]
    rfl
  | cons x r =>
    have hx : l[i]? = some x := by
      have := congrArg List.head? h
      rw [List.head?_drop] at this
      exact this
    rw [hx]
    by_cases hc : x = c
    · subst hc; simp
    · simp [hc]
def occF (l : List Nat) (c : Nat) (s : Array Nat × Nat) (i : Nat) : Array Nat × Nat :=
  if (decide (s.1.size < l.length + 1) && decide (s.2 ≤ i) && decide (i + (strL [c]).length ≤ l.length) && Builtin.Str.subAt (strL l) (strL [c]) i) = true then (s.1.push i, i + (strL [c]).length) else (s.1, s.2)
theorem occF_count (l : List Nat) (c : Nat) : ∀ n, n ≤ l.length + 1 → ((List.range n).foldl (occF l c) (#[], 0)).1.size = (l.take n).count c ∧ ((List.range n).foldl (occF l c) (#[], 0)).2 ≤ n := by
  intro n hn
  induction n with
  | zero => simp
  | succ n ih =>
    obtain ⟨h1, h2⟩ := ih (by omega)
    rw [List.range_succ, List.foldl_append]
    generalize (List.range n).foldl (occF l c) (#[], 0) = st at h1 h2
    have hc1 : (l.take n).count c ≤ n := Nat.le_trans List.count_le_length (by rw [List.length_take]; omega)
    have e1 : (strL [c]).length = 1 := strL_len _
    rw [List.foldl_cons, List.foldl_nil, List.take_add_one, List.count_append]
    unfold occF
    rw [subAt_one, e1]
    by_cases hx : l[n]? = some c
    · have hlt : n < l.length := (List.getElem?_eq_some_iff.mp hx).1
      rw [if_pos (by simp [hx]; omega), hx]
      simp [h1]
    · rw [if_neg (by simp [hx])]
      have z : (l[n]?.toList).count c = 0 := by
        cases hy : l[n]? with
        | none => rfl
        | some y =>
          rw [hy] at hx
          have : y ≠ c := fun e => hx (by rw [e])
          simp [this]
      rw [z]
      exact ⟨by omega, by show st.2 ≤ n + 1; omega⟩
theorem occ_one (l : List Nat) (c : Nat) : (Builtin.Str.occurrences (strL l) (strL [c]) 0 l.length (l.length + 1)).length = l.count c := by
  have k := (occF_count l c (l.length + 1) (Nat.le_refl _)).1
  rw [List.take_of_length_le (by omega)] at k
  rw [← k]
  unfold Builtin.Str.occurrences
  simp only [Id.run, Std.Legacy.Range.forIn_eq_forIn_range', Std.Legacy.Range.size]
  rw [show l.length + 1 - 0 + 1 - 1 = l.length + 1 by omega, Nat.div_one, ← List.range_eq_range']
  have e : ∀ (i : Nat) (s : Array Nat × Nat), (if (decide (s.1.size < l.length + 1) && decide (s.2 ≤ i) && decide (i + (strL [c]).length ≤ l.length) && Builtin.Str.subAt (strL l) (strL [c]) i) = true then (pure (ForInStep.yield (s.1.push i, i + (strL [c]).length)) : Id (ForInStep (Array Nat × Nat))) else pure (ForInStep.yield (s.1, s.2))) = pure (ForInStep.yield (occF l c s i)) := by
    intro i s
    unfold occF
    split <;> rfl
  simp only [e, List.forIn_pure_yield_eq_foldl]
  rfl
theorem count_one (l : List Nat) (c : Nat) : PySem.Txt.count (strL l) (strL [c]) = (l.count c : Int) := by
  unfold PySem.Txt.count
  rw [strL_len, occ_one]

/-! enumerate over a text -/
section
open PySem.Spec PyProof.Rows
def Ies (z : Str) : It :=
  ⟨fun i _ => i < z.cps.size, fun i H v H' => ∃ T c, v = .ref T ∧ H T = none ∧ H' = upd H T (.tup [.int (i : Nat), .str ⟨#[c]⟩]) ∧ z.cps[i]? = some c, fun i _ => i = z.cps.size⟩
theorem draws_s {P : Program} {w : World} {A : Around} (hh : A.handled = none) (it : Addr) (z : Str) (t : Tok) (ty : String) (hty : ty = "str_ascii_iterator" ∨ ty = "str_iterator") :
    Draws P w A it [it] z.cps.size (fun i v => ∃ c u, z.cps[i]? = some c ∧ v = .str ⟨#[c]⟩ u) (fun i h => h.IsStrIter it ty z t i) := by
  rcases hty with e | e
  · rw [e]; exact Draws.strAscii hh it z t
  · rw [e]; exact Draws.strWide hh it z t
theorem turn_enumS {P : Program} {w : World} {K : PySem.W.Frag} {elts : List Expr} {kk : Nat} {tpos : Pos} (z : Str) (t : Tok) (e it : Addr) (ty : String) (hty : ty = "str_ascii_iterator" ∨ ty = "str_iterator") :
    Turn P w K (.Tuple elts kk tpos) (Ies z) [e, it] e (fun i h => (∃ old, IsEnum h e it ((i : Nat) : Int) old) ∧ h.IsStrIter it ty z t i ∧ e ≠ it) where
  mem := by simp
  obj := fun i h st b hb => by
    obtain ⟨⟨old, he⟩, ⟨o, ho, hc, hd⟩, _⟩ := st
    rcases (show b = e ∨ b = it by simpa using hb) with y | y <;> rw [y]
    · exact ⟨_, he, fun v q => nomatch q⟩
    · exact ⟨o, ho, fun v q => by rw [hd] at q; cases q⟩
  keep := fun i h h' st k => let ⟨⟨old, he⟩, ⟨o, ho, r⟩, hne⟩ := st; ⟨⟨old, k e (by simp) _ he⟩, ⟨o, k it (by simp) o ho, r⟩, hne⟩
  item := by
    intro X hP hw hK hc i pins s σ H E I hf st hg
    subst hP hw hK
    obtain ⟨⟨old, he⟩, hit, hne⟩ := st
    have le1 : e < s.heap.objs.size := Heap.lt_size he
    have le2 : it < s.heap.objs.size := by obtain ⟨_, q, _⟩ := id hit; exact Heap.lt_size q
    refine wpAny_pyNext_enum_itemD (draws_s (show X.A.in1.handled = none from I.ok.hd hc) it z t ty hty) he hit hg hne (by simp [hne]) fun x h' tk hP ho hit' hT hsz hk => ?_
    obtain ⟨c, u, hcx, rfl⟩ := hP
    refine ⟨_, rfl, wpAny_letOwnedTupleGo_enum (s := { s with heap := h', toks := tk + 1 }) ho fun g he' sb => ?_⟩
    have hT2 : g.get? s.heap.objs.size = some { cls := .type "tuple", data := .seq #[.int i tk, .str ⟨#[c]⟩ u] } := (sb.2 _ (Nat.ne_of_gt le1)).trans hT
    have new : ObjOk X.prog X.w (upd H s.heap.objs.size (.tup [.int (i : Nat), .str ⟨#[c]⟩])) g s.heap.objs.size (.tup [.int (i : Nat), .str ⟨#[c]⟩]) :=
      ⟨by show 2 ≤ sizeLine; decide, [.int i tk, .str ⟨#[c]⟩ u], .cons ⟨_, rfl⟩ (.cons ⟨_, rfl⟩ .nil), ⟨_, hT2, rfl, _, rfl⟩⟩
    have I1 : Inv X pins σ (upd H s.heap.objs.size (.tup [.int (i : Nat), .str ⟨#[c]⟩])) { s with heap := g, toks := tk + 1 } :=
      I.turnedNew (ch := [e, it]) (fun b ob hb q => (sb.2 b (fun y => hb (by simp [y]))).trans (hk b ob (fun y => hb (by simp [y])) (fun y => hb (by simp [y])) q)) hf (Nat.le_refl _) new
    obtain ⟨o, ho2, r⟩ := hit'
    refine ⟨.ref s.heap.objs.size, _, I1, rfl, ⟨_, c, rfl, I.hok.fresh (Nat.le_refl _), rfl, hcx⟩, ⟨⟨.str ⟨#[c]⟩ u, ?_⟩, ⟨o, (sb.2 it (Ne.symm hne)).trans ho2, r⟩, hne⟩, fun b hb => ?_⟩
    · rw [show ((i + 1 : Nat) : Int) = (i : Int) + 1 by omega]
      exact he'
    · have lb : b < s.heap.objs.size := by
        rcases (show b = e ∨ b = it by simpa using hb) with y | y <;> rw [y] <;> assumption
      rw [upd_ne (Nat.ne_of_lt lb)]
      exact (hf b hb).1
  done := by
    intro X hP hw hK hc i pins s σ H E I hf st hg
    subst hP hw hK
    obtain ⟨⟨old, he⟩, hit, hne⟩ := st
    obtain ⟨f0, f1, f2, f3, f4, f5⟩ := hf it (by simp)
    have hg2 : i = z.cps.size := hg
    subst hg2
    exact wpAny_pyNext_enum_endD (draws_s (show X.A.in1.handled = none from I.ok.hd hc) it z t ty hty) he hit fun h' eb => ⟨rfl, I.turned (t' := s.toks) (fun b o hb q => eb b o hb q) f0 f1 f3 f4 f5⟩
  self := fun A i s Q E st h => let ⟨⟨_, he⟩, _⟩ := st; wpAny_pyIter_enum he h
def iEnumS (ta : TA) : TI := fun σ H R => ta σ H fun vs H1 => ∃ z : Str, vs = [.str z] ∧ R (Ies z) H1
theorem pi_enumS {X : Cx} {e : Expr} {ta : TA} {p pos tpos : Pos} {elts : List Expr} {kk : Nat} (hg : Gl X "enumerate") (hm : X.mg "enumerate" = none) (ha : PA X [e] ta) (hs : starEach [e] X.env = [(false, eval e X.env)] := by rfl) :
    PI X (.Tuple elts kk tpos) (.Call (.Name "enumerate" p) [e] [] pos) (iEnumS ta) := by
  refine ⟨fun pins s σ H R I h => ?_⟩
  refine Call_ (ld_blt I hg hm boot_enumerate (PyProof.Rows.callWith_type1 (thn (ha.run pos pins s σ H _ I h) fun us s1 ⟨vs, H1, I1, r1, z, ex, q⟩ => ?_) hs rfl))
  subst ex
  cases r1 with
  | cons r rr =>
    cases rr
    obtain ⟨t, rfl⟩ := r
    refine call_enumerate_str fun h' he hit hsz hk => wpAny_pyIter_enum he ?_
    have hty : strIterType z = "str_ascii_iterator" ∨ strIterType z = "str_iterator" := by
      unfold strIterType
      split
      · exact .inl rfl
      · exact .inr rfl
    refine ⟨s1.heap.objs.size + 1, [s1.heap.objs.size + 1, s1.heap.objs.size], _, _, H1, rfl, I1.kept (t' := s1.toks) hk, turn_enumS z t (s1.heap.objs.size + 1) s1.heap.objs.size (strIterType z) hty, ⟨⟨.none, he⟩, hit, Nat.succ_ne_self _⟩, fun b hb => ?_, q⟩
    have le : s1.heap.objs.size ≤ b := by
      rcases (show b = s1.heap.objs.size + 1 ∨ b = s1.heap.objs.size by simpa using hb) with y | y <;> rw [y] <;> simp
    exact I1.fpOk le (I1.hok.fresh le)
theorem walk_enumS {z : Str} : Walk (Ies z) z.cps.size (fun _ => True) (YPair (fun i => some (.int (i : Nat))) (fun i => z.cps[i]?.map fun c => .str ⟨#[c]⟩)) := by
  refine ⟨fun _ _ hi _ => hi, fun _ _ => rfl, fun i H v H' _ _ y => ?_⟩
  obtain ⟨T, c, h1, h2, h3, h4⟩ := y
  exact ⟨T, .int (i : Nat), _, h1, h2, h3, rfl, by simp [h4]⟩
theorem j_enumS {σ : L2.St} {A : Asr} {ta : TA} {z : Str} (h : Ca (ta σ) A [.str z]) : Cj (iEnumS ta σ) A (Ies z) := fun H hA R k => h H hA _ fun H1 e1 => ⟨z, rfl, k H1 e1⟩
theorem q_forES {K' : PySem.W.Frag} {σ : L2.St} {A : Asr} {ta : TA} {j k : Nat} {tb s : TS} {D : Ends} {l : List Nat} (h : Ca (ta σ) A [.str (strL l)]) (P : Nat → L2.St → Asr → Prop) (h0 : P 0 σ A)
    (hs : ∀ (i : Nat) c σ' A', l[i]? = some c → P i σ' A' → Go tb { D with nx := Nf P (i + 1), ct := Nf P (i + 1), bk := s D } ((σ'.set j (some (.int (i : Int)))).set k (some (.str (strL [c])))) A') (hd : ∀ σ' A', P l.length σ' A' → Go s D σ' A') :
    Go (tSeq (tFor (iEnumS ta) (gTup K' 2 (gCons (gName j) (gCons (gName k) gNil))) tb) s) D σ A :=
  g_seq (s_forP (j_enumS h) (by have w := walk_enumS (z := strL l); rw [show (strL l).cps.size = l.length from strL_len l] at w; exact w) P h0 (fun _ _ _ _ _ _ _ => True.intro) (fun i x y σ' A' hi h1 h2 p => by
    cases h1
    have e : (strL l).cps[i]? = l[i]? := by simp [strL]
    rw [e] at h2
    obtain ⟨c, hc, rfl⟩ := Option.map_eq_some_iff.mp h2
    exact hs i c σ' A' hc p) hd)
end

/-! deep data: its shape, its equality -/
def Shp (k : Nat) (d : PyData) : Prop := d.canLay0 = true ∧ d.depth ≤ k
theorem shp_all {k : Nat} : ∀ {ds : List PyData}, (∀ d ∈ ds, Shp k d) → PyData.canLayAll0 ds = true ∧ PyData.depthAll ds ≤ k
  | [], _ => ⟨by simp only [PyData.canLayAll0], by simp only [PyData.depthAll]; omega⟩
  | d :: r, h => by
    have h1 := h d List.mem_cons_self
    have h2 := shp_all fun e he => h e (List.mem_cons_of_mem d he)
    constructor
    · simp only [PyData.canLayAll0, h1.1, h2.1, Bool.and_self]
    · have := h1.2
      have := h2.2
      simp only [PyData.depthAll]
      omega
theorem shp_list {k : Nat} {ds : List PyData} (h : ∀ d ∈ ds, Shp k d) : Shp (k + 1) (.list ds) := by
  have z := shp_all h
  exact ⟨by simp only [PyData.canLay0, z.1], by have := z.2; simp only [PyData.depth]; omega⟩
theorem shp_tup {k : Nat} {ds : List PyData} (h : ∀ d ∈ ds, Shp k d) : Shp (k + 1) (.tuple ds) := by
  have z := shp_all h
  exact ⟨by simp only [PyData.canLay0, z.1], by have := z.2; simp only [PyData.depth]; omega⟩
theorem shp_int {i : Int} : Shp 0 (.int i) := ⟨by simp only [PyData.canLay0], by simp only [PyData.depth]; omega⟩
theorem Shp.mono {k j : Nat} {d : PyData} (h : Shp k d) (l : k ≤ j) : Shp j d := ⟨h.1, Nat.le_trans h.2 l⟩
theorem Shp.shaped {k : Nat} {d : PyData} (h : Shp k d) (l : k ≤ 60) : SeqAt.shaped d = true := by
  have := h.2
  show (d.canLay0 && decide (d.depth ≤ 64)) = true
  rw [h.1, decide_eq_true (by omega)]
  rfl
def intsD (ns : List Int) : PyData := .list (ns.map PyData.int)
def tupD (ns : List Int) : PyData := .tuple (ns.map PyData.int)
theorem shp_ints {ns : List Int} : Shp 1 (intsD ns) := shp_list fun d hd => by
  obtain ⟨i, _, rfl⟩ := List.mem_map.mp hd
  exact shp_int
theorem shp_tupD {ns : List Int} : Shp 1 (tupD ns) := shp_tup fun d hd => by
  obtain ⟨i, _, rfl⟩ := List.mem_map.mp hd
  exact shp_int
section
variable {K : PySem.W.Frag} {A : Asr} {H : Hp} {x y : V} {d : PyData} {p : Addr} {ns : List Int}
theorem dpAll_ints : ∀ {ns : List Int}, DpAll K H (ns.map V.int) (ns.map PyData.int)
  | [] => .nil
  | i :: r => .cons (.int i) dpAll_ints
theorem knd_ints (h : KnL K A p (ns.map V.int)) : KnD K A (.ref p) (intsD ns) := fun H a => .lst (h H a) dpAll_ints
theorem knd_tupD (h : KnT K A p (ns.map V.int)) : KnD K A (.ref p) (tupD ns) := fun H a => .tup (h H a) dpAll_ints
theorem e_eqSame {k : Nat} (h1 : KnD K A x d) (h2 : KnD K A y d) (s : Shp k d) (l : k ≤ 60) : Cv (rEqA K x y) A (.bl true) := by
  have e := PySem.SeqAt.eqv_refl d s.1
  rw [← e]
  exact e_eqD h1 h2 (s.shaped l) (s.shaped l)
theorem e_neSame {k : Nat} (h1 : KnD K A x d) (h2 : KnD K A y d) (s : Shp k d) (l : k ≤ 60) : Cv (rNeA K x y) A (.bl false) := by
  have e := PySem.SeqAt.eqv_refl d s.1
  have z := e_neD h1 h2 (s.shaped l) (s.shaped l)
  rw [e] at z
  exact z
theorem e_eqInts {q : Addr} (h1 : KnL K A p (ns.map V.int)) (h2 : KnL K A q (ns.map V.int)) : Cv (rEqA K (.ref p) (.ref q)) A (.bl true) := e_eqSame (knd_ints h1) (knd_ints h2) shp_ints (by decide)
theorem e_neInts {q : Addr} (h1 : KnL K A p (ns.map V.int)) (h2 : KnL K A q (ns.map V.int)) : Cv (rNeA K (.ref p) (.ref q)) A (.bl false) := e_neSame (knd_ints h1) (knd_ints h2) shp_ints (by decide)
end
local macro_rules | `(tactic| walk_at "Lo.op") => `(tactic| first
  | ((with_reducible apply e_eqInts); (· walk_at "Lo.kn"); (· walk_at "Lo.kn"))
  | ((with_reducible apply e_neInts); (· walk_at "Lo.kn"); (· walk_at "Lo.kn")))

theorem cshl_1 {n : Int} (h : 0 ≤ n) (h2 : n ≤ 1000000) : CShl 1 n := ⟨h, by
  have e : (Builtin.Int.intBits 1 : Int) = 1 := by decide
  rw [e]
  omega⟩
theorem cpow_10 : CPow 10 39 := by unfold CPow; decide
theorem pow_10 : (0 : Int) < 10 ^ (39 : Int).toNat := by decide
theorem flat_take {α β : Type} {l : List α} {f : α → List β} {i : Nat} {x : α} (h : l[i]? = some x) : (l.take (i + 1)).flatMap f = (l.take i).flatMap f ++ f x := by
  rw [List.take_add_one, h, List.flatMap_append]
  simp
theorem range_take {β : Type} {n j : Nat} (f : Nat → β) (h : j < n) : ((List.range n).map f).take (j + 1) = ((List.range n).map f).take j ++ [f j] := by
  have e : ((List.range n).map f)[j]? = some (f j) := by rw [List.getElem?_map, List.getElem?_range h]; rfl
  rw [List.take_add_one, e]
  rfl
theorem sign01 (r : Int) : atI (("01" : Str).cps.toList) (r % 2) = some ((48 + r % 2).toNat) := by
  have h : r % 2 = 0 ∨ r % 2 = 1 := by omega
  rcases h with h | h <;> rw [h] <;> decide +kernel
theorem sgn (n : Nat) : (⟨#[n]⟩ : Str) = strL [n] := rfl
theorem div_div (c : Int) (j : Nat) : c / 2 ^ j / 2 = c / 2 ^ (j + 1) := by
  rw [Int.ediv_ediv_of_nonneg (by have := Int.pow_pos (n := 2) (m := j) (by omega); omega), Int.pow_succ]
theorem one_str : ("1" : Str) = strL [49] := by decide +kernel
theorem mem_cutV {xs : List V} {lo hi : Option Int} {x : V} (h : x ∈ cutV xs lo hi) : x ∈ xs := List.mem_of_mem_drop (List.mem_of_mem_take h)
theorem mem_ints {cs : List Int} {x : V} (h : x ∈ cs.map V.int) : ∃ c, x = .int c := by
  obtain ⟨c, _, rfl⟩ := List.mem_map.mp h
  exact ⟨c, rfl⟩
local macro_rules | `(tactic| walk_at "Lo.side") => `(tactic| first | exact cpow_10 | exact pow_10 | ((with_reducible apply cshl_1); (· omega); (· omega)))

def signs (c : Int) : List Nat := (List.range (c % 9).toNat).map fun (i : Nat) => (48 + c / 9 / 2 ^ i % 2).toNat
def rowL (cs : List Int) : List Nat := cs.flatMap signs
theorem signs_len (c : Int) : (signs c).length = (c % 9).toNat := by simp [signs]
theorem rowL_len (cs : List Int) : (rowL cs).length ≤ 9 * cs.length := by
  induction cs with
  | nil => simp [rowL]
  | cons c r ih =>
    have h := signs_len c
    have e : rowL (c :: r) = signs c ++ rowL r := by simp [rowL]
    rw [e, List.length_append, List.length_cons, h]
    omega
theorem signs_in {c : Int} {d : Nat} (h : d ∈ signs c) : d = 48 ∨ d = 49 := by
  obtain ⟨k, _, rfl⟩ := List.mem_map.mp h
  omega
theorem rowL_in {cs : List Int} {d : Nat} (h : d ∈ rowL cs) : d = 48 ∨ d = 49 := by
  obtain ⟨n, _, h2⟩ := List.mem_flatMap.mp h
  exact signs_in h2

/-! numbers as rows of bits -/
theorem join_none : ∀ (ys : List (List Nat)), TL.joinL [] ys = ys.flatten := by
  intro ys
  induction ys with
  | nil => rfl
  | cons y r ih =>
    cases r with
    | nil => simp [TL.joinL]
    | cons z s =>
      rw [List.flatten_cons, ← ih]
      simp [TL.joinL]
def sg (d : Nat) : V := .str (strL [d])
theorem join_sg (l : List Nat) : Txt.join "" (l.map fun d => strL [d]) = strL l := by
  have e : (l.map fun d => [d]).flatten = l := by
    induction l with
    | nil => rfl
    | cons a r ih => rw [List.map_cons, List.flatten_cons, ih]; rfl
  have h := SX.join_S [] (l.map fun d => [d])
  rw [List.map_map, join_none, e] at h
  exact h
theorem join_strs (ls : List (List Nat)) : Txt.join "" (ls.map strL) = strL ls.flatten := by
  have h := SX.join_S [] ls
  rw [join_none] at h
  exact h
theorem sum_sg (l : List Nat) : ((l.map fun d => strL [d]).map (·.length)).sum = l.length := by
  induction l with
  | nil => rfl
  | cons a r ih =>
    rw [List.map_cons, List.map_cons, List.sum_cons, ih, strL_len]
    simp only [List.length_cons, List.length_nil]
    omega
def bitsOf (n : Int) (w : Nat) : List Nat := (List.range w).map fun (k : Nat) => (48 + n / 2 ^ (w - 1 - k) % 2).toNat
def writtenL (ns : List Int) (w : Nat) : List Nat := ns.flatMap fun n => bitsOf n w
theorem bitsOf_len (n : Int) (w : Nat) : (bitsOf n w).length = w := by simp [bitsOf]
theorem writtenL_len (ns : List Int) (w : Nat) : (writtenL ns w).length = ns.length * w := by
  induction ns with
  | nil => simp [writtenL]
  | cons n r ih =>
    have e : writtenL (n :: r) w = bitsOf n w ++ writtenL r w := by simp [writtenL]
    rw [e, List.length_append, ih, bitsOf_len, List.length_cons, Nat.succ_mul]
    omega
theorem bit_in {n : Int} {k : Nat} : (48 + n / 2 ^ k % 2).toNat = 48 ∨ (48 + n / 2 ^ k % 2).toNat = 49 := by omega
theorem bitsOf_in {n : Int} {w d : Nat} (h : d ∈ bitsOf n w) : d = 48 ∨ d = 49 := by
  obtain ⟨k, _, rfl⟩ := List.mem_map.mp h
  exact bit_in
theorem writtenL_in {ns : List Int} {w d : Nat} (h : d ∈ writtenL ns w) : d = 48 ∨ d = 49 := by
  obtain ⟨n, _, h2⟩ := List.mem_flatMap.mp h
  exact bitsOf_in h2
def one (d : Nat) : Int := if d = 49 then 1 else 0
def valB (l : List Nat) : Int := l.foldl (fun a d => 2 * a + one d) 0
theorem valB_snoc (l : List Nat) (d : Nat) : valB (l ++ [d]) = 2 * valB l + one d := by
  unfold valB
  rw [List.foldl_append]
  rfl
def chunk (bs : List Nat) (w j : Nat) : List Nat := (bs.drop (j * w)).take w
def fndF (bs : List Nat) (w i : Nat) : List Int := (List.range (i / w)).map fun j => valB (chunk bs w j)
def fndV (bs : List Nat) (w i : Nat) : Int := valB ((bs.drop (i / w * w)).take (i % w))
def fnd (bs : List Nat) (w i : Nat) : List Int := fndF bs w i ++ if i % w = 0 then [] else [fndV bs w i]
theorem fnd_0 {bs : List Nat} {w i : Nat} (h : i % w = 0) : fnd bs w i ++ [0] = fndF bs w i ++ [fndV bs w i] := by
  unfold fnd fndV
  rw [if_pos h, h]
  simp [valB]
theorem fnd_1 {bs : List Nat} {w i : Nat} (h : ¬ i % w = 0) : fnd bs w i = fndF bs w i ++ [fndV bs w i] := by
  unfold fnd
  rw [if_neg h]
theorem fnd_step {bs : List Nat} {w i d : Nat} (hw : 0 < w) (h : bs[i]? = some d) : fnd bs w (i + 1) = fndF bs w i ++ [2 * fndV bs w i + one d] := by
  have hi := Nat.div_add_mod i w
  have hr := Nat.mod_lt i hw
  have e1 : (bs.drop (i / w * w))[i % w]? = some d := by
    rw [List.getElem?_drop, ← h]
    congr 1
    rw [Nat.mul_comm]
    exact hi
  have e2 : (bs.drop (i / w * w)).take (i % w + 1) = (bs.drop (i / w * w)).take (i % w) ++ [d] := by
    rw [List.take_add_one, e1]
    rfl
  have e3 : 2 * fndV bs w i + one d = valB ((bs.drop (i / w * w)).take (i % w + 1)) := by
    rw [e2, valB_snoc]
    rfl
  rw [e3]
  by_cases hc : i % w + 1 = w
  · have d1 : (i + 1) / w = i / w + 1 := by
      rw [← hi]
      have : w * (i / w) + i % w + 1 = w * (i / w + 1) := by rw [Nat.mul_add]; omega
      rw [this, Nat.mul_div_cancel_left _ hw]
      rw [hi]
    have m1 : (i + 1) % w = 0 := by
      have : i + 1 = w * (i / w + 1) := by rw [Nat.mul_add]; omega
      rw [this, Nat.mul_mod_right]
    unfold fnd
    rw [if_pos m1]
    unfold fndF
    rw [d1, List.range_succ, List.map_append, List.append_nil, hc]
    rfl
  · have d1 : (i + 1) / w = i / w := by
      have : i + 1 = w * (i / w) + (i % w + 1) := by omega
      rw [this, Nat.mul_add_div hw, Nat.div_eq_of_lt (by omega : i % w + 1 < w)]
      rfl
    have m1 : (i + 1) % w = i % w + 1 := by
      have : i + 1 = w * (i / w) + (i % w + 1) := by omega
      rw [this, Nat.mul_add_mod, Nat.mod_eq_of_lt (by omega : i % w + 1 < w)]
    unfold fnd
    rw [if_neg (by omega : ¬ (i + 1) % w = 0)]
    unfold fndF fndV
    rw [d1, m1]
theorem div_pow {n : Int} {k : Nat} : n / 2 ^ (k + 1) = n / 2 ^ k / 2 := by
  rw [Int.pow_succ, Int.ediv_ediv_of_nonneg (by have := Int.pow_pos (n := 2) (m := k) (by omega); omega)]
theorem div_pow2 {n : Int} {k : Nat} : n / 2 ^ (k + 1) = n / 2 / 2 ^ k := by
  rw [Int.pow_succ, Int.mul_comm, ← Int.ediv_ediv_of_nonneg (by decide)]
theorem valB_bits (n : Int) (w : Nat) (h : 0 ≤ n) (h2 : n < 2 ^ w) : valB (bitsOf n w) = n := by
  have key : ∀ k, k ≤ w → valB ((bitsOf n w).take k) = n / 2 ^ (w - k) := by
    intro k hk
    induction k with
    | zero =>
      rw [Nat.sub_zero, Int.ediv_eq_zero_of_lt h h2]
      rfl
    | succ k ih =>
      unfold bitsOf
      rw [range_take _ (by omega)]
      have e := ih (by omega)
      unfold bitsOf at e
      rw [valB_snoc, e]
      have e1 : w - k = (w - 1 - k) + 1 := by omega
      have e2 : w - (k + 1) = w - 1 - k := by omega
      rw [e1, div_pow, e2]
      have hb : one (48 + n / 2 ^ (w - 1 - k) % 2).toNat = n / 2 ^ (w - 1 - k) % 2 := by
        unfold one
        split <;> omega
      rw [hb]
      omega
  have z := key w (Nat.le_refl _)
  rw [List.take_of_length_le (by rw [bitsOf_len]; exact Nat.le_refl _), Nat.sub_self] at z
  rw [z]
  simp
theorem chunk_flat {w : Nat} : ∀ {ns : List Int} {j : Nat} {n : Int}, ns[j]? = some n → chunk (writtenL ns w) w j = bitsOf n w
  | m :: r, 0, n, h => by
    have h : m = n := by simpa using h
    subst h
    have e : writtenL (m :: r) w = bitsOf m w ++ writtenL r w := by simp [writtenL]
    unfold chunk
    rw [e, Nat.zero_mul, List.drop_zero, List.take_append_of_le_length (by rw [bitsOf_len]; exact Nat.le_refl _), List.take_of_length_le (by rw [bitsOf_len]; exact Nat.le_refl _)]
  | m :: r, j + 1, n, h => by
    have h : r[j]? = some n := by simpa using h
    have e : writtenL (m :: r) w = bitsOf m w ++ writtenL r w := by simp [writtenL]
    rw [← chunk_flat h]
    unfold chunk
    rw [e, List.drop_append, bitsOf_len, List.drop_eq_nil_of_le (by rw [bitsOf_len, Nat.succ_mul]; omega), List.nil_append]
    congr 2
    rw [Nat.succ_mul]
    omega
theorem read_back (ns : List Int) (w : Nat) (hw : 0 < w) (h : ∀ n ∈ ns, 0 ≤ n ∧ n < 2 ^ w) : fnd (writtenL ns w) w (writtenL ns w).length = ns := by
  unfold fnd fndF
  rw [writtenL_len, Nat.mul_mod_left, if_pos rfl, List.append_nil, Nat.mul_div_cancel _ hw]
  apply List.ext_getElem
  · simp
  · intro j h1 h2
    rw [List.getElem_map, List.getElem_range, chunk_flat (n := ns[j]) (by simp [h2])]
    have z := h ns[j] (List.getElem_mem h2)
    exact valB_bits _ _ z.1 z.2
theorem flat_chunks (bs : List Nat) (w : Nat) (m : Nat) : ((List.range m).map fun j => chunk bs w j).flatten = bs.take (m * w) := by
  induction m with
  | zero => simp
  | succ m ih =>
    rw [List.range_succ, List.map_append, List.flatten_append, ih, Nat.succ_mul, List.take_add]
    simp [chunk]
theorem bits_val : ∀ (w : Nat) (c : List Nat), c.length = w → (∀ d ∈ c, d = 48 ∨ d = 49) → 0 ≤ valB c ∧ valB c < 2 ^ w ∧ bitsOf (valB c) w = c := by
  intro w
  induction w with
  | zero =>
    intro c hc _
    rw [List.length_eq_zero_iff.mp hc]
    exact ⟨by decide, by decide, rfl⟩
  | succ w ih =>
    intro c hc hd
    have hne : c ≠ [] := fun e => by rw [e] at hc; cases hc
    obtain ⟨l, d, rfl⟩ : ∃ l d, c = l ++ [d] := ⟨c.dropLast, c.getLast hne, (List.dropLast_concat_getLast hne).symm⟩
    have hl : l.length = w := by
      rw [List.length_append] at hc
      simp only [List.length_cons, List.length_nil] at hc
      omega
    obtain ⟨h1, h2, h3⟩ := ih l hl fun e he => hd e (List.mem_append_left _ he)
    have hd1 := hd d (List.mem_append_right _ (List.mem_singleton.mpr rfl))
    have ho : one d = 0 ∧ d = 48 ∨ one d = 1 ∧ d = 49 := by
      rcases hd1 with e | e <;> subst e
      · exact .inl ⟨rfl, rfl⟩
      · exact .inr ⟨rfl, rfl⟩
    rw [valB_snoc]
    have hp : (2 : Int) ^ (w + 1) = 2 * 2 ^ w := by rw [Int.pow_succ, Int.mul_comm]
    refine ⟨by omega, by omega, ?_⟩
    unfold bitsOf
    rw [List.range_succ, List.map_append]
    congr 1
    · rw [← h3]
      conv => rhs; unfold bitsOf
      apply List.map_congr_left
      intro k hk
      have hk := List.mem_range.mp hk
      have e1 : w + 1 - 1 - k = (w - 1 - k) + 1 := by omega
      rw [e1, div_pow2, h3, show (2 * valB l + one d) / 2 = valB l by omega]
    · simp only [List.map_cons, List.map_nil]
      rw [show w + 1 - 1 - w = 0 by omega]
      simp only [Int.pow_zero, Int.ediv_one]
      congr 1
      omega
theorem written_back (bs : List Nat) (w : Nat) (hw : 0 < w) (hm : bs.length % w = 0) (hd : ∀ d ∈ bs, d = 48 ∨ d = 49) : writtenL (fnd bs w bs.length) w = bs := by
  unfold fnd fndF writtenL
  rw [if_pos hm, List.append_nil, List.flatMap_def, List.map_map]
  have hq := Nat.div_add_mod bs.length w
  rw [hm, Nat.add_zero, Nat.mul_comm] at hq
  have e : (List.range (bs.length / w)).map ((fun n => bitsOf n w) ∘ fun j => valB (chunk bs w j)) = (List.range (bs.length / w)).map fun j => chunk bs w j := by
    apply List.map_congr_left
    intro j hj
    have hj := List.mem_range.mp hj
    have h1 : (j + 1) * w ≤ bs.length / w * w := Nat.mul_le_mul_right w hj
    rw [Nat.succ_mul] at h1
    refine (bits_val w (chunk bs w j) ?_ ?_).2.2
    · unfold chunk
      rw [List.length_take, List.length_drop]
      omega
    · intro d h
      exact hd d (List.mem_of_mem_drop (List.mem_of_mem_take h))
  rw [e, flat_chunks, hq, List.take_length]
theorem fnd_len (bs : List Nat) (w i : Nat) : (fnd bs w i).length ≤ i + 1 := by
  have := Nat.div_le_self i w
  unfold fnd fndF
  rw [List.length_append, List.length_map, List.length_range]
  split <;> simp only [List.length_cons, List.length_nil] <;> omega
theorem shl_ok {n : Nat} (h : n ≤ 1000000) : CShl 1 (n : Int) := cshl_1 (by omega) (by omega)
theorem ixN_last {n : Nat} : ixN (n + 1) (-1) = some n := by
  unfold ixN
  rw [if_neg (by omega), if_pos (by omega)]
  congr 1
  omega
theorem atI_last {α : Type} (l : List α) (x : α) : atI (l ++ [x]) (-1) = some x := by
  unfold atI
  rw [List.length_append]
  show (ixN (l.length + 1) (-1)).bind _ = _
  rw [ixN_last]
  simp
theorem in01 {c : Nat} (h : c = 48 ∨ c = 49) : decide (c ∈ ("01" : Str).cps.toList) = true := by
  rcases h with e | e <;> rw [e] <;> decide +kernel
theorem one_dec (d : Nat) : (if decide (strL [d] = "1") = true then (1 : Int) else 0) = one d := by
  rw [one_str, strL_dec]
  unfold one
  by_cases h : d = 49
  · rw [h]; simp
  · simp [h]
def sp_written : Sp := fun vs H Q E => ∃ (a : Addr) (ns : List Int) (w : Nat), vs = [.ref a, .int (w : Int)] ∧ (H a = some (.lst (ns.map V.int))) ∧ ((ns.length ≤ 1000 ∧ w ≤ 1000) ∧ ∀ n ∈ ns, 0 ≤ n ∧ n < 2 ^ w) ∧ RetV (.str (strL (writtenL ns w))) H Q
theorem u_written {A : Asr} {E : XK} {a : Addr} {ns : List Int} {w : Nat}  (h0 : Kn A a (.lst (ns.map V.int))) (g0 : (ns.length ≤ 1000 ∧ w ≤ 1000) ∧ ∀ n ∈ ns, 0 ≤ n ∧ n < 2 ^ w) : Cv (fun H Q => sp_written [.ref a, .int (w : Int)] H Q E) A (.str (strL (writtenL ns w))) := fun H hA Q q => ⟨a, ns, w, rfl, h0 H hA, g0, q⟩
local macro_rules | `(tactic| walk_at "Lo.call") => `(tactic| ((with_reducible apply u_written); (· walk_at "Lo.kn"); (· walk_at "Lo.side")))
theorem ok_written {P : Program} {w : World} {K : PySem.W.Frag} {mg : Str → Option Value} {base : Heap} (T : Txt K mg) : FnOk P w K mg base (L2.CX P w) 3 T.d_written.f T.d_written.fd ["numbers", "width"] sp_written := by
  refine T.d_written.F.ok sc_written (fun vs H Q E h => ?_) (fun cdv A outer s H vs Q E hr h => ?_)
  · obtain ⟨a, ns, w, rfl, _⟩ := h
    rfl
  · obtain ⟨a, ns, w, rfl, h0, g0, q⟩ := h
    have hu := hu_of hr
    refine ⟨_, (pss_cons (ps_set (i := 2) sc_written.nd rfl (Or.inl rfl) (pe_lst pa_nil))
  (pss_cons (ps_for (passes_of rfl) rfl (pi_enum (by rfl) T.z_enumerate (pa_cons (pv 0) pa_nil)) (pg_tup rfl (pgs_cons (pg_name (i := 3) sc_written.nd rfl (Or.inl rfl)) (pgs_cons (pg_name (i := 4) sc_written.nd rfl (Or.inl rfl)) pgs_nil)))
  (pss_cons (ps_if (PW.pt (pw_or (pt_cmpR op_lt (pv 4) pe_int (nomark _)) (pw_or1 (pt_cmpR op_ge (pv 4) (pe_op op_shlW pe_int (pv 1)) (nomark _))))) (pss_one ps_dead) pss_nil)
  (pss_one (ps_for (passes_of rfl) rfl (pi_range1 (by rfl) T.z_range (pa_cons (pv 1) pa_nil)) (pg_name (i := 5) sc_written.nd rfl (Or.inl rfl))
  (pss_one (ps_expr (pe_bm PySem.F.plainAttrs_list PySem.F.slot_list_append PySem.F.type_list_append mt_append (pv 2) (pa_cons (pe_ix (r := rIxA K) (ix_A hu) pe_str (pe_op op_and (pe_op op_shr (pv 4) (pe_op op_sub (pe_op op_sub (pv 1) pe_int) (pv 5))) pe_int) (fun _ _ => rfl)) pa_nil))))))))
  (pss_one (ps_ret (pe_joinA pe_str (pv 2)))))),
      body_go (σ' := [some (.ref a), some (.int (w : Int)), none, none, none, none]) rfl ?_⟩
    try dsimp only [cxOf]
    obtain ⟨⟨g1, g2⟩, g3⟩ := g0
    have hsz : ∀ i, (writtenL (ns.take i) w).length ≤ 1000 * w := fun i => by
      rw [writtenL_len]
      exact Nat.mul_le_mul_right w (by rw [List.length_take]; omega)
    refine q_own (o := .lst []) (by walk_at "Lo.cn") fun p => ?_
    refine q_forE (a := a) (xs := ns.map V.int) (by walk_at "Lo.ca") (fun i σ A' => A' = at_ H H H [(p, .lst ((writtenL (ns.take i) w).map sg))] ∧ ∃ x y z, σ = [some (.ref a), some (.int (w : Int)), some (.ref p), x, y, z]) ⟨rfl, _, _, _, rfl⟩ ?_ ?_ ?_
    · rintro i σ' A' ⟨rfl, _⟩
      walk_at "Lo.kn"
    · rintro i x σ' A' hx ⟨rfl, x1, x2, x3, rfl⟩
      rw [List.getElem?_map] at hx
      obtain ⟨n, hn, rfl⟩ := Option.map_eq_some_iff.mp hx
      have hn2 := g3 n (List.mem_of_getElem? hn)
      have hw0 := hsz i
      walk_at "Lo.q"
      · intro hb
        refine go_dead ?_
        simp at hb
        omega
      · intro _
        refine s_forR (n := (w : Int)) (by walk_at "Lo.ca") (by omega) (by omega) (fun k σ A' => A' = at_ H H H [(p, .lst ((writtenL (ns.take i) w ++ (bitsOf n w).take k).map sg))] ∧ ∃ z, σ = [some (.ref a), some (.int (w : Int)), some (.ref p), some (.int (i : Int)), some (.int n), z]) ⟨by simp, _, rfl⟩ ?_ ?_
        · rintro k σ' A' hk ⟨rfl, z, rfl⟩
          have e1 : ((w : Int) - 1 - (k : Int)).toNat = w - 1 - k := by omega
          have ha : atI ("01" : Str).cps.toList (Builtin.bitAnd (n / 2 ^ ((w : Int) - 1 - (k : Int)).toNat) 1) = some (48 + n / 2 ^ (w - 1 - k) % 2).toNat := by
            rw [e1, PyProof.Rows.bitAnd_m1]
            exact sign01 _
          have h01 : ("01" : Str).length ≤ sizeLine := by decide +kernel
          have hs := range_take (fun (k : Nat) => (48 + n / 2 ^ (w - 1 - k) % 2).toNat) (show k < w by omega)
          refine s_app (v := sg (48 + n / 2 ^ (w - 1 - k) % 2).toNat) (c_var rfl) (cv_is (v := .str ⟨#[(48 + n / 2 ^ (w - 1 - k) % 2).toNat]⟩) (by walk_at "Lo.cv") rfl) Up1.head ?_ ?_
          · rw [List.length_map, List.length_append, List.length_take, bitsOf_len]
            have := sizeLine_eq
            omega
          · walk_at "Lo.nf"
            refine ⟨?_, _, rfl⟩
            unfold bitsOf
            rw [hs, ← List.append_assoc, List.map_append (l₂ := [_])]
            rfl
        · rintro σ' A' ⟨rfl, z, rfl⟩
          walk_at "Lo.nf"
          refine ⟨?_, _, _, _, rfl⟩
          rw [Int.toNat_natCast, show List.take w (bitsOf n w) = bitsOf n w from List.take_of_length_le (by rw [bitsOf_len]; exact Nat.le_refl _)]
          unfold writtenL
          rw [flat_take hn]
    · rintro σ' A' ⟨rfl, x1, x2, x3, rfl⟩
      rw [List.length_map, List.take_length]
      have hw0 := hsz ns.length
      rw [List.take_length] at hw0
      refine s_retV (w := .str (Txt.join "" ((writtenL ns w).map fun d => strL [d]))) ?_ (by rw [join_sg]) q
      with_reducible apply c_m1
      · walk_at "Lo.cv"
      · walk_at "Lo.cv"
      · refine e_join (knl_of (kn_L ?_)) ?_
        · rw [List.map_map]
          exact .head _
        · rw [sum_sg]
          have : ("" : Str).length = 0 := rfl
          rw [this]
          omega
def sp_read_bits : Sp := fun vs H Q E => ∃ (bs : List Nat) (w : Nat), vs = [.str (strL bs), .int (w : Int)] ∧ ((bs.length ≤ 1000000 ∧ 0 < w ∧ w ≤ 1000) ∧ bs.length % w = 0 ∧ ∀ d ∈ bs, d = 48 ∨ d = 49) ∧ RetN (.lst ((fnd bs w bs.length).map V.int)) H Q
theorem u_read_bits {A : Asr} {E : XK} {bs : List Nat} {w : Nat}  (g0 : (bs.length ≤ 1000000 ∧ 0 < w ∧ w ≤ 1000) ∧ bs.length % w = 0 ∧ ∀ d ∈ bs, d = 48 ∨ d = 49) : Cn (fun H Q => sp_read_bits [.str (strL bs), .int (w : Int)] H Q E) A (.lst ((fnd bs w bs.length).map V.int)) := fun H hA Q q => ⟨bs, w, rfl, g0, q⟩
local macro_rules | `(tactic| walk_at "Lo.call") => `(tactic| ((with_reducible apply u_read_bits); (· walk_at "Lo.side")))
theorem ok_read_bits {P : Program} {w : World} {K : PySem.W.Frag} {mg : Str → Option Value} {base : Heap} (T : Txt K mg) : FnOk P w K mg base (L2.CX P w) 3 T.d_read_bits.f T.d_read_bits.fd ["bits", "width"] sp_read_bits := by
  refine T.d_read_bits.F.ok sc_read_bits (fun vs H Q E h => ?_) (fun cdv A outer s H vs Q E hr h => ?_)
  · obtain ⟨bs, w, rfl, _⟩ := h
    rfl
  · obtain ⟨bs, w, rfl, g0, q⟩ := h
    have hu := hu_of hr
    refine ⟨_, (pss_cons (ps_for (passes_of rfl) rfl (pi_enumS (by rfl) T.z_enumerate (pa_cons (pv 0) pa_nil)) (pg_tup rfl (pgs_cons (pg_name (i := 2) sc_read_bits.nd rfl (Or.inl rfl)) (pgs_cons (pg_name (i := 3) sc_read_bits.nd rfl (Or.inl rfl)) pgs_nil)))
  (pss_one (ps_if (pt_cmpR (r := rNinA K) (op_notinA hu) (pv 3) pe_str (by rfl)) (pss_one ps_dead) pss_nil)))
  (pss_cons (ps_if (pt_cmpR (r := rNeA K) (op_neA hr.units) (pe_op op_mod (pe_callB (r := rLenA K) call_lenA (by rfl) T.z_len (by decide +kernel) (pa_cons (pv 0) pa_nil)) (pv 1)) pe_int (nomark _)) (pss_one ps_dead) pss_nil)
  (pss_cons (ps_set (i := 4) sc_read_bits.nd rfl (Or.inl rfl) (pe_lst pa_nil))
  (pss_cons (ps_for (passes_of rfl) rfl (pi_enumS (by rfl) T.z_enumerate (pa_cons (pv 0) pa_nil)) (pg_tup rfl (pgs_cons (pg_name (i := 2) sc_read_bits.nd rfl (Or.inl rfl)) (pgs_cons (pg_name (i := 3) sc_read_bits.nd rfl (Or.inl rfl)) pgs_nil)))
  (pss_cons (ps_if (pt_cmpR (r := rEqA K) (op_eqA hr.units) (pe_op op_mod (pv 2) (pv 1)) pe_int (nomark _)) (pss_one (ps_expr (pe_bm PySem.F.plainAttrs_list PySem.F.slot_list_append PySem.F.type_list_append mt_append (pv 4) (pa_cons pe_int pa_nil)))) pss_nil)
  (pss_one (ps_asg (pe_op (r := rAddA K) op_addA (pe_op op_mulA pe_int (pe_ix (r := rIxA K) (ix_A hu) (pv 4) (pe_un un_neg pe_int) (fun _ _ => rfl))) (pe_callTy (r := rInt1) call_intA (by rfl) T.z_int (by decide +kernel) (pa_cons (pe_cmpR (r := rEqA K) (op_eqA hr.units) (pv 3) pe_str (nomark _)) pa_nil))) (pg_sub (pv 4) (pe_un un_neg pe_int) (set_A hu))))))
  (pss_one (ps_ret (pv 4))))))),
      body_go (σ' := [some (.str (strL bs)), some (.int (w : Int)), none, none, none]) rfl ?_⟩
    try dsimp only [cxOf]
    obtain ⟨⟨g1, g2, g3⟩, g4, g5⟩ := g0
    have hz : (strL bs).length ≤ sizeLine := by rw [strL_len]; exact small_line g1
    refine q_forES (l := bs) (by walk_at "Lo.ca") (fun i σ A' => A' = at_ H H H [] ∧ ∃ x y, σ = [some (.str (strL bs)), some (.int (w : Int)), x, y, none]) ⟨rfl, _, _, rfl⟩ ?_ ?_
    · rintro i c σ' A' hc ⟨rfl, x1, x2, rfl⟩
      have h1 := in01 (g5 c (List.mem_of_getElem? hc))
      refine s_if (b := !decide (c ∈ ("01" : Str).cps.toList)) (t_test (c_op (c_var rfl) c_c e_ninS)) ?_ ?_
      · intro hb
        rw [h1] at hb
        cases hb
      · intro _
        refine s_next ?_
        walk_at "Lo.nf"
        exact ⟨rfl, _, _, rfl⟩
    · rintro σ' A' ⟨rfl, x1, x2, rfl⟩
      walk_at "Lo.q"
      · intro hb
        refine go_dead ?_
        rw [strL_len] at hb
        have e : ((bs.length : Nat) : Int) % (w : Int) = 0 := by omega
        simp [e] at hb
      intro _
      refine q_own (o := .lst []) (by walk_at "Lo.cn") fun p => ?_
      refine q_forES (l := bs) (by walk_at "Lo.ca") (fun i σ A' => A' = at_ H H H [(p, .lst ((fnd bs w i).map V.int))] ∧ ∃ x y, σ = [some (.str (strL bs)), some (.int (w : Int)), x, y, some (.ref p)]) ⟨by simp [fnd, fndF], _, _, rfl⟩ ?_ ?_
      · rintro i c σ' A' hc ⟨rfl, x1, x2, rfl⟩
        have hi : i < bs.length := by
          by_cases h : i < bs.length
          · exact h
          · rw [List.getElem?_eq_none (by omega)] at hc
            cases hc
        have hl := fnd_len bs w i
        have hone := one_dec c
        have hstep := fnd_step g2 hc
        have hat := atI_last ((fndF bs w i).map V.int) (V.int (fndV bs w i))
        by_cases hm : i % w = 0
        · have hm2 : decide ((i : Int) % (w : Int) = 0) = true := decide_eq_true (by omega)
          refine q_if (b := decide ((i : Int) % (w : Int) = 0)) (by walk_at "Lo.ct") ?_ (fun hb => by rw [hm2] at hb; cases hb)
          intro _
          refine s_app (v := .int 0) (c_var rfl) c_c Up1.head ?_ ?_
          · rw [List.length_map]
            have := sizeLine_eq
            omega
          · walk_at "Lo.go"
            have e : (fnd bs w i).map V.int ++ [V.int 0] = (fndF bs w i).map V.int ++ [V.int (fndV bs w i)] := by
              have := congrArg (List.map V.int) (fnd_0 (bs := bs) hm)
              simpa using this
            rw [e]
            refine s_set (v := .int (2 * fndV bs w i + one c)) (j := ((fndF bs w i).map V.int).length) (cv_is (v := .int (2 * fndV bs w i + (if decide (strL [c] = "1") = true then 1 else 0))) (by walk_at "Lo.cv") (by rw [hone])) (c_var rfl) (k := -1) (by walk_at "Lo.cv") ?_ Up1.head ?_
            · rw [List.length_append]
              exact ixN_last
            · walk_at "Lo.nf"
              refine ⟨?_, _, _, rfl⟩
              rw [hstep, List.map_append]
              simp
        · have hm2 : decide ((i : Int) % (w : Int) = 0) = false := decide_eq_false (by omega)
          refine q_if (b := decide ((i : Int) % (w : Int) = 0)) (by walk_at "Lo.ct") (fun hb => by rw [hm2] at hb; cases hb) ?_
          intro _
          refine s_next ?_
          walk_at "Lo.go"
          rw [fnd_1 (bs := bs) hm, List.map_append]
          refine s_set (v := .int (2 * fndV bs w i + one c)) (j := ((fndF bs w i).map V.int).length) (cv_is (v := .int (2 * fndV bs w i + (if decide (strL [c] = "1") = true then 1 else 0))) (by walk_at "Lo.cv") (by rw [hone])) (c_var rfl) (k := -1) (by walk_at "Lo.cv") ?_ Up1.head ?_
          · rw [List.length_append]
            exact ixN_last
          · walk_at "Lo.nf"
            refine ⟨?_, _, _, rfl⟩
            rw [hstep, List.map_append]
            simp
      · rintro σ' A' ⟨rfl, x1, x2, rfl⟩
        exact s_retO (c_var rfl) (.head _) q

/-! the law's mixing and draws -/
def mix (c k : Int) : Int :=
  let f := (c + 1) * (48271 + 118 * k) % 2147483629
  (f / 977 * 16807 + f * (k * k + 7) + k) % 2147483587
theorem mix_nn (c k : Int) : 0 ≤ mix c k := Int.emod_nonneg _ (by decide)
theorem mix_lt (c k : Int) : mix c k < 2147483587 := Int.emod_lt_of_pos _ (by decide)
def raw (ns : List Int) (k : Int) : Int := ns.getD k.toNat 0
def cell (ns : List Int) (k : Int) : Int := mix (raw ns k % 2147483647) (k + 101)
def great (c : Int) : Int := (mix c 1 * 2147483587 + mix c 2) * 2147483587 + mix c 3
theorem atI_map {α β : Type} (f : α → β) {xs : List α} {i : Int} {x : α} (h : atI xs i = some x) : atI (xs.map f) i = some (f x) := by
  unfold atI at *
  rw [List.length_map]
  cases e : ixN xs.length i with
  | none => rw [e] at h; cases h
  | some j =>
    rw [e] at h
    have h2 : xs[j]? = some x := h
    show (xs.map f)[j]? = some (f x)
    rw [List.getElem?_map, h2]
    rfl
theorem atI_getD {α : Type} {xs : List α} {i : Int} {d : α} (h0 : 0 ≤ i) (h : i < xs.length) : atI xs i = some (xs.getD i.toNat d) := by
  obtain ⟨j, rfl⟩ := Int.eq_ofNat_of_zero_le h0
  have hj : j < xs.length := by omega
  rw [atI_nat (v := xs[j]) (by simp [hj])]
  simp [List.getD, hj]
theorem raw_at {ns : List Int} {k : Int} (h0 : 0 ≤ k) (h : k < (ns.map V.int).length) : atI (ns.map V.int) k = some (.int (raw ns k)) :=
  atI_map V.int (atI_getD h0 (by rw [List.length_map] at h; exact h))
theorem raw_out {ns : List Int} {k : Int} (h : ¬ k < (ns.map V.int).length) : raw ns k = 0 := by
  rw [List.length_map] at h
  unfold raw
  rw [List.getD, List.getElem?_eq_none (by omega)]
  rfl
def sp_l_mix : Sp := fun vs H Q E => ∃ (c k : Int), vs = [.int c, .int k] ∧ (0 ≤ k ∧ k ≤ 10000000000) ∧ RetV (.int (mix c k)) H Q
theorem u_l_mix {A : Asr} {E : XK} {c k : Int}  (g0 : 0 ≤ k ∧ k ≤ 10000000000) : Cv (fun H Q => sp_l_mix [.int c, .int k] H Q E) A (.int (mix c k)) := fun H hA Q q => ⟨c, k, rfl, g0, q⟩
local macro_rules | `(tactic| walk_at "Lo.call") => `(tactic| ((with_reducible apply u_l_mix); (· walk_at "Lo.side")))
theorem ok_l_mix {P : Program} {w : World} {K : PySem.W.Frag} {mg : Str → Option Value} {base : Heap} (T : Txt K mg) : FnOk P w K mg base (L2.CX P w) 1 T.d_l_mix.f T.d_l_mix.fd ["_law_cell_here", "_law_k"] sp_l_mix := by
  refine T.d_l_mix.F.ok sc_l_mix (fun vs H Q E h => ?_) (fun cdv A outer s H vs Q E hr h => ?_)
  · obtain ⟨c, k, rfl, _⟩ := h
    rfl
  · obtain ⟨c, k, rfl, g0, q⟩ := h
    have hu := hu_of hr
    refine ⟨_, (pss_cons (ps_set (i := 2) sc_l_mix.nd rfl (Or.inl rfl) (pe_op op_mod (pe_op op_mulA (pe_op (r := rAddA K) op_addA (pv 0) pe_int) (pe_op (r := rAddA K) op_addA pe_int (pe_op op_mulA pe_int (pv 1)))) pe_int))
  (pss_one (ps_ret (pe_op op_mod (pe_op (r := rAddA K) op_addA (pe_op (r := rAddA K) op_addA (pe_op op_mulA (pe_op op_fdivW (pv 2) pe_int) pe_int) (pe_op op_mulA (pv 2) (pe_op (r := rAddA K) op_addA (pe_op op_mulA (pv 1) (pv 1)) pe_int))) (pv 1)) pe_int)))),
      body_go (σ' := [some (.int c), some (.int k), none]) rfl ?_⟩
    try dsimp only [cxOf]
    walk_at "Lo.q"
    walk_at "Lo.ret"
def sp_l_raw (K : PySem.W.Frag) : Sp := fun vs H Q E => ∃ (a : Addr) (ns : List Int) (k : Int), vs = [.ref a, .int k] ∧ (SqL K H a (ns.map V.int)) ∧ (0 ≤ k) ∧ RetV (.int (raw ns k)) H Q
theorem u_l_raw {K : PySem.W.Frag} {A : Asr} {E : XK} {a : Addr} {ns : List Int} {k : Int}  (h0 : KnL K A a (ns.map V.int)) (g0 : 0 ≤ k) : Cv (fun H Q => (sp_l_raw K) [.ref a, .int k] H Q E) A (.int (raw ns k)) := fun H hA Q q => ⟨a, ns, k, rfl, h0 H hA, g0, q⟩
local macro_rules | `(tactic| walk_at "Lo.call") => `(tactic| ((with_reducible apply u_l_raw); (· walk_at "Lo.kn"); (· walk_at "Lo.side")))
theorem ok_l_raw {P : Program} {w : World} {K : PySem.W.Frag} {mg : Str → Option Value} {base : Heap} (T : Txt K mg) : FnOk P w K mg base (L2.CX P w) 1 T.d_l_raw.f T.d_l_raw.fd ["_law_script", "_law_k"] (sp_l_raw K) := by
  refine T.d_l_raw.F.ok sc_l_raw (fun vs H Q E h => ?_) (fun cdv A outer s H vs Q E hr h => ?_)
  · obtain ⟨a, ns, k, rfl, _⟩ := h
    rfl
  · obtain ⟨a, ns, k, rfl, h0, g0, q⟩ := h
    have hu := hu_of hr
    refine ⟨_, (pss_cons (ps_if (pt_cmpR op_lt (pv 1) (pe_callB (r := rLenA K) call_lenA (by rfl) T.z_len (by decide +kernel) (pa_cons (pv 0) pa_nil)) (nomark _)) (pss_one (ps_ret (pe_ix (r := rIxA K) (ix_A hu) (pv 0) (pv 1) (fun _ _ => rfl)))) pss_nil)
  (pss_one (ps_ret pe_int))),
      body_go (σ' := [some (.ref a), some (.int k)]) rfl ?_⟩
    try dsimp only [cxOf]
    walk_at "Lo.q"
    · intro hb
      have e := raw_at g0 (of_decide_eq_true hb)
      walk_at "Lo.ret"
    · intro hb
      have e := raw_out (of_decide_eq_false hb)
      rw [e] at q
      walk_at "Lo.ret"
def sp_l_cell (K : PySem.W.Frag) : Sp := fun vs H Q E => ∃ (a : Addr) (ns : List Int) (k : Int), vs = [.ref a, .int k] ∧ (SqL K H a (ns.map V.int)) ∧ (0 ≤ k ∧ k ≤ 1000000) ∧ RetV (.int (cell ns k)) H Q
theorem u_l_cell {K : PySem.W.Frag} {A : Asr} {E : XK} {a : Addr} {ns : List Int} {k : Int}  (h0 : KnL K A a (ns.map V.int)) (g0 : 0 ≤ k ∧ k ≤ 1000000) : Cv (fun H Q => (sp_l_cell K) [.ref a, .int k] H Q E) A (.int (cell ns k)) := fun H hA Q q => ⟨a, ns, k, rfl, h0 H hA, g0, q⟩
local macro_rules | `(tactic| walk_at "Lo.call") => `(tactic| ((with_reducible apply u_l_cell); (· walk_at "Lo.kn"); (· walk_at "Lo.side")))
theorem ok_l_cell {P : Program} {w : World} {K : PySem.W.Frag} {mg : Str → Option Value} {base : Heap} (T : Txt K mg) : FnOk P w K mg base (L2.CX P w) 2 T.d_l_cell.f T.d_l_cell.fd ["_law_script", "_law_k"] (sp_l_cell K) := by
  have G_l_mix := ok_l_mix (P := P) (w := w) (base := base) T
  have G_l_raw := ok_l_raw (P := P) (w := w) (base := base) T
  refine T.d_l_cell.F.ok sc_l_cell (fun vs H Q E h => ?_) (fun cdv A outer s H vs Q E hr h => ?_)
  · obtain ⟨a, ns, k, rfl, _⟩ := h
    rfl
  · obtain ⟨a, ns, k, rfl, h0, g0, q⟩ := h
    have hu := hu_of hr
    refine ⟨_, (pss_one (ps_ret (pe_call G_l_mix (hr.mono (by decide)) (by rfl) T.g_l_mix T.d_l_mix.kp T.d_l_mix.b .nil passL (pa_cons (pe_op op_mod (pe_call G_l_raw (hr.mono (by decide)) (by rfl) T.g_l_raw T.d_l_raw.kp T.d_l_raw.b .nil passL (pa_cons (pv 0) (pa_cons (pv 1) pa_nil))) pe_int) (pa_cons (pe_op (r := rAddA K) op_addA (pv 1) pe_int) pa_nil))))),
      body_go (σ' := [some (.ref a), some (.int k)]) rfl ?_⟩
    try dsimp only [cxOf]
    walk_at "Lo.ret"
def sp_l_great : Sp := fun vs H Q E => ∃ (c : Int), vs = [.int c] ∧ RetV (.int (great c)) H Q
theorem u_l_great {A : Asr} {E : XK} {c : Int}  : Cv (fun H Q => sp_l_great [.int c] H Q E) A (.int (great c)) := fun H hA Q q => ⟨c, rfl, q⟩
local macro_rules | `(tactic| walk_at "Lo.call") => `(tactic| ((with_reducible apply u_l_great)))
theorem ok_l_great {P : Program} {w : World} {K : PySem.W.Frag} {mg : Str → Option Value} {base : Heap} (T : Txt K mg) : FnOk P w K mg base (L2.CX P w) 2 T.d_l_great.f T.d_l_great.fd ["_law_cell_here"] sp_l_great := by
  have G_l_mix := ok_l_mix (P := P) (w := w) (base := base) T
  refine T.d_l_great.F.ok sc_l_great (fun vs H Q E h => ?_) (fun cdv A outer s H vs Q E hr h => ?_)
  · obtain ⟨c, rfl, _⟩ := h
    rfl
  · obtain ⟨c, rfl, q⟩ := h
    have hu := hu_of hr
    refine ⟨_, (pss_one (ps_ret (pe_op (r := rAddA K) op_addA (pe_op op_mulA (pe_op (r := rAddA K) op_addA (pe_op op_mulA (pe_call G_l_mix (hr.mono (by decide)) (by rfl) T.g_l_mix T.d_l_mix.kp T.d_l_mix.b .nil passL (pa_cons (pv 0) (pa_cons pe_int pa_nil))) pe_int) (pe_call G_l_mix (hr.mono (by decide)) (by rfl) T.g_l_mix T.d_l_mix.kp T.d_l_mix.b .nil passL (pa_cons (pv 0) (pa_cons pe_int pa_nil)))) pe_int) (pe_call G_l_mix (hr.mono (by decide)) (by rfl) T.g_l_mix T.d_l_mix.kp T.d_l_mix.b .nil passL (pa_cons (pv 0) (pa_cons pe_int pa_nil)))))),
      body_go (σ' := [some (.int c)]) rfl ?_⟩
    try dsimp only [cxOf]
    have h1 := mix_nn c 1
    have h2 := mix_lt c 1
    walk_at "Lo.ret"
def cells (ns : List Int) (start most : Int) : List Int :=
  if raw ns 0 % 2 = 0 then (List.range (min most (max 0 (ns.length - start))).toNat).map fun (i : Nat) => raw ns (start + (i : Int))
  else (List.range (min most (max (max 0 (ns.length - start)) (1 + cell ns 0 % most))).toNat).map fun (i : Nat) => great (mix (cell ns (start + (i : Int) % max 1 (max 0 (ns.length - start)))) (i : Int))
theorem cells_len (ns : List Int) (start most : Int) : (cells ns start most).length ≤ most.toNat := by
  unfold cells
  split <;> (rw [List.length_map, List.length_range]; omega)
def whole : V → Bool
  | .int _ => true
  | _ => false
def flat2 : V → Bool
  | .int _ => true
  | .bl _ => true
  | .str _ => true
  | .non => true
  | _ => false
def sp_l_cells (K : PySem.W.Frag) : Sp := fun vs H Q E => ∃ (a : Addr) (ns : List Int) (start most : Int), vs = [.ref a, .int start, .int most] ∧ (SqL K H a (ns.map V.int)) ∧ (0 ≤ start ∧ start ≤ 1000 ∧ 1 ≤ most ∧ most ≤ 1000 ∧ ns.length ≤ 63) ∧ RetN (.lst ((cells ns start most).map V.int)) H Q
theorem u_l_cells {K : PySem.W.Frag} {A : Asr} {E : XK} {a : Addr} {ns : List Int} {start most : Int}  (h0 : KnL K A a (ns.map V.int)) (g0 : 0 ≤ start ∧ start ≤ 1000 ∧ 1 ≤ most ∧ most ≤ 1000 ∧ ns.length ≤ 63) : Cn (fun H Q => (sp_l_cells K) [.ref a, .int start, .int most] H Q E) A (.lst ((cells ns start most).map V.int)) := fun H hA Q q => ⟨a, ns, start, most, rfl, h0 H hA, g0, q⟩
local macro_rules | `(tactic| walk_at "Lo.call") => `(tactic| ((with_reducible apply u_l_cells); (· walk_at "Lo.kn"); (· walk_at "Lo.side")))
theorem ok_l_cells {P : Program} {w : World} {K : PySem.W.Frag} {mg : Str → Option Value} {base : Heap} (T : Txt K mg) : FnOk P w K mg base (L2.CX P w) 3 T.d_l_cells.f T.d_l_cells.fd ["_law_script", "_law_start", "_law_most"] (sp_l_cells K) := by
  have G_l_raw := ok_l_raw (P := P) (w := w) (base := base) T
  have G_l_cell := ok_l_cell (P := P) (w := w) (base := base) T
  have G_l_great := ok_l_great (P := P) (w := w) (base := base) T
  have G_l_mix := ok_l_mix (P := P) (w := w) (base := base) T
  refine T.d_l_cells.F.ok sc_l_cells (fun vs H Q E h => ?_) (fun cdv A outer s H vs Q E hr h => ?_)
  · obtain ⟨a, ns, start, most, rfl, _⟩ := h
    rfl
  · obtain ⟨a, ns, start, most, rfl, h0, g0, q⟩ := h
    have hu := hu_of hr
    refine ⟨_, (pss_cons (ps_set (i := 3) sc_l_cells.nd rfl (Or.inr rfl) (pe_callB (r := rMaxA K) (call_maxA rfl) (by rfl) T.z_max (by decide +kernel) (pa_cons pe_int (pa_cons (pe_op op_sub (pe_callB (r := rLenA K) call_lenA (by rfl) T.z_len (by decide +kernel) (pa_cons (pv 0) pa_nil)) (pv 1)) pa_nil))))
  (pss_cons (ps_if (pt_cmpR (r := rEqA K) (op_eqA hr.units) (pe_op op_mod (pe_call G_l_raw (hr.mono (by decide)) (by rfl) T.g_l_raw T.d_l_raw.kp T.d_l_raw.b .nil passL (pa_cons (pv 0) (pa_cons pe_int pa_nil))) pe_int) pe_int (nomark _)) (pss_one (ps_ret (pe_lc (own := [("_law_k", 5)]) (g := gName 5) (tt := tYes) rfl sc_l_cells.nd (pi_range1 (by rfl) T.z_range (pa_cons (pe_callB (r := rMinA K) (call_minA rfl) (by rfl) T.z_min (by decide +kernel) (pa_cons (pv 2) (pa_cons (pv 3) pa_nil))) pa_nil)) (blkOk_by (N := ["_law_script", "_law_start", "_law_most", "_law_cells_here", "_law_many", "_law_k"]) (sc := defScope s_l_cells) (by decide +kernel)) (fun _ _ _ _ _ => pg_name (i := 5) sc_l_cells.nd rfl (Or.inl rfl)) (fun _ _ _ _ _ => pts_nil) (fun _ _ _ _ _ => (pe_call G_l_raw (hr.mono (by decide)) (by rfl) T.g_l_raw T.d_l_raw.kp T.d_l_raw.b .nil passL (pa_cons (pv 0) (pa_cons (pe_op (r := rAddA K) op_addA (pv 1) (pv 5)) pa_nil))))))) pss_nil)
  (pss_cons (ps_set (i := 4) sc_l_cells.nd rfl (Or.inl rfl) (pe_callB (r := rMinA K) (call_minA rfl) (by rfl) T.z_min (by decide +kernel) (pa_cons (pv 2) (pa_cons (pe_callB (r := rMaxA K) (call_maxA rfl) (by rfl) T.z_max (by decide +kernel) (pa_cons (pv 3) (pa_cons (pe_op (r := rAddA K) op_addA pe_int (pe_op op_mod (pe_call G_l_cell (hr.mono (by decide)) (by rfl) T.g_l_cell T.d_l_cell.kp T.d_l_cell.b .nil passL (pa_cons (pv 0) (pa_cons pe_int pa_nil))) (pv 2))) pa_nil))) pa_nil))))
  (pss_one (ps_ret (pe_lc (own := [("_law_k", 5)]) (g := gName 5) (tt := tYes) rfl sc_l_cells.nd (pi_range1 (by rfl) T.z_range (pa_cons (pv 4) pa_nil)) (blkOk_by (N := ["_law_script", "_law_start", "_law_most", "_law_cells_here", "_law_many", "_law_k"]) (sc := defScope s_l_cells) (by decide +kernel)) (fun _ _ _ _ _ => pg_name (i := 5) sc_l_cells.nd rfl (Or.inl rfl)) (fun _ _ _ _ _ => pts_nil) (fun _ _ _ _ _ => (pe_call G_l_great (hr.mono (by decide)) (by rfl) T.g_l_great T.d_l_great.kp T.d_l_great.b .nil passL (pa_cons (pe_call G_l_mix (hr.mono (by decide)) (by rfl) T.g_l_mix T.d_l_mix.kp T.d_l_mix.b .nil passL (pa_cons (pe_call G_l_cell (hr.mono (by decide)) (by rfl) T.g_l_cell T.d_l_cell.kp T.d_l_cell.b .nil passL (pa_cons (pv 0) (pa_cons (pe_op (r := rAddA K) op_addA (pv 1) (pe_op op_mod (pv 5) (pe_callB (r := rMaxA K) (call_maxA rfl) (by rfl) T.z_max (by decide +kernel) (pa_cons pe_int (pa_cons (pv 3) pa_nil))))) pa_nil))) (pa_cons (pv 5) pa_nil))) pa_nil))))))))),
      body_go (σ' := [some (.ref a), some (.int start), some (.int most), none, none, none]) rfl ?_⟩
    try dsimp only [cxOf]
    have hz : (ns.map V.int).length = ns.length := List.length_map _
    walk_at "Lo.q"
    walk_at "Lo.q"
    · intro hb
      have h2 := of_decide_eq_true hb
      have hs : ∀ i : Nat, (i : Int) < min most (max 0 ((ns.map V.int).length - start)) → 0 ≤ start + (i : Int) := fun i hi => by omega
      refine s_retN (u := .lst ((List.range (min most (max 0 ((ns.map V.int).length - start))).toNat).map fun (i : Nat) => V.int (raw ns (start + (i : Int))))) ?_ ?_ q
      · walk_at "Lo.cn"
      · unfold cells
        rw [if_pos h2, List.map_map, hz]
        all_goals rfl
    · intro hb
      have h2 := of_decide_eq_false hb
      have hc := mix_nn (raw ns 0 % 2147483647) (0 + 101)
      walk_at "Lo.q"
      refine s_retN (u := .lst ((List.range (min most (max (max 0 ((ns.map V.int).length - start)) (1 + cell ns 0 % most))).toNat).map fun (i : Nat) => V.int (great (mix (cell ns (start + (i : Int) % max 1 (max 0 ((ns.map V.int).length - start)))) (i : Int))))) ?_ ?_ q
      · have hm : ∀ i : Int, 0 ≤ i % max 1 (max 0 ((ns.map V.int).length - start)) ∧ i % max 1 (max 0 ((ns.map V.int).length - start)) ≤ 1000 := fun i => ⟨Int.emod_nonneg _ (by omega), by have := Int.emod_lt_of_pos i (show 0 < max 1 (max 0 (((ns.map V.int).length : Int) - start)) by omega); omega⟩
        refine n_lcR _ ?_ ?_ ?_ ?_ (fun _ => rfl)
        · walk_at "Lo.ca"
        · omega
        · omega
        · intro i hi
          have := hm i
          walk_at "Lo.cv"
      · unfold cells
        rw [if_neg h2, List.map_map, hz]
        all_goals rfl

def sp_l_same : Sp := fun vs H Q E => ∃ (a b : Addr) (ns : List Int), vs = [.ref a, .ref b] ∧ (H a = some (.lst (ns.map V.int))) ∧ (H b = some (.lst (ns.map V.int))) ∧ RetV (.bl true) H Q
theorem u_l_same {A : Asr} {E : XK} {a b : Addr} {ns : List Int}  (h0 : Kn A a (.lst (ns.map V.int))) (h1 : Kn A b (.lst (ns.map V.int))) : Cv (fun H Q => sp_l_same [.ref a, .ref b] H Q E) A (.bl true) := fun H hA Q q => ⟨a, b, ns, rfl, h0 H hA, h1 H hA, q⟩
local macro_rules | `(tactic| walk_at "Lo.call") => `(tactic| ((with_reducible apply u_l_same); (· walk_at "Lo.kn"); (· walk_at "Lo.kn")))
theorem ok_l_same {P : Program} {w : World} {K : PySem.W.Frag} {mg : Str → Option Value} {base : Heap} (T : Txt K mg) : FnOk P w K mg base (L2.CX P w) 1 T.d_l_same.f T.d_l_same.fd ["_law_found", "_law_due"] sp_l_same := by
  refine T.d_l_same.F.ok sc_l_same (fun vs H Q E h => ?_) (fun cdv A outer s H vs Q E hr h => ?_)
  · obtain ⟨a, b, ns, rfl, _⟩ := h
    rfl
  · obtain ⟨a, b, ns, rfl, h0, h1, q⟩ := h
    have hu := hu_of hr
    refine ⟨_, (pss_cons (ps_if (PW.pt (pw_or (pt_not (pt_val (pe_callB (r := rIsi K) call_isi (by rfl) T.z_isinstance (by decide +kernel) (pa_cons (pv 0) (pa_cons (pe_bltn (v := .ty "list") (by rfl) T.z_list (by decide +kernel) rfl) pa_nil))))) (pw_or1 (pt_cmpR (r := rNeA K) (op_neA hr.units) (pe_callB (r := rLenA K) call_lenA (by rfl) T.z_len (by decide +kernel) (pa_cons (pv 0) pa_nil)) (pe_callB (r := rLenA K) call_lenA (by rfl) T.z_len (by decide +kernel) (pa_cons (pv 1) pa_nil)) (nomark _))))) (pss_one (ps_ret pe_bl)) pss_nil)
  (pss_cons (ps_for (passes_of rfl) rfl (pi_list (pv 0)) (pg_name (i := 2) sc_l_same.nd rfl (Or.inl rfl))
  (pss_one (ps_if (PW.pt (pw_or (pt_not (pt_val (pe_callB (r := rIsi K) call_isi (by rfl) T.z_isinstance (by decide +kernel) (pa_cons (pv 2) (pa_cons (pe_bltn (v := .ty "int") (by rfl) T.z_int (by decide +kernel) rfl) pa_nil))))) (pw_or1 (pt_val (pe_callB (r := rIsi K) call_isi (by rfl) T.z_isinstance (by decide +kernel) (pa_cons (pv 2) (pa_cons (pe_bltn (v := .ty "bool") (by rfl) T.z_bool (by decide +kernel) rfl) pa_nil))))))) (pss_one (ps_ret pe_bl)) pss_nil)))
  (pss_one (ps_ret (pe_cmpR (r := rEqA K) (op_eqA hr.units) (pv 0) (pv 1) (nomark _)))))),
      body_go (σ' := [some (.ref a), some (.ref b), none]) rfl ?_⟩
    try dsimp only [cxOf]
    walk_at "Lo.q"
    · intro hb
      simp at hb
    · intro _
      refine q_forL (a := a) (xs := ns.map V.int) (c_var rfl) (fun i σ A' => A' = at_ H H H [] ∧ ∃ x, σ = [some (.ref a), some (.ref b), x]) ⟨rfl, _, rfl⟩ ?_ ?_ ?_
      · rintro i σ' A' ⟨rfl, _⟩
        walk_at "Lo.kn"
      · rintro i x σ' A' hx ⟨rfl, x1, rfl⟩
        obtain ⟨n, rfl⟩ := mem_ints (List.mem_of_getElem? hx)
        refine s_if (b := (!true || false)) (t_or (t_not (t_test (by walk_at "Lo.cv"))) fun _ => t_test (by walk_at "Lo.cv")) ?_ ?_
        · intro hb
          simp at hb
        · intro _
          refine s_next ?_
          walk_at "Lo.nf"
          exact ⟨rfl, _, rfl⟩
      · rintro σ' A' ⟨rfl, x1, rfl⟩
        walk_at "Lo.ret"

theorem size_up {n w : Nat} (hw : 0 < w) (hm : n % w = 0) : Builtin.Range.rangeSize 0 (n : Int) (w : Int) = ((n / w : Nat) : Int) := by
  unfold Builtin.Range.rangeSize
  have hq := Nat.div_add_mod n w
  rw [hm, Nat.add_zero] at hq
  rw [if_pos (by omega)]
  by_cases h0 : n = 0
  · subst h0
    simp
  · rw [if_pos (by omega)]
    have hp : 0 < n / w := by
      refine Nat.pos_of_ne_zero fun z => h0 ?_
      rw [z, Nat.mul_zero] at hq
      exact hq.symm
    have e : ((n : Int) - 0 - 1) = ((n - 1 : Nat) : Int) := by omega
    rw [e]
    have e2 : (n - 1) / w = n / w - 1 := by
      have e3 : n - 1 = w * (n / w - 1) + (w - 1) := by
        rw [Nat.mul_sub, hq, Nat.mul_one]
        have : w * 1 ≤ w * (n / w) := Nat.mul_le_mul_left w hp
        omega
      rw [e3, Nat.mul_add_div hw, Nat.div_eq_of_lt (by omega : w - 1 < w), Nat.add_zero]
    have e4 : (((n - 1 : Nat) : Int) / (w : Int)) = (((n - 1) / w : Nat) : Int) := rfl
    rw [e4, e2]
    generalize n / w = y at hp
    omega
theorem rgc_up {n w : Nat} (h : n ≤ 1000000) (hw : 0 < w) (hw2 : w ≤ 1000000) (hm : n % w = 0) : RgC 0 (n : Int) (w : Int) (n / w) := by
  have hd := Nat.div_le_self n w
  refine ⟨by omega, by omega, ?_, size_up hw hm⟩
  unfold Builtin.Range.small
  rw [size_up hw hm]
  generalize n / w = y at hd
  have f : ∀ x : Int, 0 ≤ x → x ≤ 3000000 → Builtin.Range.rangeFitsLong x = true := fun x h1 h2 => by
    unfold Builtin.Range.rangeFitsLong
    rw [decide_eq_true (by omega), decide_eq_true (by omega)]
    rfl
  rw [f 0 (by omega) (by omega), f (n : Int) (by omega) (by omega), f (w : Int) (by omega) (by omega), f (y : Int) (by omega) (by omega), if_pos (by omega), f ((n : Int) + ((w : Int) - 1)) (by omega) (by omega)]
  simp
theorem fnd_in {bs : List Nat} {w : Nat} (hw : 0 < w) (hm : bs.length % w = 0) (hd : ∀ d ∈ bs, d = 48 ∨ d = 49) : ∀ n ∈ fnd bs w bs.length, 0 ≤ n ∧ n < 2 ^ w := by
  intro n hn
  unfold fnd fndF at hn
  rw [if_pos hm, List.append_nil] at hn
  obtain ⟨j, hj, rfl⟩ := List.mem_map.mp hn
  have hj := List.mem_range.mp hj
  have hq := Nat.div_add_mod bs.length w
  rw [hm, Nat.add_zero, Nat.mul_comm] at hq
  have h1 : (j + 1) * w ≤ bs.length / w * w := Nat.mul_le_mul_right w hj
  rw [Nat.succ_mul] at h1
  have z := bits_val w (chunk bs w j) (by unfold chunk; rw [List.length_take, List.length_drop]; omega) fun d h => hd d (List.mem_of_mem_drop (List.mem_of_mem_take h))
  exact ⟨z.1, z.2.1⟩
theorem atI_mem {α : Type} {xs : List α} {i : Int} {v : α} (h : atI xs i = some v) : v ∈ xs := by
  unfold atI at h
  cases e : ixN xs.length i with
  | none => rw [e] at h; cases h
  | some j =>
    rw [e] at h
    exact List.mem_of_getElem? h
theorem atI_ok {α : Type} {xs : List α} {i : Int} (h : -(xs.length : Int) ≤ i) (h2 : i < xs.length) : ∃ v, atI xs i = some v := by
  unfold atI ixN
  by_cases h0 : 0 ≤ i
  · rw [if_pos h0, if_pos h2]
    exact ⟨xs[i.toNat]'(by omega), by show xs[i.toNat]? = _; simp⟩
  · rw [if_neg h0, if_pos h]
    exact ⟨xs[(i + xs.length).toNat]'(by omega), by show xs[(i + xs.length).toNat]? = _; simp⟩
def widthsV (n : Nat) : List V := ((List.range 64).filter fun (i : Nat) => decide ((n : Int) % (1 + (i : Int)) = 0)).map fun (i : Nat) => V.int (1 + (i : Int))
theorem widthsV_mem {n : Nat} {x : V} (h : x ∈ widthsV n) : ∃ w : Nat, x = .int (w : Int) ∧ 1 ≤ w ∧ w ≤ 64 ∧ n % w = 0 := by
  obtain ⟨i, hi, rfl⟩ := List.mem_map.mp h
  obtain ⟨h1, h2⟩ := List.mem_filter.mp hi
  have h1 := List.mem_range.mp h1
  have h2 := of_decide_eq_true h2
  refine ⟨i + 1, ?_, by omega, by omega, ?_⟩
  · congr 1
    omega
  · have e : (1 + (i : Int)) = ((i + 1 : Nat) : Int) := by omega
    rw [e] at h2
    exact_mod_cast h2
theorem widthsV_pos {n : Nat} : 0 < (widthsV n).length := by
  have h : V.int (1 + ((0 : Nat) : Int)) ∈ widthsV n := List.mem_map.mpr ⟨0, List.mem_filter.mpr ⟨by simp, by simp⟩, rfl⟩
  exact List.length_pos_of_mem h
def sp_l_row (K : PySem.W.Frag) : Sp := fun vs H Q E => ∃ (a : Addr) (ns : List Int), vs = [.ref a] ∧ (SqL K H a (ns.map V.int)) ∧ (ns.length ≤ 63) ∧ RetV (.str (strL (rowL (cells ns 2 60)))) H Q
theorem u_l_row {K : PySem.W.Frag} {A : Asr} {E : XK} {a : Addr} {ns : List Int}  (h0 : KnL K A a (ns.map V.int)) (g0 : ns.length ≤ 63) : Cv (fun H Q => (sp_l_row K) [.ref a] H Q E) A (.str (strL (rowL (cells ns 2 60)))) := fun H hA Q q => ⟨a, ns, rfl, h0 H hA, g0, q⟩
local macro_rules | `(tactic| walk_at "Lo.call") => `(tactic| ((with_reducible apply u_l_row); (· walk_at "Lo.kn"); (· walk_at "Lo.side")))
theorem ok_l_row {P : Program} {w : World} {K : PySem.W.Frag} {mg : Str → Option Value} {base : Heap} (T : Txt K mg) : FnOk P w K mg base (L2.CX P w) 4 T.d_l_row.f T.d_l_row.fd ["_law_script"] (sp_l_row K) := by
  have G_l_cells := ok_l_cells (P := P) (w := w) (base := base) T
  refine T.d_l_row.F.ok sc_l_row (fun vs H Q E h => ?_) (fun cdv A outer s H vs Q E hr h => ?_)
  · obtain ⟨a, ns, rfl, _⟩ := h
    rfl
  · obtain ⟨a, ns, rfl, h0, g0, q⟩ := h
    have hu := hu_of hr
    refine ⟨_, (pss_cons (ps_set (i := 1) sc_l_row.nd rfl (Or.inl rfl) pe_str)
  (pss_cons (ps_for (passes_of rfl) rfl (pi_list (pe_call G_l_cells (hr.mono (by decide)) (by rfl) T.g_l_cells T.d_l_cells.kp T.d_l_cells.b .nil passL (pa_cons (pv 0) (pa_cons pe_int (pa_cons pe_int pa_nil))))) (pg_name (i := 2) sc_l_row.nd rfl (Or.inl rfl))
  (pss_cons (ps_set (i := 3) sc_l_row.nd rfl (Or.inl rfl) (pe_op op_mod (pv 2) pe_int))
  (pss_cons (ps_set (i := 4) sc_l_row.nd rfl (Or.inl rfl) (pe_op op_fdivW (pv 2) pe_int))
  (pss_one (ps_for (passes_of rfl) rfl (pi_range1 (by rfl) T.z_range (pa_cons (pv 3) pa_nil)) (pg_name (i := 5) sc_l_row.nd rfl (Or.inl rfl))
  (pss_cons (ps_set (i := 1) sc_l_row.nd rfl (Or.inl rfl) (pe_op (r := rAddA K) op_addA (pv 1) (pe_ix (r := rIxA K) (ix_A hu) pe_str (pe_op op_mod (pv 4) pe_int) (fun _ _ => rfl))))
  (pss_one (ps_set (i := 4) sc_l_row.nd rfl (Or.inl rfl) (pe_op op_fdivW (pv 4) pe_int)))))))))
  (pss_one (ps_ret (pv 1))))),
      body_go (σ' := [some (.ref a), none, none, none, none, none]) rfl ?_⟩
    try dsimp only [cxOf]
    have hcl := cells_len ns 2 60
    walk_at "Lo.q"
    refine q_forO (xs := (cells ns 2 60).map V.int) (by walk_at "Lo.cn") (fun pc i σ A' => A' = at_ H H H [(pc, .lst ((cells ns 2 60).map V.int))] ∧ ∃ c m r k, σ = [some (.ref a), some (.str (strL (rowL ((cells ns 2 60).take i)))), c, m, r, k]) (fun pc => ⟨rfl, _, _, _, _, rfl⟩) ?_ ?_ ?_
    · rintro pc i σ' A' ⟨rfl, _⟩
      walk_at "Lo.kn"
    · rintro pc i x σ' A' hx ⟨rfl, x1, x2, x3, x4, rfl⟩
      rw [List.getElem?_map] at hx
      obtain ⟨c, hc, rfl⟩ := Option.map_eq_some_iff.mp hx
      have hl := rowL_len ((cells ns 2 60).take i)
      have hl2 := signs_len c
      have hl3 : ((cells ns 2 60).take i).length ≤ (cells ns 2 60).length := by rw [List.length_take]; omega
      walk_at "Lo.q"
      walk_at "Lo.q"
      refine s_forR (n := c % 9) (by walk_at "Lo.ca") (by omega) (by omega) (fun j σ A' => A' = at_ H H H [(pc, .lst ((cells ns 2 60).map V.int))] ∧ ∃ k, σ = [some (.ref a), some (.str (strL (rowL ((cells ns 2 60).take i) ++ (signs c).take j))), some (.int c), some (.int (c % 9)), some (.int (c / 9 / 2 ^ j)), k]) ⟨rfl, x4, by simp⟩ ?_ ?_
      · rintro j σ' A' hj ⟨rfl, k, rfl⟩
        have hs := range_take (fun (i : Nat) => (48 + c / 9 / 2 ^ i % 2).toNat) (show j < (c % 9).toNat by omega)
        have ha := sign01 (c / 9 / 2 ^ j)
        have hz : (strL (rowL ((cells ns 2 60).take i) ++ (signs c).take j)).length + (⟨#[(48 + c / 9 / 2 ^ j % 2).toNat]⟩ : Str).length ≤ sizeLine := by
          rw [strL_len, sgn, strL_len, List.length_append, List.length_take]
          exact small_line (by simp only [List.length_cons, List.length_nil]; omega)
        have h01 : ("01" : Str).length ≤ sizeLine := by decide +kernel
        walk_at "Lo.q"
        refine s_asg (v := .int (c / 9 / 2 ^ j / 2)) ?_ ?_
        · walk_at "Lo.cv"
        · walk_at "Lo.nf"
          refine ⟨rfl, some (.int (j : Int)), ?_⟩
          rw [div_div, sgn, strL_app, List.append_assoc]
          unfold signs
          rw [hs]
          rfl
      · rintro σ' A' ⟨rfl, k, rfl⟩
        walk_at "Lo.nf"
        refine ⟨rfl, some (.int c), some (.int (c % 9)), some (.int (c / 9 / 2 ^ (c % 9).toNat)), k, ?_⟩
        rw [show List.take (c % 9).toNat (signs c) = signs c from by rw [← hl2, List.take_length]]
        unfold rowL
        rw [flat_take hc]
    · rintro pc σ' A' ⟨rfl, x1, x2, x3, x4, rfl⟩
      rw [List.length_map, List.take_length]
      walk_at "Lo.ret"
def sp_l_numbers : Sp := fun vs H Q E => ∃ (bs : List Nat) (w : Nat), vs = [.str (strL bs), .int (w : Int)] ∧ ((bs.length ≤ 1000000 ∧ 0 < w ∧ w ≤ 1000) ∧ bs.length % w = 0) ∧ RetN (.lst ((fnd bs w bs.length).map V.int)) H Q
theorem u_l_numbers {A : Asr} {E : XK} {bs : List Nat} {w : Nat}  (g0 : (bs.length ≤ 1000000 ∧ 0 < w ∧ w ≤ 1000) ∧ bs.length % w = 0) : Cn (fun H Q => sp_l_numbers [.str (strL bs), .int (w : Int)] H Q E) A (.lst ((fnd bs w bs.length).map V.int)) := fun H hA Q q => ⟨bs, w, rfl, g0, q⟩
local macro_rules | `(tactic| walk_at "Lo.call") => `(tactic| ((with_reducible apply u_l_numbers); (· walk_at "Lo.side")))
theorem ok_l_numbers {P : Program} {w : World} {K : PySem.W.Frag} {mg : Str → Option Value} {base : Heap} (T : Txt K mg) : FnOk P w K mg base (L2.CX P w) 1 T.d_l_numbers.f T.d_l_numbers.fd ["_law_bits", "_law_width"] sp_l_numbers := by
  refine T.d_l_numbers.F.ok sc_l_numbers (fun vs H Q E h => ?_) (fun cdv A outer s H vs Q E hr h => ?_)
  · obtain ⟨bs, w, rfl, _⟩ := h
    rfl
  · obtain ⟨bs, w, rfl, g0, q⟩ := h
    have hu := hu_of hr
    refine ⟨_, (pss_cons (ps_set (i := 2) sc_l_numbers.nd rfl (Or.inl rfl) (pe_lst pa_nil))
  (pss_cons (ps_for (passes_of rfl) rfl (pi_range3 (by rfl) T.z_range (pa_cons pe_int (pa_cons (pe_callB (r := rLenA K) call_lenA (by rfl) T.z_len (by decide +kernel) (pa_cons (pv 0) pa_nil)) (pa_cons (pv 1) pa_nil)))) (pg_name (i := 3) sc_l_numbers.nd rfl (Or.inl rfl))
  (pss_cons (ps_set (i := 4) sc_l_numbers.nd rfl (Or.inl rfl) pe_int)
  (pss_cons (ps_for (passes_of rfl) rfl (pi_str (pe_slice (r := rSlA K) sl_A (pv 0) (po_some (pv 3)) (po_some (pe_op (r := rAddA K) op_addA (pv 3) (pv 1))))) (pg_name (i := 5) sc_l_numbers.nd rfl (Or.inl rfl))
  (pss_one (ps_set (i := 4) sc_l_numbers.nd rfl (Or.inl rfl) (pe_op (r := rAddA K) op_addA (pe_op op_mulA pe_int (pv 4)) (pe_callTy (r := rInt1) call_intA (by rfl) T.z_int (by decide +kernel) (pa_cons (pe_cmpR (r := rEqA K) (op_eqA hr.units) (pv 5) pe_str (nomark _)) pa_nil))))))
  (pss_one (ps_expr (pe_bm PySem.F.plainAttrs_list PySem.F.slot_list_append PySem.F.type_list_append mt_append (pv 2) (pa_cons (pv 4) pa_nil)))))))
  (pss_one (ps_ret (pv 2))))),
      body_go (σ' := [some (.str (strL bs)), some (.int (w : Int)), none, none, none, none]) rfl ?_⟩
    try dsimp only [cxOf]
    obtain ⟨⟨g1, g2, g3⟩, g4⟩ := g0
    have hz : (strL bs).length ≤ sizeLine := by rw [strL_len]; exact small_line g1
    have hr3 : RgC 0 ((strL bs).length : Int) (w : Int) (bs.length / w) := by
      rw [strL_len]
      exact rgc_up g1 g2 (by omega) g4
    have hdl := Nat.div_le_self bs.length w
    refine q_own (o := .lst []) (by walk_at "Lo.cn") fun p => ?_
    refine g_seq (s_forF (j_rng3 (lo := 0) (n := ((strL bs).length : Int)) (c := (w : Int)) (m := bs.length / w) (c_cons c_c (c_cons (c_cb (c_cons (c_var rfl) c_nil) (e_lenS hz)) (c_cons (c_var rfl) c_nil))) hr3) walk_rangeC (fun j σ A' => A' = at_ H H H [(p, .lst (((List.range j).map fun j => valB (chunk bs w j)).map V.int))] ∧ ∃ x y z, σ = [some (.str (strL bs)), some (.int (w : Int)), some (.ref p), x, y, z]) ⟨rfl, _, _, _, rfl⟩ ?_ ?_)
    · rintro j σ' A' hj ⟨rfl, x1, x2, x3, rfl⟩
      walk_at "Lo.q"
      have hsl : cutS (strL bs) (some (0 + (j : Int) * (w : Int))) (some (0 + (j : Int) * (w : Int) + (w : Int))) = strL (chunk bs w j) := by
        have e1 : (0 + (j : Int) * (w : Int)) = ((j * w : Nat) : Int) := by push_cast; omega
        have e2 : (0 + (j : Int) * (w : Int) + (w : Int)) = ((j * w + w : Nat) : Int) := by push_cast; omega
        rw [e2, e1, cutS_nat, Nat.add_sub_cancel_left]
        rfl
      refine g_seq (s_forS (z := strL (chunk bs w j)) (cv_is (v := .str (cutS (strL bs) (some (0 + (j : Int) * (w : Int))) (some (0 + (j : Int) * (w : Int) + (w : Int))))) (by walk_at "Lo.cv") (by rw [hsl])) (fun m σ A' => A' = at_ H H H [(p, .lst (((List.range j).map fun j => valB (chunk bs w j)).map V.int))] ∧ ∃ x z, σ = [some (.str (strL bs)), some (.int (w : Int)), some (.ref p), x, some (.int (valB ((chunk bs w j).take m))), z]) ⟨rfl, _, _, rfl⟩ ?_ ?_)
      · rintro m c σ' A' hc ⟨rfl, x1, x3, rfl⟩
        rw [strL_list] at hc
        have hone := one_dec c
        refine s_asg (v := .int (2 * valB ((chunk bs w j).take m) + (if decide ((⟨#[c]⟩ : Str) = "1") = true then 1 else 0))) (by walk_at "Lo.cv") ?_
        walk_at "Lo.nf"
        refine ⟨rfl, x1, some (.str (strL [c])), ?_⟩
        rw [sgn, hone, List.take_add_one, hc]
        have e := valB_snoc ((chunk bs w j).take m) c
        rw [← e]
        rfl
      · rintro σ' A' ⟨rfl, x1, x3, rfl⟩
        walk_at "Lo.go"
        refine s_app (v := .int (valB (chunk bs w j))) (c_var rfl) (c_var (by rw [strL_len, List.take_length]; rfl)) Up1.head ?_ ?_
        · rw [List.length_map, List.length_map, List.length_range]
          have := sizeLine_eq
          omega
        · walk_at "Lo.nf"
          refine ⟨?_, _, _, _, rfl⟩
          rw [List.range_succ]
          simp
    · rintro σ' A' ⟨rfl, x1, x2, x3, rfl⟩
      walk_at "Lo.go"
      refine s_retO (c_var rfl) (.head _) ?_
      have e : fnd bs w bs.length = (List.range (bs.length / w)).map fun j => valB (chunk bs w j) := by
        unfold fnd fndF
        rw [if_pos g4, List.append_nil]
      rw [e] at q
      exact q
def sp_law (K : PySem.W.Frag) : Sp := fun vs H Q E => ∃ (a : Addr) (ns : List Int), vs = [.ref a] ∧ (SqL K H a (ns.map V.int)) ∧ (ns.length ≤ 63) ∧ RetV (.bl true) H Q
theorem u_law {K : PySem.W.Frag} {A : Asr} {E : XK} {a : Addr} {ns : List Int}  (h0 : KnL K A a (ns.map V.int)) (g0 : ns.length ≤ 63) : Cv (fun H Q => (sp_law K) [.ref a] H Q E) A (.bl true) := fun H hA Q q => ⟨a, ns, rfl, h0 H hA, g0, q⟩
local macro_rules | `(tactic| walk_at "Lo.call") => `(tactic| ((with_reducible apply u_law); (· walk_at "Lo.kn"); (· walk_at "Lo.side")))
theorem ok_law {P : Program} {w : World} {K : PySem.W.Frag} {mg : Str → Option Value} {base : Heap} (T : Txt K mg) : FnOk P w K mg base (L2.CX P w) 5 T.d_law.f T.d_law.fd ["_law_script"] (sp_law K) := by
  have G_l_row := ok_l_row (P := P) (w := w) (base := base) T
  have G_l_raw := ok_l_raw (P := P) (w := w) (base := base) T
  have G_l_numbers := ok_l_numbers (P := P) (w := w) (base := base) T
  have G_read_bits := ok_read_bits (P := P) (w := w) (base := base) T
  have G_written := ok_written (P := P) (w := w) (base := base) T
  have G_l_same := ok_l_same (P := P) (w := w) (base := base) T
  refine T.d_law.F.ok sc_law (fun vs H Q E h => ?_) (fun cdv A outer s H vs Q E hr h => ?_)
  · obtain ⟨a, ns, rfl, _⟩ := h
    rfl
  · obtain ⟨a, ns, rfl, h0, g0, q⟩ := h
    have hu := hu_of hr
    refine ⟨_, (pss_cons (ps_set (i := 1) sc_law.nd rfl (Or.inr rfl) (pe_call G_l_row (hr.mono (by decide)) (by rfl) T.g_l_row T.d_l_row.kp T.d_l_row.b .nil passL (pa_cons (pv 0) pa_nil)))
  (pss_cons (ps_setLc (i := 3) (own := [("_law_width", 2)]) (g := gName 2) rfl sc_law.nd rfl rfl (sw_true rfl rfl rfl (by decide +kernel)) (pi_range2 (by rfl) T.z_range (pa_cons pe_int (pa_cons pe_int pa_nil))) (blkOk_by (N := ["_law_script", "_law_bits", "_law_width", "_law_widths", "_law_due", "_law_turn", "_law_found"]) (sc := defScope s_law) (by decide +kernel)) (fun _ _ _ _ _ => pg_name (i := 2) sc_law.nd rfl (Or.inl rfl)) (fun _ _ _ _ _ => pts_one (pt_cmpR (r := rEqA K) (op_eqA hr.units) (pe_op op_mod (pe_callB (r := rLenA K) call_lenA (by rfl) T.z_len (by decide +kernel) (pa_cons (pv 1) pa_nil)) (pv 2)) pe_int (nomark _))) (fun _ _ _ _ _ => (pv 2)))
  (pss_cons (ps_for (passes_of rfl) rfl (pi_list (pe_lst (pa_cons (pe_ix (r := rIxA K) (ix_A hu) (pv 3) (pe_op op_mod (pe_call G_l_raw (hr.mono (by decide)) (by rfl) T.g_l_raw T.d_l_raw.kp T.d_l_raw.b .nil passL (pa_cons (pv 0) (pa_cons pe_int pa_nil))) (pe_callB (r := rLenA K) call_lenA (by rfl) T.z_len (by decide +kernel) (pa_cons (pv 3) pa_nil))) (fun _ _ => rfl)) (pa_cons (pe_ix (r := rIxA K) (ix_A hu) (pv 3) (pe_un un_neg pe_int) (fun _ _ => rfl)) (pa_cons pe_int pa_nil))))) (pg_name (i := 2) sc_law.nd rfl (Or.inl rfl))
  (pss_cons (ps_set (i := 4) sc_law.nd rfl (Or.inl rfl) (pe_call G_l_numbers (hr.mono (by decide)) (by rfl) T.g_l_numbers T.d_l_numbers.kp T.d_l_numbers.b .nil passL (pa_cons (pv 1) (pa_cons (pv 2) pa_nil))))
  (pss_one (ps_for (passes_of rfl) rfl (pi_range1 (by rfl) T.z_range (pa_cons pe_int pa_nil)) (pg_name (i := 5) sc_law.nd rfl (Or.inl rfl))
  (pss_cons (ps_set (i := 6) sc_law.nd rfl (Or.inl rfl) (pe_call G_read_bits (hr.mono (by decide)) (by rfl) T.g_read_bits T.d_read_bits.kp T.d_read_bits.b .nil passL (pa_cons (pv 1) (pa_cons (pv 2) pa_nil))))
  (pss_cons (ps_if (PW.pt (pw_or (pt_not (pt_val (pe_call G_l_same (hr.mono (by decide)) (by rfl) T.g_l_same T.d_l_same.kp T.d_l_same.b .nil passL (pa_cons (pv 6) (pa_cons (pv 4) pa_nil))))) (pw_or1 (pt_cmpR (r := rNeA K) (op_neA hr.units) (pe_call G_written (hr.mono (by decide)) (by rfl) T.g_written T.d_written.kp T.d_written.b .nil passL (pa_cons (pv 6) (pa_cons (pv 2) pa_nil))) (pv 1) (nomark _))))) (pss_one (ps_ret pe_bl)) pss_nil)
  (pss_one (ps_expr (pe_bm PySem.F.plainAttrs_list PySem.F.slot_list_append PySem.F.type_list_append mt_append (pv 6) (pa_cons pe_int pa_nil))))))))))
  (pss_one (ps_ret pe_bl))))),
      body_go (σ' := [some (.ref a), none, none, none, none, none, none]) rfl ?_⟩
    try dsimp only [cxOf]
    walk_at "Lo.q"
    have hb := rowL_len (cells ns 2 60)
    have hcl := cells_len ns 2 60
    have hd := fun d (h : d ∈ rowL (cells ns 2 60)) => rowL_in h
    generalize rowL (cells ns 2 60) = bs at hb hd
    have hbl : bs.length ≤ 540 := by omega
    have hz : (strL bs).length ≤ sizeLine := by rw [strL_len]; exact small_line (by omega)
    refine q_own (o := .lst (widthsV bs.length)) ?_ fun pw => ?_
    · refine n_lcF (f := fun (i : Nat) => V.int (1 + (i : Int))) (m := 64) (j_rng2 (lo := 1) (n := 65) (by walk_at "Lo.ca") (by omega)) (by have w := walk_range (lo := 1) (n := 64); exact w) (by rw [sizeLine_eq]; decide) (fun (i : Nat) => decide ((bs.length : Int) % (1 + (i : Int)) = 0)) (fun (i : Nat) => V.int (1 + (i : Int))) ?_ ?_ (fun _ => rfl)
      · intro i hi
        rw [← strL_len bs]
        walk_at "Lo.ct"
      · intro i hi _
        walk_at "Lo.cv"
    have hmem := fun x (h : x ∈ widthsV bs.length) => widthsV_mem h
    have hpos := widthsV_pos (n := bs.length)
    generalize widthsV bs.length = W at hmem hpos
    have hpos2 : (0 : Int) < W.length := by omega
    have hr0 := Int.emod_nonneg (raw ns 1) (show (W.length : Int) ≠ 0 by omega)
    have hr1 := Int.emod_lt_of_pos (raw ns 1) hpos2
    obtain ⟨u1, hu1⟩ := atI_ok (xs := W) (i := raw ns 1 % (W.length : Int)) (by omega) hr1
    obtain ⟨u2, hu2⟩ := atI_ok (xs := W) (i := -1) (by omega) (by omega)
    refine q_forO (xs := [u1, u2, .int 1]) (by walk_at "Lo.cn") (fun pl i σ A' => A' = at_ H H H [(pl, .lst [u1, u2, .int 1]), (pw, .lst W)] ∧ ∃ x4 x5 x6 x7, σ = [some (.ref a), some (.str (strL bs)), x4, some (.ref pw), x5, x6, x7]) (fun pl => ⟨rfl, _, _, _, _, rfl⟩) ?_ ?_ ?_
    · rintro pl i σ' A' ⟨rfl, _⟩
      walk_at "Lo.kn"
    · rintro pl i x σ' A' hx ⟨rfl, x4, x5, x6, x7, rfl⟩
      obtain ⟨w, rfl, hw1, hw2, hm⟩ : ∃ w : Nat, x = .int (w : Int) ∧ 1 ≤ w ∧ w ≤ 64 ∧ bs.length % w = 0 := by
        have h := List.mem_of_getElem? hx
        simp only [List.mem_cons, List.not_mem_nil, or_false] at h
        rcases h with h | h | h
        · exact hmem x (h ▸ atI_mem hu1)
        · exact hmem x (h ▸ atI_mem hu2)
        · exact ⟨1, h, by omega, by omega, Nat.mod_one _⟩
      have hN : (bs.length ≤ 1000000 ∧ 0 < w ∧ w ≤ 1000) ∧ bs.length % w = 0 := ⟨⟨by omega, by omega, by omega⟩, hm⟩
      have hR : (bs.length ≤ 1000000 ∧ 0 < w ∧ w ≤ 1000) ∧ bs.length % w = 0 ∧ ∀ d ∈ bs, d = 48 ∨ d = 49 := ⟨hN.1, hm, hd⟩
      have hfl := fnd_len bs w bs.length
      have hW : ((fnd bs w bs.length).length ≤ 1000 ∧ w ≤ 1000) ∧ ∀ n ∈ fnd bs w bs.length, 0 ≤ n ∧ n < 2 ^ w := ⟨⟨by omega, by omega⟩, fnd_in (by omega) hm hd⟩
      have hback := written_back bs w (by omega) hm hd
      generalize hfs : fnd bs w bs.length = fs at hfl hW hback
      refine q_own (o := .lst (fs.map V.int)) (cn_is (o := .lst ((fnd bs w bs.length).map V.int)) (by walk_at "Lo.cn") (by rw [hfs])) fun pd => ?_
      refine s_forR (n := 2) (by walk_at "Lo.ca") (by omega) (by omega) (fun k σ A' => A' = at_ H H H [(pd, .lst (fs.map V.int)), (pl, .lst [u1, u2, .int 1]), (pw, .lst W)] ∧ ∃ x6 x7, σ = [some (.ref a), some (.str (strL bs)), some (.int (w : Int)), some (.ref pw), some (.ref pd), x6, x7]) ⟨rfl, _, _, rfl⟩ ?_ ?_
      · rintro k σ' A' hk ⟨rfl, x6, x7, rfl⟩
        refine q_own (o := .lst (fs.map V.int)) (cn_is (o := .lst ((fnd bs w bs.length).map V.int)) (by walk_at "Lo.cn") (by rw [hfs])) fun pf => ?_
        walk_at "Lo.q"
        · intro hb
          rw [hback] at hb
          simp at hb
        intro _
        refine s_app (v := .int 0) (c_var rfl) c_c Up1.head (by rw [List.length_map]; have := sizeLine_eq; omega) ?_
        dsimp only
        refine nf_drop (L' := [(pd, .lst (fs.map V.int)), (pl, .lst [u1, u2, .int 1]), (pw, .lst W)]) (.cons _ (List.Sublist.refl _)) ?_
        exact ⟨rfl, _, _, rfl⟩
      · rintro σ' A' ⟨rfl, x6, x7, rfl⟩
        dsimp only
        refine nf_drop (L' := [(pl, .lst [u1, u2, .int 1]), (pw, .lst W)]) (.cons _ (List.Sublist.refl _)) ?_
        exact ⟨rfl, _, _, _, _, rfl⟩
    · rintro pl σ' A' ⟨rfl, x4, x5, x6, x7, rfl⟩
      walk_at "Lo.ret"
def dd_written : He.DefD := ⟨("written", none), "written", "written", defArgs s_written, defBody s_written, defScope s_written, [], []⟩
def dd_read_bits : He.DefD := ⟨("read_bits", none), "read_bits", "read_bits", defArgs s_read_bits, defBody s_read_bits, defScope s_read_bits, [], []⟩
def dd_l_mix : He.DefD := ⟨("_law_mix", none), "_law_mix", "_law_mix", defArgs s_l_mix, defBody s_l_mix, defScope s_l_mix, [], []⟩
def dd_l_raw : He.DefD := ⟨("_law_raw", none), "_law_raw", "_law_raw", defArgs s_l_raw, defBody s_l_raw, defScope s_l_raw, [], []⟩
def dd_l_cell : He.DefD := ⟨("_law_cell", none), "_law_cell", "_law_cell", defArgs s_l_cell, defBody s_l_cell, defScope s_l_cell, [], []⟩
def dd_l_great : He.DefD := ⟨("_law_great", none), "_law_great", "_law_great", defArgs s_l_great, defBody s_l_great, defScope s_l_great, [], []⟩
def dd_l_cells : He.DefD := ⟨("_law_cells", none), "_law_cells", "_law_cells", defArgs s_l_cells, defBody s_l_cells, defScope s_l_cells, [], []⟩
def dd_l_same : He.DefD := ⟨("_law_same", none), "_law_same", "_law_same", defArgs s_l_same, defBody s_l_same, defScope s_l_same, [], []⟩
def dd_l_row : He.DefD := ⟨("_law_row", none), "_law_row", "_law_row", defArgs s_l_row, defBody s_l_row, defScope s_l_row, [], []⟩
def dd_l_numbers : He.DefD := ⟨("_law_numbers", none), "_law_numbers", "_law_numbers", defArgs s_l_numbers, defBody s_l_numbers, defScope s_l_numbers, [], []⟩
def dd_law : He.DefD := ⟨("law", none), "law", "law", defArgs s_law, defBody s_law, defScope s_law, [], []⟩
def fn0 : List He.DefD := [dd_written, dd_read_bits, dd_l_mix, dd_l_raw, dd_l_cell, dd_l_great, dd_l_cells, dd_l_same, dd_l_row, dd_l_numbers, dd_law]
def fn : List He.DefD := fn0
def fa0 : List He.Fa := [.glo "written", .glo "read_bits", .glo "_law_mix", .glo "_law_raw", .glo "_law_cell", .glo "_law_great", .glo "_law_cells", .glo "_law_same", .glo "_law_row", .glo "_law_numbers", .glo "law", .free "ValueError", .free "bool", .free "enumerate", .free "int", .free "isinstance", .free "len", .free "list", .free "max", .free "min", .free "range"]
def fa : List He.Fa := fa0
def ls0 : List PySem.Str := ["LodgeError", "NoBits", "written", "read_bits", "_law_mix", "_law_raw", "_law_cell", "_law_great", "_law_cells", "_law_same", "_law_row", "_law_numbers"]
def ls : List PySem.Str := ls0
abbrev R : PySem.W.OpenRow := PySem.W.OpenLaw.row PySem.Challenge.rw_lodge_k12_read_back
abbrev hk : PySem.W.Hook := He.hookD 4 fa fn
def ob (s : PySem.W.SharedT) : He.AlD := He.obsDG 4 fa fn (HandSHeadRun.getT s)
theorem ob_eq (s : PySem.W.SharedT) : ob s = hk.obs s.abs := He.obsDG_eq (HandSHeadRun.getT_eq s)
theorem run (w : World) : HandSHeadRun.RunEq R (PySem.W.view R.prog [15]) hk ob 840 ls w := by
  intro os
  kernel_rfl
theorem txt {K : PySem.W.Frag} {h : Heap} {mg : Str → Option Value} (X : K.In h) (G : h.Ns mainGlobals mg) (c : He.SaysD fa fn K) : Nonempty (Txt K mg) := by
  obtain ⟨fd_written, F_written⟩ := c.def_ 0 (d := dd_written) rfl
  obtain ⟨fd_read_bits, F_read_bits⟩ := c.def_ 1 (d := dd_read_bits) rfl
  obtain ⟨fd_l_mix, F_l_mix⟩ := c.def_ 2 (d := dd_l_mix) rfl
  obtain ⟨fd_l_raw, F_l_raw⟩ := c.def_ 3 (d := dd_l_raw) rfl
  obtain ⟨fd_l_cell, F_l_cell⟩ := c.def_ 4 (d := dd_l_cell) rfl
  obtain ⟨fd_l_great, F_l_great⟩ := c.def_ 5 (d := dd_l_great) rfl
  obtain ⟨fd_l_cells, F_l_cells⟩ := c.def_ 6 (d := dd_l_cells) rfl
  obtain ⟨fd_l_same, F_l_same⟩ := c.def_ 7 (d := dd_l_same) rfl
  obtain ⟨fd_l_row, F_l_row⟩ := c.def_ 8 (d := dd_l_row) rfl
  obtain ⟨fd_l_numbers, F_l_numbers⟩ := c.def_ 9 (d := dd_l_numbers) rfl
  obtain ⟨fd_law, F_law⟩ := c.def_ 10 (d := dd_law) rfl
  exact ⟨{
    d_written := ⟨_, fd_written, F_written, FunD.bindsN F_written (fun _ _ _ _ _ _ us hl => match us, hl with | [_, _], _ => rfl)⟩,
    g_written := He.glo_ok X G (c.fact 0 (f := .glo "written") rfl),
    d_read_bits := ⟨_, fd_read_bits, F_read_bits, FunD.bindsN F_read_bits (fun _ _ _ _ _ _ us hl => match us, hl with | [_, _], _ => rfl)⟩,
    g_read_bits := He.glo_ok X G (c.fact 1 (f := .glo "read_bits") rfl),
    d_l_mix := ⟨_, fd_l_mix, F_l_mix, FunD.bindsN F_l_mix (fun _ _ _ _ _ _ us hl => match us, hl with | [_, _], _ => rfl)⟩,
    g_l_mix := He.glo_ok X G (c.fact 2 (f := .glo "_law_mix") rfl),
    d_l_raw := ⟨_, fd_l_raw, F_l_raw, FunD.bindsN F_l_raw (fun _ _ _ _ _ _ us hl => match us, hl with | [_, _], _ => rfl)⟩,
    g_l_raw := He.glo_ok X G (c.fact 3 (f := .glo "_law_raw") rfl),
    d_l_cell := ⟨_, fd_l_cell, F_l_cell, FunD.bindsN F_l_cell (fun _ _ _ _ _ _ us hl => match us, hl with | [_, _], _ => rfl)⟩,
    g_l_cell := He.glo_ok X G (c.fact 4 (f := .glo "_law_cell") rfl),
    d_l_great := ⟨_, fd_l_great, F_l_great, FunD.bindsN F_l_great (fun _ _ _ _ _ _ us hl => match us, hl with | [_], _ => rfl)⟩,
    g_l_great := He.glo_ok X G (c.fact 5 (f := .glo "_law_great") rfl),
    d_l_cells := ⟨_, fd_l_cells, F_l_cells, FunD.bindsN F_l_cells (fun _ _ _ _ _ _ us hl => match us, hl with | [_, _, _], _ => rfl)⟩,
    g_l_cells := He.glo_ok X G (c.fact 6 (f := .glo "_law_cells") rfl),
    d_l_same := ⟨_, fd_l_same, F_l_same, FunD.bindsN F_l_same (fun _ _ _ _ _ _ us hl => match us, hl with | [_, _], _ => rfl)⟩,
    g_l_same := He.glo_ok X G (c.fact 7 (f := .glo "_law_same") rfl),
    d_l_row := ⟨_, fd_l_row, F_l_row, FunD.bindsN F_l_row (fun _ _ _ _ _ _ us hl => match us, hl with | [_], _ => rfl)⟩,
    g_l_row := He.glo_ok X G (c.fact 8 (f := .glo "_law_row") rfl),
    d_l_numbers := ⟨_, fd_l_numbers, F_l_numbers, FunD.bindsN F_l_numbers (fun _ _ _ _ _ _ us hl => match us, hl with | [_, _], _ => rfl)⟩,
    g_l_numbers := He.glo_ok X G (c.fact 9 (f := .glo "_law_numbers") rfl),
    d_law := ⟨_, fd_law, F_law, FunD.bindsN F_law (fun _ _ _ _ _ _ us hl => match us, hl with | [_], _ => rfl)⟩,
    g_law := He.glo_ok X G (c.fact 10 (f := .glo "law") rfl),
    z_ValueError := He.free_ok X G (c.fact 11 (f := .free "ValueError") rfl),
    z_bool := He.free_ok X G (c.fact 12 (f := .free "bool") rfl),
    z_enumerate := He.free_ok X G (c.fact 13 (f := .free "enumerate") rfl),
    z_int := He.free_ok X G (c.fact 14 (f := .free "int") rfl),
    z_isinstance := He.free_ok X G (c.fact 15 (f := .free "isinstance") rfl),
    z_len := He.free_ok X G (c.fact 16 (f := .free "len") rfl),
    z_list := He.free_ok X G (c.fact 17 (f := .free "list") rfl),
    z_max := He.free_ok X G (c.fact 18 (f := .free "max") rfl),
    z_min := He.free_ok X G (c.fact 19 (f := .free "min") rfl),
    z_range := He.free_ok X G (c.fact 20 (f := .free "range") rfl)}⟩
theorem walk_end {l : PySem.W.OpenLaw} {n k : Nat} {q : Program} {loose : List Str} {XP : (Str → Option Value) → Heap → Prop} {YP : World → Heap → Prop} {d : DefRec} {CX : World → CXT} {x : Str}
    (hn : l.most = some n) (hs : n ≤ sizeLine) (hd : d.params.defaults = []) (hr : Room k callerA)
    (F : ∀ (w : World) (mg : Str → Option Value) (fa : Addr) (h : Heap), YP w h → h.Ns mainGlobals mg → mg d.name = some (.ref fa) → ∃ (K : PySem.W.Frag) (fd : FuncData) (sp : Sp), K.In h ∧
      (∀ (s : Shared) (u : Value), BindsTo s fd ⟨[u], []⟩ [(x, u)]) ∧ (∀ (H : Hp) (a : Addr) (ns : List Int), ns.length ≤ n → SqL K H a (ns.map V.int) → sp [.ref a] H (fun v _ => v = .bl true) fun _ _ _ => False) ∧
      ∀ base : Heap, K.In base → base.Ns mainGlobals mg → FnOk l.prog w K mg base (CX w) k fa fd [x] sp)
    (hx : ∀ (w : World) (H : Hp) (s : Shared) (e : Value) (t : Shared), CX w [] H s (fun _ _ _ => False) e t → False) : PySem.W.WalkO q loose XP YP l.row.toRowW d [] (fun f vs => PySem.call f vs) :=
  Att.attach_call hn hd fun w _ st mg _ fa _ _ _ _ a _ ns G Y _ _ _ hm ho hi hl hg => by
    obtain ⟨K, fd, sp, X, hb, hp, ok⟩ := F w mg fa _ Y G.T.g hm
    exact law_call X G.T.g G.T.b G.T.builtins G.T.nolimit hg ho hi (Nat.le_trans hl hs) hr ok hb (fun H _ h => hp H a ns hl h) fun H e t => hx w H st e t
end Lo
open PySem PySem.W PySem.Calls PyProof.Rows
theorem PySem.Challenge.cw_lodge_k12_read_back_holds : PySem.Challenge.rw_lodge_k12_read_back.Holds := by
  w_on; o_law
  refine HandSHeadRun.head_any (r := OpenLaw.row PySem.Challenge.rw_lodge_k12_read_back) (q := view (OpenLaw.row PySem.Challenge.rw_lodge_k12_read_back).prog [15]) (H := Lo.hk) (ob := Lo.ob) (M := 840) (loose := Lo.ls) (d := HandSHeadRun.topDef (OpenLaw.row PySem.Challenge.rw_lodge_k12_read_back).prog 15) (kwd := []) Lo.ob_eq
    (by kernel_rfl) (fun s => by kernel_rfl) Lo.run (by kernel_rfl) (by kernel_rfl) (by kernel_rfl) (by rfl) (by first | assumption | decide +kernel) (by decide +kernel) ⟨rfl, rfl, rfl, rfl, rfl, by decide +kernel⟩ ?hw ?hc
  case hw => w_witness2
  case hc =>
    refine Lo.walk_end (l := PySem.Challenge.rw_lodge_k12_read_back) (n := 63) (k := 5) (x := "_law_script") (CX := L2.CX PySem.Challenge.rw_lodge_k12_read_back.prog) rfl (by decide) (by kernel_rfl) ⟨rfl, by decide, by decide⟩ ?F (fun w H s e t z => by
      obtain ⟨_, _, _, _, _, _, _, _, _, _, _, _, z⟩ := z
      exact z)
    intro w mg fa h Y G hmg0
    obtain ⟨K, KX, c⟩ := Y
    have hmg : mg ("law" : PySem.Str) = some (.ref fa) := by
      have e : (HandSHeadRun.topDef (OpenLaw.row PySem.Challenge.rw_lodge_k12_read_back).prog 15).name = ("law" : PySem.Str) := by kernel_rfl
      rw [← e]
      exact hmg0
    obtain ⟨T⟩ := Lo.txt KX G c
    have e := hmg.symm.trans T.g_law
    cases e
    have b := L2.FunD.bindsA (ps := ["_law_script"]) T.d_law.F fun _ _ _ _ _ _ us hl => match us, hl with | [_], _ => rfl
    exact ⟨K, T.d_law.fd, Lo.sp_law K, KX, fun s v => b s [v] rfl, fun H a ns hl hS => ⟨a, ns, rfl, hS, hl, fun _ _ => rfl⟩, fun base _ _ => Lo.ok_law T⟩
