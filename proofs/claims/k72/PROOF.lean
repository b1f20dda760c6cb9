import PyProof.Rows.All
import Wide.All
import OpenK.AllK
import Wide.FinOn
import HandS.Base
import HandS.Call
import HandS.List
import HandS.Comp
import HandS.Ends
import HandS.Dict
import HandS.Iter
import HandS.Text
import HandS.Words
import HandS.WordsList
import HandS.WordsDict
import HandS.Wide
import HandS.WideBits
import HandS.IsInst
import HandS.Defaults
import HandS.WordsExc
import HandS.Conv
import HandS.Walk
import HandS.Codes
import HandS.TryOnly
import HandS.Replace
import HandS.HeadHook1
import PyProof.StrOps2
import HandS.SetFor
import HandS.ExcOwn
import HandS.ExcInit
import HandS.SortInts
import HandS.Zip
import HandS.HotCalls
import HandS.ExcIs
import HandS.ExcField
import HandS.TryOnly
import HandS.HeadHook2
import HandS.TryMany
import HandS.Strs
import HandS.ClsMeth
import KE.KIndexOf
import HandS.ReCall
import PyProof.Rows.ChunkEnd
import HandS.Style
import PyProof.WalkInts
import HandS.Rev
import HandS.RevTup
import HandS.TupAny
import HandS.Conv
import HandS.ExcCtx
import HandS.Deep
import HandS.SortOrd
import HandS.SortRule
import HandS.DictComp
import KE.KDictList
import KE.KStateDown
import HandS.Head0
import HandS.Head1
import HandS.Head2
import HandS.HeadEnd
import HandS.HeadHook1
import HandS.HeadHook2
import PySem.Challenge.RW_lodge_k72_fewest_changes
set_option Elab.async false
set_option linter.all false
set_option maxRecDepth 100000
set_option maxHeartbeats 4000000
namespace Lo
open PySem L2
/-! ### assertions about the heap that stand when it grows -/
structure Asr where
  P : Hp → Prop
  st : ∀ H H', P H → Same H H' → P H'
theorem same_new {H : Hp} {p : Addr} {o : HO} (h : H p = none) : Same H (upd H p o) := fun b x e => by
  rw [upd_ne (ne_of_none e h)]
  exact e
/-- the assertion A, and: o stands at p -/
def Asr.kn (A : Asr) (p : Addr) (o : HO) : Asr := ⟨fun H => A.P H ∧ H p = some o, fun H H' h e => ⟨A.st H H' h.1 e, e p o h.2⟩⟩
/-- A tells that o stands at p | that a list, a tuple of xs is to be read at p -/
def Kn (A : Asr) (p : Addr) (o : HO) : Prop := ∀ H, A.P H → H p = some o
def KnL (K : PySem.W.Frag) (A : Asr) (p : Addr) (xs : List V) : Prop := ∀ H, A.P H → SqL K H p xs
def KnT (K : PySem.W.Frag) (A : Asr) (p : Addr) (xs : List V) : Prop := ∀ H, A.P H → SqT K H p xs
theorem kn_kn {A : Asr} {p : Addr} {o : HO} : Kn (A.kn p o) p o := fun _ h => h.2
theorem kn_up {A : Asr} {p q : Addr} {o u : HO} (h : Kn A p o) : Kn (A.kn q u) p o := fun H k => h H k.1
theorem knl_of {K : PySem.W.Frag} {A : Asr} {p : Addr} {xs : List V} (h : Kn A p (.lst xs)) : KnL K A p xs := fun H k => SqL.of (h H k)
theorem knt_of {K : PySem.W.Frag} {A : Asr} {p : Addr} {xs : List V} (h : Kn A p (.tup xs)) : KnT K A p xs := fun H k => SqT.of (h H k)
theorem knl_up {K : PySem.W.Frag} {A : Asr} {p q : Addr} {u : HO} {xs : List V} (h : KnL K A p xs) : KnL K (A.kn q u) p xs := fun H k => h H k.1
theorem knt_up {K : PySem.W.Frag} {A : Asr} {p q : Addr} {u : HO} {xs : List V} (h : KnT K A p xs) : KnT K (A.kn q u) p xs := fun H k => h H k.1

/-! ### the heap by a stable part S and a ledger L of objects of one's own -/
structure AtP (S0 E0 S : Hp) (L : List (Addr × HO)) (H : Hp) : Prop where
  s0 : Same S0 S
  e0 : Same E0 H
  sh : Same S H
  nw : ∀ a, S0 a = none → E0 a ≠ none → S a = none
  ow : ∀ q ∈ L, H q.1 = some q.2 ∧ S q.1 = none ∧ E0 q.1 = none
  nd : (L.map (·.1)).Nodup
theorem AtP.ext {S0 E0 S H H' : Hp} {L : List (Addr × HO)} (h : AtP S0 E0 S L H) (e : Same H H') : AtP S0 E0 S L H' :=
  ⟨h.s0, h.e0.trans e, h.sh.trans e, h.nw, fun q hq => ⟨e _ _ (h.ow q hq).1, (h.ow q hq).2⟩, h.nd⟩
def at_ (S0 E0 S : Hp) (L : List (Addr × HO)) : Asr := ⟨AtP S0 E0 S L, fun _ _ h e => h.ext e⟩
theorem at_start {S H : Hp} (h : Same S H) : AtP S H S [] H := ⟨Same.refl S, Same.refl H, h, fun _ h _ => h, fun _ hq => absurd hq (List.not_mem_nil), List.nodup_nil⟩
section
variable {S0 E0 S S' H H' : Hp} {L L' : List (Addr × HO)} {p : Addr} {o u : HO} {K : PySem.W.Frag} {xs : List V}
theorem kn_S (h : S p = some o) : Kn (at_ S0 E0 S L) p o := fun _ k => k.sh _ _ h
theorem kn_L (h : (p, o) ∈ L) : Kn (at_ S0 E0 S L) p o := fun _ k => (k.ow _ h).1
theorem knl_S (h : SqL K S p xs) : KnL K (at_ S0 E0 S L) p xs := fun _ k => k.sh.seq h
theorem sqt_same {H H' : Hp} (e : Same H H') (h : SqT K H p xs) : SqT K H' p xs := by
  rcases h with (h | ⟨o, h⟩) | h
  · exact .inl (.inl (e _ _ h))
  · exact .inl (.inr ⟨o, e _ _ h⟩)
  · exact .inr h
theorem knt_S (h : SqT K S p xs) : KnT K (at_ S0 E0 S L) p xs := fun _ k => sqt_same k.sh h
/-- a new object of one's own -/
theorem AtP.own (h : AtP S0 E0 S L H) (hp : H p = none) (e : Same H H') (ho : H' p = some o) : AtP S0 E0 S ((p, o) :: L) H' := by
  have h' := h.ext e
  have hS : S p = none := h.sh.free hp
  have hE : E0 p = none := h.e0.free hp
  refine ⟨h'.s0, h'.e0, h'.sh, h'.nw, fun q hq => ?_, ?_⟩
  · rcases List.mem_cons.mp hq with rfl | hq
    · exact ⟨ho, hS, hE⟩
    · exact h'.ow q hq
  · rw [List.map_cons, List.nodup_cons]
    refine ⟨fun hm => ?_, h.nd⟩
    obtain ⟨q, hq, e1⟩ := List.mem_map.mp hm
    have z := (h.ow q hq).1
    rw [e1, hp] at z
    cases z
/-- an object of one's own is written -/
inductive Up1 (p : Addr) (o u : HO) : List (Addr × HO) → List (Addr × HO) → Prop
  | head {L : List (Addr × HO)} : Up1 p o u ((p, o) :: L) ((p, u) :: L)
  | tail {q : Addr × HO} {L L' : List (Addr × HO)} (h : Up1 p o u L L') : Up1 p o u (q :: L) (q :: L')
theorem Up1.keys (h : Up1 p o u L L') : L'.map (·.1) = L.map (·.1) := by
  induction h with
  | head => rfl
  | tail _ ih => rw [List.map_cons, List.map_cons, ih]
theorem Up1.mem (h : Up1 p o u L L') : (p, o) ∈ L := by
  induction h with
  | head => exact List.mem_cons_self
  | tail _ ih => exact List.mem_cons_of_mem _ ih
theorem Up1.new (h : Up1 p o u L L') (nd : (L.map (·.1)).Nodup) : ∀ q ∈ L', q = (p, u) ∨ (q ∈ L ∧ q.1 ≠ p) := by
  induction h with
  | head =>
    intro q hq
    rcases List.mem_cons.mp hq with e | hq
    · exact .inl e
    · refine .inr ⟨List.mem_cons_of_mem _ hq, fun e => ?_⟩
      rw [List.map_cons, List.nodup_cons] at nd
      exact nd.1 (List.mem_map.mpr ⟨q, hq, e⟩)
  | @tail r L L' h ih =>
    intro q hq
    rw [List.map_cons, List.nodup_cons] at nd
    rcases List.mem_cons.mp hq with e | hq
    · subst e
      refine .inr ⟨List.mem_cons_self, fun e => nd.1 ?_⟩
      rw [e]
      exact List.mem_map.mpr ⟨(p, o), h.mem, rfl⟩
    · rcases ih nd.2 q hq with e | ⟨h1, h2⟩
      · exact .inl e
      · exact .inr ⟨List.mem_cons_of_mem _ h1, h2⟩
theorem AtP.put (h : AtP S0 E0 S L H) (k : Up1 p o u L L') : AtP S0 E0 S L' (upd H p u) := by
  obtain ⟨h1, h2, h3⟩ := h.ow _ k.mem
  refine ⟨h.s0, fun a x e => ?_, fun a x e => ?_, h.nw, fun q hq => ?_, ?_⟩
  · rw [upd_ne (ne_of_none e h3)]
    exact h.e0 a x e
  · rw [upd_ne (ne_of_none e h2)]
    exact h.sh a x e
  · rcases k.new h.nd q hq with e | ⟨m, ne⟩
    · subst e
      exact ⟨upd_same, h2, h3⟩
    · obtain ⟨g1, g2⟩ := h.ow q m
      exact ⟨by rw [upd_ne ne]; exact g1, g2⟩
  · rw [k.keys]
    exact h.nd
theorem AtP.drop (h : AtP S0 E0 S L H) (k : L'.Sublist L) : AtP S0 E0 S L' H :=
  ⟨h.s0, h.e0, h.sh, h.nw, fun q hq => h.ow q (k.subset hq), h.nd.sublist (k.map _)⟩
/-- behind a call that grew the stable part -/
theorem AtP.call (h : AtP S0 E0 S L H) (c : AtP S H S' L' H') : AtP S0 E0 S' (L' ++ L) H' := by
  refine ⟨h.s0.trans c.s0, h.e0.trans c.e0, c.sh, fun a h1 h2 => ?_, fun q hq => ?_, ?_⟩
  · have z : E0 a ≠ none := h2
    cases e : E0 a with
    | none => exact absurd e z
    | some x => exact c.nw a (h.nw a h1 h2) (by rw [h.e0 a x e]; intro y; cases y)
  · rcases List.mem_append.mp hq with hq | hq
    · obtain ⟨g1, g2, g3⟩ := c.ow q hq
      exact ⟨g1, g2, h.e0.free g3⟩
    · obtain ⟨g1, g2, g3⟩ := h.ow q hq
      exact ⟨c.e0 _ _ g1, c.nw _ g2 (by rw [g1]; intro y; cases y), g3⟩
  · rw [List.map_append, List.nodup_append]
    refine ⟨c.nd, h.nd, fun a ha b hb e => ?_⟩
    subst e
    obtain ⟨q, hq, e1⟩ := List.mem_map.mp ha
    obtain ⟨r, hr, e2⟩ := List.mem_map.mp hb
    have z1 := (c.ow q hq).2.2
    have z2 := (h.ow r hr).1
    rw [e1] at z1
    rw [e2, z1] at z2
    cases z2
/-- an object of one's own becomes a stable one -/
theorem AtP.keep (h : AtP S0 E0 S ((p, o) :: L) H) : AtP S0 E0 (upd S p o) L H := by
  obtain ⟨h1, h2, h3⟩ := h.ow _ List.mem_cons_self
  have nd := h.nd
  rw [List.map_cons, List.nodup_cons] at nd
  refine ⟨h.s0.trans (same_new h2), h.e0, fun a x e => ?_, fun a g1 g2 => ?_, fun q hq => ?_, nd.2⟩
  · by_cases ha : a = p
    · rw [ha, upd_same] at e
      cases e
      rw [ha]
      exact h1
    · rw [upd_ne ha] at e
      exact h.sh a x e
  · have na : a ≠ p := fun e => by rw [e] at g2; exact g2 h3
    rw [upd_ne na]
    exact h.nw a g1 g2
  · have hq' := h.ow q (List.mem_cons_of_mem _ hq)
    have ne : q.1 ≠ p := fun e => nd.1 (List.mem_map.mpr ⟨q, hq, e⟩)
    exact ⟨hq'.1, by rw [upd_ne ne]; exact hq'.2.1, hq'.2.2⟩
end

/-! ### what a computation comes to -/
/-- a computation: what must hold of the heap so that its end is as wished -/
abbrev Cm := Hp → VK → Prop
abbrev CmB := Hp → (Bool → Hp → Prop) → Prop
abbrev CmA := Hp → (List V → Hp → Prop) → Prop
abbrev CmO := Hp → (Option Int → Hp → Prop) → Prop
def Cv (c : Cm) (A : Asr) (v : V) : Prop := ∀ H, A.P H → ∀ Q : VK, (∀ H', Same H H' → Q v H') → c H Q
/-- a new object -/
def Cn (c : Cm) (A : Asr) (o : HO) : Prop := ∀ H, A.P H → ∀ Q : VK, (∀ p H', H p = none → Same H H' → H' p = some o → Q (.ref p) H') → c H Q
/-- a test -/
def Ct (c : CmB) (A : Asr) (b : Bool) : Prop := ∀ H, A.P H → ∀ Q : Bool → Hp → Prop, (∀ H', Same H H' → Q b H') → c H Q
/-- arguments -/
def Ca (c : CmA) (A : Asr) (vs : List V) : Prop := ∀ H, A.P H → ∀ Q : List V → Hp → Prop, (∀ H', Same H H' → Q vs H') → c H Q
/-- a slice's part -/
def Co (c : CmO) (A : Asr) (o : Option Int) : Prop := ∀ H, A.P H → ∀ Q : Option Int → Hp → Prop, (∀ H', Same H H' → Q o H') → c H Q
abbrev Cl (c : Cm) (A : Asr) (xs : List V) : Prop := Cn c A (.lst xs)
abbrev Cu (c : Cm) (A : Asr) (xs : List V) : Prop := Cn c A (.tup xs)
section
variable {K : PySem.W.Frag} {σ : L2.St} {A : Asr} {ta tb te : TE} {x y z v w : V} {xs ys : List V} {o u : HO}
theorem cv_is {c : Cm} (h : Cv c A v) (e : v = w) : Cv c A w := e ▸ h
theorem ct_is {c : CmB} {a b : Bool} (h : Ct c A a) (e : a = b) : Ct c A b := e ▸ h
theorem cn_is {c : Cm} (h : Cn c A o) (e : o = u) : Cn c A u := e ▸ h
theorem cl_is {c : Cm} (h : Cl c A xs) (e : xs = ys) : Cl c A ys := e ▸ h
/-! binds: what follows as a function of the value -/
theorem cv_bind {c : Cm} {k : V → Cm} (h : Cv c A x) (hk : Cv (k x) A v) : Cv (fun H Q => c H fun y H1 => k y H1 Q) A v := fun H a Q q =>
  h H a _ fun H1 e1 => hk H1 (A.st _ _ a e1) Q fun H2 e2 => q H2 (e1.trans e2)
theorem cv_bindN {c : Cm} {k : V → Cm} (h : Cn c A o) (hk : ∀ p, Cv (k (.ref p)) (A.kn p o) v) : Cv (fun H Q => c H fun y H1 => k y H1 Q) A v := fun H a Q q =>
  h H a _ fun p H1 _ e1 hp => hk p H1 ⟨A.st _ _ a e1, hp⟩ Q fun H2 e2 => q H2 (e1.trans e2)
theorem cn_bind {c : Cm} {k : V → Cm} (h : Cv c A x) (hk : Cn (k x) A u) : Cn (fun H Q => c H fun y H1 => k y H1 Q) A u := fun H a Q q =>
  h H a _ fun H1 e1 => hk H1 (A.st _ _ a e1) Q fun p H2 n e2 => q p H2 (e1.free n) (e1.trans e2)
theorem cn_bindN {c : Cm} {k : V → Cm} (h : Cn c A o) (hk : ∀ p, Cn (k (.ref p)) (A.kn p o) u) : Cn (fun H Q => c H fun y H1 => k y H1 Q) A u := fun H a Q q =>
  h H a _ fun p H1 _ e1 hp => hk p H1 ⟨A.st _ _ a e1, hp⟩ Q fun r H2 n e2 => q r H2 (e1.free n) (e1.trans e2)
theorem ct_bind {c : Cm} {k : V → CmB} {b : Bool} (h : Cv c A x) (hk : Ct (k x) A b) : Ct (fun H Q => c H fun y H1 => k y H1 Q) A b := fun H a Q q =>
  h H a _ fun H1 e1 => hk H1 (A.st _ _ a e1) Q fun H2 e2 => q H2 (e1.trans e2)
theorem ct_bindN {c : Cm} {k : V → CmB} {b : Bool} (h : Cn c A o) (hk : ∀ p, Ct (k (.ref p)) (A.kn p o) b) : Ct (fun H Q => c H fun y H1 => k y H1 Q) A b := fun H a Q q =>
  h H a _ fun p H1 _ e1 hp => hk p H1 ⟨A.st _ _ a e1, hp⟩ Q fun H2 e2 => q H2 (e1.trans e2)
/-! leaves -/
theorem c_c : Cv (tC v σ) A v := fun H _ _ q => q H (Same.refl H)
theorem c_var {i : Nat} (h : σ[i]? = some (some v)) : Cv (tVar i σ) A v := fun H _ _ q => ⟨v, h, q H (Same.refl H)⟩
theorem c_nil : Ca (tNil σ) A [] := fun H _ _ q => q H (Same.refl H)
/-- arguments, one more -/
theorem c_cons {tr : TA} {vs : List V} (h : Cv (te σ) A x) (hr : Ca (tr σ) A vs) : Ca (tCons te tr σ) A (x :: vs) := fun H a Q q =>
  h H a _ fun H1 e1 => hr H1 (A.st _ _ a e1) _ fun H2 e2 => q H2 (e1.trans e2)
/-! two operands -/
theorem c_op {r : R2} (ha : Cv (ta σ) A x) (hb : Cv (tb σ) A y) (hr : Cv (r x y) A v) : Cv (tOp r ta tb σ) A v :=
  cv_bind (c := ta σ) (k := fun x H Q => tb σ H fun y H1 => r x y H1 Q) ha (cv_bind (c := tb σ) (k := fun y H Q => r x y H Q) hb hr)
theorem c_opNv {r : R2} (ha : Cn (ta σ) A o) (hb : ∀ p, Cv (tb σ) (A.kn p o) y) (hr : ∀ p, Cv (r (.ref p) y) (A.kn p o) v) : Cv (tOp r ta tb σ) A v :=
  cv_bindN (c := ta σ) (k := fun x H Q => tb σ H fun y H1 => r x y H1 Q) ha fun p => cv_bind (c := tb σ) (k := fun y H Q => r (.ref p) y H Q) (hb p) (hr p)
theorem c_opvN {r : R2} (ha : Cv (ta σ) A x) (hb : Cn (tb σ) A o) (hr : ∀ p, Cv (r x (.ref p)) (A.kn p o) v) : Cv (tOp r ta tb σ) A v :=
  cv_bind (c := ta σ) (k := fun x H Q => tb σ H fun y H1 => r x y H1 Q) ha (cv_bindN (c := tb σ) (k := fun y H Q => r x y H Q) hb hr)
theorem c_opNN {r : R2} (ha : Cn (ta σ) A o) (hb : ∀ p, Cn (tb σ) (A.kn p o) u) (hr : ∀ p q, Cv (r (.ref p) (.ref q)) ((A.kn p o).kn q u) v) : Cv (tOp r ta tb σ) A v :=
  cv_bindN (c := ta σ) (k := fun x H Q => tb σ H fun y H1 => r x y H1 Q) ha fun p => cv_bindN (c := tb σ) (k := fun y H Q => r (.ref p) y H Q) (hb p) (hr p)
theorem n_op {r : R2} {t : HO} (ha : Cv (ta σ) A x) (hb : Cv (tb σ) A y) (hr : Cn (r x y) A t) : Cn (tOp r ta tb σ) A t :=
  cn_bind (c := ta σ) (k := fun x H Q => tb σ H fun y H1 => r x y H1 Q) ha (cn_bind (c := tb σ) (k := fun y H Q => r x y H Q) hb hr)
theorem n_opNv {r : R2} {t : HO} (ha : Cn (ta σ) A o) (hb : ∀ p, Cv (tb σ) (A.kn p o) y) (hr : ∀ p, Cn (r (.ref p) y) (A.kn p o) t) : Cn (tOp r ta tb σ) A t :=
  cn_bindN (c := ta σ) (k := fun x H Q => tb σ H fun y H1 => r x y H1 Q) ha fun p => cn_bind (c := tb σ) (k := fun y H Q => r (.ref p) y H Q) (hb p) (hr p)
theorem n_opvN {r : R2} {t : HO} (ha : Cv (ta σ) A x) (hb : Cn (tb σ) A o) (hr : ∀ p, Cn (r x (.ref p)) (A.kn p o) t) : Cn (tOp r ta tb σ) A t :=
  cn_bind (c := ta σ) (k := fun x H Q => tb σ H fun y H1 => r x y H1 Q) ha (cn_bindN (c := tb σ) (k := fun y H Q => r x y H Q) hb hr)
theorem n_opNN {r : R2} {t : HO} (ha : Cn (ta σ) A o) (hb : ∀ p, Cn (tb σ) (A.kn p o) u) (hr : ∀ p q, Cn (r (.ref p) (.ref q)) ((A.kn p o).kn q u) t) : Cn (tOp r ta tb σ) A t :=
  cn_bindN (c := ta σ) (k := fun x H Q => tb σ H fun y H1 => r x y H1 Q) ha fun p => cn_bindN (c := tb σ) (k := fun y H Q => r (.ref p) y H Q) (hb p) (hr p)
/-- one operand -/
theorem c_un {r : V → Hp → VK → Prop} (ha : Cv (ta σ) A x) (hr : Cv (r x) A v) : Cv (tUn r ta σ) A v := cv_bind (k := fun y H Q => r y H Q) ha hr
/-! operations on values -/
theorem r_I0 {g : Int → Int → V} {i j : Int} : Cv (rI0 g (.int i) (.int j)) A (g i j) := fun H _ _ q => ⟨i, j, rfl, rfl, q H (Same.refl H)⟩
theorem r_I {C : Int → Int → Prop} {g : Int → Int → V} {i j : Int} (hc : C i j) : Cv (rI C g (.int i) (.int j)) A (g i j) := fun H _ _ q => ⟨i, j, rfl, rfl, hc, q H (Same.refl H)⟩
theorem r_U {g : Int → V} {i : Int} : Cv (rU g (.int i)) A (g i) := fun H _ _ q => ⟨i, rfl, q H (Same.refl H)⟩
end
end Lo
namespace Lo
open PySem L2
/-! ### operations whose rule goes by the operands -/
def rAddI : R2 := rI0 fun i j => .int (i + j)
def rAddS : R2 := fun x y H Q => ∃ i j, x = .str i ∧ y = .str j ∧ i.length + j.length ≤ sizeLine ∧ Q (.str (i ++ j)) H
def rAddA (K : PySem.W.Frag) : R2 := fun x y H Q => rAddI x y H Q ∨ rAddS x y H Q ∨ rCat x y H Q ∨ rCatT K x y H Q
def rMulI : R2 := rI CMul fun i j => .int (i * j)
def rMulX : R2 := rI CMulX fun i j => .int (i * j)
def rMulA : R2 := fun x y H Q => rMulI x y H Q ∨ rMulX x y H Q ∨ rRep x y H Q
def rEqA (K : PySem.W.Frag) : R2 := fun x y H Q => rEq x y H Q ∨ rEqD K x y H Q
def rNeA (K : PySem.W.Frag) : R2 := fun x y H Q => rNe x y H Q ∨ rNeD K x y H Q
def rIsN : R2 := fun x y H Q => y = .non ∧ Q (.bl (decide (x = .non))) H
def rNotN : R2 := fun x y H Q => y = .non ∧ Q (.bl (!decide (x = .non))) H
/-- x in d, a dict -/
def rInK : R2 := fun x y H Q => ∃ a o, y = .ref a ∧ DGet H a x o ∧ Q (.bl o.isSome) H
def rNinK : R2 := fun x y H Q => ∃ a o, y = .ref a ∧ DGet H a x o ∧ Q (.bl (!o.isSome)) H
def rInS : R2 := fun x y H Q => ∃ (c : Nat) (z : Str), x = .str ⟨#[c]⟩ ∧ y = .str z ∧ Q (.bl (decide (c ∈ z.cps.toList))) H
def rNinS : R2 := fun x y H Q => ∃ (c : Nat) (z : Str), x = .str ⟨#[c]⟩ ∧ y = .str z ∧ Q (.bl (!decide (c ∈ z.cps.toList))) H
def rInA (K : PySem.W.Frag) : R2 := fun x y H Q => rIn K false x y H Q ∨ rInK x y H Q ∨ rInS x y H Q
def rNinA (K : PySem.W.Frag) : R2 := fun x y H Q => rIn K true x y H Q ∨ rNinK x y H Q ∨ rNinS x y H Q
/-- d[k] of a dict -/
def rIxK : R2 := fun x y H Q => ∃ a v, x = .ref a ∧ DGet H a y (some v) ∧ Q v H
def rIxA (K : PySem.W.Frag) : R2 := fun x y H Q => rIxL K x y H Q ∨ rIxT K x y H Q ∨ rIxS x y H Q ∨ rIxK x y H Q
def rLenS (K : PySem.W.Frag) : List V → Hp → VK → Prop := fun xs H Q => ∃ p ys, xs = [.ref p] ∧ (SqL K H p ys ∨ SqT K H p ys) ∧ Q (.int ys.length) H
def rLenT : List V → Hp → VK → Prop := fun xs H Q => ∃ z, xs = [.str z] ∧ z.length ≤ sizeLine ∧ Q (.int z.length) H
def rLenK : List V → Hp → VK → Prop := fun xs H Q => ∃ d kvs, xs = [.ref d] ∧ H d = some (.dK kvs) ∧ Q (.int kvs.length) H
def rLenA (K : PySem.W.Frag) : List V → Hp → VK → Prop := fun xs H Q => rLenS K xs H Q ∨ rLenT xs H Q ∨ rLenK xs H Q
def rMax2 : List V → Hp → VK → Prop := fun xs H Q => ∃ i j, xs = [.int i, .int j] ∧ Q (.int (if j > i then j else i)) H
def rMin2 : List V → Hp → VK → Prop := fun xs H Q => ∃ i j, xs = [.int i, .int j] ∧ Q (.int (if j < i then j else i)) H
def rMaxA (K : PySem.W.Frag) : List V → Hp → VK → Prop := fun xs H Q => rMax2 xs H Q ∨ rMax K xs H Q
def rMinA (K : PySem.W.Frag) : List V → Hp → VK → Prop := fun xs H Q => rMin2 xs H Q ∨ rMin K xs H Q
def rSlA (K : PySem.W.Frag) : V → Option Int → Option Int → Hp → VK → Prop := fun x lo hi H Q => rSlL K x lo hi H Q ∨ rSlT K x lo hi H Q ∨ rSlS x lo hi H Q
section
variable {X : Cx}
theorem op_addA : OpR X (binaryOp .Add) (rAddA X.K) := op_add.or (op_add_str.or (op_cat.or op_catT))
theorem op_mulA : OpR X (binaryOp .Mult) rMulA := op_mul.or (op_mulX.or op_rep)
theorem op_eqA (hu : X.A.units + 64 < cLine) : OpR X (compareOp .Eq) (rEqA X.K) := op_eq.or (op_eqD hu)
theorem op_neA (hu : X.A.units + 64 < cLine) : OpR X (compareOp .NotEq) (rNeA X.K) := op_ne.or (op_neD hu)
theorem op_isA : OpR X (compareOp .Is) rIsN := op_isN
theorem op_isnotA : OpR X (compareOp .IsNot) rNotN := op_notN
theorem op_inK (hu : X.A.units + 1 < cLine) : OpR X (compareOp .In) rInK := by
  intro pins s σ H x y v u Q I rx ry h
  obtain ⟨a, o, rfl, g, q⟩ := h
  cases ry
  exact d_in hu I g rx fun s' J => ⟨.bl _, H, J, rfl, q⟩
theorem op_ninK (hu : X.A.units + 1 < cLine) : OpR X (compareOp .NotIn) rNinK := by
  intro pins s σ H x y v u Q I rx ry h
  obtain ⟨a, o, rfl, g, q⟩ := h
  cases ry
  exact d_notIn hu I g rx fun s' J => ⟨.bl _, H, J, rfl, q⟩
theorem op_inA (hu : X.A.units + 1 < cLine) : OpR X (compareOp .In) (rInA X.K) := op_in_seq.or ((op_inK hu).or op_in_sign)
theorem op_notinA (hu : X.A.units + 1 < cLine) : OpR X (compareOp .NotIn) (rNinA X.K) := op_notIn_seq.or ((op_ninK hu).or op_notIn_sign)
theorem ix_K (hu : X.A.units + 1 < cLine) : IxR X rIxK := by
  intro value slice pins s σ H x y v u Q I rx ry h hs
  obtain ⟨a, z, rfl, g, q⟩ := h
  cases rx
  exact PyProof.Rows.tail_any (dict_typeIs I g) PySem.F.slot_dict_getitem.lookup (d_getItem hu I g ry fun w' s' J rw' => ⟨z, H, J, rw', q⟩) hs
theorem ix_A (hu : X.A.units + 1 < cLine) : IxR X (rIxA X.K) := ix_list.or (ix_tup.or (ix_str.or (ix_K hu)))
theorem call_lenA : CallR X (.builtin "len") (rLenA X.K) := call_len_seq.or (call_len_str.or call_lenD)
theorem call_maxA (hc : X.calm = true) : CallR X (.builtin "max") (rMaxA X.K) := (call_max2 hc).or (cr_max hc)
theorem call_minA (hc : X.calm = true) : CallR X (.builtin "min") (rMinA X.K) := (call_min2 hc).or (cr_min hc)
theorem sl_A : SlR X (rSlA X.K) := sl_list.or (sl_tup.or sl_str)
/-- d[k] = v, l[i] = v -/
def rSetK : V → V → V → Hp → (Hp → Prop) → Prop := fun o i v H Q => ∃ a H', o = .ref a ∧ DPut H a i v H' ∧ Q H'
def rSetA : V → V → V → Hp → (Hp → Prop) → Prop := fun o i v H Q => rSetL o i v H Q ∨ rSetK o i v H Q
theorem set_A (hu : X.A.units + 1 < cLine) : PSet X rSetA := by
  intro pins s σ H o i v ov iv u Q I ro ri rv h
  rcases h with h | ⟨a, H', rfl, g, q⟩
  · exact set_list pins s σ H o i v ov iv u Q I ro ri rv h
  · cases ro
    exact d_setItem hu I g ri rv fun s' J => ⟨H', J, q⟩
end
theorem cdiv_of {i j : Int} (h : 0 < j) (h2 : j < 1000000000000000000000000000000000000000000000000000000000000) : CDivW i j := wide_div (b := 200) h (by omega) (by decide) (by decide)
theorem cmul_l {i j : Int} (h : -18446744073709551616 < i) (h2 : i < 18446744073709551616) : CMul i j := .inl ⟨by omega, by omega⟩
theorem cmul_r {i j : Int} (h : -18446744073709551616 < j) (h2 : j < 18446744073709551616) : CMul i j := .inr ⟨by omega, by omega⟩
/-! ### what they come to -/
section
variable {K : PySem.W.Frag} {A : Asr} {x y z v : V} {i j : Int} {a b : Str} {p q : Addr} {xs ys : List V} {kvs : List (Key × V)}
theorem e_addI : Cv (rAddA K (.int i) (.int j)) A (.int (i + j)) := fun H _ _ q => .inl ⟨i, j, rfl, rfl, q H (Same.refl H)⟩
theorem e_addS (h : a.length + b.length ≤ sizeLine) : Cv (rAddA K (.str a) (.str b)) A (.str (a ++ b)) := fun H _ _ q => .inr (.inl ⟨a, b, rfl, rfl, h, q H (Same.refl H)⟩)
theorem e_cat (h1 : Kn A p (.lst xs)) (h2 : Kn A q (.lst ys)) (hz : xs.length + ys.length ≤ sizeLine) : Cn (rAddA K (.ref p) (.ref q)) A (.lst (xs ++ ys)) := fun H a _ k =>
  .inr (.inr (.inl ⟨p, q, xs, ys, rfl, rfl, h1 H a, h2 H a, hz, fun r hr => k r _ hr (same_new hr) upd_same⟩))
theorem e_mul (h : CMul i j) : Cv (rMulA (.int i) (.int j)) A (.int (i * j)) := fun H _ _ q => .inl ⟨i, j, rfl, rfl, h, q H (Same.refl H)⟩
theorem e_mulX (h : CMulX i j) : Cv (rMulA (.int i) (.int j)) A (.int (i * j)) := fun H _ _ q => .inr (.inl ⟨i, j, rfl, rfl, h, q H (Same.refl H)⟩)
theorem e_rep (h : Kn A p (.lst xs)) (h0 : -(2 ^ 63) ≤ i) (h1 : i < 2 ^ 63) (hz : xs.length * i.toNat ≤ sizeLine) : Cn (rMulA (.ref p) (.int i)) A (.lst (List.replicate i.toNat xs).flatten) := fun H a _ k =>
  .inr (.inr ⟨p, i, xs, rfl, rfl, h H a, h0, h1, hz, fun r hr => k r _ hr (same_new hr) upd_same⟩)
theorem e_eqI : Cv (rEqA K (.int i) (.int j)) A (.bl (decide (i = j))) := fun H _ _ q => .inl ⟨rfl, by
  have e : decide (V.int i = V.int j) = decide (i = j) := by rw [dec_int, Bool.beq_eq_decide_eq]
  rw [e]
  exact q H (Same.refl H)⟩
theorem e_neI : Cv (rNeA K (.int i) (.int j)) A (.bl (!decide (i = j))) := fun H _ _ q => .inl ⟨rfl, by
  have e : decide (V.int i = V.int j) = decide (i = j) := by rw [dec_int, Bool.beq_eq_decide_eq]
  rw [e]
  exact q H (Same.refl H)⟩
theorem e_eqS : Cv (rEqA K (.str a) (.str b)) A (.bl (decide (a = b))) := fun H _ _ q => .inl ⟨rfl, by
  have e : decide (V.str a = V.str b) = decide (a = b) := by rw [dec_str, Bool.beq_eq_decide_eq]
  rw [e]
  exact q H (Same.refl H)⟩
theorem e_neS : Cv (rNeA K (.str a) (.str b)) A (.bl (!decide (a = b))) := fun H _ _ q => .inl ⟨rfl, by
  have e : decide (V.str a = V.str b) = decide (a = b) := by rw [dec_str, Bool.beq_eq_decide_eq]
  rw [e]
  exact q H (Same.refl H)⟩
theorem e_eqV (h : scal x y = true) : Cv (rEqA K x y) A (.bl (decide (x = y))) := fun H _ _ q => .inl ⟨h, q H (Same.refl H)⟩
theorem e_neV (h : scal x y = true) : Cv (rNeA K x y) A (.bl (!decide (x = y))) := fun H _ _ q => .inl ⟨h, q H (Same.refl H)⟩
theorem e_isN : Cv (rIsN x .non) A (.bl (decide (x = .non))) := fun H _ _ q => ⟨rfl, q H (Same.refl H)⟩
theorem e_notN : Cv (rNotN x .non) A (.bl (!decide (x = .non))) := fun H _ _ q => ⟨rfl, q H (Same.refl H)⟩
/-- what a heap tells of data -/
def KnD (K : PySem.W.Frag) (A : Asr) (x : V) (d : PyData) : Prop := ∀ H, A.P H → Dp K H x d
theorem e_eqD {d e : PyData} (h1 : KnD K A x d) (h2 : KnD K A y e) (s1 : SeqAt.shaped d = true) (s2 : SeqAt.shaped e = true) : Cv (rEqA K x y) A (.bl (PyData.eqv d e)) := fun H a _ q =>
  .inr ⟨d, e, h1 H a, h2 H a, s1, s2, q H (Same.refl H)⟩
theorem e_neD {d e : PyData} (h1 : KnD K A x d) (h2 : KnD K A y e) (s1 : SeqAt.shaped d = true) (s2 : SeqAt.shaped e = true) : Cv (rNeA K x y) A (.bl (!PyData.eqv d e)) := fun H a _ q =>
  .inr ⟨d, e, h1 H a, h2 H a, s1, s2, q H (Same.refl H)⟩
theorem e_inK {k : Key} (h : Kn A p (.dK kvs)) : Cv (rInA K (kV k) (.ref p)) A (.bl (valV kvs k).isSome) := fun H a _ q => .inr (.inl ⟨p, _, rfl, DGet.k (h H a), q H (Same.refl H)⟩)
theorem e_ninK {k : Key} (h : Kn A p (.dK kvs)) : Cv (rNinA K (kV k) (.ref p)) A (.bl (!(valV kvs k).isSome)) := fun H a _ q => .inr (.inl ⟨p, _, rfl, DGet.k (h H a), q H (Same.refl H)⟩)
theorem e_inL (h : KnL K A p xs) (hx : flatV x = true) (hs : xs.all flatV = true) : Cv (rInA K x (.ref p)) A (.bl (inV x xs)) := fun H a _ q => .inl ⟨p, xs, rfl, .inl (h H a), hx, hs, q H (Same.refl H)⟩
theorem e_ninL (h : KnL K A p xs) (hx : flatV x = true) (hs : xs.all flatV = true) : Cv (rNinA K x (.ref p)) A (.bl (!inV x xs)) := fun H a _ q => .inl ⟨p, xs, rfl, .inl (h H a), hx, hs, q H (Same.refl H)⟩
theorem e_inT (h : KnT K A p xs) (hx : flatV x = true) (hs : xs.all flatV = true) : Cv (rInA K x (.ref p)) A (.bl (inV x xs)) := fun H a _ q => .inl ⟨p, xs, rfl, .inr (h H a), hx, hs, q H (Same.refl H)⟩
theorem e_ninT (h : KnT K A p xs) (hx : flatV x = true) (hs : xs.all flatV = true) : Cv (rNinA K x (.ref p)) A (.bl (!inV x xs)) := fun H a _ q => .inl ⟨p, xs, rfl, .inr (h H a), hx, hs, q H (Same.refl H)⟩
theorem e_inS {c : Nat} : Cv (rInA K (.str ⟨#[c]⟩) (.str b)) A (.bl (decide (c ∈ b.cps.toList))) := fun H _ _ q => .inr (.inr ⟨c, b, rfl, rfl, q H (Same.refl H)⟩)
theorem e_ninS {c : Nat} : Cv (rNinA K (.str ⟨#[c]⟩) (.str b)) A (.bl (!decide (c ∈ b.cps.toList))) := fun H _ _ q => .inr (.inr ⟨c, b, rfl, rfl, q H (Same.refl H)⟩)
theorem e_ixL (h : KnL K A p xs) (e : atI xs i = some v) : Cv (rIxA K (.ref p) (.int i)) A v := fun H a _ q => .inl ⟨p, xs, i, v, rfl, rfl, h H a, e, q H (Same.refl H)⟩
theorem e_ixT (h : KnT K A p xs) (e : atI xs i = some v) : Cv (rIxA K (.ref p) (.int i)) A v := fun H a _ q => .inr (.inl ⟨p, xs, i, v, rfl, rfl, h H a, e, q H (Same.refl H)⟩)
theorem e_ixS {c : Nat} (hz : a.length ≤ sizeLine) (e : atI a.cps.toList i = some c) : Cv (rIxA K (.str a) (.int i)) A (.str ⟨#[c]⟩) := fun H _ _ q => .inr (.inr (.inl ⟨a, i, c, rfl, rfl, hz, e, q H (Same.refl H)⟩))
theorem e_ixK {k : Key} (h : Kn A p (.dK kvs)) (e : valV kvs k = some v) : Cv (rIxA K (.ref p) (kV k)) A v := fun H a _ q => .inr (.inr (.inr ⟨p, v, rfl, by rw [← e]; exact DGet.k (h H a), q H (Same.refl H)⟩))
theorem e_inSL {c : Nat} {l : List Nat} : Cv (rInA K (.str ⟨#[c]⟩) (.str b)) A (.bl (decide (c ∈ b.cps.toList))) := e_inS
theorem e_ninSL {c : Nat} : Cv (rNinA K (.str ⟨#[c]⟩) (.str b)) A (.bl (!decide (c ∈ b.cps.toList))) := e_ninS
theorem e_lenL (h : KnL K A p xs) : Cv (rLenA K [.ref p]) A (.int xs.length) := fun H a _ q => .inl ⟨p, xs, rfl, .inl (h H a), q H (Same.refl H)⟩
theorem e_lenT (h : KnT K A p xs) : Cv (rLenA K [.ref p]) A (.int xs.length) := fun H a _ q => .inl ⟨p, xs, rfl, .inr (h H a), q H (Same.refl H)⟩
theorem e_lenS (hz : a.length ≤ sizeLine) : Cv (rLenA K [.str a]) A (.int a.length) := fun H _ _ q => .inr (.inl ⟨a, rfl, hz, q H (Same.refl H)⟩)
theorem e_lenK (h : Kn A p (.dK kvs)) : Cv (rLenA K [.ref p]) A (.int kvs.length) := fun H a _ q => .inr (.inr ⟨p, kvs, rfl, h H a, q H (Same.refl H)⟩)
theorem max2_eq (i j : Int) : (if j > i then j else i) = max i j := by omega
theorem min2_eq (i j : Int) : (if j < i then j else i) = min i j := by omega
theorem e_max : Cv (rMaxA K [.int i, .int j]) A (.int (max i j)) := fun H _ _ q => .inl ⟨i, j, rfl, by rw [max2_eq]; exact q H (Same.refl H)⟩
theorem e_min : Cv (rMinA K [.int i, .int j]) A (.int (min i j)) := fun H _ _ q => .inl ⟨i, j, rfl, by rw [min2_eq]; exact q H (Same.refl H)⟩
theorem e_slL {lo hi : Option Int} (h : KnL K A p xs) : Cn (rSlA K (.ref p) lo hi) A (.lst (cutV xs lo hi)) := fun H a _ k => .inl ⟨p, xs, rfl, h H a, fun r hr => k r _ hr (same_new hr) upd_same⟩
theorem e_slS {lo hi : Option Int} (hz : a.length ≤ sizeLine) : Cv (rSlA K (.str a) lo hi) A (.str (cutS a lo hi)) := fun H _ _ q => .inr (.inr ⟨a, rfl, hz, q H (Same.refl H)⟩)
end
section
variable {K : PySem.W.Frag} {σ : L2.St} {A : Asr} {ta tb te to : TE} {x y z v w : V} {xs ys vs : List V} {o u : HO} {ts : TA} {tl th : TO} {b c : Bool}
/-! calls of built-ins -/
theorem c_cb {r : List V → Hp → VK → Prop} (ha : Ca (ts σ) A vs) (hr : Cv (r vs) A v) : Cv (tCB r ts σ) A v := fun H a Q q =>
  ha H a _ fun H1 e1 => hr H1 (A.st _ _ a e1) Q fun H2 e2 => q H2 (e1.trans e2)
theorem n_cb {r : List V → Hp → VK → Prop} (ha : Ca (ts σ) A vs) (hr : Cn (r vs) A o) : Cn (tCB r ts σ) A o := fun H a Q q =>
  ha H a _ fun H1 e1 => hr H1 (A.st _ _ a e1) Q fun p H2 n e2 h => q p H2 (e1.free n) (e1.trans e2) h
/-- one argument that is a new object -/
theorem c_cbN {r : List V → Hp → VK → Prop} (ha : Cn (te σ) A o) (hr : ∀ p, Cv (r [.ref p]) (A.kn p o) v) : Cv (tCB r (tCons te tNil) σ) A v := fun H a Q q =>
  ha H a _ fun p H1 _ e1 hp => hr p H1 ⟨A.st _ _ a e1, hp⟩ Q fun H2 e2 => q H2 (e1.trans e2)
theorem n_cbN {r : List V → Hp → VK → Prop} (ha : Cn (te σ) A o) (hr : ∀ p, Cn (r [.ref p]) (A.kn p o) u) : Cn (tCB r (tCons te tNil) σ) A u := fun H a Q q =>
  ha H a _ fun p H1 _ e1 hp => hr p H1 ⟨A.st _ _ a e1, hp⟩ Q fun s H2 n e2 h => q s H2 (e1.free n) (e1.trans e2) h
/-! calls of defs -/
theorem c_call {sp : Sp} {E : XK} (ha : Ca (ts σ) A vs) (hr : Cv (fun H Q => sp vs H Q E) A v) : Cv (tCall sp [] E ts σ) A v := fun H a Q q =>
  ha H a _ fun H1 e1 => by
    show sp (vs ++ []) H1 Q E
    rw [List.append_nil]
    exact hr H1 (A.st _ _ a e1) Q fun H2 e2 => q H2 (e1.trans e2)
theorem n_call {sp : Sp} {E : XK} (ha : Ca (ts σ) A vs) (hr : Cn (fun H Q => sp vs H Q E) A o) : Cn (tCall sp [] E ts σ) A o := fun H a Q q =>
  ha H a _ fun H1 e1 => by
    show sp (vs ++ []) H1 Q E
    rw [List.append_nil]
    exact hr H1 (A.st _ _ a e1) Q fun p H2 n e2 h => q p H2 (e1.free n) (e1.trans e2) h
theorem c_callN {sp : Sp} {E : XK} (ha : Cn (te σ) A o) (hr : ∀ p, Cv (fun H Q => sp [.ref p] H Q E) (A.kn p o) v) : Cv (tCall sp [] E (tCons te tNil) σ) A v := fun H a Q q =>
  ha H a _ fun p H1 _ e1 hp => hr p H1 ⟨A.st _ _ a e1, hp⟩ Q fun H2 e2 => q H2 (e1.trans e2)
theorem n_callN {sp : Sp} {E : XK} (ha : Cn (te σ) A o) (hr : ∀ p, Cn (fun H Q => sp [.ref p] H Q E) (A.kn p o) u) : Cn (tCall sp [] E (tCons te tNil) σ) A u := fun H a Q q =>
  ha H a _ fun p H1 _ e1 hp => hr p H1 ⟨A.st _ _ a e1, hp⟩ Q fun s H2 n e2 h => q s H2 (e1.free n) (e1.trans e2) h
/-! displays, slices -/
theorem n_lst (ha : Ca (ts σ) A vs) (hz : vs.length ≤ sizeLine) : Cn (tLst ts σ) A (.lst vs) := fun H a Q q =>
  ha H a _ fun H1 e1 => ⟨hz, fun p hp => q p _ (e1.free hp) (e1.trans (same_new hp)) upd_same⟩
theorem n_tup (ha : Ca (ts σ) A vs) (hz : vs.length ≤ sizeLine) : Cn (tTup ts σ) A (.tup vs) := fun H a Q q =>
  ha H a _ fun H1 e1 => ⟨hz, fun p hp => q p _ (e1.free hp) (e1.trans (same_new hp)) upd_same⟩
theorem o_none : Co (tNoPart σ) A none := fun H _ _ q => q H (Same.refl H)
theorem o_some {i : Int} (h : Cv (te σ) A (.int i)) : Co (tPart te σ) A (some i) := fun H a Q q => h H a _ fun H1 e1 => ⟨i, rfl, q H1 e1⟩
theorem n_sl {r : V → Option Int → Option Int → Hp → VK → Prop} {lo hi : Option Int} (h : Cv (te σ) A x) (h1 : Co (tl σ) A lo) (h2 : Co (th σ) A hi) (hr : Cn (r x lo hi) A o) : Cn (tSl r te tl th σ) A o := fun H a Q q =>
  h H a _ fun H1 e1 => h1 H1 (A.st _ _ a e1) _ fun H2 e2 => h2 H2 (A.st _ _ a (e1.trans e2)) _ fun H3 e3 => hr H3 (A.st _ _ a ((e1.trans e2).trans e3)) Q fun p H4 n e4 hp => q p H4 (((e1.trans e2).trans e3).free n) (((e1.trans e2).trans e3).trans e4) hp
theorem c_sl {r : V → Option Int → Option Int → Hp → VK → Prop} {lo hi : Option Int} (h : Cv (te σ) A x) (h1 : Co (tl σ) A lo) (h2 : Co (th σ) A hi) (hr : Cv (r x lo hi) A v) : Cv (tSl r te tl th σ) A v := fun H a Q q =>
  h H a _ fun H1 e1 => h1 H1 (A.st _ _ a e1) _ fun H2 e2 => h2 H2 (A.st _ _ a (e1.trans e2)) _ fun H3 e3 => hr H3 (A.st _ _ a ((e1.trans e2).trans e3)) Q fun H4 e4 => q H4 (((e1.trans e2).trans e3).trans e4)
/-! methods of texts -/
theorem c_m1 {r : V → List V → Hp → VK → Prop} {z : Str} (h : Cv (to σ) A (.str z)) (h1 : Cv (te σ) A y) (hr : Cv (r (.str z) [y]) A v) : Cv (tM1 r to te σ) A v := fun H a Q q =>
  h H a _ fun H1 e1 => ⟨⟨z, rfl⟩, h1 H1 (A.st _ _ a e1) _ fun H2 e2 => hr H2 (A.st _ _ a (e1.trans e2)) Q fun H3 e3 => q H3 ((e1.trans e2).trans e3)⟩
theorem c_m1N {r : V → List V → Hp → VK → Prop} {z : Str} (h : Cv (to σ) A (.str z)) (h1 : Cn (te σ) A o) (hr : ∀ p, Cv (r (.str z) [.ref p]) (A.kn p o) v) : Cv (tM1 r to te σ) A v := fun H a Q q =>
  h H a _ fun H1 e1 => ⟨⟨z, rfl⟩, h1 H1 (A.st _ _ a e1) _ fun p H2 n e2 hp => hr p H2 ⟨A.st _ _ a (e1.trans e2), hp⟩ Q fun H3 e3 => q H3 ((e1.trans e2).trans e3)⟩
theorem c_bits {i : Int} (h : Cv (to σ) A (.int i)) : Cv (tBits to σ) A (.int (Builtin.Int.intBits i : Nat)) := fun H a Q q => h H a _ fun H1 e1 => ⟨i, rfl, q H1 e1⟩
/-! booleans -/
theorem c_and (h1 : Cv (ta σ) A (.bl b)) (h2 : b = true → Cv (tb σ) A (.bl c)) : Cv (tAndV ta tb σ) A (.bl (b && c)) := fun H a Q q => h1 H a _ fun H1 e1 => ⟨b, rfl, by
  cases b with
  | true => exact h2 rfl H1 (A.st _ _ a e1) Q fun H2 e2 => q H2 (e1.trans e2)
  | false => exact q H1 e1⟩
theorem c_or (h1 : Cv (ta σ) A (.bl b)) (h2 : b = false → Cv (tb σ) A (.bl c)) : Cv (tOrV ta tb σ) A (.bl (b || c)) := fun H a Q q => h1 H a _ fun H1 e1 => ⟨b, rfl, by
  cases b with
  | true => exact q H1 e1
  | false => exact h2 rfl H1 (A.st _ _ a e1) Q fun H2 e2 => q H2 (e1.trans e2)⟩
theorem c_chain {r r' : R2} {tc : TE} (h1 : Cv (ta σ) A x) (h2 : Cv (tb σ) A y) (hr : Cv (r x y) A (.bl b)) (h3 : b = true → Cv (tc σ) A z) (hr' : b = true → Cv (r' y z) A (.bl c)) : Cv (tChain r r' ta tb tc σ) A (.bl (b && c)) := fun H a Q q =>
  h1 H a _ fun H1 e1 => h2 H1 (A.st _ _ a e1) _ fun H2 e2 => hr H2 (A.st _ _ a (e1.trans e2)) _ fun H3 e3 => ⟨b, rfl, by
    have e := (e1.trans e2).trans e3
    cases b with
    | true => exact h3 rfl H3 (A.st _ _ a e) _ fun H4 e4 => hr' rfl H4 (A.st _ _ a (e.trans e4)) Q fun H5 e5 => q H5 ((e.trans e4).trans e5)
    | false => exact q H3 e⟩
theorem c_not (h1 : Cv (ta σ) A (.bl b)) : Cv (tNotV ta σ) A (.bl (!b)) := fun H a Q q => h1 H a _ fun H1 e1 => ⟨b, rfl, q H1 e1⟩
theorem t_test (h : Cv (te σ) A (.bl b)) : Ct (tTest te σ) A b := fun H a Q q => h H a _ fun H1 e1 => ⟨b, rfl, q H1 e1⟩
theorem t_B (h : Cv (te σ) A (.bl b)) : Ct (tB te σ) A b := fun H a Q q => h H a _ fun H1 e1 => ⟨b, rfl, q H1 e1⟩
theorem t_and {t u : TT} (h1 : Ct (t σ) A b) (h2 : b = true → Ct (u σ) A c) : Ct (tAnd t u σ) A (b && c) := fun H a Q q => h1 H a _ fun H1 e1 => by
  cases b with
  | true => exact h2 rfl H1 (A.st _ _ a e1) Q fun H2 e2 => q H2 (e1.trans e2)
  | false => exact q H1 e1
theorem t_or {t u : TT} (h1 : Ct (t σ) A b) (h2 : b = false → Ct (u σ) A c) : Ct (tOr t u σ) A (b || c) := fun H a Q q => h1 H a _ fun H1 e1 => by
  cases b with
  | true => exact q H1 e1
  | false => exact h2 rfl H1 (A.st _ _ a e1) Q fun H2 e2 => q H2 (e1.trans e2)
theorem t_not {t : TT} (h1 : Ct (t σ) A b) : Ct (tNot t σ) A (!b) := fun H a Q q => h1 H a _ fun H1 e1 => q H1 e1
theorem t_yes : Ct (tYes σ) A true := fun H _ _ q => q H (Same.refl H)
theorem c_if {t : TT} (h : Ct (t σ) A b) (h1 : b = true → Cv (ta σ) A v) (h2 : b = false → Cv (tb σ) A v) : Cv (tIf t ta tb σ) A v := fun H a Q q => h H a _ fun H1 e1 => by
  cases b with
  | true => exact h1 rfl H1 (A.st _ _ a e1) Q fun H2 e2 => q H2 (e1.trans e2)
  | false => exact h2 rfl H1 (A.st _ _ a e1) Q fun H2 e2 => q H2 (e1.trans e2)
end
/-! ### statements -/
def Go (t : TS) (D : Ends) (σ : L2.St) (A : Asr) : Prop := ∀ H, A.P H → t D σ H
section
variable {K : PySem.W.Frag} {σ σ' : L2.St} {A B : Asr} {ta tb te to : TE} {x y z v w : V} {xs ys vs : List V} {o u : HO} {b c : Bool} {D : Ends} {t s : TS} {tt : TT} {i : Nat}
theorem go_of (h : ∀ H, A.P H → B.P H) (g : Go t D σ B) : Go t D σ A := fun H a => g H (h H a)
theorem go_set (e : σ = σ') (g : Go t D σ' A) : Go t D σ A := e ▸ g
theorem g_seq (h : Go t { D with nx := s D } σ A) : Go (tSeq t s) D σ A := h
theorem q_asg (h : Cv (te σ) A v) (k : Go s D (σ.set i (some v)) A) : Go (tSeq (tAsg te (gName i)) s) D σ A := fun H a => h H a _ fun H1 e1 => k H1 (A.st _ _ a e1)
theorem s_asg (h : Cv (te σ) A v) (k : ∀ H, A.P H → D.nx (σ.set i (some v)) H) : Go (tAsg te (gName i)) D σ A := fun H a => h H a _ fun H1 e1 => k H1 (A.st _ _ a e1)
theorem q_asgN (h : Cn (te σ) A o) (k : ∀ p, Go s D (σ.set i (some (.ref p))) (A.kn p o)) : Go (tSeq (tAsg te (gName i)) s) D σ A := fun H a => h H a _ fun p H1 _ e1 hp => k p H1 ⟨A.st _ _ a e1, hp⟩
theorem q_aug {f : Int → Int → Int} {m n : Int} (hx : σ[i]? = some (some (.int m))) (h : Cv (te σ) A (.int n)) (k : Go s D (σ.set i (some (.int (f m n)))) A) : Go (tSeq (tAug i te (ipI f)) s) D σ A := fun H a =>
  ⟨.int m, hx, h H a _ fun H1 e1 => ⟨m, n, rfl, rfl, k H1 (A.st _ _ a e1)⟩⟩
theorem s_aug {f : Int → Int → Int} {m n : Int} (hx : σ[i]? = some (some (.int m))) (h : Cv (te σ) A (.int n)) (k : ∀ H, A.P H → D.nx (σ.set i (some (.int (f m n)))) H) : Go (tAug i te (ipI f)) D σ A := fun H a =>
  ⟨.int m, hx, h H a _ fun H1 e1 => ⟨m, n, rfl, rfl, k H1 (A.st _ _ a e1)⟩⟩
theorem s_ret (h : Cv (te σ) A v) (k : ∀ H, A.P H → D.rt v H) : Go (tRet te) D σ A := fun H a => h H a _ fun H1 e1 => k H1 (A.st _ _ a e1)
theorem s_next (k : ∀ H, A.P H → D.nx σ H) : Go tNext D σ A := k
theorem q_if {u' : TS} (h : Ct (tt σ) A b) (h1 : b = true → Go t { D with nx := s D } σ A) (h2 : b = false → Go u' { D with nx := s D } σ A) : Go (tSeq (tIfS tt t u') s) D σ A := fun H a => h H a _ fun H1 e1 => by
  cases b with
  | true => exact h1 rfl H1 (A.st _ _ a e1)
  | false => exact h2 rfl H1 (A.st _ _ a e1)
theorem q_when (h : Ct (tt σ) A b) (h1 : b = true → Go t { D with nx := s D } σ A) (h2 : b = false → Go s D σ A) : Go (tSeq (tIfS tt t tNext) s) D σ A := q_if h h1 h2
theorem s_if {u' : TS} (h : Ct (tt σ) A b) (h1 : b = true → Go t D σ A) (h2 : b = false → Go u' D σ A) : Go (tIfS tt t u') D σ A := fun H a => h H a _ fun H1 e1 => by
  cases b with
  | true => exact h1 rfl H1 (A.st _ _ a e1)
  | false => exact h2 rfl H1 (A.st _ _ a e1)
end
/-! ### promises -/
def RetV (v : V) (H : Hp) (Q : VK) : Prop := ∀ H', Same H H' → Q v H'
def RetN (o : HO) (H : Hp) (Q : VK) : Prop := ∀ p H', H p = none → Same H H' → H' p = some o → Q (.ref p) H'
theorem body_go {t : TS} {D : Ends} {σ σ' : L2.St} {H : Hp} (e : σ = σ') (g : Go t D σ' (at_ H H H [])) : t D σ H := by
  rw [e]
  exact g H (at_start (Same.refl H))
structure Dfn (K : PySem.W.Frag) (x qual : Str) (st : Stmt) (ps : List Str) where
  f : Addr
  fd : FuncData
  F : FunD K x qual (defArgs st) (defBody st) (defScope st) [] [] f fd
  b : Binds K fd ps []
theorem Dfn.kp {K : PySem.W.Frag} {x qual : Str} {st : Stmt} {ps : List Str} (d : Dfn K x qual st ps) : PySem.W.keepIn K (.ref d.f) = true := d.F.kp
section
variable {S0 E0 S : Hp} {L : List (Addr × HO)} {v : V} {o : HO} {H : Hp} {Q : VK}
theorem RetV.at (q : RetV v H Q) : ∀ H', (at_ S0 H S L).P H' → Q v H' := fun H' a => q H' a.e0
theorem s_retV {te : TE} {D : Ends} {σ : L2.St} {w : V} (h : Cv (te σ) (at_ S0 H S L) w) (e : w = v) (q : RetV v H D.rt) : Go (tRet te) D σ (at_ S0 H S L) := by
  subst e
  exact s_ret h fun H' a => q H' a.e0
theorem s_retN {te : TE} {D : Ends} {σ : L2.St} {u : HO} (h : Cn (te σ) (at_ S0 H S L) u) (e : u = o) (q : RetN o H D.rt) : Go (tRet te) D σ (at_ S0 H S L) := fun H1 a => h H1 a _ fun p H2 n e2 hp => q p H2 (a.e0.free n) (a.e0.trans e2) (e ▸ hp)
/-- A keeps what H tells -/
def Ext (A : Asr) (H : Hp) : Prop := ∀ H', A.P H' → Same H H'
theorem ext_at : Ext (at_ S0 H S L) H := fun _ a => a.e0
theorem ext_kn {A : Asr} {p : Addr} {o : HO} (h : Ext A H) : Ext (A.kn p o) H := fun H' a => h H' a.1
theorem s_retVx {te : TE} {D : Ends} {σ : L2.St} {w : V} {A : Asr} (h : Cv (te σ) A w) (e : w = v) (x : Ext A H) (q : RetV v H D.rt) : Go (tRet te) D σ A := by
  subst e
  exact s_ret h fun H' a => q H' (x H' a)
theorem s_retNx {te : TE} {D : Ends} {σ : L2.St} {u : HO} {A : Asr} (h : Cn (te σ) A u) (e : u = o) (x : Ext A H) (q : RetN o H D.rt) : Go (tRet te) D σ A := fun H1 a => h H1 a _ fun p H2 n e2 hp => q p H2 ((x H1 a).free n) ((x H1 a).trans e2) (e ▸ hp)
end
end Lo
namespace Lo
open PySem L2
/-! ### loops -/
abbrev CmJ := Hp → (It → Hp → Prop) → Prop
def Cj (c : CmJ) (A : Asr) (J : It) : Prop := ∀ H, A.P H → ∀ R : It → Hp → Prop, (∀ H', Same H H' → R J H') → c H R
/-- what is wanted behind a turn -/
def Nf (P : Nat → L2.St → Asr → Prop) (i : Nat) : L2.St → Hp → Prop := fun σ H => ∃ A, P i σ A ∧ A.P H
def Nw (P : Nat → L2.St → Asr → Prop) (m : Nat) : L2.St → Hp → Prop := fun σ H => ∃ m' A, m' < m ∧ P m' σ A ∧ A.P H
section
variable {K : PySem.W.Frag} {σ : L2.St} {A : Asr} {ta : TA} {te tl : TE} {a b : Addr} {xs ys : List V} {n : Int}
theorem j_rng1 (h : Ca (ta σ) A [.int n]) (h1 : -4611686018427387904 ≤ n) (h2 : n < 4611686018427387904) : Cj (iRng1 ta σ) A (Itr 0 n.toNat) := fun H hA R k => h H hA _ fun H1 e1 => ⟨n, rfl, by omega, by omega, k H1 e1⟩
theorem j_rng2 {lo : Int} (h : Ca (ta σ) A [.int lo, .int n]) (h1 : -4611686018427387904 ≤ lo ∧ lo < 4611686018427387904 ∧ -4611686018427387904 ≤ n ∧ n < 4611686018427387904) : Cj (iRng2 ta σ) A (Itr lo (n - lo).toNat) := fun H hA R k => h H hA _ fun H1 e1 => ⟨lo, n, rfl, by omega, k H1 e1⟩
theorem j_list (h : Cv (tl σ) A (.ref a)) (hx : KnL K A a xs) : Cj (iList K tl σ) A (Itl K a) := fun H hA R k => h H hA _ fun H1 e1 => ⟨a, rfl, ⟨xs, hx H1 (A.st _ _ hA e1)⟩, k H1 e1⟩
theorem j_tup (h : Cv (tl σ) A (.ref a)) (hx : KnT K A a xs) : Cj (iTup K tl σ) A (Itt K a) := fun H hA R k => h H hA _ fun H1 e1 => ⟨a, rfl, ⟨xs, hx H1 (A.st _ _ hA e1)⟩, k H1 e1⟩
theorem j_str {z : Str} (h : Cv (tl σ) A (.str z)) : Cj (iStr tl σ) A (Its z) := fun H hA R k => h H hA _ fun H1 e1 => ⟨z, rfl, k H1 e1⟩
theorem j_enum (h : Ca (ta σ) A [.ref a]) (hx : KnL K A a xs) : Cj (iEnum K ta σ) A (Ite K a) := fun H hA R k => h H hA _ fun H1 e1 => ⟨a, xs, rfl, hx H1 (A.st _ _ hA e1), k H1 e1⟩
theorem j_rev (h : Ca (ta σ) A [.ref a]) (hx : KnL K A a xs) : Cj (iRev K ta σ) A (Itv K a xs.length) := fun H hA R k => h H hA _ fun H1 e1 => ⟨a, xs, rfl, hx H1 (A.st _ _ hA e1), k H1 e1⟩
theorem j_zip (h : Ca (ta σ) A [.ref a, .ref b]) (hx : KnL K A a xs) (hy : KnL K A b ys) : Cj (iZip K ta σ) A (Itz K a b) := fun H hA R k => h H hA _ fun H1 e1 => ⟨a, b, xs, ys, rfl, hx H1 (A.st _ _ hA e1), hy H1 (A.st _ _ hA e1), k H1 e1⟩
end
section
variable {K : PySem.W.Frag} {σ : L2.St} {A : Asr} {wi : TI} {g : TG} {tb : TS} {D : Ends} {J : It} {m j k : Nat} {G : Hp → Prop} {Y : Nat → Hp → V → Hp → Prop} {xs : List V}
/-- the end of a turn -/
theorem nf {P : Nat → L2.St → Asr → Prop} {i : Nat} {σ' : L2.St} {A' : Asr} (h : P i σ' A') : ∀ H, A'.P H → Nf P i σ' H := fun _ hA => ⟨A', h, hA⟩
theorem nw {P : Nat → L2.St → Asr → Prop} {i i' : Nat} {σ' : L2.St} {A' : Asr} (hl : i' < i) (h : P i' σ' A') : ∀ H, A'.P H → Nw P i σ' H := fun _ hA => ⟨i', A', hl, h, hA⟩
theorem nf_drop {P : Nat → L2.St → Asr → Prop} {i : Nat} {σ' : L2.St} {S0 E0 S : Hp} {L L' : List (Addr × HO)} (hs : L'.Sublist L) (h : P i σ' (at_ S0 E0 S L')) : ∀ H, (at_ S0 E0 S L).P H → Nf P i σ' H := fun _ hA => ⟨_, h, AtP.drop hA hs⟩
theorem s_for (hj : Cj (wi σ) A J) (w : Walk J m G Y) (P : Nat → L2.St → Asr → Prop) (h0 : P 0 σ A) (hG : ∀ i σ' A', i ≤ m → P i σ' A' → ∀ H, A'.P H → G H)
    (hs : ∀ i σ' A', i < m → P i σ' A' → ∀ H, A'.P H → ∀ x H', Y i H x H' → g x σ' H' fun σ2 H2 => tb { D with nx := Nf P (i + 1), ct := Nf P (i + 1), bk := D.nx } σ2 H2)
    (hd : ∀ σ' A', P m σ' A' → ∀ H, A'.P H → D.nx σ' H) : Go (tFor wi g tb) D σ A := fun H hA => hj H hA _ fun H1 e1 =>
  for_it w (Nf P) ⟨A, h0, A.st _ _ hA e1⟩ (fun i σ' H' hi ⟨A', p, a⟩ => hG i σ' A' hi p H' a) (fun i x σ' H' H2 hi ⟨A', p, a⟩ y => hs i σ' A' hi p H' a x H2 y) (fun σ' H' ⟨A', p, a⟩ => hd σ' A' p H' a)
/-- each turn's value is told by the turn -/
theorem s_forF {f : Nat → V} (hj : Cj (wi σ) A J) (w : Walk J m (fun _ => True) (YFn f)) (P : Nat → L2.St → Asr → Prop) (h0 : P 0 σ A)
    (hs : ∀ i σ' A', i < m → P i σ' A' → Go tb { D with nx := Nf P (i + 1), ct := Nf P (i + 1), bk := D.nx } (σ'.set j (some (f i))) A') (hd : ∀ σ' A', P m σ' A' → ∀ H, A'.P H → D.nx σ' H) : Go (tFor wi (gName j) tb) D σ A :=
  s_for hj w P h0 (fun _ _ _ _ _ _ _ => True.intro) (fun i σ' A' hi p H hA x H' y => by
    obtain ⟨rfl, rfl⟩ := y
    exact hs i σ' A' hi p _ hA) hd
theorem s_forA (hj : Cj (wi σ) A J) (w : Walk J m G (YAt xs)) (P : Nat → L2.St → Asr → Prop) (h0 : P 0 σ A) (hG : ∀ i σ' A', i ≤ m → P i σ' A' → ∀ H, A'.P H → G H)
    (hs : ∀ i x σ' A', xs[i]? = some x → P i σ' A' → Go tb { D with nx := Nf P (i + 1), ct := Nf P (i + 1), bk := D.nx } (σ'.set j (some x)) A') (hd : ∀ σ' A', P m σ' A' → ∀ H, A'.P H → D.nx σ' H) : Go (tFor wi (gName j) tb) D σ A :=
  s_for hj w P h0 hG (fun i σ' A' hi p H hA x H' y => by
    obtain ⟨rfl, hx⟩ := y
    exact hs i x σ' A' hx p _ hA) hd
/-- range(n) -/
theorem s_forR {ta : TA} {n : Int} (h : Ca (ta σ) A [.int n]) (h2 : n < 4611686018427387904) (h1 : -4611686018427387904 ≤ n) (P : Nat → L2.St → Asr → Prop) (h0 : P 0 σ A)
    (hs : ∀ (i : Nat) σ' A', (i : Int) < n → P i σ' A' → Go tb { D with nx := Nf P (i + 1), ct := Nf P (i + 1), bk := D.nx } (σ'.set j (some (.int (i : Int)))) A') (hd : ∀ σ' A', P n.toNat σ' A' → ∀ H, A'.P H → D.nx σ' H) : Go (tFor (iRng1 ta) (gName j) tb) D σ A :=
  s_forF (j_rng1 h h1 h2) walk_range P h0 (fun i σ' A' hi p => by
    have e0 : (0 : Int) + (i : Int) = (i : Int) := Int.zero_add _
    rw [e0]
    exact hs i σ' A' (by omega) p) hd
theorem s_forR2 {ta : TA} {lo n : Int} (h : Ca (ta σ) A [.int lo, .int n]) (h1 : -4611686018427387904 ≤ lo ∧ lo < 4611686018427387904 ∧ -4611686018427387904 ≤ n ∧ n < 4611686018427387904) (P : Nat → L2.St → Asr → Prop) (h0 : P 0 σ A)
    (hs : ∀ (i : Nat) σ' A', lo + (i : Int) < n → P i σ' A' → Go tb { D with nx := Nf P (i + 1), ct := Nf P (i + 1), bk := D.nx } (σ'.set j (some (.int (lo + (i : Int))))) A') (hd : ∀ σ' A', P (n - lo).toNat σ' A' → ∀ H, A'.P H → D.nx σ' H) : Go (tFor (iRng2 ta) (gName j) tb) D σ A :=
  s_forF (j_rng2 h h1) walk_range P h0 (fun i σ' A' hi p => hs i σ' A' (by omega) p) hd
/-- a list that stays -/
theorem s_forL {tl : TE} {a : Addr} (h : Cv (tl σ) A (.ref a)) (P : Nat → L2.St → Asr → Prop) (h0 : P 0 σ A) (hx : ∀ i σ' A', P i σ' A' → KnL K A' a xs)
    (hs : ∀ i x σ' A', xs[i]? = some x → P i σ' A' → Go tb { D with nx := Nf P (i + 1), ct := Nf P (i + 1), bk := D.nx } (σ'.set j (some x)) A') (hd : ∀ σ' A', P xs.length σ' A' → ∀ H, A'.P H → D.nx σ' H) : Go (tFor (iList K tl) (gName j) tb) D σ A :=
  s_forA (j_list h (hx 0 σ A h0)) walk_list P h0 (fun i σ' A' _ p => hx i σ' A' p) hs hd
/-- a new list -/
theorem s_forN {tl : TE} (h : Cn (tl σ) A (.lst xs)) (P : Addr → Nat → L2.St → Asr → Prop) (h0 : ∀ p, P p 0 σ (A.kn p (.lst xs))) (hx : ∀ p i σ' A', P p i σ' A' → KnL K A' p xs)
    (hs : ∀ p i x σ' A', xs[i]? = some x → P p i σ' A' → Go tb { D with nx := Nf (P p) (i + 1), ct := Nf (P p) (i + 1), bk := D.nx } (σ'.set j (some x)) A') (hd : ∀ p σ' A', P p xs.length σ' A' → ∀ H, A'.P H → D.nx σ' H) : Go (tFor (iList K tl) (gName j) tb) D σ A := fun H hA =>
  h H hA _ fun p H1 _ e1 hp => ⟨p, rfl, ⟨xs, SqL.of hp⟩, for_it walk_list (Nf (P p)) ⟨_, h0 p, A.st _ _ hA e1, hp⟩ (fun i σ' H' _ ⟨A', q, a⟩ => hx p i σ' A' q H' a) (fun i x σ' H' H2 _ ⟨A', q, a⟩ y => by
    obtain ⟨rfl, hx2⟩ := y
    exact hs p i x σ' A' hx2 q _ a) (fun σ' H' ⟨A', q, a⟩ => hd p σ' A' q H' a)⟩
theorem s_forT {tl : TE} {a : Addr} (h : Cv (tl σ) A (.ref a)) (P : Nat → L2.St → Asr → Prop) (h0 : P 0 σ A) (hx : ∀ i σ' A', P i σ' A' → KnT K A' a xs)
    (hs : ∀ i x σ' A', xs[i]? = some x → P i σ' A' → Go tb { D with nx := Nf P (i + 1), ct := Nf P (i + 1), bk := D.nx } (σ'.set j (some x)) A') (hd : ∀ σ' A', P xs.length σ' A' → ∀ H, A'.P H → D.nx σ' H) : Go (tFor (iTup K tl) (gName j) tb) D σ A :=
  s_forA (j_tup h (hx 0 σ A h0)) walk_tup P h0 (fun i σ' A' _ p => hx i σ' A' p) hs hd
/-- a text -/
theorem s_forS {tl : TE} {z : Str} (h : Cv (tl σ) A (.str z)) (P : Nat → L2.St → Asr → Prop) (h0 : P 0 σ A)
    (hs : ∀ i c σ' A', z.cps.toList[i]? = some c → P i σ' A' → Go tb { D with nx := Nf P (i + 1), ct := Nf P (i + 1), bk := D.nx } (σ'.set j (some (.str ⟨#[c]⟩))) A') (hd : ∀ σ' A', P z.length σ' A' → ∀ H, A'.P H → D.nx σ' H) : Go (tFor (iStr tl) (gName j) tb) D σ A :=
  s_for (j_str h) walk_str P h0 (fun _ _ _ _ _ _ _ => True.intro) (fun i σ' A' hi p H hA x H' y => by
    obtain ⟨rfl, c, hc, rfl⟩ := y
    exact hs i c σ' A' (by rw [← hc]; simp) p _ hA) hd
/-- for i, x in pairs that are made for each turn -/
theorem s_forP {K' : PySem.W.Frag} {fx fy : Nat → Option V} (hj : Cj (wi σ) A J) (w : Walk J m G (YPair fx fy)) (P : Nat → L2.St → Asr → Prop) (h0 : P 0 σ A) (hG : ∀ i σ' A', i ≤ m → P i σ' A' → ∀ H, A'.P H → G H)
    (hs : ∀ i x y σ' A', i < m → fx i = some x → fy i = some y → P i σ' A' → Go tb { D with nx := Nf P (i + 1), ct := Nf P (i + 1), bk := D.nx } ((σ'.set j (some x)).set k (some y)) A') (hd : ∀ σ' A', P m σ' A' → ∀ H, A'.P H → D.nx σ' H) :
    Go (tFor wi (gTup K' 2 (gCons (gName j) (gCons (gName k) gNil))) tb) D σ A :=
  s_for hj w P h0 hG (fun i σ' A' hi p H hA x H' y => by
    obtain ⟨T, u, v, rfl, hT, rfl, h1, h2⟩ := y
    exact ⟨T, [u, v], rfl, SqT.of upd_same, rfl, u, [v], rfl, v, [], rfl, rfl, hs i u v σ' A' hi h1 h2 p _ (A'.st _ _ hA (same_new hT))⟩) hd
theorem s_forE {ta : TA} {a : Addr} {K' : PySem.W.Frag} (h : Ca (ta σ) A [.ref a]) (P : Nat → L2.St → Asr → Prop) (h0 : P 0 σ A) (hx : ∀ i σ' A', P i σ' A' → KnL K A' a xs)
    (hs : ∀ (i : Nat) x σ' A', xs[i]? = some x → P i σ' A' → Go tb { D with nx := Nf P (i + 1), ct := Nf P (i + 1), bk := D.nx } ((σ'.set j (some (.int (i : Int)))).set k (some x)) A') (hd : ∀ σ' A', P xs.length σ' A' → ∀ H, A'.P H → D.nx σ' H) :
    Go (tFor (iEnum K ta) (gTup K' 2 (gCons (gName j) (gCons (gName k) gNil))) tb) D σ A :=
  s_forP (j_enum h (hx 0 σ A h0)) walk_enum P h0 (fun i σ' A' _ p => hx i σ' A' p) (fun i x y σ' A' hi h1 h2 p => by
    cases h1
    exact hs i y σ' A' h2 p) hd
theorem s_while {tt : TT} (P : Nat → L2.St → Asr → Prop) (m0 : Nat) (h0 : P m0 σ A)
    (hs : ∀ m σ' A', P m σ' A' → ∃ b, Ct (tt σ') A' b ∧ (b = true → Go tb { D with nx := Nw P m, ct := Nw P m, bk := D.nx } σ' A') ∧ (b = false → ∀ H, A'.P H → D.nx σ' H)) : Go (tWhile tt tb) D σ A := fun H hA =>
  ⟨fun m σ' H' => ∃ A', P m σ' A' ∧ A'.P H', ⟨m0, A, h0, hA⟩, fun m σ' H' ⟨A', p, a⟩ => by
    obtain ⟨b, hb, h1, h2⟩ := hs m σ' A' p
    refine hb H' a _ fun H1 e1 => ?_
    cases b with
    | true =>
      rw [if_pos rfl]
      exact ⟨Nw P m, fun σ2 H2 ⟨m', A2, hl, p2, a2⟩ => ⟨m', hl, A2, p2, a2⟩, h1 rfl H1 (A'.st _ _ a e1)⟩
    | false =>
      rw [if_neg Bool.false_ne_true]
      exact h2 rfl H1 (A'.st _ _ a e1)⟩
end
section
variable {K : PySem.W.Frag} {σ : L2.St} {A : Asr} {wi : TI} {g : TG} {tb s : TS} {D : Ends} {m j k : Nat} {xs : List V}
theorem q_forR {ta : TA} {n : Int} (h : Ca (ta σ) A [.int n]) (h2 : n < 4611686018427387904) (h1 : -4611686018427387904 ≤ n) (P : Nat → L2.St → Asr → Prop) (h0 : P 0 σ A)
    (hs : ∀ (i : Nat) σ' A', (i : Int) < n → P i σ' A' → Go tb { D with nx := Nf P (i + 1), ct := Nf P (i + 1), bk := s D } (σ'.set j (some (.int (i : Int)))) A') (hd : ∀ σ' A', P n.toNat σ' A' → Go s D σ' A') : Go (tSeq (tFor (iRng1 ta) (gName j) tb) s) D σ A :=
  g_seq (s_forR h h2 h1 P h0 hs hd)
theorem q_forR2 {ta : TA} {lo n : Int} (h : Ca (ta σ) A [.int lo, .int n]) (h1 : -4611686018427387904 ≤ lo ∧ lo < 4611686018427387904 ∧ -4611686018427387904 ≤ n ∧ n < 4611686018427387904) (P : Nat → L2.St → Asr → Prop) (h0 : P 0 σ A)
    (hs : ∀ (i : Nat) σ' A', lo + (i : Int) < n → P i σ' A' → Go tb { D with nx := Nf P (i + 1), ct := Nf P (i + 1), bk := s D } (σ'.set j (some (.int (lo + (i : Int))))) A') (hd : ∀ σ' A', P (n - lo).toNat σ' A' → Go s D σ' A') : Go (tSeq (tFor (iRng2 ta) (gName j) tb) s) D σ A :=
  g_seq (s_forR2 h h1 P h0 hs hd)
theorem q_forL {tl : TE} {a : Addr} (h : Cv (tl σ) A (.ref a)) (P : Nat → L2.St → Asr → Prop) (h0 : P 0 σ A) (hx : ∀ i σ' A', P i σ' A' → KnL K A' a xs)
    (hs : ∀ i x σ' A', xs[i]? = some x → P i σ' A' → Go tb { D with nx := Nf P (i + 1), ct := Nf P (i + 1), bk := s D } (σ'.set j (some x)) A') (hd : ∀ σ' A', P xs.length σ' A' → Go s D σ' A') : Go (tSeq (tFor (iList K tl) (gName j) tb) s) D σ A :=
  g_seq (s_forL h P h0 hx hs hd)
theorem q_forN {tl : TE} (h : Cn (tl σ) A (.lst xs)) (P : Addr → Nat → L2.St → Asr → Prop) (h0 : ∀ p, P p 0 σ (A.kn p (.lst xs))) (hx : ∀ p i σ' A', P p i σ' A' → KnL K A' p xs)
    (hs : ∀ p i x σ' A', xs[i]? = some x → P p i σ' A' → Go tb { D with nx := Nf (P p) (i + 1), ct := Nf (P p) (i + 1), bk := s D } (σ'.set j (some x)) A') (hd : ∀ p σ' A', P p xs.length σ' A' → Go s D σ' A') : Go (tSeq (tFor (iList K tl) (gName j) tb) s) D σ A :=
  g_seq (s_forN h P h0 hx hs hd)
theorem q_forT {tl : TE} {a : Addr} (h : Cv (tl σ) A (.ref a)) (P : Nat → L2.St → Asr → Prop) (h0 : P 0 σ A) (hx : ∀ i σ' A', P i σ' A' → KnT K A' a xs)
    (hs : ∀ i x σ' A', xs[i]? = some x → P i σ' A' → Go tb { D with nx := Nf P (i + 1), ct := Nf P (i + 1), bk := s D } (σ'.set j (some x)) A') (hd : ∀ σ' A', P xs.length σ' A' → Go s D σ' A') : Go (tSeq (tFor (iTup K tl) (gName j) tb) s) D σ A :=
  g_seq (s_forT h P h0 hx hs hd)
theorem q_forS {tl : TE} {z : Str} (h : Cv (tl σ) A (.str z)) (P : Nat → L2.St → Asr → Prop) (h0 : P 0 σ A)
    (hs : ∀ i c σ' A', z.cps.toList[i]? = some c → P i σ' A' → Go tb { D with nx := Nf P (i + 1), ct := Nf P (i + 1), bk := s D } (σ'.set j (some (.str ⟨#[c]⟩))) A') (hd : ∀ σ' A', P z.length σ' A' → Go s D σ' A') : Go (tSeq (tFor (iStr tl) (gName j) tb) s) D σ A :=
  g_seq (s_forS h P h0 hs hd)
theorem q_forE {ta : TA} {a : Addr} {K' : PySem.W.Frag} (h : Ca (ta σ) A [.ref a]) (P : Nat → L2.St → Asr → Prop) (h0 : P 0 σ A) (hx : ∀ i σ' A', P i σ' A' → KnL K A' a xs)
    (hs : ∀ (i : Nat) x σ' A', xs[i]? = some x → P i σ' A' → Go tb { D with nx := Nf P (i + 1), ct := Nf P (i + 1), bk := s D } ((σ'.set j (some (.int (i : Int)))).set k (some x)) A') (hd : ∀ σ' A', P xs.length σ' A' → Go s D σ' A') :
    Go (tSeq (tFor (iEnum K ta) (gTup K' 2 (gCons (gName j) (gCons (gName k) gNil))) tb) s) D σ A :=
  g_seq (s_forE h P h0 hx hs hd)
theorem q_while {tt : TT} (P : Nat → L2.St → Asr → Prop) (m0 : Nat) (h0 : P m0 σ A)
    (hs : ∀ m σ' A', P m σ' A' → ∃ b, Ct (tt σ') A' b ∧ (b = true → Go tb { D with nx := Nw P m, ct := Nw P m, bk := s D } σ' A') ∧ (b = false → Go s D σ' A')) : Go (tSeq (tWhile tt tb) s) D σ A :=
  g_seq (s_while P m0 h0 hs)
end
/-! ### objects of one's own in statements -/
section
variable {K : PySem.W.Frag} {S0 E0 S : Hp} {L L' : List (Addr × HO)} {σ : L2.St} {te tv ti : TE} {v y : V} {o u : HO} {D : Ends} {s : TS} {i j : Nat} {k : Int} {p : Addr} {xs : List V}
theorem q_own (h : Cn (te σ) (at_ S0 E0 S L) o) (k : ∀ p, Go s D (σ.set i (some (.ref p))) (at_ S0 E0 S ((p, o) :: L))) : Go (tSeq (tAsg te (gName i)) s) D σ (at_ S0 E0 S L) :=
  fun H a => h H a _ fun p H1 n e1 hp => k p H1 (AtP.own a n e1 hp)
theorem s_own (h : Cn (te σ) (at_ S0 E0 S L) o) (k : ∀ p H, (at_ S0 E0 S ((p, o) :: L)).P H → D.nx (σ.set i (some (.ref p))) H) : Go (tAsg te (gName i)) D σ (at_ S0 E0 S L) :=
  fun H a => h H a _ fun p H1 n e1 hp => k p H1 (AtP.own a n e1 hp)
theorem app_run (hv : Cv (tv σ) (at_ S0 E0 S L) (.ref p)) (h : Cv (te σ) (at_ S0 E0 S L) v) (w : Up1 p (.lst xs) (.lst (xs ++ [v])) L L') (hz : xs.length < sizeLine) (k : ∀ H, AtP S0 E0 S L' H → D.nx σ H) :
    Go (tDrop (tBM K "list" rAppend tv (tCons te tNil))) D σ (at_ S0 E0 S L) := fun H a => hv H a _ fun H1 e1 => by
  have a1 : AtP S0 E0 S L H1 := AtP.ext a e1
  exact ⟨.inl ⟨rfl, xs, SqL.of (a1.ow _ w.mem).1⟩, h H1 a1 _ fun H2 e2 => ⟨p, xs, v, rfl, rfl, ((a1.ext e2).ow _ w.mem).1, hz, k _ ((a1.ext e2).put w)⟩⟩
theorem q_app (hv : Cv (tv σ) (at_ S0 E0 S L) (.ref p)) (h : Cv (te σ) (at_ S0 E0 S L) v) (w : Up1 p (.lst xs) (.lst (xs ++ [v])) L L') (hz : xs.length < sizeLine) (k : Go s D σ (at_ S0 E0 S L')) :
    Go (tSeq (tDrop (tBM K "list" rAppend tv (tCons te tNil))) s) D σ (at_ S0 E0 S L) := g_seq (app_run hv h w hz k)
theorem s_app (hv : Cv (tv σ) (at_ S0 E0 S L) (.ref p)) (h : Cv (te σ) (at_ S0 E0 S L) v) (w : Up1 p (.lst xs) (.lst (xs ++ [v])) L L') (hz : xs.length < sizeLine) (k : ∀ H, (at_ S0 E0 S L').P H → D.nx σ H) :
    Go (tDrop (tBM K "list" rAppend tv (tCons te tNil))) D σ (at_ S0 E0 S L) := app_run hv h w hz k
/-- a new object is put behind, for good -/
theorem appN_run {N : Addr → List (Addr × HO)} (hv : Cv (tv σ) (at_ S0 E0 S L) (.ref p)) (h : Cn (te σ) (at_ S0 E0 S L) o) (w : ∀ q, Up1 p (.lst xs) (.lst (xs ++ [.ref q])) L (N q)) (hz : xs.length < sizeLine)
    (k : ∀ q, S q = none → q ≠ p → ∀ H, AtP S0 E0 (upd S q o) (N q) H → D.nx σ H) :
    Go (tDrop (tBM K "list" rAppend tv (tCons te tNil))) D σ (at_ S0 E0 S L) := fun H a => hv H a _ fun H1 e1 => by
  have a1 : AtP S0 E0 S L H1 := AtP.ext a e1
  have m := (w p).mem
  refine ⟨.inl ⟨rfl, xs, SqL.of (a1.ow _ m).1⟩, h H1 a1 _ fun q H2 n e2 hq => ?_⟩
  have a2 : AtP S0 E0 S L H2 := a1.ext e2
  exact ⟨p, xs, .ref q, rfl, rfl, (a2.ow _ m).1, hz, k q (a1.sh.free n) (fun e => by rw [e, (a1.ow _ m).1] at n; cases n) _ ((a1.own n e2 hq).put (Up1.tail (w q))).keep⟩
theorem q_appN {N : Addr → List (Addr × HO)} (hv : Cv (tv σ) (at_ S0 E0 S L) (.ref p)) (h : Cn (te σ) (at_ S0 E0 S L) o) (w : ∀ q, Up1 p (.lst xs) (.lst (xs ++ [.ref q])) L (N q)) (hz : xs.length < sizeLine)
    (k : ∀ q, S q = none → q ≠ p → Go s D σ (at_ S0 E0 (upd S q o) (N q))) : Go (tSeq (tDrop (tBM K "list" rAppend tv (tCons te tNil))) s) D σ (at_ S0 E0 S L) := g_seq (appN_run hv h w hz k)
theorem s_appN {N : Addr → List (Addr × HO)} (hv : Cv (tv σ) (at_ S0 E0 S L) (.ref p)) (h : Cn (te σ) (at_ S0 E0 S L) o) (w : ∀ q, Up1 p (.lst xs) (.lst (xs ++ [.ref q])) L (N q)) (hz : xs.length < sizeLine)
    (k : ∀ q, S q = none → q ≠ p → ∀ H, (at_ S0 E0 (upd S q o) (N q)).P H → D.nx σ H) : Go (tDrop (tBM K "list" rAppend tv (tCons te tNil))) D σ (at_ S0 E0 S L) := appN_run hv h w hz k
theorem set_run (h : Cv (te σ) (at_ S0 E0 S L) v) (hv : Cv (tv σ) (at_ S0 E0 S L) (.ref p)) (hi : Cv (ti σ) (at_ S0 E0 S L) (.int k)) (hj : ixN xs.length k = some j) (w : Up1 p (.lst xs) (.lst (xs.set j v)) L L') (c : ∀ H, AtP S0 E0 S L' H → D.nx σ H) :
    Go (tAsg te (gSub tv ti rSetA)) D σ (at_ S0 E0 S L) := fun H a => h H a _ fun H1 e1 => by
  have a1 : AtP S0 E0 S L H1 := AtP.ext a e1
  refine hv H1 a1 _ fun H2 e2 => hi H2 (a1.ext e2) _ fun H3 e3 => ?_
  have a3 : AtP S0 E0 S L H3 := (a1.ext e2).ext e3
  exact .inl ⟨p, xs, k, j, rfl, rfl, (a3.ow _ w.mem).1, hj, c _ (a3.put w)⟩
theorem q_set (h : Cv (te σ) (at_ S0 E0 S L) v) (hv : Cv (tv σ) (at_ S0 E0 S L) (.ref p)) (hi : Cv (ti σ) (at_ S0 E0 S L) (.int k)) (hj : ixN xs.length k = some j) (w : Up1 p (.lst xs) (.lst (xs.set j v)) L L') (c : Go s D σ (at_ S0 E0 S L')) :
    Go (tSeq (tAsg te (gSub tv ti rSetA)) s) D σ (at_ S0 E0 S L) := g_seq (set_run h hv hi hj w c)
theorem s_set (h : Cv (te σ) (at_ S0 E0 S L) v) (hv : Cv (tv σ) (at_ S0 E0 S L) (.ref p)) (hi : Cv (ti σ) (at_ S0 E0 S L) (.int k)) (hj : ixN xs.length k = some j) (w : Up1 p (.lst xs) (.lst (xs.set j v)) L L') (c : ∀ H, (at_ S0 E0 S L').P H → D.nx σ H) :
    Go (tAsg te (gSub tv ti rSetA)) D σ (at_ S0 E0 S L) := set_run h hv hi hj w c
theorem q_pop (hv : Cv (tv σ) (at_ S0 E0 S L) (.ref p)) (hy : xs[xs.length - 1]? = some y) (w : Up1 p (.lst xs) (.lst xs.dropLast) L L') (c : Go s D (σ.set i (some y)) (at_ S0 E0 S L')) :
    Go (tSeq (tAsg (tBM0 K "list" rPop tv) (gName i)) s) D σ (at_ S0 E0 S L) := fun H a => hv H a _ fun H1 e1 => by
  have a1 : AtP S0 E0 S L H1 := AtP.ext a e1
  exact ⟨.inl ⟨rfl, xs, SqL.of (a1.ow _ w.mem).1⟩, p, xs, y, rfl, rfl, (a1.ow _ w.mem).1, hy, c _ (a1.put w)⟩
end
section
variable {S0 S H : Hp} {L : List (Addr × HO)} {σ : L2.St} {te : TE} {o : HO} {D : Ends} {p : Addr}
theorem s_retO (hv : Cv (te σ) (at_ S0 H S L) (.ref p)) (hm : (p, o) ∈ L) (q : RetN o H D.rt) : Go (tRet te) D σ (at_ S0 H S L) := fun H1 a => hv H1 a _ fun H2 e2 => by
  have a2 : AtP S0 H S L H2 := AtP.ext a e2
  exact q p H2 (a2.ow _ hm).2.2 a2.e0 (a2.ow _ hm).1
end
/-- a statement that is never reached -/
def tDead : TS := fun _ _ _ => False
theorem ps_dead {X : Cx} {st : Stmt} : PS X st tDead := ⟨fun _ _ _ _ _ _ h => False.elim h⟩
theorem go_dead {D : Ends} {σ : L2.St} {A : Asr} (h : False) : Go tDead D σ A := h.elim
/-- sep.join(xs) -/
def rJoin (K : PySem.W.Frag) : V → List V → Hp → VK → Prop := fun x xs H Q => ∃ a p, ∃ ys : List Str, x = .str a ∧ xs = [.ref p] ∧ (SqL K H p (ys.map V.str) ∨ SqT K H p (ys.map V.str)) ∧
  (ys.map (·.length)).sum + ys.length * a.length ≤ 16777216 ∧ Q (.str (Txt.join a ys)) H
open PySem.Spec PyProof.Rows in
theorem pe_joinA {X : Cx} {o e : Expr} {to te : TE} {apos pos : Pos} (ho : PE X o to) (he : PE X e te) (hs : starEach [e] X.env = [(false, eval e X.env)] := by rfl) (hbase : attributeBase o "join" X.env (eval o X.env) = eval o X.env := by rfl) (hline : (apos.endLine == pos.line) = true := by rfl) :
    PE X (.Call (.Attribute o "join" apos) [e] [] pos) (tM1 (rJoin X.K) to te) := pe_join ho he hs hbase hline
theorem e_join {K : PySem.W.Frag} {A : Asr} {a : Str} {p : Addr} {ys : List Str} (h : KnL K A p (ys.map V.str)) (hz : (ys.map (·.length)).sum + ys.length * a.length ≤ 16777216) : Cv (rJoin K (.str a) [.ref p]) A (.str (Txt.join a ys)) := fun H hA _ q =>
  ⟨a, p, ys, rfl, rfl, .inl (h H hA), hz, q H (Same.refl H)⟩
/-- list(xs) -/
def rCopy (K : PySem.W.Frag) : List V → Hp → VK → Prop := fun xs H Q => ∃ p ys, xs = [.ref p] ∧ (SqL K H p ys ∨ SqT K H p ys) ∧ ∀ l, H l = none → Q (.ref l) (upd H l (.lst ys))
theorem call_copyA {X : Cx} : CallR X (.type "list") (rCopy X.K) := call_list_of
theorem e_copyL {K : PySem.W.Frag} {A : Asr} {p : Addr} {ys : List V} (h : KnL K A p ys) : Cn (rCopy K [.ref p]) A (.lst ys) := fun H hA _ q => ⟨p, ys, rfl, .inl (h H hA), fun l hl => q l _ hl (same_new hl) upd_same⟩
theorem e_copyT {K : PySem.W.Frag} {A : Asr} {p : Addr} {ys : List V} (h : KnT K A p ys) : Cn (rCopy K [.ref p]) A (.lst ys) := fun H hA _ q => ⟨p, ys, rfl, .inr (h H hA), fun l hl => q l _ hl (same_new hl) upd_same⟩
/-- tuple(xs) -/
def rTupA (K : PySem.W.Frag) : List V → Hp → VK → Prop := fun xs H Q => ∃ p ys, xs = [.ref p] ∧ ((SqL K H p ys ∧ ∀ l, H l = none → Q (.ref l) (upd H l (.tup ys))) ∨ (SqT K H p ys ∧ Q (.ref p) H))
theorem call_tupA {X : Cx} : CallR X (.type "tuple") (rTupA X.K) := call_tuple_of
theorem e_tupL {K : PySem.W.Frag} {A : Asr} {p : Addr} {ys : List V} (h : KnL K A p ys) : Cn (rTupA K [.ref p]) A (.tup ys) := fun H hA _ q => ⟨p, ys, rfl, .inl ⟨h H hA, fun l hl => q l _ hl (same_new hl) upd_same⟩⟩
theorem e_tupT {K : PySem.W.Frag} {A : Asr} {p : Addr} {ys : List V} (h : KnT K A p ys) : Cv (rTupA K [.ref p]) A (.ref p) := fun H hA _ q => ⟨p, ys, rfl, .inr ⟨h H hA, q H (Same.refl H)⟩⟩
/-- range with a step -/
theorem j_rng3 {σ : L2.St} {A : Asr} {ta : TA} {lo n c : Int} {m : Nat} (h : Ca (ta σ) A [.int lo, .int n, .int c]) (h1 : RgC lo n c m) : Cj (iRng3 ta σ) A (Itc lo c m) := fun H hA R k => h H hA _ fun H1 e1 => ⟨lo, n, c, m, rfl, h1, k H1 e1⟩
section
variable {K : PySem.W.Frag} {S0 E0 S : Hp} {L : List (Addr × HO)} {σ : L2.St} {tb s : TS} {D : Ends} {j : Nat} {xs : List V}
theorem s_forO {tl : TE} (h : Cn (tl σ) (at_ S0 E0 S L) (.lst xs)) (P : Addr → Nat → L2.St → Asr → Prop) (h0 : ∀ p, P p 0 σ (at_ S0 E0 S ((p, .lst xs) :: L))) (hx : ∀ p i σ' A', P p i σ' A' → KnL K A' p xs)
    (hs : ∀ p i x σ' A', xs[i]? = some x → P p i σ' A' → Go tb { D with nx := Nf (P p) (i + 1), ct := Nf (P p) (i + 1), bk := D.nx } (σ'.set j (some x)) A') (hd : ∀ p σ' A', P p xs.length σ' A' → ∀ H, A'.P H → D.nx σ' H) : Go (tFor (iList K tl) (gName j) tb) D σ (at_ S0 E0 S L) := fun H hA =>
  h H hA _ fun p H1 n e1 hp => ⟨p, rfl, ⟨xs, SqL.of hp⟩, for_it walk_list (Nf (P p)) ⟨_, h0 p, AtP.own hA n e1 hp⟩ (fun i σ' H' _ ⟨A', q, a⟩ => hx p i σ' A' q H' a) (fun i x σ' H' H2 _ ⟨A', q, a⟩ y => by
    obtain ⟨rfl, hx2⟩ := y
    exact hs p i x σ' A' hx2 q _ a) (fun σ' H' ⟨A', q, a⟩ => hd p σ' A' q H' a)⟩
theorem q_forO {tl : TE} (h : Cn (tl σ) (at_ S0 E0 S L) (.lst xs)) (P : Addr → Nat → L2.St → Asr → Prop) (h0 : ∀ p, P p 0 σ (at_ S0 E0 S ((p, .lst xs) :: L))) (hx : ∀ p i σ' A', P p i σ' A' → KnL K A' p xs)
    (hs : ∀ p i x σ' A', xs[i]? = some x → P p i σ' A' → Go tb { D with nx := Nf (P p) (i + 1), ct := Nf (P p) (i + 1), bk := s D } (σ'.set j (some x)) A') (hd : ∀ p σ' A', P p xs.length σ' A' → Go s D σ' A') : Go (tSeq (tFor (iList K tl) (gName j) tb) s) D σ (at_ S0 E0 S L) :=
  g_seq (s_forO h P h0 hx hs hd)
end
/-! ### comprehensions -/
section
variable {K : PySem.W.Frag} {σ : L2.St} {A : Asr} {wi : TI} {g : TG} {tt : TT} {te : TE} {J : It} {m j k : Nat} {G : Hp → Prop} {Y : Nat → Hp → V → Hp → Prop} {vs : List Nat}
def AccP (acc : Nat → List V) (H1 : Hp) (Dl : Addr) (i : Nat) (H : Hp) : Prop := H1 Dl = none ∧ Same H1 H ∧ H Dl = some (.lst (acc i))
theorem same_mut {H H' : Hp} {p : Addr} {o : HO} (e : Same H H') (h : H p = none) : Same H (upd H' p o) := fun a u ha => by
  rw [upd_ne (ne_of_none ha h)]
  exact e a u ha
theorem lc_turn {c : CmB} {e : Cm} {b : Bool} {v : V} {H1 H' : Hp} {Dl : Addr} {acc : Nat → List V} {i : Nat} (p : AccP acc H1 Dl i H') (hA : A.P H1) (hz : (acc i).length < sizeLine) (ht : Ct c A b) (he : b = true → Cv e A v)
    (ha : acc (i + 1) = if b then acc i ++ [v] else acc i) :
    c H' fun b H3 => if b = true then e H3 fun y H4 => ∃ ac, H4 Dl = some (.lst ac) ∧ ac.length < sizeLine ∧ AccP acc H1 Dl (i + 1) (upd H4 Dl (.lst (ac ++ [y]))) else AccP acc H1 Dl (i + 1) H3 := by
  obtain ⟨p1, p2, p3⟩ := p
  refine ht H' (A.st _ _ hA p2) _ fun H3 e3 => ?_
  cases b with
  | true =>
    rw [if_pos rfl]
    rw [if_pos rfl] at ha
    refine he rfl H3 (A.st _ _ hA (p2.trans e3)) _ fun H4 e4 => ⟨acc i, e4 Dl _ (e3 Dl _ p3), hz, p1, same_mut ((p2.trans e3).trans e4) p1, ?_⟩
    rw [ha]
    exact upd_same
  | false =>
    rw [if_neg Bool.false_ne_true]
    rw [if_neg Bool.false_ne_true] at ha
    refine ⟨p1, p2.trans e3, ?_⟩
    rw [ha]
    exact e3 Dl _ p3
theorem range_acc {p : Nat → Bool} {v : Nat → V} (i : Nat) : ((List.range (i + 1)).filter p).map v = if p i then ((List.range i).filter p).map v ++ [v i] else ((List.range i).filter p).map v := by
  rw [List.range_succ, List.filter_append, List.map_append, List.filter_cons]
  split <;> simp
theorem range_len {p : Nat → Bool} {v : Nat → V} (i : Nat) : (((List.range i).filter p).map v).length ≤ i := by
  rw [List.length_map]
  exact Nat.le_trans (List.length_filter_le _ _) (by simp)
theorem take_acc {α : Type} {l : List α} {p : α → Bool} {v : α → V} {i : Nat} {x : α} (h : l[i]? = some x) : ((l.take (i + 1)).filter p).map v = if p x then ((l.take i).filter p).map v ++ [v x] else ((l.take i).filter p).map v := by
  rw [List.take_add_one, h, List.filter_append, List.map_append]
  show _ ++ List.map v (List.filter p [x]) = _
  rw [List.filter_cons]
  split <;> simp
theorem take_len {α : Type} {l : List α} {p : α → Bool} {v : α → V} (i : Nat) : (((l.take i).filter p).map v).length ≤ l.length := by
  rw [List.length_map]
  exact Nat.le_trans (List.length_filter_le _ _) (by rw [List.length_take]; omega)
theorem n_lcF {f : Nat → V} (hj : Cj (wi σ) A J) (w : Walk J m (fun _ => True) (YFn f)) (hm : m < sizeLine) (p : Nat → Bool) (v : Nat → V)
    (ht : ∀ i, i < m → Ct (tt ((wipe σ vs).set j (some (f i)))) A (p i)) (he : ∀ i, i < m → p i = true → Cv (te ((wipe σ vs).set j (some (f i)))) A (v i)) (hw : ∀ x, wipe ((wipe σ vs).set j (some x)) vs = wipe σ vs) :
    Cn (tLc wi (gName j) tt te vs σ) A (.lst (((List.range m).filter p).map v)) := fun H hA Q q => hj H hA _ fun H1 e1 Dl hD => by
  have hA1 := A.st _ _ hA e1
  refine lc_it w (AccP (fun i => ((List.range i).filter p).map v) H1 Dl) ⟨hD, same_new hD, upd_same⟩ (fun _ _ _ _ => True.intro) (fun i x H' H2 hi p' y => ?_) (fun H' p' => q Dl H' (e1.free hD) (e1.trans p'.2.1) p'.2.2)
  obtain ⟨rfl, rfl⟩ := y
  exact ⟨hw _, lc_turn p' hA1 (Nat.lt_of_le_of_lt (range_len i) (by omega)) (ht i hi) (he i hi) (range_acc i)⟩
theorem n_lcA {α : Type} {l : List α} {f : α → V} (hj : Cj (wi σ) A J) (w : Walk J l.length G (YAt (l.map f))) (hG : ∀ H, A.P H → G H) (hm : l.length < sizeLine) (p : α → Bool) (v : α → V)
    (ht : ∀ x, x ∈ l → Ct (tt ((wipe σ vs).set j (some (f x)))) A (p x)) (he : ∀ x, x ∈ l → p x = true → Cv (te ((wipe σ vs).set j (some (f x)))) A (v x)) (hw : ∀ x, wipe ((wipe σ vs).set j (some x)) vs = wipe σ vs) :
    Cn (tLc wi (gName j) tt te vs σ) A (.lst ((l.filter p).map v)) := fun H hA Q q => hj H hA _ fun H1 e1 Dl hD => by
  have hA1 := A.st _ _ hA e1
  refine lc_it w (AccP (fun i => ((l.take i).filter p).map v) H1 Dl) ⟨hD, same_new hD, upd_same⟩ (fun i H' _ p' => hG H' (A.st _ _ hA1 p'.2.1)) (fun i x H' H2 hi p' y => ?_) (fun H' p' => q Dl H' (e1.free hD) (e1.trans p'.2.1) ?_)
  · obtain ⟨rfl, hx⟩ := y
    rw [List.getElem?_map] at hx
    obtain ⟨z, hz, rfl⟩ := Option.map_eq_some_iff.mp hx
    have hm' : z ∈ l := List.mem_of_getElem? hz
    exact ⟨hw _, lc_turn p' hA1 (Nat.lt_of_le_of_lt (take_len i) hm) (ht z hm') (he z hm') (take_acc hz)⟩
  · have h3 := p'.2.2
    simp only [List.take_length] at h3
    exact h3
theorem n_lcP {K' : PySem.W.Frag} {fx fy : Nat → Option V} (hj : Cj (wi σ) A J) (w : Walk J m G (YPair fx fy)) (hG : ∀ H, A.P H → G H) (hm : m < sizeLine) (p : Nat → Bool) (v : Nat → V)
    (ht : ∀ i x y, i < m → fx i = some x → fy i = some y → Ct (tt (((wipe σ vs).set j (some x)).set k (some y))) A (p i)) (he : ∀ i x y, i < m → fx i = some x → fy i = some y → p i = true → Cv (te (((wipe σ vs).set j (some x)).set k (some y))) A (v i))
    (hw : ∀ x y, wipe (((wipe σ vs).set j (some x)).set k (some y)) vs = wipe σ vs) :
    Cn (tLc wi (gTup K' 2 (gCons (gName j) (gCons (gName k) gNil))) tt te vs σ) A (.lst (((List.range m).filter p).map v)) := fun H hA Q q => hj H hA _ fun H1 e1 Dl hD => by
  have hA1 := A.st _ _ hA e1
  refine lc_it w (AccP (fun i => ((List.range i).filter p).map v) H1 Dl) ⟨hD, same_new hD, upd_same⟩ (fun i H' _ p' => hG H' (A.st _ _ hA1 p'.2.1)) (fun i x H' H2 hi p' y => ?_) (fun H' p' => q Dl H' (e1.free hD) (e1.trans p'.2.1) p'.2.2)
  obtain ⟨T, a, b, rfl, hT, rfl, h1, h2⟩ := y
  have p2 : AccP (fun i => ((List.range i).filter p).map v) H1 Dl i (upd H' T (.tup [a, b])) := ⟨p'.1, p'.2.1.trans (same_new hT), same_new hT _ _ p'.2.2⟩
  exact ⟨T, [a, b], rfl, SqT.of upd_same, rfl, a, [b], rfl, b, [], rfl, rfl, hw _ _, lc_turn p2 hA1 (Nat.lt_of_le_of_lt (range_len i) (by omega)) (ht i a b hi h1 h2) (he i a b hi h1 h2) (range_acc i)⟩
/-- without a test -/
theorem filt_yes {α : Type} (l : List α) : l.filter (fun _ => true) = l := by simp
/-- [e for x in range(n)] -/
theorem n_lcR {ta : TA} {n : Int} (v : Nat → V) (h : Ca (ta σ) A [.int n]) (hn : n ≤ 1000000) (h1 : -4611686018427387904 ≤ n) (he : ∀ i : Nat, (i : Int) < n → Cv (te ((wipe σ vs).set j (some (.int (i : Int))))) A (v i)) (hw : ∀ x, wipe ((wipe σ vs).set j (some x)) vs = wipe σ vs) :
    Cn (tLc (iRng1 ta) (gName j) tYes te vs σ) A (.lst ((List.range n.toNat).map v)) := by
  have e0 : ∀ i : Nat, (0 : Int) + (i : Int) = (i : Int) := fun i => Int.zero_add _
  have hs : sizeLine = 16777216 := sizeLine_eq
  have z := n_lcF (vs := vs) (te := te) (j := j) (j_rng1 h h1 (by omega)) walk_range (show n.toNat < sizeLine by omega) (fun _ => true) v (fun _ _ => t_yes) (fun i hi _ => by rw [e0 i]; exact he i (by omega)) hw
  rw [filt_yes] at z
  exact z
theorem n_lcRT {ta : TA} {n : Int} (p : Nat → Bool) (v : Nat → V) (h : Ca (ta σ) A [.int n]) (hn : n ≤ 1000000) (h1 : -4611686018427387904 ≤ n) (ht : ∀ i : Nat, (i : Int) < n → Ct (tt ((wipe σ vs).set j (some (.int (i : Int))))) A (p i)) (he : ∀ i : Nat, (i : Int) < n → p i = true → Cv (te ((wipe σ vs).set j (some (.int (i : Int))))) A (v i)) (hw : ∀ x, wipe ((wipe σ vs).set j (some x)) vs = wipe σ vs) :
    Cn (tLc (iRng1 ta) (gName j) tt te vs σ) A (.lst (((List.range n.toNat).filter p).map v)) := by
  have e0 : ∀ i : Nat, (0 : Int) + (i : Int) = (i : Int) := fun i => Int.zero_add _
  have hs : sizeLine = 16777216 := sizeLine_eq
  exact n_lcF (vs := vs) (te := te) (j := j) (j_rng1 h h1 (by omega)) walk_range (show n.toNat < sizeLine by omega) p v (fun i hi => by rw [e0 i]; exact ht i (by omega)) (fun i hi => by rw [e0 i]; exact he i (by omega)) hw
/-- [e for x in xs] -/
theorem n_lcL {α : Type} {l : List α} {f : α → V} {tl : TE} {a : Addr} (v : α → V) (h : Cv (tl σ) A (.ref a)) (hx : KnL K A a (l.map f)) (hm : l.length < sizeLine) (he : ∀ x, x ∈ l → Cv (te ((wipe σ vs).set j (some (f x)))) A (v x)) (hw : ∀ x, wipe ((wipe σ vs).set j (some x)) vs = wipe σ vs) :
    Cn (tLc (iList K tl) (gName j) tYes te vs σ) A (.lst (l.map v)) := by
  have z := n_lcA (vs := vs) (te := te) (j := j) (j_list h hx) (by have := walk_list (K := K) (a := a) (xs := l.map f); rw [List.length_map] at this; exact this) hx hm (fun _ => true) v (fun _ _ => t_yes) (fun x hx2 _ => he x hx2) hw
  rw [filt_yes] at z
  exact z
theorem n_lcLT {α : Type} {l : List α} {f : α → V} {tl : TE} {a : Addr} (p : α → Bool) (v : α → V) (h : Cv (tl σ) A (.ref a)) (hx : KnL K A a (l.map f)) (hm : l.length < sizeLine) (ht : ∀ x, x ∈ l → Ct (tt ((wipe σ vs).set j (some (f x)))) A (p x)) (he : ∀ x, x ∈ l → p x = true → Cv (te ((wipe σ vs).set j (some (f x)))) A (v x)) (hw : ∀ x, wipe ((wipe σ vs).set j (some x)) vs = wipe σ vs) :
    Cn (tLc (iList K tl) (gName j) tt te vs σ) A (.lst ((l.filter p).map v)) :=
  n_lcA (vs := vs) (te := te) (j := j) (j_list h hx) (by have := walk_list (K := K) (a := a) (xs := l.map f); rw [List.length_map] at this; exact this) hx hm p v ht he hw
end
/-! ### everything that is not one's own may stand for good -/
open Classical in
noncomputable def absb (S0 E0 : Hp) (L : List (Addr × HO)) (H : Hp) : Hp := fun a => if a ∈ L.map (·.1) ∨ (S0 a = none ∧ E0 a ≠ none) then none else H a
section
variable {S0 E0 S H : Hp} {L : List (Addr × HO)} {p : Addr} {o : HO}
theorem AtP.absorb (h : AtP S0 E0 S L H) : AtP S0 E0 (absb S0 E0 L H) L H ∧ Same S (absb S0 E0 L H) := by
  have own : ∀ a x, S a = some x → absb S0 E0 L H a = some x := fun a x e => by
    unfold absb
    rw [if_neg, h.sh a x e]
    rintro (hm | ⟨h1, h2⟩)
    · obtain ⟨q, hq, e1⟩ := List.mem_map.mp hm
      have z := (h.ow q hq).2.1
      rw [e1, e] at z
      cases z
    · have z := h.nw a h1 h2
      rw [e] at z
      cases z
  refine ⟨⟨fun a x e => own a x (h.s0 a x e), h.e0, fun a x e => ?_, fun a h1 h2 => ?_, fun q hq => ⟨(h.ow q hq).1, ?_, (h.ow q hq).2.2⟩, h.nd⟩, own⟩
  · unfold absb at e
    split at e
    · cases e
    · exact e
  · unfold absb
    rw [if_pos (.inr ⟨h1, h2⟩)]
  · unfold absb
    rw [if_pos (.inl (List.mem_map.mpr ⟨q, hq, rfl⟩))]
theorem absorb_at (h : AtP S0 E0 S L H) (hp : H p = some o) (h1 : p ∉ L.map (·.1)) (h2 : E0 p = none) : absb S0 E0 L H p = some o := by
  unfold absb
  rw [if_neg, hp]
  rintro (hm | ⟨_, h3⟩)
  · exact h1 hm
  · exact h3 h2
end
/-- a new list of new objects -/
def NewAll (H H' : Hp) (p : Addr) (vs : List V) (m : Nat) (o : Nat → HO) : Prop := vs.length = m ∧ ∀ i, i < m → ∃ q, vs[i]? = some (.ref q) ∧ H q = none ∧ q ≠ p ∧ H' q = some (o i)
def Cm2 (c : Cm) (A : Asr) (m : Nat) (o : Nat → HO) : Prop := ∀ H, A.P H → ∀ Q : VK, (∀ p H' vs, H p = none → Same H H' → H' p = some (.lst vs) → NewAll H H' p vs m o → Q (.ref p) H') → c H Q
def RetM (m : Nat) (o : Nat → HO) (H : Hp) (Q : VK) : Prop := ∀ p H' vs, H p = none → Same H H' → H' p = some (.lst vs) → NewAll H H' p vs m o → Q (.ref p) H'
section
variable {K : PySem.W.Frag} {S0 E0 S : Hp} {L : List (Addr × HO)} {σ : L2.St} {A : Asr} {wi : TI} {tt : TT} {te tl : TE} {J : It} {m j k l i : Nat} {G : Hp → Prop} {Y : Nat → Hp → V → Hp → Prop} {vs : List Nat} {D : Ends} {s tb : TS} {g : TG} {xs : List V} {a : Addr}
theorem d_lc (hj : Cj (wi σ) A J) (w : Walk J m G Y) (hG : ∀ H, A.P H → G H) (hm : m < sizeLine) (R : Nat → V → Prop) (hy : ∀ i H x H', i < m → Y i H x H' → H' = H ∧ R i x) (o : Nat → HO)
    (he : ∀ i x, i < m → R i x → Cn (te ((wipe σ vs).set j (some x))) A (o i)) (hw : ∀ x, wipe ((wipe σ vs).set j (some x)) vs = wipe σ vs) : Cm2 (tLc wi (gName j) tYes te vs σ) A m o := fun H hA Q q => hj H hA _ fun H1 e1 Dl hD => by
  have hA1 := A.st _ _ hA e1
  refine lc_it w (fun i H2 => Same H1 H2 ∧ ∃ acc : List V, H2 Dl = some (.lst acc) ∧ acc.length = i ∧ ∀ t, t < i → ∃ q, acc[t]? = some (.ref q) ∧ H1 q = none ∧ q ≠ Dl ∧ H2 q = some (o t)) ⟨same_new hD, [], upd_same, rfl, fun t ht => absurd ht (Nat.not_lt_zero t)⟩ (fun i H' _ p' => hG H' (A.st _ _ hA1 p'.1)) (fun i x H' H2 hi p' y => ?_) (fun H' p' => ?_)
  · obtain ⟨rfl, hx⟩ := hy i _ x _ hi y
    obtain ⟨p1, acc, p2, p3, p4⟩ := p'
    refine ⟨hw x, he i x hi hx _ (A.st _ _ hA1 p1) _ fun r H4 n e4 hr => ⟨acc, e4 Dl _ p2, by omega, same_mut (p1.trans e4) hD, acc ++ [.ref r], upd_same, by rw [List.length_append, p3]; rfl, fun t ht => ?_⟩⟩
    have hne : r ≠ Dl := fun e => by rw [e, p2] at n; cases n
    by_cases ht2 : t < i
    · obtain ⟨z, z1, z2, z3, z4⟩ := p4 t ht2
      exact ⟨z, by rw [List.getElem?_append_left (by omega)]; exact z1, z2, z3, by rw [upd_ne z3]; exact e4 _ _ z4⟩
    · have et : t = acc.length := by omega
      refine ⟨r, by rw [et]; simp, p1.free n, hne, ?_⟩
      rw [upd_ne hne, et, p3]
      exact hr
  · obtain ⟨p1, acc, p2, p3, p4⟩ := p'
    exact q Dl H' acc (e1.free hD) (e1.trans p1) p2 ⟨p3, fun t ht => by
      obtain ⟨z, z1, z2, z3, z4⟩ := p4 t ht
      exact ⟨z, z1, e1.free z2, z3, z4⟩⟩
theorem d_lcR {ta : TA} {n : Int} (o : Nat → HO) (h : Ca (ta σ) A [.int n]) (hn : n ≤ 1000000) (h1 : -4611686018427387904 ≤ n) (he : ∀ i : Nat, (i : Int) < n → Cn (te ((wipe σ vs).set j (some (.int (i : Int))))) A (o i)) (hw : ∀ x, wipe ((wipe σ vs).set j (some x)) vs = wipe σ vs) :
    Cm2 (tLc (iRng1 ta) (gName j) tYes te vs σ) A n.toNat o := by
  have hs : sizeLine = 16777216 := sizeLine_eq
  refine d_lc (j_rng1 h h1 (by omega)) walk_range (fun _ _ => True.intro) (by omega) (fun i x => x = .int (i : Int)) (fun i H x H' _ y => ⟨y.1, by rw [y.2]; show V.int (0 + _) = _; rw [Int.zero_add]⟩) o (fun i x hi hx => ?_) hw
  subst hx
  exact he i (by omega)
theorem d_lcL (o : Nat → HO) (h : Cv (tl σ) A (.ref a)) (hx : KnL K A a xs) (hm : xs.length < sizeLine) (he : ∀ i x, xs[i]? = some x → Cn (te ((wipe σ vs).set j (some x))) A (o i)) (hw : ∀ x, wipe ((wipe σ vs).set j (some x)) vs = wipe σ vs) :
    Cm2 (tLc (iList K tl) (gName j) tYes te vs σ) A xs.length o :=
  d_lc (j_list h hx) walk_list hx hm (fun i x => xs[i]? = some x) (fun i H x H' _ y => y) o (fun i x _ hx2 => he i x hx2) hw
theorem q_ownC {o : Nat → HO} (h : Cm2 (te σ) (at_ S0 E0 S L) m o) (k : ∀ p S' vs, Same S S' → vs.length = m → (∀ i, i < m → ∃ q, vs[i]? = some (.ref q) ∧ S' q = some (o i)) → Go s D (σ.set i (some (.ref p))) (at_ S0 E0 S' ((p, .lst vs) :: L))) :
    Go (tSeq (tAsg te (gName i)) s) D σ (at_ S0 E0 S L) := fun H a => h H a _ fun p H1 vs n e1 hp hv => by
  have a1 := AtP.own a n e1 hp
  obtain ⟨a2, sm⟩ := a1.absorb
  refine k p _ vs sm hv.1 (fun i hi => ?_) H1 a2
  obtain ⟨q, h1, h2, h3, h4⟩ := hv.2 i hi
  refine ⟨q, h1, absorb_at a1 h4 ?_ (AtP.e0 a |>.free h2)⟩
  rw [List.map_cons, List.mem_cons]
  rintro (e | hm)
  · exact h3 e
  · obtain ⟨y, hy, e⟩ := List.mem_map.mp hm
    have z := (AtP.ow a y hy).1
    rw [e, h2] at z
    cases z
/-- what a target comes to -/
def Gs (g : TG) (x : V) (σ : L2.St) (A : Asr) (σ2 : L2.St) : Prop := ∀ H, A.P H → ∀ Q : L2.St → Hp → Prop, Q σ2 H → g x σ H Q
theorem gs_L3 {x y z : V} {K' : PySem.W.Frag} (h : KnL K' A a [x, y, z]) : Gs (gLst K' 3 (gCons (gName j) (gCons (gName k) (gCons (gName l) gNil)))) (.ref a) σ A (((σ.set j (some x)).set k (some y)).set l (some z)) := fun H hA Q q =>
  ⟨a, [x, y, z], rfl, h H hA, rfl, x, _, rfl, y, _, rfl, z, [], rfl, rfl, q⟩
theorem gs_T3 {x y z : V} {K' : PySem.W.Frag} (h : KnT K' A a [x, y, z]) : Gs (gTup K' 3 (gCons (gName j) (gCons (gName k) (gCons (gName l) gNil)))) (.ref a) σ A (((σ.set j (some x)).set k (some y)).set l (some z)) := fun H hA Q q =>
  ⟨a, [x, y, z], rfl, h H hA, rfl, x, _, rfl, y, _, rfl, z, [], rfl, rfl, q⟩
theorem gs_L2 {x y : V} {K' : PySem.W.Frag} (h : KnL K' A a [x, y]) : Gs (gLst K' 2 (gCons (gName j) (gCons (gName k) gNil))) (.ref a) σ A ((σ.set j (some x)).set k (some y)) := fun H hA Q q =>
  ⟨a, [x, y], rfl, h H hA, rfl, x, _, rfl, y, [], rfl, rfl, q⟩
theorem gs_T2 {x y : V} {K' : PySem.W.Frag} (h : KnT K' A a [x, y]) : Gs (gTup K' 2 (gCons (gName j) (gCons (gName k) gNil))) (.ref a) σ A ((σ.set j (some x)).set k (some y)) := fun H hA Q q =>
  ⟨a, [x, y], rfl, h H hA, rfl, x, _, rfl, y, [], rfl, rfl, q⟩
theorem s_forG (h : Cv (tl σ) A (.ref a)) (P : Nat → L2.St → Asr → Prop) (h0 : P 0 σ A) (hx : ∀ i σ' A', P i σ' A' → KnL K A' a xs)
    (hs : ∀ i x σ' A', xs[i]? = some x → P i σ' A' → ∃ σ2, Gs g x σ' A' σ2 ∧ Go tb { D with nx := Nf P (i + 1), ct := Nf P (i + 1), bk := D.nx } σ2 A') (hd : ∀ σ' A', P xs.length σ' A' → ∀ H, A'.P H → D.nx σ' H) : Go (tFor (iList K tl) g tb) D σ A :=
  s_for (j_list h (hx 0 σ A h0)) walk_list P h0 (fun i σ' A' _ p => hx i σ' A' p) (fun i σ' A' hi p H hA x H' y => by
    obtain ⟨rfl, hx2⟩ := y
    obtain ⟨σ2, h1, h2⟩ := hs i x σ' A' hx2 p
    exact h1 _ hA _ (h2 _ hA)) hd
theorem q_forG (h : Cv (tl σ) A (.ref a)) (P : Nat → L2.St → Asr → Prop) (h0 : P 0 σ A) (hx : ∀ i σ' A', P i σ' A' → KnL K A' a xs)
    (hs : ∀ i x σ' A', xs[i]? = some x → P i σ' A' → ∃ σ2, Gs g x σ' A' σ2 ∧ Go tb { D with nx := Nf P (i + 1), ct := Nf P (i + 1), bk := s D } σ2 A') (hd : ∀ σ' A', P xs.length σ' A' → Go s D σ' A') : Go (tSeq (tFor (iList K tl) g tb) s) D σ A :=
  g_seq (s_forG h P h0 hx hs hd)
theorem s_forY (hj : Cj (wi σ) A J) (w : Walk J m G Y) (R : Nat → V → Prop) (hy : ∀ i H x H', i < m → Y i H x H' → H' = H ∧ R i x) (P : Nat → L2.St → Asr → Prop) (h0 : P 0 σ A) (hG : ∀ i σ' A', P i σ' A' → ∀ H, A'.P H → G H)
    (hs : ∀ i x σ' A', i < m → R i x → P i σ' A' → ∃ σ2, Gs g x σ' A' σ2 ∧ Go tb { D with nx := Nf P (i + 1), ct := Nf P (i + 1), bk := D.nx } σ2 A') (hd : ∀ σ' A', P m σ' A' → ∀ H, A'.P H → D.nx σ' H) : Go (tFor wi g tb) D σ A :=
  s_for hj w P h0 (fun i σ' A' _ p => hG i σ' A' p) (fun i σ' A' hi p H hA x H' y => by
    obtain ⟨rfl, hx2⟩ := hy i _ x _ hi y
    obtain ⟨σ2, h1, h2⟩ := hs i x σ' A' hi hx2 p
    exact h1 _ hA _ (h2 _ hA)) hd
/-- reversed(xs) -/
theorem q_forV {ta : TA} (h : Ca (ta σ) A [.ref a]) (P : Nat → L2.St → Asr → Prop) (h0 : P 0 σ A) (hx : ∀ i σ' A', P i σ' A' → KnL K A' a xs)
    (hs : ∀ i x σ' A', i < xs.length → xs[xs.length - 1 - i]? = some x → P i σ' A' → ∃ σ2, Gs g x σ' A' σ2 ∧ Go tb { D with nx := Nf P (i + 1), ct := Nf P (i + 1), bk := s D } σ2 A') (hd : ∀ σ' A', P xs.length σ' A' → Go s D σ' A') : Go (tSeq (tFor (iRev K ta) g tb) s) D σ A :=
  g_seq (s_forY (j_rev h (hx 0 σ A h0)) walk_rev (fun i x => xs[xs.length - 1 - i]? = some x) (fun i H x H' _ y => y) P h0 (fun i σ' A' p => hx i σ' A' p) hs hd)
theorem gs_name {x : V} : Gs (gName j) x σ A (σ.set j (some x)) := fun _ _ _ q => q
/-- [e for .. in xs], the items taken apart -/
theorem n_lcG (v : Nat → V) (h : Cv (tl σ) A (.ref a)) (hx : KnL K A a xs) (hm : xs.length < sizeLine) (he : ∀ i x, xs[i]? = some x → ∃ σ2, Gs g x (wipe σ vs) A σ2 ∧ wipe σ2 vs = wipe σ vs ∧ Cv (te σ2) A (v i)) :
    Cn (tLc (iList K tl) g tYes te vs σ) A (.lst ((List.range xs.length).map v)) := fun H hA Q q => j_list h hx H hA _ fun H1 e1 Dl hD => by
  have hA1 := A.st _ _ hA e1
  refine lc_it walk_list (AccP (fun i => (List.range i).map v) H1 Dl) ⟨hD, same_new hD, upd_same⟩ (fun i H' _ p' => hx H' (A.st _ _ hA1 p'.2.1)) (fun i x H' H2 hi p' y => ?_) (fun H' p' => q Dl H' (e1.free hD) (e1.trans p'.2.1) p'.2.2)
  obtain ⟨rfl, hx2⟩ := y
  obtain ⟨σ2, g1, g2, g3⟩ := he i x hx2
  obtain ⟨p1, p2, p3⟩ := p'
  refine g1 _ (A.st _ _ hA1 p2) _ ⟨g2, t_yes (A := A) _ (A.st _ _ hA1 p2) _ fun H3 e3 => ?_⟩
  rw [if_pos rfl]
  refine g3 _ (A.st _ _ hA1 (p2.trans e3)) _ fun H4 e4 => ⟨(List.range i).map v, e4 Dl _ (e3 Dl _ p3), by rw [List.length_map, List.length_range]; omega, p1, same_mut ((p2.trans e3).trans e4) p1, ?_⟩
  show upd H4 Dl _ Dl = some (HO.lst ((List.range (i + 1)).map v))
  rw [List.range_succ, List.map_append]
  exact upd_same
end
/-! ### new deep data -/
inductive Fp (N : Addr → Prop) (H : Hp) : V → PyData → Prop
  | non : Fp N H .non .none
  | bl (b : Bool) : Fp N H (.bl b) (.bool b)
  | int (i : Int) : Fp N H (.int i) (.int i)
  | str (x : Str) : Fp N H (.str x) (.str x)
  | lst {a : Addr} {xs : List V} {ds : List PyData} (n : N a) (h : H a = some (.lst xs)) (l : xs.length = ds.length) (f : ∀ (i : Nat) x d, xs[i]? = some x → ds[i]? = some d → Fp N H x d) : Fp N H (.ref a) (.list ds)
  | tup {a : Addr} {xs : List V} {ds : List PyData} (n : N a) (h : H a = some (.tup xs)) (l : xs.length = ds.length) (f : ∀ (i : Nat) x d, xs[i]? = some x → ds[i]? = some d → Fp N H x d) : Fp N H (.ref a) (.tuple ds)
theorem dpAll_of {K : PySem.W.Frag} {H : Hp} : ∀ {xs : List V} {ds : List PyData}, xs.length = ds.length → (∀ (i : Nat) x d, xs[i]? = some x → ds[i]? = some d → Dp K H x d) → DpAll K H xs ds
  | [], [], _, _ => .nil
  | x :: xs, d :: ds, l, f => .cons (f 0 x d rfl rfl) (dpAll_of (by simpa using l) fun i y e h1 h2 => f (i + 1) y e (by simpa using h1) (by simpa using h2))
  | [], _ :: _, l, _ => by simp at l
  | _ :: _, [], l, _ => by simp at l
theorem Fp.imp {N M : Addr → Prop} {H H' : Hp} {x : V} {d : PyData} (h : Fp N H x d) (hn : ∀ a, N a → M a) (e : ∀ a o, N a → H a = some o → H' a = some o) : Fp M H' x d := by
  induction h with
  | non => exact .non
  | bl b => exact .bl b
  | int i => exact .int i
  | str z => exact .str z
  | lst n h l _ ih => exact .lst (hn _ n) (e _ _ n h) l ih
  | tup n h l _ ih => exact .tup (hn _ n) (e _ _ n h) l ih
theorem Fp.dp {K : PySem.W.Frag} {N : Addr → Prop} {H S : Hp} {x : V} {d : PyData} (h : Fp N H x d) (e : ∀ a o, N a → H a = some o → S a = some o) : Dp K S x d := by
  induction h with
  | non => exact .non
  | bl b => exact .bl b
  | int i => exact .int i
  | str z => exact .str z
  | lst n h l _ ih => exact .lst (SqL.of (e _ _ n h)) (dpAll_of l ih)
  | tup n h l _ ih => exact .tup (SqT.of (e _ _ n h)) (dpAll_of l ih)
def RetD (d : PyData) (H : Hp) (Q : VK) : Prop := ∀ x H', Same H H' → Fp (fun a => H a = none) H' x d → Q x H'
def Cd (c : Cm) (A : Asr) (d : PyData) : Prop := ∀ H, A.P H → ∀ Q : VK, (∀ x H', Same H H' → Fp (fun a => H a = none) H' x d → Q x H') → c H Q
section
variable {K : PySem.W.Frag} {S0 E0 S : Hp} {L : List (Addr × HO)} {σ : L2.St} {A : Asr} {te : TE} {ts : TA} {vs : List V} {i : Nat} {D : Ends} {s : TS} {g : TG} {d : PyData}
theorem d_call {sp : Sp} {E : XK} (ha : Ca (ts σ) A vs) (hr : Cd (fun H Q => sp vs H Q E) A d) : Cd (tCall sp [] E ts σ) A d := fun H a Q q =>
  ha H a _ fun H1 e1 => by
    show sp (vs ++ []) H1 Q E
    rw [List.append_nil]
    exact hr H1 (A.st _ _ a e1) Q fun x H2 e2 f => q x H2 (e1.trans e2) (f.imp (fun b h => e1.free h) fun _ _ _ z => z)
/-- new deep data stands for good -/
theorem q_asgD (h : Cd (te σ) (at_ S0 E0 S L) d) (k : ∀ x S', Same S S' → Dp K S' x d → ∃ σ2, Gs g x σ (at_ S0 E0 S' L) σ2 ∧ Go s D σ2 (at_ S0 E0 S' L)) : Go (tSeq (tAsg te g) s) D σ (at_ S0 E0 S L) := fun H a => h H a _ fun x H1 e1 f => by
  have a1 : AtP S0 E0 S L H1 := AtP.ext a e1
  obtain ⟨a2, sm⟩ := a1.absorb
  obtain ⟨σ2, h1, h2⟩ := k x _ sm (f.dp fun b o hb ho => absorb_at a1 ho (fun hm => by
    obtain ⟨y, hy, e⟩ := List.mem_map.mp hm
    have z := (AtP.ow a y hy).1
    rw [e, hb] at z
    cases z) ((AtP.e0 a).free hb))
  exact h1 H1 a2 _ (h2 H1 a2)
end
end Lo
namespace Lo
open PySem L2
/-! ### isinstance -/
section
variable {K : PySem.W.Frag} {A : Asr} {x : V} {T U : String} {b : Bool}
def KnTy (K : PySem.W.Frag) (A : Asr) (x : V) (t : Value) : Prop := ∀ H, A.P H → TyX K H x t
theorem e_isi (ht : KnTy K A x (.type T)) (hk : kitB T U = some b) : Cv (rIsi K [x, .ty U]) A (.bl b) := fun H hA _ q => ⟨x, .ty U, .type T, .type U, b, rfl, .ty U, ht H hA, kit_ty hk, q H (Same.refl H)⟩
theorem ty_int {i : Int} : KnTy K A (.int i) (.type "int") := fun _ _ => .base (.int i)
theorem ty_bl {c : Bool} : KnTy K A (.bl c) (.type "bool") := fun _ _ => .base (.bl c)
theorem ty_str {z : Str} : KnTy K A (.str z) (.type "str") := fun _ _ => .base (.str z)
theorem ty_non : KnTy K A .non (.type "NoneType") := fun _ _ => .base .non
theorem ty_lst {p : Addr} {xs : List V} (h : Kn A p (.lst xs)) : KnTy K A (.ref p) (.type "list") := fun H a => .base (.lst (h H a))
theorem ty_tup {p : Addr} {xs : List V} (h : Kn A p (.tup xs)) : KnTy K A (.ref p) (.type "tuple") := fun H a => .base (.tup (h H a))
theorem ty_dK {p : Addr} {xs : List (Key × V)} (h : Kn A p (.dK xs)) : KnTy K A (.ref p) (.type "dict") := fun H a => .base (.dK (h H a))
/-- what isinstance tells of the flat kinds -/
def isTy (U : String) : V → Bool
  | .int _ => U == "int"
  | .bl _ => U == "bool" || U == "int"
  | .str _ => U == "str"
  | _ => false
theorem e_isiII {i : Int} : Cv (rIsi K [.int i, .ty "int"]) A (.bl true) := e_isi ty_int (by decide +kernel)
theorem e_isiIB {i : Int} : Cv (rIsi K [.int i, .ty "bool"]) A (.bl false) := e_isi ty_int (by decide +kernel)
theorem e_isiIS {i : Int} : Cv (rIsi K [.int i, .ty "str"]) A (.bl false) := e_isi ty_int (by decide +kernel)
theorem e_isiBI {c : Bool} : Cv (rIsi K [.bl c, .ty "int"]) A (.bl true) := e_isi ty_bl (by decide +kernel)
theorem e_isiBB {c : Bool} : Cv (rIsi K [.bl c, .ty "bool"]) A (.bl true) := e_isi ty_bl (by decide +kernel)
theorem e_isiSI {z : Str} : Cv (rIsi K [.str z, .ty "int"]) A (.bl false) := e_isi ty_str (by decide +kernel)
theorem e_isiSB {z : Str} : Cv (rIsi K [.str z, .ty "bool"]) A (.bl false) := e_isi ty_str (by decide +kernel)
theorem e_isiSS {z : Str} : Cv (rIsi K [.str z, .ty "str"]) A (.bl true) := e_isi ty_str (by decide +kernel)
theorem e_isiNI : Cv (rIsi K [.non, .ty "int"]) A (.bl false) := e_isi ty_non (by decide +kernel)
theorem e_isiNB : Cv (rIsi K [.non, .ty "bool"]) A (.bl false) := e_isi ty_non (by decide +kernel)
theorem e_isiLL {p : Addr} {xs : List V} (h : Kn A p (.lst xs)) : Cv (rIsi K [.ref p, .ty "list"]) A (.bl true) := e_isi (ty_lst h) (by decide +kernel)
theorem e_isiLT {p : Addr} {xs : List V} (h : Kn A p (.lst xs)) : Cv (rIsi K [.ref p, .ty "tuple"]) A (.bl false) := e_isi (ty_lst h) (by decide +kernel)
theorem e_isiLI {p : Addr} {xs : List V} (h : Kn A p (.lst xs)) : Cv (rIsi K [.ref p, .ty "int"]) A (.bl false) := e_isi (ty_lst h) (by decide +kernel)
theorem e_isiTT {p : Addr} {xs : List V} (h : Kn A p (.tup xs)) : Cv (rIsi K [.ref p, .ty "tuple"]) A (.bl true) := e_isi (ty_tup h) (by decide +kernel)
theorem e_isiTL {p : Addr} {xs : List V} (h : Kn A p (.tup xs)) : Cv (rIsi K [.ref p, .ty "list"]) A (.bl false) := e_isi (ty_tup h) (by decide +kernel)
/-- int(flag) -/
def rInt1 : List V → Hp → VK → Prop := fun xs H Q => (∃ i, xs = [.int i] ∧ Q (.int i) H) ∨ ∃ k, xs = [.bl k] ∧ Q (.int (if k then 1 else 0)) H
theorem call_intA {X : Cx} : CallR X (.type "int") rInt1 := call_int1
def rCnt : V → List V → Hp → VK → Prop := fun x xs H Q => ∃ a b, x = .str a ∧ xs = [.str b] ∧ Q (.int (PySem.Txt.count a b)) H
theorem mt_countA {X : Cx} : MtR X "str.count" rCnt := mt_count
theorem e_intI {i : Int} : Cv (rInt1 [.int i]) A (.int i) := fun H _ _ q => .inl ⟨i, rfl, q H (Same.refl H)⟩
theorem e_intB {c : Bool} : Cv (rInt1 [.bl c]) A (.int (if c then 1 else 0)) := fun H _ _ q => .inr ⟨c, rfl, q H (Same.refl H)⟩
theorem e_count {a c : Str} : Cv (rCnt (.str a) [.str c]) A (.int (PySem.Txt.count a c)) := fun H _ _ q => ⟨a, c, rfl, rfl, q H (Same.refl H)⟩
theorem c_pt {σ : L2.St} {te : TE} (h : Cv (te σ) A (.bl b)) : Ct (fun H Q => te σ H fun x H' => ∃ k, x = .bl k ∧ Q k H') A b := fun H hA Q q => h H hA _ fun H1 e1 => ⟨b, rfl, q H1 e1⟩
end
end Lo

set_option autoImplicit false
namespace Ly
open PySem L2 Lo
/-! ## data without a heap -/
inductive NK where
  | lst | rd | tup | tpz | dct (ks : List Key) | dcl (ks : List Key) | dcs (x : Addr) (lk : Option PySem.Obj) (ks : List Key) | ins (C : Str) (ns : List Str) | slf (x : Addr) (C : Str) (ns : List Str)
inductive Da where
  | non | bl (b : Bool) | int (i : Int) | str (x : Str)
  | nd (k : NK) (ds : List Da)
  /-- an exception that is handled: its place, its own dict's place and content -/
  | exn (a : Addr) (d : Option Addr) (fs : List (Str × V))
abbrev Da.lst (ds : List Da) : Da := .nd .lst ds
abbrev Da.tup (ds : List Da) : Da := .nd .tup ds
abbrev dInts (xs : List Int) : Da := .nd .lst (xs.map Da.int)
abbrev dStrs (xs : List Str) : Da := .nd .lst (xs.map Da.str)
def kyD : Key → Da
  | .inl i => .int i
  | .inr x => .str x
abbrev dKeys (xs : List Key) : Da := .nd .lst (xs.map kyD)
/-- the value of flat data -/
def Da.fl : Da → Option V
  | .non => some .non
  | .bl b => some (.bl b)
  | .int i => some (.int i)
  | .str x => some (.str x)
  | .nd _ _ => none
  | .exn _ _ _ => none
def NK.ho (K : PySem.W.Frag) (dx : Addr) (vs : List V) : NK → HO
  | .lst => .lst vs
  | .rd => .lst vs
  | .tup => .tup vs
  | .tpz => .tup vs
  | .dct ks => .dK (ks.zip vs)
  | .dcl ks => .dK (ks.zip vs)
  | .dcs _ none ks => .dK (ks.zip vs)
  | .dcs _ (some o) ks => .frz o (.dK (ks.zip vs))
  | .ins C ns => .ins (He.ga K C) dx (ns.zip vs)
  | .slf _ C ns => .ins (He.ga K C) dx (ns.zip vs)
def NK.ok : NK → Nat → Prop
  | .dct ks, n => ks.length = n
  | .dcl ks, n => ks.length = n
  | .dcs _ _ ks, n => ks.length = n
  | .ins _ ns, n => ns.length = n
  | .slf _ _ ns, n => ns.length = n
  | _, _ => True
def Stands (K : PySem.W.Frag) (H : Hp) (a : Addr) : NK → List V → Prop
  | .rd, vs => SqL K H a vs
  | .dcl ks, vs => ks.length = vs.length ∧ ∃ o, H a = some (.frz o (.dK (ks.zip vs)))
  | .tpz, vs => ∃ o, o.dict = none ∧ H a = some (.frz o (.tup vs))
  | k, vs => k.ok vs.length ∧ ∃ dx, H a = some (k.ho K dx vs)
section
variable {K : PySem.W.Frag} {H H' S S' : Hp} {a : Addr} {k : NK} {vs : List V}
theorem Stands.same (e : Same H H') (h : Stands K H a k vs) : Stands K H' a k vs := by
  cases k with
  | rd => exact e.seq h
  | tpz => obtain ⟨o, h1, h2⟩ := h; exact ⟨o, h1, e _ _ h2⟩
  | lst => exact ⟨h.1, h.2.choose, e _ _ h.2.choose_spec⟩
  | tup => exact ⟨h.1, h.2.choose, e _ _ h.2.choose_spec⟩
  | dct ks => exact ⟨h.1, h.2.choose, e _ _ h.2.choose_spec⟩
  | dcl ks => exact ⟨h.1, h.2.choose, e _ _ h.2.choose_spec⟩
  | dcs x lk ks => exact ⟨h.1, h.2.choose, e _ _ h.2.choose_spec⟩
  | ins C ns => exact ⟨h.1, h.2.choose, e _ _ h.2.choose_spec⟩
  | slf x C ns => exact ⟨h.1, h.2.choose, e _ _ h.2.choose_spec⟩
theorem Stands.lst (h : Stands K H a .lst vs) : H a = some (.lst vs) := by
  obtain ⟨_, _, h⟩ := h
  exact h
theorem Stands.tup (h : Stands K H a .tup vs) : H a = some (.tup vs) := by
  obtain ⟨_, _, h⟩ := h
  exact h
theorem Stands.dct {ks : List Key} (h : Stands K H a (.dct ks) vs) : H a = some (.dK (ks.zip vs)) ∧ ks.length = vs.length := by
  obtain ⟨l, _, h⟩ := h
  exact ⟨h, l⟩
/-- a dict, locked or not -/
theorem Stands.dctR {ks : List Key} (hk : k = .dct ks ∨ k = .dcl ks) (h : Stands K H a k vs) : Rd H a (.dK (ks.zip vs)) ∧ ks.length = vs.length := by
  rcases hk with rfl | rfl
  · exact ⟨.inl h.dct.1, h.dct.2⟩
  · exact ⟨.inr h.2, h.1⟩
theorem Stands.of_lst (h : H a = some (.lst vs)) : Stands K H a .lst vs := ⟨True.intro, 0, h⟩
theorem Stands.of_tup (h : H a = some (.tup vs)) : Stands K H a .tup vs := ⟨True.intro, 0, h⟩
end
/-- the exception's own dict -/
def ExD (H : Hp) (d : Option Addr) (fs : List (Str × V)) : Prop := (d = none ∧ fs = []) ∨ ∃ dd, d = some dd ∧ H dd = some (.xd fs)
theorem ExD.same {H H' : Hp} {d : Option Addr} {fs : List (Str × V)} (e : Same H H') (h : ExD H d fs) : ExD H' d fs := by
  rcases h with h | ⟨dd, h1, h2⟩
  · exact .inl h
  · exact .inr ⟨dd, h1, e _ _ h2⟩
/-- x tells d, in H -/
inductive Dq (K : PySem.W.Frag) (H : Hp) : V → Da → Prop
  | non : Dq K H .non .non
  | bl (b : Bool) : Dq K H (.bl b) (.bl b)
  | int (i : Int) : Dq K H (.int i) (.int i)
  | str (x : Str) : Dq K H (.str x) (.str x)
  | exn {a : Addr} {d : Option Addr} {fs : List (Str × V)} (h : ExD H d fs) : Dq K H (.ref a) (.exn a d fs)
  | nd {a : Addr} {k : NK} {vs : List V} {ds : List Da} (h : Stands K H a k vs) (l : vs.length = ds.length) (f : ∀ (i : Nat) v d, vs[i]? = some v → ds[i]? = some d → Dq K H v d) : Dq K H (.ref a) (.nd k ds)
def DqAll (K : PySem.W.Frag) (H : Hp) (vs : List V) (ds : List Da) : Prop := vs.length = ds.length ∧ ∀ (i : Nat) v d, vs[i]? = some v → ds[i]? = some d → Dq K H v d
section
variable {K : PySem.W.Frag} {H H' S S' : Hp} {a : Addr} {k : NK} {vs : List V} {x v : V} {d z : Da} {ds : List Da}
theorem Dq.same (e : Same H H') (h : Dq K H x d) : Dq K H' x d := by
  induction h with
  | non => exact .non
  | bl b => exact .bl b
  | int i => exact .int i
  | str x => exact .str x
  | exn h => exact .exn (h.same e)
  | nd h l f ih => exact .nd (h.same e) l ih
theorem DqAll.same (e : Same H H') (h : DqAll K H vs ds) : DqAll K H' vs ds := ⟨h.1, fun i v d h1 h2 => (h.2 i v d h1 h2).same e⟩
theorem Dq.nd' (h : Stands K H a k vs) (f : DqAll K H vs ds) : Dq K H (.ref a) (.nd k ds) := .nd h f.1 f.2
theorem Dq.inv (h : Dq K H x (.nd k ds)) : ∃ a vs, x = .ref a ∧ Stands K H a k vs ∧ DqAll K H vs ds := by
  cases h with
  | nd h l f => exact ⟨_, _, rfl, h, l, f⟩
theorem Dq.flat (e : d.fl = some v) (h : Dq K H x d) : x = v := by
  cases h <;> first | exact Option.some.inj e | exact nomatch e
theorem Dq.of_flat (e : d.fl = some v) : Dq K H v d := by
  cases d with
  | non => cases e; exact .non
  | bl b => cases e; exact .bl b
  | int i => cases e; exact .int i
  | str x => cases e; exact .str x
  | nd k ds => cases e
  | exn a d fs => cases e
theorem DqAll.nil : DqAll K H [] [] := ⟨rfl, fun i v d h => by simp at h⟩
theorem DqAll.cons (h : Dq K H x d) (r : DqAll K H vs ds) : DqAll K H (x :: vs) (d :: ds) := ⟨by simp [r.1], fun i v e h1 h2 => by
  cases i with
  | zero => simp at h1 h2; subst h1; subst h2; exact h
  | succ i => exact r.2 i v e (by simpa using h1) (by simpa using h2)⟩
theorem DqAll.head (h : DqAll K H (x :: vs) (d :: ds)) : Dq K H x d := h.2 0 x d rfl rfl
theorem DqAll.tail (h : DqAll K H (x :: vs) (d :: ds)) : DqAll K H vs ds := ⟨by simpa using h.1, fun i v e h1 h2 => h.2 (i + 1) v e (by simpa using h1) (by simpa using h2)⟩
theorem DqAll.nil_inv (h : DqAll K H vs []) : vs = [] := List.eq_nil_of_length_eq_zero h.1
theorem DqAll.cons_inv (h : DqAll K H vs (d :: ds)) : ∃ x r, vs = x :: r ∧ Dq K H x d ∧ DqAll K H r ds := by
  cases vs with
  | nil => exact absurd h.1 (by simp)
  | cons x r => exact ⟨x, r, rfl, h.head, h.tail⟩
theorem DqAll.at (h : DqAll K H vs ds) {i : Nat} (e : ds[i]? = some d) : ∃ v, vs[i]? = some v ∧ Dq K H v d := by
  have hi : i < ds.length := (List.getElem?_eq_some_iff.mp e).1
  have hv : i < vs.length := by rw [h.1]; exact hi
  exact ⟨vs[i], List.getElem?_eq_getElem hv, h.2 i _ d (List.getElem?_eq_getElem hv) e⟩
theorem DqAll.append {ws : List V} {es : List Da} (h : DqAll K H vs ds) (r : DqAll K H ws es) : DqAll K H (vs ++ ws) (ds ++ es) := ⟨by simp [h.1, r.1], fun i v e h1 h2 => by
  by_cases hi : i < vs.length
  · rw [List.getElem?_append_left hi] at h1
    rw [List.getElem?_append_left (by rw [← h.1]; exact hi)] at h2
    exact h.2 i v e h1 h2
  · rw [List.getElem?_append_right (by omega)] at h1
    rw [List.getElem?_append_right (by rw [← h.1]; omega), ← h.1] at h2
    exact r.2 _ v e h1 h2⟩
/-- flat data: the values are known -/
theorem DqAll.map_inv {α : Type} {f : α → Da} {g : α → V} (hg : ∀ x, (f x).fl = some (g x)) {xs : List α} (h : DqAll K H vs (xs.map f)) : vs = xs.map g := by
  apply List.ext_getElem?
  intro i
  rw [List.getElem?_map]
  by_cases hi : i < xs.length
  · have e : (xs.map f)[i]? = some (f xs[i]) := by rw [List.getElem?_map, List.getElem?_eq_getElem hi]; rfl
    obtain ⟨v, hv, q⟩ := h.at e
    rw [hv, q.flat (hg _), List.getElem?_eq_getElem hi]
    rfl
  · have hl := h.1
    rw [List.length_map] at hl
    rw [List.getElem?_eq_none (by omega), List.getElem?_eq_none (by omega)]
    rfl
theorem DqAll.of_map {α : Type} {f : α → Da} {g : α → V} (hg : ∀ x, (f x).fl = some (g x)) {xs : List α} : DqAll K H (xs.map g) (xs.map f) := ⟨by simp, fun i v d h1 h2 => by
  rw [List.getElem?_map] at h1 h2
  obtain ⟨x, hx, rfl⟩ := Option.map_eq_some_iff.mp h1
  obtain ⟨y, hy, rfl⟩ := Option.map_eq_some_iff.mp h2
  rw [hx] at hy
  cases hy
  exact Dq.of_flat (hg x)⟩
theorem DqAll.ints_inv {xs : List Int} (h : DqAll K H vs (xs.map Da.int)) : vs = xs.map V.int := h.map_inv fun _ => rfl
theorem DqAll.strs_inv {xs : List Str} (h : DqAll K H vs (xs.map Da.str)) : vs = xs.map V.str := h.map_inv fun _ => rfl
theorem kyD_fl : ∀ k : Key, (kyD k).fl = some (kV k)
  | .inl _ => rfl
  | .inr _ => rfl
theorem DqAll.keys_inv {xs : List Key} (h : DqAll K H vs (xs.map kyD)) : vs = xs.map kV := h.map_inv kyD_fl
end
/-! ## trees of objects of one's own -/
inductive Tr where
  | sh (d : Da)
  | nd (k : NK) (ts : List Tr)
mutual
def Tr.flat : Tr → Da
  | .sh d => d
  | .nd k ts => .nd k (Tr.flats ts)
def Tr.flats : List Tr → List Da
  | [] => []
  | t :: r => t.flat :: Tr.flats r
end
theorem Tr.flats_map : ∀ ts : List Tr, Tr.flats ts = ts.map Tr.flat
  | [] => rfl
  | t :: r => by rw [Tr.flats, Tr.flats_map r]; rfl
theorem Tr.flats_sh (ds : List Da) : Tr.flats (ds.map Tr.sh) = ds := by
  rw [Tr.flats_map, List.map_map]
  exact (List.map_congr_left fun d _ => by show Tr.flat (Tr.sh d) = d; rw [Tr.flat]).trans (List.map_id ds)
theorem Tr.flat_sh (d : Da) : (Tr.sh d).flat = d := by rw [Tr.flat]
/-- a list of one's own whose items stand for good -/
abbrev ol (ds : List Da) : Tr := .nd .lst (ds.map Tr.sh)
theorem ol_flat (k : NK) (ds : List Da) : (Tr.nd k (ds.map Tr.sh)).flat = .nd k ds := by rw [Tr.flat, Tr.flats_sh]
/-- the object at a with its own addresses -/
def Own (K : PySem.W.Frag) (H : Hp) (a : Addr) (vs : List V) (A : List Addr) : NK → Prop
  | .ins C ns => ∃ dx, A = [a, dx] ∧ dx ≠ a ∧ ns.length = vs.length ∧ H a = some (.ins (He.ga K C) dx (ns.zip vs)) ∧ H dx = some (.own a)
  | .slf x C ns => a = x ∧ ∃ dx, A = [a, dx] ∧ dx ≠ a ∧ ns.length = vs.length ∧ H a = some (.ins (He.ga K C) dx (ns.zip vs)) ∧ H dx = some (.own a)
  | .rd => False
  | .dcl ks => A = [a] ∧ ks.length = vs.length ∧ ∃ o, H a = some (.frz o (.dK (ks.zip vs)))
  | .dcs x lk ks => a = x ∧ A = [a] ∧ ks.length = vs.length ∧ H a = some (NK.ho K 0 vs (.dcs x lk ks))
  | .tpz => A = [a] ∧ ∃ o, o.dict = none ∧ H a = some (.frz o (.tup vs))
  | k => A = [a] ∧ k.ok vs.length ∧ H a = some (k.ho K 0 vs)
inductive Ow (K : PySem.W.Frag) (S H : Hp) : List Addr → V → Tr → Prop
  | sh {x : V} {d : Da} (h : Dq K S x d) : Ow K S H [] x (.sh d)
  | nd {a : Addr} {k : NK} {vs : List V} {ts : List Tr} {cs : List (List Addr)} {A c : List Addr} (h : Own K H a vs A k) (l : vs.length = ts.length) (l2 : cs.length = ts.length)
      (f : ∀ (i : Nat) v t c, vs[i]? = some v → ts[i]? = some t → cs[i]? = some c → Ow K S H c v t) (hc : c = A ++ cs.flatten) : Ow K S H c (.ref a) (.nd k ts)
def OwAll (K : PySem.W.Frag) (S H : Hp) (cs : List (List Addr)) (vs : List V) (ts : List Tr) : Prop := vs.length = ts.length ∧ cs.length = ts.length ∧ ∀ (i : Nat) v t c, vs[i]? = some v → ts[i]? = some t → cs[i]? = some c → Ow K S H c v t
section
variable {K : PySem.W.Frag} {H H' S S' : Hp} {a : Addr} {A c : List Addr} {cs : List (List Addr)} {k : NK} {vs : List V} {x v : V} {d : Da} {ds : List Da} {t : Tr} {ts : List Tr}
theorem Own.mem (h : Own K H a vs A k) : a ∈ A := by
  cases k with
  | ins C ns => obtain ⟨dx, rfl, _⟩ := h; exact .head _
  | slf x C ns => obtain ⟨_, dx, rfl, _⟩ := h; exact .head _
  | rd => exact h.elim
  | lst => obtain ⟨rfl, _⟩ := h; exact .head _
  | tup => obtain ⟨rfl, _⟩ := h; exact .head _
  | dct ks => obtain ⟨rfl, _⟩ := h; exact .head _
  | dcl ks => obtain ⟨rfl, _⟩ := h; exact .head _
  | dcs x lk ks => obtain ⟨_, rfl, _⟩ := h; exact .head _
  | tpz => obtain ⟨rfl, _⟩ := h; exact .head _
theorem Own.alloc (h : Own K H a vs A k) : ∀ b ∈ A, H b ≠ none := by
  intro b hb e
  cases k with
  | ins C ns =>
    obtain ⟨dx, rfl, _, _, h1, h2⟩ := h
    simp only [List.mem_cons, List.not_mem_nil, or_false] at hb
    rcases hb with rfl | rfl
    · rw [h1] at e; cases e
    · rw [h2] at e; cases e
  | slf x C ns =>
    obtain ⟨_, dx, rfl, _, _, h1, h2⟩ := h
    simp only [List.mem_cons, List.not_mem_nil, or_false] at hb
    rcases hb with rfl | rfl
    · rw [h1] at e; cases e
    · rw [h2] at e; cases e
  | rd => exact h.elim
  | lst => obtain ⟨rfl, _, h1⟩ := h; rw [List.mem_singleton.mp hb, h1] at e; cases e
  | tup => obtain ⟨rfl, _, h1⟩ := h; rw [List.mem_singleton.mp hb, h1] at e; cases e
  | dct ks => obtain ⟨rfl, _, h1⟩ := h; rw [List.mem_singleton.mp hb, h1] at e; cases e
  | dcl ks => obtain ⟨rfl, _, o, h1⟩ := h; rw [List.mem_singleton.mp hb, h1] at e; cases e
  | dcs x lk ks => obtain ⟨_, rfl, _, h1⟩ := h; rw [List.mem_singleton.mp hb, h1] at e; cases e
  | tpz => obtain ⟨rfl, o, _, h1⟩ := h; rw [List.mem_singleton.mp hb, h1] at e; cases e
theorem Own.keep (h : Own K H a vs A k) (e : ∀ b ∈ A, H' b = H b) : Own K H' a vs A k := by
  cases k with
  | ins C ns =>
    obtain ⟨dx, rfl, h0, h1, h2, h3⟩ := h
    exact ⟨dx, rfl, h0, h1, by rw [e a (by simp)]; exact h2, by rw [e dx (by simp)]; exact h3⟩
  | slf x C ns =>
    obtain ⟨hx, dx, rfl, h0, h1, h2, h3⟩ := h
    exact ⟨hx, dx, rfl, h0, h1, by rw [e a (by simp)]; exact h2, by rw [e dx (by simp)]; exact h3⟩
  | rd => exact h.elim
  | lst => obtain ⟨rfl, h1, h2⟩ := h; exact ⟨rfl, h1, by rw [e a (by simp)]; exact h2⟩
  | tup => obtain ⟨rfl, h1, h2⟩ := h; exact ⟨rfl, h1, by rw [e a (by simp)]; exact h2⟩
  | dct ks => obtain ⟨rfl, h1, h2⟩ := h; exact ⟨rfl, h1, by rw [e a (by simp)]; exact h2⟩
  | dcl ks => obtain ⟨rfl, h1, o, h2⟩ := h; exact ⟨rfl, h1, o, by rw [e a (by simp)]; exact h2⟩
  | dcs x lk ks => obtain ⟨h0, rfl, h1, h2⟩ := h; exact ⟨h0, rfl, h1, by rw [e a (by simp)]; exact h2⟩
  | tpz => obtain ⟨rfl, o, h1, h2⟩ := h; exact ⟨rfl, o, h1, by rw [e a (by simp)]; exact h2⟩
theorem Own.stands (h : Own K H a vs A k) : Stands K H a k vs := by
  cases k with
  | ins C ns => obtain ⟨dx, rfl, _, h1, h2, h3⟩ := h; exact ⟨h1, dx, h2⟩
  | slf x C ns => obtain ⟨_, dx, rfl, _, h1, h2, h3⟩ := h; exact ⟨h1, dx, h2⟩
  | rd => exact h.elim
  | lst => exact ⟨h.2.1, 0, h.2.2⟩
  | tup => exact ⟨h.2.1, 0, h.2.2⟩
  | dct ks => exact ⟨h.2.1, 0, h.2.2⟩
  | dcl ks => exact ⟨h.2.1, h.2.2⟩
  | dcs x lk ks => exact ⟨h.2.2.1, 0, h.2.2.2⟩
  | tpz => exact h.2
theorem mem_flat {i : Nat} (h : cs[i]? = some c) {b : Addr} (hb : b ∈ c) : b ∈ cs.flatten := List.mem_flatten.mpr ⟨c, List.mem_of_getElem? h, hb⟩
theorem Ow.alloc (h : Ow K S H c x t) : ∀ b ∈ c, H b ≠ none := by
  induction h with
  | sh h => intro b hb; cases hb
  | nd h l l2 f hc ih =>
    intro b hb
    rw [hc] at hb
    rcases List.mem_append.mp hb with hb | hb
    · exact h.alloc b hb
    · obtain ⟨c', hc', hb'⟩ := List.mem_flatten.mp hb
      obtain ⟨i, hi, e⟩ := List.getElem_of_mem hc'
      refine ih i _ _ c' (List.getElem?_eq_getElem (by omega)) (List.getElem?_eq_getElem (by omega)) ?_ b hb'
      rw [List.getElem?_eq_getElem hi, e]
/-- the stable part grows, the own objects stay -/
theorem Ow.keep (h : Ow K S H c x t) (s : Same S S') (e : ∀ b ∈ c, H' b = H b) : Ow K S' H' c x t := by
  induction h with
  | sh h => exact .sh (h.same s)
  | nd h l l2 f hc ih =>
    refine .nd (h.keep fun b hb => e b (by rw [hc]; exact List.mem_append_left _ hb)) l l2 (fun i v t c' h1 h2 h3 => ih i v t c' h1 h2 h3 fun b hb => e b ?_) hc
    rw [hc]
    exact List.mem_append_right _ (mem_flat h3 hb)
theorem Ow.same (h : Ow K S H c x t) (s : Same S S') (e : Same H H') : Ow K S' H' c x t := h.keep s fun b hb => by
  cases q : H b with
  | none => exact absurd q (h.alloc b hb)
  | some o => exact e b o q
theorem flats_at {ts : List Tr} {i : Nat} {d : Da} (h : (Tr.flats ts)[i]? = some d) : ∃ t, ts[i]? = some t ∧ t.flat = d := by
  rw [Tr.flats_map, List.getElem?_map] at h
  obtain ⟨t, ht, e⟩ := Option.map_eq_some_iff.mp h
  exact ⟨t, ht, e⟩
/-- a tree as data -/
theorem Ow.data (h : Ow K S H c x t) (s : Same S S') (e : ∀ b o, b ∈ c → H b = some o → S' b = some o) : Dq K S' x t.flat := by
  induction h with
  | sh h =>
    rw [Tr.flat]
    exact h.same s
  | @nd a k vs ts cs A c h l l2 f hc ih =>
    rw [Tr.flat]
    refine .nd ?_ (by rw [Tr.flats_map]; simpa using l) fun i v d h1 h2 => ?_
    · have st := h.stands
      have hm := h.mem
      cases k with
      | rd => exact h.elim
      | tpz => obtain ⟨o, g1, g2⟩ := st; exact ⟨o, g1, e _ _ (by rw [hc]; exact List.mem_append_left _ hm) g2⟩
      | lst => exact ⟨st.1, st.2.choose, e _ _ (by rw [hc]; exact List.mem_append_left _ hm) st.2.choose_spec⟩
      | tup => exact ⟨st.1, st.2.choose, e _ _ (by rw [hc]; exact List.mem_append_left _ hm) st.2.choose_spec⟩
      | dct ks => exact ⟨st.1, st.2.choose, e _ _ (by rw [hc]; exact List.mem_append_left _ hm) st.2.choose_spec⟩
      | dcl ks => exact ⟨st.1, st.2.choose, e _ _ (by rw [hc]; exact List.mem_append_left _ hm) st.2.choose_spec⟩
      | dcs x lk ks => exact ⟨st.1, st.2.choose, e _ _ (by rw [hc]; exact List.mem_append_left _ hm) st.2.choose_spec⟩
      | ins C ns => exact ⟨st.1, st.2.choose, e _ _ (by rw [hc]; exact List.mem_append_left _ hm) st.2.choose_spec⟩
      | slf x C ns => exact ⟨st.1, st.2.choose, e _ _ (by rw [hc]; exact List.mem_append_left _ hm) st.2.choose_spec⟩
    · obtain ⟨t, ht, rfl⟩ := flats_at h2
      have hi : i < cs.length := by rw [l2]; exact (List.getElem?_eq_some_iff.mp ht).1
      have h3 : cs[i]? = some cs[i] := List.getElem?_eq_getElem hi
      exact ih i v t _ h1 ht h3 fun b o hb ho => e b o (by rw [hc]; exact List.mem_append_right _ (mem_flat h3 hb)) ho
theorem Ow.here (h : Ow K S H c x t) (s : Same S H) : Dq K H x t.flat := h.data s fun _ _ _ q => q
theorem Ow.sh_inv (h : Ow K S H c x (.sh d)) : c = [] ∧ Dq K S x d := by
  cases h with
  | sh h => exact ⟨rfl, h⟩
theorem Ow.sh_nil (h : Ow K S H c x (.sh d)) : c = [] := h.sh_inv.1
/-- a new object whose items stand for good -/
theorem Ow.root (h : Own K H a vs A k) (f : DqAll K S vs ds) : Ow K S H A (.ref a) (.nd k (ds.map Tr.sh)) := by
  refine .nd (cs := List.replicate ds.length []) h (by rw [List.length_map]; exact f.1) (by simp) (fun i v t c h1 h2 h3 => ?_) (by simp)
  rw [List.getElem?_map] at h2
  obtain ⟨d, hd, rfl⟩ := Option.map_eq_some_iff.mp h2
  rw [List.getElem?_replicate] at h3
  split at h3
  · cases h3
    exact .sh (f.2 i v d h1 hd)
  · cases h3
theorem Ow.root_inv (h : Ow K S H c x (.nd k (ds.map Tr.sh))) : ∃ a vs, x = .ref a ∧ Own K H a vs c k ∧ DqAll K S vs ds := by
  cases h with
  | @nd a k vs ts cs A c h l l2 f hc =>
    have e : cs.flatten = [] := by
      rw [List.flatten_eq_nil_iff]
      intro c' hc'
      obtain ⟨i, hi, e⟩ := List.getElem_of_mem hc'
      rw [List.length_map] at l2
      have l' : vs.length = ds.length := by simpa using l
      have q := f i (vs[i]'(by omega)) (Tr.sh (ds[i]'(by omega))) c' (List.getElem?_eq_getElem (by omega)) (by rw [List.getElem?_map, List.getElem?_eq_getElem (by omega)]; rfl) (by rw [List.getElem?_eq_getElem hi, e])
      exact q.sh_nil
    rw [e, List.append_nil] at hc
    subst hc
    refine ⟨a, vs, rfl, h, by simpa using l, fun i v d h1 h2 => ?_⟩
    have hi : i < cs.length := by rw [l2, List.length_map]; exact (List.getElem?_eq_some_iff.mp h2).1
    exact (f i v (.sh d) cs[i] h1 (by rw [List.getElem?_map, h2]; rfl) (List.getElem?_eq_getElem hi)).sh_inv.2
end
end Ly

namespace Ly
open PySem L2 Lo
/-! ## situations: a stable part S of the heap, each slot's own objects -/
structure Bs where
  K : PySem.W.Frag
  S0 : Hp
  E0 : Hp
/-- from (S, H) to (S', H'): both grow, and what S gains is new -/
structure Step (S H S' H' : Hp) : Prop where
  s : Same S S'
  h : Same H H'
  sh : Same S' H'
  nw : ∀ a, S a = none → H a ≠ none → S' a = none
theorem Step.refl {S H : Hp} (e : Same S H) : Step S H S H := ⟨Same.refl S, Same.refl H, e, fun _ h _ => h⟩
theorem Same.ne {H H' : Hp} (e : Same H H') {a : Addr} (h : H a ≠ none) : H' a ≠ none := by
  cases q : H a with
  | none => exact absurd q h
  | some o => rw [e a o q]; exact fun z => nomatch z
theorem Step.trans {S H S1 H1 S2 H2 : Hp} (a : Step S H S1 H1) (b : Step S1 H1 S2 H2) : Step S H S2 H2 :=
  ⟨a.s.trans b.s, a.h.trans b.h, b.sh, fun c h1 h2 => b.nw c (a.nw c h1 h2) (Same.ne a.h h2)⟩
theorem Step.heap {S H H' : Hp} (e : Same S H) (h : Same H H') : Step S H S H' := ⟨Same.refl S, h, e.trans h, fun _ h _ => h⟩
structure Hps (B : Bs) (S H : Hp) (C : List Addr) : Prop where
  s0 : Same B.S0 S
  e0 : Same B.E0 H
  sh : Same S H
  nw : ∀ a, B.S0 a = none → B.E0 a ≠ none → S a = none
  ow : ∀ a ∈ C, S a = none ∧ B.E0 a = none
  nd : C.Nodup
abbrev Rho := List (Option Tr)
def EnOk (K : PySem.W.Frag) (S H : Hp) (c : List Addr) (v : Option V) : Option Tr → Prop
  | none => c = []
  | some t => ∃ x, v = some x ∧ Ow K S H c x t
theorem EnOk.alloc {K : PySem.W.Frag} {S H : Hp} {c : List Addr} {v : Option V} {e : Option Tr} (h : EnOk K S H c v e) : ∀ b ∈ c, H b ≠ none := by
  cases e with
  | none =>
    have h : c = [] := h
    subst h
    intro b hb
    cases hb
  | some t => obtain ⟨x, _, q⟩ := h; exact q.alloc
theorem EnOk.keep {K : PySem.W.Frag} {S H S' H' : Hp} {c : List Addr} {v : Option V} {e : Option Tr} (h : EnOk K S H c v e) (s : Same S S') (k : ∀ b ∈ c, H' b = H b) : EnOk K S' H' c v e := by
  cases e with
  | none => exact h
  | some t => obtain ⟨x, e, q⟩ := h; exact ⟨x, e, q.keep s k⟩
structure Sit (B : Bs) (S H : Hp) (σ : L2.St) (ρ : Rho) (cs : List (List Addr)) : Prop where
  hp : Hps B S H cs.flatten
  lc : cs.length = ρ.length
  ls : σ.length = ρ.length
  en : ∀ (i : Nat) c v e, cs[i]? = some c → σ[i]? = some v → ρ[i]? = some e → EnOk B.K S H c v e
section
variable {B : Bs} {S H S' H' : Hp} {σ σ' : L2.St} {ρ ρ' : Rho} {cs : List (List Addr)} {c : List Addr} {x : V} {t : Tr} {i : Nat} {d : Da} {ds : List Da}
theorem Sit.chunk (h : Sit B S H σ ρ cs) {e : Option Tr} (he : ρ[i]? = some e) : ∃ c v, cs[i]? = some c ∧ σ[i]? = some v ∧ EnOk B.K S H c v e := by
  have hi : i < ρ.length := (List.getElem?_eq_some_iff.mp he).1
  have h1 : cs[i]? = some (cs[i]'(by rw [h.lc]; exact hi)) := List.getElem?_eq_getElem _
  have h2 : σ[i]? = some (σ[i]'(by rw [h.ls]; exact hi)) := List.getElem?_eq_getElem _
  exact ⟨_, _, h1, h2, h.en i _ _ e h1 h2 he⟩
theorem Sit.alloc (h : Sit B S H σ ρ cs) : ∀ b ∈ cs.flatten, H b ≠ none := by
  intro b hb
  obtain ⟨c', hc', hb'⟩ := List.mem_flatten.mp hb
  obtain ⟨i, hi, e⟩ := List.getElem_of_mem hc'
  have hr : i < ρ.length := by rw [← h.lc]; exact hi
  obtain ⟨c2, v, h1, h2, q⟩ := h.chunk (List.getElem?_eq_getElem hr)
  rw [List.getElem?_eq_getElem hi] at h1
  cases h1
  rw [e] at q
  exact q.alloc b hb'
theorem Sit.grow (h : Sit B S H σ ρ cs) (s : Step S H S' H') : Sit B S' H' σ ρ cs := by
  refine ⟨⟨h.hp.s0.trans s.s, h.hp.e0.trans s.h, s.sh, fun a h1 h2 => s.nw a (h.hp.nw a h1 h2) (Same.ne h.hp.e0 h2), fun a ha => ⟨s.nw a (h.hp.ow a ha).1 (h.alloc a ha), (h.hp.ow a ha).2⟩, h.hp.nd⟩, h.lc, h.ls, fun i c v e h1 h2 h3 => ?_⟩
  refine (h.en i c v e h1 h2 h3).keep s.s fun b hb => ?_
  cases q : H b with
  | none => exact absurd q (h.alloc b (mem_flat h1 hb))
  | some o => exact s.h b o q
theorem Sit.same (h : Sit B S H σ ρ cs) : Same S H := h.hp.sh
theorem Sit.var (h : Sit B S H σ ρ cs) (he : ρ[i]? = some (some t)) : ∃ c x, cs[i]? = some c ∧ σ[i]? = some (some x) ∧ Ow B.K S H c x t := by
  obtain ⟨c, v, h1, h2, x, rfl, q⟩ := h.chunk he
  exact ⟨c, x, h1, h2, q⟩
theorem flatten_set {α : Type} {cs : List (List α)} {c0 c : List α} {i : Nat} (h : cs[i]? = some c0) : List.Perm cs.flatten (c0 ++ (cs.eraseIdx i).flatten) ∧ List.Perm (cs.set i c).flatten (c ++ (cs.eraseIdx i).flatten) := by
  induction cs generalizing i with
  | nil => simp at h
  | cons a r ih =>
    cases i with
    | zero =>
      simp only [List.getElem?_cons_zero, Option.some.injEq] at h
      subst h
      simp
    | succ i =>
      simp only [List.getElem?_cons_succ] at h
      obtain ⟨h1, h2⟩ := ih h
      simp only [List.flatten_cons, List.set_cons_succ, List.eraseIdx_cons_succ]
      refine ⟨(List.Perm.append_left a h1).trans ?_, (List.Perm.append_left a h2).trans ?_⟩
      · rw [← List.append_assoc, ← List.append_assoc]
        exact List.Perm.append_right _ List.perm_append_comm
      · rw [← List.append_assoc, ← List.append_assoc]
        exact List.Perm.append_right _ List.perm_append_comm
theorem mem_erase {α : Type} {cs : List (List α)} {i j : Nat} {c : List α} {b : α} (h : cs[j]? = some c) (hb : b ∈ c) (hj : j ≠ i) : b ∈ (cs.eraseIdx i).flatten := by
  refine List.mem_flatten.mpr ⟨c, ?_, hb⟩
  rw [List.mem_eraseIdx_iff_getElem?]
  exact ⟨j, hj, h⟩
/-- slot i comes to hold another thing; nothing of the other slots is touched -/
theorem Sit.put {c0 : List Addr} {e : Option Tr} {v : Option V} (h : Sit B S H σ ρ cs) (hc : cs[i]? = some c0) (s : Same S S') (e0 : Same B.E0 H') (sh : Same S' H') (nw : ∀ a, B.S0 a = none → B.E0 a ≠ none → S' a = none)
    (ks : ∀ a ∈ (cs.eraseIdx i).flatten, S' a = none ∧ H' a = H a) (kc : ∀ a ∈ c, S' a = none ∧ B.E0 a = none ∧ a ∉ (cs.eraseIdx i).flatten) (nd : c.Nodup) (ok : EnOk B.K S' H' c v e)
    (hv : σ'.length = σ.length) (hv1 : σ'[i]? = some v) (hv2 : ∀ j, j ≠ i → σ'[j]? = σ[j]?) : Sit B S' H' σ' (ρ.set i e) (cs.set i c) := by
  obtain ⟨p1, p2⟩ := flatten_set (c := c) hc
  have nd0 := (List.Perm.nodup_iff p1).mp h.hp.nd
  refine ⟨⟨h.hp.s0.trans s, e0, sh, nw, fun a ha => ?_, ?_⟩, by simp [h.lc], by simp [h.ls, hv], fun j c' v' e' h1 h2 h3 => ?_⟩
  · rcases List.mem_append.mp (p2.mem_iff.mp ha) with ha | ha
    · exact ⟨(kc a ha).1, (kc a ha).2.1⟩
    · exact ⟨(ks a ha).1, (h.hp.ow a (p1.mem_iff.mpr (List.mem_append_right _ ha))).2⟩
  · rw [List.Perm.nodup_iff p2, List.nodup_append]
    exact ⟨nd, (List.nodup_append.mp nd0).2.1, fun a ha b hb e => (kc a ha).2.2 (e ▸ hb)⟩
  · by_cases hj : j = i
    · subst hj
      have hi : j < cs.length := (List.getElem?_eq_some_iff.mp hc).1
      rw [List.getElem?_set_self hi] at h1
      rw [hv1] at h2
      rw [List.getElem?_set_self (by rw [← h.lc]; exact hi)] at h3
      cases h1
      cases h2
      cases h3
      exact ok
    · rw [List.getElem?_set_ne (Ne.symm hj)] at h1 h3
      rw [hv2 j hj] at h2
      refine (h.en j c' v' e' h1 h2 h3).keep s fun b hb => (ks b (mem_erase h1 hb hj)).2
theorem set_ne {α : Type} {l : List α} {a : α} {i j : Nat} (h : j ≠ i) : (l.set i a)[j]? = l[j]? := List.getElem?_set_ne (Ne.symm h)
theorem Sit.mem_er (h : Sit B S H σ ρ cs) {c0 : List Addr} (hc : cs[i]? = some c0) {a : Addr} (ha : a ∈ (cs.eraseIdx i).flatten) : a ∈ cs.flatten ∧ a ∉ c0 := by
  obtain ⟨p1, _⟩ := flatten_set (c := c0) hc
  have nd0 := (List.Perm.nodup_iff p1).mp h.hp.nd
  exact ⟨p1.mem_iff.mpr (List.mem_append_right _ ha), fun hb => (List.nodup_append.mp nd0).2.2 a hb a ha rfl⟩
/-- a new thing is given to slot i -/
theorem Sit.set (h : Sit B S H σ ρ cs) (hi : i < ρ.length) (s : Step S H S' H') (ow : Ow B.K S' H' c x t) (nd : c.Nodup) (fr : ∀ a ∈ c, S' a = none ∧ H a = none) : ∃ cs', Sit B S' H' (σ.set i (some x)) (ρ.set i (some t)) cs' := by
  have g := h.grow s
  have hc : cs[i]? = some (cs[i]'(by rw [h.lc]; exact hi)) := List.getElem?_eq_getElem _
  refine ⟨_, g.put (c := c) hc (Same.refl _) g.hp.e0 s.sh g.hp.nw (fun a ha => ⟨(g.hp.ow a (g.mem_er hc ha).1).1, rfl⟩) (fun a ha => ⟨(fr a ha).1, h.hp.e0.free (fr a ha).2, fun hm => h.alloc a (h.mem_er hc hm).1 (fr a ha).2⟩) nd ⟨x, rfl, ow⟩ (by simp) ?_ fun j hj => set_ne hj⟩
  rw [List.getElem?_set_self (by rw [h.ls]; exact hi)]
/-- the own thing at slot i is changed -/
theorem Sit.mut {c0 : List Addr} {x : V} (h : Sit B S H σ ρ cs) (hc : cs[i]? = some c0) (hx : σ[i]? = some (some x)) (ks : ∀ a o, a ∉ c0 → H a = some o → H' a = some o) (ow : Ow B.K S H' c x t) (nd : c.Nodup)
    (fr : ∀ a ∈ c, S a = none ∧ (a ∈ c0 ∨ H a = none)) : ∃ cs', Sit B S H' σ (ρ.set i (some t)) cs' := by
  have nc : ∀ a, S a ≠ none → a ∉ c0 := fun a hs hm => hs (h.hp.ow a (mem_flat hc hm)).1
  have ne : ∀ a, B.E0 a ≠ none → a ∉ c0 := fun a hs hm => hs (h.hp.ow a (mem_flat hc hm)).2
  refine ⟨_, h.put (c := c) hc (Same.refl S) (fun a o q => ks a o (ne a (by rw [q]; exact fun z => nomatch z)) (h.hp.e0 a o q)) (fun a o q => ks a o (nc a (by rw [q]; exact fun z => nomatch z)) (h.hp.sh a o q)) h.hp.nw (fun a ha => ?_) (fun a ha => ?_) nd ⟨x, rfl, ow⟩ rfl hx fun _ _ => rfl⟩
  · obtain ⟨h1, h2⟩ := h.mem_er hc ha
    refine ⟨(h.hp.ow a h1).1, ?_⟩
    cases q : H a with
    | none => exact absurd q (h.alloc a h1)
    | some o => exact ks a o h2 q
  · obtain ⟨h1, h2⟩ := fr a ha
    rcases h2 with h2 | h2
    · exact ⟨h1, (h.hp.ow a (mem_flat hc h2)).2, fun hm => (h.mem_er hc hm).2 h2⟩
    · exact ⟨h1, h.hp.e0.free h2, fun hm => h.alloc a (h.mem_er hc hm).1 h2⟩
open Classical in
/-- S with H at c -/
noncomputable def join (S H : Hp) (c : List Addr) : Hp := fun a => if a ∈ c then H a else S a
theorem join_in {a : Addr} (h : a ∈ c) : join S H c a = H a := by unfold join; rw [if_pos h]
theorem join_out {a : Addr} (h : a ∉ c) : join S H c a = S a := by unfold join; rw [if_neg h]
theorem join_same (h : ∀ a ∈ c, S a = none) : Same S (join S H c) := fun a o q => by
  rw [join_out (fun hm => by rw [h a hm] at q; cases q)]
  exact q
theorem join_heap (e : Same S H) : Same (join S H c) H := fun a o q => by
  by_cases hm : a ∈ c
  · rw [join_in hm] at q; exact q
  · rw [join_out hm] at q; exact e a o q
/-- what slot i owns stands for good -/
theorem Sit.freeze (h : Sit B S H σ ρ cs) (he : ρ[i]? = some (some t)) : ∃ S' cs', Same S S' ∧ Sit B S' H σ (ρ.set i (some (.sh t.flat))) cs' := by
  obtain ⟨c0, x, hc, hx, ow⟩ := h.var he
  have hS : ∀ a ∈ c0, S a = none := fun a ha => (h.hp.ow a (mem_flat hc ha)).1
  refine ⟨join S H c0, _, join_same hS, h.put (c := []) (S' := join S H c0) (H' := H) (v := some x) hc (join_same hS) h.hp.e0 (join_heap h.hp.sh) (fun a h1 h2 => ?_) (fun a ha => ⟨?_, rfl⟩) (fun a ha => by cases ha) List.nodup_nil ⟨x, rfl, .sh ?_⟩ rfl hx fun _ _ => rfl⟩
  · have hm : a ∉ c0 := fun hm => h2 (h.hp.ow a (mem_flat hc hm)).2
    rw [join_out hm]
    exact h.hp.nw a h1 h2
  · obtain ⟨h1, h2⟩ := h.mem_er hc ha
    rw [join_out h2]
    exact (h.hp.ow a h1).1
  · exact ow.data (join_same hS) fun b o hb ho => by rw [join_in hb]; exact ho
theorem set_same {α : Type} {l : List α} {a : α} {i : Nat} (h : l[i]? = some a) : l.set i a = l := by
  apply List.ext_getElem?
  intro j
  by_cases hj : j = i
  · subst hj
    rw [List.getElem?_set_self (List.getElem?_eq_some_iff.mp h).1, h]
  · rw [set_ne hj]
/-- another base -/
structure Lb (B : Bs) (S1 : Hp) : Prop where
  s : Same B.S0 S1
  nw : ∀ a, B.S0 a = none → B.E0 a ≠ none → S1 a = none
theorem Sit.lb (h : Sit B S H σ ρ cs) : Lb B S := ⟨h.hp.s0, h.hp.nw⟩
theorem Sit.up {S1 : Hp} (l : Lb B S1) (h : Sit ⟨B.K, S1, B.E0⟩ S H σ ρ cs) : Sit B S H σ ρ cs :=
  ⟨⟨l.s.trans h.hp.s0, h.hp.e0, h.hp.sh, fun a h1 h2 => h.hp.nw a (l.nw a h1 h2) h2, h.hp.ow, h.hp.nd⟩, h.lc, h.ls, h.en⟩
theorem Sit.down {S1 : Hp} (s : Same S1 S) (h : Sit B S H σ ρ cs) (l : Lb B S1) : Sit ⟨B.K, S1, B.E0⟩ S H σ ρ cs :=
  ⟨⟨s, h.hp.e0, h.hp.sh, fun a h1 h2 => h.hp.nw a (by
    cases q : B.S0 a with
    | none => rfl
    | some o => exact absurd ((l.s a o q).symm.trans h1) (fun z => nomatch z)) h2, h.hp.ow, h.hp.nd⟩, h.lc, h.ls, h.en⟩
end
/-! ## what an expression comes to -/
/-- .. data, to be read where it was found | an object whose items stand for good | a thing of one's own, or one that stands for good -/
def Eb (B : Bs) (te : TE) (ρ : Rho) (d : Da) : Prop := ∀ S H σ cs, Sit B S H σ ρ cs → ∀ Q : VK, (∀ x S' H', Step S H S' H' → Dq B.K H' x d → Q x H') → te σ H Q
def Er (B : Bs) (te : TE) (ρ : Rho) (k : NK) (ds : List Da) : Prop := ∀ S H σ cs, Sit B S H σ ρ cs → ∀ Q : VK, (∀ a vs S' H', Step S H S' H' → Stands B.K H' a k vs → DqAll B.K S' vs ds → Q (.ref a) H') → te σ H Q
structure Fr (K : PySem.W.Frag) (H S' H' : Hp) (c : List Addr) (x : V) (t : Tr) : Prop where
  ow : Ow K S' H' c x t
  nd : c.Nodup
  fr : ∀ a ∈ c, S' a = none ∧ H a = none
def Eo (B : Bs) (te : TE) (ρ : Rho) (t : Tr) : Prop := ∀ S H σ cs, Sit B S H σ ρ cs → ∀ Q : VK, (∀ x c S' H', Step S H S' H' → Fr B.K H S' H' c x t → Q x H') → te σ H Q
abbrev Es (B : Bs) (te : TE) (ρ : Rho) (d : Da) : Prop := Eo B te ρ (.sh d)
def Et (B : Bs) (tt : TT) (ρ : Rho) (b : Bool) : Prop := ∀ S H σ cs, Sit B S H σ ρ cs → ∀ Q : Bool → Hp → Prop, (∀ S' H', Step S H S' H' → Q b H') → tt σ H Q
/-- arguments -/
def Eab (B : Bs) (ts : TA) (ρ : Rho) (ds : List Da) : Prop := ∀ S H σ cs, Sit B S H σ ρ cs → ∀ Q : List V → Hp → Prop, (∀ vs S' H', Step S H S' H' → DqAll B.K H' vs ds → Q vs H') → ts σ H Q
def Eas (B : Bs) (ts : TA) (ρ : Rho) (ds : List Da) : Prop := ∀ S H σ cs, Sit B S H σ ρ cs → ∀ Q : List V → Hp → Prop, (∀ vs S' H', Step S H S' H' → DqAll B.K S' vs ds → Q vs H') → ts σ H Q
section
variable {B : Bs} {S H S' H' : Hp} {σ : L2.St} {ρ : Rho} {c : List Addr} {te ta tb : TE} {ts : TA} {x : V} {v : V} {t u : Tr} {d y z : Da} {ds : List Da} {k : NK} {i : Nat} {K : PySem.W.Frag} {b e : Bool} {tt uu : TT}
theorem Fr.sh (h : Dq K S' x d) : Fr K H S' H' [] x (.sh d) := ⟨.sh h, List.nodup_nil, fun a ha => by cases ha⟩
theorem Fr.dq (h : Fr K H S' H' c x (.sh d)) : Dq K S' x d := h.ow.sh_inv.2
/-- frozen -/
theorem Fr.data (h : Fr K H S' H' c x t) (s : Step S H S' H') : ∃ S2, Step S H S2 H' ∧ Same S' S2 ∧ Dq K S2 x t.flat := by
  have hS : ∀ a ∈ c, S' a = none := fun a ha => (h.fr a ha).1
  refine ⟨join S' H' c, ⟨s.s.trans (join_same hS), s.h, join_heap s.sh, fun a h1 h2 => ?_⟩, join_same hS, h.ow.data (join_same hS) fun b o hb ho => by rw [join_in hb]; exact ho⟩
  rw [join_out fun hm => h2 (h.fr a hm).2]
  exact s.nw a h1 h2
theorem Fr.later {S1 H1 : Hp} (h : Fr K H S1 H1 c x t) (s : Step S1 H1 S' H') : Fr K H S' H' c x t := by
  refine ⟨h.ow.same s.s s.h, h.nd, fun a ha => ⟨s.nw a (h.fr a ha).1 (h.ow.alloc a ha), (h.fr a ha).2⟩⟩
theorem Fr.prior {H0 : Hp} (h : Fr K H S' H' c x t) (e : Same H0 H) : Fr K H0 S' H' c x t := ⟨h.ow, h.nd, fun a ha => ⟨(h.fr a ha).1, e.free (h.fr a ha).2⟩⟩
theorem eo_freeze (h : Eo B te ρ t) (e : t.flat = d) : Es B te ρ d := fun S H σ cs st Q q => h S H σ cs st Q fun x c S' H' s f => by
  obtain ⟨S2, s2, _, dq⟩ := f.data s
  rw [e] at dq
  exact q x [] S2 H' s2 (.sh dq)
theorem eb_of (h : Eo B te ρ t) (e : t.flat = d) : Eb B te ρ d := fun S H σ cs st Q q => h S H σ cs st Q fun x c S' H' s f => q x S' H' s (by rw [← e]; exact f.ow.here s.sh)
theorem eb_es (h : Es B te ρ d) : Eb B te ρ d := eb_of h (Tr.flat_sh d)
theorem es_flat (h : Eb B te ρ d) (e : d.fl = some v) : Es B te ρ d := fun S H σ cs st Q q => h S H σ cs st Q fun x S' H' s f => by
  rw [f.flat e]
  exact q v [] S' H' s (.sh (Dq.of_flat e))
theorem er_es (h : Es B te ρ (.nd k ds)) : Er B te ρ k ds := fun S H σ cs st Q q => h S H σ cs st Q fun x c S' H' s f => by
  obtain ⟨a, vs, rfl, h1, h2⟩ := f.dq.inv
  exact q a vs S' H' s (h1.same s.sh) h2
theorem er_ol (h : Eo B te ρ (.nd k (ds.map Tr.sh))) : Er B te ρ k ds := fun S H σ cs st Q q => h S H σ cs st Q fun x c S' H' s f => by
  obtain ⟨a, vs, rfl, h1, h2⟩ := f.ow.root_inv
  exact q a vs S' H' s h1.stands h2
theorem eb_er (h : Er B te ρ k ds) : Eb B te ρ (.nd k ds) := fun S H σ cs st Q q => h S H σ cs st Q fun a vs S' H' s f1 f2 => q _ S' H' s (Dq.nd' f1 (f2.same s.sh))
theorem eb_is (h : Eb B te ρ d) (e : d = y) : Eb B te ρ y := e ▸ h
theorem eo_is (h : Eo B te ρ t) (e : t = u) : Eo B te ρ u := e ▸ h
theorem es_is (h : Es B te ρ d) (e : d = y) : Es B te ρ y := e ▸ h
theorem et_is (h : Et B tt ρ b) (w : b = e) : Et B tt ρ e := w ▸ h
/-! leaves -/
theorem eb_c (e : d.fl = some v) : Eb B (tC v) ρ d := fun S H σ cs st Q q => q v S H (Step.refl st.same) (Dq.of_flat e)
theorem eb_int {n : Int} : Eb B (tC (.int n)) ρ (.int n) := eb_c rfl
theorem eb_str {n : Str} : Eb B (tC (.str n)) ρ (.str n) := eb_c rfl
theorem eb_bl : Eb B (tC (.bl b)) ρ (.bl b) := eb_c rfl
theorem eb_non : Eb B (tC .non) ρ .non := eb_c rfl
theorem eb_var (h : ρ[i]? = some (some (.sh d))) : Eb B (tVar i) ρ d := fun S H σ cs st Q q => by
  obtain ⟨c, x, h1, h2, ow⟩ := st.var h
  exact ⟨x, h2, q x S H (Step.refl st.same) (ow.sh_inv.2.same st.same)⟩
theorem es_var (h : ρ[i]? = some (some (.sh d))) : Es B (tVar i) ρ d := fun S H σ cs st Q q => by
  obtain ⟨c, x, h1, h2, ow⟩ := st.var h
  exact ⟨x, h2, q x [] S H (Step.refl st.same) (.sh ow.sh_inv.2)⟩
theorem eb_ol (h : ρ[i]? = some (some (.nd k (ds.map Tr.sh)))) : Eb B (tVar i) ρ (.nd k ds) := fun S H σ cs st Q q => by
  obtain ⟨c, x, h1, h2, ow⟩ := st.var h
  exact ⟨x, h2, q x S H (Step.refl st.same) (by rw [← ol_flat]; exact ow.here st.same)⟩
theorem eb_own (h : ρ[i]? = some (some t)) (e : t.flat = d) : Eb B (tVar i) ρ d := fun S H σ cs st Q q => by
  obtain ⟨c, x, h1, h2, ow⟩ := st.var h
  exact ⟨x, h2, q x S H (Step.refl st.same) (by rw [← e]; exact ow.here st.same)⟩
theorem er_var (h : ρ[i]? = some (some (.nd k (ds.map Tr.sh)))) : Er B (tVar i) ρ k ds := fun S H σ cs st Q q => by
  obtain ⟨c, x, h1, h2, ow⟩ := st.var h
  obtain ⟨a, vs, rfl, g1, g2⟩ := ow.root_inv
  exact ⟨_, h2, q a vs S H (Step.refl st.same) g1.stands g2⟩
/-! arguments -/
theorem eab_nil : Eab B tNil ρ [] := fun S H σ cs st Q q => q [] S H (Step.refl st.same) DqAll.nil
theorem eas_nil : Eas B tNil ρ [] := fun S H σ cs st Q q => q [] S H (Step.refl st.same) DqAll.nil
theorem eab_cons (h : Eb B te ρ d) (r : Eab B ts ρ ds) : Eab B (tCons te ts) ρ (d :: ds) := fun S H σ cs st Q q => h S H σ cs st _ fun x S1 H1 s1 f1 => r S1 H1 σ cs (st.grow s1) _ fun vs S2 H2 s2 f2 => q _ S2 H2 (s1.trans s2) (DqAll.cons (f1.same s2.h) f2)
theorem eas_cons (h : Es B te ρ d) (r : Eas B ts ρ ds) : Eas B (tCons te ts) ρ (d :: ds) := fun S H σ cs st Q q => h S H σ cs st _ fun x c S1 H1 s1 f1 => r S1 H1 σ cs (st.grow s1) _ fun vs S2 H2 s2 f2 => q _ S2 H2 (s1.trans s2) (DqAll.cons (f1.dq.same s2.s) f2)
theorem eab_of (h : Eas B ts ρ ds) : Eab B ts ρ ds := fun S H σ cs st Q q => h S H σ cs st Q fun vs S1 H1 s1 f1 => q vs S1 H1 s1 (f1.same s1.sh)
/-! operators -/
def Op2 (K : PySem.W.Frag) (r : R2) (x y z : Da) : Prop := ∃ v, z.fl = some v ∧ ∀ H vx vy Q, Dq K H vx x → Dq K H vy y → Q v H → r vx vy H Q
def Op1 (K : PySem.W.Frag) (r : V → Hp → VK → Prop) (x z : Da) : Prop := ∃ v, z.fl = some v ∧ ∀ H vx Q, Dq K H vx x → Q v H → r vx H Q
def OpA (K : PySem.W.Frag) (r : List V → Hp → VK → Prop) (xs : List Da) (z : Da) : Prop := ∃ v, z.fl = some v ∧ ∀ H vs Q, DqAll K H vs xs → Q v H → r vs H Q
def OpM (K : PySem.W.Frag) (r : V → List V → Hp → VK → Prop) (x : Da) (xs : List Da) (z : Da) : Prop := ∃ v, z.fl = some v ∧ ∀ H vx vs Q, Dq K H vx x → DqAll K H vs xs → Q v H → r vx vs H Q
theorem eb_op {r : R2} (ha : Eb B ta ρ d) (hb : Eb B tb ρ y) (hr : Op2 B.K r d y z) : Eb B (tOp r ta tb) ρ z := fun S H σ cs st Q q => ha S H σ cs st _ fun x1 S1 H1 s1 f1 => hb S1 H1 σ cs (st.grow s1) _ fun x2 S2 H2 s2 f2 => by
  obtain ⟨v, e, hr⟩ := hr
  exact hr H2 x1 x2 Q (f1.same s2.h) f2 (q v S2 H2 (s1.trans s2) (Dq.of_flat e))
theorem eb_un {r : V → Hp → VK → Prop} (ha : Eb B ta ρ d) (hr : Op1 B.K r d z) : Eb B (tUn r ta) ρ z := fun S H σ cs st Q q => ha S H σ cs st _ fun x1 S1 H1 s1 f1 => by
  obtain ⟨v, e, hr⟩ := hr
  exact hr H1 x1 Q f1 (q v S1 H1 s1 (Dq.of_flat e))
theorem eb_cb {r : List V → Hp → VK → Prop} (ha : Eab B ts ρ ds) (hr : OpA B.K r ds z) : Eb B (tCB r ts) ρ z := fun S H σ cs st Q q => ha S H σ cs st _ fun vs S1 H1 s1 f1 => by
  obtain ⟨v, e, hr⟩ := hr
  exact hr H1 vs Q f1 (q v S1 H1 s1 (Dq.of_flat e))
theorem eb_m1 {r : V → List V → Hp → VK → Prop} {w : Str} (ha : Eb B ta ρ (.str w)) (hb : Eb B tb ρ y) (hr : OpM B.K r (.str w) [y] z) : Eb B (tM1 r ta tb) ρ z := fun S H σ cs st Q q => ha S H σ cs st _ fun x1 S1 H1 s1 f1 => by
  have e1 : x1 = .str w := f1.flat rfl
  refine ⟨⟨w, e1⟩, hb S1 H1 σ cs (st.grow s1) _ fun x2 S2 H2 s2 f2 => ?_⟩
  obtain ⟨v, e, hr⟩ := hr
  exact hr H2 x1 [x2] Q (f1.same s2.h) (DqAll.cons f2 DqAll.nil) (q v S2 H2 (s1.trans s2) (Dq.of_flat e))
theorem eb_bits {n : Int} (ha : Eb B ta ρ (.int n)) : Eb B (tBits ta) ρ (.int (Builtin.Int.intBits n : Nat)) := fun S H σ cs st Q q => ha S H σ cs st _ fun x1 S1 H1 s1 f1 => ⟨n, f1.flat rfl, q _ S1 H1 s1 (.int _)⟩
/-! booleans, tests -/
theorem eb_and (h1 : Eb B ta ρ (.bl b)) (h2 : b = true → Eb B tb ρ (.bl e)) : Eb B (tAndV ta tb) ρ (.bl (b && e)) := fun S H σ cs st Q q => h1 S H σ cs st _ fun x S1 H1 s1 f1 => ⟨b, f1.flat rfl, by
  cases b with
  | true => exact h2 rfl S1 H1 σ cs (st.grow s1) Q fun x S2 H2 s2 f2 => q x S2 H2 (s1.trans s2) f2
  | false => exact q _ S1 H1 s1 (.bl _)⟩
theorem eb_or (h1 : Eb B ta ρ (.bl b)) (h2 : b = false → Eb B tb ρ (.bl e)) : Eb B (tOrV ta tb) ρ (.bl (b || e)) := fun S H σ cs st Q q => h1 S H σ cs st _ fun x S1 H1 s1 f1 => ⟨b, f1.flat rfl, by
  cases b with
  | true => exact q _ S1 H1 s1 (.bl _)
  | false => exact h2 rfl S1 H1 σ cs (st.grow s1) Q fun x S2 H2 s2 f2 => q x S2 H2 (s1.trans s2) f2⟩
theorem eb_not (h1 : Eb B ta ρ (.bl b)) : Eb B (tNotV ta) ρ (.bl (!b)) := fun S H σ cs st Q q => h1 S H σ cs st _ fun x S1 H1 s1 f1 => ⟨b, f1.flat rfl, q _ S1 H1 s1 (.bl _)⟩
theorem eb_chain {r r' : R2} {tc : TE} {w : Da} (h1 : Eb B ta ρ d) (h2 : Eb B tb ρ y) (hr : Op2 B.K r d y (.bl b)) (h3 : b = true → Eb B tc ρ w) (hr' : b = true → Op2 B.K r' y w (.bl e)) : Eb B (tChain r r' ta tb tc) ρ (.bl (b && e)) := fun S H σ cs st Q q =>
  h1 S H σ cs st _ fun x1 S1 H1 s1 f1 => h2 S1 H1 σ cs (st.grow s1) _ fun x2 S2 H2 s2 f2 => by
    obtain ⟨v, e1, hr⟩ := hr
    cases e1
    refine hr H2 x1 x2 _ (f1.same s2.h) f2 ⟨b, rfl, ?_⟩
    cases b with
    | true =>
      refine h3 rfl S2 H2 σ cs (st.grow (s1.trans s2)) _ fun x3 S3 H3 s3 f3 => ?_
      obtain ⟨v, e1, hr'⟩ := hr' rfl
      cases e1
      exact hr' H3 x2 x3 Q (f2.same s3.h) f3 (q _ S3 H3 ((s1.trans s2).trans s3) (.bl _))
    | false => exact q _ S2 H2 (s1.trans s2) (.bl _)
theorem et_test (h : Eb B te ρ (.bl b)) : Et B (tTest te) ρ b := fun S H σ cs st Q q => h S H σ cs st _ fun x S1 H1 s1 f1 => ⟨b, f1.flat rfl, q S1 H1 s1⟩
theorem et_B (h : Eb B te ρ (.bl b)) : Et B (tB te) ρ b := fun S H σ cs st Q q => h S H σ cs st _ fun x S1 H1 s1 f1 => ⟨b, f1.flat rfl, q S1 H1 s1⟩
theorem et_pt (h : Eb B te ρ (.bl b)) : Et B (fun σ H Q => te σ H fun x H' => ∃ k, x = .bl k ∧ Q k H') ρ b := fun S H σ cs st Q q => h S H σ cs st _ fun x S1 H1 s1 f1 => ⟨b, f1.flat rfl, q S1 H1 s1⟩
theorem et_and (h1 : Et B tt ρ b) (h2 : b = true → Et B uu ρ e) : Et B (tAnd tt uu) ρ (b && e) := fun S H σ cs st Q q => h1 S H σ cs st _ fun S1 H1 s1 => by
  cases b with
  | true =>
    show (if true = true then _ else _)
    rw [if_pos rfl]
    exact h2 rfl S1 H1 σ cs (st.grow s1) Q fun S2 H2 s2 => q S2 H2 (s1.trans s2)
  | false =>
    show (if false = true then _ else _)
    rw [if_neg Bool.false_ne_true]
    exact q S1 H1 s1
theorem et_or (h1 : Et B tt ρ b) (h2 : b = false → Et B uu ρ e) : Et B (tOr tt uu) ρ (b || e) := fun S H σ cs st Q q => h1 S H σ cs st _ fun S1 H1 s1 => by
  cases b with
  | true =>
    show (if true = true then _ else _)
    rw [if_pos rfl]
    exact q S1 H1 s1
  | false =>
    show (if false = true then _ else _)
    rw [if_neg Bool.false_ne_true]
    exact h2 rfl S1 H1 σ cs (st.grow s1) Q fun S2 H2 s2 => q S2 H2 (s1.trans s2)
theorem et_not (h1 : Et B tt ρ b) : Et B (tNot tt) ρ (!b) := fun S H σ cs st Q q => h1 S H σ cs st _ fun S1 H1 s1 => q S1 H1 s1
theorem et_yes : Et B tYes ρ true := fun S H σ cs st Q q => q S H (Step.refl st.same)
theorem eb_if (h : Et B tt ρ b) (h1 : b = true → Eb B ta ρ d) (h2 : b = false → Eb B tb ρ d) : Eb B (tIf tt ta tb) ρ d := fun S H σ cs st Q q => h S H σ cs st _ fun S1 H1 s1 => by
  cases b with
  | true =>
    show (if true = true then _ else _)
    rw [if_pos rfl]
    exact h1 rfl S1 H1 σ cs (st.grow s1) Q fun x S2 H2 s2 f => q x S2 H2 (s1.trans s2) f
  | false =>
    show (if false = true then _ else _)
    rw [if_neg Bool.false_ne_true]
    exact h2 rfl S1 H1 σ cs (st.grow s1) Q fun x S2 H2 s2 f => q x S2 H2 (s1.trans s2) f
theorem eo_if (h : Et B tt ρ b) (h1 : b = true → Eo B ta ρ t) (h2 : b = false → Eo B tb ρ t) : Eo B (tIf tt ta tb) ρ t := fun S H σ cs st Q q => h S H σ cs st _ fun S1 H1 s1 => by
  cases b with
  | true =>
    show (if true = true then _ else _)
    rw [if_pos rfl]
    exact h1 rfl S1 H1 σ cs (st.grow s1) Q fun x c S2 H2 s2 f => q x c S2 H2 (s1.trans s2) (f.prior s1.h)
  | false =>
    show (if false = true then _ else _)
    rw [if_neg Bool.false_ne_true]
    exact h2 rfl S1 H1 σ cs (st.grow s1) Q fun x c S2 H2 s2 f => q x c S2 H2 (s1.trans s2) (f.prior s1.h)
end
end Ly

namespace Ly
open PySem L2 Lo
/-! ## new objects -/
def rAddN : R2 := fun x y H Q => rAddI x y H Q ∨ rAddS x y H Q
/-- a text, k times -/
def rMulS : R2 := fun x y H Q => ∃ (l : List Nat) (k : Int), x = .str ⟨l.toArray⟩ ∧ y = .int k ∧ 0 ≤ k ∧ k ≤ 1000000 ∧ l.length * k.toNat ≤ 1000000 ∧ Q (.str ⟨(List.replicate k.toNat l).flatten.toArray⟩) H
theorem rep1 (l : List Nat) : ∀ (m : Nat) (a : List Nat), (List.replicate m l.toArray).foldl (· ++ ·) a.toArray = (a ++ (List.replicate m l).flatten).toArray
  | 0, a => by simp
  | m + 1, a => by
    rw [List.replicate_succ, List.foldl_cons]
    have e : a.toArray ++ l.toArray = (a ++ l).toArray := by simp
    rw [e, rep1 l m (a ++ l), List.append_assoc, List.replicate_succ, List.flatten_cons]
theorem op_mulS {X : Cx} : OpR X (binaryOp .Mult) rMulS := by
  intro pins s σ H x y v u Q I rx ry h
  obtain ⟨l, k, rfl, rfl, h0, h1, h2, q⟩ := h
  obtain ⟨t, rfl⟩ := rx
  obtain ⟨t', rfl⟩ := ry
  have hl : (⟨l.toArray⟩ : Str).length = l.length := by simp [Str.length]
  have hfl : (List.replicate k.toNat l).flatten.length = l.length * k.toNat := by
    rw [PyProof.Rows.lm_len_rep_flat, Nat.mul_comm]
  have e : (⟨(List.replicate k.toNat l).flatten.toArray⟩ : Str).length ≤ sizeLine := by
    have : (⟨(List.replicate k.toNat l).flatten.toArray⟩ : Str).length = (List.replicate k.toNat l).flatten.length := by simp [Str.length]
    rw [this, hfl]
    exact Nat.le_trans h2 (show 1000000 ≤ sizeLine by rw [sizeLine_eq]; decide)
  refine PySem.P.mul_str (by rw [decide_eq_false (by omega), decide_eq_false (by omega)]; rfl) (fun k0 _ => ?_) (fun _ _ => ?_) ?_
  · rw [hl]
    have h3 : l.length ≤ 1000000 := Nat.le_trans (Nat.le_mul_of_pos_right _ (by omega)) h2
    have : (l.length : Int) ≤ (2 ^ 63 - 1) / k := by
      rw [Int.le_ediv_iff_mul_le (by omega)]
      have h4 : ((l.length * k.toNat : Nat) : Int) ≤ 1000000 := by omega
      have h5 : ((k.toNat : Nat) : Int) = k := by omega
      rw [Int.natCast_mul, h5] at h4
      omega
    omega
  · rw [hl]
    show decide (l.length * k.toNat > sizeLine) = false
    exact decide_eq_false (by have := sizeLine_eq; omega)
  · by_cases k1 : k < 1
    · have : k = 0 := by omega
      subst this
      rw [if_pos k1]
      exact ⟨by decide, .str ⟨(List.replicate (0 : Int).toNat l).flatten.toArray⟩, H, I.tok _, ⟨_, rfl⟩, q⟩
    · rw [if_neg k1]
      by_cases k2 : (k == 1 || (⟨l.toArray⟩ : Str).length == 0) = true
      · rw [if_pos k2]
        have z : (List.replicate k.toNat l).flatten = l := by
          rw [Bool.or_eq_true, beq_iff_eq, beq_iff_eq, hl] at k2
          rcases k2 with k2 | k2
          · subst k2
            show (List.replicate 1 l).flatten = l
            simp
          · rw [List.length_eq_zero_iff.mp k2]
            simp
        rw [z] at q
        exact ⟨.str ⟨l.toArray⟩, H, I, ⟨_, rfl⟩, q⟩
      · rw [if_neg k2]
        have z := rep1 l k.toNat []
        rw [List.nil_append] at z
        have z2 : (List.replicate k.toNat (⟨l.toArray⟩ : Str).cps).foldl (· ++ ·) #[] = (List.replicate k.toNat l).flatten.toArray := z
        rw [z2]
        exact ⟨e, .str ⟨(List.replicate k.toNat l).flatten.toArray⟩, H, I.tok _, ⟨_, rfl⟩, q⟩
def rMulN : R2 := fun x y H Q => rMulI x y H Q ∨ rMulX x y H Q ∨ rMulS x y H Q
theorem op_addN {X : Cx} : OpR X (binaryOp .Add) rAddN := op_add.or op_add_str
theorem op_mulN {X : Cx} : OpR X (binaryOp .Mult) rMulN := op_mul.or (op_mulX.or op_mulS)
section
variable {B : Bs} {S H S' H' : Hp} {σ : L2.St} {ρ : Rho} {c : List Addr} {te ta tb : TE} {ts : TA} {x : V} {v : V} {t u : Tr} {d y z : Da} {ds es : List Da} {k k2 : NK} {i : Nat} {K : PySem.W.Frag} {n : Int}
theorem NK.ho_lst {dx : Addr} {vs : List V} : NK.ho K dx vs .lst = .lst vs := rfl
/-- a new object at p, whose items stand for good -/
theorem fr_new {p : Addr} {vs : List V} (hk : k = .lst ∨ k = .tup ∨ ∃ ks, k = .dct ks) (hp : H p = none) (e : Same S H) (f : DqAll K S vs ds) (ok : k.ok vs.length) : Step S H S (upd H p (k.ho K 0 vs)) ∧ Fr K H S (upd H p (k.ho K 0 vs)) [p] (.ref p) (.nd k (ds.map Tr.sh)) := by
  refine ⟨Step.heap e (same_new hp), Ow.root ?_ f, by simp, fun a ha => ?_⟩
  · rcases hk with rfl | rfl | ⟨ks, rfl⟩
    · exact ⟨rfl, ok, upd_same⟩
    · exact ⟨rfl, ok, upd_same⟩
    · exact ⟨rfl, ok, upd_same⟩
  · rw [List.mem_singleton.mp ha]
    exact ⟨e.free hp, hp⟩
theorem eo_lst (h : Eas B ts ρ ds) (hz : ds.length ≤ sizeLine) : Eo B (tLst ts) ρ (ol ds) := fun S H σ cs st Q q => h S H σ cs st _ fun vs S1 H1 s1 f1 => ⟨by rw [f1.1]; exact hz, fun p hp => by
  obtain ⟨s2, f2⟩ := fr_new (k := .lst) (.inl rfl) hp s1.sh f1 True.intro
  exact q _ [p] _ _ (s1.trans s2) (f2.prior s1.h)⟩
theorem eo_tup (h : Eas B ts ρ ds) (hz : ds.length ≤ sizeLine) : Eo B (tTup ts) ρ (.nd .tup (ds.map Tr.sh)) := fun S H σ cs st Q q => h S H σ cs st _ fun vs S1 H1 s1 f1 => ⟨by rw [f1.1]; exact hz, fun p hp => by
  obtain ⟨s2, f2⟩ := fr_new (k := .tup) (.inr (.inl rfl)) hp s1.sh f1 True.intro
  exact q _ [p] _ _ (s1.trans s2) (f2.prior s1.h)⟩
theorem eb_lst (h : Eab B ts ρ ds) (hz : ds.length ≤ sizeLine) : Eb B (tLst ts) ρ (.lst ds) := fun S H σ cs st Q q => h S H σ cs st _ fun vs S1 H1 s1 f1 => ⟨by rw [f1.1]; exact hz, fun p hp => by
  have e : Same H1 (upd H1 p (.lst vs)) := same_new hp
  exact q _ _ _ (s1.trans (Step.heap s1.sh e)) (Dq.nd' (Stands.of_lst upd_same) (f1.same e))⟩
theorem eb_tup (h : Eab B ts ρ ds) (hz : ds.length ≤ sizeLine) : Eb B (tTup ts) ρ (.tup ds) := fun S H σ cs st Q q => h S H σ cs st _ fun vs S1 H1 s1 f1 => ⟨by rw [f1.1]; exact hz, fun p hp => by
  have e : Same H1 (upd H1 p (.tup vs)) := same_new hp
  exact q _ _ _ (s1.trans (Step.heap s1.sh e)) (Dq.nd' (Stands.of_tup upd_same) (f1.same e))⟩
/-- {} -/
theorem eo_dnew : Eo B tDNewK ρ (.nd (.dct []) []) := fun S H σ cs st Q q => by
  intro p hp
  obtain ⟨s2, f2⟩ := fr_new (K := B.K) (ds := []) (k := .dct []) (.inr (.inr ⟨[], rfl⟩)) hp st.same DqAll.nil rfl
  exact q _ [p] _ _ s2 f2
/-! items -/
theorem at_len {α : Type} {xs : List α} {i : Int} {v : α} (h : atI xs i = some v) : ∃ j, ixN xs.length i = some j ∧ xs[j]? = some v := by
  unfold atI at h
  cases e : ixN xs.length i with
  | none => rw [e] at h; cases h
  | some j => rw [e] at h; exact ⟨j, rfl, h⟩
theorem at_of {α : Type} {xs : List α} {i : Int} {j : Nat} {v : α} (h : ixN xs.length i = some j) (h2 : xs[j]? = some v) : atI xs i = some v := by
  unfold atI
  rw [h]
  exact h2
theorem DqAll.atI {vs : List V} (h : DqAll K H vs ds) (e : atI ds n = some d) : ∃ v, L2.atI vs n = some v ∧ Dq K H v d := by
  obtain ⟨j, h1, h2⟩ := at_len e
  obtain ⟨v, hv, q⟩ := h.at h2
  exact ⟨v, at_of (by rw [h.1]; exact h1) hv, q⟩
theorem Stands.seqL {a : Addr} {vs : List V} (h : Stands K H a k vs) (hk : k = .lst ∨ k = .rd) : SqL K H a vs := by
  rcases hk with rfl | rfl
  · exact SqL.of h.lst
  · exact h
theorem es_ix (ha : Er B ta ρ k ds) (hk : k = .lst ∨ k = .rd ∨ k = .tup) (hb : Eb B tb ρ (.int n)) (e : atI ds n = some d) : Es B (tOp (rIxA B.K) ta tb) ρ d := fun S H σ cs st Q q => ha S H σ cs st _ fun a vs S1 H1 s1 f1 f2 => hb S1 H1 σ cs (st.grow s1) _ fun x2 S2 H2 s2 g => by
  cases g
  obtain ⟨v, hv, dq⟩ := f2.atI e
  have fin := q v [] S2 H2 (s1.trans s2) (.sh (dq.same s2.s))
  have f1' := f1.same s2.h
  rcases hk with rfl | rfl | rfl
  · exact .inl ⟨a, vs, n, v, rfl, rfl, f1'.seqL (.inl rfl), hv, fin⟩
  · exact .inl ⟨a, vs, n, v, rfl, rfl, f1'.seqL (.inr rfl), hv, fin⟩
  · exact .inr (.inl ⟨a, vs, n, v, rfl, rfl, SqT.of f1'.tup, hv, fin⟩)
/-- of a thing to be read where it was found -/
theorem eb_ix (ha : Eb B ta ρ (.nd k ds)) (hk : k = .lst ∨ k = .rd ∨ k = .tup) (hb : Eb B tb ρ (.int n)) (e : atI ds n = some d) : Eb B (tOp (rIxA B.K) ta tb) ρ d := fun S H σ cs st Q q => ha S H σ cs st _ fun x S1 H1 s1 f1 => hb S1 H1 σ cs (st.grow s1) _ fun x2 S2 H2 s2 g => by
  cases g
  obtain ⟨a, vs, rfl, f1, f2⟩ := f1.inv
  obtain ⟨v, hv, dq⟩ := f2.atI e
  have fin := q v S2 H2 (s1.trans s2) (dq.same s2.h)
  have f1' := f1.same s2.h
  rcases hk with rfl | rfl | rfl
  · exact .inl ⟨a, vs, n, v, rfl, rfl, f1'.seqL (.inl rfl), hv, fin⟩
  · exact .inl ⟨a, vs, n, v, rfl, rfl, f1'.seqL (.inr rfl), hv, fin⟩
  · exact .inr (.inl ⟨a, vs, n, v, rfl, rfl, SqT.of f1'.tup, hv, fin⟩)
theorem o_ixS {w : Str} {cc : Nat} (hz : w.length ≤ sizeLine) (e : atI w.cps.toList n = some cc) : Op2 K (rIxA K) (.str w) (.int n) (.str ⟨#[cc]⟩) := ⟨_, rfl, fun H vx vy Q h1 h2 q => by
  cases h1
  cases h2
  exact .inr (.inr (.inl ⟨w, n, cc, rfl, rfl, hz, e, q⟩))⟩
theorem eb_kI {n : Int} (h : Eb B te ρ (.int n)) : Eb B te ρ (kyD (.inl n)) := h
theorem eb_kS {w : Str} (h : Eb B te ρ (.str w)) : Eb B te ρ (kyD (.inr w)) := h
/-- the value of a key in a dict as data -/
def getK (ks : List Key) (ds : List Da) (k : Key) : Option Da := ((ks.zip ds).find? fun kv => decide (kv.1 = k)).map (·.2)
theorem getK_val : ∀ {ks : List Key} {vs : List V} {ds : List Da} {k : Key}, DqAll K H vs ds → ks.length = vs.length → (∀ d, getK ks ds k = some d → ∃ v, valV (ks.zip vs) k = some v ∧ Dq K H v d) ∧ (getK ks ds k = none → valV (ks.zip vs) k = none)
  | [], _, _, _, _, _ => ⟨fun d h => by simp [getK] at h, fun _ => by simp [valV]⟩
  | k0 :: kr, [], _, _, _, h => by simp at h
  | k0 :: kr, v :: vr, [], _, f, _ => absurd f.1 (by simp)
  | k0 :: kr, v :: vr, d0 :: dr, k, f, l => by
    obtain ⟨h1, h2⟩ := getK_val (ks := kr) (k := k) f.tail (by simpa using l)
    unfold getK valV at *
    simp only [List.zip_cons_cons, List.find?_cons]
    by_cases e : k0 = k
    · rw [decide_eq_true e]
      exact ⟨fun d h => ⟨v, rfl, by
        have h : some d0 = some d := h
        cases h
        exact f.head⟩, fun h => by cases h⟩
    · rw [decide_eq_false e]
      exact ⟨h1, h2⟩
theorem dget_of {ks : List Key} {kk : Key} {a : Addr} {vs : List V} (h : Rd H a (.dK (ks.zip vs))) : DGet H a (kV kk) (valV (ks.zip vs) kk) := .inl ⟨_, kk, h, rfl, rfl⟩
theorem es_ixK {ks : List Key} {kk : Key} (ha : Er B ta ρ k ds) (hk : k = .dct ks ∨ k = .dcl ks) (hb : Eb B tb ρ (kyD kk)) (e : getK ks ds kk = some d) : Es B (tOp (rIxA B.K) ta tb) ρ d := fun S H σ cs st Q q => ha S H σ cs st _ fun a vs S1 H1 s1 f1 f2 => hb S1 H1 σ cs (st.grow s1) _ fun x2 S2 H2 s2 g => by
  have e2 := g.flat (kyD_fl kk)
  subst e2
  obtain ⟨h1, h2⟩ := Stands.dctR hk (f1.same s2.h)
  obtain ⟨v, hv, dq⟩ := (getK_val f2 h2).1 d e
  exact .inr (.inr (.inr ⟨a, v, rfl, by rw [← hv]; exact dget_of h1, q v [] S2 H2 (s1.trans s2) (.sh (dq.same s2.s))⟩))
/-- d.get(k, z) -/
theorem es_get {tz : TE} {ks : List Key} {kk : Key} (ha : Er B ta ρ k ds) (hk : k = .dct ks ∨ k = .dcl ks) (hb : Eb B tb ρ (kyD kk)) (hz : Es B tz ρ z) : Es B (tDGet2 ta tb tz) ρ ((getK ks ds kk).getD z) := fun S H σ cs st Q q => ha S H σ cs st _ fun a vs S1 H1 s1 f1 f2 => by
  obtain ⟨h1, h2⟩ := Stands.dctR hk f1
  refine ⟨a, rfl, .inl ⟨_, h1⟩, hb S1 H1 σ cs (st.grow s1) _ fun x2 S2 H2 s2 g => hz S2 H2 σ cs (st.grow (s1.trans s2)) _ fun x3 c3 S3 H3 s3 f3 => ?_⟩
  have e2 := g.flat (kyD_fl kk)
  subst e2
  have s23 := s2.trans s3
  obtain ⟨g1, g2⟩ := Stands.dctR hk (f1.same s23.h)
  refine ⟨_, dget_of g1, ?_⟩
  have gv := getK_val (k := kk) f2 g2
  cases e : getK ks ds kk with
  | none =>
    rw [gv.2 e]
    rw [e] at q
    exact q x3 [] S3 H3 (s1.trans s23) (.sh f3.dq)
  | some d =>
    obtain ⟨v, hv, dq⟩ := gv.1 d e
    rw [hv]
    rw [e] at q
    exact q v [] S3 H3 (s1.trans s23) (.sh (dq.same s23.s))
/-! slices, copies, sums of lists -/
def cutD (xs : List Da) (lo hi : Option Int) : List Da := (xs.drop (HT.sIx xs.length 0 lo)).take (HT.sIx xs.length xs.length hi - HT.sIx xs.length 0 lo)
theorem DqAll.drop {vs : List V} (h : DqAll K H vs ds) (j : Nat) : DqAll K H (vs.drop j) (ds.drop j) := ⟨by simp [h.1], fun i v d h1 h2 => by
  rw [List.getElem?_drop] at h1 h2
  exact h.2 _ v d h1 h2⟩
theorem DqAll.take {vs : List V} (h : DqAll K H vs ds) (j : Nat) : DqAll K H (vs.take j) (ds.take j) := ⟨by simp [h.1], fun i v d h1 h2 => by
  rw [List.getElem?_take] at h1 h2
  split at h1
  · rename_i hi
    rw [if_pos hi] at h2
    exact h.2 _ v d h1 h2
  · cases h1⟩
theorem DqAll.cut {vs : List V} (h : DqAll K H vs ds) (lo hi : Option Int) : DqAll K H (cutV vs lo hi) (cutD ds lo hi) := by
  unfold cutV cutD
  rw [h.1]
  exact (h.drop _).take _
def Ep (B : Bs) (to : TO) (ρ : Rho) (o : Option Int) : Prop := ∀ S H σ cs, Sit B S H σ ρ cs → ∀ Q : Option Int → Hp → Prop, (∀ S' H', Step S H S' H' → Q o H') → to σ H Q
theorem ep_none : Ep B tNoPart ρ none := fun S H σ cs st Q q => q S H (Step.refl st.same)
theorem ep_some (h : Eb B te ρ (.int n)) : Ep B (tPart te) ρ (some n) := fun S H σ cs st Q q => h S H σ cs st _ fun x S1 H1 s1 f1 => ⟨n, f1.flat rfl, q S1 H1 s1⟩
theorem eo_slL {tl th : TO} {lo hi : Option Int} (h : Er B te ρ k ds) (hk : k = .lst ∨ k = .rd) (h1 : Ep B tl ρ lo) (h2 : Ep B th ρ hi) : Eo B (tSl (Lo.rSlA B.K) te tl th) ρ (ol (cutD ds lo hi)) := fun S H σ cs st Q q => h S H σ cs st _ fun a vs S1 H1 s1 f1 f2 => h1 S1 H1 σ cs (st.grow s1) _ fun S2 H2 s2 => h2 S2 H2 σ cs (st.grow (s1.trans s2)) _ fun S3 H3 s3 => by
  have s13 := s2.trans s3
  refine .inl ⟨a, vs, rfl, (f1.same s13.h).seqL hk, fun p hp => ?_⟩
  obtain ⟨s4, f4⟩ := fr_new (k := .lst) (.inl rfl) hp s3.sh ((f2.same s13.s).cut lo hi) True.intro
  exact q _ [p] _ _ ((s1.trans s13).trans s4) (f4.prior (s1.trans s13).h)
theorem eb_slS {tl th : TO} {lo hi : Option Int} {w : Str} (h : Eb B te ρ (.str w)) (h1 : Ep B tl ρ lo) (h2 : Ep B th ρ hi) (hz : w.length ≤ sizeLine) : Eb B (tSl (Lo.rSlA B.K) te tl th) ρ (.str (cutS w lo hi)) := fun S H σ cs st Q q => h S H σ cs st _ fun x S1 H1 s1 f1 => h1 S1 H1 σ cs (st.grow s1) _ fun S2 H2 s2 => h2 S2 H2 σ cs (st.grow (s1.trans s2)) _ fun S3 H3 s3 => by
  cases f1
  exact .inr (.inr ⟨w, rfl, hz, q _ S3 H3 ((s1.trans s2).trans s3) (.str _)⟩)
theorem eo_cat (ha : Er B ta ρ .lst ds) (hb : Er B tb ρ .lst es) (hz : ds.length + es.length ≤ sizeLine) : Eo B (tOp rCat ta tb) ρ (ol (ds ++ es)) := fun S H σ cs st Q q => ha S H σ cs st _ fun a vs S1 H1 s1 f1 f2 => hb S1 H1 σ cs (st.grow s1) _ fun b ws S2 H2 s2 g1 g2 => by
  refine ⟨a, b, vs, ws, rfl, rfl, (f1.same s2.h).lst, g1.lst, by rw [f2.1, g2.1]; exact hz, fun p hp => ?_⟩
  obtain ⟨s3, f3⟩ := fr_new (k := .lst) (.inl rfl) hp s2.sh ((f2.same s2.s).append g2) True.intro
  exact q _ [p] _ _ ((s1.trans s2).trans s3) (f3.prior (s1.trans s2).h)
def repD (n : Nat) (ds : List Da) : List Da := (List.replicate n ds).flatten
theorem DqAll.rep {vs : List V} (h : DqAll K H vs ds) : ∀ n, DqAll K H (List.replicate n vs).flatten (List.replicate n ds).flatten
  | 0 => DqAll.nil
  | n + 1 => by
    rw [List.replicate_succ, List.replicate_succ, List.flatten_cons, List.flatten_cons]
    exact h.append (h.rep n)
theorem eo_rep (ha : Er B ta ρ .lst ds) (hb : Eb B tb ρ (.int n)) (h0 : -(2 ^ 63) ≤ n) (h1 : n < 2 ^ 63) (hz : ds.length * n.toNat ≤ sizeLine) : Eo B (tOp rRep ta tb) ρ (ol (List.replicate n.toNat ds).flatten) := fun S H σ cs st Q q => ha S H σ cs st _ fun a vs S1 H1 s1 f1 f2 => hb S1 H1 σ cs (st.grow s1) _ fun x S2 H2 s2 g => by
  cases g
  refine ⟨a, n, vs, rfl, rfl, (f1.same s2.h).lst, h0, h1, by rw [f2.1]; exact hz, fun p hp => ?_⟩
  obtain ⟨s3, f3⟩ := fr_new (k := .lst) (.inl rfl) hp s2.sh ((f2.same s2.s).rep n.toNat) True.intro
  exact q _ [p] _ _ ((s1.trans s2).trans s3) (f3.prior (s1.trans s2).h)
/-- list(xs) | tuple(xs) -/
theorem eo_copy (h : Er B te ρ k ds) (hk : k = .lst ∨ k = .rd ∨ k = .tup) : Eo B (tCB (rCopy B.K) (tCons te tNil)) ρ (ol ds) := fun S H σ cs st Q q => h S H σ cs st _ fun a vs S1 H1 s1 f1 f2 => by
  refine ⟨a, vs, rfl, ?_, fun p hp => ?_⟩
  · rcases hk with rfl | rfl | rfl
    · exact .inl (f1.seqL (.inl rfl))
    · exact .inl (f1.seqL (.inr rfl))
    · exact .inr (SqT.of f1.tup)
  · obtain ⟨s4, f4⟩ := fr_new (k := .lst) (.inl rfl) hp s1.sh f2 True.intro
    exact q _ [p] _ _ (s1.trans s4) (f4.prior s1.h)
theorem eo_tupL (h : Er B te ρ .lst ds) : Eo B (tCB (rTupA B.K) (tCons te tNil)) ρ (.nd .tup (ds.map Tr.sh)) := fun S H σ cs st Q q => h S H σ cs st _ fun a vs S1 H1 s1 f1 f2 => by
  refine ⟨a, vs, rfl, .inl ⟨SqL.of f1.lst, fun p hp => ?_⟩⟩
  obtain ⟨s4, f4⟩ := fr_new (k := .tup) (.inr (.inl rfl)) hp s1.sh f2 True.intro
  exact q _ [p] _ _ (s1.trans s4) (f4.prior s1.h)
/-! ## calls of defs -/
inductive Out where
  | ret (t : Tr)
  | exc (C : Str) (at_ : Option V)
def XOk (K : PySem.W.Frag) (H : Hp) (E : XK) (C : Str) : Option V → Prop
  | some v => ∀ d H', Same H H' → H d = none → H' d = some (.xd [("at", v)]) → E (.ref (He.ga K C)) (some d) H'
  | none => ∀ H', Same H H' → E (.ref (He.ga K C)) none H'
def OutQ (K : PySem.W.Frag) (S H : Hp) (Q : VK) (E : XK) : Out → Prop
  | .ret t => ∀ x c S' H', Step S H S' H' → Fr K H S' H' c x t → Q x H'
  | .exc C a => XOk K H E C a
abbrev Rel := List Da → Out → Prop
/-- a def's promise -/
def SpD (K : PySem.W.Frag) (R : Rel) : Sp := fun vs H Q E => ∃ ds o S, R ds o ∧ DqAll K S vs ds ∧ Same S H ∧ OutQ K S H Q E o
theorem eo_call {R : Rel} {E : XK} (h : Eas B ts ρ ds) (r : R ds (.ret t)) : Eo B (tCall (SpD B.K R) [] E ts) ρ t := fun S H σ cs st Q q => h S H σ cs st _ fun vs S1 H1 s1 f1 => by
  show SpD B.K R (vs ++ []) H1 Q E
  rw [List.append_nil]
  exact ⟨ds, _, S1, r, f1, s1.sh, fun x c S2 H2 s2 f2 => q x c S2 H2 (s1.trans s2) (f2.prior s1.h)⟩
theorem eb_call {R : Rel} {E : XK} (h : Eab B ts ρ ds) (r : R ds (.ret t)) (e : t.flat = d) : Eb B (tCall (SpD B.K R) [] E ts) ρ d := fun S H σ cs st Q q => h S H σ cs st _ fun vs S1 H1 s1 f1 => by
  show SpD B.K R (vs ++ []) H1 Q E
  rw [List.append_nil]
  refine ⟨ds, _, H1, r, f1, Same.refl H1, fun x c S2 H2 s2 f2 => q x S1 H2 (s1.trans (Step.heap s1.sh s2.h)) ?_⟩
  rw [← e]
  exact f2.ow.here s2.sh
theorem eb_call' {R : Rel} {E : XK} (h : Eab B ts ρ ds) (r : R ds (.ret (.sh d))) : Eb B (tCall (SpD B.K R) [] E ts) ρ d := eb_call h r (Tr.flat_sh d)
/-- nothing in the tree leans on what stands for good -/
inductive Lone : Tr → Prop
  | sh {d : Da} {v : V} (e : d.fl = some v) : Lone (.sh d)
  | nd {k : NK} {ts : List Tr} (h : ∀ t ∈ ts, Lone t) : Lone (.nd k ts)
theorem Ow.lone {S2 : Hp} (h : Ow K S H c x t) (l : Lone t) : Ow K S2 H c x t := by
  induction h with
  | sh h =>
    cases l with
    | sh e => rw [h.flat e]; exact .sh (Dq.of_flat e)
  | nd h l1 l2 f hc ih =>
    cases l with
    | nd g => exact .nd h l1 l2 (fun i v t c h1 h2 h3 => ih i v t c h1 h2 h3 (g t (List.mem_of_getElem? h2))) hc
theorem eo_lone {R : Rel} {E : XK} (h : Eab B ts ρ ds) (r : R ds (.ret t)) (l : Lone t) : Eo B (tCall (SpD B.K R) [] E ts) ρ t := fun S H σ cs st Q q => h S H σ cs st _ fun vs S1 H1 s1 f1 => by
  show SpD B.K R (vs ++ []) H1 Q E
  rw [List.append_nil]
  exact ⟨ds, _, H1, r, f1, Same.refl H1, fun x c S2 H2 s2 f2 => q x c S1 H2 (s1.trans (Step.heap s1.sh s2.h)) ⟨f2.ow.lone l, f2.nd, fun a ha => ⟨s1.sh.free (f2.fr a ha).2, s1.h.free (f2.fr a ha).2⟩⟩⟩
theorem lone_ints {xs : List Int} : Lone (ol (xs.map Da.int)) := .nd fun t ht => by
  obtain ⟨d, hd, rfl⟩ := List.mem_map.mp ht
  obtain ⟨i, _, rfl⟩ := List.mem_map.mp hd
  exact .sh rfl
/-! what is raised -/
def Ex (B : Bs) (te : TE) (ρ : Rho) (E : XK) (C : Str) (a : Option V) : Prop := ∀ S H σ cs, Sit B S H σ ρ cs → ∀ Q : VK, XOk B.K H E C a → te σ H Q
theorem XOk.later {E : XK} {C : Str} {a : Option V} (e : Same H H') (h : XOk K H E C a) : XOk K H' E C a := by
  cases a with
  | none => exact fun H2 e2 => h H2 (e.trans e2)
  | some v => exact fun d H2 e2 h1 h2 => h d H2 (e.trans e2) (e.free h1) h2
theorem ex_call {R : Rel} {E : XK} {C : Str} {a : Option V} (h : Eab B ts ρ ds) (r : R ds (.exc C a)) : Ex B (tCall (SpD B.K R) [] E ts) ρ E C a := fun S H σ cs st Q q => h S H σ cs st _ fun vs S1 H1 s1 f1 => by
  show SpD B.K R (vs ++ []) H1 Q E
  rw [List.append_nil]
  exact ⟨ds, _, H1, r, f1, Same.refl H1, q.later s1.h⟩
end
/-! ## operators on data -/
section
variable {K : PySem.W.Frag} {i j : Int} {a b : Str} {x y : Da} {ds es : List Da} {k : NK} {p q : Bool}
theorem o_I0 {g : Int → Int → V} {z : Da} (e : z.fl = some (g i j)) : Op2 K (rI0 g) (.int i) (.int j) z := ⟨_, e, fun H vx vy Q h1 h2 q => by
  cases h1; cases h2
  exact ⟨i, j, rfl, rfl, q⟩⟩
theorem o_II {f : Int → Int → Int} : Op2 K (rI0 fun i j => .int (f i j)) (.int i) (.int j) (.int (f i j)) := o_I0 rfl
theorem o_IB {f : Int → Int → Bool} : Op2 K (rI0 fun i j => .bl (f i j)) (.int i) (.int j) (.bl (f i j)) := o_I0 rfl
theorem o_I {C : Int → Int → Prop} {f : Int → Int → Int} (hc : C i j) : Op2 K (rI C fun i j => .int (f i j)) (.int i) (.int j) (.int (f i j)) := ⟨_, rfl, fun H vx vy Q h1 h2 q => by
  cases h1; cases h2
  exact ⟨i, j, rfl, rfl, hc, q⟩⟩
theorem o_U {f : Int → Int} : Op1 K (rU fun i => .int (f i)) (.int i) (.int (f i)) := ⟨_, rfl, fun H vx Q h1 q => by
  cases h1
  exact ⟨i, rfl, q⟩⟩
theorem o_addI : Op2 K rAddN (.int i) (.int j) (.int (i + j)) := ⟨_, rfl, fun H vx vy Q h1 h2 q => by
  cases h1; cases h2
  exact .inl ⟨i, j, rfl, rfl, q⟩⟩
theorem o_addS (h : a.length + b.length ≤ sizeLine) : Op2 K rAddN (.str a) (.str b) (.str (a ++ b)) := ⟨_, rfl, fun H vx vy Q h1 h2 q => by
  cases h1; cases h2
  exact .inr ⟨a, b, rfl, rfl, h, q⟩⟩
theorem o_mul (h : CMul i j) : Op2 K rMulN (.int i) (.int j) (.int (i * j)) := ⟨_, rfl, fun H vx vy Q h1 h2 q => by
  cases h1; cases h2
  exact .inl ⟨i, j, rfl, rfl, h, q⟩⟩
theorem o_mulT {a : Str} {l : List Nat} {n : Int} (e : a = ⟨l.toArray⟩) (h : 0 ≤ n ∧ n ≤ 1000000) (h2 : l.length * n.toNat ≤ 1000000) : Op2 K rMulN (.str a) (.int n) (.str ⟨(List.replicate n.toNat l).flatten.toArray⟩) := ⟨_, rfl, fun H vx vy Q h1 h2' q => by
  subst e
  cases h1; cases h2'
  exact .inr (.inr ⟨l, n, rfl, rfl, h.1, h.2, h2, q⟩)⟩
theorem o_mulS {a : Str} {c : Nat} {n : Int} (e : a = ⟨#[c]⟩) (h : 0 ≤ n ∧ n ≤ 1000000) : Op2 K rMulN (.str a) (.int n) (.str ⟨(List.replicate n.toNat c).toArray⟩) := by
  have z := o_mulT (K := K) (a := a) (l := [c]) (n := n) e h (by simp only [List.length_cons, List.length_nil]; omega)
  have f : (List.replicate n.toNat [c]).flatten = List.replicate n.toNat c := by simp
  rw [f] at z
  exact z
theorem o_eqI : Op2 K (rEqA K) (.int i) (.int j) (.bl (decide (i = j))) := ⟨_, rfl, fun H vx vy Q h1 h2 q => by
  cases h1; cases h2
  refine .inl ⟨rfl, ?_⟩
  rw [dec_int, Bool.beq_eq_decide_eq]
  exact q⟩
theorem o_neI : Op2 K (rNeA K) (.int i) (.int j) (.bl (!decide (i = j))) := ⟨_, rfl, fun H vx vy Q h1 h2 q => by
  cases h1; cases h2
  refine .inl ⟨rfl, ?_⟩
  rw [dec_int, Bool.beq_eq_decide_eq]
  exact q⟩
theorem o_eqS : Op2 K (rEqA K) (.str a) (.str b) (.bl (decide (a = b))) := ⟨_, rfl, fun H vx vy Q h1 h2 q => by
  cases h1; cases h2
  refine .inl ⟨rfl, ?_⟩
  rw [dec_str, Bool.beq_eq_decide_eq]
  exact q⟩
theorem o_neS : Op2 K (rNeA K) (.str a) (.str b) (.bl (!decide (a = b))) := ⟨_, rfl, fun H vx vy Q h1 h2 q => by
  cases h1; cases h2
  refine .inl ⟨rfl, ?_⟩
  rw [dec_str, Bool.beq_eq_decide_eq]
  exact q⟩
/-- is it None -/
def Da.isN : Da → Bool
  | .non => true
  | _ => false
theorem dq_non {H : Hp} {v : V} (h : Dq K H v x) : decide (v = .non) = x.isN := by cases h <;> rfl
theorem o_isN : Op2 K rIsN x .non (.bl x.isN) := ⟨_, rfl, fun H vx vy Q h1 h2 q => by
  cases h2
  refine ⟨rfl, ?_⟩
  rw [dq_non h1]
  exact q⟩
theorem o_notN : Op2 K rNotN x .non (.bl (!x.isN)) := ⟨_, rfl, fun H vx vy Q h1 h2 q => by
  cases h2
  refine ⟨rfl, ?_⟩
  rw [dq_non h1]
  exact q⟩
/-! len, max, min .. -/
theorem o_len (hk : k = .lst ∨ k = .rd ∨ k = .tup ∨ ∃ ks, k = .dct ks) : OpA K (rLenA K) [.nd k ds] (.int ds.length) := ⟨_, rfl, fun H vs Q h q => by
  obtain ⟨x, r, rfl, h1, h2⟩ := h.cons_inv
  cases h2.nil_inv
  obtain ⟨a, ws, rfl, g1, g2⟩ := h1.inv
  rw [← g2.1] at q
  rcases hk with rfl | rfl | rfl | ⟨ks, rfl⟩
  · exact .inl ⟨a, ws, rfl, .inl (g1.seqL (.inl rfl)), q⟩
  · exact .inl ⟨a, ws, rfl, .inl (g1.seqL (.inr rfl)), q⟩
  · exact .inl ⟨a, ws, rfl, .inr (SqT.of g1.tup), q⟩
  · obtain ⟨e, l⟩ := g1.dct
    exact .inr (.inr ⟨a, _, rfl, e, by rw [List.length_zip, l, Nat.min_self]; exact q⟩)⟩
theorem o_lenL : OpA K (rLenA K) [.nd .lst ds] (.int ds.length) := o_len (.inl rfl)
theorem o_lenR : OpA K (rLenA K) [.nd .rd ds] (.int ds.length) := o_len (.inr (.inl rfl))
theorem o_lenT : OpA K (rLenA K) [.nd .tup ds] (.int ds.length) := o_len (.inr (.inr (.inl rfl)))
theorem o_lenD {ks : List Key} : OpA K (rLenA K) [.nd (.dct ks) ds] (.int ds.length) := o_len (.inr (.inr (.inr ⟨ks, rfl⟩)))
theorem o_lenM {α : Type} {f : α → Da} {xs : List α} : OpA K (rLenA K) [.nd .lst (xs.map f)] (.int xs.length) := by
  have z := o_lenL (K := K) (ds := xs.map f)
  rw [List.length_map] at z
  exact z
theorem o_lenRM {α : Type} {f : α → Da} {xs : List α} : OpA K (rLenA K) [.nd .rd (xs.map f)] (.int xs.length) := by
  have z := o_lenR (K := K) (ds := xs.map f)
  rw [List.length_map] at z
  exact z
theorem o_lenTM {α : Type} {f : α → Da} {xs : List α} : OpA K (rLenA K) [.nd .tup (xs.map f)] (.int xs.length) := by
  have z := o_lenT (K := K) (ds := xs.map f)
  rw [List.length_map] at z
  exact z
theorem o_lenS (hz : a.length ≤ sizeLine) : OpA K (rLenA K) [.str a] (.int a.length) := ⟨_, rfl, fun H vs Q h q => by
  obtain ⟨x, r, rfl, h1, h2⟩ := h.cons_inv
  cases h2.nil_inv
  cases h1
  exact .inr (.inl ⟨a, rfl, hz, q⟩)⟩
theorem args2 {H : Hp} {vs : List V} (h : DqAll K H vs [.int i, .int j]) : vs = [.int i, .int j] := by
  obtain ⟨x, r, rfl, h1, h2⟩ := h.cons_inv
  obtain ⟨y, r, rfl, h3, h4⟩ := h2.cons_inv
  cases h4.nil_inv
  cases h1
  cases h3
  rfl
theorem o_max2 : OpA K (rMaxA K) [.int i, .int j] (.int (max i j)) := ⟨_, rfl, fun H vs Q h q => .inl ⟨i, j, args2 h, by rw [max2_eq]; exact q⟩⟩
theorem o_min2 : OpA K (rMinA K) [.int i, .int j] (.int (min i j)) := ⟨_, rfl, fun H vs Q h q => .inl ⟨i, j, args2 h, by rw [min2_eq]; exact q⟩⟩
theorem o_sum {xs : List Int} : OpA K (rSum K) [dInts xs] (.int xs.sum) := ⟨_, rfl, fun H vs Q h q => by
  obtain ⟨x, r, rfl, h1, h2⟩ := h.cons_inv
  cases h2.nil_inv
  obtain ⟨a, ws, rfl, g1, g2⟩ := h1.inv
  cases g2.ints_inv
  exact ⟨a, xs, rfl, SqL.of g1.lst, q⟩⟩
theorem o_intI : OpA K rInt1 [.int i] (.int i) := ⟨_, rfl, fun H vs Q h q => by
  obtain ⟨x, r, rfl, h1, h2⟩ := h.cons_inv
  cases h2.nil_inv
  cases h1
  exact .inl ⟨i, rfl, q⟩⟩
theorem o_intB : OpA K rInt1 [.bl p] (.int (if p then 1 else 0)) := ⟨_, rfl, fun H vs Q h q => by
  obtain ⟨x, r, rfl, h1, h2⟩ := h.cons_inv
  cases h2.nil_inv
  cases h1
  exact .inr ⟨p, rfl, q⟩⟩
theorem o_count : OpM K rCnt (.str a) [.str b] (.int (PySem.Txt.count a b)) := ⟨_, rfl, fun H vx vs Q h1 h q => by
  obtain ⟨x, r, rfl, h2, h3⟩ := h.cons_inv
  cases h3.nil_inv
  cases h1
  cases h2
  exact ⟨a, b, rfl, rfl, q⟩⟩
theorem o_join {ys : List Str} (hz : (ys.map (·.length)).sum + ys.length * a.length ≤ 16777216) : OpM K (rJoin K) (.str a) [dStrs ys] (.str (Txt.join a ys)) := ⟨_, rfl, fun H vx vs Q h1 h q => by
  obtain ⟨x, r, rfl, h2, h3⟩ := h.cons_inv
  cases h3.nil_inv
  cases h1
  obtain ⟨p, ws, rfl, g1, g2⟩ := h2.inv
  cases g2.strs_inv
  exact ⟨a, p, ys, rfl, rfl, .inl (SqL.of g1.lst), hz, q⟩⟩
/-! isinstance, of the built-in kinds -/
def tyD : Da → Option String
  | .non => some "NoneType"
  | .bl _ => some "bool"
  | .int _ => some "int"
  | .str _ => some "str"
  | .nd .lst _ => some "list"
  | .nd .tup _ => some "tuple"
  | .nd (.dct _) _ => some "dict"
  | .nd _ _ => none
  | .exn _ _ _ => none
theorem tyD_of {H : Hp} {v : V} {T : String} (h : Dq K H v x) (e : tyD x = some T) : TyX K H v (.type T) := by
  cases h with
  | non => cases e; exact .base .non
  | bl b => cases e; exact .base (.bl b)
  | int i => cases e; exact .base (.int i)
  | str z => cases e; exact .base (.str z)
  | exn h => cases e
  | @nd a k vs ds h l f =>
    cases k with
    | lst => cases e; exact .base (.lst h.lst)
    | tup => cases e; exact .base (.tup h.tup)
    | dct ks => cases e; exact .base (.dK h.dct.1)
    | dcl ks => cases e
    | dcs x lk ks => cases e
    | rd => cases e
    | tpz => cases e
    | ins C ns => cases e
    | slf x C ns => cases e
theorem eb_isi {B : Bs} {ρ : Rho} {te : TE} {T U : String} {b : Bool} (h : Eb B te ρ x) (e : tyD x = some T) (hk : kitB T U = some b) : Eb B (tCB (rIsi B.K) (tCons te (tCons (tC (.ty U)) tNil))) ρ (.bl b) := fun S H σ cs st Q q => h S H σ cs st _ fun v S1 H1 s1 f1 =>
  ⟨v, .ty U, .type T, .type U, b, rfl, .ty U, tyD_of f1 e, kit_ty hk, q _ S1 H1 s1 (.bl b)⟩
end
end Ly

namespace Ly
open PySem L2 Lo
/-! ## statements -/
def Gd (B : Bs) (t : TS) (D : Ends) (ρ : Rho) : Prop := ∀ S H σ cs, Sit B S H σ ρ cs → t D σ H
def En (B : Bs) (N : L2.St → Hp → Prop) (ρ : Rho) : Prop := ∀ S H σ cs, Sit B S H σ ρ cs → N σ H
def Nx (B : Bs) (P : Rho → Prop) : L2.St → Hp → Prop := fun σ H => ∃ ρ S cs, P ρ ∧ Sit B S H σ ρ cs
theorem en_nx {B : Bs} {P : Rho → Prop} {ρ : Rho} (h : P ρ) : En B (Nx B P) ρ := fun S H σ cs st => ⟨ρ, S, cs, h, st⟩
/-- what may be given back -/
def RetOk (B : Bs) (Q : VK) (t : Tr) : Prop := ∀ x c S' H', Same B.S0 S' → Same B.E0 H' → Same S' H' → (∀ a, B.S0 a = none → B.E0 a ≠ none → S' a = none) → Ow B.K S' H' c x t → c.Nodup → (∀ a ∈ c, S' a = none ∧ B.E0 a = none) → Q x H'
theorem RetOk.up {B : Bs} {Q : VK} {t : Tr} {S1 : Hp} (h : RetOk B Q t) (l : Lb B S1) : RetOk ⟨B.K, S1, B.E0⟩ Q t := fun x c S' H' s e sh nw ow nd fr =>
  h x c S' H' (l.s.trans s) e sh (fun a h1 h2 => nw a (l.nw a h1 h2) h2) ow nd fr
theorem OutQ.ret {K : PySem.W.Frag} {S H : Hp} {Q : VK} {E : XK} {t : Tr} (h : OutQ K S H Q E (.ret t)) : RetOk ⟨K, S, H⟩ Q t := fun x c S' H' s e sh nw ow nd fr => h x c S' H' ⟨s, e, sh, nw⟩ ⟨ow, nd, fr⟩
/-- the start of a body -/
theorem sit_start {K : PySem.W.Frag} {S H : Hp} {vs : List V} {ds : List Da} {n : Nat} (h : DqAll K S vs ds) (e : Same S H) :
    Sit ⟨K, S, H⟩ S H (vs.map some ++ List.replicate n none) (ds.map (fun d => some (Tr.sh d)) ++ List.replicate n none) (List.replicate (ds.length + n) []) := by
  refine ⟨⟨Same.refl S, Same.refl H, e, fun _ h _ => h, fun a ha => ?_, ?_⟩, by simp, by simp [h.1], fun i c v e h1 h2 h3 => ?_⟩
  · simp at ha
  · simp
  · rw [List.getElem?_replicate] at h1
    split at h1
    · cases h1
      by_cases hi : i < ds.length
      · rw [List.getElem?_append_left (by simpa using hi), List.getElem?_map] at h3
        rw [List.getElem?_append_left (by simpa [h.1] using hi), List.getElem?_map] at h2
        obtain ⟨d, hd, rfl⟩ := Option.map_eq_some_iff.mp h3
        obtain ⟨x, hx, rfl⟩ := Option.map_eq_some_iff.mp h2
        exact ⟨x, rfl, .sh (h.2 i x d hx hd)⟩
      · rw [List.getElem?_append_right (by simpa using hi), List.getElem?_replicate] at h3
        split at h3
        · cases h3
          rfl
        · cases h3
    · cases h1
section
variable {B : Bs} {S H S' H' : Hp} {σ : L2.St} {ρ ρ' ρ'' : Rho} {cs : List (List Addr)} {c : List Addr} {te ta tb to : TE} {ts : TA} {x : V} {v : V} {t u : Tr} {d y z : Da} {ds es : List Da} {k : NK} {i j : Nat} {K : PySem.W.Frag} {n : Int} {D : Ends} {s bd u1 u2 : TS} {tt : TT} {b : Bool}
theorem g_last (h : Gd B (tSeq s tNext) D ρ) : Gd B s D ρ := h
theorem g_next (h : En B D.nx ρ) : Gd B tNext D ρ := h
theorem g_go (h : Gd B s D ρ) : Gd B tNext { D with nx := s D } ρ := h
theorem g_rho (e : ρ = ρ') (h : Gd B s D ρ') : Gd B s D ρ := e ▸ h
theorem g_up {S1 : Hp} (l : Lb B S1) (h : Gd B s D ρ) : Gd ⟨B.K, S1, B.E0⟩ s D ρ := fun S H σ cs st => h S H σ cs (st.up l)
theorem Sit.put1 (h : Sit B S H σ ρ cs) (s : Step S H S' H') (f : Fr B.K H S' H' c x t) : ∃ cs', Sit B S' H' (σ.set i (some x)) (ρ.set i (some t)) cs' := by
  by_cases hi : i < ρ.length
  · exact h.set hi s f.ow f.nd f.fr
  · rw [List.set_eq_of_length_le (by rw [h.ls]; omega), List.set_eq_of_length_le (by omega)]
    exact ⟨cs, h.grow s⟩
theorem q_own (h : Eo B te ρ t) (k : Gd B s D (ρ.set i (some t))) : Gd B (tSeq (tAsg te (gName i)) s) D ρ := fun S H σ cs st => h S H σ cs st _ fun x c S1 H1 s1 f1 => by
  obtain ⟨cs', st'⟩ := st.put1 (i := i) s1 f1
  exact k S1 H1 _ cs' st'
theorem q_asg (h : Es B te ρ d) (k : Gd B s D (ρ.set i (some (.sh d)))) : Gd B (tSeq (tAsg te (gName i)) s) D ρ := q_own h k
theorem q_drop (h : Eb B te ρ d) (k : Gd B s D ρ) : Gd B (tSeq (tDrop te) s) D ρ := fun S H σ cs st => h S H σ cs st _ fun x S1 H1 s1 _ => k S1 H1 σ cs (st.grow s1)
theorem q_freeze (h : ρ[i]? = some (some t)) (e : t.flat = d) (k : Gd B s D (ρ.set i (some (.sh d)))) : Gd B s D ρ := fun S H σ cs st => by
  obtain ⟨S1, cs1, _, st1⟩ := st.freeze h
  rw [e] at st1
  exact k S1 H σ cs1 st1
theorem q_aug {f : Int → Int → Int} {m n : Int} (hx : ρ[i]? = some (some (.sh (.int m)))) (h : Eb B te ρ (.int n)) (k : Gd B s D (ρ.set i (some (.sh (.int (f m n)))))) : Gd B (tSeq (tAug i te (ipI f)) s) D ρ := fun S H σ cs st => by
  obtain ⟨c, x, h1, h2, ow⟩ := st.var hx
  have hxv : x = .int m := ow.sh_inv.2.flat rfl
  subst hxv
  refine ⟨_, h2, h S H σ cs st _ fun y S1 H1 s1 f1 => ⟨m, n, rfl, f1.flat rfl, ?_⟩⟩
  obtain ⟨cs', st'⟩ := st.put1 (i := i) (x := .int (f m n)) s1 (Fr.sh (.int _))
  exact k S1 H1 _ cs' st'
theorem q_if (h : Et B tt ρ b) (h1 : b = true → Gd B u1 { D with nx := s D } ρ) (h2 : b = false → Gd B u2 { D with nx := s D } ρ) : Gd B (tSeq (tIfS tt u1 u2) s) D ρ := fun S H σ cs st => h S H σ cs st _ fun S1 H1 s1 => by
  cases b with
  | true => exact h1 rfl S1 H1 σ cs (st.grow s1)
  | false => exact h2 rfl S1 H1 σ cs (st.grow s1)
theorem q_when (h : Et B tt ρ b) (h1 : b = true → Gd B u1 { D with nx := s D } ρ) (h2 : b = false → Gd B s D ρ) : Gd B (tSeq (tIfS tt u1 tNext) s) D ρ := q_if h h1 h2
theorem s_ret (h : Eo B te ρ t) (q : RetOk B D.rt t) : Gd B (tRet te) D ρ := fun S H σ cs st => h S H σ cs st _ fun x c S1 H1 s1 f1 => by
  have g := st.grow s1
  exact q x c S1 H1 g.hp.s0 g.hp.e0 s1.sh g.hp.nw f1.ow f1.nd fun a ha => ⟨(f1.fr a ha).1, st.hp.e0.free (f1.fr a ha).2⟩
theorem s_retI (h : ρ[i]? = some (some t)) (q : RetOk B D.rt t) : Gd B (tRet (tVar i)) D ρ := fun S H σ cs st => by
  obtain ⟨c, x, h1, h2, ow⟩ := st.var h
  have nd : c.Nodup := by
    obtain ⟨p1, _⟩ := flatten_set (c := c) h1
    exact (List.nodup_append.mp ((List.Perm.nodup_iff p1).mp st.hp.nd)).1
  exact ⟨x, h2, q x c S H st.hp.s0 st.hp.e0 st.same st.hp.nw ow nd fun a ha => st.hp.ow a (mem_flat h1 ha)⟩
theorem RetOk.freeze {Q : VK} (q : RetOk B Q (.sh d)) (e : t.flat = d) : RetOk B Q t := fun x c S' H' s0 e0 sh nw ow nd fr => by
  have hS : ∀ a ∈ c, S' a = none := fun a ha => (fr a ha).1
  refine q x [] (join S' H' c) H' (s0.trans (join_same hS)) e0 (join_heap sh) (fun a h1 h2 => ?_) (.sh ?_) List.nodup_nil (fun a ha => by cases ha)
  · rw [join_out fun hm => h2 (fr a hm).2]
    exact nw a h1 h2
  · rw [← e]
    exact ow.data (join_same hS) fun b o hb ho => by rw [join_in hb]; exact ho
/-! ## targets -/
def Gt (B : Bs) (g : TG) (d : Da) (ρ ρ' : Rho) : Prop := ∀ S H σ cs x (Q : L2.St → Hp → Prop), Sit B S H σ ρ cs → Dq B.K S x d → (∀ σ' cs', Sit B S H σ' ρ' cs' → Q σ' H) → g x σ H Q
def Gts (B : Bs) (g : TGs) (ds : List Da) (ρ ρ' : Rho) : Prop := ∀ S H σ cs xs (Q : L2.St → Hp → Prop), Sit B S H σ ρ cs → DqAll B.K S xs ds → (∀ σ' cs', Sit B S H σ' ρ' cs' → Q σ' H) → g xs σ H Q
theorem gt_name : Gt B (gName i) d ρ (ρ.set i (some (.sh d))) := fun S H σ cs x Q st h q => by
  obtain ⟨cs', st'⟩ := st.put1 (i := i) (Step.refl st.same) (Fr.sh h)
  exact q _ cs' st'
theorem gts_nil : Gts B gNil [] ρ ρ := fun S H σ cs xs Q st h q => ⟨h.nil_inv, q σ cs st⟩
theorem gts_cons {g : TG} {gs : TGs} (h : Gt B g d ρ ρ') (r : Gts B gs ds ρ' ρ'') : Gts B (gCons g gs) (d :: ds) ρ ρ'' := fun S H σ cs xs Q st f q => by
  obtain ⟨x, xr, rfl, f1, f2⟩ := f.cons_inv
  exact ⟨x, xr, rfl, h S H σ cs x _ st f1 fun σ1 cs1 st1 => r S H σ1 cs1 xr _ st1 f2 q⟩
theorem gt_tup {gs : TGs} {m : Nat} (h : Gts B gs ds ρ ρ') (hl : ds.length = m) : Gt B (gTup B.K m gs) (.tup ds) ρ ρ' := fun S H σ cs x Q st f q => by
  obtain ⟨a, vs, rfl, f1, f2⟩ := f.inv
  exact ⟨a, vs, rfl, SqT.of (st.same _ _ f1.tup), by rw [f2.1]; exact hl, h S H σ cs vs Q st f2 q⟩
theorem gt_lst {gs : TGs} {m : Nat} (h : Gts B gs ds ρ ρ') (hl : ds.length = m) : Gt B (gLst B.K m gs) (.lst ds) ρ ρ' := fun S H σ cs x Q st f q => by
  obtain ⟨a, vs, rfl, f1, f2⟩ := f.inv
  exact ⟨a, vs, rfl, SqL.of (st.same _ _ f1.lst), by rw [f2.1]; exact hl, h S H σ cs vs Q st f2 q⟩
theorem q_tgt {g : TG} (h : Es B te ρ d) (hg : Gt B g d ρ ρ') (k : Gd B s D ρ') : Gd B (tSeq (tAsg te g) s) D ρ := fun S H σ cs st => h S H σ cs st _ fun x c S1 H1 s1 f1 =>
  hg S1 H1 σ cs x _ (st.grow s1) f1.dq fun σ' cs' st' => k S1 H1 σ' cs' st'
/-! ## what is walked -/
structure Wk (K : PySem.W.Frag) (J : It) (S1 E1 : Hp) (ys : List Da) : Prop where
  w : ∃ G Y, Walk J ys.length G Y ∧ (∀ H2, Same S1 H2 → Same E1 H2 → G H2) ∧ ∀ i H2 x H3 S2, i < ys.length → Same S1 S2 → Same S2 H2 → Y i H2 x H3 → ∃ S3, Step S2 H2 S3 H3 ∧ ∀ d, ys[i]? = some d → Dq K S3 x d
theorem wk_ofE {J : It} {S1 E1 : Hp} {ys : List Da} {n : Nat} {G : Hp → Prop} {Y : Nat → Hp → V → Hp → Prop} {K : PySem.W.Frag} (w : Walk J n G Y) (hn : ys.length = n) (hG : ∀ H2, Same S1 H2 → Same E1 H2 → G H2)
    (hY : ∀ i H2 x H3 S2, i < ys.length → Same S1 S2 → Same S2 H2 → Y i H2 x H3 → ∃ S3, Step S2 H2 S3 H3 ∧ ∀ d, ys[i]? = some d → Dq K S3 x d) : Wk K J S1 E1 ys := by
  subst hn
  exact ⟨G, Y, w, hG, hY⟩
theorem wk_of {J : It} {S1 E1 : Hp} {ys : List Da} {n : Nat} {G : Hp → Prop} {Y : Nat → Hp → V → Hp → Prop} {K : PySem.W.Frag} (w : Walk J n G Y) (hn : ys.length = n) (hG : ∀ H2, Same S1 H2 → G H2)
    (hY : ∀ i H2 x H3 S2, i < ys.length → Same S1 S2 → Same S2 H2 → Y i H2 x H3 → ∃ S3, Step S2 H2 S3 H3 ∧ ∀ d, ys[i]? = some d → Dq K S3 x d) : Wk K J S1 E1 ys := wk_ofE w hn (fun H2 h _ => hG H2 h) hY
def Ej (B : Bs) (wi : TI) (ρ : Rho) (ys : List Da) : Prop := ∀ S H σ cs, Sit B S H σ ρ cs → ∀ R : It → Hp → Prop, (∀ J S1 H1, Step S H S1 H1 → Wk B.K J S1 B.E0 ys → R J H1) → wi σ H R
theorem ej_list {tl : TE} (h : Es B tl ρ (.nd k ds)) (hk : k = .lst ∨ k = .rd) : Ej B (iList B.K tl) ρ ds := fun S H σ cs st R r => h S H σ cs st _ fun x c S1 H1 s1 f1 => by
  obtain ⟨a, vs, rfl, g1, g2⟩ := f1.dq.inv
  refine ⟨a, rfl, ⟨vs, (g1.same s1.sh).seqL hk⟩, r _ S1 H1 s1 (wk_of (walk_list (K := B.K) (a := a) (xs := vs)) g2.1.symm (fun H2 e => (g1.same e).seqL hk) fun i H2 x H3 S2 hi e1 e2 y => ?_)⟩
  obtain ⟨rfl, hx⟩ := y
  exact ⟨S2, Step.refl e2, fun d hd => (g2.2 i x d hx hd).same e1⟩
theorem ej_tup {tl : TE} (h : Es B tl ρ (.nd .tup ds)) : Ej B (iTup B.K tl) ρ ds := fun S H σ cs st R r => h S H σ cs st _ fun x c S1 H1 s1 f1 => by
  obtain ⟨a, vs, rfl, g1, g2⟩ := f1.dq.inv
  refine ⟨a, rfl, ⟨vs, SqT.of (s1.sh _ _ g1.tup)⟩, r _ S1 H1 s1 (wk_of (walk_tup (K := B.K) (a := a) (xs := vs)) g2.1.symm (fun H2 e => SqT.of (e _ _ g1.tup)) fun i H2 x H3 S2 hi e1 e2 y => ?_)⟩
  obtain ⟨rfl, hx⟩ := y
  exact ⟨S2, Step.refl e2, fun d hd => (g2.2 i x d hx hd).same e1⟩
def rngD (lo : Int) (m : Nat) : List Da := (List.range m).map fun i => .int (lo + (i : Nat))
theorem wk_range {lo : Int} {m : Nat} {S1 E1 : Hp} : Wk K (Itr lo m) S1 E1 (rngD lo m) := wk_of (walk_range (lo := lo) (n := m)) (by simp [rngD]) (fun _ _ => True.intro) fun i H2 x H3 S2 hi e1 e2 y => by
    obtain ⟨rfl, rfl⟩ := y
    refine ⟨S2, Step.refl e2, fun d hd => ?_⟩
    unfold rngD at hd
    rw [List.getElem?_map] at hd
    obtain ⟨i2, h2, rfl⟩ := Option.map_eq_some_iff.mp hd
    have h3 : i < m := by
      unfold rngD at hi
      simpa using hi
    rw [List.getElem?_range h3] at h2
    cases h2
    exact .int _
theorem ej_rng1 (h : Eab B ts ρ [.int n]) (h1 : -4611686018427387904 ≤ n) (h2 : n < 4611686018427387904) : Ej B (iRng1 ts) ρ (rngD 0 n.toNat) := fun S H σ cs st R r => h S H σ cs st _ fun vs S1 H1 s1 f1 => by
  obtain ⟨x, xr, rfl, g1, g2⟩ := f1.cons_inv
  cases g2.nil_inv
  cases g1
  exact ⟨n, rfl, by omega, by omega, r _ S1 H1 s1 wk_range⟩
theorem ej_rng2 {lo : Int} (h : Eab B ts ρ [.int lo, .int n]) (h1 : -4611686018427387904 ≤ lo ∧ lo < 4611686018427387904 ∧ -4611686018427387904 ≤ n ∧ n < 4611686018427387904) : Ej B (iRng2 ts) ρ (rngD lo (n - lo).toNat) := fun S H σ cs st R r => h S H σ cs st _ fun vs S1 H1 s1 f1 =>
  ⟨lo, n, args2 f1, by omega, r _ S1 H1 s1 wk_range⟩
def sgnsD (w : Str) : List Da := w.cps.toList.map fun c => .str ⟨#[c]⟩
theorem ej_str {w : Str} (h : Eb B te ρ (.str w)) : Ej B (iStr te) ρ (sgnsD w) := fun S H σ cs st R r => h S H σ cs st _ fun x S1 H1 s1 f1 => by
  cases f1
  refine ⟨w, rfl, r _ S1 H1 s1 (wk_of (walk_str (z := w)) (by simp [sgnsD]) (fun _ _ => True.intro) fun i H2 x H3 S2 hi e1 e2 y => ?_)⟩
  · obtain ⟨rfl, c, hc, rfl⟩ := y
    refine ⟨S2, Step.refl e2, fun d hd => ?_⟩
    unfold sgnsD at hd
    rw [List.getElem?_map, Array.getElem?_toList, hc] at hd
    cases hd
    exact .str _
theorem step_tup {S2 H2 : Hp} {T : Addr} {vs : List V} (e : Same S2 H2) (hT : H2 T = none) : Step S2 H2 (upd S2 T (.tup vs)) (upd H2 T (.tup vs)) := by
  refine ⟨same_new (e.free hT), same_new hT, fun a o q => ?_, fun a h1 h2 => ?_⟩
  · by_cases ha : a = T
    · subst ha
      rw [upd_same] at q ⊢
      exact q
    · rw [upd_ne ha] at q ⊢
      exact e a o q
  · have ha : a ≠ T := fun e => h2 (e ▸ hT)
    rw [upd_ne ha]
    exact h1
theorem pair_dq {S2 : Hp} {T : Addr} {v w : V} {d1 d2 : Da} (hT : S2 T = none) (h1 : Dq K S2 v d1) (h2 : Dq K S2 w d2) : Dq K (upd S2 T (.tup [v, w])) (.ref T) (.tup [d1, d2]) :=
  Dq.nd' (Stands.of_tup upd_same) (DqAll.cons (h1.same (same_new hT)) (DqAll.cons (h2.same (same_new hT)) DqAll.nil))
def enumD (ds : List Da) : List Da := (List.range ds.length).map fun i => .tup [.int (i : Nat), ds.getD i .non]
theorem enumD_at {i : Nat} {d : Da} (h : (enumD ds)[i]? = some d) : ∃ e, ds[i]? = some e ∧ d = .tup [.int (i : Nat), e] := by
  unfold enumD at h
  rw [List.getElem?_map] at h
  obtain ⟨i2, h2, rfl⟩ := Option.map_eq_some_iff.mp h
  have hi : i < ds.length := by
    have := (List.getElem?_eq_some_iff.mp h2).1
    simpa using this
  rw [List.getElem?_range hi] at h2
  cases h2
  exact ⟨ds[i], List.getElem?_eq_getElem hi, by rw [List.getD, List.getElem?_eq_getElem hi]; rfl⟩
theorem ej_enum (h : Eas B ts ρ [.nd .lst ds]) : Ej B (iEnum B.K ts) ρ (enumD ds) := fun S H σ cs st R r => h S H σ cs st _ fun ws S1 H1 s1 f1 => by
  obtain ⟨x, xr, rfl, g, g'⟩ := f1.cons_inv
  cases g'.nil_inv
  obtain ⟨a, vs, rfl, g1, g2⟩ := g.inv
  refine ⟨a, vs, rfl, SqL.of (s1.sh _ _ g1.lst), r _ S1 H1 s1 (wk_of (walk_enum (K := B.K) (a := a) (xs := vs)) (by simp [enumD, g2.1]) (fun H2 e => SqL.of (e _ _ g1.lst)) fun i H2 x H3 S2 hi e1 e2 y => ?_)⟩
  · obtain ⟨T, v, w, rfl, hT, rfl, h1, h2⟩ := y
    cases h1
    refine ⟨upd S2 T (.tup [.int (i : Nat), w]), step_tup e2 hT, fun d hd => ?_⟩
    obtain ⟨e, he, rfl⟩ := enumD_at hd
    exact pair_dq (e2.free hT) (.int _) ((g2.2 i w e h2 he).same e1)
def zipD (ds es : List Da) : List Da := (ds.zip es).map fun p => .tup [p.1, p.2]
theorem ej_zip (h : Eas B ts ρ [.nd .lst ds, .nd .lst es]) : Ej B (iZip B.K ts) ρ (zipD ds es) := fun S H σ cs st R r => h S H σ cs st _ fun ws S1 H1 s1 f1 => by
  obtain ⟨x, xr, rfl, g, g'⟩ := f1.cons_inv
  obtain ⟨x, xr, rfl, f, f'⟩ := g'.cons_inv
  cases f'.nil_inv
  obtain ⟨a, vs, rfl, g1, g2⟩ := g.inv
  obtain ⟨b, us, rfl, k1, k2⟩ := f.inv
  refine ⟨a, b, vs, us, rfl, SqL.of (s1.sh _ _ g1.lst), SqL.of (s1.sh _ _ k1.lst), r _ S1 H1 s1 (wk_of (walk_zip (K := B.K) (a := a) (b := b) (xs := vs) (ys := us) rfl) (by simp [zipD, g2.1, k2.1]) (fun H2 e => ⟨SqL.of (e _ _ g1.lst), SqL.of (e _ _ k1.lst)⟩) fun i H2 x H3 S2 hi e1 e2 y => ?_)⟩
  · obtain ⟨T, v, w, rfl, hT, rfl, h1, h2⟩ := y
    refine ⟨upd S2 T (.tup [v, w]), step_tup e2 hT, fun d hd => ?_⟩
    have hi2 : i < ds.length ∧ i < es.length := by
      have hi' := hi
      simp only [zipD, List.length_map, List.length_zip] at hi'
      omega
    have z1 : ds[i]? = some ds[i] := List.getElem?_eq_getElem hi2.1
    have z2 : es[i]? = some es[i] := List.getElem?_eq_getElem hi2.2
    have z3 : (zipD ds es)[i]? = some (.tup [ds[i], es[i]]) := by
      unfold zipD
      rw [List.getElem?_map, List.getElem?_zip_eq_some (z := (ds[i], es[i])) |>.mpr ⟨z1, z2⟩]
      rfl
    rw [z3] at hd
    cases hd
    exact pair_dq (e2.free hT) ((g2.2 i v _ h1 z1).same e1) ((k2.2 i w _ h2 z2).same e1)
theorem ej_rev (h : Eas B ts ρ [.nd .lst ds]) : Ej B (iRev B.K ts) ρ ds.reverse := fun S H σ cs st R r => h S H σ cs st _ fun ws S1 H1 s1 f1 => by
  obtain ⟨x, xr, rfl, g, g'⟩ := f1.cons_inv
  cases g'.nil_inv
  obtain ⟨a, vs, rfl, g1, g2⟩ := g.inv
  refine ⟨a, vs, rfl, SqL.of (s1.sh _ _ g1.lst), r _ S1 H1 s1 (wk_of (walk_rev (K := B.K) (a := a) (xs := vs)) (by simp [g2.1]) (fun H2 e => SqL.of (e _ _ g1.lst)) fun i H2 x H3 S2 hi e1 e2 y => ?_)⟩
  · obtain ⟨rfl, hx⟩ := y
    refine ⟨S2, Step.refl e2, fun d hd => ?_⟩
    have hi' : i < ds.length := by simpa using hi
    rw [List.getElem?_reverse hi'] at hd
    rw [g2.1] at hx
    exact (g2.2 _ x d hx hd).same e1
/-! ## for -/
theorem q_for {wi : TI} {g : TG} {ys : List Da} (hj : Ej B wi ρ ys) (P : Nat → Rho → Prop) (h0 : P 0 ρ)
    (hs : ∀ S1, Lb B S1 → ∀ i d ρ', ys[i]? = some d → P i ρ' → ∃ ρ'', Gt ⟨B.K, S1, B.E0⟩ g d ρ' ρ'' ∧ Gd ⟨B.K, S1, B.E0⟩ bd { D with nx := Nx ⟨B.K, S1, B.E0⟩ (P (i + 1)), ct := Nx ⟨B.K, S1, B.E0⟩ (P (i + 1)), bk := s D } ρ'')
    (hd : ∀ ρ', P ys.length ρ' → Gd B s D ρ') : Gd B (tSeq (tFor wi g bd) s) D ρ := fun S H σ cs st => hj S H σ cs st _ fun J S1 H1 s1 ⟨G, Y, w, hG, hY⟩ => by
  have st1 := st.grow s1
  have lb := st1.lb
  refine for_it w (fun i => Nx ⟨B.K, S1, B.E0⟩ (P i)) ⟨ρ, S1, cs, h0, st1.down (Same.refl S1) lb⟩ (fun i σ' H' hi ⟨ρ', S', cs', p, st'⟩ => hG H' (st'.hp.s0.trans st'.same) st'.hp.e0) (fun i x σ' H' H2 hi ⟨ρ', S', cs', p, st'⟩ y => ?_) (fun σ' H' ⟨ρ', S', cs', p, st'⟩ => hd ρ' p S' H' σ' cs' (st'.up lb))
  obtain ⟨S3, s3, dq⟩ := hY i H' x H2 S' hi st'.hp.s0 st'.same y
  obtain ⟨d, hd'⟩ : ∃ d, ys[i]? = some d := ⟨ys[i], List.getElem?_eq_getElem hi⟩
  obtain ⟨ρ'', hg, hb⟩ := hs S1 lb i d ρ' hd' p
  exact hg S3 H2 σ' cs' x _ (st'.grow s3) (dq d hd') fun σ2 cs2 st2 => hb S3 H2 σ2 cs2 st2
/-- one name -/
theorem q_forN {wi : TI} {ys : List Da} (hj : Ej B wi ρ ys) (P : Nat → Rho → Prop) (h0 : P 0 ρ)
    (hs : ∀ S1, Lb B S1 → ∀ i d ρ', ys[i]? = some d → P i ρ' → Gd ⟨B.K, S1, B.E0⟩ bd { D with nx := Nx ⟨B.K, S1, B.E0⟩ (P (i + 1)), ct := Nx ⟨B.K, S1, B.E0⟩ (P (i + 1)), bk := s D } (ρ'.set j (some (.sh d))))
    (hd : ∀ ρ', P ys.length ρ' → Gd B s D ρ') : Gd B (tSeq (tFor wi (gName j) bd) s) D ρ := q_for hj P h0 (fun S1 l i d ρ' h1 h2 => ⟨_, gt_name, hs S1 l i d ρ' h1 h2⟩) hd
theorem q_forM {α : Type} {f : α → Da} {xs : List α} {wi : TI} (hj : Ej B wi ρ (xs.map f)) (P : Nat → Rho → Prop) (h0 : P 0 ρ)
    (hs : ∀ S1, Lb B S1 → ∀ i x ρ', xs[i]? = some x → P i ρ' → Gd ⟨B.K, S1, B.E0⟩ bd { D with nx := Nx ⟨B.K, S1, B.E0⟩ (P (i + 1)), ct := Nx ⟨B.K, S1, B.E0⟩ (P (i + 1)), bk := s D } (ρ'.set j (some (.sh (f x)))))
    (hd : ∀ ρ', P xs.length ρ' → Gd B s D ρ') : Gd B (tSeq (tFor wi (gName j) bd) s) D ρ := q_forN hj P h0 (fun S1 l i d ρ' h1 h2 => by
    rw [List.getElem?_map] at h1
    obtain ⟨x, hx, rfl⟩ := Option.map_eq_some_iff.mp h1
    exact hs S1 l i x ρ' hx h2) fun ρ' p => hd ρ' (by rw [List.length_map] at p; exact p)
theorem q_forR (h : Eab B ts ρ [.int n]) (h1 : -4611686018427387904 ≤ n) (h2 : n < 4611686018427387904) (P : Nat → Rho → Prop) (h0 : P 0 ρ)
    (hs : ∀ S1, Lb B S1 → ∀ (i : Nat) ρ', (i : Int) < n → P i ρ' → Gd ⟨B.K, S1, B.E0⟩ bd { D with nx := Nx ⟨B.K, S1, B.E0⟩ (P (i + 1)), ct := Nx ⟨B.K, S1, B.E0⟩ (P (i + 1)), bk := s D } (ρ'.set j (some (.sh (.int (i : Nat))))))
    (hd : ∀ ρ', P n.toNat ρ' → Gd B s D ρ') : Gd B (tSeq (tFor (iRng1 ts) (gName j) bd) s) D ρ := q_forM (ej_rng1 h h1 h2) P h0 (fun S1 l i x ρ' hx p => by
    have hi : i < n.toNat := by
      have := (List.getElem?_eq_some_iff.mp hx).1
      simpa using this
    rw [List.getElem?_range hi] at hx
    cases hx
    rw [Int.zero_add]
    exact hs S1 l i ρ' (by omega) p) fun ρ' p => hd ρ' (by rw [List.length_range] at p; exact p)
theorem q_forR2 {lo : Int} (h : Eab B ts ρ [.int lo, .int n]) (h1 : -4611686018427387904 ≤ lo ∧ lo < 4611686018427387904 ∧ -4611686018427387904 ≤ n ∧ n < 4611686018427387904) (P : Nat → Rho → Prop) (h0 : P 0 ρ)
    (hs : ∀ S1, Lb B S1 → ∀ (i : Nat) ρ', lo + (i : Int) < n → P i ρ' → Gd ⟨B.K, S1, B.E0⟩ bd { D with nx := Nx ⟨B.K, S1, B.E0⟩ (P (i + 1)), ct := Nx ⟨B.K, S1, B.E0⟩ (P (i + 1)), bk := s D } (ρ'.set j (some (.sh (.int (lo + (i : Nat)))))))
    (hd : ∀ ρ', P (n - lo).toNat ρ' → Gd B s D ρ') : Gd B (tSeq (tFor (iRng2 ts) (gName j) bd) s) D ρ := q_forM (ej_rng2 h h1) P h0 (fun S1 l i x ρ' hx p => by
    have hi : i < (n - lo).toNat := by
      have := (List.getElem?_eq_some_iff.mp hx).1
      simpa using this
    rw [List.getElem?_range hi] at hx
    cases hx
    exact hs S1 l i ρ' (by omega) p) fun ρ' p => hd ρ' (by rw [List.length_range] at p; exact p)
/-- for i, x in enumerate(xs) -/
theorem q_forE {α : Type} {f : α → Da} {xs : List α} {i1 i2 : Nat} (h : Eas B ts ρ [.nd .lst (xs.map f)]) (P : Nat → Rho → Prop) (h0 : P 0 ρ)
    (hs : ∀ S1, Lb B S1 → ∀ (i : Nat) x ρ', xs[i]? = some x → P i ρ' → Gd ⟨B.K, S1, B.E0⟩ bd { D with nx := Nx ⟨B.K, S1, B.E0⟩ (P (i + 1)), ct := Nx ⟨B.K, S1, B.E0⟩ (P (i + 1)), bk := s D } ((ρ'.set i1 (some (.sh (.int (i : Nat))))).set i2 (some (.sh (f x)))))
    (hd : ∀ ρ', P xs.length ρ' → Gd B s D ρ') : Gd B (tSeq (tFor (iEnum B.K ts) (gTup B.K 2 (gCons (gName i1) (gCons (gName i2) gNil))) bd) s) D ρ := q_for (ej_enum h) P h0 (fun S1 l i d ρ' h1 h2 => by
    obtain ⟨e, he, rfl⟩ := enumD_at h1
    rw [List.getElem?_map] at he
    obtain ⟨x, hx, rfl⟩ := Option.map_eq_some_iff.mp he
    exact ⟨_, gt_tup (gts_cons gt_name (gts_cons gt_name gts_nil)) rfl, hs S1 l i x ρ' hx h2⟩) fun ρ' p => hd ρ' (by simpa [enumD] using p)
/-! ## while -/
theorem q_while (P : Nat → Rho → Prop) (m0 : Nat) (h0 : P m0 ρ)
    (hs : ∀ m ρ', P m ρ' → ∃ b, Et B tt ρ' b ∧ (b = true → Gd B bd { D with nx := Nx B fun r => ∃ m', m' < m ∧ P m' r, ct := Nx B fun r => ∃ m', m' < m ∧ P m' r, bk := s D } ρ') ∧ (b = false → Gd B s D ρ')) : Gd B (tSeq (tWhile tt bd) s) D ρ := fun S H σ cs st =>
  ⟨fun m σ' H' => Nx B (P m) σ' H', ⟨m0, ρ, S, cs, h0, st⟩, fun m σ' H' ⟨ρ', S', cs', p, st'⟩ => by
    obtain ⟨b, hb, h1, h2⟩ := hs m ρ' p
    refine hb S' H' σ' cs' st' _ fun S1 H1 s1 => ?_
    cases b with
    | true =>
      rw [if_pos rfl]
      exact ⟨Nx B fun r => ∃ m', m' < m ∧ P m' r, fun σ2 H2 ⟨ρ2, S2, cs2, ⟨m', hl, p2⟩, st2⟩ => ⟨m', hl, ρ2, S2, cs2, p2, st2⟩, h1 rfl S1 H1 σ' cs' (st'.grow s1)⟩
    | false =>
      rw [if_neg Bool.false_ne_true]
      exact h2 rfl S1 H1 σ' cs' (st'.grow s1)⟩
end
end Ly

namespace Ly
open PySem L2 Lo
/-! ## comprehensions -/
def wipeR (ρ : Rho) : List Nat → Rho
  | [] => ρ
  | v :: vs => (wipeR ρ vs).set v none
theorem wipe_at (σ : L2.St) : ∀ (vs : List Nat) (j : Nat), (wipe σ vs)[j]? = if j ∈ vs then (σ[j]?).map fun _ => none else σ[j]?
  | [], j => by simp [wipe]
  | v :: vs, j => by
    unfold wipe
    by_cases h : j = v
    · subst h
      by_cases hj : j < σ.length
      · rw [List.getElem?_set_self (by rw [wipe_length]; exact hj), if_pos (List.mem_cons_self), List.getElem?_eq_getElem hj]
        rfl
      · rw [List.getElem?_eq_none (by rw [List.length_set, wipe_length]; omega), List.getElem?_eq_none (by omega)]
        simp
    · rw [List.getElem?_set_ne (Ne.symm h), wipe_at σ vs j]
      simp [h]
theorem wipe_set (σ : L2.St) {vs : List Nat} {i : Nat} (hi : i ∈ vs) (x : Option V) : wipe (σ.set i x) vs = wipe σ vs := by
  apply List.ext_getElem?
  intro j
  rw [wipe_at, wipe_at]
  by_cases hj : j ∈ vs
  · rw [if_pos hj, if_pos hj]
    by_cases h : j = i
    · subst h
      by_cases hl : j < σ.length
      · rw [List.getElem?_set_self hl, List.getElem?_eq_getElem hl]; rfl
      · rw [List.getElem?_eq_none (by simpa using hl), List.getElem?_eq_none (by omega)]
    · rw [set_ne h]
  · rw [if_neg hj, if_neg hj, set_ne (fun e : j = i => hj (by rw [e]; exact hi))]
theorem wipe_wipe (σ : L2.St) (vs : List Nat) : wipe (wipe σ vs) vs = wipe σ vs := by
  apply List.ext_getElem?
  intro j
  rw [wipe_at, wipe_at]
  split
  · cases σ[j]? <;> rfl
  · rfl
section
variable {B : Bs} {S H S' H' : Hp} {σ : L2.St} {ρ ρ' ρ'' : Rho} {cs : List (List Addr)} {c : List Addr} {te ta tb to : TE} {ts : TA} {x : V} {v : V} {t u : Tr} {d y z : Da} {ds es : List Da} {k : NK} {i j : Nat} {K : PySem.W.Frag} {n : Int} {tt : TT} {vs : List Nat} {wi : TI} {g : TG}
theorem Sit.forget1 (h : Sit B S H σ ρ cs) (i : Nat) : ∃ cs', Sit B S H (σ.set i none) (ρ.set i none) cs' := by
  by_cases hi : i < ρ.length
  · have hc : cs[i]? = some (cs[i]'(by rw [h.lc]; exact hi)) := List.getElem?_eq_getElem _
    refine ⟨_, h.put (c := []) (v := none) (e := none) hc (Same.refl S) h.hp.e0 h.hp.sh h.hp.nw (fun a ha => ⟨(h.hp.ow a (h.mem_er hc ha).1).1, rfl⟩) (fun a ha => by cases ha) List.nodup_nil rfl (by simp) ?_ fun j hj => set_ne hj⟩
    rw [List.getElem?_set_self (by rw [h.ls]; exact hi)]
  · rw [List.set_eq_of_length_le (by rw [h.ls]; omega), List.set_eq_of_length_le (by omega)]
    exact ⟨cs, h⟩
theorem Sit.wiped (h : Sit B S H σ ρ cs) : ∀ vs : List Nat, ∃ cs', Sit B S H (wipe σ vs) (wipeR ρ vs) cs'
  | [] => ⟨cs, h⟩
  | v :: vs => by
    obtain ⟨cs1, h1⟩ := Sit.wiped h vs
    exact h1.forget1 v
/-- a target within a block whose own slots are vs -/
def Gw (B : Bs) (g : TG) (vs : List Nat) (d : Da) (ρ ρ' : Rho) : Prop := ∀ S H σ cs x (Q : L2.St → Hp → Prop), Sit B S H σ ρ cs → Dq B.K S x d → (∀ σ' cs', Sit B S H σ' ρ' cs' → wipe σ' vs = wipe σ vs → Q σ' H) → g x σ H Q
def Gws (B : Bs) (g : TGs) (vs : List Nat) (ds : List Da) (ρ ρ' : Rho) : Prop := ∀ S H σ cs xs (Q : L2.St → Hp → Prop), Sit B S H σ ρ cs → DqAll B.K S xs ds → (∀ σ' cs', Sit B S H σ' ρ' cs' → wipe σ' vs = wipe σ vs → Q σ' H) → g xs σ H Q
theorem gw_name (hi : i ∈ vs) : Gw B (gName i) vs d ρ (ρ.set i (some (.sh d))) := fun S H σ cs x Q st h q => by
  obtain ⟨cs', st'⟩ := st.put1 (i := i) (Step.refl st.same) (Fr.sh h)
  exact q _ cs' st' (wipe_set σ hi _)
theorem gws_nil : Gws B gNil vs [] ρ ρ := fun S H σ cs xs Q st h q => ⟨h.nil_inv, q σ cs st rfl⟩
theorem gws_cons {g : TG} {gs : TGs} (h : Gw B g vs d ρ ρ') (r : Gws B gs vs ds ρ' ρ'') : Gws B (gCons g gs) vs (d :: ds) ρ ρ'' := fun S H σ cs xs Q st f q => by
  obtain ⟨x, xr, rfl, f1, f2⟩ := f.cons_inv
  exact ⟨x, xr, rfl, h S H σ cs x _ st f1 fun σ1 cs1 st1 w1 => r S H σ1 cs1 xr _ st1 f2 fun σ2 cs2 st2 w2 => q σ2 cs2 st2 (w2.trans w1)⟩
theorem gw_tup {gs : TGs} {m : Nat} (h : Gws B gs vs ds ρ ρ') (hl : ds.length = m) : Gw B (gTup B.K m gs) vs (.tup ds) ρ ρ' := fun S H σ cs x Q st f q => by
  obtain ⟨a, us, rfl, f1, f2⟩ := f.inv
  exact ⟨a, us, rfl, SqT.of (st.same _ _ f1.tup), by rw [f2.1]; exact hl, h S H σ cs us Q st f2 q⟩
theorem OwAll.snoc {S H : Hp} {cs : List (List Addr)} {us : List V} {ts : List Tr} (h : OwAll K S H cs us ts) (o : Ow K S H c x t) : OwAll K S H (cs ++ [c]) (us ++ [x]) (ts ++ [t]) := by
  refine ⟨by simp [h.1], by simp [h.2.1], fun i v t' c' h1 h2 h3 => ?_⟩
  by_cases hi : i < ts.length
  · rw [List.getElem?_append_left (by rw [h.1]; exact hi)] at h1
    rw [List.getElem?_append_left hi] at h2
    rw [List.getElem?_append_left (by rw [h.2.1]; exact hi)] at h3
    exact h.2.2 i v t' c' h1 h2 h3
  · have e : i = ts.length := by
      have := (List.getElem?_eq_some_iff.mp h2).1
      simp at this
      omega
    subst e
    rw [List.getElem?_append_right (by rw [h.1]; exact Nat.le_refl _), h.1, Nat.sub_self] at h1
    rw [List.getElem?_append_right (Nat.le_refl _), Nat.sub_self] at h2
    rw [List.getElem?_append_right (by rw [h.2.1]; exact Nat.le_refl _), h.2.1, Nat.sub_self] at h3
    cases h1
    cases h2
    cases h3
    exact o
theorem OwAll.keep {S H S' H' : Hp} {cs : List (List Addr)} {us : List V} {ts : List Tr} (h : OwAll K S H cs us ts) (s : Same S S') (e : ∀ b ∈ cs.flatten, H' b = H b) : OwAll K S' H' cs us ts :=
  ⟨h.1, h.2.1, fun i v t c h1 h2 h3 => (h.2.2 i v t c h1 h2 h3).keep s fun b hb => e b (mem_flat h3 hb)⟩
theorem OwAll.alloc {S H : Hp} {cs : List (List Addr)} {us : List V} {ts : List Tr} (h : OwAll K S H cs us ts) : ∀ b ∈ cs.flatten, H b ≠ none := by
  intro b hb
  obtain ⟨c, hc, hb⟩ := List.mem_flatten.mp hb
  obtain ⟨i, hi, e⟩ := List.getElem_of_mem hc
  refine (h.2.2 i _ _ c (List.getElem?_eq_getElem (by rw [h.1, ← h.2.1]; exact hi)) (List.getElem?_eq_getElem (by rw [← h.2.1]; exact hi)) ?_).alloc b hb
  rw [List.getElem?_eq_getElem hi, e]
theorem take_accB {α β : Type} {l : List α} {p : α → Bool} {v : α → β} {i : Nat} {x : α} (h : l[i]? = some x) : ((l.take (i + 1)).filter p).map v = if p x then ((l.take i).filter p).map v ++ [v x] else ((l.take i).filter p).map v := by
  rw [List.take_add_one, h, List.filter_append, List.map_append]
  show _ ++ List.map v (List.filter p [x]) = _
  rw [List.filter_cons]
  split <;> simp
theorem take_lenB {α β : Type} {l : List α} {p : α → Bool} {v : α → β} (i : Nat) : (((l.take i).filter p).map v).length ≤ l.length := by
  rw [List.length_map]
  exact Nat.le_trans (List.length_filter_le _ _) (by rw [List.length_take]; omega)
structure LcP (K : PySem.W.Frag) (S1 H1 : Hp) (D : Addr) (ts : List Tr) (H : Hp) (S' : Hp) (us : List V) (cs : List (List Addr)) : Prop where
  st : Step S1 H1 S' H
  dn : H1 D = none
  ds : S' D = none
  at_ : H D = some (.lst us)
  ow : OwAll K S' H cs us ts
  nd : (D :: cs.flatten).Nodup
  fr : ∀ a ∈ cs.flatten, S' a = none ∧ H1 a = none
theorem eo_lc_at {α : Type} {f : α → Da} {xs : List α} {E1 : Hp} (p : α → Bool) (tr : α → Tr) (hm : xs.length < sizeLine)
    (hs : ∀ x ∈ xs, ∃ ρ'', Gw B g vs (f x) (wipeR ρ vs) ρ'' ∧ Et B tt ρ'' (p x) ∧ (p x = true → Eo B te ρ'' (tr x))) (S H : Hp) (σ : L2.St) (cs : List (List Addr)) (st : Sit B S H σ ρ cs) (hE1 : Same E1 H)
    (hj : ∀ R : It → Hp → Prop, (∀ J S1 H1, Step S H S1 H1 → Wk B.K J S1 E1 (xs.map f) → R J H1) → wi σ H R) (Q : VK) (q : ∀ x c S1 H1, Step S H S1 H1 → Fr B.K H S1 H1 c x (.nd .lst ((xs.filter p).map tr)) → Q x H1) :
    (tLc wi g tt te vs) σ H Q := hj _ fun J S1 H1 s1 ⟨G, Y, w, hG, hY⟩ => by
  intro D hD
  have st1 := st.grow s1
  obtain ⟨csw, stw⟩ := st1.wiped vs
  refine lc_it w (fun i H' => ∃ S' us cs', LcP B.K S1 H1 D (((xs.take i).filter p).map tr) H' S' us cs') ⟨S1, [], [], ?_⟩ (fun i H' hi ⟨S', us, cs', l⟩ => hG H' (l.st.s.trans l.st.sh) ((hE1.trans s1.h).trans l.st.h)) (fun i x H' H2 hi ⟨S', us, cs', l⟩ y => ?_) (fun H' ⟨S', us, cs', l⟩ => ?_)
  · exact ⟨Step.heap s1.sh (same_new hD), hD, s1.sh.free hD, upd_same, ⟨rfl, rfl, fun i v t c h => by simp at h⟩, by simp, fun a ha => by simp at ha⟩
  · obtain ⟨S3, s3, dq⟩ := hY i H' x H2 S' hi l.st.s l.st.sh y
    have hi' : i < xs.length := by simpa using hi
    have hx : xs[i]? = some xs[i] := List.getElem?_eq_getElem hi'
    obtain ⟨ρ'', hg, ht, he⟩ := hs xs[i] (List.getElem_mem hi')
    have ss := l.st.trans s3
    refine hg S3 H2 (wipe σ vs) csw x _ (stw.grow ss) (dq _ (by rw [List.getElem?_map, hx]; rfl)) fun σ2 cs2 st2 w2 => ⟨w2.trans (wipe_wipe σ vs), ht S3 H2 σ2 cs2 st2 _ fun S4 H4 s4 => ?_⟩
    have htk : ((xs.take (i + 1)).filter p).map tr = if p xs[i] then ((xs.take i).filter p).map tr ++ [tr xs[i]] else ((xs.take i).filter p).map tr := take_accB hx
    cases hp : p xs[i] with
    | true =>
      rw [if_pos rfl]
      rw [hp, if_pos rfl] at htk
      refine he hp S4 H4 σ2 cs2 (st2.grow s4) _ fun z c S5 H5 s5 f5 => ?_
      have sT := (s3.trans s4).trans s5
      have hD5 : H5 D = some (.lst us) := sT.h D _ l.at_
      have hS5 : S5 D = none := sT.nw D l.ds (by rw [l.at_]; exact fun z => nomatch z)
      have kd : ∀ b ∈ cs'.flatten, b ≠ D := fun b hb e => (List.nodup_cons.mp l.nd).1 (e ▸ hb)
      have hD4 : H4 D ≠ none := by
        rw [(s3.trans s4).h D _ l.at_]
        exact fun z => nomatch z
      have cd : ∀ b ∈ c, b ≠ D := fun b hb e => hD4 (e ▸ (f5.fr b hb).2)
      have z1 : ∀ b ∈ cs'.flatten, H5 b = H' b := fun b hb => by
        cases e : H' b with
        | none => exact absurd e (l.ow.alloc b hb)
        | some o => exact sT.h b o e
      refine ⟨us, hD5, ?_, S5, us ++ [z], cs' ++ [c], ?_⟩
      · rw [l.ow.1]
        have : (((xs.take i).filter p).map tr).length ≤ xs.length := take_lenB i
        omega
      · rw [htk]
        refine ⟨⟨l.st.s.trans sT.s, (same_mut ((l.st.h).trans sT.h) hD), fun a o e => ?_, fun a h1 h2 => sT.nw a (l.st.nw a h1 h2) (Same.ne l.st.h h2)⟩, hD, hS5, upd_same, ?_, ?_, fun a ha => ?_⟩
        · rw [upd_ne (fun e2 => by rw [e2, hS5] at e; cases e)]
          exact sT.sh a o e
        · refine (l.ow.keep sT.s fun b hb => ?_).snoc (f5.ow.keep (Same.refl S5) fun b hb => ?_)
          · rw [upd_ne (kd b hb)]
            exact z1 b hb
          · rw [upd_ne (cd b hb)]
        · rw [List.flatten_append, ← List.cons_append, List.nodup_append]
          refine ⟨l.nd, by simpa using f5.nd, fun a ha b hb e => ?_⟩
          have hb' : b ∈ c := by simpa using hb
          subst e
          rcases List.mem_cons.mp ha with e | ha
          · exact cd a hb' e
          · exact absurd (f5.fr a hb').2 (Same.ne (s3.trans s4).h (l.ow.alloc a ha))
        · rw [List.flatten_append] at ha
          rcases List.mem_append.mp ha with ha | ha
          · exact ⟨sT.nw a (l.fr a ha).1 (l.ow.alloc a ha), (l.fr a ha).2⟩
          · have ha' : a ∈ c := by simpa using ha
            exact ⟨(f5.fr a ha').1, ((l.st.trans s3).trans s4).h.free (f5.fr a ha').2⟩
    | false =>
      rw [if_neg Bool.false_ne_true]
      rw [hp, if_neg Bool.false_ne_true] at htk
      have sT := s3.trans s4
      refine ⟨S4, us, cs', ?_⟩
      rw [htk]
      refine ⟨l.st.trans sT, hD, sT.nw D l.ds (by rw [l.at_]; exact fun z => nomatch z), sT.h D _ l.at_, l.ow.keep sT.s fun b hb => ?_, l.nd, fun a ha => ⟨sT.nw a (l.fr a ha).1 (l.ow.alloc a ha), (l.fr a ha).2⟩⟩
      cases e : H' b with
      | none => exact absurd e (l.ow.alloc b hb)
      | some o => exact sT.h b o e
  · rw [List.length_map, List.take_length] at l
    refine q (.ref D) (D :: cs'.flatten) S' H' (s1.trans l.st) ⟨.nd (A := [D]) (cs := cs') (vs := us) ⟨rfl, True.intro, l.at_⟩ l.ow.1 l.ow.2.1 l.ow.2.2 rfl, l.nd, fun a ha => ?_⟩
    rcases List.mem_cons.mp ha with rfl | ha
    · exact ⟨l.ds, s1.h.free hD⟩
    · exact ⟨(l.fr a ha).1, s1.h.free (l.fr a ha).2⟩
theorem eo_lc {α : Type} {f : α → Da} {xs : List α} (p : α → Bool) (tr : α → Tr) (hj : Ej B wi ρ (xs.map f)) (hm : xs.length < sizeLine)
    (hs : ∀ x ∈ xs, ∃ ρ'', Gw B g vs (f x) (wipeR ρ vs) ρ'' ∧ Et B tt ρ'' (p x) ∧ (p x = true → Eo B te ρ'' (tr x))) :
    Eo B (tLc wi g tt te vs) ρ (.nd .lst ((xs.filter p).map tr)) := fun S H σ cs st Q q => eo_lc_at p tr hm hs S H σ cs st st.hp.e0 (hj S H σ cs st) Q q
/-- over a list of one's own -/
theorem eo_lcO {α : Type} {f : α → Da} {xs : List α} {j : Nat} (p : α → Bool) (tr : α → Tr) (hT : ρ[j]? = some (some (ol (xs.map f)))) (hm : xs.length < sizeLine)
    (hs : ∀ x ∈ xs, ∃ ρ'', Gw B g vs (f x) (wipeR ρ vs) ρ'' ∧ Et B tt ρ'' (p x) ∧ (p x = true → Eo B te ρ'' (tr x))) :
    Eo B (tLc (iList B.K (tVar j)) g tt te vs) ρ (.nd .lst ((xs.filter p).map tr)) := fun S H σ cs st Q q => eo_lc_at (E1 := H) p tr hm hs S H σ cs st (Same.refl H) (fun R r => by
  obtain ⟨c, x, h1, h2, ow⟩ := st.var hT
  obtain ⟨a, ws, rfl, o1, g2⟩ := ow.root_inv
  have hE := o1.stands.lst
  refine ⟨.ref a, h2, a, rfl, ⟨ws, SqL.of hE⟩, r _ S H (Step.refl st.same) (wk_ofE (walk_list (K := B.K) (a := a) (xs := ws)) g2.1.symm (fun H2 _ e => SqL.of (e _ _ hE)) fun i H2 x H3 S2 hi e1 e2 y => ?_)⟩
  obtain ⟨rfl, hx⟩ := y
  exact ⟨S2, Step.refl e2, fun d hd => (g2.2 i x d hx hd).same e1⟩) Q q
theorem filter_true {α : Type} (l : List α) : l.filter (fun _ => true) = l := by simp
/-- [e for x in xs] -/
theorem eo_lcM {α : Type} {f : α → Da} {xs : List α} (v : α → Da) (hj : Ej B wi ρ (xs.map f)) (hm : xs.length < sizeLine) (hi : i ∈ vs)
    (hs : ∀ x ∈ xs, Es B te ((wipeR ρ vs).set i (some (.sh (f x)))) (v x)) : Eo B (tLc wi (gName i) tYes te vs) ρ (ol (xs.map v)) := by
  have z := eo_lc (B := B) (ρ := ρ) (tt := tYes) (te := te) (vs := vs) (g := gName i) (fun _ => true) (fun x => Tr.sh (v x)) hj hm fun x hx => ⟨_, gw_name hi, et_yes, fun _ => hs x hx⟩
  rw [filter_true] at z
  rw [show ol (xs.map v) = Tr.nd .lst (xs.map fun x => Tr.sh (v x)) by rw [ol, List.map_map]; rfl]
  exact z
theorem eo_lcT {α : Type} {f : α → Da} {xs : List α} (v : α → Tr) (hj : Ej B wi ρ (xs.map f)) (hm : xs.length < sizeLine) (hi : i ∈ vs)
    (hs : ∀ x ∈ xs, Eo B te ((wipeR ρ vs).set i (some (.sh (f x)))) (v x)) : Eo B (tLc wi (gName i) tYes te vs) ρ (.nd .lst (xs.map v)) := by
  have z := eo_lc (B := B) (ρ := ρ) (tt := tYes) (te := te) (vs := vs) (g := gName i) (fun _ => true) v hj hm fun x hx => ⟨_, gw_name hi, et_yes, fun _ => hs x hx⟩
  rw [filter_true] at z
  exact z
/-- [e for x in xs if t] -/
theorem eo_lcF {α : Type} {f : α → Da} {xs : List α} (p : α → Bool) (v : α → Da) (hj : Ej B wi ρ (xs.map f)) (hm : xs.length < sizeLine) (hi : i ∈ vs)
    (ht : ∀ x ∈ xs, Et B tt ((wipeR ρ vs).set i (some (.sh (f x)))) (p x)) (hs : ∀ x ∈ xs, p x = true → Es B te ((wipeR ρ vs).set i (some (.sh (f x)))) (v x)) : Eo B (tLc wi (gName i) tt te vs) ρ (ol ((xs.filter p).map v)) := by
  have z := eo_lc (B := B) (ρ := ρ) (tt := tt) (te := te) (vs := vs) (g := gName i) p (fun x => Tr.sh (v x)) hj hm fun x hx => ⟨_, gw_name hi, ht x hx, fun h => hs x hx h⟩
  rw [show ol ((xs.filter p).map v) = Tr.nd .lst ((xs.filter p).map fun x => Tr.sh (v x)) by rw [ol, List.map_map]; rfl]
  exact z
theorem eo_lcFO {α : Type} {f : α → Da} {xs : List α} {j : Nat} (p : α → Bool) (v : α → Da) (hT : ρ[j]? = some (some (ol (xs.map f)))) (hm : xs.length < sizeLine) (hi : i ∈ vs)
    (ht : ∀ x ∈ xs, Et B tt ((wipeR ρ vs).set i (some (.sh (f x)))) (p x)) (hs : ∀ x ∈ xs, p x = true → Es B te ((wipeR ρ vs).set i (some (.sh (f x)))) (v x)) : Eo B (tLc (iList B.K (tVar j)) (gName i) tt te vs) ρ (ol ((xs.filter p).map v)) := by
  have z := eo_lcO (B := B) (ρ := ρ) (tt := tt) (te := te) (vs := vs) (g := gName i) p (fun x => Tr.sh (v x)) hT hm fun x hx => ⟨_, gw_name hi, ht x hx, fun h => hs x hx h⟩
  rw [show ol ((xs.filter p).map v) = Tr.nd .lst ((xs.filter p).map fun x => Tr.sh (v x)) by rw [ol, List.map_map]; rfl]
  exact z
theorem eo_lcMO {α : Type} {f : α → Da} {xs : List α} {j : Nat} (v : α → Da) (hT : ρ[j]? = some (some (ol (xs.map f)))) (hm : xs.length < sizeLine) (hi : i ∈ vs)
    (hs : ∀ x ∈ xs, Es B te ((wipeR ρ vs).set i (some (.sh (f x)))) (v x)) : Eo B (tLc (iList B.K (tVar j)) (gName i) tYes te vs) ρ (ol (xs.map v)) := by
  have z := eo_lcO (B := B) (ρ := ρ) (tt := tYes) (te := te) (vs := vs) (g := gName i) (fun _ => true) (fun x => Tr.sh (v x)) hT hm fun x hx => ⟨_, gw_name hi, et_yes, fun _ => hs x hx⟩
  rw [filter_true] at z
  rw [show ol (xs.map v) = Tr.nd .lst (xs.map fun x => Tr.sh (v x)) by rw [ol, List.map_map]; rfl]
  exact z
/-- over range(n) -/
theorem rng0 (m : Nat) : rngD 0 m = (List.range m).map fun (i : Nat) => Da.int (i : Int) := by
  unfold rngD
  exact List.map_congr_left fun i _ => by rw [Int.zero_add]
theorem eo_lcR (v : Nat → Da) (h : Eab B ts ρ [.int n]) (h1 : n ≤ 1000000) (h0 : -1000000 ≤ n) (hi : i ∈ vs)
    (hs : ∀ k : Nat, (k : Int) < n → Es B te ((wipeR ρ vs).set i (some (.sh (.int (k : Int))))) (v k)) : Eo B (tLc (iRng1 ts) (gName i) tYes te vs) ρ (ol ((List.range n.toNat).map v)) := by
  have hj := ej_rng1 h (by omega) (by omega)
  rw [rng0] at hj
  have hsl : sizeLine = 16777216 := sizeLine_eq
  exact eo_lcM v hj (by rw [List.length_range]; omega) hi fun x hx => hs x (by have := List.mem_range.mp hx; omega)
theorem eo_lcRF (p : Nat → Bool) (v : Nat → Da) (h : Eab B ts ρ [.int n]) (h1 : n ≤ 1000000) (h0 : -1000000 ≤ n) (hi : i ∈ vs)
    (ht : ∀ k : Nat, (k : Int) < n → Et B tt ((wipeR ρ vs).set i (some (.sh (.int (k : Int))))) (p k)) (hs : ∀ k : Nat, (k : Int) < n → p k = true → Es B te ((wipeR ρ vs).set i (some (.sh (.int (k : Int))))) (v k)) : Eo B (tLc (iRng1 ts) (gName i) tt te vs) ρ (ol (((List.range n.toNat).filter p).map v)) := by
  have hj := ej_rng1 h (by omega) (by omega)
  rw [rng0] at hj
  have hsl : sizeLine = 16777216 := sizeLine_eq
  exact eo_lcF p v hj (by rw [List.length_range]; omega) hi (fun x hx => ht x (by have := List.mem_range.mp hx; omega)) fun x hx => hs x (by have := List.mem_range.mp hx; omega)
theorem eo_lcRT (v : Nat → Tr) (h : Eab B ts ρ [.int n]) (h1 : n ≤ 1000000) (h0 : -1000000 ≤ n) (hi : i ∈ vs)
    (hs : ∀ k : Nat, (k : Int) < n → Eo B te ((wipeR ρ vs).set i (some (.sh (.int (k : Int))))) (v k)) : Eo B (tLc (iRng1 ts) (gName i) tYes te vs) ρ (.nd .lst ((List.range n.toNat).map v)) := by
  have hj := ej_rng1 h (by omega) (by omega)
  rw [rng0] at hj
  have hsl : sizeLine = 16777216 := sizeLine_eq
  exact eo_lcT v hj (by rw [List.length_range]; omega) hi fun x hx => hs x (by have := List.mem_range.mp hx; omega)
end
end Ly

namespace Ly
open PySem L2 Lo
/-! ## what is written: a place within what a slot owns -/
def kids : HO → List V
  | .lst vs => vs
  | .tup vs => vs
  | .dK kvs => kvs.map (·.2)
  | .ins _ _ fs => fs.map (·.2)
  | .frz _ u => kids u
  | _ => []
inductive VA (H : Hp) : V → List Nat → V → Prop
  | nil {x : V} : VA H x [] x
  | cons {a : Addr} {o : HO} {i : Nat} {z y : V} {p : List Nat} (h : H a = some o) (e : (kids o)[i]? = some z) (r : VA H z p y) : VA H (.ref a) (i :: p) y
def Tr.at : List Nat → Tr → Option Tr
  | [], t => some t
  | i :: p, .nd _ ts => match ts[i]? with
    | some t => Tr.at p t
    | none => none
  | _ :: _, .sh _ => none
def Tr.putL (u : Tr) : List Nat → Tr → Tr
  | [], _ => u
  | i :: p, .nd k ts => match ts[i]? with
    | some t => .nd k (ts.set i (Tr.putL u p t))
    | none => .nd k ts
  | _ :: _, .sh d => .sh d
abbrev Tr.put (T u : Tr) (p : List Nat) : Tr := Tr.putL u p T
section
variable {B : Bs} {S H S' H' : Hp} {σ : L2.St} {ρ ρ' ρ'' : Rho} {cs : List (List Addr)} {c c1 A : List Addr} {te ta tb to ti tv : TE} {ts : TA} {x x0 : V} {v w : V} {t u T : Tr} {d y z : Da} {ds es : List Da} {k : NK} {i j m : Nat} {K : PySem.W.Frag} {n : Int} {p : List Nat} {us : List Tr} {D : Ends} {s : TS} {a : Addr} {vs : List V}
theorem VA.same (h : VA H x p v) (e : Same H H') : VA H' x p v := by
  induction h with
  | nil => exact .nil
  | cons h e2 r ih => exact .cons (e _ _ h) e2 ih
theorem VA.uniq (h : VA H x p v) (g : VA H x p w) : v = w := by
  induction h with
  | nil => cases g; rfl
  | cons h e2 r ih =>
    cases g with
    | cons h' e' r' =>
      rw [h] at h'
      cases h'
      rw [e2] at e'
      cases e'
      exact ih r'
theorem VA.snoc {o : HO} (h : VA H x p (.ref a)) (ho : H a = some o) (e : (kids o)[i]? = some v) : VA H x (p ++ [i]) v := by
  generalize hz : V.ref a = z at h
  induction h with
  | nil => subst hz; exact .cons ho e .nil
  | cons h e2 r ih => exact .cons h e2 (ih hz)
theorem zip_snd {α β : Type} : ∀ {l : List α} {r : List β}, l.length = r.length → (l.zip r).map (·.2) = r
  | [], [], _ => rfl
  | a :: l, b :: r, h => by
    rw [List.zip_cons_cons, List.map_cons, zip_snd (by simpa using h)]
  | [], _ :: _, h => by simp at h
  | _ :: _, [], h => by simp at h
theorem Own.kids (h : Own K H a vs A k) : ∃ o, H a = some o ∧ kids o = vs := by
  cases k with
  | ins C ns => obtain ⟨dx, _, _, l, h1, _⟩ := h; exact ⟨_, h1, zip_snd l⟩
  | slf x C ns => obtain ⟨_, dx, _, _, l, h1, _⟩ := h; exact ⟨_, h1, zip_snd l⟩
  | rd => exact h.elim
  | lst => exact ⟨_, h.2.2, rfl⟩
  | tup => exact ⟨_, h.2.2, rfl⟩
  | dct ks => exact ⟨_, h.2.2, zip_snd h.2.1⟩
  | dcl ks => obtain ⟨_, l, o, h⟩ := h; exact ⟨_, h, zip_snd l⟩
  | dcs x lk ks =>
    obtain ⟨_, _, l, h⟩ := h
    refine ⟨_, h, ?_⟩
    cases lk with
    | none => exact zip_snd l
    | some o => exact zip_snd l
  | tpz => obtain ⟨_, o, _, h⟩ := h; exact ⟨_, h, rfl⟩
theorem Ow.focus : ∀ (p : List Nat) {c : List Addr} {x : V} {T t : Tr}, Ow K S H c x T → T.at p = some t → ∃ c1 y rest, c.Perm (c1 ++ rest) ∧ Ow K S H c1 y t ∧ VA H x p y ∧
    ∀ S' H' c1' t', Same S S' → (∀ a ∈ rest, H' a = H a) → Ow K S' H' c1' y t' → ∃ c', c'.Perm (c1' ++ rest) ∧ Ow K S' H' c' x (T.put t' p)
  | [], c, x, T, t, h, e => by
    cases e
    exact ⟨c, x, [], by simp, h, .nil, fun S' H' c1' t' _ _ o => ⟨c1', by simp, o⟩⟩
  | i :: p, _, _, .sh d, t, h, e => by cases e
  | i :: p, c, x, .nd k ts, t, h, e => by
    cases h with
    | @nd a _ vs _ cs A _ h l l2 f hc =>
      unfold Tr.at at e
      split at e
      · rename_i ti hti
        have hi : i < ts.length := (List.getElem?_eq_some_iff.mp hti).1
        have hv : vs[i]? = some (vs[i]'(by omega)) := List.getElem?_eq_getElem _
        have hcs : cs[i]? = some (cs[i]'(by omega)) := List.getElem?_eq_getElem _
        have o := f i _ ti _ hv hti hcs
        obtain ⟨c1, y, rest, p1, o1, va, g⟩ := Ow.focus p o e
        obtain ⟨ob, ho, hk⟩ := h.kids
        obtain ⟨q1, _⟩ := flatten_set (c := c1) hcs
        have q2 : c.Perm (c1 ++ (A ++ ((cs.eraseIdx i).flatten ++ rest))) := by
          rw [hc]
          refine ((List.Perm.append_left A (q1.trans (List.Perm.append_right _ p1)))).trans ?_
          rw [List.append_assoc, ← List.append_assoc A, ← List.append_assoc c1 A]
          refine (List.Perm.append_right _ List.perm_append_comm).trans ?_
          exact List.Perm.append_left _ List.perm_append_comm
        refine ⟨c1, y, _, q2, o1, .cons ho (by rw [hk]; exact hv) va, fun S' H' c1' t' s kp o' => ?_⟩
        obtain ⟨ci', pi, oi⟩ := g S' H' c1' t' s (fun b hb => kp b (by simp [hb])) o'
        obtain ⟨_, r2⟩ := flatten_set (c := ci') hcs
        refine ⟨A ++ (cs.set i ci').flatten, ?_, ?_⟩
        · refine (List.Perm.append_left A (r2.trans (List.Perm.append_right _ pi))).trans ?_
          rw [List.append_assoc, ← List.append_assoc A, ← List.append_assoc c1' A]
          refine (List.Perm.append_right _ List.perm_append_comm).trans ?_
          exact List.Perm.append_left _ List.perm_append_comm
        · show Ow K S' H' _ _ (Tr.putL t' (i :: p) (.nd k ts))
          unfold Tr.putL
          rw [hti]
          refine .nd (h.keep fun b hb => kp b (by simp [hb])) (by rw [List.length_set]; exact l) (by simp [l2]) (fun j v t c h1 h2 h3 => ?_) rfl
          by_cases hj : j = i
          · subst hj
            rw [List.getElem?_set_self hi] at h2
            rw [List.getElem?_set_self (by omega)] at h3
            cases h2
            cases h3
            rw [hv] at h1
            cases h1
            exact oi
          · rw [set_ne hj] at h2 h3
            exact (f j v t c h1 h2 h3).keep s fun b hb => kp b (List.mem_append_right _ (List.mem_append_left _ (mem_erase h3 hb hj)))
      · cases e
theorem Sit.mut2 {c0 : List Addr} {x : V} (h : Sit B S H σ ρ cs) (hc : cs[i]? = some c0) (hx : σ[i]? = some (some x)) (ks : ∀ a o, a ∉ c0 → H a = some o → H' a = some o) (ow : Ow B.K S H' c x t) (nd : c.Nodup)
    (fr : ∀ a ∈ c, S a = none ∧ (a ∈ c0 ∨ (B.E0 a = none ∧ a ∉ cs.flatten))) : ∃ cs', Sit B S H' σ (ρ.set i (some t)) cs' := by
  have nc : ∀ a, S a ≠ none → a ∉ c0 := fun a hs hm => hs (h.hp.ow a (mem_flat hc hm)).1
  have ne : ∀ a, B.E0 a ≠ none → a ∉ c0 := fun a hs hm => hs (h.hp.ow a (mem_flat hc hm)).2
  refine ⟨_, h.put (c := c) hc (Same.refl S) (fun a o q => ks a o (ne a (by rw [q]; exact fun z => nomatch z)) (h.hp.e0 a o q)) (fun a o q => ks a o (nc a (by rw [q]; exact fun z => nomatch z)) (h.hp.sh a o q)) h.hp.nw (fun a ha => ?_) (fun a ha => ?_) nd ⟨x, rfl, ow⟩ rfl hx fun _ _ => rfl⟩
  · obtain ⟨h1, h2⟩ := h.mem_er hc ha
    refine ⟨(h.hp.ow a h1).1, ?_⟩
    cases q : H a with
    | none => exact absurd q (h.alloc a h1)
    | some o => exact ks a o h2 q
  · obtain ⟨h1, h2⟩ := fr a ha
    rcases h2 with h2 | h2
    · exact ⟨h1, (h.hp.ow a (mem_flat hc h2)).2, fun hm => (h.mem_er hc hm).2 h2⟩
    · exact ⟨h1, h2.1, fun hm => h2.2 (h.mem_er hc hm).1⟩
theorem Sit.chunk_nd (h : Sit B S H σ ρ cs) {c0 : List Addr} (hc : cs[i]? = some c0) : c0.Nodup := by
  obtain ⟨p1, _⟩ := flatten_set (c := c0) hc
  exact (List.nodup_append.mp ((List.Perm.nodup_iff p1).mp h.hp.nd)).1
/-- the thing at a place, and what comes of changing it -/
theorem Sit.at_ (h : Sit B S H σ ρ cs) (hT : ρ[i]? = some (some T)) (ht : T.at p = some t) : ∃ x0 c1 y, σ[i]? = some (some x0) ∧ VA H x0 p y ∧ Ow B.K S H c1 y t ∧ c1.Nodup ∧ (∀ a ∈ c1, a ∈ cs.flatten) ∧
    ∀ H' c1' t', (∀ a o, a ∉ c1 → H a = some o → H' a = some o) → Ow B.K S H' c1' y t' → c1'.Nodup → (∀ a ∈ c1', S a = none ∧ (a ∈ c1 ∨ (B.E0 a = none ∧ a ∉ cs.flatten))) → ∃ cs', Sit B S H' σ (ρ.set i (some (T.put t' p))) cs' := by
  obtain ⟨c0, x0, hc, hx, ow⟩ := h.var hT
  obtain ⟨c1, y, rest, p1, o1, va, g⟩ := ow.focus p ht
  have nd0 := h.chunk_nd hc
  have nd1 := (List.Perm.nodup_iff p1).mp nd0
  refine ⟨x0, c1, y, hx, va, o1, (List.nodup_append.mp nd1).1, fun a ha => mem_flat hc (p1.mem_iff.mpr (List.mem_append_left _ ha)), fun H' c1' t' kp o' nd' fr => ?_⟩
  have hr : ∀ a ∈ rest, a ∉ c1 := fun a ha hm => (List.nodup_append.mp nd1).2.2 a hm a ha rfl
  have hrest : ∀ a ∈ rest, a ∈ c0 := fun a ha => p1.mem_iff.mpr (List.mem_append_right _ ha)
  obtain ⟨c', p2, o2⟩ := g S H' c1' t' (Same.refl S) (fun a ha => by
    cases q : H a with
    | none => exact absurd q (h.alloc a (mem_flat hc (hrest a ha)))
    | some o => exact kp a o (hr a ha) q) o'
  refine h.mut2 hc hx (fun a o hn ho => kp a o (fun hm => hn (p1.mem_iff.mpr (List.mem_append_left _ hm))) ho) o2 ?_ fun a ha => ?_
  · rw [List.Perm.nodup_iff p2, List.nodup_append]
    refine ⟨nd', (List.nodup_append.mp nd1).2.1, fun a ha b hb e => ?_⟩
    subst e
    rcases (fr a ha).2 with z | z
    · exact hr a hb z
    · exact z.2 (mem_flat hc (hrest a hb))
  · rcases List.mem_append.mp (p2.mem_iff.mp ha) with ha | ha
    · obtain ⟨z1, z2⟩ := fr a ha
      refine ⟨z1, ?_⟩
      rcases z2 with z2 | z2
      · exact .inl (p1.mem_iff.mpr (List.mem_append_left _ z2))
      · exact .inr z2
    · exact ⟨(h.hp.ow a (mem_flat hc (hrest a ha))).1, .inl (hrest a ha)⟩
def Loc (B : Bs) (te : TE) (ρ : Rho) (i : Nat) (p : List Nat) : Prop := ∀ S H σ cs x0, Sit B S H σ ρ cs → σ[i]? = some (some x0) → ∀ Q : VK, (∀ y S' H', Step S H S' H' → VA H' x0 p y → Q y H') → te σ H Q
theorem loc_var : Loc B (tVar i) ρ i [] := fun S H σ cs x0 st hx Q q => ⟨x0, hx, q x0 S H (Step.refl st.same) .nil⟩
theorem loc_ix (hl : Loc B ta ρ i p) (hb : Eb B tb ρ (.int n)) (hT : ρ[i]? = some (some T)) (hat : T.at p = some (.nd .lst us)) (hm : ixN us.length n = some m) : Loc B (tOp (rIxA B.K) ta tb) ρ i (p ++ [m]) := fun S H σ cs x0 st hx Q q =>
  hl S H σ cs x0 st hx _ fun y S1 H1 s1 va => hb S1 H1 σ cs (st.grow s1) _ fun x2 S2 H2 s2 g => by
    cases g
    obtain ⟨x0', c1, y', hx', va', ow, _, _, _⟩ := (st.grow (s1.trans s2)).at_ hT hat
    rw [hx] at hx'
    cases hx'
    cases (va.same s2.h).uniq va'
    cases ow with
    | @nd a _ vs _ cs' A _ h l l2 f hc =>
      obtain ⟨_, _, ho⟩ := h
      obtain ⟨_, hlt, _, _⟩ := ixN_seq hm
      have hv : vs[m]? = some (vs[m]'(by omega)) := List.getElem?_eq_getElem _
      exact .inl ⟨a, vs, n, vs[m]'(by omega), rfl, rfl, SqL.of ho, at_of (by rw [l]; exact hm) hv, q _ S2 H2 (s1.trans s2) (va'.snoc ho hv)⟩
theorem Own.lst (h : Own K H a vs A .lst) : A = [a] ∧ H a = some (.lst vs) := ⟨h.1, h.2.2⟩
/-- xs.append(e) -/
theorem q_mapp (hl : Loc B to ρ i p) (he : Eo B te ρ t) (hT : ρ[i]? = some (some T)) (hat : T.at p = some (.nd .lst us)) (hz : us.length < sizeLine) (k : Gd B s D (ρ.set i (some (T.put (.nd .lst (us ++ [t])) p)))) :
    Gd B (tSeq (tDrop (tBM B.K "list" rAppend to (tCons te tNil))) s) D ρ := fun S H σ cs st => by
  obtain ⟨x0, _, _, hx, _⟩ := st.at_ hT hat
  refine hl S H σ cs x0 st hx _ fun y S1 H1 s1 va => ?_
  have st1 := st.grow s1
  obtain ⟨x0', c1, y', hx', va', ow, _, _, _⟩ := st1.at_ hT hat
  rw [hx] at hx'
  cases hx'
  cases va.uniq va'
  cases ow with
  | @nd a _ vs _ cs' A _ h l l2 f hc =>
    refine ⟨.inl ⟨rfl, vs, SqL.of h.lst.2⟩, he S1 H1 σ cs st1 _ fun z c S2 H2 s2 f2 => ?_⟩
    have st2 := st1.grow s2
    obtain ⟨x0', c2, y', hx', va2, ow2, nd2, mem2, g⟩ := st2.at_ hT hat
    rw [hx] at hx'
    cases hx'
    have e := (va.same s2.h).uniq va2
    subst e
    cases ow2 with
    | @nd _ _ ws _ ks A2 _ h2 l' l2' f' hc' =>
      obtain ⟨e2, hh⟩ := h2.lst
      subst e2
      have hn2 : a ∉ ks.flatten := by
        rw [hc'] at nd2
        exact (List.nodup_cons.mp nd2).1
      have hnc : ∀ b ∈ c, b ≠ a := fun b hb e => by
        have := (f2.fr b hb).2
        rw [e] at this
        exact st1.alloc a (by
          have := mem2 a (by rw [hc']; exact List.mem_append_left _ (List.mem_singleton_self a))
          exact this) this
      have hnk : ∀ b ∈ c, b ∉ cs.flatten := fun b hb hm => st1.alloc b hm (f2.fr b hb).2
      refine ⟨a, ws, z, rfl, rfl, hh, by omega, ?_⟩
      have oa : OwAll B.K S2 (upd H2 a (.lst (ws ++ [z]))) (ks ++ [c]) (ws ++ [z]) (us ++ [t]) := by
        refine OwAll.snoc (OwAll.keep ⟨l', l2', f'⟩ (Same.refl S2) fun b hb => ?_) (f2.ow.keep (Same.refl S2) fun b hb => ?_)
        · rw [upd_ne (fun e : b = a => hn2 (e ▸ hb))]
        · rw [upd_ne (hnc b hb)]
      have on : Ow B.K S2 (upd H2 a (.lst (ws ++ [z]))) ([a] ++ (ks ++ [c]).flatten) (.ref a) (.nd .lst (us ++ [t])) := .nd (A := [a]) ⟨rfl, True.intro, upd_same⟩ oa.1 oa.2.1 oa.2.2 rfl
      have hnd : ([a] ++ (ks ++ [c]).flatten).Nodup := by
        rw [hc', List.nodup_append] at nd2
        rw [List.flatten_append, List.nodup_append]
        refine ⟨by simp, ?_, fun b hb e he e2 => ?_⟩
        · rw [List.nodup_append]
          refine ⟨nd2.2.1, by simpa using f2.nd, fun b hb e he e2 => ?_⟩
          subst e2
          exact hnk b (by simpa using he) (mem2 b (by rw [hc']; exact List.mem_append_right _ hb))
        · subst e2
          rw [List.mem_singleton.mp hb] at he
          rcases List.mem_append.mp he with he | he
          · exact hn2 he
          · exact hnc a (by simpa using he) rfl
      have hfr : ∀ b ∈ [a] ++ (ks ++ [c]).flatten, S2 b = none ∧ (b ∈ c2 ∨ (B.E0 b = none ∧ b ∉ cs.flatten)) := fun b hb => by
        rcases List.mem_append.mp hb with hb | hb
        · have hb' : b ∈ c2 := by rw [hc']; exact List.mem_append_left _ hb
          exact ⟨(st2.hp.ow b (mem2 b hb')).1, .inl hb'⟩
        · rw [List.flatten_append] at hb
          rcases List.mem_append.mp hb with hb | hb
          · have hb' : b ∈ c2 := by rw [hc']; exact List.mem_append_right _ hb
            exact ⟨(st2.hp.ow b (mem2 b hb')).1, .inl hb'⟩
          · have hb' : b ∈ c := by simpa using hb
            exact ⟨(f2.fr b hb').1, .inr ⟨st1.hp.e0.free (f2.fr b hb').2, hnk b hb'⟩⟩
      obtain ⟨cs3, st3⟩ := g _ _ _ (fun b o hb ho => by
        have : b ≠ a := fun e => hb (by rw [e, hc']; exact List.mem_append_left _ (List.mem_singleton_self a))
        rw [upd_ne this]
        exact ho) on hnd hfr
      exact k S2 _ σ cs3 st3
theorem q_app (he : Es B te ρ d) (hT : ρ[i]? = some (some (ol ds))) (hz : ds.length < sizeLine) (k : Gd B s D (ρ.set i (some (ol (ds ++ [d]))))) :
    Gd B (tSeq (tDrop (tBM B.K "list" rAppend (tVar i) (tCons te tNil))) s) D ρ := q_mapp loc_var he hT rfl (by simpa using hz) (by
      rw [show (ds.map Tr.sh ++ [Tr.sh d]) = (ds ++ [d]).map Tr.sh by simp]
      exact k)
/-- the items that stand for good, at a place -/
theorem Sit.root (h : Sit B S H σ ρ cs) (hT : ρ[i]? = some (some T)) (ht : T.at p = some (.nd k (ds.map Tr.sh))) : ∃ x0 a vs A, σ[i]? = some (some x0) ∧ VA H x0 p (.ref a) ∧ Own B.K H a vs A k ∧ DqAll B.K S vs ds ∧
    ∀ k' vs' ds' o, (∀ b, b ≠ a → o b = H b) → Own B.K o a vs' A k' → DqAll B.K S vs' ds' → ∃ cs', Sit B S o σ (ρ.set i (some (T.put (.nd k' (ds'.map Tr.sh)) p))) cs' := by
  obtain ⟨x0, c1, y, hx, va, ow, nd, mem, g⟩ := h.at_ hT ht
  obtain ⟨a, vs, rfl, o1, dq⟩ := ow.root_inv
  refine ⟨x0, a, vs, c1, hx, va, o1, dq, fun k' vs' ds' o ko o' dq' => ?_⟩
  refine g o c1 _ (fun b ob hb hob => ?_) (Ow.root o' dq') nd fun b hb => ⟨(h.hp.ow b (mem b hb)).1, .inl hb⟩
  rw [ko b (fun e => hb (e ▸ o1.mem))]
  exact hob
/-- xs[n] = e -/
theorem q_mset (he : Es B te ρ d) (hl : Loc B to ρ i p) (hi : Eb B ti ρ (.int n)) (hT : ρ[i]? = some (some T)) (hat : T.at p = some (ol ds)) (hm : ixN ds.length n = some m) (k : Gd B s D (ρ.set i (some (T.put (ol (ds.set m d)) p)))) :
    Gd B (tSeq (tAsg te (gSub to ti rSetA)) s) D ρ := fun S H σ cs st => he S H σ cs st _ fun z c S1 H1 s1 f1 => by
  have st1 := st.grow s1
  obtain ⟨x0, _, _, hx, _⟩ := st1.at_ hT hat
  refine hl S1 H1 σ cs x0 st1 hx _ fun y S2 H2 s2 va => hi S2 H2 σ cs (st1.grow s2) _ fun x3 S3 H3 s3 f3 => ?_
  cases f3
  have st3 := st1.grow (s2.trans s3)
  obtain ⟨x0', a, vs, A, hx', va', o1, dq, g⟩ := st3.root hT hat
  rw [hx] at hx'
  cases hx'
  cases (va.same s3.h).uniq va'
  obtain ⟨rfl, ho⟩ := o1.lst
  refine .inl ⟨a, vs, n, m, rfl, rfl, ho, (by rw [dq.1]; exact hm), ?_⟩
  have hq : DqAll B.K S3 (vs.set m z) (ds.set m d) := ⟨by simp [dq.1], fun j v e h1 h2 => by
    by_cases hj : j = m
    · subst hj
      have hlt : j < vs.length := by
        have := (List.getElem?_eq_some_iff.mp h1).1
        simpa using this
      rw [List.getElem?_set_self hlt] at h1
      rw [List.getElem?_set_self (by rw [← dq.1]; exact hlt)] at h2
      cases h1
      cases h2
      exact f1.dq.same (s2.trans s3).s
    · rw [set_ne hj] at h1 h2
      exact dq.2 j v e h1 h2⟩
  obtain ⟨cs4, st4⟩ := g .lst (vs.set m z) (ds.set m d) (upd H3 a (.lst (vs.set m z))) (fun b hb => upd_ne hb) ⟨rfl, True.intro, upd_same⟩ hq
  exact k S3 _ σ cs4 st4
theorem q_set (he : Es B te ρ d) (hi : Eb B ti ρ (.int n)) (hT : ρ[i]? = some (some (ol ds))) (hm : ixN ds.length n = some m) (k : Gd B s D (ρ.set i (some (ol (ds.set m d))))) :
    Gd B (tSeq (tAsg te (gSub (tVar i) ti rSetA)) s) D ρ := q_mset he loc_var hi hT rfl hm k
/-- x = xs.pop() -/
theorem q_mpop {j : Nat} (hl : Loc B to ρ i p) (hT : ρ[i]? = some (some T)) (hat : T.at p = some (ol ds)) (hd : ds[ds.length - 1]? = some d) (k : Gd B s D ((ρ.set i (some (T.put (ol ds.dropLast) p))).set j (some (.sh d)))) :
    Gd B (tSeq (tAsg (tBM0 B.K "list" rPop to) (gName j)) s) D ρ := fun S H σ cs st => by
  obtain ⟨x0, _, _, hx, _⟩ := st.at_ hT hat
  refine hl S H σ cs x0 st hx _ fun y S1 H1 s1 va => ?_
  have st1 := st.grow s1
  obtain ⟨x0', a, vs, A, hx', va', o1, dq, g⟩ := st1.root hT hat
  rw [hx] at hx'
  cases hx'
  cases va.uniq va'
  obtain ⟨rfl, ho⟩ := o1.lst
  obtain ⟨v, hv, dv⟩ := dq.at hd
  refine ⟨.inl ⟨rfl, vs, SqL.of ho⟩, a, vs, v, rfl, rfl, ho, by rw [dq.1]; exact hv, ?_⟩
  obtain ⟨cs4, st4⟩ := g .lst vs.dropLast ds.dropLast (upd H1 a (.lst vs.dropLast)) (fun b hb => upd_ne hb) ⟨rfl, True.intro, upd_same⟩ ⟨by simp [dq.1], fun j v e h1 h2 => by
    rw [List.getElem?_dropLast] at h1 h2
    split at h1
    · rename_i hj
      rw [if_pos (by rw [← dq.1]; exact hj)] at h2
      exact dq.2 j v e h1 h2
    · cases h1⟩
  obtain ⟨cs5, st5⟩ := st4.put1 (i := j) (Step.refl st4.same) (Fr.sh dv)
  exact k S1 _ _ cs5 st5
theorem q_pop {j : Nat} (hT : ρ[i]? = some (some (ol ds))) (hd : ds[ds.length - 1]? = some d) (k : Gd B s D ((ρ.set i (some (ol ds.dropLast))).set j (some (.sh d)))) :
    Gd B (tSeq (tAsg (tBM0 B.K "list" rPop (tVar i)) (gName j)) s) D ρ := q_mpop loc_var hT rfl hd k
/-- xs.remove(n), ints -/
theorem q_mrem {xs : List Int} (hl : Loc B to ρ i p) (he : Eb B te ρ (.int n)) (hT : ρ[i]? = some (some T)) (hat : T.at p = some (ol (xs.map Da.int))) (hn : n ∈ xs) (k : Gd B s D (ρ.set i (some (T.put (ol ((xs.erase n).map Da.int)) p)))) :
    Gd B (tSeq (tDrop (tBM B.K "list" rRemI to (tCons te tNil))) s) D ρ := fun S H σ cs st => by
  obtain ⟨x0, _, _, hx, _⟩ := st.at_ hT hat
  refine hl S H σ cs x0 st hx _ fun y S1 H1 s1 va => ?_
  have st1 := st.grow s1
  obtain ⟨x0', a, vs, A, hx', va', o1, dq, _⟩ := st1.root hT hat
  rw [hx] at hx'
  cases hx'
  cases va.uniq va'
  refine ⟨.inl ⟨rfl, vs, SqL.of o1.lst.2⟩, he S1 H1 σ cs st1 _ fun z S2 H2 s2 f2 => ?_⟩
  cases f2
  have st2 := st1.grow s2
  obtain ⟨x0', a2, vs2, A2, hx', va2, o2, dq2, g⟩ := st2.root hT hat
  rw [hx] at hx'
  cases hx'
  cases (va.same s2.h).uniq va2
  obtain ⟨rfl, ho⟩ := o2.lst
  cases dq2.ints_inv
  have hi := List.idxOf_lt_length_of_mem hn
  refine ⟨a, xs, n, xs.idxOf n, rfl, rfl, ho, by rw [List.getElem?_eq_getElem hi, List.getElem_idxOf hi], fun m hm e => ?_, ?_⟩
  · have := List.not_of_lt_findIdx (p := (· == n)) (xs := xs) (i := m) (by rw [List.idxOf] at hm; exact hm)
    have hlt := (List.getElem?_eq_some_iff.mp e).1
    rw [List.getElem?_eq_getElem hlt] at e
    cases e
    simp at this
  · rw [← List.erase_eq_eraseIdx_of_idxOf rfl] 
    obtain ⟨cs4, st4⟩ := g .lst ((xs.erase n).map V.int) ((xs.erase n).map Da.int) (upd H2 a (.lst ((xs.erase n).map V.int))) (fun b hb => upd_ne hb) ⟨rfl, True.intro, upd_same⟩ (DqAll.of_map fun _ => rfl)
    exact k S2 _ σ cs4 st4
end
end Ly

namespace Ly
open PySem L2 Lo
/-! ## == of data -/
mutual
def Da.py : Da → PyData
  | .non => .none
  | .bl b => .bool b
  | .int i => .int i
  | .str x => .str x
  | .nd k ds => match k with
    | .lst => .list (Da.pys ds)
    | .tup => .tuple (Da.pys ds)
    | _ => .none
  | .exn _ _ _ => .none
def Da.pys : List Da → List PyData
  | [] => []
  | d :: r => d.py :: Da.pys r
end
/-- data that can be laid: lists and tuples of flat things, n deep, texts of signs that there are -/
inductive Pl : Nat → Da → Prop
  | non {n : Nat} : Pl n .non
  | bl {n : Nat} {b : Bool} : Pl n (.bl b)
  | int {n : Nat} {i : Int} : Pl n (.int i)
  | str {n : Nat} {x : Str} (h : PyData.strOk x = true) : Pl n (.str x)
  | lst {n : Nat} {ds : List Da} (h : ∀ d ∈ ds, Pl n d) : Pl (n + 1) (.nd .lst ds)
  | tup {n : Nat} {ds : List Da} (h : ∀ d ∈ ds, Pl n d) : Pl (n + 1) (.nd .tup ds)
/-- no True, no False in it -/
inductive Cl : Da → Prop
  | non : Cl .non
  | int {i : Int} : Cl (.int i)
  | str {x : Str} : Cl (.str x)
  | lst {ds : List Da} (h : ∀ d ∈ ds, Cl d) : Cl (.nd .lst ds)
  | tup {ds : List Da} (h : ∀ d ∈ ds, Cl d) : Cl (.nd .tup ds)
section
variable {K : PySem.W.Frag} {H : Hp} {x y : V} {d e : Da} {ds es : List Da} {n : Nat} {vs : List V}
theorem Pl.mono {m : Nat} (h : Pl n d) : n ≤ m → Pl m d := by
  induction h generalizing m with
  | non => intro _; exact .non
  | bl => intro _; exact .bl
  | int => intro _; exact .int
  | str h => intro _; exact .str h
  | lst h ih =>
    intro hm
    obtain ⟨k, rfl⟩ : ∃ k, m = k + 1 := ⟨m - 1, by omega⟩
    exact .lst fun d hd => ih d hd (by omega)
  | tup h ih =>
    intro hm
    obtain ⟨k, rfl⟩ : ∃ k, m = k + 1 := ⟨m - 1, by omega⟩
    exact .tup fun d hd => ih d hd (by omega)
theorem dpAll_pys : ∀ {ds : List Da} {vs : List V}, DqAll K H vs ds → (∀ d ∈ ds, ∀ x, Dq K H x d → Dp K H x d.py) → DpAll K H vs (Da.pys ds)
  | [], vs, h, _ => by
    rw [h.nil_inv, Da.pys]
    exact .nil
  | d :: r, vs, h, f => by
    obtain ⟨x, xr, rfl, h1, h2⟩ := h.cons_inv
    rw [Da.pys]
    exact .cons (f d (.head _) x h1) (dpAll_pys h2 fun d hd => f d (.tail _ hd))
theorem Pl.dp (h : Pl n d) : ∀ x, Dq K H x d → Dp K H x d.py := by
  induction h with
  | non => intro x q; cases q; exact .non
  | bl => intro x q; cases q; exact .bl _
  | int => intro x q; cases q; exact .int _
  | str h => intro x q; cases q; exact .str _
  | lst h ih =>
    intro x q
    obtain ⟨a, vs, rfl, h1, h2⟩ := q.inv
    rw [Da.py]
    exact .lst (SqL.of h1.lst) (dpAll_pys h2 ih)
  | tup h ih =>
    intro x q
    obtain ⟨a, vs, rfl, h1, h2⟩ := q.inv
    rw [Da.py]
    exact .tup (SqT.of h1.tup) (dpAll_pys h2 ih)
theorem pys_lay : ∀ {ds : List Da}, (∀ d ∈ ds, d.py.canLay0 = true ∧ d.py.depth ≤ n) → PyData.canLayAll0 (Da.pys ds) = true ∧ PyData.depthAll (Da.pys ds) ≤ n
  | [], _ => by simp [Da.pys, PyData.canLayAll0, PyData.depthAll]
  | d :: r, h => by
    obtain ⟨h1, h2⟩ := pys_lay (ds := r) fun d hd => h d (.tail _ hd)
    obtain ⟨g1, g2⟩ := h d (.head _)
    simp only [Da.pys, PyData.canLayAll0, PyData.depthAll, g1, h1, Bool.and_true, true_and]
    omega
theorem Pl.lay (h : Pl n d) : d.py.canLay0 = true ∧ d.py.depth ≤ n := by
  induction h with
  | non => simp [Da.py, PyData.canLay0, PyData.depth]
  | bl => simp [Da.py, PyData.canLay0, PyData.depth]
  | int => simp [Da.py, PyData.canLay0, PyData.depth]
  | str h => simp [Da.py, PyData.canLay0, PyData.depth, h]
  | lst h ih =>
    obtain ⟨h1, h2⟩ := pys_lay ih
    rw [Da.py]
    simp only [PyData.canLay0, PyData.depth]
    exact ⟨h1, by omega⟩
  | tup h ih =>
    obtain ⟨h1, h2⟩ := pys_lay ih
    rw [Da.py]
    simp only [PyData.canLay0, PyData.depth]
    exact ⟨h1, by omega⟩
theorem Pl.shaped (h : Pl n d) (hn : n ≤ 64) : SeqAt.shaped d.py = true := by
  obtain ⟨h1, h2⟩ := h.lay
  unfold SeqAt.shaped
  rw [h1, decide_eq_true (by omega)]
  rfl
theorem o_eqG (h1 : Pl 9 d) (h2 : Pl 9 e) : Op2 K (rEqA K) d e (.bl (PyData.eqv d.py e.py)) := ⟨_, rfl, fun H vx vy Q q1 q2 q => .inr ⟨_, _, h1.dp _ q1, h2.dp _ q2, h1.shaped (by decide), h2.shaped (by decide), q⟩⟩
theorem o_neG (h1 : Pl 9 d) (h2 : Pl 9 e) : Op2 K (rNeA K) d e (.bl (!PyData.eqv d.py e.py)) := ⟨_, rfl, fun H vx vy Q q1 q2 q => .inr ⟨_, _, h1.dp _ q1, h2.dp _ q2, h1.shaped (by decide), h2.shaped (by decide), q⟩⟩
theorem eqvAll_iff : ∀ {ds es : List Da}, (∀ d ∈ ds, ∀ e, Cl e → (PyData.eqv d.py e.py = true ↔ d = e)) → (∀ e ∈ es, Cl e) → (PyData.eqvAll (Da.pys ds) (Da.pys es) = true ↔ ds = es)
  | [], [], _, _ => by simp [Da.pys, PyData.eqvAll]
  | [], _ :: _, _, _ => by simp [Da.pys, PyData.eqvAll]
  | _ :: _, [], _, _ => by simp [Da.pys, PyData.eqvAll]
  | d :: r, e :: s, h, c => by
    have ih := eqvAll_iff (ds := r) (es := s) (fun d hd => h d (.tail _ hd)) fun e he => c e (.tail _ he)
    simp only [Da.pys, PyData.eqvAll, Bool.and_eq_true]
    rw [ih, h d (.head _) e (c e (.head _))]
    constructor
    · rintro ⟨rfl, rfl⟩; rfl
    · intro q; cases q; exact ⟨rfl, rfl⟩
theorem Cl.eqv (h : Cl d) : ∀ e, Cl e → (PyData.eqv d.py e.py = true ↔ d = e) := by
  induction h with
  | non => intro e c; cases c <;> simp [Da.py, PyData.eqv]
  | int => intro e c; cases c <;> simp [Da.py, PyData.eqv]
  | str => intro e c; cases c <;> simp [Da.py, PyData.eqv]
  | lst h ih =>
    intro e c
    cases c with
    | non => simp [Da.py, PyData.eqv]
    | int => simp [Da.py, PyData.eqv]
    | str => simp [Da.py, PyData.eqv]
    | tup g => simp [Da.py, PyData.eqv]
    | lst g =>
      rw [Da.py, Da.py]
      simp only [PyData.eqv]
      rw [eqvAll_iff ih g]
      simp
  | tup h ih =>
    intro e c
    cases c with
    | non => simp [Da.py, PyData.eqv]
    | int => simp [Da.py, PyData.eqv]
    | str => simp [Da.py, PyData.eqv]
    | lst g => simp [Da.py, PyData.eqv]
    | tup g =>
      rw [Da.py, Da.py]
      simp only [PyData.eqv]
      rw [eqvAll_iff ih g]
      simp
/-- is it the same data -/
noncomputable def deq (d e : Da) : Bool := @decide (d = e) (Classical.propDecidable _)
theorem deq_true (h : d = e) : deq d e = true := by
  unfold deq
  exact @decide_eq_true _ (Classical.propDecidable _) h
theorem deq_false (h : d ≠ e) : deq d e = false := by
  unfold deq
  exact @decide_eq_false _ (Classical.propDecidable _) h
theorem deq_iff : deq d e = true ↔ d = e := ⟨fun h => by
  unfold deq at h
  exact @of_decide_eq_true _ (Classical.propDecidable _) h, deq_true⟩
theorem deq_of {p : Prop} [Decidable p] (h : d = e ↔ p) : deq d e = decide p := by
  by_cases hp : p
  · rw [decide_eq_true hp, deq_true (h.mpr hp)]
  · rw [decide_eq_false hp, deq_false fun e => hp (h.mp e)]
theorem Cl.deq (h1 : Cl d) (h2 : Cl e) : PyData.eqv d.py e.py = deq d e := by
  by_cases q : d = e
  · rw [deq_true q, (h1.eqv e h2).mpr q]
  · rw [deq_false q]
    cases z : PyData.eqv d.py e.py with
    | false => rfl
    | true => exact absurd ((h1.eqv e h2).mp z) q
theorem o_eqD (h1 : Pl 9 d) (h2 : Pl 9 e) (c1 : Cl d) (c2 : Cl e) : Op2 K (rEqA K) d e (.bl (deq d e)) := by
  rw [← c1.deq c2]
  exact o_eqG h1 h2
theorem o_neD (h1 : Pl 9 d) (h2 : Pl 9 e) (c1 : Cl d) (c2 : Cl e) : Op2 K (rNeA K) d e (.bl (!deq d e)) := by
  rw [← c1.deq c2]
  exact o_neG h1 h2
/-- xs == [] -/
theorem o_eqNil (h1 : Pl 9 (.nd .lst ds)) : Op2 K (rEqA K) (.nd .lst ds) (.nd .lst []) (.bl ds.isEmpty) := by
  have z := o_eqG (K := K) h1 (Pl.lst (n := 8) (ds := []) fun d h => by cases h)
  have e : PyData.eqv (Da.nd .lst ds).py (Da.nd .lst []).py = ds.isEmpty := by
    rw [Da.py, Da.py]
    cases ds <;> simp [Da.pys, PyData.eqv, PyData.eqvAll]
  rw [e] at z
  exact z
theorem o_neNil (h1 : Pl 9 (.nd .lst ds)) : Op2 K (rNeA K) (.nd .lst ds) (.nd .lst []) (.bl (!ds.isEmpty)) := by
  have z := o_neG (K := K) h1 (Pl.lst (n := 8) (ds := []) fun d h => by cases h)
  have e : PyData.eqv (Da.nd .lst ds).py (Da.nd .lst []).py = ds.isEmpty := by
    rw [Da.py, Da.py]
    cases ds <;> simp [Da.pys, PyData.eqv, PyData.eqvAll]
  rw [e] at z
  exact z
theorem pl_map {α : Type} {f : α → Da} {xs : List α} (h : ∀ x ∈ xs, Pl n (f x)) : Pl (n + 1) (.nd .lst (xs.map f)) := .lst fun d hd => by
  obtain ⟨x, hx, rfl⟩ := List.mem_map.mp hd
  exact h x hx
theorem pl_mapT {α : Type} {f : α → Da} {xs : List α} (h : ∀ x ∈ xs, Pl n (f x)) : Pl (n + 1) (.nd .tup (xs.map f)) := .tup fun d hd => by
  obtain ⟨x, hx, rfl⟩ := List.mem_map.mp hd
  exact h x hx
theorem cl_map {α : Type} {f : α → Da} {xs : List α} (h : ∀ x ∈ xs, Cl (f x)) : Cl (.nd .lst (xs.map f)) := .lst fun d hd => by
  obtain ⟨x, hx, rfl⟩ := List.mem_map.mp hd
  exact h x hx
theorem cl_mapT {α : Type} {f : α → Da} {xs : List α} (h : ∀ x ∈ xs, Cl (f x)) : Cl (.nd .tup (xs.map f)) := .tup fun d hd => by
  obtain ⟨x, hx, rfl⟩ := List.mem_map.mp hd
  exact h x hx
theorem mem1 {p : Da → Prop} (h : p d) : ∀ z ∈ [d], p z := fun z hz => by rw [List.mem_singleton.mp hz]; exact h
theorem memC {p : Da → Prop} (h : p d) (r : ∀ z ∈ ds, p z) : ∀ z ∈ d :: ds, p z := fun z hz => by
  rcases List.mem_cons.mp hz with e | hz
  · rw [e]; exact h
  · exact r z hz
theorem memN {p : Da → Prop} : ∀ z ∈ ([] : List Da), p z := fun z hz => by cases hz
theorem map_inj {α β : Type} {f : α → β} (hf : ∀ a b, f a = f b → a = b) : ∀ {xs ys : List α}, xs.map f = ys.map f → xs = ys
  | [], [], _ => rfl
  | a :: r, b :: s, h => by
    simp only [List.map_cons, List.cons.injEq] at h
    rw [hf a b h.1, map_inj hf h.2]
  | [], _ :: _, h => by simp at h
  | _ :: _, [], h => by simp at h
theorem ints_inj {xs ys : List Int} (h : dInts xs = dInts ys) : xs = ys := map_inj (fun a b e => by cases e; rfl) (Da.nd.inj h).2
theorem deq_ints {xs ys : List Int} : deq (dInts xs) (dInts ys) = decide (xs = ys) := deq_of ⟨ints_inj, fun e => e ▸ rfl⟩
/-! ## x in xs -/
/-- flat, and neither True nor False -/
def Fc (d : Da) : Prop := Cl d ∧ ∃ v, d.fl = some v
theorem Fc.int {i : Int} : Fc (.int i) := ⟨.int, _, rfl⟩
theorem Fc.str {z : Str} : Fc (.str z) := ⟨.str, _, rfl⟩
theorem Fc.non : Fc .non := ⟨.non, _, rfl⟩
theorem Fc.ky {k : Key} : Fc (kyD k) := by cases k <;> first | exact .int | exact .str
theorem Fc.pl (h : Fc d) (hs : ∀ z, d = .str z → PyData.strOk z = true) : Pl n d := by
  obtain ⟨c, v, h⟩ := h
  cases c with
  | non => exact .non
  | int => exact .int
  | str => exact .str (hs _ rfl)
  | lst _ => exact nomatch h
  | tup _ => exact nomatch h
theorem eqV_fc (h : Fc d) (g : Fc e) (q1 : Dq K H x d) (q2 : Dq K H y e) : L2.eqV x y = deq d e := by
  rw [← h.1.deq g.1]
  obtain ⟨c1, v, h1⟩ := h
  obtain ⟨c2, w, h2⟩ := g
  cases c1 with
  | lst _ => exact nomatch h1
  | tup _ => exact nomatch h1
  | non => cases q1; cases c2 with
    | lst _ => exact nomatch h2
    | tup _ => exact nomatch h2
    | non => cases q2; simp [L2.eqV, Da.py, PyData.eqv]
    | int => cases q2; simp [L2.eqV, Da.py, PyData.eqv]
    | str => cases q2; simp [L2.eqV, Da.py, PyData.eqv]
  | int => cases q1; cases c2 with
    | lst _ => exact nomatch h2
    | tup _ => exact nomatch h2
    | non => cases q2; simp [L2.eqV, Da.py, PyData.eqv]
    | int => cases q2; simp [L2.eqV, Da.py, PyData.eqv]
    | str => cases q2; simp [L2.eqV, Da.py, PyData.eqv]
  | str => cases q1; cases c2 with
    | lst _ => exact nomatch h2
    | tup _ => exact nomatch h2
    | non => cases q2; simp [L2.eqV, Da.py, PyData.eqv]
    | int => cases q2; simp [L2.eqV, Da.py, PyData.eqv]
    | str => cases q2; simp [L2.eqV, Da.py, PyData.eqv]
theorem Fc.flatV (h : Fc d) (q : Dq K H x d) : L2.flatV x = true := by
  obtain ⟨c, v, e⟩ := h
  cases c with
  | lst _ => exact nomatch e
  | tup _ => exact nomatch e
  | non => cases q; rfl
  | int => cases q; rfl
  | str => cases q; rfl
/-- is it among these -/
noncomputable def dmem (d : Da) (ds : List Da) : Bool := @decide (d ∈ ds) (Classical.propDecidable _)
theorem dmem_iff : dmem d ds = true ↔ d ∈ ds := ⟨fun h => by
  unfold dmem at h
  exact @of_decide_eq_true _ (Classical.propDecidable _) h, fun h => by
  unfold dmem
  exact @decide_eq_true _ (Classical.propDecidable _) h⟩
theorem dmem_of {p : Prop} [Decidable p] (h : d ∈ ds ↔ p) : dmem d ds = decide p := by
  by_cases hp : p
  · rw [decide_eq_true hp, dmem_iff.mpr (h.mpr hp)]
  · rw [decide_eq_false hp]
    cases z : dmem d ds with
    | false => rfl
    | true => exact absurd (h.mp (dmem_iff.mp z)) hp
theorem inV_fc (h : Fc d) (q1 : Dq K H x d) (f : DqAll K H vs ds) (g : ∀ e ∈ ds, Fc e) : L2.inV x vs = dmem d ds ∧ vs.all L2.flatV = true := by
  constructor
  · cases z : dmem d ds with
    | true =>
      obtain ⟨i, hi, e⟩ := List.getElem_of_mem (dmem_iff.mp z)
      obtain ⟨v, hv, q2⟩ := f.at (List.getElem?_eq_getElem hi)
      unfold L2.inV
      refine List.any_eq_true.mpr ⟨v, List.mem_of_getElem? hv, ?_⟩
      rw [eqV_fc (g _ (List.getElem_mem hi)) h q2 q1, e]
      exact deq_true rfl
    | false =>
      unfold L2.inV
      refine List.any_eq_false.mpr fun v hv q => ?_
      obtain ⟨i, hi, e⟩ := List.getElem_of_mem hv
      have hi2 : i < ds.length := by rw [← f.1]; exact hi
      have q2 := f.2 i v ds[i] (by rw [List.getElem?_eq_getElem hi, e]) (List.getElem?_eq_getElem hi2)
      rw [eqV_fc (g _ (List.getElem_mem hi2)) h q2 q1, deq_iff] at q
      have : dmem d ds = true := dmem_iff.mpr (q ▸ List.getElem_mem hi2)
      rw [this] at z
      cases z
  · refine List.all_eq_true.mpr fun v hv => ?_
    obtain ⟨i, hi, e⟩ := List.getElem_of_mem hv
    have hi2 : i < ds.length := by rw [← f.1]; exact hi
    exact (g _ (List.getElem_mem hi2)).flatV (f.2 i v ds[i] (by rw [List.getElem?_eq_getElem hi, e]) (List.getElem?_eq_getElem hi2))
theorem o_inL {k : NK} (hk : k = .lst ∨ k = .tup) (h : Fc d) (g : ∀ e ∈ ds, Fc e) : Op2 K (rInA K) d (.nd k ds) (.bl (dmem d ds)) := ⟨_, rfl, fun H vx vy Q q1 q2 q => by
  obtain ⟨a, vs, rfl, h1, h2⟩ := q2.inv
  obtain ⟨z1, z2⟩ := inV_fc h q1 h2 g
  rw [← z1] at q
  rcases hk with rfl | rfl
  · exact .inl ⟨a, vs, rfl, .inl (SqL.of h1.lst), h.flatV q1, z2, q⟩
  · exact .inl ⟨a, vs, rfl, .inr (SqT.of h1.tup), h.flatV q1, z2, q⟩⟩
theorem o_ninL {k : NK} (hk : k = .lst ∨ k = .tup) (h : Fc d) (g : ∀ e ∈ ds, Fc e) : Op2 K (rNinA K) d (.nd k ds) (.bl (!dmem d ds)) := ⟨_, rfl, fun H vx vy Q q1 q2 q => by
  obtain ⟨a, vs, rfl, h1, h2⟩ := q2.inv
  obtain ⟨z1, z2⟩ := inV_fc h q1 h2 g
  rw [← z1] at q
  rcases hk with rfl | rfl
  · exact .inl ⟨a, vs, rfl, .inl (SqL.of h1.lst), h.flatV q1, z2, q⟩
  · exact .inl ⟨a, vs, rfl, .inr (SqT.of h1.tup), h.flatV q1, z2, q⟩⟩
/-- .. of things made of others, one by one -/
theorem o_inM {α : Type} [DecidableEq α] {k : NK} {f : α → Da} {a : α} {xs : List α} (hk : k = .lst ∨ k = .tup) (hf : ∀ a b, f a = f b → a = b) (g : ∀ x, Fc (f x)) : Op2 K (rInA K) (f a) (.nd k (xs.map f)) (.bl (decide (a ∈ xs))) := by
  have z := o_inL (K := K) (d := f a) (ds := xs.map f) hk (g a) fun e he => by
    obtain ⟨x, _, rfl⟩ := List.mem_map.mp he
    exact g x
  rw [dmem_of (p := a ∈ xs) ⟨fun h => by
    obtain ⟨x, hx, e⟩ := List.mem_map.mp h
    exact hf _ _ e ▸ hx, fun h => List.mem_map.mpr ⟨a, h, rfl⟩⟩] at z
  exact z
theorem o_ninM {α : Type} [DecidableEq α] {k : NK} {f : α → Da} {a : α} {xs : List α} (hk : k = .lst ∨ k = .tup) (hf : ∀ a b, f a = f b → a = b) (g : ∀ x, Fc (f x)) : Op2 K (rNinA K) (f a) (.nd k (xs.map f)) (.bl (!decide (a ∈ xs))) := by
  have z := o_ninL (K := K) (d := f a) (ds := xs.map f) hk (g a) fun e he => by
    obtain ⟨x, _, rfl⟩ := List.mem_map.mp he
    exact g x
  rw [dmem_of (p := a ∈ xs) ⟨fun h => by
    obtain ⟨x, hx, e⟩ := List.mem_map.mp h
    exact hf _ _ e ▸ hx, fun h => List.mem_map.mpr ⟨a, h, rfl⟩⟩] at z
  exact z
theorem int_inj (a b : Int) (h : Da.int a = Da.int b) : a = b := by cases h; rfl
theorem nat_inj (a b : Nat) (h : Da.int (a : Int) = Da.int (b : Int)) : a = b := by
  have := int_inj _ _ h
  omega
theorem o_inI {k : NK} {i : Int} {xs : List Int} (hk : k = .lst ∨ k = .tup) : Op2 K (rInA K) (.int i) (.nd k (xs.map Da.int)) (.bl (decide (i ∈ xs))) := o_inM hk int_inj fun _ => Fc.int
theorem o_ninI {k : NK} {i : Int} {xs : List Int} (hk : k = .lst ∨ k = .tup) : Op2 K (rNinA K) (.int i) (.nd k (xs.map Da.int)) (.bl (!decide (i ∈ xs))) := o_ninM hk int_inj fun _ => Fc.int
theorem o_inS {c : Nat} {b : Str} : Op2 K (rInA K) (.str ⟨#[c]⟩) (.str b) (.bl (decide (c ∈ b.cps.toList))) := ⟨_, rfl, fun H vx vy Q q1 q2 q => by
  cases q1
  cases q2
  exact .inr (.inr ⟨c, b, rfl, rfl, q⟩)⟩
theorem o_ninS {c : Nat} {b : Str} : Op2 K (rNinA K) (.str ⟨#[c]⟩) (.str b) (.bl (!decide (c ∈ b.cps.toList))) := ⟨_, rfl, fun H vx vy Q q1 q2 q => by
  cases q1
  cases q2
  exact .inr (.inr ⟨c, b, rfl, rfl, q⟩)⟩
/-! dicts -/
instance decKey (k : Key) (ks : List Key) : Decidable (k ∈ ks) := @List.instDecidableMemOfLawfulBEq Key instBEqOfDecidableEq inferInstance k ks
theorem val_some {k : Key} : ∀ {ks : List Key} {vs : List V}, ks.length = vs.length → (valV (ks.zip vs) k).isSome = decide (k ∈ ks)
  | [], _, _ => by simp [valV]
  | k0 :: kr, [], h => by simp at h
  | k0 :: kr, v :: vr, h => by
    have ih := val_some (k := k) (ks := kr) (vs := vr) (by simpa using h)
    unfold valV at *
    simp only [List.zip_cons_cons, List.find?_cons]
    by_cases e : k0 = k
    · rw [decide_eq_true e]
      simp [e]
    · rw [decide_eq_false e]
      simp only [ih]
      by_cases e2 : k ∈ kr
      · simp [e2]
      · simp [e2, Ne.symm e]
theorem o_inK {k : NK} {ks : List Key} {kk : Key} (hk : k = .dct ks ∨ k = .dcl ks) : Op2 K (rInA K) (kyD kk) (.nd k ds) (.bl (decide (kk ∈ ks))) := ⟨_, rfl, fun H vx vy Q q1 q2 q => by
  obtain ⟨a, vs, rfl, h1, h2⟩ := q2.inv
  obtain ⟨g1, g2⟩ := Stands.dctR hk h1
  rw [q1.flat (kyD_fl kk)]
  exact .inr (.inl ⟨a, _, rfl, dget_of g1, by rw [val_some g2]; exact q⟩)⟩
theorem o_ninK {k : NK} {ks : List Key} {kk : Key} (hk : k = .dct ks ∨ k = .dcl ks) : Op2 K (rNinA K) (kyD kk) (.nd k ds) (.bl (!decide (kk ∈ ks))) := ⟨_, rfl, fun H vx vy Q q1 q2 q => by
  obtain ⟨a, vs, rfl, h1, h2⟩ := q2.inv
  obtain ⟨g1, g2⟩ := Stands.dctR hk h1
  rw [q1.flat (kyD_fl kk)]
  exact .inr (.inl ⟨a, _, rfl, dget_of g1, by rw [val_some g2]; exact q⟩)⟩
theorem o_inKI {k : NK} {ks : List Key} {i : Int} (hk : k = .dct ks ∨ k = .dcl ks) : Op2 K (rInA K) (.int i) (.nd k ds) (.bl (decide (Sum.inl i ∈ ks))) := o_inK (kk := .inl i) hk
theorem o_ninKI {k : NK} {ks : List Key} {i : Int} (hk : k = .dct ks ∨ k = .dcl ks) : Op2 K (rNinA K) (.int i) (.nd k ds) (.bl (!decide (Sum.inl i ∈ ks))) := o_ninK (kk := .inl i) hk
end
/-- keys and values behind d[k] = v -/
def putKs (ks : List Key) (k : Key) : List Key := if k ∈ ks then ks else ks ++ [k]
def putVs {α : Type} (ks : List Key) (vs : List α) (k : Key) (v : α) : List α := if k ∈ ks then (ks.zip vs).map (fun kv => if kv.1 = k then v else kv.2) else vs ++ [v]
theorem putK_zip {ks : List Key} {vs : List V} (l : ks.length = vs.length) (k : Key) (v : V) : putK (ks.zip vs) k v = (putKs ks k).zip (putVs ks vs k v) ∧ (putKs ks k).length = (putVs ks vs k v).length := by
  unfold putK putKs putVs
  rw [valV_any, val_some l]
  by_cases h : k ∈ ks
  · rw [if_pos (decide_eq_true h), if_pos h, if_pos h]
    refine ⟨?_, by simp [l]⟩
    clear h
    induction ks generalizing vs with
    | nil => rfl
    | cons a r ih =>
      cases vs with
      | nil => simp at l
      | cons w s =>
        simp only [List.zip_cons_cons, List.map_cons]
        rw [ih (by simpa using l)]
        by_cases e : a = k <;> simp [e]
  · rw [if_neg (by simpa using h), if_neg h, if_neg h]
    refine ⟨?_, by simp [l]⟩
    rw [List.zip_append l]
    rfl
section
variable {B : Bs} {ρ : Rho} {te to ti : TE} {d : Da} {ds : List Da} {ks : List Key} {i : Nat} {p : List Nat} {T : Tr} {kk : Key} {D : Ends} {s : TS} {K : PySem.W.Frag} {H : Hp} {vs : List V} {v : V}
theorem DqAll.put (f : DqAll K H vs ds) (l : ks.length = vs.length) (q : Dq K H v d) : DqAll K H (putVs ks vs kk v) (putVs ks ds kk d) := by
  unfold putVs
  split
  · refine ⟨by simp [f.1], fun j w e h1 h2 => ?_⟩
    rw [List.getElem?_map] at h1 h2
    obtain ⟨a, ha, rfl⟩ := Option.map_eq_some_iff.mp h1
    obtain ⟨b, hb, rfl⟩ := Option.map_eq_some_iff.mp h2
    rw [List.getElem?_zip_eq_some] at ha hb
    have e1 : a.1 = b.1 := by
      have := ha.1.symm.trans hb.1
      exact Option.some.inj this
    rw [e1]
    split
    · exact q
    · exact f.2 j _ _ ha.2 hb.2
  · exact f.append (DqAll.cons q DqAll.nil)
/-- d[k] = v -/
theorem q_mput (he : Es B te ρ d) (hl : Loc B to ρ i p) (hi : Eb B ti ρ (kyD kk)) (hT : ρ[i]? = some (some T)) (hat : T.at p = some (.nd (.dct ks) (ds.map Tr.sh))) (hz : ks.length < sizeLine)
    (k : Gd B s D (ρ.set i (some (T.put (.nd (.dct (putKs ks kk)) ((putVs ks ds kk d).map Tr.sh)) p)))) :
    Gd B (tSeq (tAsg te (gSub to ti rSetA)) s) D ρ := fun S H σ cs st => he S H σ cs st _ fun z c S1 H1 s1 f1 => by
  have st1 := st.grow s1
  obtain ⟨x0, _, _, hx, _⟩ := st1.at_ hT hat
  refine hl S1 H1 σ cs x0 st1 hx _ fun y S2 H2 s2 va => hi S2 H2 σ cs (st1.grow s2) _ fun x3 S3 H3 s3 f3 => ?_
  have st3 := st1.grow (s2.trans s3)
  obtain ⟨x0', a, vs, A, hx', va', o1, dq, g⟩ := st3.root hT hat
  rw [hx] at hx'
  cases hx'
  cases (va.same s3.h).uniq va'
  obtain ⟨rfl, l, ho⟩ := o1
  have l : ks.length = vs.length := l
  have ho : H3 a = some (.dK (ks.zip vs)) := ho
  rw [f3.flat (kyD_fl kk)]
  obtain ⟨z1, z2⟩ := putK_zip l kk z
  refine .inr ⟨a, _, rfl, DPut.k ho (by rw [List.length_zip, ← l, Nat.min_self]; exact hz), ?_⟩
  rw [z1]
  obtain ⟨cs4, st4⟩ := g (.dct (putKs ks kk)) (putVs ks vs kk z) (putVs ks ds kk d) (upd H3 a (.dK ((putKs ks kk).zip (putVs ks vs kk z)))) (fun b hb => upd_ne hb) ⟨rfl, z2, upd_same⟩ (dq.put l (f1.dq.same (s2.trans s3).s))
  exact k S3 _ σ cs4 st4
theorem q_put (he : Es B te ρ d) (hi : Eb B ti ρ (kyD kk)) (hT : ρ[i]? = some (some (.nd (.dct ks) (ds.map Tr.sh)))) (hz : ks.length < sizeLine) (k : Gd B s D (ρ.set i (some (.nd (.dct (putKs ks kk)) ((putVs ks ds kk d).map Tr.sh))))) :
    Gd B (tSeq (tAsg te (gSub (tVar i) ti rSetA)) s) D ρ := q_mput he loc_var hi hT rfl hz k
end
end Ly

namespace Ly
open PySem L2 Lo
/-! ## bodies of defs -/
section
variable {P : Program} {w : World} {K : PySem.W.Frag} {mg : Str → Option Value} {base : Heap} {N : List Str} {qual : Str} {scope : Scope} {f : Addr} {cd : Value} {A : Around} {outer : List Env} {s : Shared} {H : Hp} {E : XK}
theorem takesE : Takes (cxOf (L2.CX P w) P w K mg base N qual scope f cd A outer s H E) (fun cls d _ H => E cls d H) := takes_of rfl rfl rfl rfl
theorem passE : Passes (L2.CX P w) (cxOf (L2.CX P w) P w K mg base N qual scope f cd A outer s H E) E := passes_call takesE fun _ _ _ _ h => h
end
section
variable {B : Bs} {S H S' H' : Hp} {ρ ρ' : Rho} {te : TE} {t u : Tr} {d : Da} {ds : List Da} {vs : List V} {n : Nat} {K : PySem.W.Frag} {D : Ends} {s u1 u2 : TS} {tt : TT} {b : Bool} {S0 E0 S1 : Hp} {Q : VK} {E : XK} {N : List Str} {i j : Nat}
theorem body_gd {t : TS} (h : DqAll K S vs ds) (e : Same S H) (hn : N.length = ds.length + n) (g : Gd ⟨K, S, H⟩ t D (ds.map (fun d => some (Tr.sh d)) ++ List.replicate n none)) : t D (L2.start N vs) H := by
  have st := sit_start (n := n) h e
  have hz : L2.start N vs = vs.map some ++ List.replicate n none := by
    unfold L2.start
    rw [hn, h.1, Nat.add_sub_cancel_left]
  rw [hz]
  exact g S H _ _ st
theorem spd_len {R : Rel} {H : Hp} {m : Nat} (hR : ∀ ds o, R ds o → ds.length = m) (h : SpD K R vs H Q E) : vs.length = m := by
  obtain ⟨ds, o, S, r, hd, _, _⟩ := h
  rw [hd.1]
  exact hR ds o r
theorem s_if (h : Et B tt ρ b) (h1 : b = true → Gd B u1 D ρ) (h2 : b = false → Gd B u2 D ρ) : Gd B (tIfS tt u1 u2) D ρ := fun S H σ cs st => h S H σ cs st _ fun S1 H1 s1 => by
  cases b with
  | true => exact h1 rfl S1 H1 σ cs (st.grow s1)
  | false => exact h2 rfl S1 H1 σ cs (st.grow s1)
theorem ret_up (l : Lb ⟨K, S0, E0⟩ S1) (q : RetOk ⟨K, S0, E0⟩ Q t) : RetOk ⟨K, S1, E0⟩ Q t := q.up l
theorem s_retE (h : Eo B te ρ t) (e : t = u) (q : RetOk B D.rt u) : Gd B (tRet te) D ρ := s_ret h (e ▸ q)
theorem s_retS {d' : Da} (q : RetOk B D.rt (.sh d)) (h : Es B te ρ d') (e : d' = d) : Gd B (tRet te) D ρ := s_ret h (e ▸ q)
theorem s_retL {k : NK} {ds ds' : List Da} (q : RetOk B D.rt (.nd k (ds.map Tr.sh))) (h : Eo B te ρ (.nd k (ds'.map Tr.sh))) (e : ds' = ds) : Gd B (tRet te) D ρ := s_ret h (e ▸ q)
theorem s_retO {k : NK} {ts : List Tr} (q : RetOk B D.rt (.nd k ts)) (h : Eo B te ρ t) (e : t = .nd k ts) : Gd B (tRet te) D ρ := s_ret h (e ▸ q)
theorem s_retF (h : Eo B te ρ t) (e : t.flat = d) (q : RetOk B D.rt (.sh d)) : Gd B (tRet te) D ρ := s_ret h (q.freeze e)
theorem s_retJ (h : ρ[i]? = some (some t)) (e : t = u) (q : RetOk B D.rt u) : Gd B (tRet (tVar i)) D ρ := s_retI h (e ▸ q)
theorem s_retN (q : RetOk B D.rt (.sh .non)) : Gd B tRetN D ρ := fun S H σ cs st => q .non [] S H st.hp.s0 st.hp.e0 st.same st.hp.nw (.sh .non) List.nodup_nil fun a ha => by cases ha
theorem g_dead (h : False) : Gd B tDead D ρ := h.elim
/-- what falls out at the end gives None -/
theorem en_ret {B : Bs} {ρ : Rho} {Q : VK} (q : RetOk B Q (.sh .non)) : En B (fun _ H' => Q .non H') ρ := fun S H σ cs st => q .non [] S H st.hp.s0 st.hp.e0 st.same st.hp.nw (.sh .non) List.nodup_nil fun a ha => by cases ha
/-! what is raised -/
def Xk (B : Bs) (E : XK) (C : Str) (a : Option V) : Prop := XOk B.K B.E0 E C a
theorem OutQ.exc {C : Str} {a : Option V} (h : OutQ K S H Q E (.exc C a)) : Xk ⟨K, S, H⟩ E C a := h
theorem xk_at {C : Str} {a : Option V} {σ : L2.St} {cs : List (List Addr)} (st : Sit B S H σ ρ cs) (x : Xk B E C a) : XOk B.K H E C a := XOk.later st.hp.e0 x
theorem x_asg {C : Str} {a : Option V} {g : TG} (h : Ex B te ρ E C a) (x : Xk B E C a) : Gd B (tSeq (tAsg te g) s) D ρ := fun S H σ cs st => h S H σ cs st _ (xk_at st x)
theorem x_asg1 {C : Str} {a : Option V} {g : TG} (h : Ex B te ρ E C a) (x : Xk B E C a) : Gd B (tAsg te g) D ρ := fun S H σ cs st => h S H σ cs st _ (xk_at st x)
theorem x_drop {C : Str} {a : Option V} (h : Ex B te ρ E C a) (x : Xk B E C a) : Gd B (tSeq (tDrop te) s) D ρ := fun S H σ cs st => h S H σ cs st _ (xk_at st x)
theorem x_drop1 {C : Str} {a : Option V} (h : Ex B te ρ E C a) (x : Xk B E C a) : Gd B (tDrop te) D ρ := fun S H σ cs st => h S H σ cs st _ (xk_at st x)
theorem x_ret {C : Str} {a : Option V} (h : Ex B te ρ E C a) (x : Xk B E C a) : Gd B (tRet te) D ρ := fun S H σ cs st => h S H σ cs st _ (xk_at st x)
/-- in a call's argument, an operand .. that is reached first -/
theorem ex_arg {sp : Sp} {dv : List V} {E' : XK} {ts : TA} {C : Str} {a : Option V} (h : Ex B te ρ E C a) : Ex B (tCall sp dv E' (tCons te ts)) ρ E C a := fun S H σ cs st Q x => h S H σ cs st _ x
theorem ex_cb {r : List V → Hp → VK → Prop} {ts : TA} {C : Str} {a : Option V} (h : Ex B te ρ E C a) : Ex B (tCB r (tCons te ts)) ρ E C a := fun S H σ cs st Q x => h S H σ cs st _ x
theorem ex_op {r : R2} {tb : TE} {C : Str} {a : Option V} (h : Ex B te ρ E C a) : Ex B (tOp r te tb) ρ E C a := fun S H σ cs st Q x => h S H σ cs st _ x
theorem ex_op2 {r : R2} {ta : TE} {C : Str} {a : Option V} (ha : Eb B ta ρ d) (h : Ex B te ρ E C a) : Ex B (tOp r ta te) ρ E C a := fun S H σ cs st Q x => ha S H σ cs st _ fun y S1 H1 s1 _ => h S1 H1 σ cs (st.grow s1) _ (x.later s1.h)
theorem xt_test {C : Str} {a : Option V} (h : Ex B te ρ E C a) (x : Xk B E C a) : Gd B (tSeq (tIfS (tTest te) u1 u2) s) D ρ := fun S H σ cs st => h S H σ cs st _ (xk_at st x)
theorem xt_not {C : Str} {a : Option V} (h : Ex B te ρ E C a) (x : Xk B E C a) : Gd B (tSeq (tIfS (tNot (tTest te)) u1 u2) s) D ρ := fun S H σ cs st => h S H σ cs st _ (xk_at st x)
/-! isinstance: the table -/
def Is (x : Da) (U : String) (b : Bool) : Prop := ∃ T, tyD x = some T ∧ kitB T U = some b
theorem is_II {i : Int} : Is (.int i) "int" true := ⟨"int", rfl, by decide +kernel⟩
theorem is_IB {i : Int} : Is (.int i) "bool" false := ⟨"int", rfl, by decide +kernel⟩
theorem is_IS {i : Int} : Is (.int i) "str" false := ⟨"int", rfl, by decide +kernel⟩
theorem is_IL {i : Int} : Is (.int i) "list" false := ⟨"int", rfl, by decide +kernel⟩
theorem is_IT {i : Int} : Is (.int i) "tuple" false := ⟨"int", rfl, by decide +kernel⟩
theorem is_BI {c : Bool} : Is (.bl c) "int" true := ⟨"bool", rfl, by decide +kernel⟩
theorem is_BB {c : Bool} : Is (.bl c) "bool" true := ⟨"bool", rfl, by decide +kernel⟩
theorem is_BS {c : Bool} : Is (.bl c) "str" false := ⟨"bool", rfl, by decide +kernel⟩
theorem is_BL {c : Bool} : Is (.bl c) "list" false := ⟨"bool", rfl, by decide +kernel⟩
theorem is_BT {c : Bool} : Is (.bl c) "tuple" false := ⟨"bool", rfl, by decide +kernel⟩
theorem is_SI {z : Str} : Is (.str z) "int" false := ⟨"str", rfl, by decide +kernel⟩
theorem is_SB {z : Str} : Is (.str z) "bool" false := ⟨"str", rfl, by decide +kernel⟩
theorem is_SS {z : Str} : Is (.str z) "str" true := ⟨"str", rfl, by decide +kernel⟩
theorem is_SL {z : Str} : Is (.str z) "list" false := ⟨"str", rfl, by decide +kernel⟩
theorem is_ST {z : Str} : Is (.str z) "tuple" false := ⟨"str", rfl, by decide +kernel⟩
theorem is_NI  : Is (.non) "int" false := ⟨"NoneType", rfl, by decide +kernel⟩
theorem is_NB  : Is (.non) "bool" false := ⟨"NoneType", rfl, by decide +kernel⟩
theorem is_NS  : Is (.non) "str" false := ⟨"NoneType", rfl, by decide +kernel⟩
theorem is_NL  : Is (.non) "list" false := ⟨"NoneType", rfl, by decide +kernel⟩
theorem is_NT  : Is (.non) "tuple" false := ⟨"NoneType", rfl, by decide +kernel⟩
theorem is_LI {ds : List Da} : Is (.nd .lst ds) "int" false := ⟨"list", rfl, by decide +kernel⟩
theorem is_LB {ds : List Da} : Is (.nd .lst ds) "bool" false := ⟨"list", rfl, by decide +kernel⟩
theorem is_LS {ds : List Da} : Is (.nd .lst ds) "str" false := ⟨"list", rfl, by decide +kernel⟩
theorem is_LL {ds : List Da} : Is (.nd .lst ds) "list" true := ⟨"list", rfl, by decide +kernel⟩
theorem is_LT {ds : List Da} : Is (.nd .lst ds) "tuple" false := ⟨"list", rfl, by decide +kernel⟩
theorem is_TI {ds : List Da} : Is (.nd .tup ds) "int" false := ⟨"tuple", rfl, by decide +kernel⟩
theorem is_TB {ds : List Da} : Is (.nd .tup ds) "bool" false := ⟨"tuple", rfl, by decide +kernel⟩
theorem is_TS {ds : List Da} : Is (.nd .tup ds) "str" false := ⟨"tuple", rfl, by decide +kernel⟩
theorem is_TL {ds : List Da} : Is (.nd .tup ds) "list" false := ⟨"tuple", rfl, by decide +kernel⟩
theorem is_TT {ds : List Da} : Is (.nd .tup ds) "tuple" true := ⟨"tuple", rfl, by decide +kernel⟩
theorem is_DI {ks : List Key} {ds : List Da} : Is (.nd (.dct ks) ds) "int" false := ⟨"dict", rfl, by decide +kernel⟩
theorem is_DB {ks : List Key} {ds : List Da} : Is (.nd (.dct ks) ds) "bool" false := ⟨"dict", rfl, by decide +kernel⟩
theorem is_DS {ks : List Key} {ds : List Da} : Is (.nd (.dct ks) ds) "str" false := ⟨"dict", rfl, by decide +kernel⟩
theorem is_DL {ks : List Key} {ds : List Da} : Is (.nd (.dct ks) ds) "list" false := ⟨"dict", rfl, by decide +kernel⟩
theorem is_DT {ks : List Key} {ds : List Da} : Is (.nd (.dct ks) ds) "tuple" false := ⟨"dict", rfl, by decide +kernel⟩
theorem eb_is_ {x : Da} {U : String} {b : Bool} (h : Eb B te ρ x) (e : Is x U b) : Eb B (tCB (rIsi B.K) (tCons te (tCons (tC (.ty U)) tNil))) ρ (.bl b) := by
  obtain ⟨T, e1, e2⟩ := e
  exact eb_isi h e1 e2
/-! the law itself -/
theorem spd_law {R : Rel} {a : Addr} {ns : List Int} {H : Hp} (r : R [.nd .rd (ns.map Da.int)] (.ret (.sh (.bl true)))) (h : SqL K H a (ns.map V.int)) : SpD K R [.ref a] H (fun v _ => v = .bl true) (fun _ _ _ => False) :=
  ⟨_, _, H, r, DqAll.cons (Dq.nd' (k := .rd) h (DqAll.of_map fun _ => rfl)) DqAll.nil, Same.refl H, fun x c S' H' _ f => f.dq.flat rfl⟩
/-! sorted(xs), len(set(xs)) of ints -/
def sortI (xs : List Int) : List Int := xs.mergeSort (fun a b => decide (a ≤ b))
theorem sortI_uniq {xs ys : List Int} (h1 : ys.Perm xs) (h2 : ys.Pairwise (· ≤ ·)) : ys = sortI xs := by
  have p : (sortI xs).Perm xs := List.mergeSort_perm _ _
  have s : (sortI xs).Pairwise (· ≤ ·) := by
    have z := List.pairwise_mergeSort (le := fun a b : Int => decide (a ≤ b)) (fun a b c h1 h2 => by simp at *; omega) (fun a b => by simp; omega) xs
    exact z.imp fun h => by simpa using h
  exact List.Perm.eq_of_pairwise (fun a b _ _ h1 h2 => Int.le_antisymm h1 h2) h2 s (h1.trans p.symm)
theorem eo_sorted {xs : List Int} (h : Eb B te ρ (dInts xs)) : Eo B (tCB (rSortedI B.K) (tCons te tNil)) ρ (ol ((sortI xs).map Da.int)) := fun S H σ cs st Q q => h S H σ cs st _ fun x S1 H1 s1 f1 => by
  obtain ⟨a, vs, rfl, g1, g2⟩ := f1.inv
  cases g2.ints_inv
  refine ⟨a, xs, rfl, SqL.of g1.lst, fun ys p h1 h2 hp => ?_⟩
  rw [sortI_uniq h1 h2]
  obtain ⟨s4, f4⟩ := fr_new (K := B.K) (k := .lst) (ds := (sortI xs).map Da.int) (.inl rfl) hp s1.sh (DqAll.of_map fun _ => rfl) True.intro
  exact q _ [p] _ _ (s1.trans s4) (f4.prior s1.h)
theorem eb_lenSet {xs : List Int} (h : Eb B te ρ (dInts xs)) (nd : xs.Nodup) (hl : xs.length ≤ 4000) : Eb B (RZ.tLenSetI B.K te) ρ (.int (xs.length : Nat)) := fun S H σ cs st Q q => h S H σ cs st _ fun x S1 H1 s1 f1 => by
  obtain ⟨a, vs, rfl, g1, g2⟩ := f1.inv
  cases g2.ints_inv
  exact ⟨a, xs, rfl, SqL.of g1.lst, nd, hl, q _ S1 H1 s1 (.int _)⟩
/-! list(range(n)) -/
theorem rgV0 (n : Int) : rgV 0 n = ((List.range n.toNat).map fun (k : Nat) => V.int (k : Int)) := by
  unfold rgV
  rw [Int.sub_zero]
  exact List.map_congr_left fun i _ => by rw [Int.zero_add]
theorem eo_lstRg {n : Int} (h : Eb B te ρ (.int n)) (h0 : 0 ≤ n) (h1 : n ≤ 4000000) : Eo B (tLstRg (tRg1 te)) ρ (ol ((List.range n.toNat).map fun (k : Nat) => Da.int (k : Int))) := fun S H σ cs st Q q => h S H σ cs st _ fun x S1 H1 s1 f1 => by
  cases f1
  refine ⟨n, rfl, RgOk.of_le (by omega) (by omega) (by omega) h0, fun p hp => ?_⟩
  rw [rgV0]
  obtain ⟨s4, f4⟩ := fr_new (K := B.K) (k := .lst) (vs := (List.range n.toNat).map fun (k : Nat) => V.int (k : Int)) (ds := (List.range n.toNat).map fun (k : Nat) => Da.int (k : Int)) (.inl rfl) hp s1.sh (DqAll.of_map fun _ => rfl) True.intro
  exact q _ [p] _ _ (s1.trans s4) (f4.prior s1.h)
end
end Ly

/-! ## exceptions: isinstance of what is handled, defs that are called with it -/
namespace Ly
section
open PySem PySem.Spec PySem.Calls PyProof.Rows PySem.W
variable {K : Frag} {D x : Addr} {ox : Obj}
theorem cls_found (od : Option Obj) {c : Value} {g : Value} {nm : Str} (h0 : hasDictIn K D = true) (h1 : findIn K (.ref D) nm = some (some c)) (h2 : specialIn K c "__get__" = some (some g)) (h3 : takesIn K c = some true) : findObj K D od nm = some (.bind g c) := by
  have hc : ∃ cd, clsIn K D = some cd := by
    obtain ⟨cd, e, _⟩ := any_some h0
    exact ⟨cd, e⟩
  obtain ⟨cd, hc⟩ := hc
  simp only [findObj, hc, h1, h2, h3, Option.bind_some]
theorem exc_cls {prog : Program} {w : World} {A : Around} {E : Value → Shared → Prop} {s : Shared} {Q : Option Value → Shared → Prop} {od : Option Obj} (C : L2.ExcC K D) (kin : K.In s.heap) (I : InstAt s.heap x ox D od) (q : Q (some (.ref D)) { s with toks := s.toks + 1 }) :
    wpAny (model prog w) A (getAttr? (.ref x) "__class__") Q E s := by
  have ff : findObj K D od "__class__" = some (.bind (.builtin "getset_descriptor.__get__") (.builtin "object.__class__")) := cls_found od C.hd C.ha C.hn C.ht
  obtain ⟨hh, gg, dd, tt, oo⟩ := s
  have k0 := I.type (M := model prog w)
  have k1 := looks_findIn (M := model prog w) kin C.hg
  have k2 := looks_findIn (M := model prog w) kin C.hk
  have k3 := looks_find (M := model prog w) kin I ff
  have isB : Looks (model prog w) hh (isInstance (.ref x) (.type "BaseException")) true := k0.andThen (looks_subIn kin C.hs)
  have z0 : (false && onTheHeap (Value.builtin "BaseException.__getattribute__")) = false := rfl
  have z1 : (Value.builtin "BaseException.__getattribute__" == Value.builtin "object.__getattribute__") = false := by decide +kernel
  have z2 : (onTheHeap (Value.ref D) && Value.builtin "BaseException.__getattribute__" == Value.builtin "object.__getattribute__") = false := by rw [z1] <;> rfl
  unfold getAttr? getAttrBy? getAttrBy
  apply wpAny_bind; apply wpAny_mkText; apply wpAny_bind; apply wpAny_attempt; apply wpAny_holding; apply wpAny_bind; apply k0.at; apply wpAny_bind; apply k1.at
  show wpAny _ _ (if (onTheHeap (Value.ref D) && Value.builtin "BaseException.__getattribute__" == Value.builtin "object.__getattribute__") = true then _ else _) _ _ _
  rw [z2, if_neg Bool.false_ne_true]
  unfold getAttrByItsOwn hookBefore
  apply wpAny_bind
  rw [if_pos (show onTheHeap (Value.ref D) = true from rfl)]
  apply k2.at
  apply wpAny_bind; apply wpAny_attempt; apply wpAny_holding
  unfold callGetattribute
  rw [z0, if_neg Bool.false_ne_true]
  unfold boundAndCalled
  rw [PySem.F.excAttr_ValueError.ga.bind (.ref x)]
  apply wpAny_bind; apply wpAny_pure
  show wpAny _ _ (call (.builtin "BaseException.__getattribute__") [.ref x, .str "__class__" tt]) _ _ _
  apply wpAny_call
  refine codeAny_call_builtin PySem.F.excAttr_ValueError.ga.plain PySem.F.entry_bexc_ga (@check_slot (model prog w) _ _ ⟨hh, gg, dd, tt + 1, oo⟩ "BaseException.__getattribute__" "BaseException" "__getattribute__" (.ref x) [.str "__class__" tt] [] _ (by decide +kernel) (by decide +kernel) isB (PySem.F.args_bexc_ga (.ref x) (.str "__class__" tt)) ?_)
  unfold Builtin.«object.__getattribute__»
  refine wpAny_bind (wpAny_of_eq (a := ((Value.ref x : Value), [Value.str "__class__" tt])) (by first | rfl | (simp only [slotArgs]; rfl)) ?_)
  apply wpAny_bind; apply wpAny_pure; apply wpAny_bind; apply k0.at; apply wpAny_bind; apply k3.at
  show wpAny _ _ (holding [Value.builtin "object.__class__"] (call (.builtin "getset_descriptor.__get__") [.builtin "object.__class__", .ref x, .ref D]) >>= ret) _ _ _
  refine wpAny_bind (wpAny_holding (wpAny_call (class_get (s := ⟨hh, gg, dd, tt + 1, oo⟩) (ox := ox) (od := od) kin I C.hm ?_)))
  apply wpAny_pure
  show wpAny _ _ (handedOut (.ref D)) _ _ _
  rw [handedOut_of (v := .ref D) rfl]
  first
    | exact wpAny_pure (wpAny_pure q)
    | exact wpAny_pure q
    | exact wpAny_pure (wpAny_bind (wpAny_pure (wpAny_pure q)))
theorem exc_kit (C : L2.ExcC K D) : KitX K (.ref x) (.ref D) (fun h => ∃ od, InstAt h x ox D od) := by
  have ho : ∃ c d cd sl, K.lookup D = some ⟨c, d, .cls cd, sl⟩ := by
    obtain ⟨cd, hc, _⟩ := any_some C.hd
    unfold clsIn at hc
    split at hc
    · rename_i a b cd' sl hl
      exact ⟨a, b, cd', sl, hl⟩
    · cases hc
  obtain ⟨c0, d0, cd0, sl0, hl⟩ := ho
  refine ⟨fun _ _ _ ⟨_, I⟩ => I.type, fun M h kin _ => ?_, fun h tp dd its n sl kin htp => ?_, fun kin ⟨_, I⟩ k => exc_cls C kin I k⟩
  · intro A' Q' E' s' kp q
    unfold isType loadHead
    exact wpAny_bind (wpAny_loadPart (kp _ _ (kin _ _ hl)) (wpAny_pure q))
  · cases e : (Value.ref D == Value.ref tp) with
    | false => rfl
    | true =>
      have e2 : D = tp := Value.ref.inj (beq_iff_eq.mp e)
      rw [← e2, kin _ _ hl] at htp
      cases htp
end
end Ly
namespace Ly
open PySem L2 Lo
section
open PySem.Spec PyProof.Rows
/-- the exception that is handled -/
def HotY (A : Around) (p : Addr × Obj) : Prop := A.handled = some (.ref p.1) ∧ ∃ vs : Array Value, p.2.data = .fields vs
/-- isinstance(e, c), isinstance(e, (c1, ..)) -/
def rIsX (K : PySem.W.Frag) (D a : Addr) (d : Option Addr) : List V → Hp → VK → Prop := fun xs H Q => (∃ fs, ExD H d fs) ∧ ∃ c b, xs = [.ref a, c] ∧ Q (.bl b) H ∧
  ((∃ u, ClsV c u ∧ PySem.W.kitOne K (.ref D) u = some b) ∨ ∃ tp cs us, c = .ref tp ∧ H tp = some (.tup cs) ∧ Paired ClsV cs us ∧ PySem.W.kitAny K (.ref D) us = some b)
theorem call_isX {X : Cx} {a D : Addr} {oe : Obj} {d : Option Addr} (C : ExcC X.K D) (hp : (a, oe) ∈ X.pn) (hz : Zc (.ref D) d oe) (hf : ∃ vs, oe.data = .fields vs) : CallR X (.builtin "isinstance") (rIsX X.K D a d) := by
  intro pins s σ H xs us Q I r h
  obtain ⟨⟨fs, hx⟩, c, b, rfl, q, h⟩ := h
  obtain ⟨u1, u2, rfl, r1, r2⟩ := vals2 r
  cases r1
  have ha := (I.pin (a, oe) (List.mem_append.mpr (.inl hp))).1
  obtain ⟨vs, hv⟩ := hf
  have J : ∃ od, PySem.W.InstAt s.heap a oe D od := by
    rcases hx with ⟨hd, _⟩ | ⟨dd, hd, hH⟩
    · refine ⟨none, ha, hz.1, by unfold PySem.W.notCls; rw [hv] <;> rfl, ?_⟩
      rw [hz.2, hd]
      trivial
    · obtain ⟨mA, hns, _⟩ := (show ObjOk X.prog X.w H s.heap dd (.xd fs) from I.hok dd _ hH)
      obtain ⟨od, ho, _⟩ := lookIn_ns hns
      refine ⟨some od, ha, hz.1, by unfold PySem.W.notCls; rw [hv] <;> rfl, ?_⟩
      rw [hz.2, hd]
      exact ho
  rcases h with ⟨u, k, e⟩ | ⟨tp, cs, ws, rfl, hT, k, e⟩
  · have e2 := k.eq r2
    subst e2
    exact PySem.W.kia_one (exc_kit C) I.kIn J e (fun z => nomatch z) fun tk => ⟨.bl b, H, I.tok tk, rfl, q⟩
  · cases (show u2 = Value.ref tp from r2)
    obtain ⟨_, its, rv, o, h1, h2, n, h3⟩ := (show ObjOk X.prog X.w H s.heap tp (.tup cs) from I.hok tp _ hT)
    have e3 := ClsV.all k rv
    subst e3
    obtain ⟨oc, od, dt, sl⟩ := o
    simp only at h2 h3
    subst h2 h3
    exact PySem.W.kia_tup (exc_kit C) I.kIn J h1 e (fun z => nomatch z) fun tk => ⟨.bl b, H, I.tok tk, rfl, q⟩
/-! a def that is called while an exception is handled; its promise knows which -/
abbrev SpX := Addr → Value → Option Addr → Sp
structure FnX (P : Program) (w : World) (K : PySem.W.Frag) (mg : Str → Option Value) (base : Heap) (CX : CXT) (k : Nat) (f : Addr) (fd : FuncData) (ps : List Str) (sp : SpX) : Prop where
  len : ∀ a c d vs H Q E, sp a c d vs H Q E → vs.length = ps.length
  run : ∀ (A : Around) (outer : List Env) (s : Shared) (H : Hp) (args : Args) (us : List Value) (vs : List V) (Q : VK) (E : XK) (p : Addr × Obj) (c : Value) (d : Option Addr), L2H.RoomH k A → HotY A p → L2H.PinOk outer H s p → Zc c d p.2 → Env0 P w K mg base A outer s H →
    BindsTo s fd args (ps.zip us) → Vals vs us → sp p.1 c d vs H Q E → codeAny (model P w) A (.call (.ref f) args) (CR CX outer P w H s Q E) s
theorem fnX_of {CX : CXT} {P : Program} {w : World} {K : PySem.W.Frag} {mg : Str → Option Value} {base : Heap} {k : Nat} {f : Addr} {nm ql : Str} {prm : Arguments} {bd : List Stmt} {sc : Scope} {dvs : List V} {kws : List (Str × V)} {fd : FuncData} {N ps : List Str} {sp : SpX}
    (F : FunD K nm ql prm bd sc dvs kws f fd) (S : FnScope N ps sc) (len : ∀ a c d vs H Q E, sp a c d vs H Q E → vs.length = ps.length)
    (hb : ∀ (cd : Value) (A : Around) (outer : List Env) (s : Shared) (H : Hp) (vs : List V) (Q : VK) (E : XK) (p : Addr × Obj) (c : Value) (d : Option Addr), Zc c d p.2 → HotY A p → L2H.RoomH k (A.deeper (envOfC ql sc s.heap.objs.size f cd)) → sp p.1 c d vs H Q E →
      ∃ t, PSs (L2H.cxH CX P w K mg base N ql sc f cd A outer s H E p) bd t ∧ t { nx := fun _ H' => Q .non H', rt := Q } (L2.start N vs) H) : FnX P w K mg base CX (k + 1) f fd ps sp := by
  obtain ⟨oc, od, dV, kV, doc, pm, an, cd, ct, osl, rfl, lk, hcd, _, _⟩ := F.ex
  refine ⟨len, fun A outer s H args us vs Q E p c d room hot pin z e0 hbd r h => ?_⟩
  have kin : K.In s.heap := e0.mod.kin.keeps fun b o e => (e0.bs b o e).1
  have ll := e0.mod.nolimit.keeps fun b o e => (e0.bs b o e).1
  have par : ∀ y ∈ ps.zip us, sc.names.lookup y.1 = some .local ∨ (sc.names.lookup y.1 = some .cell ∧ ((cellsFrom (s.heap.objs.size + 1) sc.names []).lookup y.1).isSome = true) := by
    rintro ⟨y, u⟩ hy
    rcases S.par y (List.of_mem_zip hy).1 with q | q
    · exact .inl q
    · exact .inr ⟨q, PySem.W.cellsFrom_some _ _ _ (.inl q)⟩
  refine codeAny_call_function room.depth (kin _ _ lk) rfl S.co S.gen rfl (PySem.W.codeRec_of kin hcd) (hbd _ _ _ _ ?_)
  refine wpAny_newFunctionEnv_cells S.kind par fun env he s1 x => ?_
  subst he
  refine ⟨ll.keeps x.toInCall.keep, codeAny_func ?_⟩
  obtain ⟨t, ht, hq⟩ := hb cd A outer s H vs Q E p c d z hot (room.deeper _) h
  have I := L2H.inv_startH (CX := CX) (E := E) S pin e0 (len _ _ _ _ _ _ _ h) r x
  refine wpAny_mono (ht.run [] s1 _ H _ I hq) (fun fl s' z => ?_) fun _ _ z => z
  cases fl with
  | ret u => obtain ⟨v, _, H', J, rv, q⟩ := z; exact ⟨v, H', J.os, J.bare, J.base, J.hok, rv, q⟩
  | next => obtain ⟨_, H', J, q⟩ := z; exact ⟨.non, H', J.os, J.bare, J.base, J.hok, rfl, q⟩
  | brk => obtain ⟨_, _, _, q⟩ := z; exact q.elim
  | cont => obtain ⟨_, _, _, q⟩ := z; exact q.elim
/-- its call in a suite, or in another such def -/
def tCallX (sp : Sp) (ts : TA) : TE := fun σ H Q => ts σ H fun vs H1 => sp vs H1 Q fun _ _ _ => False
theorem pe_callX {X : Cx} {k : Nat} {f : Addr} {fd : FuncData} {ps : List Str} {sp : SpX} {x : Str} {q pos : Pos} {e : Expr} {es : List Expr} {ts : TA} {p : Addr × Obj} {c : Value} {d : Option Addr} (F : FnX X.prog X.w X.K X.mg X.base (L2.CX X.prog X.w) k f fd ps sp) (hr : L2H.RoomH k X.A) (hot : HotY X.A p) (hp : p ∈ X.pn) (z : Zc c d p.2)
    (hg : Gl X x) (hm : X.mg x = some (.ref f)) (hk : PySem.W.keepIn X.K (.ref f) = true) (hb : Binds X.K fd ps []) (ha : PA X (e :: es) ts) (hdb : (x == ("__debug__" : Str)) = false := by decide)
    (he : starEach (e :: es) X.env = (false, eval e X.env) :: starEach es X.env := by rfl) (hpl : (backTo pos (starEach es X.env)).any (·.1) = false := by rfl) : PE X (.Call (.Name x q) (e :: es) [] pos) (tCallX (sp p.1 c d) ts) := by
  refine ⟨fun pins s σ H Q I h => wpAny_Call_Name_kw (ld_glob I hg hm ?_ hdb)⟩
  refine PySem.W.callWith_K (h₀ := X.base) I.ok.mod.kin hk (thn (ha.run pos pins s σ H _ I h) fun us s1 ⟨vs, H1, I1, r, q⟩ => ⟨I1.kIn, ?_⟩) he hpl
  have hl : us.length = ps.length := by
    rw [← r.length]
    exact F.len _ _ _ _ _ _ _ q
  have b := hb s1 us I1.kIn (by rw [List.append_nil]; exact hl)
  rw [List.append_nil] at b
  have P1 := I1.pin p (List.mem_append_left _ hp)
  have pin : L2H.PinOk X.stack H1 s1 p := ⟨P1.1, P1.2.1, fun hm => (List.mem_cons.mp (I1.stkSub p.1 hm)).elim P1.2.2.1 P1.2.2.2.1, P1.2.2.2.2⟩
  refine wpAny_call (codeAny_mono (F.run X.A X.stack s1 H1 ⟨us, []⟩ us vs Q _ p c d hr hot pin z I1.env0 b r q) fun fl s' hq => ?_)
  cases fl with
  | error e =>
    obtain ⟨_, _, _, _, _, _, _, _, _, _, _, _, z⟩ := hq
    exact z.elim
  | ok fl =>
    cases fl with
    | ret u => exact I1.after hq
    | next => exact False.elim hq
    | brk => exact False.elim hq
    | cont => exact False.elim hq
end
/-- .. its address and object told apart -/
theorem pe_callX2 {X : Cx} {k : Nat} {f : Addr} {fd : FuncData} {ps : List Str} {sp : SpX} {x : Str} {q pos : Pos} {e : Expr} {es : List Expr} {ts : TA} {a : Addr} {oe : Obj} {c : Value} {d : Option Addr} (F : FnX X.prog X.w X.K X.mg X.base (L2.CX X.prog X.w) k f fd ps sp) (hr : L2H.RoomH k X.A) (hot : HotY X.A (a, oe)) (hp : (a, oe) ∈ X.pn) (z : Zc c d oe)
    (hg : Gl X x) (hm : X.mg x = some (.ref f)) (hk : PySem.W.keepIn X.K (.ref f) = true) (hb : Binds X.K fd ps []) (ha : PA X (e :: es) ts) (hdb : (x == ("__debug__" : Str)) = false := by decide)
    (he : starEach (e :: es) X.env = (false, eval e X.env) :: starEach es X.env := by rfl) (hpl : (backTo pos (starEach es X.env)).any (·.1) = false := by rfl) : PE X (.Call (.Name x q) (e :: es) [] pos) (tCallX (sp a c d) ts) :=
  pe_callX (p := (a, oe)) F hr hot hp z hg hm hk hb ha hdb he hpl
end Ly

namespace Ly
open PySem L2 Lo
/-! ## raise -/
section
open PySem.Spec PyProof.Rows
/-- X.__init__(self, at): self.at = at -/
def SpO (K : PySem.W.Frag) (C : Addr) : Sp := fun vs H Q _ => ∃ a v, vs = [.ref a, v] ∧ H a = some (exo a C none) ∧ ∀ d, H d = none → d ≠ a → Q .non (upd (upd H d (exd d [("at", v)])) a (exo a C (some d)))
theorem spO_len {K : PySem.W.Frag} {C : Addr} {vs : List V} {H : Hp} {Q : VK} {E : XK} (h : SpO K C vs H Q E) : vs.length = 2 := by
  obtain ⟨_, _, rfl, _⟩ := h
  rfl
theorem initO {K : PySem.W.Frag} {C : Addr} {vs : List V} {H : Hp} {Q : VK} {E : XK} {N : List Str} (hN : N.length = 2) (h : SpO K C vs H Q E) (T : OexC K C) (hno : PySem.W.findIn K (.ref C) "at" = some none) :
    tOst K "at" (tVar 0) (tVar 1) { nx := fun _ H' => Q .non H', rt := Q } (L2.start N vs) H := by
  obtain ⟨a, v, rfl, ha, q⟩ := h
  have e : L2.start N [.ref a, v] = [some (.ref a), some v] := by
    unfold L2.start
    rw [hN]
    rfl
  rw [e]
  exact ⟨v, rfl, .ref a, rfl, a, C, rfl, T, hno, .inl ⟨ha, fun d h1 h2 => q d h1 h2⟩⟩
def tRaiseO (C : Addr) (sp : Sp) (ta : TA) (E : XK) : TS := fun _ σ H => tMkO C sp [] ta σ H fun cls d H' => E cls d H'
def tRaiseN (C : Addr) (E : XK) : TS := fun _ _ H => E (.ref C) none H
variable {P : Program} {w : World} {K : PySem.W.Frag} {mg : Str → Option Value} {base : Heap} {N : List Str} {qual : Str} {scope : Scope} {f : Addr} {cd : Value} {A : Around} {outer : List Env} {s : Shared} {H : Hp} {E : XK} {e : Expr} {pos : Pos} {C : Addr} {sp : Sp} {ta : TA}
theorem ps_raiseO (h : PMk (cxOf (L2.CX P w) P w K mg base N qual scope f cd A outer s H E) e (tMkO C sp [] ta)) : PS (cxOf (L2.CX P w) P w K mg base N qual scope f cd A outer s H E) (.Raise (some e) none pos) (tRaiseO C sp ta E) := ps_raise rfl takesE h
theorem ps_raiseN (h : PMk (cxOf (L2.CX P w) P w K mg base N qual scope f cd A outer s H E) e (fun _ H Q => Q (.ref C) none H)) : PS (cxOf (L2.CX P w) P w K mg base N qual scope f cd A outer s H E) (.Raise (some e) none pos) (tRaiseN C E) := ps_raise rfl takesE h
end
section
variable {B : Bs} {S H S' H' : Hp} {ρ ρ' : Rho} {te : TE} {ts : TA} {t u : Tr} {d : Da} {ds : List Da} {n : Nat} {D : Ends} {s : TS} {E : XK} {i j : Nat} {C : Str} {v : V} {x : Da} {K : PySem.W.Frag}
theorem x_raiseO (h : Eb B te ρ x) (e : x.fl = some v) (q : Xk B E C (some v)) : Gd B (tRaiseO (He.ga B.K C) (SpO B.K (He.ga B.K C)) (tCons te tNil) E) D ρ := fun S H σ cs st => h S H σ cs st _ fun y S1 H1 s1 f1 => by
  have ey := f1.flat e
  subst ey
  have q1 := xk_at (st.grow s1) q
  refine ⟨by simp, fun a ha => ⟨a, y, rfl, upd_same, fun d h1 h2 => ⟨rfl, d, [("at", y)], upd_same, ?_, ?_, ?_⟩⟩⟩
  · rw [upd_ne h2, upd_same]
  · rw [upd_ne h2] at h1
    exact h1
  · rw [upd_ne h2] at h1
    refine q1 d _ (fun b o hb => ?_) h1 upd_same
    have hbd : b ≠ d := fun e => by rw [e, h1] at hb; cases hb
    have hba : b ≠ a := fun e => by rw [e, ha] at hb; cases hb
    rw [upd_ne hbd, del_ne hba, upd_ne hba, upd_ne hbd, upd_ne hba]
    exact hb
theorem x_raiseN (q : Xk B E C none) : Gd B (tRaiseN (He.ga B.K C) E) D ρ := fun S H σ cs st => xk_at st q H (Same.refl H)
/-! ## try -/
def tTryAs (K : PySem.W.Frag) (c : Value) (i : Nat) (ts : Addr → Value → Option Addr → TS) (Wout : WX) (tb : WX → TS) : TS := fun D σ H => tb (wAs K c i ts Wout D) D σ H
def tTryNo (K : PySem.W.Frag) (c : Value) (ts : Addr → Value → Option Addr → TS) (Wout : WX) (tb : WX → TS) : TS := fun D σ H => tb (wOnly K c ts Wout D) D σ H
/-- what a try's body lets out -/
def ExS (B : Bs) (te : TE) (ρ : Rho) (W : WX) (C : Str) (a : Option V) : Prop := ∀ S H σ cs, Sit B S H σ ρ cs → ∀ Q : VK, XOk B.K H (WE W σ) C a → te σ H Q
theorem exS_call {R : Rel} {W : WX} {a : Option V} (h : Eab B ts ρ ds) (r : R ds (.exc C a)) : ExS B (tCallS (SpD B.K R) (WE W) ts) ρ W C a := fun S H σ cs st Q q => h S H σ cs st _ fun vs S1 H1 s1 f1 =>
  ⟨ds, _, H1, r, f1, Same.refl H1, q.later s1.h⟩
theorem eo_callS {R : Rel} {E : L2.St → XK} (h : Eas B ts ρ ds) (r : R ds (.ret t)) : Eo B (tCallS (SpD B.K R) E ts) ρ t := fun S H σ cs st Q q => h S H σ cs st _ fun vs S1 H1 s1 f1 =>
  ⟨ds, _, S1, r, f1, s1.sh, fun x c S2 H2 s2 f2 => q x c S2 H2 (s1.trans s2) (f2.prior s1.h)⟩
theorem eb_callS {R : Rel} {E : L2.St → XK} (h : Eab B ts ρ ds) (r : R ds (.ret t)) (e : t.flat = d) : Eb B (tCallS (SpD B.K R) E ts) ρ d := fun S H σ cs st Q q => h S H σ cs st _ fun vs S1 H1 s1 f1 => by
  refine ⟨ds, _, H1, r, f1, Same.refl H1, fun x c S2 H2 s2 f2 => q x S1 H2 (s1.trans (Step.heap s1.sh s2.h)) ?_⟩
  rw [← e]
  exact f2.ow.here s2.sh
theorem eo_loneS {R : Rel} {E : L2.St → XK} (h : Eab B ts ρ ds) (r : R ds (.ret t)) (l : Lone t) : Eo B (tCallS (SpD B.K R) E ts) ρ t := fun S H σ cs st Q q => h S H σ cs st _ fun vs S1 H1 s1 f1 =>
  ⟨ds, _, H1, r, f1, Same.refl H1, fun x c S2 H2 s2 f2 => q x c S1 H2 (s1.trans (Step.heap s1.sh s2.h)) ⟨f2.ow.lone l, f2.nd, fun a ha => ⟨s1.sh.free (f2.fr a ha).2, s1.h.free (f2.fr a ha).2⟩⟩⟩
variable {c : Value} {sx : Addr → Value → Option Addr → TS} {Wout : WX} {tw : WX → TE}
/-- nothing is raised -/
theorem q_tryD (h : ∀ W, Eb B (tw W) ρ d) (k : Gd B s D ρ) : Gd B (tSeq (tTryAs K c i sx Wout fun W => tDrop (tw W)) s) D ρ := fun S H σ cs st => h _ S H σ cs st _ fun x S1 H1 s1 _ => k S1 H1 σ cs (st.grow s1)
theorem q_tryDN (h : ∀ W, Eb B (tw W) ρ d) (k : Gd B s D ρ) : Gd B (tSeq (tTryNo K c sx Wout fun W => tDrop (tw W)) s) D ρ := fun S H σ cs st => h _ S H σ cs st _ fun x S1 H1 s1 _ => k S1 H1 σ cs (st.grow s1)
theorem q_tryA (h : ∀ W, Eo B (tw W) ρ t) (k : Gd B s D (ρ.set j (some t))) : Gd B (tSeq (tTryAs K c i sx Wout fun W => tAsg (tw W) (gName j)) s) D ρ := fun S H σ cs st => h _ S H σ cs st _ fun x c' S1 H1 s1 f1 => by
  obtain ⟨cs', st'⟩ := st.put1 (i := j) s1 f1
  exact k S1 H1 _ cs' st'
theorem q_tryAN (h : ∀ W, Eo B (tw W) ρ t) (k : Gd B s D (ρ.set j (some t))) : Gd B (tSeq (tTryNo K c sx Wout fun W => tAsg (tw W) (gName j)) s) D ρ := fun S H σ cs st => h _ S H σ cs st _ fun x c' S1 H1 s1 f1 => by
  obtain ⟨cs', st'⟩ := st.put1 (i := j) s1 f1
  exact k S1 H1 _ cs' st'
/-- behind a suite whose name goes -/
theorem en_unset (h : Gd B s D (ρ.set i none)) : En B (fun σ' H' => s D (σ'.set i none) H') ρ := fun S H σ cs st => by
  obtain ⟨cs', st'⟩ := st.forget1 i
  exact h S H _ cs' st'
theorem g_unset (h : Gd B s D (ρ.set i none)) : Gd B tNext { nx := fun σ' H' => s D (σ'.set i none) H', rt := D.rt, bk := fun σ' H' => D.bk (σ'.set i none) H', ct := fun σ' H' => D.ct (σ'.set i none) H' } ρ := en_unset h
theorem exc_in {σ : L2.St} {cs : List (List Addr)} {a dd : Addr} {fs : List (Str × V)} (st : Sit B S H σ ρ cs) (e : Same H H') (h1 : H dd = none) (h2 : H' dd = some (.xd fs)) : ∃ S' cs', Sit B S' H' (σ.set i (some (.ref a))) (ρ.set i (some (.sh (.exn a (some dd) fs)))) cs' := by
  have s2 : Step S H (upd S dd (.xd fs)) H' := ⟨same_new (st.same.free h1), e, fun b o q => by
    by_cases hb : b = dd
    · subst hb
      rw [upd_same] at q
      rw [h2]
      exact q
    · rw [upd_ne hb] at q
      exact e _ _ (st.same _ _ q), fun b g1 g2 => by
    have hb : b ≠ dd := fun e => g2 (e ▸ h1)
    rw [upd_ne hb]
    exact g1⟩
  obtain ⟨cs', st'⟩ := st.put1 (i := i) (x := .ref a) (c := []) (t := .sh (.exn a (some dd) fs)) s2 (Fr.sh (.exn (.inr ⟨dd, rfl, upd_same⟩)))
  exact ⟨_, cs', st'⟩
theorem exc_in0 {σ : L2.St} {cs : List (List Addr)} {a : Addr} (st : Sit B S H σ ρ cs) (e : Same H H') : ∃ S' cs', Sit B S' H' (σ.set i (some (.ref a))) (ρ.set i (some (.sh (.exn a none [])))) cs' := by
  obtain ⟨cs', st'⟩ := st.put1 (i := i) (x := .ref a) (c := []) (t := .sh (.exn a none [])) (Step.heap st.same e) (Fr.sh (.exn (.inl ⟨rfl, rfl⟩)))
  exact ⟨_, cs', st'⟩
/-- what is raised is caught by its class's clause -/
theorem x_tryD (h : ∀ W, ExS B (tw W) ρ W C (some v)) (hm : PySem.W.exmOne K (.ref (He.ga B.K C)) c = some true)
    (k : ∀ a dd, Gd B (sx a (.ref (He.ga B.K C)) (some dd)) { nx := fun σ' H' => s D (σ'.set i none) H', rt := D.rt, bk := fun σ' H' => D.bk (σ'.set i none) H', ct := fun σ' H' => D.ct (σ'.set i none) H' } (ρ.set i (some (.sh (.exn a (some dd) [("at", v)]))))) :
    Gd B (tSeq (tTryAs K c i sx Wout fun W => tDrop (tw W)) s) D ρ := fun S H σ cs st => h _ S H σ cs st _ fun dd H' e h1 h2 => ⟨true, hm, fun _ a _ => by
      obtain ⟨S', cs', st'⟩ := exc_in (i := i) (a := a) st e h1 h2
      exact k a dd S' H' _ cs' st', fun z => nomatch z⟩
theorem x_tryA (h : ∀ W, ExS B (tw W) ρ W C (some v)) (hm : PySem.W.exmOne K (.ref (He.ga B.K C)) c = some true)
    (k : ∀ a dd, Gd B (sx a (.ref (He.ga B.K C)) (some dd)) { nx := fun σ' H' => s D (σ'.set i none) H', rt := D.rt, bk := fun σ' H' => D.bk (σ'.set i none) H', ct := fun σ' H' => D.ct (σ'.set i none) H' } (ρ.set i (some (.sh (.exn a (some dd) [("at", v)]))))) :
    Gd B (tSeq (tTryAs K c i sx Wout fun W => tAsg (tw W) (gName j)) s) D ρ := fun S H σ cs st => h _ S H σ cs st _ fun dd H' e h1 h2 => ⟨true, hm, fun _ a _ => by
      obtain ⟨S', cs', st'⟩ := exc_in (i := i) (a := a) st e h1 h2
      exact k a dd S' H' _ cs' st', fun z => nomatch z⟩
theorem x_tryD0 (h : ∀ W, ExS B (tw W) ρ W C none) (hm : PySem.W.exmOne K (.ref (He.ga B.K C)) c = some true)
    (k : ∀ a, Gd B (sx a (.ref (He.ga B.K C)) none) { nx := fun σ' H' => s D (σ'.set i none) H', rt := D.rt, bk := fun σ' H' => D.bk (σ'.set i none) H', ct := fun σ' H' => D.ct (σ'.set i none) H' } (ρ.set i (some (.sh (.exn a none []))))) :
    Gd B (tSeq (tTryAs K c i sx Wout fun W => tDrop (tw W)) s) D ρ := fun S H σ cs st => h _ S H σ cs st _ fun H' e => ⟨true, hm, fun _ a _ => by
      obtain ⟨S', cs', st'⟩ := exc_in0 (i := i) (a := a) st e
      exact k a S' H' _ cs' st', fun z => nomatch z⟩
theorem x_tryA0 (h : ∀ W, ExS B (tw W) ρ W C none) (hm : PySem.W.exmOne K (.ref (He.ga B.K C)) c = some true)
    (k : ∀ a, Gd B (sx a (.ref (He.ga B.K C)) none) { nx := fun σ' H' => s D (σ'.set i none) H', rt := D.rt, bk := fun σ' H' => D.bk (σ'.set i none) H', ct := fun σ' H' => D.ct (σ'.set i none) H' } (ρ.set i (some (.sh (.exn a none []))))) :
    Gd B (tSeq (tTryAs K c i sx Wout fun W => tAsg (tw W) (gName j)) s) D ρ := fun S H σ cs st => h _ S H σ cs st _ fun H' e => ⟨true, hm, fun _ a _ => by
      obtain ⟨S', cs', st'⟩ := exc_in0 (i := i) (a := a) st e
      exact k a S' H' _ cs' st', fun z => nomatch z⟩
theorem x_tryAN0 (h : ∀ W, ExS B (tw W) ρ W C none) (hm : PySem.W.exmOne K (.ref (He.ga B.K C)) c = some true) (k : ∀ a, Gd B (sx a (.ref (He.ga B.K C)) none) { D with nx := s D } ρ) :
    Gd B (tSeq (tTryNo K c sx Wout fun W => tAsg (tw W) (gName j)) s) D ρ := fun S H σ cs st => h _ S H σ cs st _ fun H' e => ⟨true, hm, fun _ a _ => k a S H' σ cs (st.grow (Step.heap st.same e)), fun z => nomatch z⟩
theorem x_tryDN0 (h : ∀ W, ExS B (tw W) ρ W C none) (hm : PySem.W.exmOne K (.ref (He.ga B.K C)) c = some true) (k : ∀ a, Gd B (sx a (.ref (He.ga B.K C)) none) { D with nx := s D } ρ) :
    Gd B (tSeq (tTryNo K c sx Wout fun W => tDrop (tw W)) s) D ρ := fun S H σ cs st => h _ S H σ cs st _ fun H' e => ⟨true, hm, fun _ a _ => k a S H' σ cs (st.grow (Step.heap st.same e)), fun z => nomatch z⟩
/-! in the suite -/
theorem es_xf {a dd : Addr} {fs : List (Str × V)} {f : Str} (h : ρ[i]? = some (some (.sh (.exn a (some dd) fs)))) (l : fs.lookup f = some v) (e : x.fl = some v) : Es B (tXf a (.ref (He.ga B.K C)) (some dd) (He.ga B.K C) f (tVar i)) ρ x := fun S H σ cs st Q q => by
  obtain ⟨c, y, h1, h2, ow⟩ := st.var h
  have dq := ow.sh_inv.2
  cases dq with
  | exn hx =>
    rcases hx with ⟨z, _⟩ | ⟨d2, z, hd⟩
    · cases z
    · cases z
      exact ⟨_, h2, rfl, rfl, dd, fs, v, rfl, st.same _ _ hd, l, q v [] S H (Step.refl st.same) (.sh (Dq.of_flat e))⟩
theorem es_xfI {a dd : Addr} {fs : List (Str × V)} {f : Str} {n : Int} (h : ρ[i]? = some (some (.sh (.exn a (some dd) fs)))) (l : fs.lookup f = some (.int n)) : Es B (tXf a (.ref (He.ga B.K C)) (some dd) (He.ga B.K C) f (tVar i)) ρ (.int n) := es_xf h l rfl
/-- the promise of a def that is called with the exception -/
abbrev RelX := Str → List Da → Out → Prop
def SpE (K : PySem.W.Frag) (R : RelX) : SpX := fun a c d vs H Q E => ∃ C fs rest o S, c = .ref (He.ga K C) ∧ R C (.exn a d fs :: rest) o ∧ DqAll K S vs (.exn a d fs :: rest) ∧ Same S H ∧ OutQ K S H Q E o
theorem eo_callX {R : RelX} {a : Addr} {da : Option Addr} {fs : List (Str × V)} (h : Eas B ts ρ (.exn a da fs :: ds)) (r : R C (.exn a da fs :: ds) (.ret t)) : Eo B (tCallX (SpE B.K R a (.ref (He.ga B.K C)) da) ts) ρ t := fun S H σ cs st Q q => h S H σ cs st _ fun vs S1 H1 s1 f1 =>
  ⟨C, fs, ds, _, S1, rfl, r, f1, s1.sh, fun x c S2 H2 s2 f2 => q x c S2 H2 (s1.trans s2) (f2.prior s1.h)⟩
/-- isinstance of it -/
theorem eb_isX {a : Addr} {da : Option Addr} {fs : List (Str × V)} {cv : V} {u : Value} {b : Bool} (h : ρ[i]? = some (some (.sh (.exn a da fs)))) (hc : ClsV cv u) (e : PySem.W.kitOne B.K (.ref (He.ga B.K C)) u = some b) : Eb B (tCB (rIsX B.K (He.ga B.K C) a da) (tCons (tVar i) (tCons (tC cv) tNil))) ρ (.bl b) := fun S H σ cs st Q q => by
  obtain ⟨c, y, h1, h2, ow⟩ := st.var h
  have dq := ow.sh_inv.2
  cases dq with
  | exn hx => exact ⟨_, h2, ⟨fs, hx.same st.same⟩, cv, b, rfl, q _ S H (Step.refl st.same) (.bl _), .inl ⟨u, hc, e⟩⟩
/-- classes written one by one, and what they are -/
def Ecs (K : PySem.W.Frag) (D : Addr) (ts : TA) (cvs : List V) (b : Bool) : Prop := cvs.length ≤ 100 ∧ (∃ us, Paired ClsV cvs us ∧ PySem.W.kitAny K (.ref D) us = some b) ∧ ∀ σ H (Q : List V → Hp → Prop), Q cvs H → ts σ H Q
theorem ecs_nil {D : Addr} : Ecs K D tNil [] false := ⟨by simp, ⟨[], .nil, rfl⟩, fun σ H Q q => q⟩
theorem ecs_cons {D : Addr} {cv : V} {cvs : List V} {u : Value} {b r : Bool} (hc : ClsV cv u) (e : PySem.W.kitOne K (.ref D) u = some b) (h : Ecs K D ts cvs r) (hl : cvs.length ≤ 50) : Ecs K D (tCons (tC cv) ts) (cv :: cvs) (b || r) := by
  obtain ⟨_, ⟨us, h2, h3⟩, h4⟩ := h
  refine ⟨by simp; omega, ⟨u :: us, .cons hc h2, ?_⟩, fun σ H Q q => h4 σ H _ q⟩
  refine kitAny_cons e (fun hb => by rw [hb, Bool.false_or]; exact h3) fun hb => by rw [hb, Bool.true_or]
theorem eb_isXT {a : Addr} {da : Option Addr} {fs : List (Str × V)} {cvs : List V} {b : Bool} (h : ρ[i]? = some (some (.sh (.exn a da fs)))) (hc : Ecs B.K (He.ga B.K C) ts cvs b) :
    Eb B (tCB (rIsX B.K (He.ga B.K C) a da) (tCons (tVar i) (tCons (tTup ts) tNil))) ρ (.bl b) := fun S H σ cs st Q q => by
  obtain ⟨c, y, h1, h2, ow⟩ := st.var h
  obtain ⟨hl, ⟨us, hp2, e⟩, hrun⟩ := hc
  have dq := ow.sh_inv.2
  cases dq with
  | exn hx =>
    refine ⟨_, h2, hrun σ H _ ⟨Nat.le_trans hl (by rw [sizeLine_eq]; decide), fun p hp => ?_⟩⟩
    have e2 : Same H (upd H p (.tup cvs)) := same_new hp
    exact ⟨⟨fs, (hx.same st.same).same e2⟩, .ref p, b, rfl, q _ S _ (Step.heap st.same e2) (.bl _), .inr ⟨p, cvs, us, rfl, upd_same, hp2, e⟩⟩
/-- the start of such a def's body -/
theorem spe_len {R : RelX} {m : Nat} (hR : ∀ C ds o, R C ds o → ds.length = m) {a : Addr} {cv : Value} {d : Option Addr} {vs : List V} {H : Hp} {Q : VK} {E : XK} (h : SpE K R a cv d vs H Q E) : vs.length = m := by
  obtain ⟨C, fs, rest, o, S, _, r, f, _⟩ := h
  rw [f.1]
  exact hR _ _ _ r
end
/-! ## the head's facts, with what is told of the exceptions' classes -/
section
open PySem.Spec PyProof.Rows He
def oexB (K : PySem.W.Frag) (C : Addr) : Bool :=
  (match K.lookup C with
    | some ⟨.type "type", _, .cls cd, sl⟩ => (match cd.mro, sl.toList with
      | .ref C' :: bm, [_, _, _, _, some (.builtin n), _] => C' == C && n == "ValueError.__new__" && !cd.hasDel && cd.hasDict && PySem.HandSPX.refsVE bm
      | _, _ => false)
    | _ => false) && (decide (PySem.W.findIn K (.ref C) "__setattr__" = some (some (.builtin "object.__setattr__"))) && (decide (PySem.W.subIn K (.ref C) (.type "BaseException") = some true) && (decide (PySem.W.typeIn K (.ref C) = some (.type "type")) && PySem.W.keepIn K (.ref C))))
def excB (K : PySem.W.Frag) (D : Addr) : Bool :=
  decide (PySem.W.findIn K (.ref D) "__getattribute__" = some (some (.builtin "BaseException.__getattribute__"))) && (decide (PySem.W.findIn K (.ref D) "__getattr__" = some none) && (decide (PySem.W.subIn K (.ref D) (.type "BaseException") = some true) && (PySem.W.hasDictIn K D &&
    (decide (PySem.W.findIn K (.ref D) "__class__" = some (some (.builtin "object.__class__"))) && (decide (PySem.W.specialIn K (.builtin "object.__class__") "__get__" = some (some (.builtin "getset_descriptor.__get__"))) && (decide (PySem.W.takesIn K (.builtin "object.__class__") = some true) && decide (PySem.W.mroIn K D (.type "object") = some true)))))))
theorem excB_ok {K : PySem.W.Frag} {D : Addr} (h : excB K D = true) : ExcC K D := by
  unfold excB at h
  simp only [Bool.and_eq_true, decide_eq_true_eq] at h
  obtain ⟨h1, h2, h3, h4, h5, h6, h7, h8⟩ := h
  exact ⟨h1, h2, h3, h4, h5, h6, h7, h8⟩
theorem oexB_ok {K : PySem.W.Frag} {C : Addr} (h : oexB K C = true) : OexC K C := by
  unfold oexB at h
  rw [Bool.and_eq_true] at h
  obtain ⟨h0, h1⟩ := h
  simp only [Bool.and_eq_true, decide_eq_true_eq] at h1
  obtain ⟨h1, h2, h3, h4⟩ := h1
  refine ⟨?_, h1, h2, h3, h4⟩
  split at h0
  · rename_i od cdt slt hl
    split at h0
    · rename_i C' bm k0 k1 k2 k3 n k5 hm hs
      simp only [Bool.and_eq_true, beq_iff_eq, Bool.not_eq_true'] at h0
      obtain ⟨⟨⟨⟨e1, e2⟩, e3⟩, e4⟩, e5⟩ := h0
      subst e1
      subst e2
      obtain ⟨v1, v2, v3, v4, v5, v6, v7, v8, v9, v10, v11⟩ := cdt
      dsimp only at hm e3 e4
      subst hm
      subst e3
      subst e4
      have ea : slt = #[k0, k1, k2, k3, some (.builtin "ValueError.__new__"), k5] := by
        obtain ⟨l⟩ := slt
        have hs' : l = _ := hs
        rw [hs']
      subst ea
      exact ⟨_, _, _, _, _, _, _, _, _, _, _, _, _, _, _, hl, e5⟩
    · cases h0
  · cases h0
theorem roomH_mark {k : Nat} {A : Around} {e : Option Value} (r : Room k A) : L2H.RoomH k (A.mark e) := ⟨r.dp, r.un⟩
def refsQ (o : Obj) : List Addr := match o.data with
  | .dict es _ => es.toList.flatMap fun e => He.refV e.val
  | .func fd => He.refV fd.code ++ He.refV fd.defaults
  | .cls cd => cd.ns :: cd.mro.flatMap He.refV
  | _ => []
def layQ (g : Addr → Option Obj) : Nat → List Addr → List Addr
  | 0, l => l
  | n + 1, l => l ++ layQ g n (l.flatMap fun a => match g a with
    | some o => refsQ o
    | none => []).eraseDups
/-- what the module's names reach, layer by layer -/
def asQ (g : Addr → Option Obj) (n : Nat) : List Addr := layQ g n [mainGlobals]
abbrev AlX : Type := He.AlD × Bool
def obsX (fa : List Fa) (fn : List DefD) (xb : PySem.W.Frag → Bool) (K : PySem.W.Frag) : AlX := (obsD fa fn K, xb K)
def obsXG (n : Nat) (fa : List Fa) (fn : List DefD) (xb : PySem.W.Frag → Bool) (g : Addr → Option Obj) : AlX := obsX fa fn xb (frG g (asQ g n ++ [cStatics]))
def hookX (n : Nat) (fa : List Fa) (fn : List DefD) (xb : PySem.W.Frag → Bool) : PySem.W.Hook where
  α := AlX
  obs := fun s => obsXG n fa fn xb s.heap.get?
  val := fun _ => (valD fn, true)
  says := fun _ h => ∃ K : PySem.W.Frag, K.In h ∧ obsX fa fn xb K = (valD fn, true)
  of := fun _ _ e => ⟨_, frG_in, e⟩
  keeps := fun _ _ _ ⟨K, hK, c⟩ k => ⟨K, PySem.W.Frag.In.keeps hK k, c⟩
theorem obsXG_eq {n : Nat} {fa : List Fa} {fn : List DefD} {xb : PySem.W.Frag → Bool} {g : Addr → Option Obj} {s : Shared} (h : ∀ a, g a = s.heap.get? a) : obsXG n fa fn xb g = (hookX n fa fn xb).obs s := by
  have e : g = s.heap.get? := funext h
  subst e
  rfl
theorem saysX {fa : List Fa} {fn : List DefD} {xb : PySem.W.Frag → Bool} {K : PySem.W.Frag} (h : obsX fa fn xb K = (valD fn, true)) : SaysD fa fn K ∧ xb K = true := ⟨congrArg Prod.fst h, congrArg Prod.snd h⟩
variable {X : Cx} {x n : Str} {c : Value} {i : Nat} {body suite : List Stmt} {b₀ : Stmt} {np pos pos' : Pos} {tb : WX → TS} {ts : Addr → Value → Option Addr → TS} {Wout : WX}
theorem ps_tryAs (hs : X.stack = X.env :: X.outer) (hf : X.env.frame = some X.env.locals) (hN : X.N.Nodup) (hi : X.N[i]? = some n) (hln : X.env.kindOf n = some .local) (hc : Names X x c) (tk : Takes X Wout)
    (hb : ∀ (W : WX) (pn : List (Addr × Obj)) (xe : Value → Shared → Prop), Takes (X.tr pn xe) W → PassesOwn (model X.prog X.w) X.A X.env xe → PSs (X.tr pn xe) body (tb W))
    (hsu : ∀ (a : Addr) (oe : Obj) (cls : Value) (d : Option Addr) (pn : List (Addr × Obj)), Zc cls d oe → (∃ vs, oe.data = .fields vs) → PSs (X.suite a ((a, oe) :: pn)) (b₀ :: suite) (ts a cls d)) :
    PS X (.Try body [.ExceptHandler (some (.Name x np)) (some n) (b₀ :: suite) pos'] [] [] pos) (tTryAs X.K c i ts Wout tb) := ps_try_as hs hf hN hi hln hc tk hb hsu
theorem ps_tryNo (hs : X.stack = X.env :: X.outer) (hf : X.env.frame = some X.env.locals) (hc : Names X x c) (tk : Takes X Wout)
    (hb : ∀ (W : WX) (pn : List (Addr × Obj)) (xe : Value → Shared → Prop), Takes (X.tr pn xe) W → PassesOwn (model X.prog X.w) X.A X.env xe → PSs (X.tr pn xe) body (tb W))
    (hsu : ∀ (a : Addr) (oe : Obj) (cls : Value) (d : Option Addr) (pn : List (Addr × Obj)), Zc cls d oe → (∃ vs, oe.data = .fields vs) → PSs (X.suite a ((a, oe) :: pn)) (b₀ :: suite) (ts a cls d)) :
    PS X (.Try body [.ExceptHandler (some (.Name x np)) none (b₀ :: suite) pos'] [] [] pos) (tTryNo X.K c ts Wout tb) := ps_try_only hs hf hc tk hb hsu
end
end Ly

namespace Ly
open PySem L2 Lo
open PySem.Spec PyProof.Rows
/-! ## several except clauses, each with a name -/
abbrev Clause : Type := Value × Nat × (Addr → Value → Option Addr → TS)
def wCls (K : PySem.W.Frag) (out : WX) (D : Ends) : List Clause → WX
  | [] => out
  | p :: r => wAs K p.1 p.2.1 p.2.2 (wCls K out D r) D
def tTryCl (K : PySem.W.Frag) (l : List Clause) (out : WX) (tb : WX → TS) : TS := fun D σ H => tb (wCls K out D l) D σ H
inductive HdsAs (X : Cx) : List ExceptHandler → List Clause → Prop
  | nil : HdsAs X [] []
  | cons {x n : Str} {c : Value} {i : Nat} {sx : Addr → Value → Option Addr → TS} {s0 : Stmt} {ss : List Stmt} {p1 p2 : Pos} {hl : List ExceptHandler} {cl : List Clause} (hi : X.N[i]? = some n) (hn : X.env.kindOf n = some .local) (hc : Names X x c)
      (su : ∀ (a : Addr) (o : Obj) (cls : Value) (d : Option Addr) (pn : List (Addr × Obj)), Zc cls d o → (∃ ws, o.data = .fields ws) → PSs (X.suite a ((a, o) :: pn)) (s0 :: ss) (sx a cls d)) (r : HdsAs X hl cl) :
      HdsAs X (.ExceptHandler (some (.Name x p1)) (some n) (s0 :: ss) p2 :: hl) ((c, i, sx) :: cl)
section
variable {X : Cx} {bd : List Stmt} {hd0 : ExceptHandler} {hl : List ExceptHandler} {cl : List Clause} {pos : Pos} {tb : WX → TS} {out : WX}
theorem ps_tryCl (st0 : X.stack = X.env :: X.outer) (fr0 : X.env.frame = some X.env.locals) (nd : X.N.Nodup) (tk : Takes X out)
    (hb : ∀ (W : WX) (pn : List (Addr × Obj)) (xe : Value → Shared → Prop), Takes (X.tr pn xe) W → PassesOwn (model X.prog X.w) X.A X.env xe → PSs (X.tr pn xe) bd (tb W))
    (hh : HdsAs X (hd0 :: hl) cl) : PS X (.Try bd (hd0 :: hl) [] [] pos) (tTryCl X.K cl out tb) := by
  refine ⟨fun pns s1 st Hp1 D inv todo => ?_⟩
  have okk := inv.ok
  have frs0 : X.A.frames = some (X.env :: X.outer) := by rw [okk.frames, st0]
  refine wpAny_Try_except ?_
  refine wpAny_mono ((hb (wCls X.K out D cl) (X.pn ++ pns) (fun e q1 => wpAny (model X.prog X.w) X.A (noteFrame e X.env) (fun _ q2 => wpAny (model X.prog X.w) X.A (setFlight e none) (fun _ q3 =>
    wpAny (model X.prog X.w) X.A (handleBy e X.env (hd0 :: hl)) (SP X pns D) X.xe q3) X.xe q2) X.xe q1) (fun u t1 xx => ?_) PassesOwn.looking).run [] s1 st Hp1 D (inv.toTry _) todo) (fun fl t1 sp => ?_) (fun e t1 he => he)
  · obtain ⟨a, B, sI, pnz, st2, Hp2, cls, d, rfl, inz, nb, up, sky, na, os, ag, wish⟩ := xx
    have inw : Inv X pns st2 Hp2 sI := inz.ofTry okk
    have skz : Sky B (X.env :: X.outer) a (Zc cls d) X.env.locals t1.heap := by rw [← st0]; exact sky
    show wpAny (model X.prog X.w) X.A (noteFrame (Value.ref a) X.env) _ _ _
    refine Sky.land Zc.steady frs0 fr0 skz fun g3 ff3 uq3 => ?_
    have inw3 : Inv X pns st2 Hp2 { t1 with heap := g3 } := inw.landed nb ff3.1 (up.trans uq3) os ag
    obtain ⟨o3, ws3, get3, zc3, dat3⟩ := ff3.there
    have notin : ∀ {g : Heap} {o : Obj} {ws : Array Value}, g.FunFrames B (X.env :: X.outer) → g.get? a = some o → o.data = .fields ws → a ∉ frs (X.env :: X.outer) := fun {g o ws} kk e dd hm => by
      obtain ⟨_, o2, e2, hne⟩ := kk.mem hm
      rw [e] at e2; cases e2
      exact hne _ dd
    have ni := notin ff3.2.2.1 get3 dat3
    have nloc : a ≠ X.env.locals := fun z => ni (List.mem_filterMap.mpr ⟨X.env, List.mem_cons_self, by rw [fr0, z]⟩)
    have nfs : a ∉ X.fs := fun hm => by
      obtain ⟨ev, hev, qe⟩ := List.mem_filterMap.mp hm
      exact ni (List.mem_filterMap.mpr ⟨ev, List.mem_cons_of_mem _ hev, qe⟩)
    have su3 := inw3.suite get3 dat3 na nloc nfs
    have go : ∀ {hs2 : List ExceptHandler} {cl2 : List Clause}, HdsAs X hs2 cl2 → wCls X.K out D cl2 cls d st2 Hp2 →
        wpAny (model X.prog X.w) X.A (handleBy (.ref a) X.env hs2) (SP X pns D) X.xe { t1 with heap := g3 } := by
      intro hs2 cl2 hk
      induction hk with
      | nil =>
        intro wi
        refine wpAny_handleBy_nil ?_
        obtain ⟨k1, k2, k3, oq, wq, Tq, oTq, tsq, heq, hzq, hdq, h1q, hrq⟩ := id ff3
        unfold PySem.passOn
        refine wpAny_bind (wpAny_field heq hdq h1q ?_)
        rw [if_neg (show ¬ ((Value.ref Tq == Value.none) = true) from by simp)]
        have last : wpAny (model X.prog X.w) X.A (setFlight (.ref a) X.env.frame) (fun _ q4 => wpAny (model X.prog X.w) X.A (throw (.ref a) : Sem Flow) (SP X pns D) X.xe q4) X.xe { t1 with heap := g3 } := by
          rw [fr0]
          refine HandSPX.setFlight_upZ ff3 fun g4 gg4 uq4 => wpAny_throw (tk _ _ ?_)
          exact ⟨a, B, sI, pns, st2, Hp2, cls, d, rfl, inw, nb, (up.trans uq3).trans uq4, .inr (.inr (by rw [st0]; exact gg4)), na, os, ag, wi⟩
        first
          | exact wpAny_bind (wpAny_pure (wpAny_bind last))
          | exact wpAny_bind last
      | @cons x n c i sx s0 ss p1 p2 hs3 cl3 hi hn hc su r ih =>
        intro wi
        obtain ⟨b, hb1, yes, no⟩ := wi
        have hloc : L2.Loc X.env.scope n := .inl hn
        refine wpAny_handleBy_cons (codeAny_handlers_test ?_) (by intro qq; cases qq)
        have looks : PySem.W.Looks (model X.prog X.w) g3 (typeOf (.ref a)) cls := fun A Q E s k q => wpAny_typeOf_ref (k _ _ get3) (by rw [zc3.1]; exact q)
        have matches_ := PySem.W.exm_one (M := model X.prog X.w) (inw3.kIn) looks hb1
        have named : ∀ {Q : Value → Shared → Prop} {E : Value → Shared → Prop}, Q c { t1 with heap := g3 } → wpAny (model X.prog X.w) (X.A.mark (some (.ref a))) (eval (.Name x p1) X.env) Q E { t1 with heap := g3 } := fun {Q E} q => by
          obtain ⟨hgl, hdb, hm | ⟨hm, hv, hnn⟩⟩ := hc
          · exact ld_glob (X := X.suite a ((a, o3) :: (X.pn ++ pns))) su3 hgl hm q hdb
          · exact ld_blt (X := X.suite a ((a, o3) :: (X.pn ++ pns))) su3 hgl hm hv q hnn hdb
        refine named (matches_.here ?_)
        cases b with
        | true =>
          refine codeAny_handlers_suite_as ?_
          refine HandSPX.lands_againZ ff3 fun g4 ff4 uq4 => ?_
          have inw4 : Inv X pns st2 Hp2 { t1 with heap := g4 } := inw.landed nb ff4.1 ((up.trans uq3).trans uq4) os ag
          obtain ⟨o4, ws4, get4, zc4, dat4⟩ := ff4.there
          have su4 := inw4.suite get4 dat4 na nloc nfs
          refine store_ok (X := X.suite a ((a, o4) :: (X.pn ++ pns))) (v := .ref a) su4 nd hi hloc rfl (fun t5 su5 => ?_) (.inr hn)
          refine wpAny_mono ((su a o4 cls d (X.pn ++ pns) zc4 ⟨_, dat4⟩).run [] t5 _ Hp2 _ su5 (yes rfl a na)) (fun fl t6 sp => ?_) (fun _ _ z => False.elim z)
          have gone : ∀ {st6 : L2.St} {Hp6 : Hp} {Q : Shared → Prop}, Inv (X.suite a ((a, o4) :: (X.pn ++ pns))) [] st6 Hp6 t6 → (∀ t7, Inv X pns (st6.set i none) Hp6 t7 → Q t7) →
              wpAny (model X.prog X.w) X.A (do bindName X.env n .none; unbindBehindTheSuite X.env n p2) (fun _ t7 => Q t7) X.xe t6 := fun {st6 Hp6 Q} su6 hq => gone_ok (su6.unsuite okk) nd hi hn hq
          cases fl with
          | next =>
            obtain ⟨st6, Hp6, su6, rest6⟩ := sp
            exact gone su6 fun t7 in7 => ⟨_, _, in7, rest6⟩
          | brk =>
            obtain ⟨st6, Hp6, su6, rest6⟩ := sp
            exact gone su6 fun t7 in7 => ⟨_, _, in7, rest6⟩
          | cont =>
            obtain ⟨st6, Hp6, su6, rest6⟩ := sp
            exact gone su6 fun t7 in7 => ⟨_, _, in7, rest6⟩
          | ret u =>
            obtain ⟨v6, st6, Hp6, su6, rv6, rest6⟩ := sp
            exact gone su6 fun t7 in7 => ⟨_, _, _, in7, rv6, rest6⟩
        | false =>
          show wpAny _ X.A (handleBy (Value.ref a) X.env hs3) _ _ _
          exact ih (no rfl)
    exact go hh wish
  · cases fl with
    | next =>
      obtain ⟨st2, Hp2, inz, rest⟩ := sp
      exact wpAny_execs_nil ⟨st2, Hp2, inz.ofTry okk, rest⟩
    | brk =>
      obtain ⟨st2, Hp2, inz, rest⟩ := sp
      exact ⟨st2, Hp2, inz.ofTry okk, rest⟩
    | cont =>
      obtain ⟨st2, Hp2, inz, rest⟩ := sp
      exact ⟨st2, Hp2, inz.ofTry okk, rest⟩
    | ret u =>
      obtain ⟨vv, st2, Hp2, inz, rv, rest⟩ := sp
      exact ⟨vv, st2, Hp2, inz.ofTry okk, rv, rest⟩
end
/-! ### by data -/
def unE (s : TS) (D : Ends) (i : Nat) : Ends := { nx := fun σ' H' => s D (σ'.set i none) H', rt := D.rt, bk := fun σ' H' => D.bk (σ'.set i none) H', ct := fun σ' H' => D.ct (σ'.set i none) H' }
section
variable {B : Bs} {S H S' H' : Hp} {ρ ρ' : Rho} {te : TE} {t : Tr} {d : Da} {i j : Nat} {K : PySem.W.Frag} {D : Ends} {s : TS} {C : Str} {v : V} {l r : List Clause} {out : WX} {tw : WX → TE} {c : Value} {sx : Addr → Value → Option Addr → TS} {ts : TA}
/-- what is raised (with a field, without one) comes to a clause -/
inductive CatF (B : Bs) (K : PySem.W.Frag) (s : TS) (D : Ends) (ρ : Rho) (C : Str) (v : V) : List Clause → Prop
  | hit {c : Value} {i : Nat} {sx : Addr → Value → Option Addr → TS} {r : List Clause} (hm : PySem.W.exmOne K (.ref (He.ga B.K C)) c = some true) (k : ∀ a dd, Gd B (sx a (.ref (He.ga B.K C)) (some dd)) { nx := fun σ' H' => s D (σ'.set i none) H', rt := D.rt, bk := fun σ' H' => D.bk (σ'.set i none) H', ct := fun σ' H' => D.ct (σ'.set i none) H' } (ρ.set i (some (.sh (.exn a (some dd) [("at", v)]))))) : CatF B K s D ρ C v ((c, i, sx) :: r)
  | skip {c : Value} {i : Nat} {sx : Addr → Value → Option Addr → TS} {r : List Clause} (hm : PySem.W.exmOne K (.ref (He.ga B.K C)) c = some false) (k : CatF B K s D ρ C v r) : CatF B K s D ρ C v ((c, i, sx) :: r)
inductive Cat0 (B : Bs) (K : PySem.W.Frag) (s : TS) (D : Ends) (ρ : Rho) (C : Str) : List Clause → Prop
  | hit {c : Value} {i : Nat} {sx : Addr → Value → Option Addr → TS} {r : List Clause} (hm : PySem.W.exmOne K (.ref (He.ga B.K C)) c = some true) (k : ∀ a, Gd B (sx a (.ref (He.ga B.K C)) none) { nx := fun σ' H' => s D (σ'.set i none) H', rt := D.rt, bk := fun σ' H' => D.bk (σ'.set i none) H', ct := fun σ' H' => D.ct (σ'.set i none) H' } (ρ.set i (some (.sh (.exn a none []))))) : Cat0 B K s D ρ C ((c, i, sx) :: r)
  | skip {c : Value} {i : Nat} {sx : Addr → Value → Option Addr → TS} {r : List Clause} (hm : PySem.W.exmOne K (.ref (He.ga B.K C)) c = some false) (k : Cat0 B K s D ρ C r) : Cat0 B K s D ρ C ((c, i, sx) :: r)
theorem CatF.go {σ : L2.St} {cs : List (List Addr)} (h : CatF B K s D ρ C v l) (st : Sit B S H σ ρ cs) {dd : Addr} (e : Same H H') (h1 : H dd = none) (h2 : H' dd = some (.xd [("at", v)])) : wCls K out { D with nx := s D } l (.ref (He.ga B.K C)) (some dd) σ H' := by
  induction h with
  | hit hm k => exact ⟨true, hm, fun _ a _ => by
      obtain ⟨S', cs', st'⟩ := exc_in (a := a) st e h1 h2
      exact k a dd S' H' _ cs' st', fun z => nomatch z⟩
  | skip hm k ih => exact ⟨false, hm, (fun z => by cases z), fun _ => ih⟩
theorem Cat0.go {σ : L2.St} {cs : List (List Addr)} (h : Cat0 B K s D ρ C l) (st : Sit B S H σ ρ cs) (e : Same H H') : wCls K out { D with nx := s D } l (.ref (He.ga B.K C)) none σ H' := by
  induction h with
  | hit hm k => exact ⟨true, hm, fun _ a _ => by
      obtain ⟨S', cs', st'⟩ := exc_in0 (a := a) st e
      exact k a S' H' _ cs' st', fun z => nomatch z⟩
  | skip hm k ih => exact ⟨false, hm, (fun z => by cases z), fun _ => ih⟩
theorem x_tryCD (h : ∀ W, ExS B (tw W) ρ W C (some v)) (k : CatF B K s D ρ C v l) : Gd B (tSeq (tTryCl K l out fun W => tDrop (tw W)) s) D ρ := fun S H σ cs st => h _ S H σ cs st _ fun dd H' e h1 h2 => k.go st e h1 h2
theorem x_tryCA (h : ∀ W, ExS B (tw W) ρ W C (some v)) (k : CatF B K s D ρ C v l) : Gd B (tSeq (tTryCl K l out fun W => tAsg (tw W) (gName j)) s) D ρ := fun S H σ cs st => h _ S H σ cs st _ fun dd H' e h1 h2 => k.go st e h1 h2
theorem x_tryCD0 (h : ∀ W, ExS B (tw W) ρ W C none) (k : Cat0 B K s D ρ C l) : Gd B (tSeq (tTryCl K l out fun W => tDrop (tw W)) s) D ρ := fun S H σ cs st => h _ S H σ cs st _ fun H' e => k.go st e
theorem x_tryCA0 (h : ∀ W, ExS B (tw W) ρ W C none) (k : Cat0 B K s D ρ C l) : Gd B (tSeq (tTryCl K l out fun W => tAsg (tw W) (gName j)) s) D ρ := fun S H σ cs st => h _ S H σ cs st _ fun H' e => k.go st e
theorem q_tryCD (h : ∀ W, Eb B (tw W) ρ d) (k : Gd B s D ρ) : Gd B (tSeq (tTryCl K l out fun W => tDrop (tw W)) s) D ρ := fun S H σ cs st => h _ S H σ cs st _ fun x S1 H1 s1 _ => k S1 H1 σ cs (st.grow s1)
theorem q_tryCA (h : ∀ W, Eo B (tw W) ρ t) (k : Gd B s D (ρ.set j (some t))) : Gd B (tSeq (tTryCl K l out fun W => tAsg (tw W) (gName j)) s) D ρ := fun S H σ cs st => h _ S H σ cs st _ fun x c' S1 H1 s1 f1 => by
  obtain ⟨cs', st'⟩ := st.put1 (i := j) s1 f1
  exact k S1 H1 _ cs' st'
/-! isinstance in an except suite, where the class is known by the reading alone -/
def rIsY (K : PySem.W.Frag) (cls : Value) (a : Addr) (d : Option Addr) : List V → Hp → VK → Prop := fun xs H Q => ∃ D, cls = .ref D ∧ L2.ExcC K D ∧ rIsX K D a d xs H Q
theorem call_isY {X : Cx} {a : Addr} {cls : Value} {oe : Obj} {d : Option Addr} (hp : (a, oe) ∈ X.pn) (hz : Zc cls d oe) (hf : ∃ vs, oe.data = .fields vs) : CallR X (.builtin "isinstance") (rIsY X.K cls a d) := by
  intro pns st σ H xs us Q I r h
  obtain ⟨D, e, C, h⟩ := h
  subst e
  exact call_isX C hp hz hf pns st σ H xs us Q I r h
theorem eb_isY {a : Addr} {da : Option Addr} {fs : List (Str × V)} {cv : V} {u : Value} {b : Bool} (hC : L2.ExcC B.K (He.ga B.K C)) (h : ρ[i]? = some (some (.sh (.exn a da fs)))) (hc : ClsV cv u) (e : PySem.W.kitOne B.K (.ref (He.ga B.K C)) u = some b) : Eb B (tCB (rIsY B.K (.ref (He.ga B.K C)) a da) (tCons (tVar i) (tCons (tC cv) tNil))) ρ (.bl b) := fun S H σ cs st Q q => by
  obtain ⟨x, h1, h2⟩ := eb_isX h hc e S H σ cs st Q q
  exact ⟨x, h1, _, rfl, hC, h2⟩
theorem eb_isYT {a : Addr} {da : Option Addr} {fs : List (Str × V)} {cvs : List V} {b : Bool} (hC : L2.ExcC B.K (He.ga B.K C)) (h : ρ[i]? = some (some (.sh (.exn a da fs)))) (hc : Ecs B.K (He.ga B.K C) ts cvs b) : Eb B (tCB (rIsY B.K (.ref (He.ga B.K C)) a da) (tCons (tVar i) (tCons (tTup ts) tNil))) ρ (.bl b) := fun S H σ cs st Q q => by
  obtain ⟨c, y, h1, h2, ow⟩ := st.var h
  obtain ⟨hl, ⟨us, hp2, e⟩, hrun⟩ := hc
  have dq := ow.sh_inv.2
  cases dq with
  | exn hx =>
    refine ⟨_, h2, hrun σ H _ ⟨Nat.le_trans hl (by rw [sizeLine_eq]; decide), fun p hp => ?_⟩⟩
    have e2 : Same H (upd H p (.tup cvs)) := same_new hp
    exact ⟨_, rfl, hC, ⟨fs, (hx.same st.same).same e2⟩, .ref p, b, rfl, q _ S _ (Step.heap st.same e2) (.bl _), .inr ⟨p, cvs, us, rfl, upd_same, hp2, e⟩⟩
/-! a branch that joins what follows -/
theorem q_joinP {tt : TT} {b : Bool} {u1 : TS} (P : Rho → Prop) (h : Et B tt ρ b) (k : ∀ r, P r → Gd B s D r) (h1 : b = true → (∀ r, P r → Gd B s D r) → Gd B u1 { D with nx := s D } ρ) (h2 : b = false → P ρ) : Gd B (tSeq (tIfS tt u1 tNext) s) D ρ := q_when h (fun hb => h1 hb k) fun hb => k _ (h2 hb)
theorem eo_lstRg2 {tb : TE} {lo n : Int} (h : Eb B te ρ (.int lo)) (h2 : Eb B tb ρ (.int n)) (h0 : lo ≤ n) (h3 : 0 ≤ lo) (h4 : n ≤ 1000000) : Eo B (tLstRg (tRg2 te tb)) ρ (ol ((List.range (n - lo).toNat).map fun (k : Nat) => Da.int (lo + (k : Int)))) := fun S H σ cs st Q q => h S H σ cs st _ fun x S1 H1 s1 f1 => h2 S1 H1 σ cs (st.grow s1) _ fun y S2 H2 s2 f2 => by
  cases f1
  cases f2
  refine ⟨lo, n, rfl, rfl, RgOk.of_le (by omega) (by omega) (by omega) (by omega), fun p hp => ?_⟩
  obtain ⟨s4, f4⟩ := fr_new (K := B.K) (k := .lst) (vs := rgV lo n) (ds := (List.range (n - lo).toNat).map fun (k : Nat) => Da.int (lo + (k : Int))) (.inl rfl) hp s2.sh (DqAll.of_map fun _ => rfl) True.intro
  exact q _ [p] _ _ ((s1.trans s2).trans s4) (f4.prior (s1.trans s2).h)
end
end Ly

namespace Ly
open PySem L2 Lo
/-! ## an object of one's own, whose items are taken as standing for good -/
section
variable {B : Bs} {S H S' H' : Hp} {σ : L2.St} {ρ : Rho} {c : List Addr} {te ta tb : TE} {x : V} {t : Tr} {d : Da} {ds : List Da} {k : NK} {i : Nat} {K : PySem.W.Frag} {ts : List Tr} {s : TS} {D : Ends}
theorem OwAll.data {cs : List (List Addr)} {vs : List V} (h : OwAll K S H cs vs ts) (s : Same S S') (e : ∀ b o, b ∈ cs.flatten → H b = some o → S' b = some o) : DqAll K S' vs (ts.map Tr.flat) :=
  ⟨by rw [List.length_map]; exact h.1, fun i v d h1 h2 => by
    rw [List.getElem?_map] at h2
    obtain ⟨t, ht, rfl⟩ := Option.map_eq_some_iff.mp h2
    have hi := (List.getElem?_eq_some_iff.mp ht).1
    have hc : cs[i]? = some (cs[i]'(by rw [h.2.1]; exact hi)) := List.getElem?_eq_getElem _
    exact (h.2.2 i v t _ h1 ht hc).data s fun b o hb ho => e b o (mem_flat hc hb) ho⟩
theorem Fr.skin (h : Fr K H S' H' c x (.nd k ts)) (s : Step S H S' H') : ∃ S2 A, Step S H S2 H' ∧ Fr K H S2 H' A x (.nd k ((ts.map Tr.flat).map Tr.sh)) := by
  obtain ⟨ow, nd, fr⟩ := h
  cases ow with
  | @nd a _ vs _ cs A _ h l l2 f hc =>
    have hS : ∀ a ∈ cs.flatten, S' a = none := fun a ha => (fr a (by rw [hc]; exact List.mem_append_right _ ha)).1
    rw [hc, List.nodup_append] at nd
    have hA : ∀ a ∈ A, a ∉ cs.flatten := fun a ha hb => nd.2.2 a ha a hb rfl
    refine ⟨join S' H' cs.flatten, A, ⟨s.s.trans (join_same hS), s.h, join_heap s.sh, fun a h1 h2 => ?_⟩, ?_, nd.1, fun a ha => ?_⟩
    · rw [join_out fun hm => h2 (fr a (by rw [hc]; exact List.mem_append_right _ hm)).2]
      exact s.nw a h1 h2
    · exact Ow.root h (OwAll.data ⟨l, l2, f⟩ (join_same hS) fun b o hb ho => by rw [join_in hb]; exact ho)
    · obtain ⟨z1, z2⟩ := fr a (by rw [hc]; exact List.mem_append_left _ ha)
      rw [join_out (hA a ha)]
      exact ⟨z1, z2⟩
theorem eo_skin (h : Eo B te ρ (.nd k ts)) (e : ts.map Tr.flat = ds) : Eo B te ρ (.nd k (ds.map Tr.sh)) := fun S H σ cs st Q q => h S H σ cs st Q fun x c S' H' s f => by
  obtain ⟨S2, A, s2, f2⟩ := f.skin s
  rw [e] at f2
  exact q x A S2 H' s2 f2
/-- for x in xs, of a list of one's own that the body leaves alone -/
theorem q_forO {α : Type} {f : α → Da} {xs : List α} {j m : Nat} {bd : TS} (hT : ρ[j]? = some (some (ol (xs.map f)))) (P : Option Tr → Nat → Rho → Prop) (h0 : ∀ u, P u 0 (ρ.set j u)) (hp : ∀ u i ρ', P u i ρ' → ρ'[j]? = some u)
    (hs : ∀ S1 E1 u i x ρ', xs[i]? = some x → P u i ρ' → Gd ⟨B.K, S1, E1⟩ bd { D with nx := Nx ⟨B.K, S1, E1⟩ (P u (i + 1)), ct := Nx ⟨B.K, S1, E1⟩ (P u (i + 1)), bk := s D } (ρ'.set m (some (.sh (f x)))))
    (hd : ∀ u ρ', P u xs.length ρ' → Gd B s D (ρ'.set j (some (ol (xs.map f))))) : Gd B (tSeq (tFor (iList B.K (tVar j)) (gName m) bd) s) D ρ := fun S H σ cs st => by
  obtain ⟨c0, x, hc, hx, ow⟩ := st.var hT
  obtain ⟨a, vs, rfl, o1, dq⟩ := ow.root_inv
  obtain ⟨hA, ha⟩ := o1.lst
  subst hA
  have hS : S a = none := (st.hp.ow a (mem_flat hc (List.mem_singleton_self a))).1
  have hE : B.E0 a = none := (st.hp.ow a (mem_flat hc (List.mem_singleton_self a))).2
  have hEa : join B.E0 H [a] a = some (.lst vs) := by
    rw [join_in (List.mem_singleton_self a), ha]
  have hE1 : join B.E0 H [a] a ≠ none := by
    rw [hEa]
    exact fun z => nomatch z
  have hEE : Same B.E0 (join B.E0 H [a]) := join_same fun b hb => by rw [List.mem_singleton.mp hb]; exact hE
  have st1 : Sit B S H σ (ρ.set j (some (.sh (.exn a none [])))) (cs.set j []) :=
    st.put hc (Same.refl S) st.hp.e0 st.hp.sh st.hp.nw (fun b hb => ⟨(st.hp.ow b (st.mem_er hc hb).1).1, rfl⟩) (fun b hb => by cases hb) List.nodup_nil ⟨.ref a, rfl, .sh (.exn (.inl ⟨rfl, rfl⟩))⟩ rfl hx (fun _ _ => rfl)
  have st2 : Sit ⟨B.K, S, join B.E0 H [a]⟩ S H σ (ρ.set j (some (.sh (.exn a none [])))) (cs.set j []) := by
    refine ⟨⟨Same.refl S, join_heap st.hp.e0, st.hp.sh, fun b h1 _ => h1, fun b hb => ?_, st1.hp.nd⟩, st1.lc, st1.ls, st1.en⟩
    have hn : b ∉ [a] := by
      obtain ⟨_, p2⟩ := flatten_set (c := []) hc
      exact (st.mem_er hc (by simpa using p2.mem_iff.mp hb)).2
    have z := st1.hp.ow b hb
    exact ⟨z.1, (join_out hn).trans z.2⟩
  have hl : vs.length = xs.length := by
    have := dq.1
    rwa [List.length_map] at this
  refine ⟨.ref a, hx, a, rfl, ⟨vs, SqL.of ha⟩, ?_⟩
  refine for_it (walk_list (K := B.K) (a := a) (xs := vs)) (fun i => Nx ⟨B.K, S, join B.E0 H [a]⟩ (P (some (.sh (.exn a none []))) i)) ⟨_, S, _, h0 _, st2⟩ (fun i σ' H' hi ⟨ρ', S', cs', p, st'⟩ => ?_) (fun i x σ' H' H2 hi ⟨ρ', S', cs', p, st'⟩ y => ?_) (fun σ3 H3 ⟨ρ', S3, cs3, p, st3⟩ => ?_)
  · exact SqL.of (st'.hp.e0 a _ hEa)
  · obtain ⟨rfl, hy⟩ := y
    have hi2 : i < xs.length := by omega
    have hxi : xs[i]? = some xs[i] := List.getElem?_eq_getElem hi2
    have hdq := (dq.2 i x (f xs[i]) hy (by rw [List.getElem?_map, hxi]; rfl)).same st'.hp.s0
    obtain ⟨cs2, st4⟩ := st'.put1 (i := m) (Step.refl st'.same) (Fr.sh hdq)
    exact hs S _ _ i xs[i] ρ' hxi p S' H2 _ cs2 st4
  · rw [hl] at p
    have hu := hp _ _ _ p
    obtain ⟨c3, x3, hc3, hx3, ow3⟩ := st3.var hu
    obtain ⟨rfl, dq3⟩ := ow3.sh_inv
    have hx3a : x3 = .ref a := by
      cases dq3
      rfl
    subst hx3a
    have st4 : Sit B S3 H3 σ3 ρ' cs3 := ⟨⟨st.hp.s0.trans st3.hp.s0, hEE.trans st3.hp.e0, st3.hp.sh, fun b h1 h2 => st3.hp.nw b (st.hp.nw b h1 h2) (fun z => h2 (hEE.free z)), fun b hb => ⟨(st3.hp.ow b hb).1, hEE.free (st3.hp.ow b hb).2⟩, st3.hp.nd⟩, st3.lc, st3.ls, st3.en⟩
    have hS3 : S3 a = none := st3.hp.nw a hS hE1
    have st5 : Sit B S3 H3 σ3 (ρ'.set j (some (ol (xs.map f)))) (cs3.set j [a]) :=
      st4.put hc3 (Same.refl S3) st4.hp.e0 st4.hp.sh st4.hp.nw (fun b hb => ⟨(st4.hp.ow b (st4.mem_er hc3 hb).1).1, rfl⟩) (fun b hb => by
        rw [List.mem_singleton.mp hb]
        exact ⟨hS3, hE, fun hm => hE1 (st3.hp.ow a (st4.mem_er hc3 hm).1).2⟩) (by simp) ⟨.ref a, rfl, Ow.root (k := .lst) ⟨rfl, True.intro, st3.hp.e0 a _ hEa⟩ (dq.same st3.hp.s0)⟩ rfl hx3 (fun _ _ => rfl)
    exact hd _ ρ' p S3 H3 σ3 _ st5
end
end Ly

namespace Ly
open PySem L2 Lo
open PySem.Spec PyProof.Rows
/-! ## set(xs) of a list or a tuple of ints; len, sorted of it -/
section
variable {P : Program} {w : World} {A : Around} {E : Value → Shared → Prop} {s : Shared}
abbrev set0 (w : World) : Obj := { cls := .type "set", dict := none, data := .set #[] 0 (.fresh 0 0 (!w.params.followText "set-order")) }
theorem fill_list {l : Addr} {items : Array Value} {ns : List Int} (hh : A.handled = none) (hl : s.heap.IsList l items) (hit : IntsAre items.toList ns) (hb : ns.length + 1 < scanBound) {Q : Value → Shared → Prop}
    (h : ∀ (h' : Heap) (tk c : Nat), SetR w h' s.heap.objs.size (fun j => decide (j ∈ ns)) c → c ≤ ns.length → (∀ b o, s.heap.get? b = some o → h'.get? b = some o) → Q (.ref s.heap.objs.size) { s with heap := h', toks := tk }) :
    wpAny (model P w) A (call (.type "set") [.ref l]) Q E s := by
  have hisz : items.size = ns.length := by
    have q := hit.length
    rwa [Array.length_toList] at q
  obtain ⟨_, _, hmro⟩ := F.called_set.mro
  have hmade := F.called_set.made
  have hsub := F.called_set.sub
  have h1 := F.called_set.notType
  have h2 := F.called_set.canCreate
  have hct := F.typeCall_set_1 (.ref l)
  refine wpAny_call (codeAny_of_tree ?_)
  show wpAny _ _ (callAny (.type "set") _) _ _ _
  refine wpAny_pure ⟨Code.quiet_builtin _ (by decide +kernel), codeAny_builtin F.entry_type_call ?_⟩
  rw [Around.under_plain (weight_type_call_type "set" [.ref l] []) rfl]
  repeat (any_goals (first | assumption | wp_step))
  refine codeAny_mono (code_set_led1 (.ref l) (E := E) (Q₁ := fun obj t => obj = .ref s.heap.objs.size ∧ t = { s with heap := s.heap.push (set0 w) }) ⟨rfl, rfl⟩) fun r s₁ hr => ?_
  rcases r with e | fl
  · exact hr
  cases fl with
  | ret obj =>
    obtain ⟨rfl, rfl⟩ := hr
    have hS : (s.heap.push (set0 w)).get? s.heap.objs.size = some (set0 w) := Heap.get?_push_size _ rfl
    have hT : Shared.TypeIs { s with heap := s.heap.push (set0 w) } (.ref s.heap.objs.size) "set" := ⟨_, hS, rfl⟩
    have hli := F.called_set.init.lookup
    have hbi := F.called_set.init.bind (.ref s.heap.objs.size)
    repeat (any_goals (first | assumption | wp_step))
    refine codeAny_mono (codeAny_call_builtin (R := wants (fun r t => r = .none ∧ ∃ h' tk c, t = { s with heap := h', toks := tk } ∧ SetR w h' s.heap.objs.size (fun j => decide (j ∈ ns)) c ∧ c ≤ ns.length ∧ (∀ b o, s.heap.get? b = some o → h'.get? b = some o)) E)
      F.called_set.init.plain F.entry_set_init (check_set_init_1 hT ?_)) fun r₂ s₂ hr₂ => ?_
    · obtain ⟨⟨ocls, odict, odata, oslots⟩, hol, hcl, nl, hdl⟩ := hl
      simp only at hcl hdl
      subst hcl
      subst hdl
      have hol' : (s.heap.push (set0 w)).get? l = some { cls := .type "list", dict := odict, data := .seq items nl, slots := oslots } := Heap.get?_push_of_some _ hol
      have hsls := F.sub_list_set
      have hslf := F.sub_list_frozenset
      have hne : (Value.type "list" == Value.type "dict") = false := by decide
      have hl1 : (s.heap.push (set0 w)).IsList l items := ⟨_, hol', rfl, nl, rfl⟩
      unfold Builtin.«set.__init__» noKeywords Builtin.Frozenset.updateFrom
      generalize hPI : pyIter = PI
      wp_walk
      subst hPI
      refine wpAny_pyIter_list hl1 ?_
      refine wpAny_bind (wpAny_runValue ?_)
      have hlS : l < s.heap.objs.size := Heap.lt_size hol
      have hh3 : A.in1.in1.in1.handled = none := by simp [hh]
      have hneI : l ≠ (s.heap.push (set0 w)).objs.size := by
        rw [Heap.size_push]
        exact fun e => Nat.lt_irrefl _ (Nat.lt_trans (e ▸ hlS) (Nat.lt_succ_self _))
      have hSf : s.heap.objs.size ∉ [(s.heap.push (set0 w)).objs.size, l] := by
        rw [Heap.size_push]
        simp only [List.mem_cons, List.not_mem_nil, or_false, not_or]
        exact ⟨(Nat.ne_of_gt (Nat.lt_succ_self _)).symm, (Nat.ne_of_lt hlS).symm⟩
      have hval : ∀ (i : Nat) (v : Value), items[i]? = some v → ∃ k t, ns[i]? = some k ∧ v = .int k t := fun i v hv => by
        have hi : i < ns.length := by rw [← hisz]; exact (Array.getElem?_eq_some_iff.mp hv).1
        obtain ⟨t, e⟩ := PyProof.Rows.IntsAre.int_at hit i v (by rw [Array.getElem?_toList]; exact hv)
        refine ⟨ns[i], t, List.getElem?_eq_getElem hi, ?_⟩
        rw [e, List.getD_eq_getElem?_getD, List.getElem?_eq_getElem hi] <;> rfl
      refine set_update_ints ((Walks.list hh3 _ l hneI items).toS) s.heap.objs.size hSf ns hisz hb hval (items.size - 0) 0 _ (by omega) (Nat.zero_le _) ⟨⟨_, Heap.get?_push_size _ rfl, rfl, rfl⟩, (hl1.push _)⟩ ?hS0 ?hR
      case hS0 =>
        exact ⟨0, Nat.le_refl 0, setR_new_at (Heap.get?_push_of_some _ hS)⟩
      case hR =>
        intro s' c' hm hc' hS'
        obtain ⟨h', g2, d', tk', os'⟩ := s'
        have eg : g2 = s.gens := hm.gens
        have ed : d' = s.drawn := hm.drawn
        have eo : os' = s.os := hm.os
        subst eg
        subst ed
        subst eo
        show wpAny _ _ _ _ _ _
        refine wpAny_pure ?_
        show wpAny _ _ (ret Value.none) _ _ _
        rw [hisz] at hc'
        refine wpAny_pure ⟨rfl, h', tk', c', rfl, hS', hc', fun b o e => ?_⟩
        have hb0 : b < s.heap.objs.size := Heap.lt_size e
        have hb2 : b ≠ (s.heap.push (set0 w)).objs.size := by
          rw [Heap.size_push]
          exact fun e => Nat.lt_irrefl _ (Nat.lt_trans (e ▸ hb0) (Nat.lt_succ_self _))
        refine hm.heap b o ?_ (Heap.get?_push_of_some _ (Heap.get?_push_of_some _ e))
        simp only [List.mem_cons, List.not_mem_nil, or_false, not_or]
        exact ⟨fun e => Nat.lt_irrefl _ (e ▸ hb0), hb2⟩
    · rcases r₂ with e | fl₂
      · exact hr₂
      cases fl₂ with
      | ret r =>
        obtain ⟨rfl, h', tk, c', rfl, hS', hc', hk'⟩ := hr₂
        repeat (any_goals (first | assumption | wp_step))
        exact h _ _ _ hS' hc' hk'
      | _ => exact hr₂.elim
  | _ => exact hr.elim
end
def rSetI (K : PySem.W.Frag) (w : World) : List V → Hp → VK → Prop := fun xs H Q => ∃ (l : Addr) (ns : List Int), xs = [V.ref l] ∧ (SqL K H l (ns.map V.int) ∨ SqT K H l (ns.map V.int)) ∧ ns.length ≤ 1000 ∧
  ∀ (p : Addr) (ks : List Int), ks.Nodup → (∀ k, k ∈ ks ↔ k ∈ ns) → H p = none → Q (.ref p) (upd H p (SetO w p (fun j => decide (j ∈ ns)) ks.length))
def rLenSet (w : World) : List V → Hp → VK → Prop := fun xs H Q => ∃ (a : Addr) (S : Int → Bool) (n : Nat), xs = [V.ref a] ∧ H a = some (SetO w a S n) ∧ n ≤ 1000 ∧ Q (.int (n : Nat)) H
section
variable {X : Cx}
theorem setR_count {w : World} {h : Heap} {a : Addr} {ns : List Int} {c : Nat} (R : SetR w h a (fun j => decide (j ∈ ns)) c) : ∃ ks : List Int, ks.Nodup ∧ (∀ k, k ∈ ks ↔ k ∈ ns) ∧ ks.length = c := by
  obtain ⟨o, es, ep, t, ho, hx, hd, g, nd, hm, hb, hf, hn, _⟩ := R
  refine ⟨es.toList.map keyOf, nd, fun k => ?_, by rw [List.length_map, Array.length_toList]; exact hn⟩
  rw [← hm k, decide_eq_true_eq]
theorem call_setI (hc : X.calm = true) : CallR X (.type "set") (rSetI X.K X.w) := by
  intro pins s σ H xs us Q I r h
  obtain ⟨l, ns, rfl, hs, hl, q⟩ := h
  rw [Vals.ref1 r]
  rcases hs with hs | hs
  · obtain ⟨its, rv, pl, _⟩ := I.list hs
    refine fill_list (I.ok.hd hc) pl.isList (ints_of_vals rv) (by unfold scanBound; omega) fun h' tk c R1 _ k => ?_
    obtain ⟨ks, h1, h2, rfl⟩ := setR_count R1
    exact ⟨.ref _, _, I.laid (t' := tk) (fun b u e => k b u e) (Nat.le_refl _) (setO_new R1), rfl, q _ ks h1 h2 (I.hok.fresh (Nat.le_refl _))⟩
  · obtain ⟨its, rv, pt, _⟩ := I.tuple hs
    refine call_set_tupI ns (I.ok.hd hc) (show s.heap.IsTuple l its.toArray from pt) (ints_of_vals rv) (by unfold scanBound; omega) fun h' tk c R1 _ k => ?_
    obtain ⟨ks, h1, h2, rfl⟩ := setR_count R1
    exact ⟨.ref _, _, I.laid (t' := tk) (fun b u e => k b u e) (Nat.le_refl _) (setO_new R1), rfl, q _ ks h1 h2 (I.hok.fresh (Nat.le_refl _))⟩
theorem call_lenSet : CallR X (.builtin "len") (rLenSet X.w) := by
  intro pins s σ H xs us Q I r h
  obtain ⟨a, S, n, rfl, ha, hn, q⟩ := h
  rw [Vals.ref1 r]
  obtain ⟨o, es, ep, t, ho, hx, hd, _, _, _, _, hf, e, _⟩ := setO_get I ha
  subst e
  exact call_len_set ho hx hd hf (by omega) ⟨.int (es.size : Nat), H, I.tok _, ⟨_, rfl⟩, q⟩
end
section
variable {B : Bs} {S H S' H' : Hp} {σ : L2.St} {ρ : Rho} {c : List Addr} {te : TE} {x : V} {t u : Tr} {d : Da} {ds : List Da} {k : NK} {i j : Nat} {K : PySem.W.Frag} {ts : List Tr} {s : TS} {D : Ends} {w : World} {n : Int} {p : List Nat} {T : Tr}
/-- the members, each once, rising -/
def setL (xs : List Int) : List Int := sortI xs.eraseDups
theorem sortI_perm (xs : List Int) : (sortI xs).Perm xs := List.mergeSort_perm _ _
theorem setL_mem {xs : List Int} {k : Int} : k ∈ setL xs ↔ k ∈ xs := by
  unfold setL
  rw [(sortI_perm _).mem_iff, List.mem_eraseDups]
theorem eraseDups_nodup (xs : List Int) : xs.eraseDups.Nodup := by
  induction h : xs.length using Nat.strongRecOn generalizing xs with
  | _ n ih =>
    cases xs with
    | nil => simp
    | cons a r =>
      rw [List.eraseDups_cons, List.nodup_cons]
      refine ⟨fun hm => ?_, ih _ ?_ _ rfl⟩
      · rw [List.mem_eraseDups, List.mem_filter] at hm
        simp at hm
      · have := List.length_filter_le (fun b => !b == a) r
        rw [← h, List.length_cons]
        omega
theorem setL_nodup (xs : List Int) : (setL xs).Nodup := (sortI_perm _).nodup_iff.mpr (eraseDups_nodup xs)
theorem setL_uniq {xs ks : List Int} (h1 : ks.Nodup) (h2 : ∀ k, k ∈ ks ↔ k ∈ xs) : ks.Perm (setL xs) := (List.perm_ext_iff_of_nodup h1 (setL_nodup xs)).mpr fun k => by rw [h2, setL_mem]
theorem eb_lenSetN {xs : List Int} (hk : k = .lst ∨ k = .tup) (h : Eb B te ρ (.nd k (xs.map Da.int))) (hl : xs.length ≤ 1000) : Eb B (tCB (rLenSet w) (tCons (tCB (rSetI B.K w) (tCons te tNil)) tNil)) ρ (.int ((setL xs).length : Nat)) := fun S H σ cs st Q q => h S H σ cs st _ fun x S1 H1 s1 f1 => by
  obtain ⟨a, vs, rfl, g1, g2⟩ := f1.inv
  cases g2.ints_inv
  refine ⟨a, xs, rfl, ?_, hl, fun p ks h1 h2 hp => ?_⟩
  · rcases hk with rfl | rfl
    · exact .inl (SqL.of g1.lst)
    · exact .inr (SqT.of g1.tup)
  · have pm := setL_uniq h1 h2
    refine ⟨p, _, ks.length, rfl, upd_same, Nat.le_trans (h1.length_le_of_subset fun k hk => (h2 k).mp hk) hl, ?_⟩
    rw [pm.length_eq]
    exact q _ S1 _ (s1.trans (Step.heap s1.sh (same_new hp))) (.int _)
theorem eo_sortedSet {xs : List Int} (hk : k = .lst ∨ k = .tup) (h : Eb B te ρ (.nd k (xs.map Da.int))) (hl : xs.length < 64) : Eo B (tCB (rSortedSet w) (tCons (tCB (rSetI B.K w) (tCons te tNil)) tNil)) ρ (ol ((setL xs).map Da.int)) := fun S H σ cs st Q q => h S H σ cs st _ fun x S1 H1 s1 f1 => by
  obtain ⟨a, vs, rfl, g1, g2⟩ := f1.inv
  cases g2.ints_inv
  refine ⟨a, xs, rfl, ?_, by omega, fun p ks h1 h2 hp => ?_⟩
  · rcases hk with rfl | rfl
    · exact .inl (SqL.of g1.lst)
    · exact .inr (SqT.of g1.tup)
  · refine ⟨p, _, ks.length, rfl, upd_same, Nat.lt_of_le_of_lt (h1.length_le_of_subset fun k hk => (h2 k).mp hk) hl, fun ns p2 hs hm hl2 hp2 => ?_⟩
    have hnd : ns.Nodup := hs.imp fun h => by omega
    have e : ns = setL xs := sortI_uniq ((List.perm_ext_iff_of_nodup hnd (eraseDups_nodup xs)).mpr fun k => by rw [hm k, decide_eq_true_eq, List.mem_eraseDups]) (hs.imp fun h => by omega)
    rw [e]
    have s2 : Step S1 H1 S1 (upd H1 p (SetO w p (fun j => decide (j ∈ xs)) ks.length)) := Step.heap s1.sh (same_new hp)
    obtain ⟨s4, f4⟩ := fr_new (K := B.K) (k := .lst) (vs := (setL xs).map V.int) (ds := (setL xs).map Da.int) (.inl rfl) hp2 s2.sh (DqAll.of_map fun _ => rfl) True.intro
    exact q _ [p2] _ _ ((s1.trans s2).trans s4) (f4.prior (s1.trans s2).h)
/-! ## a dict of one's own, locked while it is walked -/
theorem eo_lock {ks : List Key} {te : TE} (hT : ρ[j]? = some (some (.nd (.dct ks) (ds.map Tr.sh)))) (he : Eo B te (ρ.set j (some (.sh (.nd (.dcl ks) ds)))) t) (l : Lone t) : Eo B (tLockE te) ρ t := fun S H σ cs st Q q => by
  obtain ⟨c0, x, hc, hx, ow⟩ := st.var hT
  obtain ⟨a, vs, rfl, o1, dq⟩ := ow.root_inv
  obtain ⟨hA, hl, ha⟩ := o1
  subst hA
  have hl : ks.length = vs.length := hl
  have ha : H a = some (.dK (ks.zip vs)) := ha
  have hS : S a = none := (st.hp.ow a (mem_flat hc (List.mem_singleton_self a))).1
  have hE : B.E0 a = none := (st.hp.ow a (mem_flat hc (List.mem_singleton_self a))).2
  refine ⟨a, _, ha, True.intro, fun od => ?_⟩
  have hSa : Same S (join S (upd H a (.frz od (.dK (ks.zip vs)))) [a]) := join_same fun b hb => by rw [List.mem_singleton.mp hb]; exact hS
  have hja : join S (upd H a (.frz od (.dK (ks.zip vs)))) [a] a = some (.frz od (.dK (ks.zip vs))) := (join_in (List.mem_singleton_self a)).trans upd_same
  have hSH : Same S (upd H a (.frz od (.dK (ks.zip vs)))) := fun b o h => by
    rw [upd_ne (fun e : b = a => by rw [e, hS] at h; cases h)]
    exact st.hp.sh b o h
  have hEH : Same B.E0 (upd H a (.frz od (.dK (ks.zip vs)))) := fun b o h => by
    rw [upd_ne (fun e : b = a => by rw [e, hE] at h; cases h)]
    exact st.hp.e0 b o h
  have st1 : Sit B (join S (upd H a (.frz od (.dK (ks.zip vs)))) [a]) (upd H a (.frz od (.dK (ks.zip vs)))) σ (ρ.set j (some (.sh (.nd (.dcl ks) ds)))) (cs.set j []) := by
    refine st.put hc hSa hEH (join_heap hSH) (fun b h1 h2 => ?_) (fun b hb => ?_) (fun b hb => by cases hb) List.nodup_nil ⟨.ref a, rfl, .sh (Dq.nd' ⟨hl, od, hja⟩ (dq.same hSa))⟩ rfl hx (fun _ _ => rfl)
    · have hn : b ∉ [a] := fun hm => h2 (by rw [List.mem_singleton.mp hm]; exact hE)
      rw [join_out hn]
      exact st.hp.nw b h1 h2
    · have hn := (st.mem_er hc hb).2
      rw [join_out hn, upd_ne (fun e : b = a => hn (by rw [e]; exact List.mem_singleton_self a))]
      exact ⟨(st.hp.ow b (st.mem_er hc hb).1).1, rfl⟩
  refine he _ _ σ _ st1 _ fun x2 c2 S2 H2 s2 f2 => ?_
  have h2a : H2 a = some (.frz od (.dK (ks.zip vs))) := s2.h a _ upd_same
  refine ⟨h2a, ?_⟩
  have hs : Step S H S (upd H2 a (.dK (ks.zip vs))) := by
    refine ⟨Same.refl S, fun b o h => ?_, fun b o h => ?_, fun b h1 h2 => h1⟩
    · by_cases hb : b = a
      · subst hb
        rw [ha] at h
        cases h
        exact upd_same
      · rw [upd_ne hb]
        exact s2.h b o (by rw [upd_ne hb]; exact h)
    · have hb : b ≠ a := fun e => by rw [e, hS] at h; cases h
      rw [upd_ne hb]
      exact s2.sh b o (s2.s b o (hSa b o h))
  have hca : ∀ b ∈ c2, b ≠ a := fun b hb e => by
    have z := (f2.fr b hb).2
    rw [e, upd_same] at z
    cases z
  refine q x2 c2 S _ hs ⟨(f2.ow.lone l).keep (Same.refl S) fun b hb => upd_ne (hca b hb), f2.nd, fun b hb => ?_⟩
  have z := (f2.fr b hb).2
  rw [upd_ne (hca b hb)] at z
  exact ⟨st.hp.sh.free z, z⟩
theorem ej_keys {ks : List Key} {td : TE} (h : Es B td ρ (.nd (.dcl ks) ds)) : Ej B (iKeys td) ρ (ks.map kyD) := fun S H σ cs st R r => h S H σ cs st _ fun x c S1 H1 s1 f1 => by
  obtain ⟨a, vs, rfl, ⟨hl, o, ha⟩, dq⟩ := f1.dq.inv
  refine ⟨a, o, rfl, .inl ⟨ks.zip vs, s1.sh _ _ ha, r _ S1 H1 s1 (wk_of (walk_keys (d := a) (o := o) (kvs := ks.zip vs)) (by rw [List.length_map, List.length_zip, hl, Nat.min_self]) (fun H2 e => e _ _ ha) fun i H2 x H3 S2 hi e1 e2 y => ?_)⟩⟩
  obtain ⟨rfl, k, v, hk, rfl⟩ := y
  refine ⟨S2, Step.refl e2, fun d hd => ?_⟩
  rw [List.getElem?_map] at hd
  rw [List.getElem?_zip_eq_some] at hk
  rw [hk.1] at hd
  cases hd
  exact Dq.of_flat (kyD_fl k)
/-! ## a pair that is given back, its first thing a slot's own -/
theorem s_retT2 {te : TE} (h1 : ρ[i]? = some (some u)) (h2 : Eo B te ρ t) (q : RetOk B D.rt (.nd .tup [u, t])) : Gd B (tRet (tTup (tCons (tVar i) (tCons te tNil)))) D ρ := fun S H σ cs st => by
  obtain ⟨c, x, hc, hx, ow⟩ := st.var h1
  refine ⟨x, hx, h2 S H σ cs st _ fun y c2 S1 H1 s1 f2 => ⟨by rw [sizeLine_eq]; simp only [List.length_cons, List.length_nil]; omega, fun p hp => ?_⟩⟩
  have st1 := st.grow s1
  have nd : c.Nodup := st1.chunk_nd hc
  have hcp : ∀ b ∈ c, b ≠ p := fun b hb e => st1.alloc b (mem_flat hc hb) (by rw [e]; exact hp)
  have hc2p : ∀ b ∈ c2, b ≠ p := fun b hb e => f2.ow.alloc b hb (by rw [e]; exact hp)
  have hcc : ∀ b ∈ c, b ∉ c2 := fun b hb hm => st.alloc b (mem_flat hc hb) (f2.fr b hm).2
  have o1 : Ow B.K S1 (upd H1 p (.tup [x, y])) c x u := (ow.same s1.s s1.h).keep (Same.refl S1) fun b hb => upd_ne (hcp b hb)
  have o2 : Ow B.K S1 (upd H1 p (.tup [x, y])) c2 y t := f2.ow.keep (Same.refl S1) fun b hb => upd_ne (hc2p b hb)
  have sn := same_new (o := .tup [x, y]) hp
  refine q (.ref p) ([p] ++ ([c, c2] : List (List Addr)).flatten) S1 _ st1.hp.s0 (st1.hp.e0.trans sn) (st1.hp.sh.trans sn) st1.hp.nw (.nd (A := [p]) (cs := [c, c2]) (vs := [x, y]) ⟨rfl, True.intro, upd_same⟩ rfl rfl (fun i v t' c' g1 g2 g3 => ?_) rfl) ?_ fun b hb => ?_
  · match i with
    | 0 =>
      cases g1
      cases g2
      cases g3
      exact o1
    | 1 =>
      cases g1
      cases g2
      cases g3
      exact o2
    | i + 2 => simp at g1
  · simp only [List.flatten_cons, List.flatten_nil, List.append_nil, List.singleton_append, List.nodup_cons, List.mem_append, not_or, List.nodup_append]
    exact ⟨⟨fun h => hcp p h rfl, fun h => hc2p p h rfl⟩, nd, f2.nd, fun a ha b hb e => hcc a ha (e ▸ hb)⟩
  · simp only [List.flatten_cons, List.flatten_nil, List.append_nil, List.singleton_append, List.mem_cons, List.mem_append] at hb
    rcases hb with rfl | hb | hb
    · exact ⟨st1.hp.sh.free hp, st1.hp.e0.free hp⟩
    · exact st1.hp.ow b (mem_flat hc hb)
    · exact ⟨(f2.fr b hb).1, st.hp.e0.free (f2.fr b hb).2⟩
/-! ## places: through tuples, read -/
theorem loc_ixT {ta tb : TE} {us : List Tr} {m : Nat} (hl : Loc B ta ρ i p) (hb : Eb B tb ρ (.int n)) (hT : ρ[i]? = some (some T)) (hat : T.at p = some (.nd .tup us)) (hm : ixN us.length n = some m) : Loc B (tOp (rIxA B.K) ta tb) ρ i (p ++ [m]) := fun S H σ cs x0 st hx Q q =>
  hl S H σ cs x0 st hx _ fun y S1 H1 s1 va => hb S1 H1 σ cs (st.grow s1) _ fun x2 S2 H2 s2 g => by
    cases g
    obtain ⟨x0', c1, y', hx', va', ow, _, _, _⟩ := (st.grow (s1.trans s2)).at_ hT hat
    rw [hx] at hx'
    cases hx'
    cases (va.same s2.h).uniq va'
    cases ow with
    | @nd a _ vs _ cs' A _ h l l2 f hc =>
      obtain ⟨_, _, ho⟩ := h
      obtain ⟨_, hlt, _, _⟩ := ixN_seq hm
      have hv : vs[m]? = some (vs[m]'(by omega)) := List.getElem?_eq_getElem _
      exact .inr (.inl ⟨a, vs, n, vs[m]'(by omega), rfl, rfl, SqT.of ho, at_of (by rw [l]; exact hm) hv, q _ S2 H2 (s1.trans s2) (va'.snoc ho hv)⟩)
theorem er_loc {te : TE} (hl : Loc B te ρ i p) (hT : ρ[i]? = some (some T)) (hat : T.at p = some (.nd k (ds.map Tr.sh))) : Er B te ρ k ds := fun S H σ cs st Q q => by
  obtain ⟨x0, _, _, hx, _⟩ := st.at_ hT hat
  refine hl S H σ cs x0 st hx _ fun y S1 H1 s1 va => ?_
  obtain ⟨x0', a, vs, A, hx', va', o1, dq, _⟩ := (st.grow s1).root hT hat
  rw [hx] at hx'
  cases hx'
  cases va.uniq va'
  exact q a vs S1 H1 s1 o1.stands dq
/-! ## found.append(xs.pop(n)) -/
theorem q_appPop {te : TE} {es : List Da} {m : Nat} (hij : i ≠ j) (he : Eb B te ρ (.int n)) (hi : ρ[i]? = some (some (ol ds))) (hj : ρ[j]? = some (some (ol es))) (hm : ixN es.length n = some m) (hd : es[m]? = some d) (hz : ds.length < sizeLine) (hs : es.length < sizeLine)
    (k : Gd B s D ((ρ.set j (some (ol (es.eraseIdx m)))).set i (some (ol (ds ++ [d]))))) :
    Gd B (tSeq (tDrop (tBM B.K "list" rAppend (tVar i) (tCons (tBM B.K "list" rPopAt (tVar j) (tCons te tNil)) tNil))) s) D ρ := fun S H σ cs st => by
  obtain ⟨x0, a, vs, A, hx, va, o1, dq, _⟩ := st.root (p := []) hi rfl
  cases va
  have hsl := sizeLine_eq
  refine ⟨_, hx, .inl ⟨rfl, vs, SqL.of o1.lst.2⟩, ?_⟩
  obtain ⟨y0, b, ws, A2, hy, va2, o2, dq2, _⟩ := st.root (p := []) hj rfl
  cases va2
  refine ⟨_, hy, .inl ⟨rfl, ws, SqL.of o2.lst.2⟩, he S H σ cs st _ fun z S1 H1 s1 f1 => ?_⟩
  cases f1
  have st1 := st.grow s1
  obtain ⟨y0', b', ws', A3, hy', va3, o3, dq3, g3⟩ := st1.root (p := []) hj rfl
  cases va3
  rw [hy] at hy'
  cases hy'
  have hbl := o3.lst.2
  obtain ⟨sq1, sq2, sq3, sq4⟩ := ixN_seq hm
  obtain ⟨v, hv, dv⟩ := dq3.at hd
  refine ⟨b, ws', n, m, v, rfl, rfl, hbl, by omega, by omega, by rw [dq3.1]; exact sq1, hv, ?_⟩
  have dqe : DqAll B.K S1 (ws'.eraseIdx m) (es.eraseIdx m) := by
    rw [List.eraseIdx_eq_take_drop_succ, List.eraseIdx_eq_take_drop_succ]
    exact (dq3.take _).append (dq3.drop _)
  obtain ⟨cs4, st4⟩ := g3 .lst (ws'.eraseIdx m) (es.eraseIdx m) (upd H1 b (.lst (ws'.eraseIdx m))) (fun b hb => upd_ne hb) ⟨o3.lst.1, True.intro, upd_same⟩ dqe
  have hi2 : (ρ.set j (some (ol (es.eraseIdx m))))[i]? = some (some (ol ds)) := by
    rw [set_ne hij]
    exact hi
  obtain ⟨x0', a', vs', A4, hx', va4, o4, dq4, g4⟩ := st4.root (p := []) hi2 rfl
  cases va4
  rw [hx] at hx'
  cases hx'
  refine ⟨a, vs', v, rfl, rfl, o4.lst.2, by rw [dq4.1]; exact hz, ?_⟩
  obtain ⟨cs5, st5⟩ := g4 .lst (vs' ++ [v]) (ds ++ [d]) (upd (upd H1 b (.lst (ws'.eraseIdx m))) a (.lst (vs' ++ [v]))) (fun b hb => upd_ne hb) ⟨o4.lst.1, True.intro, upd_same⟩ (dq4.append (DqAll.cons dv DqAll.nil))
  exact k S1 _ σ cs5 st5
end
end Ly

namespace Ly
open PySem L2 Lo
/-! ## classes of the program's own -/
def methB (K : PySem.W.Frag) (C m D : Str) : Bool := He.eqO (PySem.W.findIn K (.ref (He.ga K C)) m) (some (some (.ref (He.ma K (He.ga K D) m)))) && (PySem.W.isFn K (.ref (He.ma K (He.ga K D) m)) && PySem.W.keepIn K (.ref (He.ma K (He.ga K D) m)))
theorem methB_ok {K : PySem.W.Frag} {C m D : Str} (h : methB K C m D = true) : Meth K (He.ga K C) m (He.ma K (He.ga K D) m) := by
  obtain ⟨h1, h⟩ := He.ba h
  obtain ⟨h2, h3⟩ := He.ba h
  exact ⟨He.eqO_ok h1, h2, h3⟩
def mkB (K : PySem.W.Frag) (C D : Str) : Bool := PySem.W.makesIn K (He.ga K C) && (He.eqO (PySem.W.findIn K (.ref (He.ga K C)) "__init__") (some (some (.ref (He.ma K (He.ga K D) "__init__")))) && (PySem.W.isFn K (.ref (He.ma K (He.ga K D) "__init__")) && PySem.W.keepIn K (.ref (He.ga K C))))
theorem mkB_ok {K : PySem.W.Frag} {C D : Str} (h : mkB K C D = true) : Mk K (He.ga K C) (He.ma K (He.ga K D) "__init__") := by
  obtain ⟨h1, h⟩ := He.ba h
  obtain ⟨h2, h⟩ := He.ba h
  obtain ⟨h3, h4⟩ := He.ba h
  exact ⟨h1, He.eqO_ok h2, h3, h4⟩
/-- C.m, read off the class, is the function at g -/
structure CFn (K : PySem.W.Frag) (C : Addr) (m : Str) (g : Addr) : Prop where
  rd : PySem.W.readsIn K C (.type "type") = true
  sg : PySem.W.specialIn K (.ref C) "__getattribute__" = some (some (.builtin "type.__getattribute__"))
  at_ : PySem.W.findCls K (.ref C) (.type "type") m = some (.val (.ref g))
  kp : PySem.W.keepIn K (.ref g) = true
def valB (o : Option PySem.W.CFound) (v : Value) : Bool := match o with
  | some (.val u) => decide (u = v)
  | _ => false
def cfnB (K : PySem.W.Frag) (C m D : Str) : Bool := PySem.W.readsIn K (He.ga K C) (.type "type") && (He.eqO (PySem.W.specialIn K (.ref (He.ga K C)) "__getattribute__") (some (some (.builtin "type.__getattribute__"))) && (valB (PySem.W.findCls K (.ref (He.ga K C)) (.type "type") m) (.ref (He.ma K (He.ga K D) m)) && PySem.W.keepIn K (.ref (He.ma K (He.ga K D) m))))
theorem cfnB_ok {K : PySem.W.Frag} {C m D : Str} (h : cfnB K C m D = true) : CFn K (He.ga K C) m (He.ma K (He.ga K D) m) := by
  obtain ⟨h1, h⟩ := He.ba h
  obtain ⟨h2, h⟩ := He.ba h
  obtain ⟨h3, h4⟩ := He.ba h
  refine ⟨h1, He.eqO_ok h2, ?_, h4⟩
  unfold valB at h3
  split at h3
  · rename_i u e
    rw [e, of_decide_eq_true h3]
  · cases h3
def tCFn (C : Addr) (sp : Sp) (dvs : List V) (E : XK) (ta : TE) (t : TA) : TE := fun σ H Q => ta σ H fun x H1 => x = .ref C ∧ t σ H1 fun vs H2 => sp (vs ++ dvs) H2 Q E
def tMakeS (C : Addr) (sp : Sp) (E : L2.St → XK) (t : TA) : TE := fun σ H Q => t σ H fun vs H1 => ∀ x dx, H1 x = none → H1 dx = none → dx ≠ x → sp (.ref x :: vs) (upd (upd H1 dx (.own x)) x (.ins C dx [])) (fun v H2 => v = .non ∧ Q (.ref x) H2) (E σ)
section
open PySem.Spec PyProof.Rows
variable {X : Cx} {CX : CXT} {k : Nat} {f g C : Addr} {fd : FuncData} {ps : List Str} {sp : Sp} {x m : Str} {p pos apos : Pos} {e o : Expr} {es : List Expr} {ta : TE} {t : TA} {pl : Sem Bool} {ds : List Value} {dvs : List V}
theorem pe_cfn {E : XK} (he : PE X o ta) (c : CFn X.K C m g) (F : FnOk X.prog X.w X.K X.mg X.base CX k g fd ps sp) (hr : Room k X.A) (hb : Binds X.K fd ps ds) (hd : Vals dvs ds) (hx : Passes CX X E) (ha : PA X (e :: es) t)
    (hst : starEach (e :: es) X.env = (false, eval e X.env) :: starEach es X.env := by rfl) (hpl : (backTo pos (starEach es X.env)).any (·.1) = false := by rfl)
    (ht : eval (.Call (.Attribute o m apos) (e :: es) [] pos) X.env = (do
      let ov ← eval o X.env
      standAt apos.atName
      let (f, first) ← holding [ov] (getMethod ov m pl)
      callWith pos f first (backTo pos (starEach (e :: es) X.env)) (backToKw pos (keywordEach [] X.env))) := by rfl) :
    PE X (.Call (.Attribute o m apos) (e :: es) [] pos) (tCFn C sp dvs E ta t) := by
  refine ⟨fun pins s σ H Q I h => ?_⟩
  refine PySem.W.methodCall_KW (pl := pl) (thn (he.run pins s σ H _ I h) fun u s1 ⟨x, H1, I1, rx, ex, q⟩ => ?_) ht
  subst ex
  obtain rfl : u = Value.ref C := rx
  refine PySem.W.method_cls I1.kIn c.sg (ClX.getcval_ok I1 ⟨c.rd, c.sg⟩ (v := .ref g) (u := .ref g) ⟨c.at_, rfl⟩ fun s2 I2 => ?_)
  refine PySem.W.callWith_K (first := []) (h₀ := X.base) I.ok.mod.kin c.kp (thn (ha.run pos pins s2 σ H1 _ I2 q) fun us s3 ⟨vs, H2, I3, r, q2⟩ => ⟨I3.kIn, ?_⟩) hst hpl
  exact run_fn F hr hb hd hx I3 r q2
theorem run_makeS {pins : List (Addr × Obj)} {σ : L2.St} {H : Hp} {s : Shared} {Q : VK} {us : List Value} {vs : List V} {E : XK} (M : Mk X.K C f) (F : FnOk X.prog X.w X.K X.mg X.base CX k f fd ps sp) (hr : Room (k + 1) X.A) (hb : Binds X.K fd ps [])
    (hx : PassesAt CX X σ E) (I : Inv X pins σ H s) (r : Vals vs us)
    (h : ∀ x dx, H x = none → H dx = none → dx ≠ x → sp (.ref x :: vs) (upd (upd H dx (.own x)) x (.ins C dx [])) (fun v H2 => v = .non ∧ Q (.ref x) H2) E) :
    wpAny (model X.prog X.w) X.A (call (.ref C) us) (EP X pins σ Q) X.xe s := by
  have hq := h (s.heap.objs.size + 1) s.heap.objs.size (I.hok.fresh (Nat.le_succ _)) (I.hok.fresh (Nat.le_refl _)) (Nat.ne_of_lt (Nat.lt_succ_self _))
  have I2 := Inv.made (C := C) I
  have r2 : Vals (V.ref (s.heap.objs.size + 1) :: vs) (Value.ref (s.heap.objs.size + 1) :: us) := .cons rfl r
  have hl : (Value.ref (s.heap.objs.size + 1) :: us ++ []).length = ps.length := by
    rw [List.append_nil, ← r2.length]
    exact F.len _ _ _ _ hq
  have b := hb _ (Value.ref (s.heap.objs.size + 1) :: us) I2.kIn hl
  rw [List.append_nil] at b
  refine wpAny_call (make_map (f := f) I.kIn M.makes M.init (beq_iff_eq.mp M.fn) (codeAny_mono (F.run _ X.stack _ _ ⟨Value.ref (s.heap.objs.size + 1) :: us, []⟩ (Value.ref (s.heap.objs.size + 1) :: us) _ _ E (hr.make C us [])
    (I2.env0.make C us []) b r2 hq) fun r s' hq' => ?_))
  rcases r with e | fl
  · exact hx pins _ _ e s' I2 hq'
  · cases fl with
    | ret u =>
      obtain ⟨v, H', I3, rv, ev, q3⟩ := I2.after hq'
      subst ev
      exact ⟨rv, ⟨V.ref (s.heap.objs.size + 1), H', I3, rfl, q3⟩⟩
    | _ => exact False.elim hq'
theorem pe_makeS {E : L2.St → XK} (M : Mk X.K C f) (F : FnOk X.prog X.w X.K X.mg X.base CX k f fd ps sp) (hr : Room (k + 1) X.A) (hg : Gl X x) (hm : X.mg x = some (.ref C)) (hb : Binds X.K fd ps []) (hx : ∀ σ, PassesAt CX X σ (E σ))
    (ha : PA X (e :: es) t) (hdb : (x == ("__debug__" : Str)) = false := by decide) (he : starEach (e :: es) X.env = (false, eval e X.env) :: starEach es X.env := by rfl) (hpl : (backTo pos (starEach es X.env)).any (·.1) = false := by rfl) :
    PE X (.Call (.Name x p) (e :: es) [] pos) (tMakeS C sp E t) := by
  refine ⟨fun pins s σ H Q I h => ?_⟩
  refine wpAny_Call_Name_kw (ld_glob I hg hm ?_ hdb)
  refine PySem.W.callWith_K (h₀ := X.base) I.ok.mod.kin M.kp (thn (ha.run pos pins s σ H _ I h) fun us s1 ⟨vs, H1, I1, r, q⟩ => ⟨I1.kIn, ?_⟩) he hpl
  exact run_makeS M F hr hb (hx σ) I1 r q
end
/-! ## promises that change their first argument -/
open Classical in
noncomputable def off (H : Hp) (c : List Addr) : Hp := fun a => if a ∈ c then none else H a
theorem off_in {H : Hp} {c : List Addr} {a : Addr} (h : a ∈ c) : off H c a = none := by unfold off; rw [if_pos h]
theorem off_out {H : Hp} {c : List Addr} {a : Addr} (h : a ∉ c) : off H c a = H a := by unfold off; rw [if_neg h]
abbrev RelM := Tr → List Da → Out → Prop
def RetM (B : Bs) (x : V) (Q : VK) (t : Tr) : Prop := ∀ c S' H', Same B.S0 S' → Same B.E0 H' → Same S' H' → (∀ a, B.S0 a = none → B.E0 a ≠ none → S' a = none) → Ow B.K S' H' c x t → c.Nodup → (∀ a ∈ c, S' a = none ∧ B.E0 a = none) → Q .non H'
def OutM (K : PySem.W.Frag) (S H : Hp) (c0 : List Addr) (x : V) (Q : VK) (E : XK) : Out → Prop
  | .ret t => RetM ⟨K, S, off H c0⟩ x Q t
  | .exc C a => XOk K (off H c0) E C a
def SpM (K : PySem.W.Frag) (R : RelM) : Sp := fun vs H Q E => ∃ x ws t0 ds c0 S o, vs = x :: ws ∧ R t0 ds o ∧ Ow K S H c0 x t0 ∧ c0.Nodup ∧ (∀ a ∈ c0, S a = none) ∧ DqAll K S ws ds ∧ Same S H ∧ OutM K S H c0 x Q E o
theorem spm_len {K : PySem.W.Frag} {R : RelM} {vs : List V} {H : Hp} {Q : VK} {E : XK} {m : Nat} (hR : ∀ t ds o, R t ds o → ds.length + 1 = m) (h : SpM K R vs H Q E) : vs.length = m := by
  obtain ⟨x, ws, t0, ds, c0, S, o, rfl, r, _, _, _, dq, _, _⟩ := h
  rw [List.length_cons, dq.1]
  exact hR t0 ds o r
section
variable {B : Bs} {S H S' H' : Hp} {σ : L2.St} {ρ : Rho} {c c0 : List Addr} {te ta tb : TE} {ts : TA} {x : V} {v : V} {t t0 t1 u : Tr} {d : Da} {ds es : List Da} {k : NK} {i j n : Nat} {K : PySem.W.Frag} {us : List Tr} {s : TS} {D : Ends} {a : Addr} {C Cb m f : Str} {ns : List Str} {vs ws : List V} {E : XK} {Q : VK} {N : List Str}
theorem body_gdM {t : TS} (ow : Ow K S H c0 x t0) (nd : c0.Nodup) (fr : ∀ a ∈ c0, S a = none) (h : DqAll K S ws ds) (e : Same S H) (hn : N.length = ds.length + 1 + n) (g : Gd ⟨K, S, off H c0⟩ t D (some t0 :: (ds.map (fun d => some (Tr.sh d)) ++ List.replicate n none))) : t D (L2.start N (x :: ws)) H := by
  have hz : L2.start N (x :: ws) = some x :: (ws.map some ++ List.replicate n none) := by
    unfold L2.start
    rw [hn, List.map_cons, List.length_cons, h.1, List.cons_append]
    congr 3
    omega
  rw [hz]
  have z0 := sit_start (n := n) h e
  refine g S H _ (c0 :: List.replicate (ds.length + n) []) ⟨⟨Same.refl S, fun b o q => ?_, e, fun b q _ => q, fun b hb => ?_, ?_⟩, ?_, ?_, fun i c v e1 h1 h2 h3 => ?_⟩
  · have q : off H c0 b = some o := q
    by_cases hb : b ∈ c0
    · rw [off_in hb] at q
      cases q
    · rw [off_out hb] at q
      exact q
  · have hb2 : b ∈ c0 := by simpa using hb
    exact ⟨fr b hb2, off_in hb2⟩
  · simpa using nd
  · have := z0.lc
    simp only [List.length_cons]
    rw [← this]
  · have := z0.ls
    simp only [List.length_cons]
    rw [← this]
  · cases i with
    | zero =>
      cases h1
      cases h2
      cases h3
      exact ⟨x, rfl, ow⟩
    | succ i => exact z0.en i c v e1 h1 h2 h3
theorem Ow.slf_val (h : Ow K S H c v (.nd (.slf a C ns) us)) : v = .ref a := by
  cases h with
  | nd h l l2 f hc => rw [h.1]
theorem Ow.unslf (h : Ow K S H c v (.nd (.slf a C ns) us)) : Ow K S H c v (.nd (.ins C ns) us) := by
  cases h with
  | nd h l l2 f hc => exact .nd h.2 l l2 f hc
theorem Dq.unslf (h : Dq K H v (.nd (.slf a C ns) ds)) : Dq K H v (.nd (.ins C ns) ds) := by
  obtain ⟨b, vs, rfl, h1, h2⟩ := h.inv
  exact Dq.nd' (k := .ins C ns) h1 h2
theorem eb_unslf (h : Eb B te ρ (.nd (.slf a C ns) ds)) : Eb B te ρ (.nd (.ins C ns) ds) := fun S H σ cs st Q q => h S H σ cs st Q fun x S' H' s f => q x S' H' s f.unslf
/-- the body's end -/
theorem en_retM {S0 E0 : Hp} (hT : ρ[0]? = some (some (.nd (.slf a C ns) us))) (q : RetM ⟨K, S0, E0⟩ (.ref a) Q (.nd (.slf a C ns) us)) : En ⟨K, S0, E0⟩ (fun _ H' => Q .non H') ρ := fun S H σ cs st => by
  obtain ⟨c, x, hc, hx, ow⟩ := st.var hT
  have e := ow.slf_val
  subst e
  exact q c S H st.hp.s0 st.hp.e0 st.hp.sh st.hp.nw ow (st.chunk_nd hc) fun b hb => st.hp.ow b (mem_flat hc hb)
theorem RetM.up {S1 S0 E0 : Hp} {x : V} (l : Lb ⟨K, S0, E0⟩ S1) (q : RetM ⟨K, S0, E0⟩ x Q t) : RetM ⟨K, S1, E0⟩ x Q t := fun c S' H' s e sh nw ow nd fr => q c S' H' (l.s.trans s) e sh (fun a h1 h2 => nw a (l.nw a h1 h2) h2) ow nd fr
/-! making -/
theorem off_new {H1 : Hp} {x dx : Addr} {o1 o2 : HO} (hx : H1 x = none) (hdx : H1 dx = none) : off (upd (upd H1 dx o1) x o2) [x, dx] = H1 := funext fun b => by
  by_cases hb : b ∈ [x, dx]
  · rw [off_in hb]
    simp only [List.mem_cons, List.not_mem_nil, or_false] at hb
    rcases hb with rfl | rfl
    · exact hx.symm
    · exact hdx.symm
  · rw [off_out hb]
    simp only [List.mem_cons, List.not_mem_nil, or_false, not_or] at hb
    rw [upd_ne hb.1, upd_ne hb.2]
theorem spm_make {R : RelM} {H1 : Hp} {x dx : Addr} {o : Out} (hx : H1 x = none) (hdx : H1 dx = none) (hne : dx ≠ x) (sh : Same S H1) (dq : DqAll K S vs ds) (r : R (.nd (.slf x C []) []) ds o)
    (q : match o with
      | .ret t => RetM ⟨K, S, H1⟩ (.ref x) Q t
      | .exc D a => XOk K H1 E D a) : SpM K R (.ref x :: vs) (upd (upd H1 dx (.own x)) x (.ins (He.ga K C) dx [])) Q E := by
  have e1 : Same H1 (upd (upd H1 dx (.own x)) x (.ins (He.ga K C) dx [])) := (same_new hdx).trans (same_new (by rw [upd_ne (Ne.symm hne)]; exact hx))
  refine ⟨.ref x, vs, _, ds, [x, dx], S, o, rfl, r, .nd (A := [x, dx]) (vs := []) (cs := []) ⟨rfl, dx, rfl, hne, rfl, upd_same, by rw [upd_ne hne]; exact upd_same⟩ rfl rfl (fun i v t c h1 => by simp at h1) (by simp), by simp [Ne.symm hne], fun b hb => ?_, dq, sh.trans e1, ?_⟩
  · simp only [List.mem_cons, List.not_mem_nil, or_false] at hb
    rcases hb with rfl | rfl
    · exact sh.free hx
    · exact sh.free hdx
  · cases o with
    | ret t =>
      show RetM ⟨K, S, off _ [x, dx]⟩ (.ref x) Q t
      rw [off_new hx hdx]
      exact q
    | exc D a =>
      show XOk K (off _ [x, dx]) E D a
      rw [off_new hx hdx]
      exact q
theorem make_ret {S1 H1 : Hp} {x : Addr} {Q : VK} (s1 : Step S H S1 H1) (q : ∀ x c S' H', Step S H S' H' → Fr K H S' H' c x (.nd (.ins C ns) us) → Q x H') : RetM ⟨K, S1, H1⟩ (.ref x) (fun v H2 => v = .non ∧ Q (.ref x) H2) (.nd (.slf x C ns) us) := fun c S' H' g1 g2 g3 g4 ow nd fr =>
  ⟨rfl, q (.ref x) c S' H' (s1.trans ⟨g1, g2, g3, g4⟩) ⟨ow.unslf, nd, fun b hb => ⟨(fr b hb).1, s1.h.free (fr b hb).2⟩⟩⟩
theorem eo_make {R : RelM} (h : Eas B ts ρ ds) (r : ∀ x, R (.nd (.slf x C []) []) ds (.ret (.nd (.slf x C ns) us))) : Eo B (tMake (He.ga B.K C) (SpM B.K R) [] E ts) ρ (.nd (.ins C ns) us) := fun S H σ cs st Q q => h S H σ cs st _ fun vs S1 H1 s1 f1 => fun x dx hx hdx hne => by
  rw [List.append_nil]
  exact spm_make hx hdx hne s1.sh f1 (r x) (make_ret s1 q)
theorem eo_makeS {R : RelM} {E : L2.St → XK} (h : Eas B ts ρ ds) (r : ∀ x, R (.nd (.slf x C []) []) ds (.ret (.nd (.slf x C ns) us))) : Eo B (tMakeS (He.ga B.K C) (SpM B.K R) E ts) ρ (.nd (.ins C ns) us) := fun S H σ cs st Q q => h S H σ cs st _ fun vs S1 H1 s1 f1 => fun x dx hx hdx hne =>
  spm_make hx hdx hne s1.sh f1 (r x) (make_ret s1 q)
/-- all that is handed in may be read where it was found -/
theorem ex_make {R : RelM} {C2 : Str} {a : Option V} (h : Eas B ts ρ ds) (r : ∀ x, R (.nd (.slf x C []) []) ds (.exc C2 a)) : Ex B (tMake (He.ga B.K C) (SpM B.K R) [] E ts) ρ E C2 a := fun S H σ cs st Q q => h S H σ cs st _ fun vs S1 H1 s1 f1 => fun x dx hx hdx hne => by
  rw [List.append_nil]
  exact spm_make hx hdx hne s1.sh f1 (r x) (XOk.later s1.h q)
theorem exS_make {R : RelM} {W : WX} {C2 : Str} {a : Option V} (h : Eas B ts ρ ds) (r : ∀ x, R (.nd (.slf x C []) []) ds (.exc C2 a)) : ExS B (tMakeS (He.ga B.K C) (SpM B.K R) (WE W) ts) ρ W C2 a := fun S H σ cs st Q q => h S H σ cs st _ fun vs S1 H1 s1 f1 => fun x dx hx hdx hne =>
  spm_make hx hdx hne s1.sh f1 (r x) (XOk.later s1.h q)
/-! Base.m(x, ..), x a slot's own -/
theorem q_cfn {R : RelM} (hT : ρ[i]? = some (some t0)) (ha : Eas B ts ρ ds) (r : R t0 ds (.ret t1)) (k : Gd B s D (ρ.set i (some t1))) : Gd B (tSeq (tDrop (tCFn (He.ga B.K Cb) (SpM B.K R) [] E (tC (.ref (He.ga B.K Cb))) (tCons (tVar i) ts))) s) D ρ := fun S H σ cs st => by
  obtain ⟨c, x, hc, hx, ow⟩ := st.var hT
  refine ⟨rfl, x, hx, ha S H σ cs st _ fun vs S1 H1 s1 f1 => ?_⟩
  have st1 := st.grow s1
  show SpM B.K R ((x :: vs) ++ []) H1 _ E
  rw [List.append_nil]
  refine ⟨x, vs, t0, ds, c, S1, .ret t1, rfl, r, ow.same s1.s s1.h, st1.chunk_nd hc, fun b hb => (st1.hp.ow b (mem_flat hc hb)).1, f1, s1.sh, fun c1 S' H' g1 g2 g3 g4 ow1 nd1 fr1 => ?_⟩
  have hE : ∀ b, B.E0 b ≠ none → b ∉ c := fun b h hm => h (st1.hp.ow b (mem_flat hc hm)).2
  have ho : ∀ b o, b ∉ c → H1 b = some o → H' b = some o := fun b o hb h => g2 b o ((off_out hb).trans h)
  have hn : ∀ b, b ∉ c → S1 b = none → H1 b ≠ none → S' b = none := fun b hb h1 h2 => g4 b h1 (by
    show off H1 c b ≠ none
    rw [off_out hb]
    exact h2)
  have st2 : Sit B S' H' σ (ρ.set i (some t1)) (cs.set i c1) := by
    refine st1.put hc g1 (fun b o q => ho b o (hE b (by rw [q]; exact fun z => nomatch z)) (st1.hp.e0 b o q)) g3 (fun b h1 h2 => ?_) (fun b hb => ?_) (fun b hb => ?_) nd1 ⟨x, rfl, ow1⟩ rfl hx fun _ _ => rfl
    · have hb := hE b h2
      cases q : B.E0 b with
      | none => exact absurd q h2
      | some o => exact hn b hb (st1.hp.nw b h1 h2) (by rw [st1.hp.e0 b o q]; exact fun z => nomatch z)
    · obtain ⟨m1, m2⟩ := st1.mem_er hc hb
      cases q : H1 b with
      | none => exact absurd q (st1.alloc b m1)
      | some o => exact ⟨hn b m2 (st1.hp.ow b m1).1 (by rw [q]; exact fun z => nomatch z), ho b o m2 q⟩
    · obtain ⟨z1, z2⟩ := fr1 b hb
      have z2 : off H1 c b = none := z2
      by_cases hm : b ∈ c
      · exact ⟨z1, (st1.hp.ow b (mem_flat hc hm)).2, fun he => (st1.mem_er hc he).2 hm⟩
      · rw [off_out hm] at z2
        exact ⟨z1, st1.hp.e0.free z2, fun he => st1.alloc b (st1.mem_er hc he).1 z2⟩
  exact k S' H' σ _ st2
/-! fields, methods -/
def fldD : List Str → List Da → Str → Option Da
  | n :: ns, d :: ds, f => if f == n then some d else fldD ns ds f
  | _, _, _ => none
theorem fldD_at : ∀ {ns : List Str} {vs : List V} {ds : List Da}, ns.length = vs.length → DqAll K H vs ds → fldD ns ds f = some d → ∃ v, (ns.zip vs).lookup f = some v ∧ Dq K H v d
  | [], _, _, _, _, h => by simp [fldD] at h
  | n :: ns, [], _, l, _, _ => by simp at l
  | n :: ns, v :: vs, [], _, dq, _ => absurd dq.1 (by simp)
  | n :: ns, v :: vs, d0 :: ds, l, dq, h => by
    unfold fldD at h
    rw [List.zip_cons_cons, List.lookup_cons]
    cases e : f == n with
    | true =>
      rw [e, if_pos rfl] at h
      cases h
      exact ⟨v, rfl, dq.head⟩
    | false =>
      rw [e, if_neg Bool.false_ne_true] at h
      exact fldD_at (by simpa using l) dq.tail h
theorem fld_no : ∀ {ns : List Str} {vs : List V}, m ∉ ns → (ns.zip vs).lookup m = none
  | [], _, _ => rfl
  | n :: ns, [], _ => rfl
  | n :: ns, v :: vs, h => by
    rw [List.zip_cons_cons, List.lookup_cons]
    have : (m == n) = false := by
      rw [beq_eq_false_iff_ne]
      exact fun e => h (by rw [e]; exact List.mem_cons_self)
    rw [this]
    exact fld_no fun hm => h (List.mem_cons_of_mem _ hm)
theorem putF_new {y : V} : ∀ {fs : List (Str × V)}, fs.lookup f = none → putF f y fs = fs ++ [(f, y)]
  | [], _ => rfl
  | (n, v) :: r, h => by
    rw [List.lookup_cons] at h
    unfold putF
    cases e : f == n with
    | true => rw [e] at h; cases h
    | false =>
      rw [e] at h
      have ih := putF_new (y := y) (fs := r) h
      have e2 : ¬ n = f := fun z => by
        rw [z] at e
        simp at e
      simp [e2, ih]
theorem Stands.ins (h : Stands K H a (.ins C ns) vs) : ns.length = vs.length ∧ ∃ dx, H a = some (.ins (He.ga K C) dx (ns.zip vs)) := h
theorem eb_fld (h : Eb B te ρ (.nd (.ins C ns) ds)) (c : Cls B.K (He.ga B.K C)) (n : NoAttr B.K (He.ga B.K C) f) (e : fldD ns ds f = some d) : Eb B (tFld B.K te f) ρ d := fun S H σ cs st Q q => h S H σ cs st _ fun x S1 H1 s1 f1 => by
  obtain ⟨a, vs, rfl, g1, g2⟩ := f1.inv
  obtain ⟨hl, dx, ha⟩ := g1.ins
  obtain ⟨v, hv, dv⟩ := fldD_at hl g2 e
  exact ⟨a, _, dx, _, v, rfl, ha, c, n, hv, q v S1 H1 s1 dv⟩
theorem es_fld (h : Er B te ρ (.ins C ns) ds) (c : Cls B.K (He.ga B.K C)) (n : NoAttr B.K (He.ga B.K C) f) (e : fldD ns ds f = some d) : Es B (tFld B.K te f) ρ d := fun S H σ cs st Q q => h S H σ cs st _ fun a vs S1 H1 s1 f1 f2 => by
  obtain ⟨hl, dx, ha⟩ := f1.ins
  obtain ⟨v, hv, dv⟩ := fldD_at hl f2 e
  exact ⟨a, _, dx, _, v, rfl, ha, c, n, hv, q v [] S1 H1 s1 (.sh dv)⟩
theorem q_fld (he : Es B te ρ d) (hT : ρ[i]? = some (some (.nd (.slf a C ns) us))) (c : Cls B.K (He.ga B.K C)) (n : NoAttr B.K (He.ga B.K C) f) (hf : f ∉ ns) (hl : ns.length < 1000)
    (k : Gd B s D (ρ.set i (some (.nd (.slf a C (ns ++ [f])) (us ++ [.sh d]))))) : Gd B (tSeq (sFld B.K (tVar i) te f) s) D ρ := fun S H σ cs st => he S H σ cs st _ fun y c1 S1 H1 s1 f1 => by
  have st1 := st.grow s1
  obtain ⟨x0, c1, y0, hx, va, ow, nd, mem, g⟩ := st1.at_ (p := []) hT rfl
  cases va
  cases ow with
  | @nd b _ vs _ cs' A _ o1 l l2 fo hc =>
    obtain ⟨rfl, dx, rfl, hne, hlen, hb, hd⟩ := o1
    have hp : putF f y (ns.zip vs) = (ns ++ [f]).zip (vs ++ [y]) := by
      rw [List.zip_append hlen]
      exact putF_new (fld_no hf)
    refine ⟨_, hx, b, _, dx, _, rfl, hb, c, n, by rw [List.length_zip, hlen, Nat.min_self, ← hlen]; exact hl, ?_⟩
    rw [hp]
    have nd0 := nd
    rw [hc, List.nodup_append] at nd0
    have hnb : ∀ z ∈ cs'.flatten, z ≠ b := fun z hz e => nd0.2.2 b (by simp) z hz e.symm
    have oa : OwAll B.K S1 (upd H1 b (.ins (He.ga B.K C) dx ((ns ++ [f]).zip (vs ++ [y])))) (cs' ++ [[]]) (vs ++ [y]) (us ++ [.sh d]) := OwAll.snoc (OwAll.keep ⟨l, l2, fo⟩ (Same.refl S1) fun z hz => upd_ne (hnb z hz)) (.sh f1.dq)
    have hfl : c1 = [b, dx] ++ (cs' ++ [[]]).flatten := by
      rw [hc]
      simp
    obtain ⟨cs4, st4⟩ := g (upd H1 b (.ins (He.ga B.K C) dx ((ns ++ [f]).zip (vs ++ [y])))) c1 (.nd (.slf b C (ns ++ [f])) (us ++ [.sh d])) (fun z o hz ho => by
      rw [upd_ne (fun e : z = b => hz (by rw [e, hc]; simp))]
      exact ho) (.nd (A := [b, dx]) (cs := cs' ++ [[]]) (vs := vs ++ [y]) ⟨rfl, dx, rfl, hne, by simp [hlen], upd_same, by rw [upd_ne hne]; exact hd⟩ oa.1 oa.2.1 oa.2.2 hfl) nd (fun z hz => ⟨(st1.hp.ow z (mem z hz)).1, .inl hz⟩)
    exact k S1 _ σ cs4 st4
theorem eb_meth {R : Rel} (h : Eb B ta ρ (.nd (.ins C ns) ds)) (hn : m ∉ ns) (ha : Eab B ts ρ es) (r : R (.nd (.ins C ns) ds :: es) (.ret t)) (e : t.flat = d) : Eb B (tMeth (He.ga B.K C) m (SpD B.K R) [] E ta ts) ρ d := fun S H σ cs st Q q => h S H σ cs st _ fun x S1 H1 s1 f1 => by
  obtain ⟨a, vs, rfl, g1, g2⟩ := id f1.inv
  obtain ⟨hl, dx, hb⟩ := g1.ins
  refine ⟨a, dx, _, rfl, hb, fld_no hn, ha S1 H1 σ cs (st.grow s1) _ fun ws S2 H2 s2 f2 => ?_⟩
  rw [List.append_nil]
  refine ⟨_, _, H2, r, DqAll.cons (f1.same s2.h) f2, Same.refl H2, fun x c S3 H3 s3 f3 => q x S2 H3 ((s1.trans s2).trans (Step.heap s2.sh s3.h)) ?_⟩
  rw [← e]
  exact f3.ow.here s3.sh
theorem eo_methL {R : Rel} (h : Eb B ta ρ (.nd (.ins C ns) ds)) (hn : m ∉ ns) (ha : Eab B ts ρ es) (r : R (.nd (.ins C ns) ds :: es) (.ret t)) (l : Lone t) : Eo B (tMeth (He.ga B.K C) m (SpD B.K R) [] E ta ts) ρ t := fun S H σ cs st Q q => h S H σ cs st _ fun x S1 H1 s1 f1 => by
  obtain ⟨a, vs, rfl, g1, g2⟩ := id f1.inv
  obtain ⟨hl, dx, hb⟩ := g1.ins
  refine ⟨a, dx, _, rfl, hb, fld_no hn, ha S1 H1 σ cs (st.grow s1) _ fun ws S2 H2 s2 f2 => ?_⟩
  rw [List.append_nil]
  have s12 := s1.trans s2
  exact ⟨_, _, H2, r, DqAll.cons (f1.same s2.h) f2, Same.refl H2, fun x c S3 H3 s3 f3 => q x c S2 H3 (s12.trans (Step.heap s2.sh s3.h)) ⟨f3.ow.lone l, f3.nd, fun a ha => ⟨s2.sh.free (f3.fr a ha).2, s12.h.free (f3.fr a ha).2⟩⟩⟩
theorem ex_meth {R : Rel} {C2 : Str} {a2 : Option V} (h : Eb B ta ρ (.nd (.ins C ns) ds)) (hn : m ∉ ns) (ha : Eab B ts ρ es) (r : R (.nd (.ins C ns) ds :: es) (.exc C2 a2)) : Ex B (tMeth (He.ga B.K C) m (SpD B.K R) [] E ta ts) ρ E C2 a2 := fun S H σ cs st Q q => h S H σ cs st _ fun x S1 H1 s1 f1 => by
  obtain ⟨a, vs, rfl, g1, g2⟩ := id f1.inv
  obtain ⟨hl, dx, hb⟩ := g1.ins
  refine ⟨a, dx, _, rfl, hb, fld_no hn, ha S1 H1 σ cs (st.grow s1) _ fun ws S2 H2 s2 f2 => ?_⟩
  rw [List.append_nil]
  exact ⟨_, _, H2, r, DqAll.cons (f1.same s2.h) f2, Same.refl H2, XOk.later (s1.h.trans s2.h) q⟩
/-- something is appended to a new list that nobody keeps -/
theorem q_appT (h : Eo B ta ρ (.nd .lst us)) (he : Eb B te ρ d) (hz : us.length < sizeLine) (k : Gd B s D ρ) : Gd B (tSeq (tDrop (tBM B.K "list" rAppend ta (tCons te tNil))) s) D ρ := fun S H σ cs st => h S H σ cs st _ fun x c S1 H1 s1 f1 => by
  obtain ⟨ow, nd, fr⟩ := f1
  cases ow with
  | @nd a _ vs _ cs' A _ ho l l2 f hc =>
    obtain ⟨hA, ha⟩ := ho.lst
    refine ⟨.inl ⟨rfl, vs, SqL.of ha⟩, he S1 H1 σ cs (st.grow s1) _ fun y S2 H2 s2 f2 => ⟨a, vs, y, rfl, rfl, s2.h a _ ha, by omega, ?_⟩⟩
    have hac : a ∈ c := by rw [hc, hA]; simp
    have hHa := (fr a hac).2
    have hS2 : S2 a = none := s2.nw a (fr a hac).1 (by rw [ha]; exact fun z => nomatch z)
    have s12 := s1.trans s2
    have s3 : Step S H S2 (upd H2 a (.lst (vs ++ [y]))) := by
      refine ⟨s12.s, fun b o q => ?_, fun b o q => ?_, s12.nw⟩
      · rw [upd_ne (fun e : b = a => by rw [e, hHa] at q; cases q)]
        exact s12.h b o q
      · rw [upd_ne (fun e : b = a => by rw [e, hS2] at q; cases q)]
        exact s12.sh b o q
    exact k S2 _ σ cs (st.grow s3)
end
end Ly

namespace Ly
open PySem L2 Lo
/-! ## arguments that are lent: read, never kept -/
abbrev RelB := List Da → List Da → Out → Prop
abbrev RelMB := Tr → List Da → List Da → Out → Prop
def SpB (K : PySem.W.Frag) (R : RelB) : Sp := fun vs H Q E => ∃ bs ws ds es o S, vs = bs ++ ws ∧ R ds es o ∧ DqAll K H bs ds ∧ DqAll K S ws es ∧ Same S H ∧ OutQ K S H Q E o
def SpMB (K : PySem.W.Frag) (R : RelMB) : Sp := fun vs H Q E => ∃ x bs ws t0 ds es c0 S o, vs = x :: (bs ++ ws) ∧ R t0 ds es o ∧ Ow K S H c0 x t0 ∧ c0.Nodup ∧ (∀ a ∈ c0, S a = none) ∧ DqAll K (off H c0) bs ds ∧ DqAll K S ws es ∧ Same S H ∧ OutM K S H c0 x Q E o
theorem spb_len {K : PySem.W.Frag} {R : RelB} {vs : List V} {H : Hp} {Q : VK} {E : XK} {m : Nat} (hR : ∀ ds es o, R ds es o → ds.length + es.length = m) (h : SpB K R vs H Q E) : vs.length = m := by
  obtain ⟨bs, ws, ds, es, o, S, rfl, r, d1, d2, _, _⟩ := h
  rw [List.length_append, d1.1, d2.1]
  exact hR ds es o r
theorem spmb_len {K : PySem.W.Frag} {R : RelMB} {vs : List V} {H : Hp} {Q : VK} {E : XK} {m : Nat} (hR : ∀ t ds es o, R t ds es o → ds.length + es.length + 1 = m) (h : SpMB K R vs H Q E) : vs.length = m := by
  obtain ⟨x, bs, ws, t0, ds, es, c0, S, o, rfl, r, _, _, _, d1, d2, _, _⟩ := h
  rw [List.length_cons, List.length_append, d1.1, d2.1]
  exact hR t0 ds es o r
def Ebs (B : Bs) (ts : TA) (ρ : Rho) (ds es : List Da) : Prop := ∀ S H σ cs, Sit B S H σ ρ cs → ∀ Q : List V → Hp → Prop, (∀ bs ws S' H', Step S H S' H' → DqAll B.K H' bs ds → DqAll B.K S' ws es → Q (bs ++ ws) H') → ts σ H Q
section
variable {B : Bs} {S H S' H' : Hp} {σ : L2.St} {ρ : Rho} {te ta : TE} {ts : TA} {t : Tr} {d : Da} {ds es : List Da} {k : NK} {i : Nat} {K : PySem.W.Frag} {us : List Tr} {s : TS} {D : Ends} {a : Addr} {C : Str} {ns : List Str} {vs ws bs : List V} {E : XK} {Q : VK} {v : V} {x : V}
theorem ebs_nil (h : Eas B ts ρ es) : Ebs B ts ρ [] es := fun S H σ cs st Q q => h S H σ cs st Q fun vs S' H' s f => q [] vs S' H' s DqAll.nil f
theorem ebs_cons (h : Eb B te ρ d) (r : Ebs B ts ρ ds es) : Ebs B (tCons te ts) ρ (d :: ds) es := fun S H σ cs st Q q => h S H σ cs st _ fun x S1 H1 s1 f1 => r S1 H1 σ cs (st.grow s1) _ fun bs ws S2 H2 s2 g1 g2 => q (x :: bs) ws S2 H2 (s1.trans s2) (DqAll.cons (f1.same s2.h) g1) g2
/-- what is lent at slot i -/
theorem eb_bo (hT : ρ[i]? = some (some (.sh (.exn a none [])))) (hb : Dq B.K B.E0 (.ref a) d) : Eb B (tVar i) ρ d := fun S H σ cs st Q q => by
  obtain ⟨c, x, h1, h2, ow⟩ := st.var hT
  have dq := ow.sh_inv.2
  cases dq
  exact ⟨_, h2, q _ S H (Step.refl st.same) (hb.same st.hp.e0)⟩
theorem er_flat (h : Eb B te ρ (.nd k ds)) (hf : ∀ d ∈ ds, d.fl.isSome = true) : Er B te ρ k ds := fun S H σ cs st Q q => h S H σ cs st Q fun x S' H' s f => by
  obtain ⟨a, vs, rfl, h1, h2⟩ := f.inv
  refine q a vs S' H' s h1 ⟨h2.1, fun i v d g1 g2 => ?_⟩
  obtain ⟨w, hw⟩ := Option.isSome_iff_exists.mp (hf d (List.mem_of_getElem? g2))
  rw [(h2.2 i v d g1 g2).flat hw]
  exact Dq.of_flat hw
theorem eo_callB {R : RelB} (h : Ebs B ts ρ ds es) (r : R ds es (.ret t)) : Eo B (tCall (SpB B.K R) [] E ts) ρ t := fun S H σ cs st Q q => h S H σ cs st _ fun bs ws S1 H1 s1 f1 f2 => by
  show SpB B.K R ((bs ++ ws) ++ []) H1 Q E
  rw [List.append_nil]
  exact ⟨bs, ws, ds, es, _, S1, rfl, r, f1, f2, s1.sh, fun x c S2 H2 s2 g2 => q x c S2 H2 (s1.trans s2) (g2.prior s1.h)⟩
theorem eb_callB {R : RelB} (h : Ebs B ts ρ ds es) (r : R ds es (.ret t)) (e : t.flat = d) : Eb B (tCall (SpB B.K R) [] E ts) ρ d := eb_of (eo_callB h r) e
theorem ex_callB {R : RelB} {C : Str} {a : Option V} (h : Ebs B ts ρ ds es) (r : R ds es (.exc C a)) : Ex B (tCall (SpB B.K R) [] E ts) ρ E C a := fun S H σ cs st Q q => h S H σ cs st _ fun bs ws S1 H1 s1 f1 f2 => by
  show SpB B.K R ((bs ++ ws) ++ []) H1 Q E
  rw [List.append_nil]
  exact ⟨bs, ws, ds, es, _, S1, rfl, r, f1, f2, s1.sh, q.later s1.h⟩
theorem eo_callBS {R : RelB} {E : L2.St → XK} (h : Ebs B ts ρ ds es) (r : R ds es (.ret t)) : Eo B (tCallS (SpB B.K R) E ts) ρ t := fun S H σ cs st Q q => h S H σ cs st _ fun bs ws S1 H1 s1 f1 f2 =>
  ⟨bs, ws, ds, es, _, S1, rfl, r, f1, f2, s1.sh, fun x c S2 H2 s2 g2 => q x c S2 H2 (s1.trans s2) (g2.prior s1.h)⟩
theorem exS_callB {R : RelB} {W : WX} {C : Str} {a : Option V} (h : Ebs B ts ρ ds es) (r : R ds es (.exc C a)) : ExS B (tCallS (SpB B.K R) (WE W) ts) ρ W C a := fun S H σ cs st Q q => h S H σ cs st _ fun bs ws S1 H1 s1 f1 f2 =>
  ⟨bs, ws, ds, es, _, S1, rfl, r, f1, f2, s1.sh, q.later s1.h⟩
theorem spmb_make {R : RelMB} {H1 : Hp} {x dx : Addr} {o : Out} (hx : H1 x = none) (hdx : H1 dx = none) (hne : dx ≠ x) (sh : Same S H1) (db : DqAll K H1 bs ds) (dq : DqAll K S ws es) (r : R (.nd (.slf x C []) []) ds es o)
    (q : match o with
      | .ret t => RetM ⟨K, S, H1⟩ (.ref x) Q t
      | .exc D a => XOk K H1 E D a) : SpMB K R (.ref x :: (bs ++ ws)) (upd (upd H1 dx (.own x)) x (.ins (He.ga K C) dx [])) Q E := by
  have e1 : Same H1 (upd (upd H1 dx (.own x)) x (.ins (He.ga K C) dx [])) := (same_new hdx).trans (same_new (by rw [upd_ne (Ne.symm hne)]; exact hx))
  refine ⟨.ref x, bs, ws, _, ds, es, [x, dx], S, o, rfl, r, .nd (A := [x, dx]) (vs := []) (cs := []) ⟨rfl, dx, rfl, hne, rfl, upd_same, by rw [upd_ne hne]; exact upd_same⟩ rfl rfl (fun i v t c h1 => by simp at h1) (by simp), by simp [Ne.symm hne], fun b hb => ?_, by rw [off_new hx hdx]; exact db, dq, sh.trans e1, ?_⟩
  · simp only [List.mem_cons, List.not_mem_nil, or_false] at hb
    rcases hb with rfl | rfl
    · exact sh.free hx
    · exact sh.free hdx
  · cases o with
    | ret t =>
      show RetM ⟨K, S, off _ [x, dx]⟩ (.ref x) Q t
      rw [off_new hx hdx]
      exact q
    | exc D a =>
      show XOk K (off _ [x, dx]) E D a
      rw [off_new hx hdx]
      exact q
theorem eo_makeB {R : RelMB} (h : Ebs B ts ρ ds es) (r : ∀ x, R (.nd (.slf x C []) []) ds es (.ret (.nd (.slf x C ns) us))) : Eo B (tMake (He.ga B.K C) (SpMB B.K R) [] E ts) ρ (.nd (.ins C ns) us) := fun S H σ cs st Q q => h S H σ cs st _ fun bs ws S1 H1 s1 f1 f2 => fun x dx hx hdx hne => by
  rw [List.append_nil]
  exact spmb_make hx hdx hne s1.sh f1 f2 (r x) (make_ret s1 q)
theorem eo_makeBS {R : RelMB} {E : L2.St → XK} (h : Ebs B ts ρ ds es) (r : ∀ x, R (.nd (.slf x C []) []) ds es (.ret (.nd (.slf x C ns) us))) : Eo B (tMakeS (He.ga B.K C) (SpMB B.K R) E ts) ρ (.nd (.ins C ns) us) := fun S H σ cs st Q q => h S H σ cs st _ fun bs ws S1 H1 s1 f1 f2 => fun x dx hx hdx hne =>
  spmb_make hx hdx hne s1.sh f1 f2 (r x) (make_ret s1 q)
theorem ex_makeB {R : RelMB} {C2 : Str} {a : Option V} (h : Ebs B ts ρ ds es) (r : ∀ x, R (.nd (.slf x C []) []) ds es (.exc C2 a)) : Ex B (tMake (He.ga B.K C) (SpMB B.K R) [] E ts) ρ E C2 a := fun S H σ cs st Q q => h S H σ cs st _ fun bs ws S1 H1 s1 f1 f2 => fun x dx hx hdx hne => by
  rw [List.append_nil]
  exact spmb_make hx hdx hne s1.sh f1 f2 (r x) (XOk.later s1.h q)
theorem exS_makeB {R : RelMB} {W : WX} {C2 : Str} {a : Option V} (h : Ebs B ts ρ ds es) (r : ∀ x, R (.nd (.slf x C []) []) ds es (.exc C2 a)) : ExS B (tMakeS (He.ga B.K C) (SpMB B.K R) (WE W) ts) ρ W C2 a := fun S H σ cs st Q q => h S H σ cs st _ fun bs ws S1 H1 s1 f1 f2 => fun x dx hx hdx hne =>
  spmb_make hx hdx hne s1.sh f1 f2 (r x) (XOk.later s1.h q)
/-- the second argument of Base.m(self, ..) raises -/
theorem x_cfn1 {sp : Sp} {C2 : Str} {a2 : Option V} {Cb : Addr} {t0 : Tr} {E' : XK} (hT : ρ[i]? = some (some t0)) (h : Ex B te ρ E C2 a2) (q : Xk B E C2 a2) : Gd B (tSeq (tDrop (tCFn Cb sp [] E' (tC (.ref Cb)) (tCons (tVar i) (tCons te ts)))) s) D ρ := fun S H σ cs st => by
  obtain ⟨c, x, hc, hx, ow⟩ := st.var hT
  exact ⟨rfl, x, hx, h S H σ cs st _ (xk_at st q)⟩
theorem dq_lent {S : Hp} (h : DqAll K S ws es) : DqAll K S (.ref a :: ws) (.exn a none [] :: es) := DqAll.cons (.exn (.inl ⟨rfl, rfl⟩)) h
theorem eo_lst2 {tb : TE} {u1 u2 : Tr} (ha : Eo B ta ρ u1) (hb : Eo B tb ρ u2) : Eo B (tLst (tCons ta (tCons tb tNil))) ρ (.nd .lst [u1, u2]) := fun S H σ cs st Q q =>
  ha S H σ cs st _ fun x c1 S1 H1 s1 f1 => hb S1 H1 σ cs (st.grow s1) _ fun y c2 S2 H2 s2 f2 => ⟨by rw [sizeLine_eq]; simp only [List.length_cons, List.length_nil]; omega, fun p hp => by
    have g1 := f1.later s2
    have hp1 : ∀ b ∈ c1, b ≠ p := fun b hb e => g1.ow.alloc b hb (by rw [e]; exact hp)
    have hp2 : ∀ b ∈ c2, b ≠ p := fun b hb e => f2.ow.alloc b hb (by rw [e]; exact hp)
    have hcc : ∀ b ∈ c1, b ∉ c2 := fun b hb hm => f1.ow.alloc b hb (f2.fr b hm).2
    have o1 : Ow B.K S2 (upd H2 p (.lst [x, y])) c1 x u1 := g1.ow.keep (Same.refl S2) fun b hb => upd_ne (hp1 b hb)
    have o2 : Ow B.K S2 (upd H2 p (.lst [x, y])) c2 y u2 := f2.ow.keep (Same.refl S2) fun b hb => upd_ne (hp2 b hb)
    have s12 := s1.trans s2
    refine q (.ref p) ([p] ++ ([c1, c2] : List (List Addr)).flatten) S2 _ (s12.trans (Step.heap s2.sh (same_new hp))) ⟨.nd (A := [p]) (cs := [c1, c2]) (vs := [x, y]) ⟨rfl, True.intro, upd_same⟩ rfl rfl (fun i v t' c' z1 z2 z3 => ?_) rfl, ?_, fun b hb => ?_⟩
    · match i with
      | 0 =>
        cases z1
        cases z2
        cases z3
        exact o1
      | 1 =>
        cases z1
        cases z2
        cases z3
        exact o2
      | i + 2 => simp at z1
    · simp only [List.flatten_cons, List.flatten_nil, List.append_nil, List.singleton_append, List.nodup_cons, List.mem_append, not_or, List.nodup_append]
      exact ⟨⟨fun h => hp1 p h rfl, fun h => hp2 p h rfl⟩, f1.nd, f2.nd, fun a ha b hb e => hcc a ha (e ▸ hb)⟩
    · simp only [List.flatten_cons, List.flatten_nil, List.append_nil, List.singleton_append, List.mem_cons, List.mem_append] at hb
      rcases hb with rfl | hb | hb
      · exact ⟨s2.sh.free hp, s12.h.free hp⟩
      · exact ⟨(g1.fr b hb).1, (f1.fr b hb).2⟩
      · exact ⟨(f2.fr b hb).1, s1.h.free (f2.fr b hb).2⟩⟩
/-- a lent list is walked -/
theorem ej_lent (hT : ρ[i]? = some (some (.sh (.exn a none [])))) (hb : Dq B.K B.E0 (.ref a) (.nd .lst ds)) (hf : ∀ d ∈ ds, d.fl.isSome = true) : Ej B (iList B.K (tVar i)) ρ ds := fun S H σ cs st R r => by
  obtain ⟨c, x, h1, h2, ow⟩ := st.var hT
  have dq := ow.sh_inv.2
  cases dq
  obtain ⟨b, vs, e, g1, g2⟩ := hb.inv
  cases e
  have hE := g1.lst
  refine ⟨.ref a, h2, a, rfl, ⟨vs, SqL.of (st.hp.e0 _ _ hE)⟩, r _ S H (Step.refl st.same) (wk_ofE (walk_list (K := B.K) (a := a) (xs := vs)) g2.1.symm (fun H2 _ e => SqL.of (e _ _ hE)) fun i H2 x H3 S2 hi e1 e2 y => ?_)⟩
  obtain ⟨rfl, hx⟩ := y
  refine ⟨S2, Step.refl e2, fun d hd => ?_⟩
  obtain ⟨w, hw⟩ := Option.isSome_iff_exists.mp (hf d (List.mem_of_getElem? hd))
  rw [(g2.2 i x d hx hd).flat hw]
  exact Dq.of_flat hw
end
end Ly

namespace Ly
open PySem L2 Lo PyProof.Rows
/-! ## tuples whose object is known: t.index(x) -/
def rTupZ (K : PySem.W.Frag) : List V → Hp → VK → Prop := fun xs H Q => ∃ p ys, xs = [.ref p] ∧ SqL K H p ys ∧ ∀ (l : Addr) (o : Obj), o.dict = none → H l = none → Q (.ref l) (upd H l (.frz o (.tup ys)))
theorem call_tupZ {X : Cx} : CallR X (.type "tuple") (rTupZ X.K) := by
  intro pins s σ H xs us Q I r h
  obtain ⟨p, ys, rfl, hq, q⟩ := h
  obtain ⟨u, rfl, rx⟩ := vals1 r
  cases rx
  obtain ⟨its, r', pl, hz⟩ := I.list hq
  have hlen := r'.length
  refine call_tuple_list pl.isList (fun h' kp => ?_) (by simp only [List.size_toArray] <;> omega)
  have I1 : Inv X pins σ H { s with heap := h' } := I.kept (t' := s.toks) kp
  have I2 : Inv X pins σ (upd H h'.objs.size (.frz { cls := .type "tuple", data := .seq its.toArray } (.tup ys))) { s with heap := h'.push { cls := .type "tuple", data := .seq its.toArray } } :=
    I1.laid (t' := s.toks) (fun b o e => Heap.get?_push_of_some _ e) (Nat.le_refl _) (show ObjOk X.prog X.w _ _ _ (.frz _ (.tup ys)) from ⟨Heap.get?_push_size _ rfl, hz, its, r', PyProof.Rows.IsTup.new _ _⟩)
  exact ⟨.ref h'.objs.size, _, I2, rfl, q _ _ rfl (I1.hok.fresh (Nat.le_refl _))⟩
def rTupB (K : PySem.W.Frag) : List V → Hp → VK → Prop := fun xs H Q => rTupA K xs H Q ∨ rTupZ K xs H Q
theorem call_tupB {X : Cx} : CallR X (.type "tuple") (rTupB X.K) := call_tupA.or call_tupZ
def tyTz (x : V) (H : Hp) : Prop := ∃ p o ys, x = V.ref p ∧ H p = some (.frz o (.tup ys)) ∧ o.dict = none
theorem ty_tz {X : Cx} : TyOk X "tuple" tyTz := by
  intro pins σ H s x v I r ty
  obtain ⟨p, o, ys, rfl, hp, hd⟩ := ty
  cases r
  obtain ⟨e, z, its, r', ob, e2, hc, n, hdt⟩ := I.hok p _ hp
  rw [e] at e2
  cases e2
  exact ⟨⟨o, e, hc⟩, fun a ea => by
    cases ea
    exact ⟨o, e, hd⟩⟩
def rTix (K : PySem.W.Frag) : V → List V → Hp → VK → Prop := fun x xs H Q => ∃ p, ∃ ns : List Int, ∃ z : Int, x = V.ref p ∧ xs = [.int z] ∧ SqT K H p (ns.map V.int) ∧ z ∈ ns ∧ Q (.int (ns.idxOf z : Nat)) H
theorem mt_tix {X : Cx} : MtR X "tuple.index" (rTix X.K) := by
  intro pins s σ H x xs v us Q I rx rs h
  obtain ⟨p, ns, z, rfl, rfl, hq, hz, q⟩ := h
  cases rx
  obtain ⟨u, rfl, t, rfl⟩ := vals1 rs
  obtain ⟨its, r, pl, hl⟩ := I.tuple hq
  exact PySem.SeqAt.tuple_index_ints pl (intsAre_of r) hz ⟨.int _, H, I.tok _, ⟨_, rfl⟩, q⟩
section
variable {B : Bs} {ρ : Rho} {to te : TE} {ds : List Da}
theorem eo_tupB (h : Er B te ρ .lst ds) : Eo B (tCB (rTupB B.K) (tCons te tNil)) ρ (.nd .tup (ds.map Tr.sh)) := fun S H σ cs st Q q => h S H σ cs st _ fun a vs S1 H1 s1 f1 f2 => by
  refine .inl ⟨a, vs, rfl, .inl ⟨SqL.of f1.lst, fun p hp => ?_⟩⟩
  obtain ⟨s4, f4⟩ := fr_new (k := .tup) (.inr (.inl rfl)) hp s1.sh f2 True.intro
  exact q _ [p] _ _ (s1.trans s4) (f4.prior s1.h)
theorem eo_tupZ (h : Er B te ρ .lst ds) : Eo B (tCB (rTupB B.K) (tCons te tNil)) ρ (.nd .tpz (ds.map Tr.sh)) := fun S H σ cs st Q q => h S H σ cs st _ fun a vs S1 H1 s1 f1 f2 => by
  refine .inr ⟨a, vs, rfl, SqL.of f1.lst, fun p o ho hp => ?_⟩
  have s4 : Step S1 H1 S1 (upd H1 p (.frz o (.tup vs))) := Step.heap s1.sh (same_new hp)
  have f4 : Fr B.K H1 S1 (upd H1 p (.frz o (.tup vs))) [p] (.ref p) (.nd .tpz (ds.map Tr.sh)) := ⟨Ow.root ⟨rfl, o, ho, upd_same⟩ f2, by simp, fun a ha => by
    rw [List.mem_singleton.mp ha]
    exact ⟨s1.sh.free hp, hp⟩⟩
  exact q _ [p] _ _ (s1.trans s4) (f4.prior s1.h)
theorem eb_tix {ns : List Int} {z : Int} (h : Eb B to ρ (.nd .tpz (ns.map Da.int))) (ha : Eb B te ρ (.int z)) (hz : z ∈ ns) : Eb B (tMG tyTz (rTix B.K) to (tCons te tNil)) ρ (.int (ns.idxOf z : Nat)) := fun S H σ cs st Q q => h S H σ cs st _ fun x S1 H1 s1 f1 => by
  obtain ⟨p, vs, rfl, hs, f⟩ := f1.inv
  obtain ⟨o, hd, hp⟩ := hs
  cases f.ints_inv
  refine ⟨⟨p, o, _, rfl, hp, hd⟩, ?_⟩
  exact ha S1 H1 σ cs (st.grow s1) _ fun y S2 H2 s2 f2 => by
    cases f2
    exact ⟨p, ns, z, rfl, rfl, .inl (.inr ⟨o, s2.h _ _ hp⟩), hz, q _ S2 H2 (s1.trans s2) (.int _)⟩
end
end Ly

namespace Ly
open PySem L2 Lo
/-! ## exceptions in later arguments, in a receiver; calls of methods of one of two classes -/
section
variable {B : Bs} {ρ : Rho} {ta tb te to : TE} {ts : TA} {d : Da} {E : XK} {C : Str} {a : Option V}
theorem ex_arg2 {sp : Sp} {dv : List V} {E' : XK} (ha : Eb B ta ρ d) (h : Ex B te ρ E C a) : Ex B (tCall sp dv E' (tCons ta (tCons te ts))) ρ E C a := fun S H σ cs st Q x => ha S H σ cs st _ fun y S1 H1 s1 _ => h S1 H1 σ cs (st.grow s1) _ (x.later s1.h)
theorem ex_cb2 {r : List V → Hp → VK → Prop} (ha : Eb B ta ρ d) (h : Ex B te ρ E C a) : Ex B (tCB r (tCons ta (tCons te ts))) ρ E C a := fun S H σ cs st Q x => ha S H σ cs st _ fun y S1 H1 s1 _ => h S1 H1 σ cs (st.grow s1) _ (x.later s1.h)
theorem ex_recv {D : Addr} {m : Str} {sp : Sp} {dv : List V} {E' : XK} (h : Ex B to ρ E C a) : Ex B (tMeth D m sp dv E' to ts) ρ E C a := fun S H σ cs st Q x => h S H σ cs st _ x
end
def tAlt (ta tb : TE) : TE := fun σ H Q => ta σ H Q ∨ tb σ H Q
theorem pe_alt {X : Cx} {e : Expr} {ta tb : TE} (ha : PE X e ta) (hb : PE X e tb) : PE X e (tAlt ta tb) := ⟨fun pins s σ H Q I h => h.elim (ha.run pins s σ H Q I) (hb.run pins s σ H Q I)⟩
section
variable {B : Bs} {ρ : Rho} {ta tb : TE} {d : Da} {t : Tr} {E : XK} {W : WX} {C : Str} {a : Option V}
theorem eb_orL (h : Eb B ta ρ d) : Eb B (tAlt ta tb) ρ d := fun S H σ cs st Q q => .inl (h S H σ cs st Q q)
theorem eb_orR (h : Eb B tb ρ d) : Eb B (tAlt ta tb) ρ d := fun S H σ cs st Q q => .inr (h S H σ cs st Q q)
theorem eo_orL (h : Eo B ta ρ t) : Eo B (tAlt ta tb) ρ t := fun S H σ cs st Q q => .inl (h S H σ cs st Q q)
theorem eo_orR (h : Eo B tb ρ t) : Eo B (tAlt ta tb) ρ t := fun S H σ cs st Q q => .inr (h S H σ cs st Q q)
theorem ex_orL (h : Ex B ta ρ E C a) : Ex B (tAlt ta tb) ρ E C a := fun S H σ cs st Q q => .inl (h S H σ cs st Q q)
theorem ex_orR (h : Ex B tb ρ E C a) : Ex B (tAlt ta tb) ρ E C a := fun S H σ cs st Q q => .inr (h S H σ cs st Q q)
end
theorem eqvAll_self : ∀ {ds : List Da}, (∀ d ∈ ds, PyData.eqv d.py d.py = true) → PyData.eqvAll (Da.pys ds) (Da.pys ds) = true
  | [], _ => by simp [Da.pys, PyData.eqvAll]
  | d :: r, h => by
    simp only [Da.pys, PyData.eqvAll, Bool.and_eq_true]
    exact ⟨h d (.head _), eqvAll_self fun e he => h e (.tail _ he)⟩
theorem pl_refl {n : Nat} {d : Da} (h : Pl n d) : PyData.eqv d.py d.py = true := by
  induction h with
  | non => simp [Da.py, PyData.eqv]
  | bl => simp [Da.py, PyData.eqv]
  | int => simp [Da.py, PyData.eqv]
  | str h => simp [Da.py, PyData.eqv]
  | lst h ih =>
    simp only [Da.py, PyData.eqv]
    exact eqvAll_self ih
  | tup h ih =>
    simp only [Da.py, PyData.eqv]
    exact eqvAll_self ih
section
variable {B : Bs} {ρ : Rho} {D : Ends} {tt : TT} {u1 u2 s : TS} {b : Bool}
/-- both branches join what follows -/
theorem q_joinE (P : Rho → Prop) (h : Et B tt ρ b) (k : ∀ r, P r → Gd B s D r) (h1 : b = true → (∀ r, P r → Gd B s D r) → Gd B u1 { D with nx := s D } ρ) (h2 : b = false → (∀ r, P r → Gd B s D r) → Gd B u2 { D with nx := s D } ρ) : Gd B (tSeq (tIfS tt u1 u2) s) D ρ := q_if h (fun hb => h1 hb k) fun hb => h2 hb k
end
end Ly

namespace Ly
open PySem L2 Lo
open PySem.Spec PyProof.Rows
/-! ## isinstance of an own instance -/
structure IsiC (K : PySem.W.Frag) (C : Addr) : Prop where
  ha : PySem.W.findIn K (.ref C) "__class__" = some (some (.builtin "object.__class__"))
  hn : PySem.W.specialIn K (.builtin "object.__class__") "__get__" = some (some (.builtin "getset_descriptor.__get__"))
  htk : PySem.W.takesIn K (.builtin "object.__class__") = some true
  hm : PySem.W.mroIn K C (.type "object") = some true
def isiB (K : PySem.W.Frag) (C : Addr) : Bool := He.eqO (PySem.W.findIn K (.ref C) "__class__") (some (some (.builtin "object.__class__"))) && (He.eqO (PySem.W.specialIn K (.builtin "object.__class__") "__get__") (some (some (.builtin "getset_descriptor.__get__"))) && (decide (PySem.W.takesIn K (.builtin "object.__class__") = some true) && decide (PySem.W.mroIn K C (.type "object") = some true)))
theorem isiB_ok {K : PySem.W.Frag} {C : Addr} (h : isiB K C = true) : IsiC K C := by
  unfold isiB at h
  rw [Bool.and_eq_true, Bool.and_eq_true, Bool.and_eq_true] at h
  exact ⟨He.eqO_ok h.1, He.eqO_ok h.2.1, of_decide_eq_true h.2.2.1, of_decide_eq_true h.2.2.2⟩
/-! ## a method's call in a try -/
def tMethW (C : Addr) (m : Str) (sp : Sp) (E : L2.St → XK) (ta : TE) (t : TA) : TE := fun σ H Q => ta σ H fun x H1 => ∃ a dx fs, x = V.ref a ∧ H1 a = some (.ins C dx fs) ∧ fs.lookup m = none ∧
  t σ H1 fun vs H2 => sp (x :: vs) H2 Q (E σ)
section
variable {X : Cx} {CX : CXT} {k : Nat} {f C : Addr} {fd : FuncData} {ps : List Str} {sp : Sp} {E : L2.St → XK} {m : Str} {pos apos : Pos} {e o : Expr} {es : List Expr} {ta : TE} {t : TA}
theorem pe_methW {pl : Sem Bool} (he : PE X o ta) (c : Cls X.K C) (hm : Meth X.K C m f) (F : FnOk X.prog X.w X.K X.mg X.base CX k f fd ps sp) (hr : Room k X.A) (hb : Binds X.K fd ps []) (hx : ∀ σ, PassesAt CX X σ (E σ)) (ha : PA X (e :: es) t)
    (hst : starEach (e :: es) X.env = (false, eval e X.env) :: starEach es X.env := by rfl) (hpl : (backTo pos (starEach es X.env)).any (·.1) = false := by rfl)
    (ht : eval (.Call (.Attribute o m apos) (e :: es) [] pos) X.env = (do
      let ov ← eval o X.env
      standAt apos.atName
      let (f, first) ← holding [ov] (getMethod ov m pl)
      callWith pos f first (backTo pos (starEach (e :: es) X.env)) (backToKw pos (keywordEach [] X.env))) := by rfl) :
    PE X (.Call (.Attribute o m apos) (e :: es) [] pos) (tMethW C m sp E ta t) := by
  refine ⟨fun pins s σ H Q I h => ?_⟩
  refine PySem.W.methodCall_KW (pl := pl) (thn (he.run pins s σ H _ I h) fun u s1 ⟨x, H1, I1, rx, a, dx, fs, ex, ea, l, q⟩ => ?_) ht
  subst ex
  obtain rfl : u = Value.ref a := rx
  refine getmeth_ok I1 ea c hm l ?_
  refine PySem.W.callWith_K (first := [.ref a]) (h₀ := X.base) I.ok.mod.kin hm.kp (thn (ha.run pos pins s1 σ H1 _ I1 q) fun us s2 ⟨vs, H2, I2, r, q2⟩ => ⟨I2.kIn, ?_⟩) hst hpl
  exact run_fnS (us := .ref a :: us) (vs := .ref a :: vs) F hr hb (hx σ) I2 (.cons rfl r) q2
end
section
variable {B : Bs} {ρ : Rho} {ta tb te : TE} {ts : TA} {d : Da} {ds es : List Da} {C D m : Str} {ns : List Str} {t : Tr} {b : Bool}
theorem eb_isIns (h : Eb B te ρ (.nd (.ins C ns) ds)) (c : Cls B.K (He.ga B.K C)) (f : IsiC B.K (He.ga B.K C)) (hk : PySem.W.kitOne B.K (.ref (He.ga B.K C)) (.ref (He.ga B.K D)) = some b) :
    Eb B (tCB (rIsi B.K) (tCons te (tCons (tC (.ref (He.ga B.K D))) tNil))) ρ (.bl b) := fun S H σ cs st Q q => h S H σ cs st _ fun v S1 H1 s1 f1 => by
  obtain ⟨a, vs, rfl, g1, g2⟩ := id f1.inv
  obtain ⟨hl, dx, hb⟩ := g1.ins
  exact ⟨.ref a, .ref (He.ga B.K D), _, _, b, rfl, .own _, .base (.ins hb c f.ha f.hn f.htk f.hm), hk, q _ S1 H1 s1 (.bl b)⟩
theorem eb_methW {R : Rel} {E : L2.St → XK} (h : Eb B ta ρ (.nd (.ins C ns) ds)) (hn : m ∉ ns) (ha : Eab B ts ρ es) (r : R (.nd (.ins C ns) ds :: es) (.ret t)) (e : t.flat = d) : Eb B (tMethW (He.ga B.K C) m (SpD B.K R) E ta ts) ρ d := fun S H σ cs st Q q => h S H σ cs st _ fun x S1 H1 s1 f1 => by
  obtain ⟨a, vs, rfl, g1, g2⟩ := id f1.inv
  obtain ⟨hl, dx, hb⟩ := g1.ins
  refine ⟨a, dx, _, rfl, hb, fld_no hn, ha S1 H1 σ cs (st.grow s1) _ fun ws S2 H2 s2 f2 => ?_⟩
  refine ⟨_, _, H2, r, DqAll.cons (f1.same s2.h) f2, Same.refl H2, fun x c S3 H3 s3 f3 => q x S2 H3 ((s1.trans s2).trans (Step.heap s2.sh s3.h)) ?_⟩
  rw [← e]
  exact f3.ow.here s3.sh
theorem exS_meth {R : Rel} {W : WX} {C2 : Str} {a2 : Option V} (h : Eb B ta ρ (.nd (.ins C ns) ds)) (hn : m ∉ ns) (ha : Eab B ts ρ es) (r : R (.nd (.ins C ns) ds :: es) (.exc C2 a2)) : ExS B (tMethW (He.ga B.K C) m (SpD B.K R) (WE W) ta ts) ρ W C2 a2 := fun S H σ cs st Q q => h S H σ cs st _ fun x S1 H1 s1 f1 => by
  obtain ⟨a, vs, rfl, g1, g2⟩ := id f1.inv
  obtain ⟨hl, dx, hb⟩ := g1.ins
  refine ⟨a, dx, _, rfl, hb, fld_no hn, ha S1 H1 σ cs (st.grow s1) _ fun ws S2 H2 s2 f2 => ?_⟩
  exact ⟨_, _, H2, r, DqAll.cons (f1.same s2.h) f2, Same.refl H2, q.later (s1.h.trans s2.h)⟩
theorem exS_orL {W : WX} {C2 : Str} {a : Option V} (h : ExS B ta ρ W C2 a) : ExS B (tAlt ta tb) ρ W C2 a := fun S H σ cs st Q q => .inl (h S H σ cs st Q q)
theorem exS_orR {W : WX} {C2 : Str} {a : Option V} (h : ExS B tb ρ W C2 a) : ExS B (tAlt ta tb) ρ W C2 a := fun S H σ cs st Q q => .inr (h S H σ cs st Q q)
end
/-! ## a try whose body is an if -/
section
variable {B : Bs} {ρ : Rho} {D : Ends} {tt : TT} {s : TS} {b : Bool} {K : PySem.W.Frag} {c : Value} {i : Nat} {sx : Addr → Value → Option Addr → TS} {Wout out : WX} {l : List Clause} {u1 u2 : WX → TS}
theorem q_ifAs (h : Et B tt ρ b) (h1 : b = true → Gd B (tSeq (tTryAs K c i sx Wout u1) s) D ρ) (h2 : b = false → Gd B (tSeq (tTryAs K c i sx Wout u2) s) D ρ) : Gd B (tSeq (tTryAs K c i sx Wout fun W => tIfS tt (u1 W) (u2 W)) s) D ρ := fun S H σ cs st => h S H σ cs st _ fun S1 H1 s1 => by
  cases b with
  | true => exact h1 rfl S1 H1 σ cs (st.grow s1)
  | false => exact h2 rfl S1 H1 σ cs (st.grow s1)
theorem q_ifNo (h : Et B tt ρ b) (h1 : b = true → Gd B (tSeq (tTryNo K c sx Wout u1) s) D ρ) (h2 : b = false → Gd B (tSeq (tTryNo K c sx Wout u2) s) D ρ) : Gd B (tSeq (tTryNo K c sx Wout fun W => tIfS tt (u1 W) (u2 W)) s) D ρ := fun S H σ cs st => h S H σ cs st _ fun S1 H1 s1 => by
  cases b with
  | true => exact h1 rfl S1 H1 σ cs (st.grow s1)
  | false => exact h2 rfl S1 H1 σ cs (st.grow s1)
theorem q_ifCl (h : Et B tt ρ b) (h1 : b = true → Gd B (tSeq (tTryCl K l out u1) s) D ρ) (h2 : b = false → Gd B (tSeq (tTryCl K l out u2) s) D ρ) : Gd B (tSeq (tTryCl K l out fun W => tIfS tt (u1 W) (u2 W)) s) D ρ := fun S H σ cs st => h S H σ cs st _ fun S1 H1 s1 => by
  cases b with
  | true => exact h1 rfl S1 H1 σ cs (st.grow s1)
  | false => exact h2 rfl S1 H1 σ cs (st.grow s1)
end
end Ly

namespace Ly
open PySem L2 Lo
/-! ## range with a step -/
theorem args3 {K : PySem.W.Frag} {H : Hp} {vs : List V} {i j c : Int} (f : DqAll K H vs [.int i, .int j, .int c]) : vs = [.int i, .int j, .int c] := by
  obtain ⟨x, xr, rfl, g1, g2⟩ := f.cons_inv
  obtain ⟨y, yr, rfl, g3, g4⟩ := g2.cons_inv
  obtain ⟨z, zr, rfl, g5, g6⟩ := g4.cons_inv
  cases g6.nil_inv
  cases g1
  cases g3
  cases g5
  rfl
theorem rgc_up {n w : Nat} (hw : 1 ≤ w ∧ w ≤ 1000000) (hn : n * w ≤ 1000000000) : RgC 0 ((n * w : Nat) : Int) (w : Int) n := by
  have hc : (0 : Int) < (w : Int) := by omega
  have hsz : Builtin.Range.rangeSize 0 ((n * w : Nat) : Int) (w : Int) = (n : Int) := by
    rw [PyProof.Rows.rangeSize_pos (by omega) (by omega)]
    have e : ((n * w : Nat) : Int) + (w : Int) - 1 = ((w : Int) - 1) + (n : Int) * (w : Int) := by
      rw [Int.natCast_mul]
      omega
    rw [e, Int.add_mul_ediv_right _ _ (by omega), Int.ediv_eq_zero_of_lt (by omega) (by omega)]
    omega
  have hn2 : n ≤ n * w := Nat.le_mul_of_pos_right n (by omega)
  refine ⟨by omega, by omega, ?_, hsz⟩
  unfold Builtin.Range.small
  rw [hsz]
  simp only [Builtin.Range.rangeFitsLong, Bool.and_eq_true, Bool.or_eq_true, decide_eq_true_eq, beq_iff_eq]
  generalize n * w = p at *
  rw [if_pos (by omega)]
  refine ⟨by omega, .inr ?_⟩
  rw [Bool.and_eq_true, decide_eq_true_eq, decide_eq_true_eq]
  omega
section
variable {B : Bs} {ρ : Rho} {ts : TA}
theorem ej_rng3 {i j c : Int} {m : Nat} (h : Eab B ts ρ [.int i, .int j, .int c]) (hr : RgC i j c m) : Ej B (iRng3 ts) ρ ((List.range m).map fun k => .int (i + (k : Nat) * c)) := fun S H σ cs st R r => h S H σ cs st _ fun vs S1 H1 s1 f1 =>
  ⟨i, j, c, m, args3 f1, hr, r _ S1 H1 s1 (wk_of (walk_rangeC (lo := i) (c := c) (n := m)) (by simp) (fun _ _ => True.intro) fun k H2 x H3 S2 hk e1 e2 y => by
    obtain ⟨rfl, rfl⟩ := y
    refine ⟨S2, Step.refl e2, fun d hd => ?_⟩
    rw [List.getElem?_map] at hd
    obtain ⟨k2, h2, rfl⟩ := Option.map_eq_some_iff.mp hd
    have h3 : k < m := by simpa using hk
    rw [List.getElem?_range h3] at h2
    cases h2
    exact .int _)⟩
end
end Ly

namespace Ly
open PySem L2 Lo
/-- an expression that is never reached -/
def tNever : TE := fun _ _ _ => False
theorem pe_never {X : Cx} {e : Expr} : PE X e tNever := ⟨fun _ _ _ _ _ _ h => h.elim⟩
section
variable {K : PySem.W.Frag} {a b : Bool}
theorem o_isB : Op2 K rIsB (.bl a) (.bl b) (.bl (decide (a = b))) := ⟨_, rfl, fun H vx vy Q h1 h2 q => by
  cases h1
  cases h2
  exact ⟨a, b, rfl, rfl, q⟩⟩
theorem o_notB : Op2 K rNotB (.bl a) (.bl b) (.bl (!decide (a = b))) := ⟨_, rfl, fun H vx vy Q h1 h2 q => by
  cases h1
  cases h2
  exact ⟨a, b, rfl, rfl, q⟩⟩
end
end Ly

namespace Ly
open PySem L2 Lo
open PySem.Spec PyProof.Rows
/-! ## max and min of a tuple of whole numbers -/
section
variable {prog : Program} {w : World} {A : Around} {E : Value → Shared → Prop} {s : Shared} {l : Addr}
theorem tupWalk {xs : Array (Int × Tok)} (hl : s.heap.IsTuple l (intItems xs)) : l < s.heap.objs.size ∧ (∀ c ∈ [s.heap.objs.size, l], c < (s.heap.push { cls := .type "tuple_iterator", data := .fields #[.ref l, .int 0 0] }).objs.size) ∧
    ∀ h' : Heap, (∀ b o, b ∉ [s.heap.objs.size] → (s.heap.push { cls := .type "tuple_iterator", data := .fields #[.ref l, .int 0 0] }).get? b = some o → h'.get? b = some o) → ∀ b o, s.heap.get? b = some o → h'.get? b = some o := by
  have hlt : l < s.heap.objs.size := by obtain ⟨_, e, _⟩ := hl; exact Heap.lt_size e
  refine ⟨hlt, fun c hc => ?_, fun h' hk b o e => hk b o (fun hm => ?_) (Heap.get?_push_of_some _ e)⟩
  · rw [Heap.size_push]
    rcases List.mem_cons.mp hc with rfl | hc
    · exact Nat.lt_succ_self _
    · rcases List.mem_cons.mp hc with rfl | hc
      · exact Nat.lt_succ_of_lt hlt
      · cases hc
  · rcases List.mem_cons.mp hm with e1 | hm
    · exact absurd (e1 ▸ Heap.lt_size e) (Nat.lt_irrefl _)
    · cases hm
theorem max_tupRaw {its : List Value} {ns : List Int} {Q : Value → Shared → Prop} (hh : A.handled = none) (hl : s.heap.IsTuple l its.toArray) (hi : IntsAre its ns) (hne : 0 < ns.length)
    (h : ∀ h' tk M t', (∀ b o, s.heap.get? b = some o → h'.get? b = some o) → M ∈ ns → (∀ a, a ∈ ns → a ≤ M) → Q (.int M t') { s with heap := h', toks := tk }) : wpAny (model prog w) A (call (.builtin "max") [.ref l]) Q E s := by
  obtain ⟨xs, e⟩ := hi.allInts.items
  have hn : numsOf (intItems xs).toList = ns := by rw [← e]; exact hi.numsOf
  rw [nums_intItems] at hn
  subst hn
  rw [e] at hl
  have hsz : 0 < xs.size := by simpa using hne
  obtain ⟨hlt, hfp, hold⟩ := tupWalk hl
  refine call_max_walk (wpAny_pyIter_tuple hl ?_)
  refine ⟨_, [_, l], [_], _, _, _, _, rfl, Walks.tuple (A := A.in1) hh _ l (Nat.ne_of_lt hlt) (intItems xs), ⟨⟨_, Heap.get?_push_size _ rfl, rfl, rfl⟩, hl.push _⟩, hfp, by simpa [intItems] using hsz, CmpOf.ints_gt (numAt xs) (fun _ _ => intItems_at), fun v h' tk hP hk => ?_⟩
  obtain ⟨t, rfl⟩ := intItems_at hP
  obtain ⟨h1, h2⟩ := argBest_gt (numAt xs) (xs.size - 1)
  rw [show (intItems xs).size = xs.size by simp [intItems]]
  refine h h' tk _ t (hold h' hk) ?_ fun a ha => ?_
  · rw [numAt_eq]; exact PySem.getD_mem (by rw [List.length_map, Array.length_toList]; omega)
  · obtain ⟨j, hj, rfl⟩ := mem_getD ha
    rw [List.length_map, Array.length_toList] at hj
    rw [← numAt_eq]; exact h2 j (by omega)
theorem min_tupRaw {its : List Value} {ns : List Int} {Q : Value → Shared → Prop} (hh : A.handled = none) (hl : s.heap.IsTuple l its.toArray) (hi : IntsAre its ns) (hne : 0 < ns.length)
    (h : ∀ h' tk M t', (∀ b o, s.heap.get? b = some o → h'.get? b = some o) → M ∈ ns → (∀ a, a ∈ ns → M ≤ a) → Q (.int M t') { s with heap := h', toks := tk }) : wpAny (model prog w) A (call (.builtin "min") [.ref l]) Q E s := by
  obtain ⟨xs, e⟩ := hi.allInts.items
  have hn : numsOf (intItems xs).toList = ns := by rw [← e]; exact hi.numsOf
  rw [nums_intItems] at hn
  subst hn
  rw [e] at hl
  have hsz : 0 < xs.size := by simpa using hne
  obtain ⟨hlt, hfp, hold⟩ := tupWalk hl
  refine call_min_walk (wpAny_pyIter_tuple hl ?_)
  refine ⟨_, [_, l], [_], _, _, _, _, rfl, Walks.tuple (A := A.in1) hh _ l (Nat.ne_of_lt hlt) (intItems xs), ⟨⟨_, Heap.get?_push_size _ rfl, rfl, rfl⟩, hl.push _⟩, hfp, by simpa [intItems] using hsz, CmpOf.ints_lt (numAt xs) (fun _ _ => intItems_at), fun v h' tk hP hk => ?_⟩
  obtain ⟨t, rfl⟩ := intItems_at hP
  obtain ⟨h1, h2⟩ := argBest_lt (numAt xs) (xs.size - 1)
  rw [show (intItems xs).size = xs.size by simp [intItems]]
  refine h h' tk _ t (hold h' hk) ?_ fun a ha => ?_
  · rw [numAt_eq]; exact PySem.getD_mem (by rw [List.length_map, Array.length_toList]; omega)
  · obtain ⟨j, hj, rfl⟩ := mem_getD ha
    rw [List.length_map, Array.length_toList] at hj
    rw [← numAt_eq]; exact h2 j (by omega)
end
def rMaxT (K : PySem.W.Frag) : List V → Hp → VK → Prop := fun vs H Q => ∃ (a : Addr) (ns : List Int), vs = [V.ref a] ∧ SqT K H a (ns.map V.int) ∧ 0 < ns.length ∧ ∀ m, m ∈ ns → (∀ y, y ∈ ns → y ≤ m) → Q (.int m) H
def rMinT (K : PySem.W.Frag) : List V → Hp → VK → Prop := fun vs H Q => ∃ (a : Addr) (ns : List Int), vs = [V.ref a] ∧ SqT K H a (ns.map V.int) ∧ 0 < ns.length ∧ ∀ m, m ∈ ns → (∀ y, y ∈ ns → m ≤ y) → Q (.int m) H
section
variable {X : Cx}
theorem cr_maxT (hc : X.calm = true) : CallR X (.builtin "max") (rMaxT X.K) := by
  intro pins s σ H vs us Q I r h
  obtain ⟨a, ns, rfl, hs, hne, q⟩ := h
  obtain ⟨its, rv, hl, _⟩ := I.tuple hs
  rw [Vals.ref1 r]
  exact max_tupRaw (I.ok.hd hc) hl rv.ints hne fun h' tk m t' hk h1 h2 => ⟨.int _, H, I.kept hk, ⟨_, rfl⟩, q m h1 h2⟩
theorem cr_minT (hc : X.calm = true) : CallR X (.builtin "min") (rMinT X.K) := by
  intro pins s σ H vs us Q I r h
  obtain ⟨a, ns, rfl, hs, hne, q⟩ := h
  obtain ⟨its, rv, hl, _⟩ := I.tuple hs
  rw [Vals.ref1 r]
  exact min_tupRaw (I.ok.hd hc) hl rv.ints hne fun h' tk m t' hk h1 h2 => ⟨.int _, H, I.kept hk, ⟨_, rfl⟩, q m h1 h2⟩
end
/-- the greatest, the least -/
def maxI : List Int → Int
  | [] => 0
  | x :: r => r.foldl max x
def minI : List Int → Int
  | [] => 0
  | x :: r => r.foldl min x
theorem foldl_max_ge : ∀ (r : List Int) (x : Int), x ≤ r.foldl max x ∧ (∀ y ∈ r, y ≤ r.foldl max x) ∧ (r.foldl max x = x ∨ r.foldl max x ∈ r)
  | [], x => ⟨Int.le_refl _, fun y hy => (by cases hy), .inl rfl⟩
  | a :: r, x => by
    obtain ⟨h1, h2, h3⟩ := foldl_max_ge r (max x a)
    rw [List.foldl_cons]
    refine ⟨by omega, fun y hy => ?_, ?_⟩
    · rcases List.mem_cons.mp hy with rfl | hy
      · omega
      · exact h2 y hy
    · rcases h3 with h3 | h3
      · rw [h3]
        rcases Int.le_total x a with h | h
        · rw [show max x a = a by omega]
          exact .inr List.mem_cons_self
        · rw [show max x a = x by omega]
          exact .inl rfl
      · exact .inr (List.mem_cons_of_mem _ h3)
theorem foldl_min_le : ∀ (r : List Int) (x : Int), r.foldl min x ≤ x ∧ (∀ y ∈ r, r.foldl min x ≤ y) ∧ (r.foldl min x = x ∨ r.foldl min x ∈ r)
  | [], x => ⟨Int.le_refl _, fun y hy => (by cases hy), .inl rfl⟩
  | a :: r, x => by
    obtain ⟨h1, h2, h3⟩ := foldl_min_le r (min x a)
    rw [List.foldl_cons]
    refine ⟨by omega, fun y hy => ?_, ?_⟩
    · rcases List.mem_cons.mp hy with rfl | hy
      · omega
      · exact h2 y hy
    · rcases h3 with h3 | h3
      · rw [h3]
        rcases Int.le_total x a with h | h
        · rw [show min x a = x by omega]
          exact .inl rfl
        · rw [show min x a = a by omega]
          exact .inr List.mem_cons_self
      · exact .inr (List.mem_cons_of_mem _ h3)
theorem maxI_is {ns : List Int} (h : 0 < ns.length) : maxI ns ∈ ns ∧ ∀ y ∈ ns, y ≤ maxI ns := by
  cases ns with
  | nil => cases h
  | cons x r =>
    obtain ⟨h1, h2, h3⟩ := foldl_max_ge r x
    refine ⟨?_, fun y hy => ?_⟩
    · rcases h3 with h3 | h3
      · show r.foldl max x ∈ _
        rw [h3]
        exact List.mem_cons_self
      · exact List.mem_cons_of_mem _ h3
    · rcases List.mem_cons.mp hy with rfl | hy
      · exact h1
      · exact h2 y hy
theorem minI_is {ns : List Int} (h : 0 < ns.length) : minI ns ∈ ns ∧ ∀ y ∈ ns, minI ns ≤ y := by
  cases ns with
  | nil => cases h
  | cons x r =>
    obtain ⟨h1, h2, h3⟩ := foldl_min_le r x
    refine ⟨?_, fun y hy => ?_⟩
    · rcases h3 with h3 | h3
      · show r.foldl min x ∈ _
        rw [h3]
        exact List.mem_cons_self
      · exact List.mem_cons_of_mem _ h3
    · rcases List.mem_cons.mp hy with rfl | hy
      · exact h1
      · exact h2 y hy
section
variable {K : PySem.W.Frag} {ns : List Int}
theorem o_maxT (h : 0 < ns.length) : OpA K (rMaxT K) [.nd .tup (ns.map Da.int)] (.int (maxI ns)) := ⟨_, rfl, fun H vs Q f q => by
  obtain ⟨x, xr, rfl, g, g'⟩ := f.cons_inv
  cases g'.nil_inv
  obtain ⟨a, ws, rfl, g1, g2⟩ := g.inv
  cases g2.ints_inv
  refine ⟨a, ns, rfl, SqT.of g1.tup, h, fun m h1 h2 => ?_⟩
  have e : m = maxI ns := by
    have z := maxI_is h
    have := h2 _ z.1
    have := z.2 _ h1
    omega
  rw [e]
  exact q⟩
theorem o_minT (h : 0 < ns.length) : OpA K (rMinT K) [.nd .tup (ns.map Da.int)] (.int (minI ns)) := ⟨_, rfl, fun H vs Q f q => by
  obtain ⟨x, xr, rfl, g, g'⟩ := f.cons_inv
  cases g'.nil_inv
  obtain ⟨a, ws, rfl, g1, g2⟩ := g.inv
  cases g2.ints_inv
  refine ⟨a, ns, rfl, SqT.of g1.tup, h, fun m h1 h2 => ?_⟩
  have e : m = minI ns := by
    have z := minI_is h
    have := h2 _ z.1
    have := z.2 _ h1
    omega
  rw [e]
  exact q⟩
theorem o_maxL {k : NK} (hk : k = .lst ∨ k = .rd) (h : 0 < ns.length) : OpA K (rMaxA K) [.nd k (ns.map Da.int)] (.int (maxI ns)) := ⟨_, rfl, fun H vs Q f q => by
  obtain ⟨x, xr, rfl, g, g'⟩ := f.cons_inv
  cases g'.nil_inv
  obtain ⟨a, ws, rfl, g1, g2⟩ := g.inv
  cases g2.ints_inv
  refine .inr ⟨a, ns, rfl, g1.seqL hk, h, fun m h1 h2 => ?_⟩
  have e : m = maxI ns := by
    have z := maxI_is h
    have := h2 _ z.1
    have := z.2 _ h1
    omega
  rw [e]
  exact q⟩
theorem o_minL {k : NK} (hk : k = .lst ∨ k = .rd) (h : 0 < ns.length) : OpA K (rMinA K) [.nd k (ns.map Da.int)] (.int (minI ns)) := ⟨_, rfl, fun H vs Q f q => by
  obtain ⟨x, xr, rfl, g, g'⟩ := f.cons_inv
  cases g'.nil_inv
  obtain ⟨a, ws, rfl, g1, g2⟩ := g.inv
  cases g2.ints_inv
  refine .inr ⟨a, ns, rfl, g1.seqL hk, h, fun m h1 h2 => ?_⟩
  have e : m = minI ns := by
    have z := minI_is h
    have := h2 _ z.1
    have := z.2 _ h1
    omega
  rw [e]
  exact q⟩
end
end Ly

namespace Ly
open PySem L2 Lo
open PySem.Spec PyProof.Rows RT
/-! ## list(reversed(a list)) -/
abbrev revItems (xs : Array Value) : Nat → Value → Prop := fun i v => xs[xs.size - 1 - i]? = some v
abbrev ListAt (h : Heap) (a : Addr) (xs : Array Value) (c : Nat) : Prop := h.get? a = some { cls := .type "list", data := .seq xs c }
section
variable {prog : Program} {w : World} {A : Around} {E : Value → Shared → Prop} {s : Shared} {it l T : Addr} {xs : Array Value} {c : Nat}
theorem growRev {R : Result → Shared → Prop} {res : Value} (hh : A.handled = none) (hi : s.heap.IsRevIter it l ((xs.size : Int) - 1)) (hx : s.heap.IsList l xs) (hne : l ≠ it) (hz : xs.size ≤ sizeLine) (hT : ListAt s.heap T #[] c) (hTn : T ∉ [it, l])
    (go : ∀ h' tk ys c', (∀ b o, b ≠ T → b ≠ it → s.heap.get? b = some o → h'.get? b = some o) → ListAt h' T ys c' → ItemsOf (revItems xs) ys xs.size → R (.ok (.ret res)) { s with heap := h', toks := tk }) :
    wpAny (model prog w) A.in1 (Builtin.List.listExtendWith (.ref T) (.ref it) res)
      (fun fin s1 => match fin with | .done f => R (.ok f) s1 | .again cc => cc.quiet = true ∧ codeAny (model prog w) A cc R s1) (fun e s1 => R (.error e) s1) s := by
  have wk := (Walks.listRev (A := A.in1) (prog := prog) (w := w) hh it l hne xs).toS
  have tyI : s.TypeIs (.ref it) "list_reverseiterator" := hi.typeIs
  have hTi : T ≠ it := fun e => hTn (e ▸ List.mem_cons_self)
  have unlike : Builtin.List.listSameRef (.ref T) (.ref it) = false := by simp [Builtin.List.listSameRef, hTi]
  unfold Builtin.List.listExtendWith
  refine wpAny_bind (wpAny_typeOf tyI ?_)
  rw [if_neg (by rw [unlike]; exact Bool.false_ne_true)]
  refine wpAny_bind (wpAny_pyIter_revIter hi (wpAny_bind (wpAny_holding ?_)))
  unfold Builtin.List.listLengthHint
  refine wpAny_bind (wpAny_specialOf tyI nolen_lri ?_)
  show wpAny _ A.in1 (specialOf (.ref it) (Str.ofString "__length_hint__") >>= _) _ _ _
  refine wpAny_bind (wpAny_specialOf tyI hint_lri ?_)
  generalize hq : ("list_reverseiterator.__length_hint__" : String) = qq
  wp_delta
  rw [show splitId qq = some ("list_reverseiterator", "__length_hint__") by subst hq; decide +kernel]
  subst hq
  refine wpAny_bind (wpAny_isInstance tyI (b := true) (by rw [isSubtype_type]; kernel_rfl) (wpAny_pure ?_))
  rw [if_neg (by decide)]
  have z0 : ((xs.size : Nat) : Int) - 1 - ((0 : Nat) : Int) = (xs.size : Int) - 1 := by omega
  refine wpAny_pure ⟨plainId_quiet F.plain_extend_loop _, codeAny_extend_loopS wk hz T hTn res xs.size 0 _ #[] c rfl (Nat.zero_le _) ⟨Nat.zero_le _, by rw [z0]; exact hi, hx⟩ hT (ItemsOf.nil _) fun s1 ys c' hm hT1 hys => ?_⟩
  rw [Moved.eq_with hm]
  refine go s1.heap s1.toks ys c' (fun b o hb hb2 e => hm.heap b o (fun hmem => ?_) e) hT1 hys
  rcases List.mem_cons.mp hmem with e1 | hmem
  · exact hb e1
  · exact hb2 (List.mem_singleton.mp hmem)
theorem initRev {R : Result → Shared → Prop} (hh : A.handled = none) (hi : s.heap.IsRevIter it l ((xs.size : Int) - 1)) (hx : s.heap.IsList l xs) (hne : l ≠ it) (hz : xs.size ≤ sizeLine) (hT : ListAt s.heap T #[] 0) (hTn : T ∉ [it, l])
    (go : ∀ h' tk ys c', (∀ b o, b ≠ T → b ≠ it → s.heap.get? b = some o → h'.get? b = some o) → ListAt h' T ys c' → ItemsOf (revItems xs) ys xs.size → R (.ok (.ret .none)) { s with heap := h', toks := tk }) :
    wpAny (model prog w) A.in1 (Builtin.«list.__init__» ⟨[.ref T, .ref it], []⟩)
      (fun fin s1 => match fin with | .done f => R (.ok f) s1 | .again cc => cc.quiet = true ∧ codeAny (model prog w) A cc R s1) (fun e s1 => R (.error e) s1) s := by
  show wpAny _ _ (do let was ← Builtin.List.listItems (.ref T); Builtin.List.listUpdate (.ref T) (fun _ => #[]); letGo was.toList.reverse; Builtin.List.listExtendWith (.ref T) (.ref it) .none) _ _ s
  refine wpAny_bind ?_
  unfold Builtin.List.listItems
  refine wpAny_bind (wpAny_seqItems hT rfl (wpAny_pure ?_))
  show wpAny _ _ (updateSeq T (fun _ => #[]) >>= fun _ => letGo [] >>= fun _ => Builtin.List.listExtendWith (.ref T) (.ref it) .none) _ _ s
  refine wpAny_bind (wpAny_updateSeq hT rfl (wpAny_bind (wpAny_letGo ?_)))
  have hT2 := Heap.get?_update_self (Obj.mapSeq fun _ => (#[] : Array Value)) hT rfl
  have same : ∀ b o, b ≠ T → s.heap.get? b = some o → (s.heap.update T (Obj.mapSeq fun _ => (#[] : Array Value))).get? b = some o := fun b o hb e => (Heap.get?_update_other _ _ (Ne.symm hb)).trans e
  have hTi : it ≠ T := fun e => hTn (by rw [← e]; exact List.mem_cons_self)
  have hTl : l ≠ T := fun e => hTn (by rw [← e]; exact List.mem_cons_of_mem _ List.mem_cons_self)
  obtain ⟨ol, hol, k1, k2, k3⟩ := id hx
  exact growRev (s := { s with heap := s.heap.update T (Obj.mapSeq fun _ => (#[] : Array Value)) }) hh (hi.at fun o e => same _ o hTi e) ⟨ol, same _ _ hTl hol, k1, k2, k3⟩ hne hz hT2 hTn fun h' tk ys c' hk => go h' tk ys c' fun b o hb hb2 e => hk b o hb hb2 (same b o hb e)
theorem listRev {Q : Value → Shared → Prop} (hh : A.handled = none) (hi : s.heap.IsRevIter it l ((xs.size : Int) - 1)) (hx : s.heap.IsList l xs) (hne : l ≠ it) (hz : xs.size ≤ sizeLine)
    (go : ∀ h' tk ys c', (∀ b o, b ≠ it → s.heap.get? b = some o → h'.get? b = some o) → ListAt h' s.heap.objs.size ys c' → ItemsOf (revItems xs) ys xs.size → Q (.ref s.heap.objs.size) { s with heap := h', toks := tk }) : wpAny (model prog w) A (call (.type "list") [.ref it]) Q E s := by
  refine callType_codes (Q₁ := fun obj t => obj = .ref s.heap.objs.size ∧ t = { s with heap := s.heap.push { cls := .type "list", data := .seq #[] } }) F.called_list (F.typeCall_list_1 _) F.entry_list_init (code_list_new _ ⟨rfl, rfl⟩) fun obj t ht => ?_
  obtain ⟨rfl, rfl⟩ := ht
  have hT : ListAt (s.heap.push { cls := .type "list", data := .seq #[] }) s.heap.objs.size #[] 0 := Heap.get?_push_size _ rfl
  have old : ∀ b o, s.heap.get? b = some o → (s.heap.push { cls := .type "list", data := .seq #[] }).get? b = some o := fun b o e => Heap.get?_push_of_some _ e
  obtain ⟨oi, hoi, _⟩ := id hi
  obtain ⟨ol, hol, _⟩ := id hx
  have out : s.heap.objs.size ∉ [it, l] := by
    simp only [List.mem_cons, List.not_mem_nil, or_false, not_or]
    exact ⟨Nat.ne_of_gt (Heap.lt_size hoi), Nat.ne_of_gt (Heap.lt_size hol)⟩
  refine ⟨⟨_, hT, rfl⟩, F.args_list_init_2 _ _, initRev (A := A.in1) hh (hi.at fun o e => old _ o e) (hx.push _) hne hz hT out fun h' tk ys c' hk hT1 hys => ?_⟩
  exact ⟨rfl, go h' tk ys c' (fun b o hb e => hk b o (Nat.ne_of_lt (Heap.lt_size e)) hb (old b o e)) hT1 hys⟩
end
def tLstRev (K : PySem.W.Frag) (te : TE) : TE := fun σ H Q => te σ H fun v H1 => ∃ (a : Addr) (xs : List V), v = .ref a ∧ SqL K H1 a xs ∧ ∀ q, H1 q = none → Q (.ref q) (upd H1 q (.lst xs.reverse))
section
variable {X : Cx}
theorem pe_lstRev {e : Expr} {te : TE} {p p2 pos pos2 : Pos} (hc : X.calm = true) (hg : Gl X "list") (hm : X.mg "list" = none) (hg2 : Gl X "reversed") (hm2 : X.mg "reversed" = none) (he : PE X e te)
    (n1 : starEach [e] X.env = (false, eval e X.env) :: starEach [] X.env := by rfl)
    (n2 : starEach [.Call (.Name "reversed" p2) [e] [] pos2] X.env = (false, eval (.Call (.Name "reversed" p2) [e] [] pos2) X.env) :: starEach [] X.env := by rfl) :
    PE X (.Call (.Name "list" p) [.Call (.Name "reversed" p2) [e] [] pos2] [] pos) (tLstRev X.K te) := by
  refine ⟨fun pns s σ H Q inv todo => ?_⟩
  refine Call_ (ld_blt inv hg hm boot_list (PyProof.Rows.callWith_type1 (args_cons (Call_ (ld_blt inv hg2 hm2 PyProof.Rows.boot_reversed (PyProof.Rows.callWith_type1 (args_cons (thn (he.run pns s σ H _ inv todo) fun u t ⟨v, H1, inv1, r1, q1⟩ => args_nil ?_) n1) n1 rfl))) n2) n2 rfl))
  obtain ⟨a, xs, rfl, hx, q⟩ := q1
  obtain rfl : u = Value.ref a := r1
  obtain ⟨vals, rv, pl, hz⟩ := inv1.list hx
  refine call_reversed_list pl.isList (args_nil ?_)
  have grown : ∀ b o, t.heap.get? b = some o → (t.heap.push (revObj a ((vals.toArray.size : Int) - 1))).get? b = some o := fun b o e => Heap.get?_push_of_some _ e
  have inv2 : Inv X pns σ H1 { t with heap := t.heap.push (revObj a ((vals.toArray.size : Int) - 1)) } := inv1.kept (t' := t.toks) grown
  obtain ⟨g0, g1, g2, g3, g4, g5⟩ := inv1.fpOk (H' := H1) (b := t.heap.objs.size) (Nat.le_refl _) (inv1.hok.fresh (Nat.le_refl _))
  have isl := pl.isList
  obtain ⟨ol, hol, _⟩ := id isl
  have apart : a ≠ t.heap.objs.size := Nat.ne_of_lt (Heap.lt_size hol)
  have small : vals.toArray.size ≤ sizeLine := by rw [List.size_toArray, ← rv.length]; exact hz
  refine listRev (s := { t with heap := t.heap.push (revObj a ((vals.toArray.size : Int) - 1)) }) (inv1.ok.hd hc) ⟨_, Heap.get?_push_size _ rfl, rfl, rfl⟩ (isl.push _) apart small fun h' tk ys c' hk hT hys => ?_
  have hsz : (t.heap.push (revObj a ((vals.toArray.size : Int) - 1))).objs.size = t.heap.objs.size + 1 := Heap.size_push ..
  have hfree : H1 (t.heap.push (revObj a ((vals.toArray.size : Int) - 1))).objs.size = none := inv1.hok.fresh (by rw [hsz]; exact Nat.le_succ _)
  refine ⟨.ref _, upd H1 (t.heap.push (revObj a ((vals.toArray.size : Int) - 1))).objs.size (.lst xs.reverse), ?_, rfl, q _ hfree⟩
  refine inv2.turnedNew (t' := tk) (ch := [t.heap.objs.size]) (fun b o hb e => hk b o (fun z => hb (by rw [z]; exact List.mem_singleton.mpr rfl)) e) (fun b hb => ?_) (Nat.le_refl _) ?_
  · rw [List.mem_singleton.mp hb]
    exact ⟨g0, g1, g2, g3, g4, g5⟩
  · exact (show ObjOk X.prog X.w _ _ _ (.lst xs.reverse) from ⟨by rw [List.length_reverse]; exact hz, ys.toList, c', vals_rev rv hys, by rw [Array.toArray_toList]; exact hT⟩)
end
section
variable {B : Bs} {ρ : Rho} {te : TE} {ds : List Da} {k : NK} {D : Ends} {s : TS} {i : Nat} {f : Str} {E : XK}
theorem eo_lstRev (h : Er B te ρ k ds) (hk : k = .lst ∨ k = .rd) : Eo B (tLstRev B.K te) ρ (ol ds.reverse) := fun S H σ cs st Q q => h S H σ cs st _ fun a vs S1 H1 s1 f1 f2 => by
  refine ⟨a, vs, rfl, f1.seqL hk, fun p hp => ?_⟩
  have fr : DqAll B.K S1 vs.reverse ds.reverse := ⟨by simp [f2.1], fun j v d h1 h2 => by
    have hl := f2.1
    have hj : j < vs.length := by
      have := (List.getElem?_eq_some_iff.mp h1).1
      simpa using this
    rw [List.getElem?_reverse hj] at h1
    rw [List.getElem?_reverse (by omega), ← hl] at h2
    exact f2.2 _ v d h1 h2⟩
  obtain ⟨s4, f4⟩ := fr_new (K := B.K) (k := .lst) (.inl rfl) hp s1.sh fr True.intro
  exact q _ [p] _ _ (s1.trans s4) (f4.prior s1.h)
theorem x_fld {to : TE} {C : Str} {a : Option V} (h : Ex B te ρ E C a) (x : Xk B E C a) : Gd B (tSeq (sFld B.K to te f) s) D ρ := fun S H σ cs st => h S H σ cs st _ (xk_at st x)
end
end Ly

namespace Ly
open PySem L2 Lo
open PySem.Spec PyProof.Rows RT
/-! ## tuple(reversed(a tuple)) -/
theorem nolen_rt : typeLookup (.type "reversed") "__len__" = pure none := by rw [typeLookup_type, builtinLookup_eq_fast]; kernel_rfl
theorem hint_rt : typeLookup (.type "reversed") "__length_hint__" = pure (some (.builtin "reversed.__length_hint__")) := by rw [typeLookup_type, builtinLookup_eq_fast]; kernel_rfl
theorem slot_rt_hint : Slot "reversed" "__length_hint__" "reversed.__length_hint__" :=
  .of (owner := "reversed") (n := "__length_hint__") (by rw [typeLookup_type, builtinLookup_eq_fast]; kernel_rfl) (by decide +kernel) (by decide +kernel) (by decide +kernel)
    (by first | exact .inl (by decide +kernel) | exact .inr (by decide +kernel)) (by rw [isSubtype_type]; kernel_rfl)
theorem entry_rt_hint : entryFor table "reversed.__length_hint__" = some Builtin.«reversed.__length_hint__» := entryFor_of_tree (by kernel_rfl)
theorem args_rt_hint (a : Value) : argsOk "reversed.__length_hint__" ⟨[a], []⟩ := by
  unfold argsOk; rw [signature?_of (id := "reversed.__length_hint__") (n := ['_', '_', 't', 'n', 'i', 'h', '_', 'h', 't', 'g', 'n', 'e', 'l', '_', '_']) (o := ['d', 'e', 's', 'r', 'e', 'v', 'e', 'r']) (by kernel_rfl) owner_rt]; kernel_rfl
theorem isTup_at {h h' : Heap} {t : Addr} {xs : Array Value} (x : IsTup h t xs) (e : ∀ o, h.get? t = some o → h'.get? t = some o) : IsTup h' t xs := let ⟨o, ho, r⟩ := x; ⟨o, e _ ho, r⟩
theorem walksRt {prog : Program} {w : World} {A : Around} (hh : A.handled = none) (I t : Addr) (hne : t ≠ I) (xs : Array Value) (hz : xs.size ≤ sizeLine) :
    Walks prog w A I [I, t] [I] xs.size (revItems xs) (fun i h => i ≤ xs.size ∧ IsRt h I t ((xs.size : Int) - 1 - (i : Int)) ∧ IsTup h t xs) where
  sub := fun b hb => by simp at hb; simp [hb]
  frame := fun _ _ _ x hk => ⟨x.1, x.2.1.at fun o e => hk I (by simp) o e, isTup_at x.2.2 fun o e => hk t (by simp) o e⟩
  item := fun i s Q E hi x hQ => by
    have e : (xs.size : Int) - 1 - (i : Int) = ((xs.size - 1 - i : Nat) : Int) := by omega
    have hit := x.2.1
    rw [e] at hit
    have hx : xs[xs.size - 1 - i]? = some (xs[xs.size - 1 - i]'(by omega)) := Array.getElem?_eq_getElem (by omega)
    refine next_rt_item hit x.2.2 hx hz fun h' hit' hs' => ?_
    have e2 : ((xs.size - 1 - i : Nat) : Int) - 1 = (xs.size : Int) - 1 - ((i + 1 : Nat) : Int) := by omega
    rw [e2] at hit'
    exact hQ _ h' (s.toks + 1) hx ⟨hi, hit', isTup_at x.2.2 fun o eo => (hs'.2 t hne).trans eo⟩ fun b o hb eo => hs'.extBut b o (fun h => hb (by simp [h])) eo
  done := fun s Q E x hQ => by
    have e : (xs.size : Int) - 1 - (xs.size : Int) = -1 := by omega
    have hit := x.2.1
    rw [e] at hit
    exact next_rt_end hh hit fun h' he' => hQ h' s.toks fun b o hb eo => he' b o (fun h => hb (by simp [h])) eo
  self := fun _ _ _ _ x hQ => iter_rt x.2.1 hQ
section
variable {prog : Program} {w : World} {A : Around} {E : Value → Shared → Prop} {s : Shared} {it l T : Addr} {xs : Array Value} {c : Nat}
theorem hintRt {i : Int} {Q : Value → Shared → Prop} (hi : IsRt s.heap it l i) (hx : IsTup s.heap l xs) (hz : xs.size ≤ sizeLine) (h0 : i + 1 ≤ xs.size)
    (go : Q (.int (i + 1) (s.toks + 1 + 1)) { s with toks := s.toks + 1 + 1 + 1 }) : wpAny (model prog w) A (call (.builtin "reversed.__length_hint__") [.ref it]) Q E s := by
  obtain ⟨o, ho, hc, hd⟩ := id hi
  have hn := line63
  refine wpAny_call_entry slot_rt_hint hi.typeIs entry_rt_hint ?_ (args_rt_hint _)
  unfold Builtin.«reversed.__length_hint__»
  refine wpAny_bind (wpAny_of_eq (a := Value.ref it) rfl ?_)
  try dsimp only
  refine wpAny_bind (wpAny_field ho hd (x := .ref l) rfl ?_)
  try dsimp only
  rw [if_neg (show ¬((Value.ref l == Value.none) = true) from fun z => by cases z)]
  refine wpAny_bind (len_tuple hx (by omega) ?_)
  refine wpAny_bind (wpAny_of_eq (a := some ((xs.size : Nat) : Int)) rfl ?_)
  try dsimp only
  refine wpAny_bind (wpAny_field (s := { s with toks := s.toks + 1 + 1 }) ho hd (x := rawInt i) rfl ?_)
  show wpAny _ _ (if ((xs.size : Nat) : Int) < i + 1 then _ else _) _ _ _
  rw [if_neg (by omega)]
  show wpAny _ _ (retInt (i + 1)) _ _ _
  unfold retInt
  refine wpAny_bind (wpAny_mkInt ?_)
  exact wpAny_pure ⟨_, rfl, go⟩
theorem loopRt {R : Result → Shared → Prop} {res : Value} (hh : A.handled = none) (hi : IsRt s.heap it l ((xs.size : Int) - 1)) (hx : IsTup s.heap l xs) (hne : l ≠ it) (hz : xs.size ≤ sizeLine) (hT : ListAt s.heap T #[] c) (hTn : T ∉ [it, l])
    (go : ∀ h' tk ys c', (∀ b o, b ≠ T → b ≠ it → s.heap.get? b = some o → h'.get? b = some o) → ListAt h' T ys c' → ItemsOf (revItems xs) ys xs.size → R (.ok (.ret res)) { s with heap := h', toks := tk }) :
    wpAny (model prog w) A.in1 (again (Code.builtin "list.extend.loop" { pos := [Value.ref T, Value.ref it, res] }))
      (fun fin s1 => match fin with | .done f => R (.ok f) s1 | .again cc => cc.quiet = true ∧ codeAny (model prog w) A cc R s1) (fun e s1 => R (.error e) s1) s := by
  have wk := (walksRt (A := A.in1) (prog := prog) (w := w) hh it l hne xs hz).toS
  have z0 : ((xs.size : Nat) : Int) - 1 - ((0 : Nat) : Int) = (xs.size : Int) - 1 := by omega
  refine wpAny_pure ⟨plainId_quiet F.plain_extend_loop _, codeAny_extend_loopS wk hz T hTn res xs.size 0 _ #[] c rfl (Nat.zero_le _) ⟨Nat.zero_le _, by rw [z0]; exact hi, hx⟩ hT (ItemsOf.nil _) fun s1 ys c' hm hT1 hys => ?_⟩
  rw [Moved.eq_with hm]
  refine go s1.heap s1.toks ys c' (fun b o hb hb2 e => hm.heap b o (fun hmem => ?_) e) hT1 hys
  rcases List.mem_cons.mp hmem with e1 | hmem
  · exact hb e1
  · exact hb2 (List.mem_singleton.mp hmem)
theorem growRt {R : Result → Shared → Prop} {res : Value} (hh : A.handled = none) (hi : IsRt s.heap it l ((xs.size : Int) - 1)) (hx : IsTup s.heap l xs) (hne : l ≠ it) (hz : xs.size ≤ sizeLine) (hT : ListAt s.heap T #[] c) (hTn : T ∉ [it, l])
    (go : ∀ h' tk ys c', (∀ b o, b ≠ T → b ≠ it → s.heap.get? b = some o → h'.get? b = some o) → ListAt h' T ys c' → ItemsOf (revItems xs) ys xs.size → R (.ok (.ret res)) { s with heap := h', toks := tk }) :
    wpAny (model prog w) A.in1 (Builtin.List.listExtendWith (.ref T) (.ref it) res)
      (fun fin s1 => match fin with | .done f => R (.ok f) s1 | .again cc => cc.quiet = true ∧ codeAny (model prog w) A cc R s1) (fun e s1 => R (.error e) s1) s := by
  have tyI : s.TypeIs (.ref it) "reversed" := hi.typeIs
  have hTi : T ≠ it := fun e => hTn (e ▸ List.mem_cons_self)
  have unlike : Builtin.List.listSameRef (.ref T) (.ref it) = false := by simp [Builtin.List.listSameRef, hTi]
  unfold Builtin.List.listExtendWith
  refine wpAny_bind (wpAny_typeOf tyI ?_)
  rw [if_neg (by rw [unlike]; exact Bool.false_ne_true)]
  refine wpAny_bind (iter_rt hi (wpAny_bind (wpAny_holding ?_)))
  unfold Builtin.List.listLengthHint
  refine wpAny_bind (wpAny_specialOf tyI nolen_rt ?_)
  show wpAny _ A.in1 (specialOf (.ref it) (Str.ofString "__length_hint__") >>= _) _ _ _
  refine wpAny_bind (wpAny_specialOf tyI hint_rt ?_)
  generalize hq : ("reversed.__length_hint__" : String) = qq
  wp_delta
  rw [show splitId qq = some ("reversed", "__length_hint__") by subst hq; decide +kernel]
  subst hq
  have hsz := line63
  refine wpAny_bind (wpAny_isInstance tyI (b := true) (by rw [isSubtype_type]; kernel_rfl) ?_)
  rw [if_neg (by decide)]
  try dsimp only
  rw [if_neg (by decide +kernel)]
  refine wpAny_bind (wpAny_rule ?_)
  refine wpAny_bind (wpAny_of_eq (a := (Value.builtin "reversed.__length_hint__", [Value.ref it])) rfl ?_)
  try dsimp only
  refine wpAny_bind (wpAny_attempt (hintRt hi hx hz (by omega) ?_))
  try dsimp only
  refine wpAny_bind (wpAny_of_eq (a := some ((xs.size : Int) - 1 + 1)) rfl ?_)
  try dsimp only
  rw [if_neg (by simp [Builtin.List.listFitsIndex]; omega)]
  try dsimp only
  rw [if_neg (by omega)]
  try dsimp only
  rw [if_neg (by simp [Builtin.List.listTooLong]; omega)]
  try dsimp only
  refine wpAny_pure ?_
  have hTl : T ≠ l := fun e => hTn (by rw [e]; exact List.mem_cons_of_mem _ List.mem_cons_self)
  by_cases h0 : xs.size = 0
  · rw [if_neg (by rw [show ((xs.size : Int) - 1 + 1 != 0) = false by simp [h0]]; decide +kernel)]
    exact loopRt (s := { s with toks := s.toks + 1 + 1 + 1 }) hh hi hx hne hz hT hTn go
  · rw [if_pos (by rw [show ((xs.size : Int) - 1 + 1 != 0) = true from bne_iff_ne.mpr (by omega)]; rfl)]
    refine wpAny_bind (wpAny_rule ?_)
    refine wpAny_bind ?_
    show wpAny _ _ (updateSeq T (·.push .none) >>= fun _ => updateSeq T (·.pop)) _ _ _
    refine wpAny_bind (wpAny_updateSeq (s := { s with toks := s.toks + 1 + 1 + 1 }) hT rfl ?_)
    have hT2 := Heap.get?_update_self (Obj.mapSeq (·.push .none)) hT rfl
    refine wpAny_updateSeq (s := { s with heap := s.heap.update T (Obj.mapSeq (·.push .none)), toks := s.toks + 1 + 1 + 1 }) hT2 rfl ?_
    have hT3 := Heap.get?_update_self (Obj.mapSeq (·.pop)) hT2 rfl
    have same : ∀ b o, b ≠ T → s.heap.get? b = some o → ((s.heap.update T (Obj.mapSeq (·.push .none))).update T (Obj.mapSeq (·.pop))).get? b = some o := fun b o hb e => (Heap.get?_update_other _ _ (Ne.symm hb)).trans ((Heap.get?_update_other _ _ (Ne.symm hb)).trans e)
    refine loopRt (s := { s with heap := (s.heap.update T (Obj.mapSeq (·.push .none))).update T (Obj.mapSeq (·.pop)), toks := s.toks + 1 + 1 + 1 }) hh (hi.at fun o e => same _ o (Ne.symm hTi) e) (isTup_at hx fun o e => same _ o (Ne.symm hTl) e) hne hz hT3 hTn fun h' tk ys c' hk => go h' tk ys c' fun b o hb hb2 e => hk b o hb hb2 (same b o hb e)
/-- the items that an iterator still gives -/
theorem collectRt {Q : List Value → Shared → Prop} (hh : A.handled = none) (hi : IsRt s.heap it l ((xs.size : Int) - 1)) (hx : IsTup s.heap l xs) (hne : l ≠ it) (hz : xs.size ≤ sizeLine)
    (go : ∀ h' tk ys, (∀ b o, b ≠ it → s.heap.get? b = some o → h'.get? b = some o) → ItemsOf (revItems xs) ys xs.size → Q ys.toList { s with heap := h', toks := tk }) : wpAny (model prog w) A (collect (.ref it)) Q E s := by
  obtain ⟨oi, hoi, _⟩ := id hi
  obtain ⟨ol, hol, _⟩ := id hx
  have old : ∀ b o, s.heap.get? b = some o → (s.heap.push { cls := .type "list", data := .seq ([] : List Value).toArray }).get? b = some o := fun b o e => Heap.get?_push_of_some _ e
  have out : s.heap.objs.size ∉ [it, l] := by
    simp only [List.mem_cons, List.not_mem_nil, or_false, not_or]
    exact ⟨Nat.ne_of_gt (Heap.lt_size hoi), Nat.ne_of_gt (Heap.lt_size hol)⟩
  have hT : ListAt (s.heap.push { cls := .type "list", data := .seq ([] : List Value).toArray }) s.heap.objs.size #[] 0 := Heap.get?_push_size _ rfl
  unfold collect
  refine wpAny_bind (wpAny_runValue (codeAny_builtin F.entry_proto_collect ?_))
  rw [Around.under_plainId F.plain_proto_collect _]
  show wpAny _ A.in1 (newList [] >>= fun T => again (.builtin "list.__iadd__" ⟨[T, .ref it], []⟩)) _ _ s
  refine wpAny_bind (wpAny_newObj_type ?_)
  refine wpAny_pure ⟨plainId_quiet F.plain_list_iadd _, codeAny_builtin F.entry_list_iadd ?_⟩
  rw [Around.under_plainId F.plain_list_iadd _]
  show wpAny _ A.in1 (Builtin.List.listExtendWith (.ref s.heap.objs.size) (.ref it) (.ref s.heap.objs.size)) _ _ _
  refine wpAny_mono (growRt (A := A) (s := { s with heap := s.heap.push { cls := .type "list", data := .seq ([] : List Value).toArray } })
    (R := fun rr s1 => rr = .ok (.ret (.ref s.heap.objs.size)) ∧ ∃ h' tk ys c', s1 = { s with heap := h', toks := tk } ∧ (∀ b o, b ≠ it → s.heap.get? b = some o → h'.get? b = some o) ∧ ListAt h' s.heap.objs.size ys c' ∧ ItemsOf (revItems xs) ys xs.size)
    hh (hi.at fun o e => old _ o e) (isTup_at hx fun o e => old _ o e) hne hz hT out fun h' tk ys c' hk hT1 hys => ⟨rfl, h', tk, ys, c', rfl, fun b o hb e => hk b o (Nat.ne_of_lt (Heap.lt_size e)) hb (old b o e), hT1, hys⟩) (fun fin s1 h => ?_) (fun e s1 h => ?_)
  · cases fin with
    | done f =>
      obtain ⟨e, h', tk, ys, c', rfl, hk, hT1, hys⟩ := h
      cases e
      show wpAny _ A (load s.heap.objs.size >>= _) _ _ _
      exact wpAny_bind (wpAny_load hT1 (wpAny_pure (go h' tk ys hk hys)))
    | again cc =>
      refine ⟨h.1, codeAny_mono h.2 fun rr s2 hr => ?_⟩
      obtain ⟨rfl, h', tk, ys, c', rfl, hk, hT1, hys⟩ := hr
      show wpAny _ A (load s.heap.objs.size >>= _) _ _ _
      exact wpAny_bind (wpAny_load hT1 (wpAny_pure (go h' tk ys hk hys)))
  · exact absurd h.1 (by simp)
theorem tupRt {Q : Value → Shared → Prop} (hh : A.handled = none) (hi : IsRt s.heap it l ((xs.size : Int) - 1)) (hx : IsTup s.heap l xs) (hne : l ≠ it) (hz : xs.size ≤ sizeLine)
    (go : ∀ (h' : Heap) (tk : Nat) (ys : Array Value), (∀ b o, b ≠ it → s.heap.get? b = some o → h'.get? b = some o) → ItemsOf (revItems xs) ys xs.size → Q (.ref h'.objs.size) { s with heap := h'.push { cls := .type "tuple", data := .seq ys }, toks := tk }) :
    wpAny (model prog w) A (call (.type "tuple") [.ref it]) Q E s := by
  refine callType_codes (Q₁ := fun obj s₁ => s₁.TypeIs obj "tuple" ∧ Q obj s₁) F.called_tuple (F.typeCall_tuple_1 _) F.entry_object_init ?_ fun obj s₁ h₁ =>
    ⟨h₁.1, F.args_object_init_2 obj _, object_init_meets F.called_tuple.init.lookup F.called_tuple.made (by decide) prog w A.in1 _ s₁ ⟨h₁.1, rfl, h₁.2⟩⟩
  refine codeAny_of_tree ?_
  show wpAny _ A.in1.in1 (do checkBuiltinCall "tuple.__new__" ⟨[.type "tuple", .ref it], []⟩; again (.builtin "tuple.__new__" ⟨[.type "tuple", .ref it], []⟩)) _ _ s
  refine wpAny_bind (wpAny_of_eq (F.newCall_tuple_1 _) (wpAny_pure ⟨plainId_quiet F.plain_tuple_new _, codeAny_builtin F.entry_tuple_new ?_⟩))
  rw [Around.under_plainId F.plain_tuple_new _]
  have hsub := sub_tuple_self
  have hinit := init_tuple_lookup
  have hmh := madeHere_tuple
  have tyI : s.TypeIs (.ref it) "reversed" := hi.typeIs
  have hh2 : A.in1.in1.handled = none := hh
  wp_walk using wpAny_typeOf tyI, collectRt (A := A.in1.in1) hh2 hi hx hne hz
  intro h' tk ys hk hys
  show wpAny _ _ (Builtin.Tuple.tupleExact ys.toList.toArray >>= fun v => ret v) _ _ _
  unfold Builtin.Tuple.tupleExact
  refine wpAny_bind (wpAny_newObj_type ?_ (by show ys.toList.toArray.size ≤ sizeLine; simp only [Array.toArray_toList]; rw [hys.1]; exact hz))
  refine wpAny_pure ?_
  rw [show ys.toList.toArray = ys by simp]
  exact ⟨⟨_, Heap.get?_push_size _ rfl, rfl⟩, go h' tk ys hk hys⟩
end
/-- tuple(reversed(x)), x a tuple -/
def tTupRt (K : PySem.W.Frag) (te : TE) : TE := fun σ H Q => te σ H fun v H1 => ∃ (a : Addr) (xs : List V), v = .ref a ∧ SqT K H1 a xs ∧ ∀ q, H1 q = none → Q (.ref q) (upd H1 q (.tup xs.reverse))
section
variable {X : Cx}
theorem pe_tupRt {e : Expr} {te : TE} {p p2 pos pos2 : Pos} (hc : X.calm = true) (hg : Gl X "tuple") (hm : X.mg "tuple" = none) (hg2 : Gl X "reversed") (hm2 : X.mg "reversed" = none) (he : PE X e te)
    (n1 : starEach [e] X.env = (false, eval e X.env) :: starEach [] X.env := by rfl)
    (n2 : starEach [.Call (.Name "reversed" p2) [e] [] pos2] X.env = (false, eval (.Call (.Name "reversed" p2) [e] [] pos2) X.env) :: starEach [] X.env := by rfl) :
    PE X (.Call (.Name "tuple" p) [.Call (.Name "reversed" p2) [e] [] pos2] [] pos) (tTupRt X.K te) := by
  refine ⟨fun pns s σ H Q inv todo => ?_⟩
  refine Call_ (ld_blt inv hg hm boot_tuple (PyProof.Rows.callWith_type1 (args_cons (Call_ (ld_blt inv hg2 hm2 PyProof.Rows.boot_reversed (PyProof.Rows.callWith_type1 (args_cons (thn (he.run pns s σ H _ inv todo) fun u t ⟨v, H1, inv1, r1, q1⟩ => args_nil ?_) n1) n1 rfl))) n2) n2 rfl))
  obtain ⟨a, xs, rfl, hx, q⟩ := q1
  obtain rfl : u = Value.ref a := r1
  obtain ⟨vals, rv, pl, hz⟩ := inv1.tuple hx
  have hn := line63
  have small : vals.toArray.size ≤ sizeLine := by rw [List.size_toArray, ← rv.length]; exact hz
  refine call_reversed_tup pl (fun A E Q k => len_tuple pl (by omega) k) (args_nil ?_)
  have grown : ∀ b o, t.heap.get? b = some o → (t.heap.push (rtObj a ((vals.toArray.size : Int) - 1))).get? b = some o := fun b o e => Heap.get?_push_of_some _ e
  have inv2 : Inv X pns σ H1 { t with heap := t.heap.push (rtObj a ((vals.toArray.size : Int) - 1)), toks := t.toks + 1 + 1 } := inv1.kept (t' := t.toks + 1 + 1) grown
  obtain ⟨g0, g1, g2, g3, g4, g5⟩ := inv1.fpOk (H' := H1) (b := t.heap.objs.size) (Nat.le_refl _) (inv1.hok.fresh (Nat.le_refl _))
  have plc := pl
  obtain ⟨ol, hol, _⟩ := id plc
  have apart : a ≠ t.heap.objs.size := Nat.ne_of_lt (Heap.lt_size hol)
  refine tupRt (s := { t with heap := t.heap.push (rtObj a ((vals.toArray.size : Int) - 1)), toks := t.toks + 1 + 1 }) (inv1.ok.hd hc) ⟨_, Heap.get?_push_size _ rfl, rfl, rfl⟩ (isTup_at pl fun o e => grown _ o e) apart small fun h' tk ys hk hys => ?_
  have inv3 : Inv X pns σ H1 { t with heap := h', toks := tk } := inv2.turned (t' := tk) (fun b o hb e => hk b o hb e) g0 g1 g3 g4 g5
  refine ⟨.ref h'.objs.size, upd H1 h'.objs.size (.tup xs.reverse), inv3.laid (t' := tk) (fun b o e => Heap.get?_push_of_some _ e) (Nat.le_refl _) (show ObjOk X.prog X.w _ _ _ (.tup xs.reverse) from ⟨by rw [List.length_reverse]; exact hz, ys.toList, vals_rev rv hys, ?_⟩), rfl, q _ (inv3.hok.fresh (Nat.le_refl _))⟩
  rw [Array.toArray_toList]
  exact IsTup.new _ _
theorem pe_tupRtK {K2 : PySem.W.Frag} {e : Expr} {te : TE} {p p2 pos pos2 : Pos} (hK : X.K = K2) (hc : X.calm = true) (hg : Gl X "tuple") (hm : X.mg "tuple" = none) (hg2 : Gl X "reversed") (hm2 : X.mg "reversed" = none) (he : PE X e te)
    (n1 : starEach [e] X.env = (false, eval e X.env) :: starEach [] X.env := by rfl)
    (n2 : starEach [.Call (.Name "reversed" p2) [e] [] pos2] X.env = (false, eval (.Call (.Name "reversed" p2) [e] [] pos2) X.env) :: starEach [] X.env := by rfl) :
    PE X (.Call (.Name "tuple" p) [.Call (.Name "reversed" p2) [e] [] pos2] [] pos) (tTupRt K2 te) := by
  subst hK
  exact pe_tupRt hc hg hm hg2 hm2 he n1 n2
end
section
variable {B : Bs} {ρ : Rho} {te : TE} {ds : List Da}
theorem eo_tupRt (h : Er B te ρ .tup ds) : Eo B (tTupRt B.K te) ρ (.nd .tup (ds.reverse.map Tr.sh)) := fun S H σ cs st Q q => h S H σ cs st _ fun a vs S1 H1 s1 f1 f2 => by
  refine ⟨a, vs, rfl, SqT.of f1.tup, fun p hp => ?_⟩
  have fr : DqAll B.K S1 vs.reverse ds.reverse := ⟨by simp [f2.1], fun j v d h1 h2 => by
    have hl := f2.1
    have hj : j < vs.length := by
      have := (List.getElem?_eq_some_iff.mp h1).1
      simpa using this
    rw [List.getElem?_reverse hj] at h1
    rw [List.getElem?_reverse (by omega), ← hl] at h2
    exact f2.2 _ v d h1 h2⟩
  obtain ⟨s4, f4⟩ := fr_new (K := B.K) (k := .tup) (.inr (.inl rfl)) hp s1.sh fr True.intro
  exact q _ [p] _ _ (s1.trans s4) (f4.prior s1.h)
end
end Ly

namespace Ly
open PySem L2 Lo
open PySem.Spec PyProof.Rows RT HotX L2H
/-! ## comprehensions and sums where an exception is handled -/
section
variable {prog : Program} {w : World} {A : Around} {E : Value → Shared → Prop} {s : Shared}
theorem nextEndHot {it l x1 : Addr} {i : Nat} {items : Array Value} {Q : Option Value → Shared → Prop} (hot : HotAt A x1 s.heap) (hne : x1 ≠ it) (hit : s.heap.IsListIter it l i) (hl : s.heap.IsList l items) (hx : items[i]? = none)
    (hQ : ∀ h', Heap.ExtBut it s.heap h' → Q none { s with heap := h' }) : wpAny (model prog w) A (pyNext (.ref it)) Q E s := by
  obtain ⟨o, ho, hc, hd⟩ := id hit
  obtain ⟨ol, hol, _, nl, hdl⟩ := hl
  obtain ⟨hh, o1, vs1, h1, d1, c1⟩ := hot
  unfold pyNext
  refine wpAny_bind (wpAny_attempt (wpAny_callSpecial?_slot (name := Str.ofString "__next__") hit.typeIs slot_listiter_next (wpAny_call_entry slot_listiter_next hit.typeIs entry_listiter_next ?_ (args_listiter_next _))))
  show wpAny _ _ (field (.ref it) 0 >>= _) _ _ s
  refine wpAny_bind (wpAny_field ho hd (x := .ref l) rfl ?_)
  show wpAny _ _ (if (Value.ref l == Value.none) = true then _ else _) _ _ s
  rw [if_neg (show ¬ ((Value.ref l == Value.none) = true) from fun z => by cases z)]
  show wpAny _ _ (field (.ref it) 1 >>= _) _ _ s
  refine wpAny_bind (wpAny_field ho hd (x := .int i 0) rfl ?_)
  show wpAny _ _ (seqItems? (.ref l) >>= _) _ _ s
  refine wpAny_bind (wpAny_seqItems hol hdl ?_)
  simp only [Int.toNat_natCast, hx]
  refine wpAny_bind (wpAny_rule (wpAny_bind (wpAny_setField ho hd (by simp) ?_)))
  show wpAny _ _ (newExc (.type "StopIteration") [] >>= _) _ _ _
  refine wpAny_bind ?_
  simp only [newExc, newTuple]
  refine wpAny_bind (wpAny_newObj_type ?_ (by size_fits))
  refine wpAny_bind (m := firstArgMember _ _) (wpAny_of_eq (a := Value.none) (by first | rfl | (simp only [firstArgMember]; rfl)) ?_)
  refine wpAny_newObj_type ?_ (by size_fits)
  have h1' : (s.heap.update it (Obj.mapFields fun x => x.setIfInBounds 0 Value.none)).get? x1 = some o1 := (Heap.get?_update_other _ _ (Ne.symm hne)).trans h1
  refine raiseNew_hot ⟨hh, o1, vs1, Heap.get?_push_of_some _ (Heap.get?_push_of_some _ h1'), d1, c1⟩ (Nat.ne_of_lt (Heap.lt_size (Heap.get?_push_of_some _ h1'))) (Heap.get?_push_size _ rfl) rfl (by first | (simp; done) | (simp; omega) | (simp only [Array.size_append]; simp; omega)) ?_
  refine wpAny_bind (wpAny_isInstance (T := "StopIteration") (b := true) ⟨_, Heap.get?_update_self _ (Heap.get?_push_size _ rfl) rfl, rfl⟩ isSubtype_stop ?_)
  refine wpAny_pure (hQ _ fun b ob hb e => ?_)
  have e' : (s.heap.update it (Obj.mapFields fun x => x.setIfInBounds 0 Value.none)).get? b = some ob := (Heap.get?_update_other _ _ (Ne.symm hb)).trans e
  rw [Heap.get?_update_other _ _ (Nat.ne_of_gt (Heap.lt_size (Heap.get?_push_of_some _ e')))]
  exact Heap.get?_push_of_some _ (Heap.get?_push_of_some _ e')
theorem HotAt.keep {x1 : Addr} {h h' : Heap} (hot : HotAt A x1 h) (k : ∀ o, h.get? x1 = some o → h'.get? x1 = some o) : HotAt A x1 h' := by
  obtain ⟨hh, o1, vs1, h1, d1, c1⟩ := hot
  exact ⟨hh, o1, vs1, k _ h1, d1, c1⟩
theorem walksHot (I l x1 : Addr) (hl : l ≠ I) (hx : x1 ≠ I) (items : Array Value) (hh : A.handled = some (.ref x1)) :
    Walks prog w A I [I, l, x1] [I] items.size (fun i v => items[i]? = some v) (fun i h => h.IsListIter I l i ∧ h.IsList l items ∧ HotAt A x1 h) where
  sub := fun b hb => by simp at hb; simp [hb]
  frame := fun _ _ _ st k => ⟨st.1.at fun o e => k I (by simp) o e, st.2.1.at fun o e => k l (by simp) o e, HotAt.keep st.2.2 fun o e => k x1 (by simp) o e⟩
  item := fun i s Q E hi st hQ => by
    refine wpAny_pyNext_list_item st.1 st.2.1 (x := items[i]) (by simp [hi]) fun h' hit' hs' => ?_
    exact hQ _ h' s.toks (by simp [hi]) ⟨hit', st.2.1.extBut hs'.extBut hl, HotAt.keep st.2.2 fun o e => (hs'.2 x1 hx).trans e⟩ fun b o hb e => hs'.extBut b o (fun h => hb (by simp [h])) e
  done := fun s Q E st hQ => nextEndHot st.2.2 hx st.1 st.2.1 (by simp) fun h' he' => hQ h' s.toks fun b o hb e => he' b o (fun h => hb (by simp [h])) e
  self := fun _ _ _ _ st hQ => wpAny_pyIter_listiter st.1 hQ
theorem sumHot {l x1 : Addr} {its : List Value} {ns : List Int} {Q : Value → Shared → Prop} (hot : HotAt A x1 s.heap) (hl : s.heap.IsList l its.toArray) (hi : IntsAre its ns)
    (h : ∀ h' tk t', (∀ b o, s.heap.get? b = some o → h'.get? b = some o) → Q (.int ns.sum t') { s with heap := h', toks := tk }) : wpAny (model prog w) A (call (.builtin "sum") [.ref l]) Q E s := by
  obtain ⟨xs, e⟩ := hi.allInts.items
  have hn : numsOf (intItems xs).toList = ns := by rw [← e]; exact hi.numsOf
  rw [nums_intItems] at hn
  rw [e] at hl
  obtain ⟨ol, hol, _⟩ := id hl
  obtain ⟨hh, o1, vs1, h1, d1, c1⟩ := id hot
  have ll := Heap.lt_size hol
  have l1 := Heap.lt_size h1
  refine call_sum_walkG (wpAny_pyIter_list hl ?_)
  refine ⟨s.heap.objs.size, [s.heap.objs.size, l, x1], [s.heap.objs.size], _, _, _, numAt xs, rfl, walksHot (A := A.in1) _ l x1 (Nat.ne_of_lt ll) (Nat.ne_of_lt l1) (intItems xs) hh, ⟨⟨_, Heap.get?_push_size _ rfl, rfl, rfl⟩, hl.push _, ⟨hh, o1, vs1, Heap.get?_push_of_some _ h1, d1, c1⟩⟩, fun b hb => ?_, (fun _ _ => intItems_at), fun h' tk t' hk => ?_⟩
  · show b < (s.heap.push _).objs.size
    rw [Heap.size_push]
    simp only [List.mem_cons, List.not_mem_nil, or_false] at hb
    rcases hb with rfl | rfl | rfl
    · exact Nat.lt_succ_self _
    · exact Nat.lt_succ_of_lt ll
    · exact Nat.lt_succ_of_lt l1
  · have z := h h' tk t' fun b o e => hk b o (fun hm => absurd (Heap.lt_size e) (by rw [List.mem_singleton.mp hm]; exact Nat.lt_irrefl _)) (Heap.get?_push_of_some _ e)
    rw [show (intItems xs).size = xs.size by simp [intItems], preSum_eq, List.take_of_length_le (by simp), hn]
    exact z
end
section
variable {X : Cx}
theorem cr_sumH (hc : HotC X) : CallR X (.builtin "sum") (rSum X.K) := by
  intro pins s σ H vs us Q I r h
  obtain ⟨a, ns, rfl, hs, q⟩ := h
  obtain ⟨its, rv, hl, _⟩ := I.list hs
  rw [Vals.ref1 r]
  obtain ⟨x1, hot⟩ := hc.at I
  exact sumHot hot hl.isList rv.ints fun h' tk t' hk => ⟨.int _, H, I.kept hk, ⟨_, rfl⟩, q⟩
/-- one that is walked, whatever is handled -/
structure TurnW (P : Program) (w : World) (K : PySem.W.Frag) (tg : Expr) (J : It) (it : Addr) (tn : Nat → Heap → Prop) : Prop where
  obj : ∀ i h, tn i h → ∃ o, h.get? it = some o ∧ ∀ v, o.data ≠ .cell v
  keep : ∀ i h h', tn i h → (∀ o, h.get? it = some o → h'.get? it = some o) → tn i h'
  item : ∀ (X : Cx), X.prog = P → X.w = w → X.K = K → ∀ (i : Nat) (pins : List (Addr × Obj)) (s : Shared) (σ : L2.St) (H : Hp) (E : Value → Shared → Prop), Inv X pins σ H s → FpOk X pins H it → tn i s.heap → J.go i H →
    wpAny (model P w) X.A (pyNext (.ref it)) (fun r s1 => ∃ u x, r = some u ∧ RelV x u ∧ J.yld i H x H ∧ Inv X pins σ H s1 ∧ tn (i + 1) s1.heap ∧
      ∀ (Q : Unit → Shared → Prop), Q () s1 → wpAny (model P w) X.A (letOwnedTupleGo tg (.ref it) u) Q E s1) E s
  done : ∀ (X : Cx), X.prog = P → X.w = w → X.K = K → ∀ (i : Nat) (pins : List (Addr × Obj)) (s : Shared) (σ : L2.St) (H : Hp) (E : Value → Shared → Prop) (x1 : Addr), HotAt X.A x1 s.heap → x1 ≠ it → Inv X pins σ H s → FpOk X pins H it → tn i s.heap → J.stop i H →
    wpAny (model P w) X.A (pyNext (.ref it)) (fun r s1 => r = none ∧ Inv X pins σ H s1) E s
  self : ∀ (A : Around) (i : Nat) (s : Shared) (Q : Value → Shared → Prop) (E : Value → Shared → Prop), tn i s.heap → Q (.ref it) s → wpAny (model P w) A (pyIter (.ref it)) Q E s
def PIW (X : Cx) (tg iter : Expr) (wi : TI) : Prop := ∀ (pins : List (Addr × Obj)) (s : Shared) (σ : L2.St) (H : Hp) (R : It → Hp → Prop), Inv X pins σ H s → wi σ H R →
  wpAny (model X.prog X.w) X.A (eval iter X.env) (fun v s1 => wpAny (model X.prog X.w) X.A (pyIter v) (fun itv s2 => ∃ (it : Addr) (tn : Nat → Heap → Prop) (J : It) (H' : Hp), itv = .ref it ∧ Inv X pins σ H' s2 ∧ TurnW X.prog X.w X.K tg J it tn ∧ tn 0 s2.heap ∧ FpOk X pins H' it ∧ R J H') X.xe s1) X.xe s
theorem turnW_list {P : Program} {w : World} {K : PySem.W.Frag} {tg : Expr} (a it : Addr) : TurnW P w K tg (Itl K a) it (fun i h => h.IsListIter it a i) where
  obj := fun i h st => by
    obtain ⟨o, e, c, d⟩ := st
    exact ⟨o, e, fun v z => by rw [d] at z; cases z⟩
  keep := fun i h h' st k => st.at fun o e => k o e
  item := by
    intro X hP hw hK i pins s σ H E I f st hg
    subst hP hw hK
    obtain ⟨xs, x, hq, hx⟩ := hg
    obtain ⟨its, rv, p, hz⟩ := I.list hq
    obtain ⟨u, hu, ru⟩ := rv.get hx
    obtain ⟨f0, f1, f2, f3, f4, f5⟩ := f
    refine wpAny_pyNext_list_item st p.isList (x := u) (by simpa using hu) fun h' st' sb => ?_
    have I1 : Inv X pins σ H { s with heap := h' } := I.turned (t' := s.toks) (fun b o hb e => (sb.2 b hb).trans e) f0 f1 f3 f4 f5
    obtain ⟨o, e, c, d⟩ := id st'
    exact ⟨u, x, rfl, ru, ⟨rfl, fun ys hy => by rw [I.list_inj hy hq]; exact hx⟩, I1, st', fun Q q => go_of (s := { s with heap := h' }) e c d (by decide) q⟩
  done := by
    intro X hP hw hK i pins s σ H E x1 hot hne I f st hg
    subst hP hw hK
    obtain ⟨xs, hq, hx⟩ := hg
    obtain ⟨its, rv, p, hz⟩ := I.list hq
    obtain ⟨f0, f1, f2, f3, f4, f5⟩ := f
    have hl := rv.length
    have hn : its.toArray[i]? = none := by
      simp
      omega
    exact nextEndHot hot hne st p.isList hn fun h' eb => ⟨rfl, I.turned (t' := s.toks) (fun b o hb e => eb b o hb e) f0 f1 f3 f4 f5⟩
  self := fun A i s Q E st h => wpAny_pyIter_listiter st h
theorem turnW_rng {P : Program} {w : World} {K : PySem.W.Frag} {tg : Expr} (it : Addr) (lo : Int) (n : Nat) : TurnW P w K tg (Itr lo n) it (fun i h => IsRangeIter h it (lo + (i : Nat) * 1) ((n : Int) - (i : Nat)) 1) where
  obj := fun i h st => ⟨_, st, fun v z => nomatch z⟩
  keep := fun i h h' st k => k _ st
  item := by
    intro X hP hw hK i pins s σ H E I f st hg
    subst hP hw hK
    obtain ⟨f0, f1, f2, f3, f4, f5⟩ := f
    have hlt : i < n := hg
    refine wpAny_pyNext_range_item st (by omega) fun h' st' sb => ?_
    have st2 : IsRangeIter h' it (lo + ((i + 1 : Nat) : Int) * 1) ((n : Int) - ((i + 1 : Nat) : Int)) 1 := by
      rw [show lo + ((i + 1 : Nat) : Int) * 1 = lo + ((i : Nat) : Int) * 1 + 1 by omega, show (n : Int) - ((i + 1 : Nat) : Int) = (n : Int) - ((i : Nat) : Int) - 1 by omega]
      exact st'
    have I1 : Inv X pins σ H { s with heap := h', toks := s.toks + 1 } := I.turned (fun b o hb e => (sb.2 b hb).trans e) f0 f1 f3 f4 f5
    refine ⟨_, .int (lo + i), rfl, ⟨s.toks, ?_⟩, ⟨rfl, rfl⟩, I1, st2, fun Q q => go_of (s := { s with heap := h', toks := s.toks + 1 }) (n := "range_iterator") st2 rfl rfl (by decide) q⟩
    rw [Int.mul_one]
  done := by
    intro X hP hw hK i pins s σ H E x1 hot hne I f st hg
    subst hP hw hK
    obtain ⟨f0, f1, f2, f3, f4, f5⟩ := f
    exact pyNext_range_end_hot hot st (by have : n ≤ i := hg; omega) fun h' eb => ⟨rfl, I.turned (t' := s.toks) (fun b o _ e => eb b o e) f0 f1 f3 f4 f5⟩
  self := fun A i s Q E st h => wpAny_pyIter_rangeiter st h
theorem pw_list {tg l : Expr} {tl : TE} (hl : PE X l tl) : PIW X tg l (iList X.K tl) := fun pins s σ H R I h => by
  refine thn (hl.run pins s σ H _ I h) fun v s1 ⟨x, H1, I1, r1, q1⟩ => ?_
  obtain ⟨a, e, ⟨xs, hq⟩, q⟩ := q1
  subst e
  cases r1
  obtain ⟨its, rv, p, hz⟩ := I1.list hq
  exact wpAny_pyIter_list p.isList ⟨s1.heap.objs.size, _, _, H1, rfl, I1.kept (t' := s1.toks) fun b o e => Heap.get?_push_of_some _ e, turnW_list a _, ⟨_, Heap.get?_push_size _ rfl, rfl, rfl⟩, I1.fpOk (Nat.le_refl _) (I1.hok.fresh (Nat.le_refl _)), q⟩
theorem pw_range1 {tg a : Expr} {ta : TA} {p pos : Pos} (hg : Gl X "range") (hm : X.mg "range" = none) (ha : PA X [a] ta) (hs : starEach [a] X.env = [(false, eval a X.env)] := by rfl) : PIW X tg (.Call (.Name "range" p) [a] [] pos) (iRng1 ta) := fun pins s σ H R I h => by
  refine Call_ (ld_blt I hg hm boot_range (PyProof.Rows.callWith_type1 (thn (ha.run pos pins s σ H _ I h) fun us s1 ⟨vs, H1, I1, r1, q1⟩ => ?_) hs rfl))
  obtain ⟨j, e, h1, h2, q⟩ := q1
  subst e
  cases r1 with
  | cons r rr =>
    cases rr
    obtain ⟨t, rfl⟩ := r
    refine call_range_1 (wpAny_pyIter_range (IsRange.new ..) (small_one (by omega) (by omega) h1 h2) ?_)
    have I2 : ∀ (o : Obj) tk, Inv X pins σ H1 { s1 with heap := s1.heap.push o, toks := tk } := fun o tk => I1.kept fun b o e => Heap.get?_push_of_some _ e
    refine ⟨_, _, Itr 0 j.toNat, H1, rfl, (I2 _ _).kept (fun b o e => Heap.get?_push_of_some _ e), turnW_rng _ 0 j.toNat, ?_, (I2 _ 0).fpOk (Nat.le_refl _) ((I2 _ 0).hok.fresh (Nat.le_refl _)), q⟩
    have e1 : (0 : Int) + ((0 : Nat) : Int) * 1 = 0 := by simp
    have e2 : ((j.toNat : Nat) : Int) - ((0 : Nat) : Int) = Builtin.Range.rangeSize 0 j 1 := by rw [rangeSize_one]; split <;> omega
    show IsRangeIter _ _ ((0 : Int) + ((0 : Nat) : Int) * 1) (((j.toNat : Nat) : Int) - ((0 : Nat) : Int)) 1
    rw [e1, e2]
    exact Heap.get?_push_size _ rfl
/-- the block of such a comprehension -/
theorem lcBlkH {i : Nat} {y : Str} {py : Pos} {elt iter : Expr} {scope : Scope} {own : List (Str × Nat)} {pos : Pos} {te : TE} {pins : List (Addr × Obj)} {σ : L2.St} {s : Shared} {H : Hp} {Q : VK} {it D : Addr} {J : It} {tn : Nat → Heap → Prop} {p : Addr × Obj} {v1 : Array Value} {W : Nat → Nat → Hp → Prop} {m0 : Nat}
    (hh : X.A.handled = some (.ref p.1)) (e1 : p.2.data = .fields v1) (c1 : v1[2]? = some .none) (hp : p ∈ X.pn) (hN : X.N.Nodup) (ok : BlkOk X.N X.env.scope scope own)
    (hg : ∀ (s : Shared) (H : Hp) (C : Addr) (cl : List (Str × Addr)) (fp : List Addr), PG (X.blk s H scope (compEnvC scope cl C X.env) fp) (.Name y py) (gName i))
    (he : ∀ (s : Shared) (H : Hp) (C : Addr) (cl : List (Str × Addr)) (fp : List Addr), PE (X.blk s H scope (compEnvC scope cl C X.env) fp) elt te)
    (I : Inv X pins σ H s) (T : TurnW X.prog X.w X.K (.Name y py) J it tn) (st : tn 0 s.heap) (f : FpOk X pins H it) (w0 : W 0 m0 H)
    (turn : ∀ j m H, W j m H → (J.stop j H ∧ Q (.ref D) H) ∨ (J.go j H ∧ ∃ Nx : Hp → Prop, (∀ H', Nx H' → ∃ m', m' < m ∧ W (j + 1) m' H') ∧ ∀ x H', J.yld j H x H' → gName i x (wipe σ (own.map (·.2))) H' fun σ2 H2 => wipe σ2 (own.map (·.2)) = wipe σ (own.map (·.2)) ∧ tYes σ2 H2 fun b H3 =>
      if b = true then te σ2 H3 fun z H4 => ∃ acc, H4 D = some (.lst acc) ∧ acc.length < sizeLine ∧ Nx (upd H4 D (.lst (acc ++ [z]))) else Nx H3)) :
    codeAny (model X.prog X.w) X.A (.compStart (.ListComp elt [⟨.Name y py, iter, [], 0⟩] scope pos) 0 (.ref it) (.ref D) (compEnvC scope (cellsFrom (s.heap.objs.size + 1) scope.names (cloFrom X.env.cells scope.names [])) s.heap.objs.size X.env))
      (compPost (model X.prog X.w) X.A X.xe none (EP X pins σ Q) (.ref D) s.heap.objs.size) { s with heap := pushCells (s.heap.push { cls := .type "dict", data := .dict #[] }) scope.names } := by
  obtain ⟨oi, hoi, _⟩ := T.obj _ _ st
  have hlt : it < s.heap.objs.size := Heap.lt_size hoi
  have hpit : p.1 ≠ it := f.2.2.2.2.2 p (List.mem_append_left _ hp)
  obtain ⟨hp1, hp2, hp3, hp4, hp5⟩ := I.pin p (List.mem_append_left _ hp)
  have kept : ∀ b o, s.heap.get? b = some o → (pushCells (s.heap.push { cls := .type "dict", data := .dict #[] }) scope.names).get? b = some o := fun b o e => pushCells_keeps _ _ _ _ (Heap.get?_push_of_some _ e)
  have B0 := block_start I ok hN (fp := [it]) fun b hb => by
    rw [List.mem_singleton.mp hb]
    exact ⟨f, hlt⟩
  have hstk : p.1 ∉ frs X.stack := by
    rcases I.ok.stk with e | ⟨e, ef⟩
    · rw [e]
      exact hp4
    · rw [e, frs, List.filterMap_cons, ef]
      intro hm
      rcases List.mem_cons.mp hm with z | z
      · exact hp3 z
      · exact hp4 z
  have B1 := B0.pins_of (pins' := [p]) fun r hr => by
    rw [List.mem_singleton.mp hr]
    exact ⟨kept _ _ hp1, hp2, Nat.ne_of_lt (Heap.lt_size hp1), hstk, hp5⟩
  have pg := hg s H s.heap.objs.size (cellsFrom (s.heap.objs.size + 1) scope.names (cloFrom X.env.cells scope.names [])) [it]
  have pe := he s H s.heap.objs.size (cellsFrom (s.heap.objs.size + 1) scope.names (cloFrom X.env.cells scope.names [])) [it]
  have st4 := T.keep _ _ _ st fun o e => kept it o e
  have hce : (compEnvC scope (cellsFrom (s.heap.objs.size + 1) scope.names (cloFrom X.env.cells scope.names [])) s.heap.objs.size X.env).locals = s.heap.objs.size := rfl
  generalize compEnvC scope (cellsFrom (s.heap.objs.size + 1) scope.names (cloFrom X.env.cells scope.names [])) s.heap.objs.size X.env = ce at *
  generalize hs4 : ({ s with heap := pushCells (s.heap.push { cls := .type "dict", data := .dict #[] }) scope.names } : Shared) = s4 at *
  have st4' : tn 0 s4.heap := by
    rw [← hs4]
    exact st4
  have fine : ∀ {pl : List (Addr × Obj)} {σ' : L2.St} {H' : Hp} {s' : Shared}, Inv (X.blk s H scope ce [it]) pl σ' H' s' → pl = [p] → H' it = none → FpOk (X.blk s H scope ce [it]) pl H' it := fun {pl σ' H' s'} I' e hn => by
    subst e
    have hm : it ∈ (X.blk s H scope ce [it]).ex := List.mem_singleton.mpr rfl
    refine ⟨hn, (I'.ok.exf it hm).1, I'.ok.exfs it hm, .inl hm, (I'.ok.exf it hm).2, fun r hr => ?_⟩
    have e : r = p := List.mem_singleton.mp (show r ∈ [p] from hr)
    rw [e]
    exact hpit
  refine codeAny_compStart_list ?_ (T.self X.A 0 _ _ _ st4' ?_)
  all_goals
    refine compLoop_any (fun n s' => ∃ j H', Inv (X.blk s H scope ce [it]) [p] (wipe σ (own.map (·.2))) H' s' ∧ tn j s'.heap ∧ H' it = none ∧ W j n H') ?_ m0 ⟨0, H, B1, st4', f.1, w0⟩
    rintro n s5 ⟨j, H5, I5, st5, n5, w5⟩
    have f5 := fine I5 rfl n5
    rcases turn j n H5 w5 with ⟨stop, qq⟩ | ⟨go, Nx, hNx, step⟩
    · have hot5 : HotAt X.A p.1 s5.heap := ⟨hh, p.2, v1, (I5.pin p (List.mem_append_right _ (List.mem_singleton.mpr rfl))).1, e1, c1⟩
      refine thnF (T.done (X.blk s H scope ce [it]) rfl rfl rfl j [p] s5 _ H5 (fun _ _ => False) p.1 hot5 hpit I5 f5 st5 stop) fun r s6 ⟨hr, I6⟩ => ?_
      subst hr
      have I7 : Inv X pins σ H5 s6 := I.call' (ch := [it]) I6.os I6.base I6.hok I6.bare fun b hb => by
        rw [List.mem_singleton.mp hb]
        exact ⟨f.2.2.2.1, f.2.1, f.2.2.2.2.1, f.2.2.2.2.2⟩
      obtain ⟨m, hn, _⟩ := I6.loc
      have hn : s6.heap.Ns ce.locals m := hn
      have nC : H5 ce.locals = none := I6.free
      rw [hce] at hn nC
      obtain ⟨g0, g1, g2, g3, g4, g5⟩ := I.fpOk (Nat.le_refl _) nC
      exact ⟨m, hn, fun h' sb => ⟨.ref D, H5, I7.turned (t' := s6.toks) (fun b o hb e => (sb.2 b hb).trans e) g0 g1 g3 g4 g5, rfl, qq⟩⟩
    · refine thnF (T.item (X.blk s H scope ce [it]) rfl rfl rfl j [p] s5 _ H5 (fun _ _ => False) I5 f5 st5 go) fun r s6 ⟨u, x, hr, rx, yx, I6, st6, goQ⟩ => ?_
      subst hr
      refine thnF (goQ (fun _ s' => s' = s6) rfl) fun _ s7 e7 => ?_
      subst e7
      have I6' := I6.pinned (fp := [it]) (fun b hb => by rw [List.mem_singleton.mp hb]; exact fine I6 rfl n5) fun b hb => by rw [List.mem_singleton.mp hb]; exact T.obj _ _ st6
      refine thnF (pg.run _ s7 _ H5 x u _ I6' rx (step x H5 yx)) fun _ s8 ⟨σ8, H8, I8, hw8, q8⟩ => ?_
      refine thnF ((pts_nil (X := X.blk s H scope ce [it])).run _ s8 σ8 H8 _ I8 q8) fun b s9 ⟨H9, I9, q9⟩ => ?_
      have fin : ∀ {s' : Shared} {H' : Hp}, Inv (X.blk s H scope ce [it]) ([p] ++ pinsAt [it] s7.heap) σ8 H' s' → Nx H' → ∃ m, m < n ∧ ∃ j H', Inv (X.blk s H scope ce [it]) [p] (wipe σ (own.map (·.2))) H' s' ∧ tn j s'.heap ∧ H' it = none ∧ W j m H' := fun {s' H'} I' nx => by
        obtain ⟨m', hm, w'⟩ := hNx H' nx
        obtain ⟨o6, ho6, _⟩ := T.obj _ _ st6
        have zz := I'.pin (it, o6) (List.mem_append_right _ (List.mem_append_right _ (mem_pinsAt (List.mem_singleton.mpr rfl) ho6)))
        refine ⟨m', hm, j + 1, H', (I'.unpinned (pins := [p])).weak (by rw [← hw8, wipe_length]) (fun k v e => ?_), T.keep _ _ _ st6 fun o e => ?_, zz.2.1, w'⟩
        · rw [← hw8] at e
          exact (wipe_some e).1
        · rw [ho6] at e
          cases e
          exact zz.1
      cases b with
      | false =>
        simp only [Bool.false_eq_true, if_false] at q9 ⊢
        exact fin I9 q9
      | true =>
        simp only [if_true] at q9 ⊢
        refine thnF (pe.run _ s9 σ8 H9 _ I9 q9) fun z s10 ⟨yv, H10, I10, r10, acc, hD10, hz10, nx⟩ => ?_
        exact app_ok (X := X.blk s H scope ce [it]) I10 hD10 hz10 r10 fun s11 I11 => fin I11 nx
/-- [elt for y in iter], where an exception is handled -/
theorem pe_lcH {i : Nat} {y : Str} {py : Pos} {elt iter : Expr} {scope : Scope} {own : List (Str × Nat)} {pos : Pos} {wi : TI} {te : TE} (hot : HotC X) (hN : X.N.Nodup) (hi : PIW X (.Name y py) iter wi) (ok : BlkOk X.N X.env.scope scope own)
    (hg : ∀ (s : Shared) (H : Hp) (C : Addr) (cl : List (Str × Addr)) (fp : List Addr), PG (X.blk s H scope (compEnvC scope cl C X.env) fp) (.Name y py) (gName i))
    (he : ∀ (s : Shared) (H : Hp) (C : Addr) (cl : List (Str × Addr)) (fp : List Addr), PE (X.blk s H scope (compEnvC scope cl C X.env) fp) elt te) (hs : ∀ x, foldedSetIterable iter X.env x = pure x := by intro _; rfl) :
    PE X (.ListComp elt [⟨.Name y py, iter, [], 0⟩] scope pos) (tLc wi (gName i) tYes te (own.map (·.2))) := by
  refine ⟨fun pins s σ H Q I h => ?_⟩
  rw [eval_ListComp]
  obtain ⟨p, ⟨hh, v1, e1, c1⟩, hp⟩ := hot
  have hcell : ∀ z ∈ scope.names, z.2 = .free → ∃ c, X.env.cells.lookup z.1 = some c := fun z hz e => (ok.free z hz e).elim (fun k => I.ok.has _ (.inl k)) fun k => I.ok.has _ (.inr k)
  refine wpAny_comprehension_free (use := none) rfl hs (closure_ok hcell) ok.kind (fun z hz e => by rw [ok.uniq z hz, e]) (thn (hi pins s σ H _ I h) fun xv s1 hx => thn hx fun itv s2 h2 => ?_)
  obtain ⟨it, tn, J, H2, rfl, I2, T, st2, f2, q⟩ := h2
  refine wpAny_newObj_type (newEnv_comp ?_) (by show 0 ≤ sizeLine; decide)
  have hnew : H2 s2.heap.objs.size = none := I2.hok.fresh (Nat.le_refl _)
  obtain ⟨W, ⟨m0, w0⟩, turn⟩ := q _ hnew
  have I3 : Inv X pins σ (upd H2 s2.heap.objs.size (.lst [])) { s2 with heap := s2.heap.push { cls := .type "list", data := .seq ([] : List Value).toArray } } :=
    I2.laid (t' := s2.toks) (fun b o e => Heap.get?_push_of_some _ e) (Nat.le_refl _) ⟨Nat.zero_le _, [], 0, .nil, Heap.get?_push_size _ rfl⟩
  have oit := T.obj _ _ st2
  obtain ⟨oi, hoi, _⟩ := id oit
  have hlt : it < s2.heap.objs.size := Heap.lt_size hoi
  have hne : s2.heap.objs.size ≠ it := Nat.ne_of_gt hlt
  have f3 : FpOk X pins (upd H2 s2.heap.objs.size (.lst [])) it := ⟨by rw [upd_ne (Ne.symm hne)]; exact f2.1, f2.2⟩
  have st3 := T.keep _ _ (s2.heap.push { cls := .type "list", data := .seq ([] : List Value).toArray }) st2 fun o e => Heap.get?_push_of_some _ e
  exact lcBlkH (s := { s2 with heap := s2.heap.push { cls := .type "list", data := .seq ([] : List Value).toArray } }) hh e1 c1 hp hN ok hg he I3 T st3 f3 w0 turn
end
end Ly

namespace Ly
open PySem L2 Lo
open PySem.Spec PyProof.Rows RT
/-! ## tuples joined and cut, a tuple of a range -/
section
variable {B : Bs} {ρ : Rho} {te ta tb : TE} {ts : TA} {ds es : List Da} {n m : Int}
theorem es_catT (ha : Es B ta ρ (.nd .tup ds)) (hb : Es B tb ρ (.nd .tup es)) (hz : ds.length + es.length ≤ sizeLine) : Es B (tOp (L2.rCatA B.K) ta tb) ρ (.nd .tup (ds ++ es)) := fun S H σ cs st Q q => ha S H σ cs st _ fun x c1 S1 H1 s1 f1 => hb S1 H1 σ cs (st.grow s1) _ fun y c2 S2 H2 s2 f2 => by
  have q1 := f1.dq.same s2.s
  obtain ⟨a, vs, rfl, g1, g2⟩ := q1.inv
  obtain ⟨b, ws, rfl, k1, k2⟩ := f2.dq.inv
  have s12 := s1.trans s2
  refine ⟨a, b, vs, ws, rfl, rfl, SqT.of (g1.same s2.sh).tup, SqT.of (k1.same s2.sh).tup, by rw [g2.1, k2.1]; exact hz, fun e => ?_, fun e1 e2 => ?_, fun _ _ p hp => ?_⟩
  · have e3 : ds = [] := List.eq_nil_of_length_eq_zero (by rw [← g2.1, e]; rfl)
    subst e3
    exact q _ [] S2 H2 s12 (.sh f2.dq)
  · have e3 : es = [] := List.eq_nil_of_length_eq_zero (by rw [← k2.1, e2]; rfl)
    subst e3
    rw [List.append_nil] at *
    exact q _ [] S2 H2 s12 (.sh q1)
  · obtain ⟨s3, f3⟩ := fr_new (K := B.K) (k := .tup) (.inr (.inl rfl)) hp s2.sh (g2.append k2) True.intro
    obtain ⟨S4, s4, _, dq⟩ := f3.data s3
    rw [ol_flat] at dq
    exact q _ [] S4 _ (s12.trans s4) (.sh dq)
theorem es_slT {tl th : TO} {lo hi : Option Int} (h : Es B te ρ (.nd .tup ds)) (h1 : Ep B tl ρ lo) (h2 : Ep B th ρ hi) : Es B (tSl (L2.rSlA B.K) te tl th) ρ (.nd .tup (cutD ds lo hi)) := fun S H σ cs st Q q => h S H σ cs st _ fun x c S1 H1 s1 f1 => h1 S1 H1 σ cs (st.grow s1) _ fun S2 H2 s2 => h2 S2 H2 σ cs (st.grow (s1.trans s2)) _ fun S3 H3 s3 => by
  have s13 := s2.trans s3
  have q1 := f1.dq.same s13.s
  obtain ⟨a, vs, rfl, g1, g2⟩ := q1.inv
  refine ⟨a, vs, rfl, SqT.of (g1.same s3.sh).tup, fun e => ?_, fun _ p hp => ?_⟩
  · have hl := g2.1
    have ec : cutD ds lo hi = ds := by
      unfold cutD
      rw [hl] at e
      rw [e.1, e.2, List.drop_zero, Nat.sub_zero, List.take_length]
    exact q _ [] S3 H3 (s1.trans s13) (.sh (by rw [ec]; exact q1))
  · obtain ⟨s4, f4⟩ := fr_new (K := B.K) (k := .tup) (.inr (.inl rfl)) hp s3.sh (g2.cut lo hi) True.intro
    obtain ⟨S4, s5, _, dq⟩ := f4.data s4
    rw [ol_flat] at dq
    exact q _ [] S4 _ ((s1.trans s13).trans s5) (.sh dq)
theorem eo_tupRg (h : Eb B te ρ (.int n)) (h0 : 0 ≤ n) (h1 : n ≤ 4000000) : Eo B (tTupRg (tRg1 te)) ρ (.nd .tup (((List.range n.toNat).map fun (k : Nat) => Da.int (k : Int)).map Tr.sh)) := fun S H σ cs st Q q => h S H σ cs st _ fun x S1 H1 s1 f1 => by
  cases f1
  refine ⟨n, rfl, RgOk.of_le (by omega) (by omega) (by omega) h0, fun p hp => ?_⟩
  rw [rgV0]
  obtain ⟨s4, f4⟩ := fr_new (K := B.K) (k := .tup) (vs := (List.range n.toNat).map fun (k : Nat) => V.int (k : Int)) (ds := (List.range n.toNat).map fun (k : Nat) => Da.int (k : Int)) (.inr (.inl rfl)) hp s1.sh (DqAll.of_map fun _ => rfl) True.intro
  exact q _ [p] _ _ (s1.trans s4) (f4.prior s1.h)
theorem eo_tupRg2 (h : Eb B te ρ (.int m)) (h2 : Eb B tb ρ (.int n)) (h3 : 0 ≤ m) (h4 : m ≤ 1000000) (h5 : 0 ≤ n) (h6 : n ≤ 1000000) : Eo B (tTupRg (tRg2 te tb)) ρ (.nd .tup (((List.range (n - m).toNat).map fun (k : Nat) => Da.int (m + (k : Int))).map Tr.sh)) := fun S H σ cs st Q q => h S H σ cs st _ fun x S1 H1 s1 f1 => h2 S1 H1 σ cs (st.grow s1) _ fun y S2 H2 s2 f2 => by
  cases f1
  cases f2
  refine ⟨m, n, rfl, rfl, RgOk.of_le h3 (by omega) (by omega) h5, fun p hp => ?_⟩
  obtain ⟨s4, f4⟩ := fr_new (K := B.K) (k := .tup) (vs := rgV m n) (ds := (List.range (n - m).toNat).map fun (k : Nat) => Da.int (m + (k : Int))) (.inr (.inl rfl)) hp s2.sh (DqAll.of_map fun _ => rfl) True.intro
  exact q _ [p] _ _ ((s1.trans s2).trans s4) (f4.prior (s1.trans s2).h)
end
end Ly

namespace Ly
open PySem L2
open PySem.Spec PyProof.Rows
theorem RoomH_units {k : Nat} {A : Around} (r : L2H.RoomH k A) : A.units + 64 < cLine := by
  have := r.un
  omega
/-- a block lets nothing out -/
theorem passLN {X : Cx} : Passes (L2N.CX X.prog X.w) X (fun _ _ _ => False) := fun _ _ _ _ _ _ _ k => by
  obtain ⟨_, _, _, _, _, _, _, _, _, _, _, _, z⟩ := k
  exact z.elim
/-! ## an exception with a field, made where nothing is handled: its context is told, too -/
theorem pmk_oexN {X : Cx} {CX : CXT} {x : Str} {e : Expr} {es : List Expr} {ta : TA} {p pos : Pos} {C fi : Addr} {k : Nat} {fd : FuncData} {ps : List Str} {sp : Sp} (T : OexC X.K C) (iC : PySem.W.findIn X.K (.ref C) "__init__" = some (some (.ref fi)))
    (tI : PySem.W.typeIn X.K (.ref fi) = some (.type "function")) (F1 : FnOk X.prog X.w X.K X.mg X.base CX k fi fd ps sp) (hr : Room (k + 1) X.A) (hb : Binds X.K fd ps []) (hd : Vals ([] : List V) ([] : List Value)) (hx : Passes CX X (fun _ _ _ => False))
    (hg : Gl X x) (hm : X.mg x = some (.ref C)) (ha : PA X (e :: es) ta) (hdb : (x == ("__debug__" : Str)) = false := by decide) (he : starEach (e :: es) X.env = (false, eval e X.env) :: starEach es X.env := by rfl)
    (hpl : (backTo pos (starEach es X.env)).any (·.1) = false := by rfl) : L2N.PMk X (.Call (.Name x p) (e :: es) [] pos) (tMkO C sp [] ta) := by
  intro pns s0 st Hp Q inv todo
  obtain ⟨_, _, _, _, bm, _, _, _, _, _, _, _, _, _, _, isC, isB⟩ := T.cls
  refine wpAny_Call_Name_kw (ld_glob inv hg hm ?_ hdb)
  refine PySem.W.callWith_K (h₀ := X.base) inv.ok.mod.kin T.kC (thn (ha.run pos pns s0 st Hp _ inv todo) fun us t ⟨vs, H1, inv1, rel, short, next⟩ => ⟨inv1.kIn, ?_⟩) he hpl
  show wpAny _ _ (call (.ref C) us) _ _ _
  obtain ⟨hp, gs, dr, tk, os⟩ := t
  have above : hp.objs.size ≤ hp.objs.size + 1 := Nat.le_succ _
  have todo2 := next (hp.objs.size + 1) (inv1.hok.fresh above)
  rw [List.append_nil] at todo2
  have kept : ∀ b o, hp.get? b = some o → ((hp.push (PySem.W.kdv_tup us)).push (PySem.HandSPX.excO C hp.objs.size)).get? b = some o := fun b o e => Heap.get?_push_of_some _ (Heap.get?_push_of_some _ e)
  have made : ((hp.push (PySem.W.kdv_tup us)).push (PySem.HandSPX.excO C hp.objs.size)).get? (hp.objs.size + 1) = some (PySem.HandSPX.excO C hp.objs.size) := by heap_get
  have inv2 : Inv X pns st (upd H1 (hp.objs.size + 1) (exo (hp.objs.size + 1) C none)) ⟨(hp.push (PySem.W.kdv_tup us)).push (PySem.HandSPX.excO C hp.objs.size), gs, dr, tk, os⟩ := inv1.laid (t' := tk) kept above (exo_ok made)
  have rel2 : Vals (V.ref (hp.objs.size + 1) :: vs) (Value.ref (hp.objs.size + 1) :: us) := .cons rfl rel
  have many : (Value.ref (hp.objs.size + 1) :: us).length = ps.length := by rw [← rel2.length]; exact F1.len _ _ _ _ todo2
  have few : us.length ≤ sizeLine := by
    rw [← Paired.length rel, sizeLine_eq]
    omega
  have bound := hb _ (Value.ref (hp.objs.size + 1) :: us) inv2.kIn (by rw [List.append_nil]; exact many)
  rw [List.append_nil] at bound
  refine wpAny_call (PySem.HandSPX.call_own F.excBase_ValueError (fun Y => PySem.HandSPX.refsVE_contains Y bm isB) (inv1.kIn _ _ isC) (PySem.W.looks_findIn inv1.kIn iC) (fun self => PySem.W.bind_fn inv1.kIn self tI) few
    (codeAny_mono (F1.run _ X.stack _ _ ⟨Value.ref (hp.objs.size + 1) :: us, []⟩ (Value.ref (hp.objs.size + 1) :: us) _ _ (fun _ _ _ => False) (hr.make C us []) (inv2.env0.make C us []) bound rel2 todo2) fun r t2 told => ?_))
  rcases r with er | fl
  · exact hx pns st _ _ er t2 inv2 told
  rcases fl with _ | _ | _ | u
  all_goals first | exact False.elim told | skip
  obtain ⟨v, H2, os2, bare2, un2, hok2, rv, ev, d, fs, ea, ed, hd1, last⟩ := told
  subst ev
  obtain ⟨h2, g2, d2, t2', os'⟩ := t2
  obtain ⟨t0, G, inv3, kG, gone, stands, free⟩ := mk_end0 (d2 := d2) (t2 := t2') inv1 above kept un2 hok2 os2 bare2 ea ed hd1
  exact ⟨rv, hp.objs.size + 1, _, _, ⟨G, g2, d2, t2', os'⟩, _, .ref C, some d, rfl, inv3, kG, gone, stands, ⟨rfl, rfl, fun ws hw => by cases hw; rfl⟩, rfl, rfl, free, rfl, bare2, raises_own T.exC T.tyC, last⟩
end Ly

namespace Ly
open PySem L2 Lo
open PySem.Spec PyProof.Rows
/-! ## a list among lists -/
theorem Room_units65 {k : Nat} {A : Around} (r : Room k A) : A.units + 65 < cLine := by
  have := r.un
  omega
section
variable {K : PySem.W.Frag} {d : Da} {ds : List Da}
theorem o_inG (h1 : Pl 9 d) (h2 : Pl 9 (.nd .lst ds)) : Op2 K (L2.rInD K) d (.nd .lst ds) (.bl ((Da.pys ds).any fun z => PyData.eqv z d.py)) := ⟨_, rfl, fun H vx vy Q q1 q2 q => ⟨_, _, h1.dp _ q1, h2.dp _ q2, h1.shaped (by decide), h2.shaped (by decide), q⟩⟩
theorem o_notinG (h1 : Pl 9 d) (h2 : Pl 9 (.nd .lst ds)) : Op2 K (L2.rNotInD K) d (.nd .lst ds) (.bl (!(Da.pys ds).any fun z => PyData.eqv z d.py)) := ⟨_, rfl, fun H vx vy Q q1 q2 q => ⟨_, _, h1.dp _ q1, h2.dp _ q2, h1.shaped (by decide), h2.shaped (by decide), q⟩⟩
end
end Ly

namespace Ly
open PySem L2 Lo
/-! ## an own instance with own lists and dicts in its fields; methods that change it -/
section
variable {B : Bs} {S H S' H' : Hp} {σ : L2.St} {ρ : Rho} {cs : List (List Addr)} {c c0 : List Addr} {te ta to ti : TE} {ts : TA} {d : Da} {ds es : List Da} {i j m n : Nat} {p : List Nat} {T t t0 t1 u : Tr} {us us' : List Tr} {C f : Str} {ns ns' : List Str} {D : Ends} {s : TS} {a b : Addr} {K : PySem.W.Frag} {x y : V} {vs ws : List V} {Q : VK} {E : XK} {N : List Str}
theorem lookup_idx : ∀ {ns : List Str} {vs : List V}, ns.length = vs.length → f ∈ ns → (ns.zip vs).lookup f = vs[ns.idxOf f]?
  | [], _, _, h => by cases h
  | n :: ns, [], l, _ => by simp at l
  | n :: ns, v :: vs, l, h => by
    rw [List.zip_cons_cons, List.lookup_cons, List.idxOf_cons]
    by_cases e : f = n
    · subst e
      simp
    · have e1 : (f == n) = false := by simpa using e
      have e2 : (n == f) = false := by simpa using fun z => e z.symm
      rw [e1, e2]
      simp only [cond_false, List.getElem?_cons_succ]
      exact lookup_idx (by simpa using l) ((List.mem_cons.mp h).resolve_left e)
/-- the place of a field -/
theorem loc_fld (hl : Loc B ta ρ i p) (hT : ρ[i]? = some (some T)) (hat : T.at p = some (.nd (.slf b C ns) us)) (cl : Cls B.K (He.ga B.K C)) (na : NoAttr B.K (He.ga B.K C) f) (hf : f ∈ ns) (hm : ns.idxOf f = m) : Loc B (tFld B.K ta f) ρ i (p ++ [m]) := fun S H σ cs x0 st hx Q q =>
  hl S H σ cs x0 st hx _ fun y S1 H1 s1 va => by
    obtain ⟨x0', c1, y', hx', va', ow, _, _, _⟩ := (st.grow s1).at_ hT hat
    rw [hx] at hx'
    cases hx'
    cases va.uniq va'
    cases ow with
    | @nd a _ vs _ cs' A _ h l l2 fo hc =>
      obtain ⟨rfl, dx, _, _, hlen, ho, _⟩ := h
      have hlt : m < vs.length := by rw [← hlen, ← hm]; exact List.idxOf_lt_length_of_mem hf
      have hv : vs[m]? = some vs[m] := List.getElem?_eq_getElem hlt
      refine ⟨a, _, dx, _, vs[m], rfl, ho, cl, na, ?_, q _ S1 H1 s1 (va'.snoc ho ?_)⟩
      · rw [lookup_idx hlen hf, hm, hv]
      · show ((ns.zip vs).map (·.2))[m]? = _
        rw [zip_snd hlen, hv]
/-- self.f = a thing of one's own -/
theorem q_fldO (he : Eo B te ρ t) (hT : ρ[i]? = some (some (.nd (.slf a C ns) us))) (cl : Cls B.K (He.ga B.K C)) (na : NoAttr B.K (He.ga B.K C) f) (hf : f ∉ ns) (hl : ns.length < 1000)
    (k : Gd B s D (ρ.set i (some (.nd (.slf a C (ns ++ [f])) (us ++ [t]))))) : Gd B (tSeq (sFld B.K (tVar i) te f) s) D ρ := fun S H σ cs st => he S H σ cs st _ fun y c S1 H1 s1 f1 => by
  have st1 := st.grow s1
  obtain ⟨x0, c1, y0, hx, va, ow, nd, mem, g⟩ := st1.at_ (p := []) hT rfl
  cases va
  cases ow with
  | @nd b _ vs _ cs' A _ o1 l l2 fo hc =>
    obtain ⟨rfl, dx, rfl, hne, hlen, hb, hd⟩ := o1
    have hp : putF f y (ns.zip vs) = (ns ++ [f]).zip (vs ++ [y]) := by
      rw [List.zip_append hlen]
      exact putF_new (fld_no hf)
    refine ⟨_, hx, b, _, dx, _, rfl, hb, cl, na, by rw [List.length_zip, hlen, Nat.min_self, ← hlen]; exact hl, ?_⟩
    rw [hp]
    have nd0 := nd
    rw [hc, List.nodup_append] at nd0
    have hnb : ∀ z ∈ cs'.flatten, z ≠ b := fun z hz e => nd0.2.2 b (by simp) z hz e.symm
    have hnk : ∀ z ∈ c, z ∉ cs.flatten := fun z hz hm => st.alloc z hm (f1.fr z hz).2
    have hcb : ∀ z ∈ c, z ≠ b := fun z hz e => hnk z hz (by rw [e]; exact mem b (by rw [hc]; simp))
    have oa : OwAll B.K S1 (upd H1 b (.ins (He.ga B.K C) dx ((ns ++ [f]).zip (vs ++ [y])))) (cs' ++ [c]) (vs ++ [y]) (us ++ [t]) := OwAll.snoc (OwAll.keep ⟨l, l2, fo⟩ (Same.refl S1) fun z hz => upd_ne (hnb z hz)) (f1.ow.keep (Same.refl S1) fun z hz => upd_ne (hcb z hz))
    have on : Ow B.K S1 (upd H1 b (.ins (He.ga B.K C) dx ((ns ++ [f]).zip (vs ++ [y])))) ([b, dx] ++ (cs' ++ [c]).flatten) (.ref b) (.nd (.slf b C (ns ++ [f])) (us ++ [t])) :=
      .nd (A := [b, dx]) (cs := cs' ++ [c]) (vs := vs ++ [y]) ⟨rfl, dx, rfl, hne, by simp [hlen], upd_same, by rw [upd_ne hne]; exact hd⟩ oa.1 oa.2.1 oa.2.2 rfl
    have hfl : ([b, dx] ++ (cs' ++ [c]).flatten) = c1 ++ c := by
      rw [hc]
      simp
    have hnd : ([b, dx] ++ (cs' ++ [c]).flatten).Nodup := by
      rw [hfl, List.nodup_append]
      exact ⟨nd, f1.nd, fun z hz w hw e => hnk w hw (by rw [← e]; exact mem z hz)⟩
    obtain ⟨cs4, st4⟩ := g (upd H1 b (.ins (He.ga B.K C) dx ((ns ++ [f]).zip (vs ++ [y])))) ([b, dx] ++ (cs' ++ [c]).flatten) (.nd (.slf b C (ns ++ [f])) (us ++ [t])) (fun z o hz ho => by
      rw [upd_ne (fun e : z = b => hz (by rw [e, hc]; simp))]
      exact ho) on hnd (fun z hz => by
        rw [hfl] at hz
        rcases List.mem_append.mp hz with hz | hz
        · exact ⟨(st1.hp.ow z (mem z hz)).1, .inl hz⟩
        · exact ⟨(f1.fr z hz).1, .inr ⟨st.hp.e0.free (f1.fr z hz).2, hnk z hz⟩⟩)
    exact k S1 _ σ cs4 st4
/-! promises of methods that change self and tell something -/
inductive OutT
  | ret (t1 t : Tr)
  | exc (C : Str) (a : Option V) (t1 : Tr)
abbrev RelT := Tr → List Da → OutT → Prop
def RetT (B : Bs) (x : V) (Q : VK) (t1 t : Tr) : Prop := ∀ c c' v S' H', Same B.S0 S' → Same B.E0 H' → Same S' H' → (∀ a, B.S0 a = none → B.E0 a ≠ none → S' a = none) → Ow B.K S' H' c x t1 → Ow B.K S' H' c' v t → (c ++ c').Nodup → (∀ a ∈ c ++ c', S' a = none ∧ B.E0 a = none) → Q v H'
def XkT (B : Bs) (x : V) (E : XK) (C : Str) (a : Option V) (t1 : Tr) : Prop := ∀ c S' H', Same B.S0 S' → Same B.E0 H' → Same S' H' → (∀ a, B.S0 a = none → B.E0 a ≠ none → S' a = none) → Ow B.K S' H' c x t1 → c.Nodup → (∀ a ∈ c, S' a = none ∧ B.E0 a = none) → XOk B.K H' E C a
def OutTP (K : PySem.W.Frag) (S H : Hp) (c0 : List Addr) (x : V) (Q : VK) (E : XK) : OutT → Prop
  | .ret t1 t => RetT ⟨K, S, off H c0⟩ x Q t1 t
  | .exc C a t1 => XkT ⟨K, S, off H c0⟩ x E C a t1
def SpT (K : PySem.W.Frag) (R : RelT) : Sp := fun vs H Q E => ∃ x ws t0 ds c0 S o, vs = x :: ws ∧ R t0 ds o ∧ Ow K S H c0 x t0 ∧ c0.Nodup ∧ (∀ a ∈ c0, S a = none) ∧ DqAll K S ws ds ∧ Same S H ∧ OutTP K S H c0 x Q E o
theorem spt_len {R : RelT} (hR : ∀ t ds o, R t ds o → ds.length + 1 = m) (h : SpT K R vs H Q E) : vs.length = m := by
  obtain ⟨x, ws, t0, ds, c0, S, o, rfl, r, _, _, _, dq, _, _⟩ := h
  rw [List.length_cons, dq.1]
  exact hR t0 ds o r
theorem RetT.up {S1 S0 E0 : Hp} (l : Lb ⟨K, S0, E0⟩ S1) (q : RetT ⟨K, S0, E0⟩ x Q t1 t) : RetT ⟨K, S1, E0⟩ x Q t1 t := fun c c' v S' H' s e sh nw ow ow' nd fr => q c c' v S' H' (l.s.trans s) e sh (fun a h1 h2 => nw a (l.nw a h1 h2) h2) ow ow' nd fr
theorem XkT.up {S1 S0 E0 : Hp} {C : Str} {v : Option V} (l : Lb ⟨K, S0, E0⟩ S1) (q : XkT ⟨K, S0, E0⟩ x E C v t1) : XkT ⟨K, S1, E0⟩ x E C v t1 := fun c S' H' s e sh nw ow nd fr => q c S' H' (l.s.trans s) e sh (fun a h1 h2 => nw a (l.nw a h1 h2) h2) ow nd fr
/-! the body's end -/
theorem s_retT0 {S0 E0 : Hp} (he : Eo ⟨K, S0, E0⟩ te ρ t) (hT : ρ[0]? = some (some (.nd (.slf a C ns) us))) (hD : D.rt = Q) (q : RetT ⟨K, S0, E0⟩ (.ref a) Q (.nd (.slf a C ns) us) t) : Gd ⟨K, S0, E0⟩ (tRet te) D ρ := fun S H σ cs st => he S H σ cs st _ fun v c' S1 H1 s1 f1 => by
  have st1 := st.grow s1
  obtain ⟨c, x, hc, hx, ow⟩ := st1.var hT
  have e := ow.slf_val
  subst e
  rw [hD]
  refine q c c' v S1 H1 st1.hp.s0 st1.hp.e0 st1.hp.sh st1.hp.nw ow f1.ow ?_ fun z hz => ?_
  · rw [List.nodup_append]
    refine ⟨st1.chunk_nd hc, f1.nd, fun z hz w hw e => ?_⟩
    exact st.alloc z (mem_flat hc hz) (by rw [e]; exact (f1.fr w hw).2)
  · rcases List.mem_append.mp hz with hz | hz
    · exact st1.hp.ow z (mem_flat hc hz)
    · exact ⟨(f1.fr z hz).1, st.hp.e0.free (f1.fr z hz).2⟩
theorem en_retT {S0 E0 : Hp} (hT : ρ[0]? = some (some (.nd (.slf a C ns) us))) (q : RetT ⟨K, S0, E0⟩ (.ref a) Q (.nd (.slf a C ns) us) (.sh .non)) : En ⟨K, S0, E0⟩ (fun _ H' => Q .non H') ρ := fun S H σ cs st => by
  obtain ⟨c, x, hc, hx, ow⟩ := st.var hT
  have e := ow.slf_val
  subst e
  refine q c [] .non S H st.hp.s0 st.hp.e0 st.hp.sh st.hp.nw ow (.sh (Dq.of_flat rfl)) (by rw [List.append_nil]; exact st.chunk_nd hc) fun b hb => ?_
  rw [List.append_nil] at hb
  exact st.hp.ow b (mem_flat hc hb)
/-- what an own variable's slot holds is given back -/
theorem s_retTv {S0 E0 : Hp} (hj : ρ[j]? = some (some t)) (hj0 : j ≠ 0) (hT : ρ[0]? = some (some (.nd (.slf a C ns) us))) (hD : D.rt = Q) (q : RetT ⟨K, S0, E0⟩ (.ref a) Q (.nd (.slf a C ns) us) t) : Gd ⟨K, S0, E0⟩ (tRet (tVar j)) D ρ := fun S H σ cs st => by
  obtain ⟨c, x, hc, hx, ow⟩ := st.var hT
  have e := ow.slf_val
  subst e
  obtain ⟨c', v, hc', hv, ow'⟩ := st.var hj
  refine ⟨v, hv, ?_⟩
  rw [hD]
  refine q c c' v S H st.hp.s0 st.hp.e0 st.hp.sh st.hp.nw ow ow' ?_ fun z hz => ?_
  · rw [List.nodup_append]
    refine ⟨st.chunk_nd hc, st.chunk_nd hc', fun z hz w hw e => ?_⟩
    subst e
    exact (st.mem_er hc (mem_erase hc' hw hj0)).2 hz
  · rcases List.mem_append.mp hz with hz | hz
    · exact st.hp.ow z (mem_flat hc hz)
    · exact st.hp.ow z (mem_flat hc' hz)
theorem xkT_at {C2 : Str} {v : Option V} (st : Sit B S H σ ρ cs) (hT : ρ[0]? = some (some (.nd (.slf a C ns) us))) (q : XkT B (.ref a) E C2 v (.nd (.slf a C ns) us)) : XOk B.K H E C2 v := by
  obtain ⟨c, x, hc, hx, ow⟩ := st.var hT
  have e := ow.slf_val
  subst e
  exact q c S H st.hp.s0 st.hp.e0 st.hp.sh st.hp.nw ow (st.chunk_nd hc) fun b hb => st.hp.ow b (mem_flat hc hb)
theorem x_raiseNT {C2 : Str} (hT : ρ[0]? = some (some (.nd (.slf a C ns) us))) (q : XkT B (.ref a) E C2 none (.nd (.slf a C ns) us)) : Gd B (tRaiseN (He.ga B.K C2) E) D ρ := fun S H σ cs st => xkT_at st hT q H (Same.refl H)
theorem x_asgT {C2 : Str} {v : Option V} {g : TG} (h : Ex B te ρ E C2 v) (hT : ρ[0]? = some (some (.nd (.slf a C ns) us))) (q : XkT B (.ref a) E C2 v (.nd (.slf a C ns) us)) : Gd B (tSeq (tAsg te g) s) D ρ := fun S H σ cs st => h S H σ cs st _ (xkT_at st hT q)
end
end Ly

namespace SrtO
open PySem PySem.Spec PyProof.Rows Srt
variable {prog : Program} {w : World} {A : Around} {s : Shared} {E : Value → Shared → Prop}
/-- a tuple of three things, the first an int -/
def IsTri (h : Heap) (v : Value) (x : Int) : Prop := ∃ a o t u w n, v = .ref a ∧ h.get? a = some o ∧ o.cls = .type "tuple" ∧ o.data = .seq #[.int x t, u, w] n
theorem IsTri.keeps {h h' : Heap} {v : Value} {x : Int} (p : IsTri h v x) (k : ∀ b o, h.get? b = some o → o.cls = .type "tuple" → h'.get? b = some o) : IsTri h' v x := by
  obtain ⟨a, o, t, u, w, n, e, ho, hc, hd⟩ := p
  exact ⟨a, o, t, u, w, n, e, k _ _ ho hc, hc, hd⟩
theorem tri_cmp {vs : List Value} {k : Value → Int} (hp : ∀ v ∈ vs, IsTri s.heap v (k v)) (hu : ∀ v ∈ vs, ∀ u ∈ vs, k v = k u → v = u) : Cmp prog w A s (tuples' true) (fun p => p.1 ∈ vs) (lt2 fun v u => decide (k v < k u)) := by
  intro p q hm hm'
  have h1 := hp _ hm
  have h2 := hp _ hm'
  have h3 := hu _ hm _ hm'
  show wpAny (model prog w) A (keyLt' (tuples' true) p.1 q.1) (fun r s' => s' = s ∧ r = decide (k p.1 < k q.1)) (fun _ _ => False) s
  obtain ⟨a, o, t, u, v, n, e, ho, hc, hd⟩ := h1
  obtain ⟨a', o', t', u', v', n', e', ho', hc', hd'⟩ := h2
  generalize k p.1 = x at *
  generalize k q.1 = x' at *
  rw [e, e'] at *
  refine PySem.W.kat_lt ho hd ho' hd' ?_
  show PySem.W.KatLex prog w A true (decide (3 < 3)) _ [(.int x t, .int x' t'), (u, u'), (v, v')] 0 s
  refine PySem.W.kat_cons (SeqAt.EqAt.int_int x t x' t' prog w _ _ ?_)
  refine PySem.W.kat_go (fun e1 => ?_) (fun e1 => ?_)
  · have ex : x = x' := by simpa using e1
    have ea := h3 ex
    cases ea
    rw [ho] at ho'
    cases ho'
    rw [hd] at hd'
    cases hd'
    refine PySem.W.kat_yes (PySem.W.kat_cons (SeqAt.EqAt.same u prog w _ _ ?_))
    refine PySem.W.kat_go (fun e2 => ?_) (fun e2 => nomatch e2)
    refine PySem.W.kat_yes (PySem.W.kat_cons (SeqAt.EqAt.same v prog w _ _ ?_))
    refine PySem.W.kat_go (fun e2 => ?_) (fun e2 => nomatch e2)
    exact PySem.W.kat_yes (PySem.W.kat_nil ⟨rfl, by simp⟩)
  · exact PySem.W.kat_no (oneLt_int ⟨rfl, rfl⟩)
theorem tri_firsts {h : Heap} {k : Value → Int} : ∀ {vs : List Value}, (∀ v ∈ vs, IsTri h v (k v)) → ∃ fs : List Value, PySem.W.KatTups h vs fs ∧ fs.length = vs.length ∧ ∀ f ∈ fs, ∃ x t, f = Value.int x t
  | [], _ => ⟨[], PySem.W.KatTups.nil, rfl, fun _ hm => by simp at hm⟩
  | v :: vs, hp => by
    obtain ⟨fs, h1, h2, h3⟩ := tri_firsts (vs := vs) fun v' hm => hp v' (List.mem_cons_of_mem _ hm)
    obtain ⟨a, o, t, u, w, n, e, ho, hc, hd⟩ := hp v (List.mem_cons_self ..)
    generalize k v = x at *
    subst e
    refine ⟨.int x t :: fs, PySem.W.KatTups.cons ho hc hd rfl h1, by rw [List.length_cons, List.length_cons, h2], fun f hm => ?_⟩
    rcases List.mem_cons.mp hm with rfl | hm
    · exact ⟨x, t, rfl⟩
    · exact h3 f hm
theorem swo_tri (k : Value → Int) : Swo fun v u => decide (k v < k u) := by
  refine ⟨fun x y h => ?_, fun x y z h1 h2 => ?_⟩
  · simp only [decide_eq_true_eq, decide_eq_false_iff_not] at *
    omega
  · simp only [decide_eq_true_eq, decide_eq_false_iff_not] at *
    omega
theorem tri_sortable {a : Addr} {vs : List Value} {k : Value → Int} (h0 : 0 < vs.length) (hp : ∀ v ∈ vs, IsTri s.heap v (k v)) (hu : ∀ v ∈ vs, ∀ u ∈ vs, k v = k u → v = u) (ha : ∀ o, s.heap.get? a = some o → o.cls ≠ .type "tuple") : SortableO prog w A s a vs fun v u => decide (k v < k u) := by
  intro h' keep
  have hp' : ∀ v ∈ vs, IsTri h' v (k v) := fun v hm => (hp v hm).keeps fun b o e c => keep b o (fun z => by subst z; exact ha o e c) e
  obtain ⟨fs, h1, h2, h3⟩ := tri_firsts hp'
  refine ⟨tuples' true, fun Q E hq => ?_, tri_cmp hp' hu⟩
  refine PySem.W.kat_kind (T := .type "int") h1 (by omega) (fun f hm => ?_) (by rfl) ?_
  · obtain ⟨x, t, rfl⟩ := h3 f hm
    exact PySem.W.Looks.now
  · have e : (Value.type "int" != Value.type "tuple") = true := by first | decide +kernel | rfl | decide
    rw [e]
    exact hq
theorem sorted_tri {l : Addr} {vs : List Value} {k : Value → Int} {Q : Value → Shared → Prop} (hl : s.heap.IsList l vs.toArray) (hz : vs.length ≤ sizeLine) (hp : ∀ v ∈ vs, IsTri s.heap v (k v)) (hu : ∀ v ∈ vs, ∀ u ∈ vs, k v = k u → v = u)
    (h : ∀ (h' : Heap) (d : Addr) (out : List Value), Srtd (fun v u => decide (k v < k u)) out → out.Perm vs → (∀ b o, s.heap.get? b = some o → h'.get? b = some o) → s.heap.objs.size ≤ d → (∃ n, h'.get? d = some (seqObj "list" out.toArray n)) → Q (.ref d) { s with heap := h' }) :
    wpAny (model prog w) A (call (.builtin "sorted") [.ref l]) Q E s := by
  refine sorted_ord (swo_tri k) hl hz (fun h2 h₁ a ha kk => ?_) fun out hs hb => ?_
  · refine tri_sortable (s := { s with heap := h₁ }) (by omega) (fun v hm => (hp v hm).keeps fun b o e _ => (kk b o e).2) hu fun o e => ?_
    have e' : some o = some (seqObj "list" vs.toArray 0) := e.symm.trans ha
    cases e'
    intro c
    exact absurd (Value.type.inj c) (by decide)
  · exact h _ _ out hs hb.perm (fun b o e => sortedAll_old e) (Nat.le_succ _) (sortedAll_at s.heap vs out.toArray)
end SrtO
namespace L2
open PySem PySem.Spec PyProof.Rows
def rSortedF (K : PySem.W.Frag) : List V → Hp → VK → Prop := fun vs H Q => ∃ (a : Addr) (xs : List V) (k : V → Int), vs = [V.ref a] ∧ SqL K H a xs ∧ (∀ x ∈ xs, ∃ t u w, x = V.ref t ∧ H t = some (.tup [.int (k x), u, w])) ∧ (∀ x ∈ xs, ∀ y ∈ xs, k x = k y → x = y) ∧
  ∀ ys p, SrtO.Srtd (fun x y => decide (k x < k y)) ys → ys.Perm xs → H p = none → Q (.ref p) (upd H p (.lst ys))
section
variable {X : Cx}
theorem vals3' {x y z : V} {us : List Value} (h : Vals [x, y, z] us) : ∃ a b c, us = [a, b, c] ∧ RelV x a ∧ RelV y b ∧ RelV z c := by
  cases h with
  | cons r h => cases h with
    | cons r2 h => cases h with
      | cons r3 h => cases h; exact ⟨_, _, _, rfl, r, r2, r3⟩
theorem cr_sortedF : CallR X (.builtin "sorted") (rSortedF X.K) := by
  intro pins s σ H vs us Q I r h
  obtain ⟨a, xs, k, rfl, hs, hx, hk, q⟩ := h
  obtain ⟨its, rv, hl, hz⟩ := I.list hs
  obtain ⟨u, rfl, ru⟩ := vals1 r
  obtain rfl : u = Value.ref a := ru
  obtain ⟨e1, e2⟩ := refs_back rv fun x m => by
    obtain ⟨t, _, _, e, _⟩ := hx x m
    exact ⟨t, e⟩
  refine SrtO.sorted_tri (k := fun u => k (backV u)) hl.isList (by rw [← rv.length]; exact hz) (fun v hv => ?_) (fun v hv u hu e => ?_) fun h' d out h1 h2 kp hd hn => ?_
  · obtain ⟨t, rfl⟩ := e2 v hv
    have hm : V.ref t ∈ xs := by rw [e1]; exact List.mem_map.mpr ⟨_, hv, rfl⟩
    obtain ⟨t', _, _, e, ht⟩ := hx _ hm
    cases e
    obtain ⟨_, its2, r2, o, ho, hc, n, hd⟩ := I.hok _ _ ht
    obtain ⟨u1, u2, u3, rfl, ri, rj, _⟩ := vals3' r2
    obtain ⟨t1, rfl⟩ := ri
    exact ⟨t, o, t1, _, _, n, rfl, ho, hc, hd⟩
  · obtain ⟨t, rfl⟩ := e2 v hv
    obtain ⟨t', rfl⟩ := e2 u hu
    have z := hk (.ref t) (by rw [e1]; exact List.mem_map.mpr ⟨_, hv, rfl⟩) (.ref t') (by rw [e1]; exact List.mem_map.mpr ⟨_, hu, rfl⟩) e
    cases z
    rfl
  · have h3 : ∀ u ∈ out, ∃ a, u = Value.ref a := fun u hu => e2 u (h2.mem_iff.mp hu)
    obtain ⟨n, hn⟩ := hn
    have hb : (out.map backV).Perm xs := by
      rw [e1]
      exact h2.map backV
    refine ⟨.ref d, upd H d (.lst (out.map backV)), I.laid (t' := s.toks) kp hd ⟨?_, out, n, vals_back h3, hn⟩, rfl, q _ d (SrtO.srtd_map h1) hb (I.hok.fresh hd)⟩
    rw [hb.length_eq]
    exact hz
/-! locked for good -/
def tLockG (t : TS) : TS := fun D σ H => ∃ d u, H d = some u ∧ Mut (some u) ∧ ∀ od, t D σ (upd H d (.frz od u))
theorem ps_lockG {st : Stmt} {t : TS} (h : PS X st t) : PS X st (tLockG t) := by
  refine ⟨fun pins s σ H D I hw => ?_⟩
  obtain ⟨d, u, hd, mu, hw⟩ := hw
  obtain ⟨od, I1⟩ := I.lock hd mu
  exact h.run pins s σ _ D I1 (hw od)
/-! dicts compared, one of them empty -/
def rNeDN : R2 := fun x y H Q => ∃ a b ks ls, x = .ref a ∧ y = .ref b ∧ Rd H a (.dK ks) ∧ Rd H b (.dK ls) ∧ ls = [] ∧ Q (.bl (!ks.isEmpty)) H
theorem op_neDN (hu : X.A.units < cLine) : OpR X (compareOp .NotEq) rNeDN := by
  intro pins s σ H x y v u Q I rx ry h
  obtain ⟨a, b, ks, ls, rfl, rfl, ea, eb, rfl, q⟩ := h
  obtain rfl : v = Value.ref a := rx
  obtain rfl : u = Value.ref b := ry
  obtain ⟨_, ya, va, ra, da⟩ := dk_rd I.hok ea
  obtain ⟨_, yb, vb, rb, db⟩ := dk_rd I.hok eb
  have hb : vb.length = 0 := by rw [← rb.length]; rfl
  have ha : va.length = ks.length := ra.length.symm
  refine PySem.W.keq_ne (knd := mixKind X.prog X.w) (r := true) ya yb da db hu (fun hl => ?_) ?_
  · have h1 : va = [] := List.length_eq_zero_iff.mp (by omega)
    subst h1
    cases rb
    exact .nil
  · refine ⟨.bl (!ks.isEmpty), H, I, ?_, q⟩
    cases ks with
    | nil =>
      have h1 : va = [] := List.length_eq_zero_iff.mp (by rw [ha]; rfl)
      have h2 : vb = [] := List.length_eq_zero_iff.mp hb
      rw [h1, h2]
      rfl
    | cons c r =>
      rw [hb, ha]
      rfl
/-! list(d.keys()) -/
def tLstKeys (te : TE) : TE := fun σ H Q => te σ H fun x H1 => ∃ p kvs, x = .ref p ∧ Rd H1 p (.dK kvs) ∧ ∀ q, H1 q = none → Q (.ref q) (upd H1 q (.lst (kvs.map fun kv => kV kv.1)))
theorem pe_lstKeys {e : Expr} {te : TE} {p apos cpos pos : Pos} (hc : X.calm = true) (hg : Gl X "list") (hm : X.mg "list" = none) (he : PE X e te)
    (hbase : attributeBase e "keys" X.env (eval e X.env) = eval e X.env := by rfl) (hline : (apos.endLine == cpos.line) = true := by rfl)
    (n2 : starEach [.Call (.Attribute e "keys" apos) [] [] cpos] X.env = (false, eval (.Call (.Attribute e "keys" apos) [] [] cpos) X.env) :: starEach [] X.env := by rfl) :
    PE X (.Call (.Name "list" p) [.Call (.Attribute e "keys" apos) [] [] cpos] [] pos) (tLstKeys te) := by
  refine ⟨fun pns s σ H Q I todo => ?_⟩
  refine Call_ (ld_blt I hg hm boot_list (PyProof.Rows.callWith_type1 (args_cons (wpAny_Call_method (T := "dict") (id := "dict.keys") hbase rfl hline F.plainAttrs_dict F.slot_dict_keys F.type_dict_keys (thn (he.run pns s σ H _ I todo) fun u s1 ⟨x, H1, I1, rx, a, kvs, ex, hd, q⟩ => ?_)) n2) n2 rfl))
  subst ex
  obtain rfl : u = Value.ref a := rx
  obtain ⟨z, lo, vs, rk, hD⟩ := dk_rd I1.hok hd
  refine ⟨hD.typeIs, hD.mapOf.noDict, ?_⟩
  have I2 : Inv X pns σ H1 { s1 with heap := s1.heap.push { cls := .type "dict_keys", data := .fields #[.ref a] } } := I1.kept (t' := s1.toks) fun b ob q => Heap.get?_push_of_some _ q
  obtain ⟨ep, hat⟩ := hD.dictAt
  have hl : kvs.length = vs.length := Paired.length rk
  show wpAny _ _ (callWith cpos (.builtin "dict.keys") [.ref a] [] []) _ X.xe s1
  refine method_meetsIn F.slot_dict_keys F.entry_dict_keys rfl (PySem.evalArgs_none ⟨rfl, hD.typeIs, F.args_dict_keys_1 _, _, PySem.W.kdl_meets_keys (mixKind X.prog X.w) a lo, ⟨vs, hD⟩, ?_⟩)
  refine args_nil ?_
  refine PySem.W.kdl_call (s := { s1 with heap := s1.heap.push { cls := .type "dict_keys", data := .fields #[.ref a] } }) (PySem.W.kdl_keys (knd := mixKind X.prog X.w) (kvs := vs) (ep := ep)) (I1.ok.hd hc) ⟨⟨_, Heap.get?_push_size _ rfl, rfl, rfl⟩, hat.push _⟩ (by rw [← hl]; exact z) fun h' tk acc' c' hkeep hS hacc => ?_
  have hsz : (s1.heap.push { cls := .type "dict_keys", data := .fields #[.ref a] }).objs.size = s1.heap.objs.size + 1 := Heap.size_push ..
  have hfree : H1 (s1.heap.push { cls := .type "dict_keys", data := .fields #[.ref a] }).objs.size = none := I1.hok.fresh (by rw [hsz]; exact Nat.le_succ _)
  refine ⟨.ref _, upd H1 _ (.lst (kvs.map fun kv => kV kv.1)), I2.laid (t' := tk) hkeep (Nat.le_refl _) (show ObjOk X.prog X.w _ _ _ (.lst (kvs.map fun kv => kV kv.1)) from ⟨?_, acc'.toList, c', ?_, ?_⟩), rfl, q _ hfree⟩
  · rw [List.length_map]; exact z
  · have el : acc'.toList.length = acc'.size := by simp
    refine vals_of_at (by rw [List.length_map, el, hacc.1, hl]) fun j x w h1 h2 => ?_
    obtain ⟨k, y, hky, hi⟩ := hacc.2 j w (by rw [← Array.getElem?_toList]; exact h2)
    have e1 : (kvs.map (·.1))[j]? = some k := by
      rw [KV.keys rk, List.getElem?_map, hky] <;> rfl
    have e2 : (kvs.map fun kv => kV kv.1)[j]? = some (kV k) := by
      have e3 : (kvs.map fun kv => kV kv.1) = (kvs.map (·.1)).map kV := by rw [List.map_map] <;> rfl
      rw [e3, List.getElem?_map, e1] <;> rfl
    rw [e2] at h1
    cases h1
    exact keyIs_rel hi
  · rw [Array.toArray_toList]
    exact hS
end
end L2

namespace Ly
open PySem L2 Lo
section
variable {B : Bs} {S H S' H' S2 S3 : Hp} {σ : L2.St} {ρ : Rho} {cs : List (List Addr)} {c c0 : List Addr} {te ta tb to ti : TE} {ts : TA} {tt : TT} {d e z : Da} {ds es : List Da} {i j m n : Nat} {p : List Nat} {T T1 t t0 t1 u : Tr} {us us' : List Tr} {C C2 f : Str} {ns ns' : List Str} {D : Ends} {s s0 u1 u2 : TS} {a b : Addr} {K : PySem.W.Frag} {x y : V} {vs ws : List V} {Q : VK} {E : XK} {N : List Str} {ks : List Key} {kk : Key} {bb : Bool} {k : NK} {W Wout : WX} {cc : Value}
/-! ## a dict within an own thing, locked -/
theorem Sit.lock (st : Sit B S H σ ρ cs) (hT : ρ[i]? = some (some T)) (hat : T.at p = some (.nd (.dct ks) us)) : ∃ a vs, H a = some (.dK (ks.zip vs)) ∧ S a = none ∧ ∀ od, ∃ cs', Sit B S (upd H a (.frz od (.dK (ks.zip vs)))) σ (ρ.set i (some (T.put (.nd (.dcl ks) us) p))) cs' := by
  obtain ⟨x0, c1, y, hx, va, ow, nd, mem, g⟩ := st.at_ hT hat
  cases ow with
  | @nd a _ vs _ cs' A _ h l l2 fo hc =>
    obtain ⟨rfl, hl, ho⟩ := h
    have hl : ks.length = vs.length := hl
    have ho : H a = some (.dK (ks.zip vs)) := ho
    have ha : a ∈ c1 := by rw [hc]; simp
    refine ⟨a, vs, ho, (st.hp.ow a (mem a ha)).1, fun od => ?_⟩
    have nd0 := nd
    rw [hc, List.nodup_append] at nd0
    have hnb : ∀ z ∈ cs'.flatten, z ≠ a := fun z hz e => nd0.2.2 a (by simp) z hz e.symm
    have oa := OwAll.keep (H' := upd H a (.frz od (.dK (ks.zip vs)))) ⟨l, l2, fo⟩ (Same.refl S) fun z hz => upd_ne (hnb z hz)
    exact g _ c1 (.nd (.dcl ks) us) (fun b o hb hob => by
      rw [upd_ne (fun e : b = a => hb (by rw [e]; exact ha))]
      exact hob) (.nd (A := [a]) ⟨rfl, hl, od, upd_same⟩ oa.1 oa.2.1 oa.2.2 hc) nd fun b hb => ⟨(st.hp.ow b (mem b hb)).1, .inl hb⟩
theorem eo_lockT (hT : ρ[i]? = some (some T)) (hat : T.at p = some (.nd (.dct ks) us)) (he : Eo B te (ρ.set i (some (T.put (.nd (.dcl ks) us) p))) t) : Eo B (tLockE te) ρ t := fun S H σ cs st Q q => by
  obtain ⟨a, vs, ho, hS, g⟩ := st.lock hT hat
  refine ⟨a, _, ho, True.intro, fun od => ?_⟩
  obtain ⟨cs1, st1⟩ := g od
  refine he S _ σ cs1 st1 _ fun x2 c2 S2 H2 s2 f2 => ?_
  have h2a := s2.h a _ upd_same
  refine ⟨h2a, ?_⟩
  have hfa : (upd H a (.frz od (.dK (ks.zip vs)))) a ≠ none := by rw [upd_same]; exact fun z => nomatch z
  have hS2 : S2 a = none := s2.nw a hS hfa
  have hca : ∀ b ∈ c2, b ≠ a := fun b hb e => by
    subst e
    exact hfa (f2.fr b hb).2
  refine q x2 c2 S2 _ ⟨s2.s, fun b o q => ?_, fun b o q => ?_, fun b h1 h2 => ?_⟩ ⟨f2.ow.keep (Same.refl S2) fun b hb => upd_ne (hca b hb), f2.nd, fun b hb => ?_⟩
  · by_cases hb : b = a
    · subst hb
      rw [ho] at q
      cases q
      exact upd_same
    · rw [upd_ne hb]
      exact s2.h b o (by rw [upd_ne hb]; exact q)
  · rw [upd_ne (fun e : b = a => by rw [e, hS2] at q; cases q)]
    exact s2.sh b o q
  · refine s2.nw b h1 ?_
    by_cases hb : b = a
    · subst hb
      exact hfa
    · rw [upd_ne hb]
      exact h2
  · have z := (f2.fr b hb).2
    rw [upd_ne (hca b hb)] at z
    exact ⟨(f2.fr b hb).1, z⟩
theorem es_lockT {v : V} (hT : ρ[i]? = some (some T)) (hat : T.at p = some (.nd (.dct ks) us)) (he : Eb B te (ρ.set i (some (T.put (.nd (.dcl ks) us) p))) d) (e : d.fl = some v) : Es B (tLockE te) ρ d := eo_lockT hT hat (es_flat he e)
/-- an expression that raises, a dict locked the while -/
theorem q_lockG (hT : ρ[j]? = some (some T)) (hat : T.at p = some (.nd (.dct ks) us)) (k : Gd B (tSeq s0 s) D (ρ.set j (some (T.put (.nd (.dcl ks) us) p)))) : Gd B (tSeq (tLockG s0) s) D ρ := fun S H σ cs st => by
  obtain ⟨a, vs, ho, hS, g⟩ := st.lock hT hat
  refine ⟨a, _, ho, True.intro, fun od => ?_⟩
  obtain ⟨cs1, st1⟩ := g od
  exact k S _ σ cs1 st1
/-! ## results of which nothing but tuples stands for good -/
inductive TupD : Da → Prop
  | fl {d : Da} {v : V} (e : d.fl = some v) : TupD d
  | tup {ds : List Da} (h : ∀ d ∈ ds, TupD d) : TupD (.nd .tup ds)
inductive LoneT : Tr → Prop
  | sh {d : Da} (h : TupD d) : LoneT (.sh d)
  | nd {k : NK} {ts : List Tr} (h : ∀ t ∈ ts, LoneT t) : LoneT (.nd k ts)
theorem TupD.dq (h : TupD d) (e : ∀ a vs, S2 a = some (.tup vs) → S3 a = some (.tup vs)) : ∀ x, Dq K S2 x d → Dq K S3 x d := by
  induction h with
  | fl e1 =>
    intro x q
    rw [q.flat e1]
    exact Dq.of_flat e1
  | tup h ih =>
    intro x q
    obtain ⟨a, vs, rfl, h1, h2⟩ := q.inv
    exact Dq.nd' (Stands.of_tup (e _ _ h1.tup)) ⟨h2.1, fun i v d g1 g2 => ih d (List.mem_of_getElem? g2) v (h2.2 i v d g1 g2)⟩
theorem Ow.loneT (h : Ow K S2 H c x t) (l : LoneT t) (e : ∀ a vs, S2 a = some (.tup vs) → S3 a = some (.tup vs)) : Ow K S3 H c x t := by
  induction h with
  | sh h =>
    cases l with
    | sh g => exact .sh (g.dq e _ h)
  | nd h l1 l2 f hc ih =>
    cases l with
    | nd g => exact .nd h l1 l2 (fun i v t c h1 h2 h3 => ih i v t c h1 h2 h3 (g t (List.mem_of_getElem? h2))) hc
inductive NoT : Tr → Prop
  | sh {d : Da} : NoT (.sh d)
  | nd {k : NK} {ts : List Tr} (hk : k ≠ .tup ∧ k ≠ .tpz) (h : ∀ t ∈ ts, NoT t) : NoT (.nd k ts)
theorem Ow.noT (h : Ow K S H c x t) (l : NoT t) : ∀ a ∈ c, ∀ vs, H a ≠ some (.tup vs) := by
  induction h with
  | sh h => intro a ha; cases ha
  | @nd a k vs ts cs A c h l1 l2 f hc ih =>
    cases l with
    | nd hk g =>
      intro b hb ws e
      rw [hc] at hb
      rcases List.mem_append.mp hb with hb | hb
      · cases k with
        | ins C ns =>
          obtain ⟨dx, rfl, _, _, h1, h2⟩ := h
          simp only [List.mem_cons, List.not_mem_nil, or_false] at hb
          rcases hb with rfl | rfl
          · rw [h1] at e; cases e
          · rw [h2] at e; cases e
        | slf x C ns =>
          obtain ⟨_, dx, rfl, _, _, h1, h2⟩ := h
          simp only [List.mem_cons, List.not_mem_nil, or_false] at hb
          rcases hb with rfl | rfl
          · rw [h1] at e; cases e
          · rw [h2] at e; cases e
        | rd => exact h.elim
        | lst => obtain ⟨rfl, _, h1⟩ := h; rw [List.mem_singleton.mp hb, h1] at e; cases e
        | tup => exact hk.1 rfl
        | dct ks => obtain ⟨rfl, _, h1⟩ := h; rw [List.mem_singleton.mp hb, h1] at e; cases e
        | dcl ks => obtain ⟨rfl, _, o, h1⟩ := h; rw [List.mem_singleton.mp hb, h1] at e; cases e
        | dcs x lk ks =>
          obtain ⟨_, rfl, _, h1⟩ := h
          rw [List.mem_singleton.mp hb, h1] at e
          cases lk <;> cases e
        | tpz => exact hk.2 rfl
      · obtain ⟨c', hc', hb'⟩ := List.mem_flatten.mp hb
        obtain ⟨i, hi, e2⟩ := List.getElem_of_mem hc'
        exact ih i (vs[i]'(by omega)) (ts[i]'(by omega)) c' (List.getElem?_eq_getElem _) (List.getElem?_eq_getElem _) (by rw [List.getElem?_eq_getElem hi, e2]) (g _ (List.getElem_mem _)) b hb' ws e
/-- a method of an own instance that reads it and tells own things of tuples -/
theorem eo_methLT {R : Rel} (hT : ρ[i]? = some (some T)) (hu : ∀ H x, Dq B.K H x T.flat → Dq B.K H x (.nd (.ins C ns) ds)) (nt : NoT T) (hn : f ∉ ns) (ha : Eas B ts ρ es) (r : R (.nd (.ins C ns) ds :: es) (.ret t)) (l : LoneT t) : Eo B (tMeth (He.ga B.K C) f (SpD B.K R) [] E (tVar i) ts) ρ t := fun S H σ cs st Q q => by
  obtain ⟨c0, x, hc, hx, ow⟩ := st.var hT
  refine ⟨x, hx, ?_⟩
  have dq := hu _ _ (ow.here st.same)
  obtain ⟨a, vs, rfl, g1, g2⟩ := id dq.inv
  obtain ⟨hl, dx, hb⟩ := g1.ins
  refine ⟨a, dx, _, rfl, hb, fld_no hn, ha S H σ cs st _ fun ws S2 H2 s2 f2 => ?_⟩
  rw [List.append_nil]
  have st2 := st.grow s2
  have ow2 := ow.same s2.s s2.h
  have hS2 : ∀ b ∈ c0, S2 b = none := fun b hb => (st2.hp.ow b (mem_flat hc hb)).1
  have hJ : Same S2 (join S2 H2 c0) := join_same hS2
  have dqs := ow2.data hJ fun b o hb ho => by rw [join_in hb]; exact ho
  refine ⟨_, _, join S2 H2 c0, r, DqAll.cons (hu _ _ dqs) (f2.same hJ), join_heap s2.sh, fun y c S3 H3 s3 f3 => ?_⟩
  have e4 : ∀ b, b ∉ c0 → off S3 c0 b = S3 b := fun b hb => off_out hb
  have stp : Step S2 H2 (off S3 c0) H3 := by
    refine ⟨fun b o q => ?_, s3.h, fun b o q => ?_, fun b h1 h2 => ?_⟩
    · have hb : b ∉ c0 := fun hm => by rw [hS2 b hm] at q; cases q
      rw [off_out hb]
      exact s3.s b o (by rw [join_out hb]; exact q)
    · by_cases hb : b ∈ c0
      · rw [off_in hb] at q
        cases q
      · rw [off_out hb] at q
        exact s3.sh b o q
    · by_cases hb : b ∈ c0
      · exact off_in hb
      · rw [off_out hb]
        exact s3.nw b (by rw [join_out hb]; exact h1) h2
  refine q y c _ H3 (s2.trans stp) ⟨f3.ow.loneT l fun b ws2 hb => ?_, f3.nd, fun b hb => ⟨?_, s2.h.free (f3.fr b hb).2⟩⟩
  · have hbc : b ∉ c0 := fun hm => by
      have h3 := s3.sh b _ hb
      cases q2 : H2 b with
      | none => exact ow2.alloc b hm q2
      | some o =>
        have := s3.h b o q2
        rw [h3] at this
        cases this
        exact ow2.noT nt b hm ws2 q2
    rw [off_out hbc]
    exact hb
  · by_cases hbc : b ∈ c0
    · exact off_in hbc
    · rw [off_out hbc]
      exact (f3.fr b hb).1
/-! ## an expression that changes slot i's own thing to T1 and tells t -/
def Em (B : Bs) (te : TE) (ρ : Rho) (i : Nat) (T1 t : Tr) : Prop := ∀ S H σ cs, Sit B S H σ ρ cs → ∀ Q : VK, (∀ v c S' H' cs', Sit B S' H' σ (ρ.set i (some T1)) cs' → Ow B.K S' H' c v t → c.Nodup → (∀ a ∈ c, S' a = none ∧ B.E0 a = none ∧ a ∉ cs'.flatten) → Q v H') → te σ H Q
def EmT (B : Bs) (tt : TT) (ρ : Rho) (i : Nat) (T1 : Tr) (b : Bool) : Prop := ∀ S H σ cs, Sit B S H σ ρ cs → ∀ Q : Bool → Hp → Prop, (∀ S' H' cs', Sit B S' H' σ (ρ.set i (some T1)) cs' → Q b H') → tt σ H Q
/-- .. that raises behind it; out of a try -/
def ExM (B : Bs) (te : TE) (ρ : Rho) (E : XK) (i : Nat) (T1 : Tr) (C : Str) (a : Option V) : Prop := ∀ S H σ cs, Sit B S H σ ρ cs → ∀ Q : VK, (∀ S' H' cs', Sit B S' H' σ (ρ.set i (some T1)) cs' → XOk B.K H' E C a) → te σ H Q
def ExMS (B : Bs) (te : TE) (ρ : Rho) (W : WX) (i : Nat) (T1 : Tr) (C : Str) (a : Option V) : Prop := ∀ S H σ cs, Sit B S H σ ρ cs → ∀ Q : VK, (∀ S' H' cs', Sit B S' H' σ (ρ.set i (some T1)) cs' → XOk B.K H' (WE W σ) C a) → te σ H Q
theorem Sit.after (st1 : Sit B S H σ ρ cs) (hc : cs[i]? = some c) (hx : σ[i]? = some (some x)) {S' H' : Hp} {c1 : List Addr} (g1 : Same S S') (g2 : Same (off H c) H') (g3 : Same S' H') (g4 : ∀ a, S a = none → off H c a ≠ none → S' a = none) (ow1 : Ow B.K S' H' c1 x t1) (nd1 : c1.Nodup) (fr1 : ∀ a ∈ c1, S' a = none ∧ off H c a = none) : Sit B S' H' σ (ρ.set i (some t1)) (cs.set i c1) := by
  have hE : ∀ b, B.E0 b ≠ none → b ∉ c := fun b h hm => h (st1.hp.ow b (mem_flat hc hm)).2
  have ho : ∀ b o, b ∉ c → H b = some o → H' b = some o := fun b o hb h => g2 b o ((off_out hb).trans h)
  have hn : ∀ b, b ∉ c → S b = none → H b ≠ none → S' b = none := fun b hb h1 h2 => g4 b h1 (by
    rw [off_out hb]
    exact h2)
  refine st1.put hc g1 (fun b o q => ho b o (hE b (by rw [q]; exact fun z => nomatch z)) (st1.hp.e0 b o q)) g3 (fun b h1 h2 => ?_) (fun b hb => ?_) (fun b hb => ?_) nd1 ⟨x, rfl, ow1⟩ rfl hx fun _ _ => rfl
  · have hb := hE b h2
    cases q : B.E0 b with
    | none => exact absurd q h2
    | some o => exact hn b hb (st1.hp.nw b h1 h2) (by rw [st1.hp.e0 b o q]; exact fun z => nomatch z)
  · obtain ⟨m1, m2⟩ := st1.mem_er hc hb
    cases q : H b with
    | none => exact absurd q (st1.alloc b m1)
    | some o => exact ⟨hn b m2 (st1.hp.ow b m1).1 (by rw [q]; exact fun z => nomatch z), ho b o m2 q⟩
  · obtain ⟨z1, z2⟩ := fr1 b hb
    by_cases hm : b ∈ c
    · exact ⟨z1, (st1.hp.ow b (mem_flat hc hm)).2, fun he => (st1.mem_er hc he).2 hm⟩
    · rw [off_out hm] at z2
      exact ⟨z1, st1.hp.e0.free z2, fun he => st1.alloc b (st1.mem_er hc he).1 z2⟩
/-- the promise of a def that changes its first argument is kept -/
theorem spT_ret {R : RelT} (st : Sit B S H σ ρ cs) (hc : cs[i]? = some c) (hx : σ[i]? = some (some x)) (ow : Ow B.K S H c x t0) (dq : DqAll B.K S ws ds) (r : R t0 ds (.ret t1 t)) (hw : ∀ S' H' c', Ow B.K S' H' c' x t1 → Ow B.K S' H' c' x T1)
    (q : ∀ v c S' H' cs', Sit B S' H' σ (ρ.set i (some T1)) cs' → Ow B.K S' H' c v t → c.Nodup → (∀ a ∈ c, S' a = none ∧ B.E0 a = none ∧ a ∉ cs'.flatten) → Q v H') : SpT B.K R (x :: ws) H Q E := by
  refine ⟨x, ws, t0, ds, c, S, .ret t1 t, rfl, r, ow, st.chunk_nd hc, fun b hb => (st.hp.ow b (mem_flat hc hb)).1, dq, st.same, fun c1 c' v S' H' g1 g2 g3 g4 ow1 ow2 nd fr => ?_⟩
  rw [List.nodup_append] at nd
  have st2 := st.after hc hx g1 g2 g3 g4 (hw _ _ _ ow1) nd.1 fun b hb => fr b (List.mem_append_left _ hb)
  refine q v c' S' H' _ st2 ow2 nd.2.1 fun b hb => ?_
  obtain ⟨z1, z2⟩ := fr b (List.mem_append_right _ hb)
  have z2 : off H c b = none := z2
  have hi : i < cs.length := (List.getElem?_eq_some_iff.mp hc).1
  obtain ⟨_, p2⟩ := flatten_set (c := c1) hc
  have hnm : b ∉ (cs.set i c1).flatten := fun hm => by
    rcases List.mem_append.mp (p2.mem_iff.mp hm) with hm | hm
    · exact nd.2.2 b hm b hb rfl
    · obtain ⟨m1, m2⟩ := st.mem_er hc hm
      rw [off_out m2] at z2
      exact st.alloc b m1 z2
  refine ⟨z1, ?_, hnm⟩
  by_cases hm : b ∈ c
  · exact (st.hp.ow b (mem_flat hc hm)).2
  · rw [off_out hm] at z2
    exact st.hp.e0.free z2
theorem spT_exc {R : RelT} {a2 : Option V} (st : Sit B S H σ ρ cs) (hc : cs[i]? = some c) (hx : σ[i]? = some (some x)) (ow : Ow B.K S H c x t0) (dq : DqAll B.K S ws ds) (r : R t0 ds (.exc C2 a2 t1)) (hw : ∀ S' H' c', Ow B.K S' H' c' x t1 → Ow B.K S' H' c' x T1)
    (q : ∀ S' H' cs', Sit B S' H' σ (ρ.set i (some T1)) cs' → XOk B.K H' E C2 a2) : SpT B.K R (x :: ws) H Q E := by
  refine ⟨x, ws, t0, ds, c, S, .exc C2 a2 t1, rfl, r, ow, st.chunk_nd hc, fun b hb => (st.hp.ow b (mem_flat hc hb)).1, dq, st.same, fun c1 S' H' g1 g2 g3 g4 ow1 nd fr => ?_⟩
  exact q S' H' _ (st.after hc hx g1 g2 g3 g4 (hw _ _ _ ow1) nd fr)
theorem Ow.toslf (h : Ow K S H c (.ref a) (.nd (.ins C ns) us)) : Ow K S H c (.ref a) (.nd (.slf a C ns) us) := by
  cases h with
  | nd h l l2 f hc => exact .nd ⟨rfl, h⟩ l l2 f hc
/-- what an own instance's slot holds: seen from outside, or within a method -/
inductive SlfT : Tr → Addr → Str → List Str → List Tr → Prop
  | ins {a : Addr} {C : Str} {ns : List Str} {us : List Tr} : SlfT (.nd (.ins C ns) us) a C ns us
  | slf {a : Addr} {C : Str} {ns : List Str} {us : List Tr} : SlfT (.nd (.slf a C ns) us) a C ns us
def reT : Tr → List Str → List Tr → Tr
  | .nd (.ins C _) _, ns, us => .nd (.ins C ns) us
  | .nd (.slf a C _) _, ns, us => .nd (.slf a C ns) us
  | t, _, _ => t
/-- R, whatever the instance's place is (seen from outside), or at its place -/
def AtT (T : Tr) (P : Addr → Prop) : Prop := match T with
  | .nd (.slf a _ _) _ => P a
  | _ => ∀ a, P a
theorem ow_slf (hT : T = .nd (.ins C ns) us ∨ ∃ a, T = .nd (.slf a C ns) us) (ow : Ow K S H c x T) {P : Addr → Prop} (h : AtT T P) : ∃ a, x = .ref a ∧ P a ∧ Ow K S H c (.ref a) (.nd (.slf a C ns) us) ∧ ∀ S' H' c' ns' us', Ow K S' H' c' x (.nd (.slf a C ns') us') → Ow K S' H' c' x (reT T ns' us') := by
  rcases hT with rfl | ⟨a, rfl⟩
  · cases ow with
    | @nd a _ vs _ cs' A _ h1 l l2 f hc => exact ⟨a, rfl, h a, Ow.toslf (.nd h1 l l2 f hc), fun S' H' c' ns' us' o => o.unslf⟩
  · have e := ow.slf_val
    subst e
    exact ⟨a, rfl, h, ow, fun S' H' c' ns' us' o => o⟩
theorem flat_slf (hT : T = .nd (.ins C ns) us ∨ ∃ a, T = .nd (.slf a C ns) us) (h : Dq K H x T.flat) : Dq K H x (.nd (.ins C ns) (Tr.flats us)) := by
  rcases hT with rfl | ⟨a, rfl⟩
  · rw [Tr.flat] at h
    exact h
  · rw [Tr.flat] at h
    exact h.unslf
theorem em_meth {R : RelT} (hT : ρ[i]? = some (some T)) (hk : T = .nd (.ins C ns) us ∨ ∃ a, T = .nd (.slf a C ns) us) (hn : f ∉ ns) (ha : Eas B ts ρ ds) (r : AtT T fun a => R (.nd (.slf a C ns) us) ds (.ret (.nd (.slf a C ns') us') t)) : Em B (tMeth (He.ga B.K C) f (SpT B.K R) [] E (tVar i) ts) ρ i (reT T ns' us') t := fun S H σ cs st Q q => by
  obtain ⟨c0, x, hc, hx, ow⟩ := st.var hT
  refine ⟨x, hx, ?_⟩
  obtain ⟨a, vs, e, g1, g2⟩ := (flat_slf hk (ow.here st.same)).inv
  obtain ⟨hl, dx, hb⟩ := g1.ins
  refine ⟨a, dx, _, e, hb, fld_no hn, ha S H σ cs st _ fun ws S2 H2 s2 f2 => ?_⟩
  rw [List.append_nil]
  have st2 := st.grow s2
  obtain ⟨a2, e2, r2, ow2, up⟩ := ow_slf hk (ow.same s2.s s2.h) r
  subst e2
  exact spT_ret st2 hc hx ow2 f2 r2 (fun S' H' c' o => up S' H' c' _ _ o) q
theorem em_methW {R : RelT} {E : L2.St → XK} (hT : ρ[i]? = some (some T)) (hk : T = .nd (.ins C ns) us ∨ ∃ a, T = .nd (.slf a C ns) us) (hn : f ∉ ns) (ha : Eas B ts ρ ds) (r : AtT T fun a => R (.nd (.slf a C ns) us) ds (.ret (.nd (.slf a C ns') us') t)) : Em B (tMethW (He.ga B.K C) f (SpT B.K R) E (tVar i) ts) ρ i (reT T ns' us') t := fun S H σ cs st Q q => by
  obtain ⟨c0, x, hc, hx, ow⟩ := st.var hT
  refine ⟨x, hx, ?_⟩
  obtain ⟨a, vs, e, g1, g2⟩ := (flat_slf hk (ow.here st.same)).inv
  obtain ⟨hl, dx, hb⟩ := g1.ins
  refine ⟨a, dx, _, e, hb, fld_no hn, ha S H σ cs st _ fun ws S2 H2 s2 f2 => ?_⟩
  have st2 := st.grow s2
  obtain ⟨a2, e2, r2, ow2, up⟩ := ow_slf hk (ow.same s2.s s2.h) r
  subst e2
  exact spT_ret st2 hc hx ow2 f2 r2 (fun S' H' c' o => up S' H' c' _ _ o) q
theorem exM_meth {R : RelT} {a2 : Option V} (hT : ρ[i]? = some (some T)) (hk : T = .nd (.ins C ns) us ∨ ∃ a, T = .nd (.slf a C ns) us) (hn : f ∉ ns) (ha : Eas B ts ρ ds) (r : AtT T fun a => R (.nd (.slf a C ns) us) ds (.exc C2 a2 (.nd (.slf a C ns') us'))) : ExM B (tMeth (He.ga B.K C) f (SpT B.K R) [] E (tVar i) ts) ρ E i (reT T ns' us') C2 a2 := fun S H σ cs st Q q => by
  obtain ⟨c0, x, hc, hx, ow⟩ := st.var hT
  refine ⟨x, hx, ?_⟩
  obtain ⟨a, vs, e, g1, g2⟩ := (flat_slf hk (ow.here st.same)).inv
  obtain ⟨hl, dx, hb⟩ := g1.ins
  refine ⟨a, dx, _, e, hb, fld_no hn, ha S H σ cs st _ fun ws S2 H2 s2 f2 => ?_⟩
  rw [List.append_nil]
  have st2 := st.grow s2
  obtain ⟨a3, e2, r2, ow2, up⟩ := ow_slf hk (ow.same s2.s s2.h) r
  subst e2
  exact spT_exc st2 hc hx ow2 f2 r2 (fun S' H' c' o => up S' H' c' _ _ o) q
theorem exMS_meth {R : RelT} {a2 : Option V} (hT : ρ[i]? = some (some T)) (hk : T = .nd (.ins C ns) us ∨ ∃ a, T = .nd (.slf a C ns) us) (hn : f ∉ ns) (ha : Eas B ts ρ ds) (r : AtT T fun a => R (.nd (.slf a C ns) us) ds (.exc C2 a2 (.nd (.slf a C ns') us'))) : ExMS B (tMethW (He.ga B.K C) f (SpT B.K R) (WE W) (tVar i) ts) ρ W i (reT T ns' us') C2 a2 := fun S H σ cs st Q q => by
  obtain ⟨c0, x, hc, hx, ow⟩ := st.var hT
  refine ⟨x, hx, ?_⟩
  obtain ⟨a, vs, e, g1, g2⟩ := (flat_slf hk (ow.here st.same)).inv
  obtain ⟨hl, dx, hb⟩ := g1.ins
  refine ⟨a, dx, _, e, hb, fld_no hn, ha S H σ cs st _ fun ws S2 H2 s2 f2 => ?_⟩
  have st2 := st.grow s2
  obtain ⟨a3, e2, r2, ow2, up⟩ := ow_slf hk (ow.same s2.s s2.h) r
  subst e2
  exact spT_exc st2 hc hx ow2 f2 r2 (fun S' H' c' o => up S' H' c' _ _ o) q
/-- f(x, ..), x a slot's own -/
theorem em_call {R : RelT} (hT : ρ[i]? = some (some T)) (hk : T = .nd (.ins C ns) us ∨ ∃ a, T = .nd (.slf a C ns) us) (ha : Eas B ts ρ ds) (r : AtT T fun a => R (.nd (.slf a C ns) us) ds (.ret (.nd (.slf a C ns') us') t)) : Em B (tCall (SpT B.K R) [] E (tCons (tVar i) ts)) ρ i (reT T ns' us') t := fun S H σ cs st Q q => by
  obtain ⟨c0, x, hc, hx, ow⟩ := st.var hT
  refine ⟨x, hx, ha S H σ cs st _ fun ws S2 H2 s2 f2 => ?_⟩
  show SpT B.K R ((x :: ws) ++ []) H2 Q E
  rw [List.append_nil]
  have st2 := st.grow s2
  obtain ⟨a2, e2, r2, ow2, up⟩ := ow_slf hk (ow.same s2.s s2.h) r
  subst e2
  exact spT_ret st2 hc hx ow2 f2 r2 (fun S' H' c' o => up S' H' c' _ _ o) q
/-! what is made of it -/
theorem em_is (h : Em B te ρ i T1 t) (e : t = u) : Em B te ρ i T1 u := e ▸ h
theorem em_op {r : R2} (ha : Em B ta ρ i T1 t) (hb : Eb B tb (ρ.set i (some T1)) e) (hr : Op2 B.K r t.flat e z) : Em B (tOp r ta tb) ρ i T1 (.sh z) := fun S H σ cs st Q q => ha S H σ cs st _ fun v c S1 H1 cs1 st1 ow nd fr => hb S1 H1 σ cs1 st1 _ fun x2 S2 H2 s2 f2 => by
  obtain ⟨w, ew, hr⟩ := hr
  exact hr H2 v x2 Q ((ow.here st1.same).same s2.h) f2 (q w [] S2 H2 cs1 (st1.grow s2) (.sh (Dq.of_flat ew)) List.nodup_nil fun b hb => by cases hb)
theorem emt_test (h : Em B te ρ i T1 (.sh (.bl bb))) : EmT B (tTest te) ρ i T1 bb := fun S H σ cs st Q q => h S H σ cs st _ fun v c S1 H1 cs1 st1 ow nd fr => ⟨bb, ow.sh_inv.2.flat rfl, q S1 H1 cs1 st1⟩
theorem emt_pt (h : Em B te ρ i T1 (.sh (.bl bb))) : EmT B (fun σ H Q => te σ H fun x H' => ∃ k, x = .bl k ∧ Q k H') ρ i T1 bb := fun S H σ cs st Q q => h S H σ cs st _ fun v c S1 H1 cs1 st1 ow nd fr => ⟨bb, ow.sh_inv.2.flat rfl, q S1 H1 cs1 st1⟩
theorem emt_not (h : EmT B tt ρ i T1 bb) : EmT B (tNot tt) ρ i T1 (!bb) := fun S H σ cs st Q q => h S H σ cs st _ fun S1 H1 cs1 st1 => q S1 H1 cs1 st1
theorem emt_is {b2 : Bool} (h : EmT B tt ρ i T1 bb) (e : bb = b2) : EmT B tt ρ i T1 b2 := e ▸ h
theorem q_ifM (h : EmT B tt ρ i T1 bb) (h1 : bb = true → Gd B u1 { D with nx := s D } (ρ.set i (some T1))) (h2 : bb = false → Gd B u2 { D with nx := s D } (ρ.set i (some T1))) : Gd B (tSeq (tIfS tt u1 u2) s) D ρ := fun S H σ cs st => h S H σ cs st _ fun S1 H1 cs1 st1 => by
  cases bb with
  | true => exact h1 rfl S1 H1 σ cs1 st1
  | false => exact h2 rfl S1 H1 σ cs1 st1
theorem q_whenM (h : EmT B tt ρ i T1 bb) (h1 : bb = true → Gd B u1 { D with nx := s D } (ρ.set i (some T1))) (h2 : bb = false → Gd B s D (ρ.set i (some T1))) : Gd B (tSeq (tIfS tt u1 tNext) s) D ρ := q_ifM h h1 h2
theorem Sit.give {v : V} (h : Sit B S H σ ρ cs) (ow : Ow B.K S H c v t) (nd : c.Nodup) (fr : ∀ a ∈ c, S a = none ∧ B.E0 a = none ∧ a ∉ cs.flatten) : ∃ cs', Sit B S H (σ.set j (some v)) (ρ.set j (some t)) cs' := by
  by_cases hj : j < ρ.length
  · have hc : cs[j]? = some (cs[j]'(by rw [h.lc]; exact hj)) := List.getElem?_eq_getElem _
    refine ⟨_, h.put (c := c) hc (Same.refl S) h.hp.e0 h.hp.sh h.hp.nw (fun a ha => ⟨(h.hp.ow a (h.mem_er hc ha).1).1, rfl⟩) (fun a ha => ⟨(fr a ha).1, (fr a ha).2.1, fun hm => (fr a ha).2.2 (h.mem_er hc hm).1⟩) nd ⟨v, rfl, ow⟩ (by simp) ?_ fun j' hj' => set_ne hj'⟩
    rw [List.getElem?_set_self (by rw [h.ls]; exact hj)]
  · rw [List.set_eq_of_length_le (by rw [h.ls]; omega), List.set_eq_of_length_le (by omega)]
    exact ⟨cs, h⟩
theorem q_asgM (h : Em B te ρ i T1 t) (k : Gd B s D ((ρ.set i (some T1)).set j (some t))) : Gd B (tSeq (tAsg te (gName j)) s) D ρ := fun S H σ cs st => h S H σ cs st _ fun v c S1 H1 cs1 st1 ow nd fr => by
  obtain ⟨cs', st'⟩ := st1.give (j := j) ow nd fr
  exact k S1 H1 _ cs' st'
theorem q_dropM (h : Em B te ρ i T1 t) (k : Gd B s D (ρ.set i (some T1))) : Gd B (tSeq (tDrop te) s) D ρ := fun S H σ cs st => h S H σ cs st _ fun v c S1 H1 cs1 st1 ow nd fr => k S1 H1 σ cs1 st1
theorem q_tryANM {sx : Addr → Value → Option Addr → TS} {tw : WX → TE} (h : ∀ W, Em B (tw W) ρ i T1 t) (k : Gd B s D ((ρ.set i (some T1)).set j (some t))) : Gd B (tSeq (tTryNo K cc sx Wout fun W => tAsg (tw W) (gName j)) s) D ρ := fun S H σ cs st => h _ S H σ cs st _ fun v c S1 H1 cs1 st1 ow nd fr => by
  obtain ⟨cs', st'⟩ := st1.give (j := j) ow nd fr
  exact k S1 H1 _ cs' st'
theorem x_tryANM {sx : Addr → Value → Option Addr → TS} {tw : WX → TE} (h : ∀ W, ExMS B (tw W) ρ W i T1 C none) (hm : PySem.W.exmOne K (.ref (He.ga B.K C)) cc = some true) (k : ∀ a, Gd B (sx a (.ref (He.ga B.K C)) none) { D with nx := s D } (ρ.set i (some T1))) :
    Gd B (tSeq (tTryNo K cc sx Wout fun W => tAsg (tw W) (gName j)) s) D ρ := fun S H σ cs st => h _ S H σ cs st _ fun S1 H1 cs1 st1 => fun H' e => ⟨true, hm, fun _ a _ => k a S1 H' σ cs1 (st1.grow (Step.heap st1.same e)), fun z => nomatch z⟩
theorem x_dropM {a2 : Option V} (h : ExM B te ρ E i T1 C2 a2) (q : ∀ S H σ cs, Sit B S H σ (ρ.set i (some T1)) cs → XOk B.K H E C2 a2) : Gd B (tSeq (tDrop te) s) D ρ := fun S H σ cs st => h S H σ cs st _ fun S1 H1 cs1 st1 => q S1 H1 σ cs1 st1
/-! ## bodies of such defs -/
theorem body_gdT {t : TS} (ow : Ow K S H c0 x t0) (nd : c0.Nodup) (fr : ∀ a ∈ c0, S a = none) (h : DqAll K S ws ds) (e : Same S H) (hn : N.length = ds.length + 1 + n) (g : Gd ⟨K, S, off H c0⟩ t D (some t0 :: (ds.map (fun d => some (Tr.sh d)) ++ List.replicate n none))) : t D (L2.start N (x :: ws)) H := body_gdM ow nd fr h e hn g
/-! ## dicts -/
def dropKs (ks : List Key) (k : Key) : List Key := ks.filter fun a => decide (a ≠ k)
def dropVs {α : Type} (ks : List Key) (vs : List α) (k : Key) : List α := ((ks.zip vs).filter fun a => decide (a.1 ≠ k)).map (·.2)
theorem dropK_zip : ∀ {ks : List Key} {vs : List V}, ks.length = vs.length → ∀ k, L2.dropK (ks.zip vs) k = (dropKs ks k).zip (dropVs ks vs k) ∧ (dropKs ks k).length = (dropVs ks vs k).length
  | [], [], _, k => ⟨rfl, rfl⟩
  | [], _ :: _, h, _ => by simp at h
  | _ :: _, [], h, _ => by simp at h
  | a :: r, v :: w, h, k => by
    obtain ⟨h1, h2⟩ := dropK_zip (ks := r) (vs := w) (by simpa using h) k
    by_cases e : a = k
    · have e1 : L2.dropK ((a :: r).zip (v :: w)) k = L2.dropK (r.zip w) k := by simp [L2.dropK, e]
      have e2 : dropKs (a :: r) k = dropKs r k := by simp [dropKs, e]
      have e3 : dropVs (a :: r) (v :: w) k = dropVs r w k := by simp [dropVs, e]
      rw [e1, e2, e3]
      exact ⟨h1, h2⟩
    · have e1 : L2.dropK ((a :: r).zip (v :: w)) k = (a, v) :: L2.dropK (r.zip w) k := by simp [L2.dropK, e]
      have e2 : dropKs (a :: r) k = a :: dropKs r k := by simp [dropKs, e]
      have e3 : dropVs (a :: r) (v :: w) k = v :: dropVs r w k := by simp [dropVs, e]
      rw [e1, e2, e3, List.zip_cons_cons, h1]
      exact ⟨rfl, by rw [List.length_cons, List.length_cons, h2]⟩
theorem DqAll.dropV : ∀ {ks : List Key} {vs : List V} {ds : List Da}, DqAll K H vs ds → ks.length = vs.length → ∀ k, DqAll K H (dropVs ks vs k) (dropVs ks ds k)
  | [], [], ds, f, _, k => by
    have e : ds = [] := List.eq_nil_of_length_eq_zero f.1.symm
    subst e
    exact DqAll.nil
  | [], _ :: _, _, _, h, _ => by simp at h
  | _ :: _, [], _, _, h, _ => by simp at h
  | a :: r, v :: w, [], f, _, _ => absurd f.1 (by simp)
  | a :: r, v :: w, d :: ds, f, h, k => by
    have ih := DqAll.dropV (ks := r) (vs := w) (ds := ds) f.tail (by simpa using h) k
    unfold dropVs at *
    by_cases e : a = k
    · simp only [List.zip_cons_cons, List.filter_cons, e, ne_eq, not_true, decide_false, Bool.false_eq_true, if_false]
      exact ih
    · simp only [List.zip_cons_cons, List.filter_cons, e, ne_eq, not_false_eq_true, decide_true, if_true, List.map_cons]
      exact DqAll.cons f.head ih
/-- d.pop(k), k there -/
theorem q_mdpop {td ty : TE} (hl : Loc B td ρ i p) (hk : Eb B ty ρ (kyD kk)) (hT : ρ[i]? = some (some T)) (hat : T.at p = some (.nd (.dct ks) (ds.map Tr.sh))) (hm : kk ∈ ks) (k : Gd B s D (ρ.set i (some (T.put (.nd (.dct (dropKs ks kk)) ((dropVs ks ds kk).map Tr.sh)) p)))) :
    Gd B (tSeq (tDrop (tDPop1 td ty)) s) D ρ := fun S H σ cs st => by
  obtain ⟨x0, _, _, hx, _⟩ := st.at_ hT hat
  refine hl S H σ cs x0 st hx _ fun y S1 H1 s1 va => ?_
  have st1 := st.grow s1
  obtain ⟨x0', a, vs, A, hx', va', o1, dq, _⟩ := st1.root hT hat
  rw [hx] at hx'
  cases hx'
  cases va.uniq va'
  refine ⟨a, rfl, .inl ⟨_, .inl o1.2.2⟩, hk S1 H1 σ cs st1 _ fun y S2 H2 s2 f2 => ?_⟩
  have st2 := st1.grow s2
  obtain ⟨x0', a2, vs2, A2, hx', va2, o2, dq2, g⟩ := st2.root hT hat
  rw [hx] at hx'
  cases hx'
  cases (va.same s2.h).uniq va2
  obtain ⟨rfl, hl2, ho⟩ := o2
  have hl2 : ks.length = vs2.length := hl2
  have ho : H2 a = some (.dK (ks.zip vs2)) := ho
  have hv : (valV (ks.zip vs2) kk).isSome = true := by rw [val_some hl2, decide_eq_true hm]
  obtain ⟨v, hv⟩ := Option.isSome_iff_exists.mp hv
  refine ⟨_, kk, v, ho, f2.flat (kyD_fl kk), hv, ?_⟩
  obtain ⟨z1, z2⟩ := dropK_zip hl2 kk
  rw [z1]
  obtain ⟨cs4, st4⟩ := g (.dct (dropKs ks kk)) (dropVs ks vs2 kk) (dropVs ks ds kk) (upd H2 a (.dK ((dropKs ks kk).zip (dropVs ks vs2 kk)))) (fun b hb => upd_ne hb) ⟨rfl, z2, upd_same⟩ (dq2.dropV hl2 kk)
  exact k S2 _ σ cs4 st4
/-- d.items() -/
def itemsD (ks : List Key) (ds : List Da) : List Da := (ks.zip ds).map fun q => .tup [kyD q.1, q.2]
theorem ej_items {td : TE} (h : Es B td ρ (.nd (.dcl ks) ds)) : Ej B (iItems td) ρ (itemsD ks ds) := fun S H σ cs st R r => h S H σ cs st _ fun x c S1 H1 s1 f1 => by
  obtain ⟨a, vs, rfl, ⟨hl, o, ha⟩, dq⟩ := f1.dq.inv
  refine ⟨a, o, ks.zip vs, rfl, s1.sh _ _ ha, r _ S1 H1 s1 (wk_of (walk_items (d := a) (o := o) (kvs := ks.zip vs)) (by rw [itemsD, List.length_map, List.length_zip, List.length_zip, dq.1]) (fun H2 e => e _ _ ha) fun i H2 x H3 S2 hi e1 e2 y => ?_)⟩
  obtain ⟨T, k', v, rfl, hT, rfl, hk1, hk2⟩ := y
  obtain ⟨⟨k, v'⟩, hk, e4⟩ := Option.map_eq_some_iff.mp hk1
  have hk2 : Option.map Prod.snd (ks.zip vs)[i]? = some v := hk2
  rw [hk] at hk2
  cases hk2
  cases e4
  refine ⟨upd S2 T (.tup [_, _]), step_tup e2 hT, fun d hd => ?_⟩
  rw [List.getElem?_zip_eq_some] at hk
  unfold itemsD at hd
  rw [List.getElem?_map] at hd
  obtain ⟨q, hq, rfl⟩ := Option.map_eq_some_iff.mp hd
  rw [List.getElem?_zip_eq_some] at hq
  rw [hk.1] at hq
  have e3 : k = q.1 := Option.some.inj hq.1
  subst e3
  exact pair_dq (e2.free hT) (Dq.of_flat (kyD_fl _)) ((dq.2 i _ _ hk.2 hq.2).same e1)
theorem eo_lstKeys {td : TE} (hk : k = .dct ks ∨ k = .dcl ks) (h : Eb B td ρ (.nd k ds)) : Eo B (tLstKeys td) ρ (ol (ks.map kyD)) := fun S H σ cs st Q q => h S H σ cs st _ fun x S1 H1 s1 f1 => by
  obtain ⟨a, vs, rfl, g1, g2⟩ := f1.inv
  obtain ⟨g1, hl⟩ := Stands.dctR hk g1
  refine ⟨a, _, rfl, g1, fun p hp => ?_⟩
  have e : ((ks.zip vs).map fun kv => kV kv.1) = ks.map kV := by
    rw [show (fun kv : Key × V => kV kv.1) = kV ∘ Prod.fst from rfl, ← List.map_map, List.map_fst_zip (by omega)]
  rw [e]
  obtain ⟨s4, f4⟩ := fr_new (K := B.K) (k := .lst) (vs := ks.map kV) (ds := ks.map kyD) (.inl rfl) hp s1.sh (DqAll.of_map kyD_fl) True.intro
  exact q _ [p] _ _ (s1.trans s4) (f4.prior s1.h)
theorem o_neDN (hk : k = .dct ks ∨ k = .dcl ks) : Op2 K rNeDN (.nd k ds) (.nd (.dct []) []) (.bl (!ks.isEmpty)) := ⟨_, rfl, fun H vx vy Q q1 q2 q => by
  obtain ⟨a, vs, rfl, h1, h2⟩ := q1.inv
  obtain ⟨b, ws, rfl, h3, h4⟩ := q2.inv
  obtain ⟨g1, g2⟩ := Stands.dctR hk h1
  obtain ⟨g3, g4⟩ := h3.dct
  refine ⟨a, b, _, _, rfl, rfl, g1, .inl g3, by simp, ?_⟩
  have e : (ks.zip vs).isEmpty = ks.isEmpty := by
    cases ks with
    | nil => rfl
    | cons c r =>
      cases vs with
      | nil => simp at g2
      | cons w s => rfl
  rw [e]
  exact q⟩
end
end Ly

namespace Ly
open PySem L2 Lo
section
variable {B : Bs} {S H S' H' : Hp} {σ : L2.St} {ρ ρ' ρ'' : Rho} {te tk tv : TE} {d : Da} {ds : List Da} {kk : Key} {D : Ends} {s bd : TS} {i j m n : Nat}
/-- {k: v} -/
theorem eo_disp1 (hk : Eb B tk ρ (kyD kk)) (hv : Es B tv ρ d) : Eo B (tDisp [(tk, tv)]) ρ (.nd (.dct [kk]) [.sh d]) := fun S H σ cs st Q q => by
  intro p hp
  have s0 : Step S H S (upd H p (.dK [])) := Step.heap st.same (same_new hp)
  refine hk S _ σ cs (st.grow s0) _ fun x S1 H1 s1 f1 => hv S1 H1 σ cs (st.grow (s0.trans s1)) _ fun y c S2 H2 s2 f2 => ?_
  have s12 := s1.trans s2
  have hpp : (upd H p (.dK [])) p = some (.dK []) := upd_same
  have h2p := s12.h p _ hpp
  refine ⟨h2p, [(kk, y)], by rw [f1.flat (kyD_fl kk)]; rfl, by simp, ?_⟩
  have hSp : S p = none := st.same.free hp
  have hS2 : S2 p = none := s12.nw p hSp (by rw [hpp]; exact fun z => nomatch z)
  have stp : Step S H S2 (upd H2 p (.dK [(kk, y)])) := by
    refine ⟨s12.s, fun b o e => ?_, fun b o e => ?_, fun b h1 h2 => ?_⟩
    · have hb : b ≠ p := fun e1 => by rw [e1, hp] at e; cases e
      rw [upd_ne hb]
      exact s12.h b o (by rw [upd_ne hb]; exact e)
    · rw [upd_ne (fun e1 : b = p => by rw [e1, hS2] at e; cases e)]
      exact s12.sh b o e
    · have hb : b ≠ p := fun e1 => h2 (by rw [e1]; exact hp)
      exact s12.nw b h1 (by rw [upd_ne hb]; exact h2)
  refine q (.ref p) [p] S2 _ stp ⟨Ow.root (k := .dct [kk]) (vs := [y]) (ds := [d]) ⟨rfl, rfl, upd_same⟩ (DqAll.cons f2.dq DqAll.nil), by simp, fun b hb => ?_⟩
  rw [List.mem_singleton.mp hb]
  exact ⟨hS2, hp⟩
/-! ## sorted by unlike firsts -/
def sortF {α : Type} (f : α → Int) (xs : List α) : List α := xs.mergeSort fun a b => decide (f a ≤ f b)
theorem sortF_perm {α : Type} {f : α → Int} {xs : List α} : (sortF f xs).Perm xs := List.mergeSort_perm _ _
theorem sortF_pw {α : Type} {f : α → Int} {xs : List α} : (sortF f xs).Pairwise fun a b => f a ≤ f b := by
  have z := List.pairwise_mergeSort (le := fun a b : α => decide (f a ≤ f b)) (fun a b c h1 h2 => by
    simp only [decide_eq_true_eq] at *
    omega) (fun a b => by
    simp only [Bool.or_eq_true, decide_eq_true_eq]
    omega) xs
  exact z.imp fun h => of_decide_eq_true h
theorem nodup_inj {α : Type} {f : α → Int} : ∀ {xs : List α}, (xs.map f).Nodup → ∀ x ∈ xs, ∀ y ∈ xs, f x = f y → x = y
  | [], _, x, hx, _, _, _ => by cases hx
  | a :: r, h, x, hx, y, hy, e => by
    rw [List.map_cons, List.nodup_cons] at h
    rcases List.mem_cons.mp hx with e1 | h1
    · rcases List.mem_cons.mp hy with e2 | h2
      · rw [e1, e2]
      · exact absurd (List.mem_map.mpr ⟨y, h2, by rw [← e, e1]⟩) h.1
    · rcases List.mem_cons.mp hy with e2 | h2
      · exact absurd (List.mem_map.mpr ⟨x, h1, by rw [e, e2]⟩) h.1
      · exact nodup_inj h.2 x h1 y h2 e
theorem sortF_uniq {α : Type} {f : α → Int} {xs ys : List α} (nd : (xs.map f).Nodup) (p : ys.Perm xs) (h : ys.Pairwise fun a b => f a ≤ f b) : ys = sortF f xs := by
  refine List.Perm.eq_of_pairwise (le := fun a b => f a ≤ f b) (fun a b ha hb h1 h2 => ?_) h sortF_pw (p.trans sortF_perm.symm)
  exact nodup_inj nd a (p.mem_iff.mp ha) b (sortF_perm.mem_iff.mp hb) (by omega)
def fstI (H : Hp) : V → Int
  | .ref t => match H t with
    | some (.tup (.int n :: _)) => n
    | _ => 0
  | _ => 0
open Classical in
theorem eo_sortF {α : Type} {f : α → Int} {g1 g2 : α → Da} {xs : List α} (x0 : α) (nd : (xs.map f).Nodup) (h : Er B te ρ .lst (xs.map fun x => .tup [.int (f x), g1 x, g2 x])) : Eo B (tCB (rSortedF B.K) (tCons te tNil)) ρ (ol ((sortF f xs).map fun x => .tup [.int (f x), g1 x, g2 x])) := fun S H σ cs st Q q => h S H σ cs st _ fun a vs S1 H1 s1 ha dq => by
  have hl : vs.length = xs.length := by rw [dq.1, List.length_map]
  have hT : ∀ v d, Dq B.K S1 v (.tup d) → ∃ t ws, v = .ref t ∧ S1 t = some (.tup ws) ∧ DqAll B.K S1 ws d := fun v d hv => by
    obtain ⟨t, ws, e, h1, h2⟩ := hv.inv
    exact ⟨t, ws, e, h1.tup, h2⟩
  have hi : ∀ (i : Nat) (v : V), vs[i]? = some v → ∃ x, xs[i]? = some x ∧ Dq B.K S1 v (.tup [.int (f x), g1 x, g2 x]) := fun i v hv => by
    have hi : i < xs.length := by rw [← hl]; exact (List.getElem?_eq_some_iff.mp hv).1
    exact ⟨xs[i], List.getElem?_eq_getElem hi, dq.2 i v _ hv (by rw [List.getElem?_map, List.getElem?_eq_getElem hi]; rfl)⟩
  have hf : ∀ v x, Dq B.K S1 v (.tup [.int (f x), g1 x, g2 x]) → fstI H1 v = f x ∧ ∃ t u w, v = .ref t ∧ H1 t = some (.tup [.int (f x), u, w]) := fun v x hv => by
    obtain ⟨t, ws, rfl, h1, h2⟩ := hT v _ hv
    obtain ⟨y1, r1, rfl, q1, h2⟩ := h2.cons_inv
    obtain ⟨y2, r2, rfl, q2, h2⟩ := h2.cons_inv
    obtain ⟨y3, r3, rfl, q3, h2⟩ := h2.cons_inv
    cases h2.nil_inv
    cases q1
    have h3 := s1.sh _ _ h1
    exact ⟨by simp only [fstI, h3], t, y2, y3, rfl, h3⟩
  have hm : ∀ v ∈ vs, ∃ x ∈ xs, Dq B.K S1 v (.tup [.int (f x), g1 x, g2 x]) := fun v hv => by
    obtain ⟨i, hi1⟩ := List.mem_iff_getElem?.mp hv
    obtain ⟨x, hx, dx⟩ := hi i v hi1
    exact ⟨x, List.mem_of_getElem? hx, dx⟩
  obtain ⟨hb, hhb⟩ : ∃ hb : V → α, ∀ v ∈ vs, hb v ∈ xs ∧ Dq B.K S1 v (.tup [.int (f (hb v)), g1 (hb v), g2 (hb v)]) :=
    ⟨fun v => if hv : ∃ x ∈ xs, Dq B.K S1 v (.tup [.int (f x), g1 x, g2 x]) then hv.choose else x0, fun v hv => by
      have z := hm v hv
      simp only [dif_pos z]
      exact z.choose_spec⟩
  have hvx : vs.map hb = xs := by
    apply List.ext_getElem?
    intro i
    rw [List.getElem?_map]
    cases e : vs[i]? with
    | none =>
      rw [List.getElem?_eq_none (by rw [← hl]; exact List.getElem?_eq_none_iff.mp e)]
      rfl
    | some v =>
      obtain ⟨x, hx, dx⟩ := hi i v e
      rw [hx]
      obtain ⟨z1, z2⟩ := hhb v (List.mem_of_getElem? e)
      exact congrArg some (nodup_inj nd _ z1 _ (List.mem_of_getElem? hx) ((hf _ _ z2).1.symm.trans (hf _ _ dx).1))
  have hndv : ∀ x ∈ vs, ∀ y ∈ vs, fstI H1 x = fstI H1 y → x = y := fun x hx y hy e => by
    obtain ⟨i, h1⟩ := List.mem_iff_getElem?.mp hx
    obtain ⟨j, h2⟩ := List.mem_iff_getElem?.mp hy
    obtain ⟨x1, g1', d1⟩ := hi i x h1
    obtain ⟨x2, g2', d2⟩ := hi j y h2
    have e2 : f x1 = f x2 := (hf _ _ d1).1.symm.trans (e.trans (hf _ _ d2).1)
    have hij : i = j := by
      have n1 : (xs.map f)[i]? = some (f x1) := by rw [List.getElem?_map, g1']; rfl
      have n2 : (xs.map f)[j]? = some (f x1) := by rw [List.getElem?_map, g2', e2]; rfl
      exact (List.getElem?_inj (by have := (List.getElem?_eq_some_iff.mp n1).1; exact this) nd).mp (n1.trans n2.symm)
    rw [hij, h2] at h1
    exact (Option.some.inj h1).symm
  refine ⟨a, vs, fstI H1, rfl, SqL.of ha.lst, fun v hv => ?_, hndv, fun ys p hs hp hfree => ?_⟩
  · obtain ⟨x, hx, dx⟩ := hm v hv
    obtain ⟨e, t, u, w, e1, e2⟩ := hf v x dx
    exact ⟨t, u, w, e1, by rw [e]; exact e2⟩
  · have hym : ∀ y ∈ ys, y ∈ vs := fun y hy => hp.mem_iff.mp hy
    have e : ys.map hb = sortF f xs := by
      refine sortF_uniq nd (by rw [← hvx]; exact hp.map hb) ?_
      rw [List.pairwise_map]
      have hs2 : ys.Pairwise fun x y => decide (fstI H1 y < fstI H1 x) = false := hs
      refine hs2.imp_of_mem fun {x y} hx hy hxy => ?_
      have := (hf _ _ (hhb x (hym x hx)).2).1
      have := (hf _ _ (hhb y (hym y hy)).2).1
      have := of_decide_eq_false hxy
      omega
    have dy : DqAll B.K S1 ys ((sortF f xs).map fun x => .tup [.int (f x), g1 x, g2 x]) := by
      rw [← e, List.map_map]
      refine ⟨by rw [List.length_map], fun i v d h1 h2 => ?_⟩
      rw [List.getElem?_map, h1] at h2
      cases h2
      exact (hhb v (hym v (List.mem_of_getElem? h1))).2
    obtain ⟨s4, f4⟩ := fr_new (K := B.K) (k := .lst) (vs := ys) (.inl rfl) hfree s1.sh dy True.intro
    exact q _ [p] _ _ (s1.trans s4) (f4.prior s1.h)
/-! ## pairs walked -/
theorem q_for2 {α : Type} {f g : α → Da} {xs : List α} {wi : TI} (hj : Ej B wi ρ (xs.map fun x => .tup [f x, g x])) (P : Nat → Rho → Prop) (h0 : P 0 ρ)
    (hs : ∀ S1, Lb B S1 → ∀ k x ρ', xs[k]? = some x → P k ρ' → Gd ⟨B.K, S1, B.E0⟩ bd { D with nx := Nx ⟨B.K, S1, B.E0⟩ (P (k + 1)), ct := Nx ⟨B.K, S1, B.E0⟩ (P (k + 1)), bk := s D } ((ρ'.set i (some (.sh (f x)))).set j (some (.sh (g x)))))
    (hd : ∀ ρ', P xs.length ρ' → Gd B s D ρ') : Gd B (tSeq (tFor wi (gTup B.K 2 (gCons (gName i) (gCons (gName j) gNil))) bd) s) D ρ := q_for hj P h0 (fun S1 l k d ρ' h1 h2 => by
    rw [List.getElem?_map] at h1
    obtain ⟨x, hx, rfl⟩ := Option.map_eq_some_iff.mp h1
    exact ⟨_, gt_tup (gts_cons gt_name (gts_cons gt_name gts_nil)) rfl, hs S1 l k x ρ' hx h2⟩) fun ρ' p => hd ρ' (by rw [List.length_map] at p; exact p)
end
end Ly

namespace Ly
open PySem L2 Lo
def topS (i : Nat) : Stmt := PySem.Challenge.pw_lodge_k72_fewest_changes.main.body.getD i (.Pass ⟨0, 0, 0, 0⟩)
abbrev s__wall : Stmt := topS 0
theorem sc__wall : FnScope ["k"] ["k"] (defScope s__wall) := ⟨rfl, rfl, rfl, by decide +kernel, rfl, by decide +kernel, by decide +kernel⟩
abbrev s_NoKey_init : Stmt := inClass (topS 3) 0
theorem sc_NoKey_init : FnScope ["self", "at"] ["self", "at"] (defScope s_NoKey_init) := ⟨rfl, rfl, rfl, by decide +kernel, rfl, by decide +kernel, by decide +kernel⟩
abbrev s_NoValue_init : Stmt := inClass (topS 4) 0
theorem sc_NoValue_init : FnScope ["self", "at"] ["self", "at"] (defScope s_NoValue_init) := ⟨rfl, rfl, rfl, by decide +kernel, rfl, by decide +kernel, by decide +kernel⟩
abbrev s_summed : Stmt := topS 8
theorem sc_summed : FnScope ["table", "places", "modulus", "total", "place"] ["table", "places", "modulus"] (defScope s_summed) := ⟨rfl, rfl, rfl, by decide +kernel, rfl, by decide +kernel, by decide +kernel⟩
abbrev s_is_key : Stmt := topS 14
theorem sc_is_key : FnScope ["thing", "sign"] ["thing"] (defScope s_is_key) := ⟨rfl, rfl, rfl, by decide +kernel, rfl, by decide +kernel, by decide +kernel⟩
abbrev s_stamp : Stmt := topS 15
theorem sc_stamp : FnScope ["key", "worth", "sign"] ["key"] (defScope s_stamp) := ⟨rfl, rfl, rfl, by decide +kernel, rfl, by decide +kernel, by decide +kernel⟩
abbrev s_mixed : Stmt := topS 16
theorem sc_mixed : FnScope ["number", "salt", "size", "factor", "added", "first"] ["number", "salt", "size"] (defScope s_mixed) := ⟨rfl, rfl, rfl, by decide +kernel, rfl, by decide +kernel, by decide +kernel⟩
abbrev s_Living_init : Stmt := inClass (topS 18) 0
theorem sc_Living_init : FnScope ["self", "part", "salt", "modulus", "place"] ["self", "part", "salt", "modulus"] (defScope s_Living_init) := ⟨rfl, rfl, rfl, by decide +kernel, rfl, by decide +kernel, by decide +kernel⟩
abbrev s_Living_places : Stmt := inClass (topS 18) 1
theorem sc_Living_places : FnScope ["self", "key", "number", "first"] ["self", "key"] (defScope s_Living_places) := ⟨rfl, rfl, rfl, by decide +kernel, rfl, by decide +kernel, by decide +kernel⟩
abbrev s_Living_table : Stmt := inClass (topS 18) 2
theorem sc_Living_table : FnScope ["self"] ["self"] (defScope s_Living_table) := ⟨rfl, rfl, rfl, by decide +kernel, rfl, by decide +kernel, by decide +kernel⟩
abbrev s_Living_kept : Stmt := inClass (topS 18) 3
theorem sc_Living_kept : FnScope ["self", "number"] ["self"] (defScope s_Living_kept) := ⟨rfl, rfl, rfl, by decide +kernel, rfl, by decide +kernel, by decide +kernel⟩
abbrev s_Living_value : Stmt := inClass (topS 18) 4
theorem sc_Living_value : FnScope ["self", "key"] ["self", "key"] (defScope s_Living_value) := ⟨rfl, rfl, rfl, by decide +kernel, rfl, by decide +kernel, by decide +kernel⟩
abbrev s_Living_reached_from : Stmt := inClass (topS 18) 5
theorem sc_Living_reached_from : FnScope ["self", "start", "without", "found", "todo", "number", "ties", "here", "both", "there", "pair"] ["self", "start", "without"] (defScope s_Living_reached_from) := ⟨rfl, rfl, rfl, by decide +kernel, rfl, by decide +kernel, by decide +kernel⟩
abbrev s_Living_ring : Stmt := inClass (topS 18) 6
theorem sc_Living_ring : FnScope ["self", "key"] ["self", "key"] (defScope s_Living_ring) := ⟨rfl, rfl, rfl, by decide +kernel, rfl, by decide +kernel, by decide +kernel⟩
abbrev s_Living_shift : Stmt := inClass (topS 18) 7
theorem sc_Living_shift : FnScope ["self", "reached", "start", "step", "place"] ["self", "reached", "start", "step"] (defScope s_Living_shift) := ⟨rfl, rfl, rfl, by decide +kernel, rfl, by decide +kernel, by decide +kernel⟩
abbrev s_Living_put : Stmt := inClass (topS 18) 8
theorem sc_Living_put : FnScope ["self", "key", "value", "first", "second", "number", "step", "changed", "ones", "others"] ["self", "key", "value"] (defScope s_Living_put) := ⟨rfl, rfl, rfl, by decide +kernel, rfl, by decide +kernel, by decide +kernel⟩
abbrev s_Living_drop : Stmt := inClass (topS 18) 9
theorem sc_Living_drop : FnScope ["self", "key", "number"] ["self", "key"] (defScope s_Living_drop) := ⟨rfl, rfl, rfl, by decide +kernel, rfl, by decide +kernel, by decide +kernel⟩
abbrev s_l_mix : Stmt := topS 20
theorem sc_l_mix : FnScope ["_law_cell_here", "_law_k", "_law_first"] ["_law_cell_here", "_law_k"] (defScope s_l_mix) := ⟨rfl, rfl, rfl, by decide +kernel, rfl, by decide +kernel, by decide +kernel⟩
abbrev s_l_cell : Stmt := topS 21
theorem sc_l_cell : FnScope ["_law_script", "_law_k", "_law_cell_here"] ["_law_script", "_law_k"] (defScope s_l_cell) := ⟨rfl, rfl, rfl, by decide +kernel, rfl, by decide +kernel, by decide +kernel⟩
abbrev s_l_stamp : Stmt := topS 22
theorem sc_l_stamp : FnScope ["_law_key_here", "_law_worth", "_law_sign"] ["_law_key_here"] (defScope s_l_stamp) := ⟨rfl, rfl, rfl, by decide +kernel, rfl, by decide +kernel, by decide +kernel⟩
abbrev s_l_mixed : Stmt := topS 23
theorem sc_l_mixed : FnScope ["_law_number", "_law_salt", "_law_size", "_law_prime", "_law_factor", "_law_first"] ["_law_number", "_law_salt", "_law_size"] (defScope s_l_mixed) := ⟨rfl, rfl, rfl, by decide +kernel, rfl, by decide +kernel, by decide +kernel⟩
abbrev s_l_places : Stmt := topS 24
theorem sc_l_places : FnScope ["_law_key_here", "_law_sizes_here", "_law_part", "_law_salt", "_law_modulus", "_law_number"] ["_law_key_here", "_law_sizes_here"] (defScope s_l_places) := ⟨rfl, rfl, rfl, by decide +kernel, rfl, by decide +kernel, by decide +kernel⟩
abbrev s_l_text : Stmt := topS 25
theorem sc_l_text : FnScope ["_law_cell_here", "_law_found", "_law_rest", "_law_k"] ["_law_cell_here"] (defScope s_l_text) := ⟨rfl, rfl, rfl, by decide +kernel, rfl, by decide +kernel, by decide +kernel⟩
abbrev s_l_key : Stmt := topS 26
theorem sc_l_key : FnScope ["_law_cell_here", "_law_rest"] ["_law_cell_here"] (defScope s_l_key) := ⟨rfl, rfl, rfl, by decide +kernel, rfl, by decide +kernel, by decide +kernel⟩
abbrev s_l_raw : Stmt := topS 27
theorem sc_l_raw : FnScope ["_law_script", "_law_k", "_law_cell_here"] ["_law_script", "_law_k"] (defScope s_l_raw) := ⟨rfl, rfl, rfl, by decide +kernel, rfl, by decide +kernel, by decide +kernel⟩
abbrev s_l_sizes : Stmt := topS 28
theorem sc_l_sizes : FnScope ["_law_script", "_law_most", "_law_cell_here", "_law_part", "_law_salt", "_law_other", "_law_modulus"] ["_law_script", "_law_most"] (defScope s_l_sizes) := ⟨rfl, rfl, rfl, by decide +kernel, rfl, by decide +kernel, by decide +kernel⟩
abbrev s_l_many : Stmt := topS 29
theorem sc_l_many : FnScope ["_law_script", "_law_start", "_law_most", "_law_cells"] ["_law_script", "_law_start", "_law_most"] (defScope s_l_many) := ⟨rfl, rfl, rfl, by decide +kernel, rfl, by decide +kernel, by decide +kernel⟩
abbrev s_l_deed : Stmt := topS 30
theorem sc_l_deed : FnScope ["_law_script", "_law_start", "_law_k", "_law_kept", "_law_sizes_here", "_law_cell_here", "_law_way", "_law_rest", "_law_value", "_law_key_here"] ["_law_script", "_law_start", "_law_k", "_law_kept", "_law_sizes_here"] (defScope s_l_deed) := ⟨rfl, rfl, rfl, by decide +kernel, rfl, by decide +kernel, by decide +kernel⟩
abbrev s_l_put : Stmt := topS 31
theorem sc_l_put : FnScope ["_law_living", "_law_key_here", "_law_value", "_law_found"] ["_law_living", "_law_key_here", "_law_value"] (defScope s_l_put) := ⟨rfl, rfl, rfl, by decide +kernel, rfl, by decide +kernel, by decide +kernel⟩
abbrev s_l_all_tables : Stmt := topS 32
theorem sc_l_all_tables : FnScope ["_law_places_here", "_law_modulus", "_law_found", "_law_k", "_law_more", "_law_table", "_law_number"] ["_law_places_here", "_law_modulus"] (defScope s_l_all_tables) := ⟨rfl, rfl, rfl, by decide +kernel, rfl, by decide +kernel, by decide +kernel⟩
abbrev s_l_apart : Stmt := topS 33
theorem sc_l_apart : FnScope ["_law_one", "_law_other", "_law_k", "_law_number"] ["_law_one", "_law_other"] (defScope s_l_apart) := ⟨rfl, rfl, rfl, by decide +kernel, rfl, by decide +kernel, by decide +kernel⟩
abbrev s_l_tells_all : Stmt := topS 34
theorem sc_l_tells_all : FnScope ["_law_table", "_law_wanted", "_law_modulus", "_law_first", "_law_second", "_law_value"] ["_law_table", "_law_wanted", "_law_modulus"] (defScope s_l_tells_all) := ⟨rfl, rfl, rfl, by decide +kernel, rfl, by decide +kernel, by decide +kernel⟩
abbrev s_l_fewest : Stmt := topS 35
theorem sc_l_fewest : FnScope ["_law_tables", "_law_before", "_law_kept", "_law_sizes_here", "_law_wanted", "_law_found", "_law_key_here", "_law_value", "_law_table"] ["_law_tables", "_law_before", "_law_kept", "_law_sizes_here"] (defScope s_l_fewest) := ⟨rfl, rfl, rfl, by decide +kernel, rfl, by decide +kernel, by decide +kernel⟩
abbrev s_l_put_right : Stmt := topS 36
theorem sc_l_put_right : FnScope ["_law_living", "_law_kept", "_law_sizes_here", "_law_tables", "_law_key_here", "_law_value", "_law_before", "_law_held", "_law_after", "_law_due", "_law_found", "_law_wanted", "_law_one", "_law_number"] ["_law_living", "_law_kept", "_law_sizes_here", "_law_tables", "_law_key_here", "_law_value"] (defScope s_l_put_right) := ⟨rfl, rfl, rfl, by decide +kernel, rfl, by decide +kernel, by decide +kernel⟩
abbrev s_law : Stmt := topS 37
theorem sc_law : FnScope ["_law_script", "_law_cell_here", "_law_part", "_law_modulus", "_law_sizes_here", "_law_tables", "_law_living", "_law_kept", "_law_k", "_law_deed_here", "_law_key_here", "_law_value", "_law_before"] ["_law_script"] (defScope s_law) := ⟨rfl, rfl, rfl, by decide +kernel, rfl, by decide +kernel, by decide +kernel⟩
structure Txt (K : PySem.W.Frag) (mg : Str → Option Value) where
  d__wall : Dfn K "_wall" "_wall" s__wall ["k"]
  g__wall : mg "_wall" = some (.ref d__wall.f)
  d_NoKey_init : Dfn K "__init__" "NoKey.__init__" s_NoKey_init ["self", "at"]
  d_NoValue_init : Dfn K "__init__" "NoValue.__init__" s_NoValue_init ["self", "at"]
  d_summed : Dfn K "summed" "summed" s_summed ["table", "places", "modulus"]
  g_summed : mg "summed" = some (.ref d_summed.f)
  d_is_key : Dfn K "is_key" "is_key" s_is_key ["thing"]
  g_is_key : mg "is_key" = some (.ref d_is_key.f)
  d_stamp : Dfn K "stamp" "stamp" s_stamp ["key"]
  g_stamp : mg "stamp" = some (.ref d_stamp.f)
  d_mixed : Dfn K "mixed" "mixed" s_mixed ["number", "salt", "size"]
  g_mixed : mg "mixed" = some (.ref d_mixed.f)
  d_Living_init : Dfn K "__init__" "Living.__init__" s_Living_init ["self", "part", "salt", "modulus"]
  d_Living_places : Dfn K "places" "Living.places" s_Living_places ["self", "key"]
  d_Living_table : Dfn K "table" "Living.table" s_Living_table ["self"]
  d_Living_kept : Dfn K "kept" "Living.kept" s_Living_kept ["self"]
  d_Living_value : Dfn K "value" "Living.value" s_Living_value ["self", "key"]
  d_Living_reached_from : Dfn K "reached_from" "Living.reached_from" s_Living_reached_from ["self", "start", "without"]
  d_Living_shift : Dfn K "shift" "Living.shift" s_Living_shift ["self", "reached", "start", "step"]
  d_Living_put : Dfn K "put" "Living.put" s_Living_put ["self", "key", "value"]
  d_Living_drop : Dfn K "drop" "Living.drop" s_Living_drop ["self", "key"]
  d_l_mix : Dfn K "_law_mix" "_law_mix" s_l_mix ["_law_cell_here", "_law_k"]
  g_l_mix : mg "_law_mix" = some (.ref d_l_mix.f)
  d_l_cell : Dfn K "_law_cell" "_law_cell" s_l_cell ["_law_script", "_law_k"]
  g_l_cell : mg "_law_cell" = some (.ref d_l_cell.f)
  d_l_stamp : Dfn K "_law_stamp" "_law_stamp" s_l_stamp ["_law_key_here"]
  g_l_stamp : mg "_law_stamp" = some (.ref d_l_stamp.f)
  d_l_mixed : Dfn K "_law_mixed" "_law_mixed" s_l_mixed ["_law_number", "_law_salt", "_law_size"]
  g_l_mixed : mg "_law_mixed" = some (.ref d_l_mixed.f)
  d_l_places : Dfn K "_law_places" "_law_places" s_l_places ["_law_key_here", "_law_sizes_here"]
  g_l_places : mg "_law_places" = some (.ref d_l_places.f)
  d_l_text : Dfn K "_law_text" "_law_text" s_l_text ["_law_cell_here"]
  g_l_text : mg "_law_text" = some (.ref d_l_text.f)
  d_l_key : Dfn K "_law_key" "_law_key" s_l_key ["_law_cell_here"]
  g_l_key : mg "_law_key" = some (.ref d_l_key.f)
  d_l_raw : Dfn K "_law_raw" "_law_raw" s_l_raw ["_law_script", "_law_k"]
  g_l_raw : mg "_law_raw" = some (.ref d_l_raw.f)
  d_l_sizes : Dfn K "_law_sizes" "_law_sizes" s_l_sizes ["_law_script", "_law_most"]
  g_l_sizes : mg "_law_sizes" = some (.ref d_l_sizes.f)
  d_l_many : Dfn K "_law_many" "_law_many" s_l_many ["_law_script", "_law_start", "_law_most"]
  g_l_many : mg "_law_many" = some (.ref d_l_many.f)
  d_l_deed : Dfn K "_law_deed" "_law_deed" s_l_deed ["_law_script", "_law_start", "_law_k", "_law_kept", "_law_sizes_here"]
  g_l_deed : mg "_law_deed" = some (.ref d_l_deed.f)
  d_l_put : Dfn K "_law_put" "_law_put" s_l_put ["_law_living", "_law_key_here", "_law_value"]
  g_l_put : mg "_law_put" = some (.ref d_l_put.f)
  d_l_all_tables : Dfn K "_law_all_tables" "_law_all_tables" s_l_all_tables ["_law_places_here", "_law_modulus"]
  g_l_all_tables : mg "_law_all_tables" = some (.ref d_l_all_tables.f)
  d_l_apart : Dfn K "_law_apart" "_law_apart" s_l_apart ["_law_one", "_law_other"]
  g_l_apart : mg "_law_apart" = some (.ref d_l_apart.f)
  d_l_tells_all : Dfn K "_law_tells_all" "_law_tells_all" s_l_tells_all ["_law_table", "_law_wanted", "_law_modulus"]
  g_l_tells_all : mg "_law_tells_all" = some (.ref d_l_tells_all.f)
  d_l_fewest : Dfn K "_law_fewest" "_law_fewest" s_l_fewest ["_law_tables", "_law_before", "_law_kept", "_law_sizes_here"]
  g_l_fewest : mg "_law_fewest" = some (.ref d_l_fewest.f)
  d_l_put_right : Dfn K "_law_put_right" "_law_put_right" s_l_put_right ["_law_living", "_law_kept", "_law_sizes_here", "_law_tables", "_law_key_here", "_law_value"]
  g_l_put_right : mg "_law_put_right" = some (.ref d_l_put_right.f)
  d_law : Dfn K "law" "law" s_law ["_law_script"]
  g_law : mg "law" = some (.ref d_law.f)
  z_ValueError : mg "ValueError" = none
  z_bool : mg "bool" = none
  z_dict : mg "dict" = none
  z_enumerate : mg "enumerate" = none
  z_int : mg "int" = none
  z_isinstance : mg "isinstance" = none
  z_len : mg "len" = none
  z_list : mg "list" = none
  z_max : mg "max" = none
  z_min : mg "min" = none
  z_range : mg "range" = none
  z_sorted : mg "sorted" = none
  c_LodgeError : mg "LodgeError" = some (.ref (He.ga K "LodgeError"))
  xc_LodgeError : ExcC K (He.ga K "LodgeError")
  xf_LodgeError : XfC K (He.ga K "LodgeError")
  xi_LodgeError : PySem.W.excIn K (He.ga K "LodgeError") He.veBase "ValueError.__new__" = true
  kp_LodgeError : PySem.W.keepIn K (.ref (He.ga K "LodgeError")) = true
  bs_LodgeError : PySem.W.subIn K (.ref (He.ga K "LodgeError")) (.type "BaseException") = some true
  ty_LodgeError : PySem.W.typeIn K (.ref (He.ga K "LodgeError")) = some (.type "type")
  c_NoKey : mg "NoKey" = some (.ref (He.ga K "NoKey"))
  xc_NoKey : ExcC K (He.ga K "NoKey")
  xf_NoKey : XfC K (He.ga K "NoKey")
  ox_NoKey : OexC K (He.ga K "NoKey")
  i_NoKey : PySem.W.findIn K (.ref (He.ga K "NoKey")) "__init__" = some (some (.ref d_NoKey_init.f))
  it_NoKey : PySem.W.typeIn K (.ref d_NoKey_init.f) = some (.type "function")
  na_NoKey : PySem.W.findIn K (.ref (He.ga K "NoKey")) "at" = some none
  c_NoValue : mg "NoValue" = some (.ref (He.ga K "NoValue"))
  xc_NoValue : ExcC K (He.ga K "NoValue")
  xf_NoValue : XfC K (He.ga K "NoValue")
  ox_NoValue : OexC K (He.ga K "NoValue")
  i_NoValue : PySem.W.findIn K (.ref (He.ga K "NoValue")) "__init__" = some (some (.ref d_NoValue_init.f))
  it_NoValue : PySem.W.typeIn K (.ref d_NoValue_init.f) = some (.type "function")
  na_NoValue : PySem.W.findIn K (.ref (He.ga K "NoValue")) "at" = some none
  c_Stuck : mg "Stuck" = some (.ref (He.ga K "Stuck"))
  xc_Stuck : ExcC K (He.ga K "Stuck")
  xf_Stuck : XfC K (He.ga K "Stuck")
  xi_Stuck : PySem.W.excIn K (He.ga K "Stuck") He.veBase "ValueError.__new__" = true
  kp_Stuck : PySem.W.keepIn K (.ref (He.ga K "Stuck")) = true
  bs_Stuck : PySem.W.subIn K (.ref (He.ga K "Stuck")) (.type "BaseException") = some true
  ty_Stuck : PySem.W.typeIn K (.ref (He.ga K "Stuck")) = some (.type "type")
  c_NoSuch : mg "NoSuch" = some (.ref (He.ga K "NoSuch"))
  xc_NoSuch : ExcC K (He.ga K "NoSuch")
  xf_NoSuch : XfC K (He.ga K "NoSuch")
  xi_NoSuch : PySem.W.excIn K (He.ga K "NoSuch") He.veBase "ValueError.__new__" = true
  kp_NoSuch : PySem.W.keepIn K (.ref (He.ga K "NoSuch")) = true
  bs_NoSuch : PySem.W.subIn K (.ref (He.ga K "NoSuch")) (.type "BaseException") = some true
  ty_NoSuch : PySem.W.typeIn K (.ref (He.ga K "NoSuch")) = some (.type "type")
  em_Stuck_Stuck : PySem.W.exmOne K (.ref (He.ga K "Stuck")) (.ref (He.ga K "Stuck")) = some true
  c_Living : mg "Living" = some (.ref (He.ga K "Living"))
  cl_Living : Cls K (He.ga K "Living")
  me_Living_drop : Meth K (He.ga K "Living") "drop" d_Living_drop.f
  me_Living_kept : Meth K (He.ga K "Living") "kept" d_Living_kept.f
  me_Living_places : Meth K (He.ga K "Living") "places" d_Living_places.f
  me_Living_put : Meth K (He.ga K "Living") "put" d_Living_put.f
  me_Living_reached_from : Meth K (He.ga K "Living") "reached_from" d_Living_reached_from.f
  me_Living_shift : Meth K (He.ga K "Living") "shift" d_Living_shift.f
  me_Living_table : Meth K (He.ga K "Living") "table" d_Living_table.f
  me_Living_value : Meth K (He.ga K "Living") "value" d_Living_value.f
  mk_Living : Mk K (He.ga K "Living") d_Living_init.f
  nt_Living_cells : NoAttr K (He.ga K "Living") "cells"
  nt_Living_lodgers : NoAttr K (He.ga K "Living") "lodgers"
  nt_Living_modulus : NoAttr K (He.ga K "Living") "modulus"
  nt_Living_part : NoAttr K (He.ga K "Living") "part"
  nt_Living_salting : NoAttr K (He.ga K "Living") "salting"
  t_PRIME : Tok
  k_PRIME : mg "PRIME" = some (.int 2305843009213693951 t_PRIME)
  t_SIGNS : Tok
  k_SIGNS : mg "SIGNS" = some (.str "abcdefghijklmnopqrstuvwxyz0123456789-_ " t_SIGNS)
  t_MOST_NUMBER : Tok
  k_MOST_NUMBER : mg "MOST_NUMBER" = some (.int 999999999999999999 t_MOST_NUMBER)
  t_MOST_SIGNS : Tok
  k_MOST_SIGNS : mg "MOST_SIGNS" = some (.int 11 t_MOST_SIGNS)
theorem ok_NoKey_init {P : Program} {w : World} {K : PySem.W.Frag} {mg : Str → Option Value} {base : Heap} (T : Txt K mg) : FnOk P w K mg base (L2.CX P w) 1 T.d_NoKey_init.f T.d_NoKey_init.fd ["self", "at"] (SpO K (He.ga K "NoKey")) :=
  T.d_NoKey_init.F.ok sc_NoKey_init (fun vs H Q E h => spO_len h) fun cdv A outer s H vs Q E hr h => ⟨_, pss_one (ps_ost (pv 0) (pv 1)), initO rfl h T.ox_NoKey T.na_NoKey⟩
theorem ok_NoValue_init {P : Program} {w : World} {K : PySem.W.Frag} {mg : Str → Option Value} {base : Heap} (T : Txt K mg) : FnOk P w K mg base (L2.CX P w) 1 T.d_NoValue_init.f T.d_NoValue_init.fd ["self", "at"] (SpO K (He.ga K "NoValue")) :=
  T.d_NoValue_init.F.ok sc_NoValue_init (fun vs H Q E h => spO_len h) fun cdv A outer s H vs Q E hr h => ⟨_, pss_one (ps_ost (pv 0) (pv 1)), initO rfl h T.ox_NoValue T.na_NoValue⟩
def dd__wall : He.DefD := ⟨("_wall", none), "_wall", "_wall", defArgs s__wall, defBody s__wall, defScope s__wall, [], []⟩
def dd_NoKey_init : He.DefD := ⟨("NoKey", some "__init__"), "__init__", "NoKey.__init__", defArgs s_NoKey_init, defBody s_NoKey_init, defScope s_NoKey_init, [], []⟩
def dd_NoValue_init : He.DefD := ⟨("NoValue", some "__init__"), "__init__", "NoValue.__init__", defArgs s_NoValue_init, defBody s_NoValue_init, defScope s_NoValue_init, [], []⟩
def dd_summed : He.DefD := ⟨("summed", none), "summed", "summed", defArgs s_summed, defBody s_summed, defScope s_summed, [], []⟩
def dd_is_key : He.DefD := ⟨("is_key", none), "is_key", "is_key", defArgs s_is_key, defBody s_is_key, defScope s_is_key, [], []⟩
def dd_stamp : He.DefD := ⟨("stamp", none), "stamp", "stamp", defArgs s_stamp, defBody s_stamp, defScope s_stamp, [], []⟩
def dd_mixed : He.DefD := ⟨("mixed", none), "mixed", "mixed", defArgs s_mixed, defBody s_mixed, defScope s_mixed, [], []⟩
def dd_Living_init : He.DefD := ⟨("Living", some "__init__"), "__init__", "Living.__init__", defArgs s_Living_init, defBody s_Living_init, defScope s_Living_init, [], []⟩
def dd_Living_places : He.DefD := ⟨("Living", some "places"), "places", "Living.places", defArgs s_Living_places, defBody s_Living_places, defScope s_Living_places, [], []⟩
def dd_Living_table : He.DefD := ⟨("Living", some "table"), "table", "Living.table", defArgs s_Living_table, defBody s_Living_table, defScope s_Living_table, [], []⟩
def dd_Living_kept : He.DefD := ⟨("Living", some "kept"), "kept", "Living.kept", defArgs s_Living_kept, defBody s_Living_kept, defScope s_Living_kept, [], []⟩
def dd_Living_value : He.DefD := ⟨("Living", some "value"), "value", "Living.value", defArgs s_Living_value, defBody s_Living_value, defScope s_Living_value, [], []⟩
def dd_Living_reached_from : He.DefD := ⟨("Living", some "reached_from"), "reached_from", "Living.reached_from", defArgs s_Living_reached_from, defBody s_Living_reached_from, defScope s_Living_reached_from, [], []⟩
def dd_Living_shift : He.DefD := ⟨("Living", some "shift"), "shift", "Living.shift", defArgs s_Living_shift, defBody s_Living_shift, defScope s_Living_shift, [], []⟩
def dd_Living_put : He.DefD := ⟨("Living", some "put"), "put", "Living.put", defArgs s_Living_put, defBody s_Living_put, defScope s_Living_put, [], []⟩
def dd_Living_drop : He.DefD := ⟨("Living", some "drop"), "drop", "Living.drop", defArgs s_Living_drop, defBody s_Living_drop, defScope s_Living_drop, [], []⟩
def dd_l_mix : He.DefD := ⟨("_law_mix", none), "_law_mix", "_law_mix", defArgs s_l_mix, defBody s_l_mix, defScope s_l_mix, [], []⟩
def dd_l_cell : He.DefD := ⟨("_law_cell", none), "_law_cell", "_law_cell", defArgs s_l_cell, defBody s_l_cell, defScope s_l_cell, [], []⟩
def dd_l_stamp : He.DefD := ⟨("_law_stamp", none), "_law_stamp", "_law_stamp", defArgs s_l_stamp, defBody s_l_stamp, defScope s_l_stamp, [], []⟩
def dd_l_mixed : He.DefD := ⟨("_law_mixed", none), "_law_mixed", "_law_mixed", defArgs s_l_mixed, defBody s_l_mixed, defScope s_l_mixed, [], []⟩
def dd_l_places : He.DefD := ⟨("_law_places", none), "_law_places", "_law_places", defArgs s_l_places, defBody s_l_places, defScope s_l_places, [], []⟩
def dd_l_text : He.DefD := ⟨("_law_text", none), "_law_text", "_law_text", defArgs s_l_text, defBody s_l_text, defScope s_l_text, [], []⟩
def dd_l_key : He.DefD := ⟨("_law_key", none), "_law_key", "_law_key", defArgs s_l_key, defBody s_l_key, defScope s_l_key, [], []⟩
def dd_l_raw : He.DefD := ⟨("_law_raw", none), "_law_raw", "_law_raw", defArgs s_l_raw, defBody s_l_raw, defScope s_l_raw, [], []⟩
def dd_l_sizes : He.DefD := ⟨("_law_sizes", none), "_law_sizes", "_law_sizes", defArgs s_l_sizes, defBody s_l_sizes, defScope s_l_sizes, [], []⟩
def dd_l_many : He.DefD := ⟨("_law_many", none), "_law_many", "_law_many", defArgs s_l_many, defBody s_l_many, defScope s_l_many, [], []⟩
def dd_l_deed : He.DefD := ⟨("_law_deed", none), "_law_deed", "_law_deed", defArgs s_l_deed, defBody s_l_deed, defScope s_l_deed, [], []⟩
def dd_l_put : He.DefD := ⟨("_law_put", none), "_law_put", "_law_put", defArgs s_l_put, defBody s_l_put, defScope s_l_put, [], []⟩
def dd_l_all_tables : He.DefD := ⟨("_law_all_tables", none), "_law_all_tables", "_law_all_tables", defArgs s_l_all_tables, defBody s_l_all_tables, defScope s_l_all_tables, [], []⟩
def dd_l_apart : He.DefD := ⟨("_law_apart", none), "_law_apart", "_law_apart", defArgs s_l_apart, defBody s_l_apart, defScope s_l_apart, [], []⟩
def dd_l_tells_all : He.DefD := ⟨("_law_tells_all", none), "_law_tells_all", "_law_tells_all", defArgs s_l_tells_all, defBody s_l_tells_all, defScope s_l_tells_all, [], []⟩
def dd_l_fewest : He.DefD := ⟨("_law_fewest", none), "_law_fewest", "_law_fewest", defArgs s_l_fewest, defBody s_l_fewest, defScope s_l_fewest, [], []⟩
def dd_l_put_right : He.DefD := ⟨("_law_put_right", none), "_law_put_right", "_law_put_right", defArgs s_l_put_right, defBody s_l_put_right, defScope s_l_put_right, [], []⟩
def dd_law : He.DefD := ⟨("law", none), "law", "law", defArgs s_law, defBody s_law, defScope s_law, [], []⟩
def fn0 : List He.DefD := [dd__wall, dd_NoKey_init, dd_NoValue_init, dd_summed, dd_is_key, dd_stamp, dd_mixed, dd_Living_init, dd_Living_places, dd_Living_table, dd_Living_kept, dd_Living_value, dd_Living_reached_from, dd_Living_shift, dd_Living_put, dd_Living_drop, dd_l_mix, dd_l_cell, dd_l_stamp, dd_l_mixed, dd_l_places, dd_l_text, dd_l_key, dd_l_raw, dd_l_sizes, dd_l_many, dd_l_deed, dd_l_put, dd_l_all_tables, dd_l_apart]
def fn1 : List He.DefD := [dd_l_tells_all, dd_l_fewest, dd_l_put_right, dd_law]
def fn : List He.DefD := fn0 ++ (fn1)
def fa0 : List He.Fa := [.glo "_wall", .glo "summed", .glo "is_key", .glo "stamp", .glo "mixed", .glo "_law_mix", .glo "_law_cell", .glo "_law_stamp", .glo "_law_mixed", .glo "_law_places", .glo "_law_text", .glo "_law_key", .glo "_law_raw", .glo "_law_sizes", .glo "_law_many", .glo "_law_deed", .glo "_law_put", .glo "_law_all_tables", .glo "_law_apart", .glo "_law_tells_all", .glo "_law_fewest", .glo "_law_put_right", .glo "law", .free "ValueError", .free "bool", .free "dict", .free "enumerate", .free "int", .free "isinstance", .free "len"]
def fa1 : List He.Fa := [.free "list", .free "max", .free "min", .free "range", .free "sorted", .int "PRIME" 2305843009213693951, .str "SIGNS" "abcdefghijklmnopqrstuvwxyz0123456789-_ ", .int "MOST_NUMBER" 999999999999999999, .int "MOST_SIGNS" 11, .glo "LodgeError", .exc "LodgeError", .glo "NoKey", .noat "NoKey" "at", .meth "NoKey" "__init__", .glo "NoValue", .noat "NoValue" "at", .meth "NoValue" "__init__", .glo "Stuck", .exc "Stuck", .glo "NoSuch", .exc "NoSuch", .exm "Stuck" "Stuck" true, .glo "Living"]
def fa : List He.Fa := fa0 ++ (fa1)
def ls0 : List PySem.Str := ["_wall", "LodgeError", "NoKey", "NoValue", "Stuck", "NoSuch", "summed", "PRIME", "SIGNS", "MOST_NUMBER", "MOST_SIGNS", "is_key", "stamp", "mixed", "Living", "_law_mix", "_law_cell", "_law_stamp", "_law_mixed", "_law_places", "_law_text", "_law_key", "_law_raw", "_law_sizes", "_law_many", "_law_deed", "_law_put", "_law_all_tables", "_law_apart", "_law_tells_all"]
def ls1 : List PySem.Str := ["_law_fewest", "_law_put_right"]
def ls : List PySem.Str := ls0 ++ (ls1)
abbrev R : PySem.W.OpenRow := PySem.W.OpenLaw.row PySem.Challenge.rw_lodge_k72_fewest_changes
def xbL : List (PySem.W.Frag → Bool) := [fun K => excB K (He.ga K "LodgeError"), fun K => excB K (He.ga K "NoKey"), fun K => oexB K (He.ga K "NoKey"), fun K => excB K (He.ga K "NoValue"), fun K => oexB K (He.ga K "NoValue"), fun K => excB K (He.ga K "Stuck"), fun K => excB K (He.ga K "NoSuch"), fun K => (He.Fa.cls "Living").ok K, fun K => methB K "Living" "drop" "Living", fun K => methB K "Living" "kept" "Living", fun K => methB K "Living" "places" "Living", fun K => methB K "Living" "put" "Living", fun K => methB K "Living" "reached_from" "Living", fun K => methB K "Living" "shift" "Living", fun K => methB K "Living" "table" "Living", fun K => methB K "Living" "value" "Living", fun K => mkB K "Living" "Living", fun K => (He.Fa.noat "Living" "cells").ok K, fun K => (He.Fa.noat "Living" "lodgers").ok K, fun K => (He.Fa.noat "Living" "modulus").ok K, fun K => (He.Fa.noat "Living" "part").ok K, fun K => (He.Fa.noat "Living" "salting").ok K]
def xbF : PySem.W.Frag → Bool := fun K => xbL.all fun f => f K
theorem xbat {K : PySem.W.Frag} (h : xbF K = true) (i : Nat) {f : PySem.W.Frag → Bool} (e : xbL[i]? = some f) : f K = true := List.all_eq_true.mp h f (List.mem_of_getElem? e)
abbrev hk : PySem.W.Hook := hookX 4 fa fn xbF
def ob (s : PySem.W.SharedT) : AlX := obsXG 4 fa fn xbF (HandSHeadRun.getT s)
theorem ob_eq (s : PySem.W.SharedT) : ob s = hk.obs s.abs := obsXG_eq (HandSHeadRun.getT_eq s)
theorem run (w : World) : HandSHeadRun.RunEq R (PySem.W.view R.prog [37]) hk ob 17200 ls w := by
  intro os
  kernel_rfl
local macro_rules | `(tactic| walk_at "Y.side") => `(tactic| first | with_reducible assumption | exact (Eq.refl true) | ((with_reducible apply cdiv_of); (· omega); (· omega)) | ((with_reducible apply cmul_l); (· omega); (· omega)) | ((with_reducible apply cmul_r); (· omega); (· omega)) | omega | decide | fail)
local macro_rules | `(tactic| walk_at "Y.kk") => `(tactic| first | exact .inl rfl | exact .inr (.inl rfl) | exact .inr (.inr rfl) | exact .inr rfl | fail)
local macro_rules | `(tactic| walk_at "Y.kd") => `(tactic| first | exact .inl rfl | exact .inr rfl | fail)
local macro_rules | `(tactic| walk_at "Y.eky") => `(tactic| first | walk_at "Y.eb" | ((with_reducible apply eb_kI); (· walk_at "Y.eb")) | fail)
local macro_rules | `(tactic| walk_at "Y.fl") => `(tactic| first | with_reducible exact ol_flat _ _ | with_reducible exact Tr.flat_sh _ | exact ol_flat _ _ | exact Tr.flat_sh _ | rfl | fail)
local macro_rules | `(tactic| walk_at "Y.pl") => `(tactic| first
  | assumption | exact .int | exact .non | exact .bl | exact .str (by decide +kernel)
  | exact pl_map fun _ _ => .int | exact pl_mapT fun _ _ => .int
  | (refine pl_map fun _ _ => ?_; walk_at "Y.pl") | (refine pl_mapT fun _ _ => ?_; walk_at "Y.pl")
  | exact .lst memN | (refine .lst ?_; walk_at "Y.pls") | (refine .tup ?_; walk_at "Y.pls") | fail)
local macro_rules | `(tactic| walk_at "Y.pls") => `(tactic| first | exact memN | (refine memC ?_ ?_; (· walk_at "Y.pl"); (· walk_at "Y.pls")) | fail)
local macro_rules | `(tactic| walk_at "Y.cl") => `(tactic| first
  | assumption | exact .int | exact .non | exact .str
  | exact cl_map fun _ _ => .int | exact cl_mapT fun _ _ => .int
  | (refine cl_map fun _ _ => ?_; walk_at "Y.cl") | (refine cl_mapT fun _ _ => ?_; walk_at "Y.cl")
  | exact .lst memN | (refine .lst ?_; walk_at "Y.cls") | (refine .tup ?_; walk_at "Y.cls") | fail)
local macro_rules | `(tactic| walk_at "Y.cls") => `(tactic| first | exact memN | (refine memC ?_ ?_; (· walk_at "Y.cl"); (· walk_at "Y.cls")) | fail)
local macro_rules | `(tactic| walk_at "Y.op") => `(tactic| first
  | with_reducible exact o_II
  | with_reducible exact o_IB
  | with_reducible exact o_addI
  | with_reducible exact o_eqI
  | with_reducible exact o_neI
  | with_reducible exact o_eqS
  | with_reducible exact o_neS
  | with_reducible exact o_isN
  | with_reducible exact o_notN
  | ((with_reducible apply o_I); (· walk_at "Y.side"))
  | ((with_reducible apply o_mul); (· walk_at "Y.side"))
  | ((with_reducible apply o_mulS); (· first | with_reducible rfl | with_reducible assumption); (· walk_at "Y.side"))
  | ((with_reducible apply o_addS); (· walk_at "Y.side"))
  | ((with_reducible apply o_ixS); (· walk_at "Y.side"); (· walk_at "Y.side"))
  | ((with_reducible apply o_inI); (· walk_at "Y.kk"))
  | ((with_reducible apply o_ninI); (· walk_at "Y.kk"))
  | ((with_reducible apply o_inKI); (· walk_at "Y.kd"))
  | ((with_reducible apply o_ninKI); (· walk_at "Y.kd"))
  | ((with_reducible apply o_inK); (· walk_at "Y.kd"))
  | ((with_reducible apply o_ninK); (· walk_at "Y.kd"))
  | with_reducible exact o_inS
  | with_reducible exact o_ninS
  | ((with_reducible apply o_eqNil); (· walk_at "Y.pl"))
  | ((with_reducible apply o_neNil); (· walk_at "Y.pl"))
  | ((with_reducible apply o_eqD); (· walk_at "Y.pl"); (· walk_at "Y.pl"); (· walk_at "Y.cl"); (· walk_at "Y.cl"))
  | ((with_reducible apply o_neD); (· walk_at "Y.pl"); (· walk_at "Y.pl"); (· walk_at "Y.cl"); (· walk_at "Y.cl"))
  | ((with_reducible apply o_eqG); (· walk_at "Y.pl"); (· walk_at "Y.pl"))
  | ((with_reducible apply o_neG); (· walk_at "Y.pl"); (· walk_at "Y.pl")) | fail)
local macro_rules | `(tactic| walk_at "Y.op1") => `(tactic| with_reducible exact o_U)
local macro_rules | `(tactic| walk_at "Y.opA") => `(tactic| first
  | with_reducible exact o_lenM
  | with_reducible exact o_lenRM
  | with_reducible exact o_lenTM
  | with_reducible exact o_lenL
  | with_reducible exact o_lenT
  | with_reducible exact o_lenD
  | with_reducible exact o_max2
  | with_reducible exact o_min2
  | with_reducible exact o_sum
  | with_reducible exact o_intI
  | with_reducible exact o_intB
  | ((with_reducible apply o_lenS); (· walk_at "Y.side")) | fail)
local macro_rules | `(tactic| walk_at "Y.opM") => `(tactic| first | with_reducible exact o_count | ((with_reducible apply o_join); (· walk_at "Y.side")) | fail)
local macro_rules | `(tactic| walk_at "Y.callX") => `(tactic| fail "no callee's clause")
local macro_rules | `(tactic| walk_at "Y.call") => `(tactic| fail "no callee's clause")
local macro_rules | `(tactic| walk_at "Y.at") => `(tactic| first | assumption | rfl | fail)
local macro_rules | `(tactic| walk_at "Y.eab") => `(tactic| first
  | with_reducible exact eab_nil
  | ((with_reducible apply eab_cons); (· walk_at "Y.eb"); (· walk_at "Y.eab")) | fail)
local macro_rules | `(tactic| walk_at "Y.eas") => `(tactic| first
  | with_reducible exact eas_nil
  | ((with_reducible apply eas_cons); (· walk_at "Y.es"); (· walk_at "Y.eas")) | fail)
local macro_rules | `(tactic| walk_at "Y.ep") => `(tactic| first
  | with_reducible exact ep_none
  | ((with_reducible apply ep_some); (· walk_at "Y.eb")) | fail)
local macro_rules | `(tactic| walk_at "Y.eb") => `(tactic| first
  | with_reducible exact eb_int
  | with_reducible exact eb_str
  | with_reducible exact eb_bl
  | with_reducible exact eb_non
  | ((with_reducible apply eb_bo); (· exact rfl); (· assumption))
  | ((with_reducible apply eb_var); (· exact rfl))
  | ((with_reducible apply eb_ol); (· exact rfl))
  | ((with_reducible apply eb_ix); (· walk_at "Y.eb"); (· walk_at "Y.kk"); (· walk_at "Y.eb"); (· walk_at "Y.at"))
  | ((with_reducible apply eb_op); (· walk_at "Y.eb"); (· walk_at "Y.eb"); (· walk_at "Y.op"))
  | ((with_reducible apply eb_un); (· walk_at "Y.eb"); (· walk_at "Y.op1"))
  | ((with_reducible apply eb_call); (· walk_at "Y.eab"); (· walk_at "Y.call"); (· walk_at "Y.fl"))
  | ((with_reducible apply eb_cb); (· walk_at "Y.eab"); (· walk_at "Y.opA"))
  | ((with_reducible apply eb_is_); (· walk_at "Y.eb"); (· walk_at "Y.is"))
  | ((with_reducible apply eb_fld); (· walk_at "Y.eb"); (· assumption); (· assumption); (· rfl))
  | ((with_reducible apply eb_meth); (· walk_at "Y.eb"); (· decide); (· walk_at "Y.eab"); (· walk_at "Y.call"); (· walk_at "Y.fl"))
  | ((with_reducible apply eb_isX); (· exact rfl); (· walk_at "Y.cv"); (· assumption))
  | ((with_reducible apply eb_isY); (· assumption); (· exact rfl); (· walk_at "Y.cv"); (· assumption))
  | ((with_reducible apply eb_isYT); (· assumption); (· exact rfl); (· walk_at "Y.ecs"))
  | ((with_reducible apply eb_isXT); (· exact rfl); (· walk_at "Y.ecs"))
  | ((with_reducible apply eb_of); (· ((with_reducible apply eo_callX); (· walk_at "Y.eas"); (· walk_at "Y.callX"))); (· walk_at "Y.fl"))
  | ((with_reducible apply eb_of); (· ((with_reducible apply es_xfI); (· exact rfl); (· exact rfl))); (· walk_at "Y.fl"))
  | ((with_reducible apply eb_m1); (· walk_at "Y.eb"); (· walk_at "Y.eb"); (· walk_at "Y.opM"))
  | ((with_reducible apply eb_slS); (· walk_at "Y.eb"); (· walk_at "Y.ep"); (· walk_at "Y.ep"); (· walk_at "Y.side"))
  | ((with_reducible apply eb_bits); (· walk_at "Y.eb"))
  | ((with_reducible apply eb_chain); (· walk_at "Y.eb"); (· walk_at "Y.eb"); (· walk_at "Y.op"); (· (intro hb; walk_at "Y.eb")); (· (intro hb; walk_at "Y.op")))
  | ((with_reducible apply eb_not); (· walk_at "Y.eb"))
  | ((with_reducible apply eb_and); (· walk_at "Y.eb"); (· (intro hb; walk_at "Y.hb"; walk_at "Y.eb")))
  | ((with_reducible apply eb_or); (· walk_at "Y.eb"); (· (intro hb; walk_at "Y.hb"; walk_at "Y.eb")))
  | ((with_reducible apply eb_lst); (· walk_at "Y.eab"); (· (simp only [List.length_cons, List.length_nil]; walk_at "Y.side")))
  | ((with_reducible apply eb_tup); (· walk_at "Y.eab"); (· (simp only [List.length_cons, List.length_nil]; walk_at "Y.side")))
  | ((with_reducible apply eb_of); (· walk_at "Y.en"); (· walk_at "Y.fl")) | fail)
local macro_rules | `(tactic| walk_at "Y.hb") => `(tactic| skip)
local macro_rules | `(tactic| walk_at "Y.cv") => `(tactic| first | exact .own _ | exact .ty _ | fail)
local macro_rules | `(tactic| walk_at "Y.ecs") => `(tactic| first | with_reducible exact ecs_nil | ((with_reducible apply ecs_cons); (· walk_at "Y.cv"); (· assumption); (· walk_at "Y.ecs"); (· (simp only [List.length_cons, List.length_nil]; decide))) | fail)
local macro_rules | `(tactic| walk_at "Y.er") => `(tactic| first
  | ((with_reducible apply er_var); (· exact rfl))
  | ((with_reducible apply er_es); (· walk_at "Y.es"))
  | ((with_reducible apply er_ol); (· walk_at "Y.eo")) | fail)
local macro_rules | `(tactic| walk_at "Y.ej") => `(tactic| first
  | ((with_reducible apply ej_list); (· walk_at "Y.es"); (· walk_at "Y.kk"))
  | ((with_reducible apply ej_tup); (· walk_at "Y.es"))
  | ((with_reducible apply ej_enum); (· walk_at "Y.eas"))
  | ((with_reducible apply ej_zip); (· walk_at "Y.eas"))
  | ((with_reducible apply ej_rev); (· walk_at "Y.eas"))
  | ((with_reducible apply ej_str); (· walk_at "Y.eb"))
  | ((with_reducible apply ej_rng1); (· walk_at "Y.eab"); (· walk_at "Y.side"); (· walk_at "Y.side")) | fail)
local macro_rules | `(tactic| walk_at "Y.en") => `(tactic| first
  | ((with_reducible apply eo_lst); (· walk_at "Y.eas"); (· (simp only [List.length_cons, List.length_nil]; walk_at "Y.side")))
  | ((with_reducible apply eo_tup); (· walk_at "Y.eas"); (· (simp only [List.length_cons, List.length_nil]; walk_at "Y.side")))
  | with_reducible exact eo_dnew
  | ((with_reducible apply eo_lcR); (· walk_at "Y.eab"); (· walk_at "Y.side"); (· walk_at "Y.side"); (· decide); (· (intro i hi; walk_at "Y.es")))
  | ((with_reducible apply eo_lcM); (· walk_at "Y.ej"); (· walk_at "Y.side"); (· decide); (· (intro i hi; walk_at "Y.es")))
  | ((with_reducible apply eo_slL); (· walk_at "Y.er"); (· walk_at "Y.kk"); (· walk_at "Y.ep"); (· walk_at "Y.ep"))
  | ((with_reducible apply eo_cat); (· walk_at "Y.er"); (· walk_at "Y.er"); (· walk_at "Y.side"))
  | ((with_reducible apply eo_rep); (· walk_at "Y.er"); (· walk_at "Y.eb"); (· walk_at "Y.side"); (· walk_at "Y.side"); (· (simp only [List.length_cons, List.length_nil]; walk_at "Y.side")))
  | ((with_reducible apply eo_copy); (· walk_at "Y.er"); (· walk_at "Y.kk"))
  | ((with_reducible apply eo_tupL); (· walk_at "Y.er"))
  | ((with_reducible apply eo_sorted); (· walk_at "Y.eb"))
  | ((with_reducible apply eo_lstRg); (· walk_at "Y.eb"); (· walk_at "Y.side"); (· walk_at "Y.side"))
  | ((with_reducible apply eo_call); (· walk_at "Y.eas"); (· walk_at "Y.call"))
  | ((with_reducible apply eo_lone); (· walk_at "Y.eab"); (· walk_at "Y.call"); (· walk_at "Y.lone"))
  | ((with_reducible apply eo_methL); (· walk_at "Y.eb"); (· decide); (· walk_at "Y.eab"); (· walk_at "Y.call"); (· walk_at "Y.lone")) | fail)
local macro_rules | `(tactic| walk_at "Y.eo") => `(tactic| first | walk_at "Y.en" | walk_at "Y.es" | fail)
local macro_rules | `(tactic| walk_at "Y.lone") => `(tactic| first | exact .sh rfl | exact lone_ints | fail)
local macro_rules | `(tactic| walk_at "Y.es") => `(tactic| first
  | ((with_reducible apply es_var); (· exact rfl))
  | ((with_reducible apply es_fld); (· walk_at "Y.er"); (· assumption); (· assumption); (· rfl))
  | ((with_reducible apply es_xfI); (· exact rfl); (· exact rfl))
  | ((with_reducible apply eo_callX); (· walk_at "Y.eas"); (· walk_at "Y.callX"))
  | ((with_reducible apply es_ix); (· walk_at "Y.er"); (· walk_at "Y.kk"); (· walk_at "Y.eb"); (· walk_at "Y.at"))
  | ((with_reducible apply es_ixK); (· walk_at "Y.er"); (· walk_at "Y.kd"); (· walk_at "Y.eky"); (· walk_at "Y.at"))
  | ((with_reducible apply es_get); (· walk_at "Y.er"); (· walk_at "Y.kd"); (· walk_at "Y.eky"); (· walk_at "Y.es"))
  | ((with_reducible apply eo_call); (· walk_at "Y.eas"); (· walk_at "Y.call"))
  | ((with_reducible apply eo_freeze); (· walk_at "Y.en"); (· walk_at "Y.fl"))
  | ((with_reducible apply es_flat); (· walk_at "Y.eb"); (· exact rfl)) | fail)
local macro_rules | `(tactic| walk_at "Y.et") => `(tactic| first
  | ((with_reducible apply et_and); (· walk_at "Y.et"); (· (intro hb; walk_at "Y.hb"; walk_at "Y.et")))
  | ((with_reducible apply et_or); (· walk_at "Y.et"); (· (intro hb; walk_at "Y.hb"; walk_at "Y.et")))
  | ((with_reducible apply et_not); (· walk_at "Y.et"))
  | ((with_reducible apply et_test); (· walk_at "Y.eb"))
  | ((with_reducible apply et_B); (· walk_at "Y.eb"))
  | ((with_reducible apply et_pt); (· walk_at "Y.eb"))
  | with_reducible exact et_yes | fail)
local macro_rules | `(tactic| walk_at "Y.rq") => `(tactic| first | assumption | ((with_reducible apply ret_up); (· assumption); (· walk_at "Y.rq")) | fail)
local macro_rules | `(tactic| walk_at "Y.rho") => `(tactic| dsimp only [List.set, List.map, List.replicate, List.cons_append, List.nil_append])
local macro_rules | `(tactic| walk_at "Y.q") => `(tactic| first
  | ((with_reducible apply q_asg); (· walk_at "Y.es"); walk_at "Y.rho")
  | ((with_reducible apply q_when); (· walk_at "Y.et"))
  | ((with_reducible apply q_if); (· walk_at "Y.et"))
  | ((with_reducible apply s_if); (· walk_at "Y.et")) | fail)
local macro_rules | `(tactic| walk_at "Y.own") => `(tactic| ((with_reducible apply q_own); (· walk_at "Y.eo"); walk_at "Y.rho"))
local macro_rules | `(tactic| walk_at "Y.app") => `(tactic| ((with_reducible apply q_app); (· walk_at "Y.es"); (· exact rfl); (· walk_at "Y.side"); walk_at "Y.rho"))
local macro_rules | `(tactic| walk_at "Y.aug") => `(tactic| ((with_reducible apply q_aug); (· exact rfl); (· walk_at "Y.eb"); walk_at "Y.rho"))
local macro_rules | `(tactic| walk_at "Y.last") => `(tactic| with_reducible apply g_last)
local macro_rules | `(tactic| walk_at "Y.nx") => `(tactic| ((try with_reducible apply g_next); (try dsimp only); refine en_nx ?_))
local macro_rules | `(tactic| walk_at "Y.ret") => `(tactic| first
  | ((with_reducible apply s_retJ); (· exact rfl); (· first | rfl | skip); (· walk_at "Y.rq"))
  | ((with_reducible apply s_retS); (· walk_at "Y.rq"); (· walk_at "Y.es"); (try rfl))
  | ((with_reducible apply s_retL); (· walk_at "Y.rq"); (· walk_at "Y.en"); (try rfl))
  | ((with_reducible apply s_retO); (· walk_at "Y.rq"); (· walk_at "Y.en"); (try rfl)) | fail)
local macro_rules | `(tactic| walk_at "Y.is") => `(tactic| first | with_reducible exact is_II | with_reducible exact is_IB | with_reducible exact is_IS | with_reducible exact is_IL | with_reducible exact is_IT | with_reducible exact is_BI | with_reducible exact is_BB | with_reducible exact is_BS | with_reducible exact is_BL | with_reducible exact is_BT | with_reducible exact is_SI | with_reducible exact is_SB | with_reducible exact is_SS | with_reducible exact is_SL | with_reducible exact is_ST | with_reducible exact is_NI | with_reducible exact is_NB | with_reducible exact is_NS | with_reducible exact is_NL | with_reducible exact is_NT | with_reducible exact is_LI | with_reducible exact is_LB | with_reducible exact is_LS | with_reducible exact is_LL | with_reducible exact is_LT | with_reducible exact is_TI | with_reducible exact is_TB | with_reducible exact is_TS | with_reducible exact is_TL | with_reducible exact is_TT | with_reducible exact is_DI | with_reducible exact is_DB | with_reducible exact is_DS | with_reducible exact is_DL | with_reducible exact is_DT | fail)
local macro_rules | `(tactic| walk_at "Y.fld") => `(tactic| ((with_reducible apply q_fld); (· walk_at "Y.es"); (· exact rfl); (· assumption); (· assumption); (· decide); (· decide); (dsimp only [List.set, List.cons_append, List.nil_append])))
/-! ## rules for the living table -/
section
variable {X : Cx}
/-- a name's assignment whose expression runs with a thing locked -/
theorem ps_asgLock {st : Stmt} {te : TE} {i : Nat} (h : PS X st (tAsg te (gName i))) : PS X st (tAsg (tLockE te) (gName i)) := by
  refine ⟨fun pins s σ H D I hw => (ps_lock h).run pins s σ H D I ?_⟩
  obtain ⟨d, u, hd, mu, hw⟩ := hw
  exact ⟨d, u, hd, mu, fun od => hw od⟩
/-- dict(d) -/
def rDCopy : List V → Hp → VK → Prop := fun xs H Q => ∃ a kvs, xs = [V.ref a] ∧ Rd H a (.dK kvs) ∧ ∀ p, H p = none → Q (.ref p) (upd H p (.dK kvs))
theorem call_dCopy : CallR X (.type "dict") rDCopy := by
  intro pins s σ H xs us Q I r h
  obtain ⟨a, kvs, e, hk, q⟩ := h
  subst e
  obtain ⟨u, eu, rx⟩ := vals1 r
  subst eu
  obtain rfl : u = Value.ref a := rx
  exact d_copyOf I hk fun p s' hp I' => ⟨.ref p, _, I', rfl, q p hp⟩
end
section
variable {B : Bs} {S H S' H' : Hp} {σ : L2.St} {ρ : Rho} {cs : List (List Addr)} {te to : TE} {ds : List Da} {us : List Tr} {i : Nat} {p : List Nat} {T : Tr} {D : Ends} {s : TS} {ks : List Key} {k : NK}
/-- xs.clear() -/
theorem q_mclear (hl : Loc B to ρ i p) (hT : ρ[i]? = some (some T)) (hat : T.at p = some (ol ds)) (k : Gd B s D (ρ.set i (some (T.put (ol []) p)))) :
    Gd B (tSeq (tDrop (tBM0 B.K "list" rClear to)) s) D ρ := fun S H σ cs st => by
  obtain ⟨x0, _, _, hx, _⟩ := st.at_ hT hat
  refine hl S H σ cs x0 st hx _ fun y S1 H1 s1 va => ?_
  have st1 := st.grow s1
  obtain ⟨x0', a, vs, A, hx', va', o1, dq, g⟩ := st1.root hT hat
  rw [hx] at hx'
  cases hx'
  cases va.uniq va'
  obtain ⟨rfl, ho⟩ := o1.lst
  refine ⟨.inl ⟨rfl, vs, SqL.of ho⟩, a, vs, rfl, rfl, ho, ?_⟩
  obtain ⟨cs4, st4⟩ := g .lst [] [] (upd H1 a (.lst [])) (fun b hb => upd_ne hb) ⟨rfl, True.intro, upd_same⟩ DqAll.nil
  exact k S1 _ _ cs4 st4
theorem q_clear (hT : ρ[i]? = some (some (ol ds))) (k : Gd B s D (ρ.set i (some (ol [])))) : Gd B (tSeq (tDrop (tBM0 B.K "list" rClear (tVar i))) s) D ρ := q_mclear loc_var hT rfl k
/-- list(d), dict(d) -/
theorem zipK : ∀ {ks : List Key} {vs : List V}, ks.length = vs.length → (ks.zip vs).map (fun kv => kV kv.1) = ks.map kV
  | [], [], _ => rfl
  | [], _ :: _, h => by cases h
  | _ :: _, [], h => by cases h
  | k :: ks, v :: vs, h => by
    rw [List.zip_cons_cons, List.map_cons, List.map_cons, zipK (by simpa using h)]
theorem eo_listK (h : Eb B te ρ (.nd (.dct ks) ds)) : Eo B (tCB rListD (tCons te tNil)) ρ (ol (ks.map kyD)) := fun S H σ cs st Q q => h S H σ cs st _ fun x S1 H1 s1 f1 => by
  obtain ⟨a, vs, rfl, g1, g2⟩ := f1.inv
  obtain ⟨h1, h2⟩ := g1.dct
  refine ⟨a, ks.zip vs, rfl, h1, fun p hp => ?_⟩
  rw [zipK h2]
  obtain ⟨s4, f4⟩ := fr_new (K := B.K) (k := .lst) (vs := ks.map kV) (ds := ks.map kyD) (.inl rfl) hp s1.sh (DqAll.of_map kyD_fl) True.intro
  exact q _ [p] _ _ (s1.trans s4) (f4.prior s1.h)
theorem eo_dCopy (hk : k = .dct ks ∨ k = .dcl ks) (h : Er B te ρ k ds) : Eo B (tCB rDCopy (tCons te tNil)) ρ (.nd (.dct ks) (ds.map Tr.sh)) := fun S H σ cs st Q q => h S H σ cs st _ fun a vs S1 H1 s1 g1 g2 => by
  obtain ⟨h1, h2⟩ := Stands.dctR hk g1
  refine ⟨a, ks.zip vs, rfl, h1, fun p hp => ?_⟩
  obtain ⟨s4, f4⟩ := fr_new (K := B.K) (k := .dct ks) (vs := vs) (ds := ds) (.inr (.inr ⟨ks, rfl⟩)) hp s1.sh g2 h2
  exact q _ [p] _ _ (s1.trans s4) (f4.prior s1.h)
end
section
variable {B : Bs} {ρ ρ'' : Rho} {td te : TE} {tt : TT} {g : TG} {ds : List Da} {j : Nat} {pth : List Nat} {T : Tr} {ks : List Key} {vs : List Nat}
/-- a comprehension over the items of a locked dict of one's own -/
theorem eo_lcI {α : Type} {f : α → Da} {xs : List α} (p : α → Bool) (tr : α → Tr) (hl : Loc B td ρ j pth) (hT : ρ[j]? = some (some T)) (hat : T.at pth = some (.nd (.dcl ks) (ds.map Tr.sh))) (e : itemsD ks ds = xs.map f) (hm : xs.length < sizeLine)
    (hs : ∀ x ∈ xs, ∃ ρ'', Gw B g vs (f x) (wipeR ρ vs) ρ'' ∧ Et B tt ρ'' (p x) ∧ (p x = true → Eo B te ρ'' (tr x))) :
    Eo B (tLc (iItems td) g tt te vs) ρ (.nd .lst ((xs.filter p).map tr)) := fun S H σ cs st Q q => eo_lc_at (E1 := H) p tr hm hs S H σ cs st (Same.refl H) (fun R r => by
  obtain ⟨x0, a, ws, A, hx, va, o1, dq, _⟩ := st.root hT hat
  obtain ⟨rfl, hlen, o, ha⟩ := o1
  refine hl S H σ cs x0 st hx _ fun y S1 H1 s1 va' => ?_
  cases (va.same s1.h).uniq va'
  refine ⟨a, o, ks.zip ws, rfl, s1.h _ _ ha, r _ S1 H1 s1 (wk_ofE (walk_items (d := a) (o := o) (kvs := ks.zip ws)) (by rw [← e, itemsD, List.length_map, List.length_zip, List.length_zip, dq.1]) (fun H2 _ e2 => e2 _ _ ha) fun i H2 x H3 S2 hi e1 e2 y => ?_)⟩
  obtain ⟨T, k', v, rfl, hT, rfl, hk1, hk2⟩ := y
  obtain ⟨⟨k, v'⟩, hk, e4⟩ := Option.map_eq_some_iff.mp hk1
  have hk2 : Option.map Prod.snd (ks.zip ws)[i]? = some v := hk2
  rw [hk] at hk2
  cases hk2
  cases e4
  refine ⟨upd S2 T (.tup [_, _]), step_tup e2 hT, fun d hd => ?_⟩
  rw [List.getElem?_zip_eq_some] at hk
  rw [← e] at hd
  unfold itemsD at hd
  rw [List.getElem?_map] at hd
  obtain ⟨q, hq, rfl⟩ := Option.map_eq_some_iff.mp hd
  rw [List.getElem?_zip_eq_some] at hq
  rw [hk.1] at hq
  have e3 : k = q.1 := Option.some.inj hq.1
  subst e3
  exact pair_dq (e2.free hT) (Dq.of_flat (kyD_fl _)) (((dq.2 i _ _ hk.2 hq.2).same s1.s).same e1)) Q q
end
/-- a field read within a comprehension -/
theorem pe_fldK {X : Cx} {K2 : PySem.W.Frag} {e : Expr} {f : Str} {pos : Pos} {ta : TE} (hK : X.K = K2) (he : PE X e ta) (hb : attributeBase e f X.env (eval e X.env) = eval e X.env) : PE X (.Attribute e f pos) (tFld K2 ta f) := hK ▸ pe_fld he hb
/-- raise X(at) in a method that may change its object -/
theorem x_raiseOT {B : Bs} {ρ : Rho} {te : TE} {x : Da} {a : Addr} {C C2 : Str} {ns : List Str} {us : List Tr} {E : XK} {v : V} {D : Ends} (hT : ρ[0]? = some (some (.nd (.slf a C ns) us))) (h : Eb B te ρ x) (e : x.fl = some v) (q : XkT B (.ref a) E C2 (some v) (.nd (.slf a C ns) us)) : Gd B (tRaiseO (He.ga B.K C2) (SpO B.K (He.ga B.K C2)) (tCons te tNil) E) D ρ := fun S H σ cs st => h S H σ cs st _ fun y S1 H1 s1 f1 => by
  have ey := f1.flat e
  subst ey
  have q1 := xkT_at (st.grow s1) hT q
  refine ⟨by simp, fun b ha => ⟨b, y, rfl, upd_same, fun d h1 h2 => ⟨rfl, d, [("at", y)], upd_same, ?_, ?_, ?_⟩⟩⟩
  · rw [upd_ne h2, upd_same]
  · rw [upd_ne h2] at h1
    exact h1
  · rw [upd_ne h2] at h1
    refine q1 d _ (fun z o hb => ?_) h1 upd_same
    have hbd : z ≠ d := fun e => by rw [e, h1] at hb; cases hb
    have hba : z ≠ b := fun e => by rw [e, ha] at hb; cases hb
    rw [upd_ne hbd, del_ne hba, upd_ne hba, upd_ne hbd, upd_ne hba]
    exact hb
section
variable {B : Bs} {ρ : Rho} {ta : TE} {ts : TA} {ds es : List Da} {t : Tr} {C m : Str} {ns : List Str} {E : XK}
/-- a method of an instance that stands for good -/
theorem eo_methS {R : Rel} (h : Es B ta ρ (.nd (.ins C ns) ds)) (hn : m ∉ ns) (ha : Eas B ts ρ es) (r : R (.nd (.ins C ns) ds :: es) (.ret t)) : Eo B (tMeth (He.ga B.K C) m (SpD B.K R) [] E ta ts) ρ t := fun S H σ cs st Q q => h S H σ cs st _ fun x c S1 H1 s1 f1 => by
  have dq := f1.dq
  obtain ⟨a, vs, rfl, g1, g2⟩ := id dq.inv
  obtain ⟨hl, dx, hb⟩ := (g1.same s1.sh).ins
  refine ⟨a, dx, _, rfl, hb, fld_no hn, ha S1 H1 σ cs (st.grow s1) _ fun ws S2 H2 s2 f2 => ?_⟩
  rw [List.append_nil]
  exact ⟨_, _, S2, r, DqAll.cons (dq.same s2.s) f2, s2.sh, fun x c S' H' s f => q x c S' H' ((s1.trans s2).trans s) (f.prior (s1.trans s2).h)⟩
end

/-! ## promises: an own thing, one that is lent, data -/
abbrev RelTB := Tr → List Da → List Da → OutT → Prop
def SpTB (K : PySem.W.Frag) (R : RelTB) : Sp := fun vs H Q E => ∃ x bs ws t0 ds es c0 S o, vs = x :: (bs ++ ws) ∧ R t0 ds es o ∧ Ow K S H c0 x t0 ∧ c0.Nodup ∧ (∀ a ∈ c0, S a = none) ∧ DqAll K (off H c0) bs ds ∧ DqAll K S ws es ∧ Same S H ∧ OutTP K S H c0 x Q E o
section
variable {B : Bs} {S H S' H' : Hp} {σ : L2.St} {ρ : Rho} {cs : List (List Addr)} {c d0 c0 : List Addr} {te : TE} {ts : TA} {tt : TT} {d e z : Da} {ds es : List Da} {i j m n : Nat} {p : List Nat} {T T1 U t t0 t1 u : Tr} {us us' vs' : List Tr} {C C2 f : Str} {ns ns' : List Str} {D : Ends} {s s0 u1 u2 : TS} {a b : Addr} {K : PySem.W.Frag} {x y : V} {vs ws bs : List V} {Q : VK} {E : XK} {N : List Str} {ks ks' : List Key} {kk : Key} {bb : Bool} {k : NK}
theorem sptb_len {R : RelTB} (hR : ∀ t ds es o, R t ds es o → ds.length + es.length + 1 = m) (h : SpTB K R vs H Q E) : vs.length = m := by
  obtain ⟨x, bs, ws, t0, ds, es, c0, S, o, rfl, r, _, _, _, db, dq, _, _⟩ := h
  rw [List.length_cons, List.length_append, db.1, dq.1]
  exact hR t0 ds es o r
/-- what is told by a promise that changes slot i's own thing -/
theorem outT_ret (st : Sit B S H σ ρ cs) (hc : cs[i]? = some c) (hx : σ[i]? = some (some x)) (hw : ∀ S' H' c', Ow B.K S' H' c' x t1 → Ow B.K S' H' c' x T1)
    (q : ∀ v c S' H' cs', Sit B S' H' σ (ρ.set i (some T1)) cs' → Ow B.K S' H' c v t → c.Nodup → (∀ a ∈ c, S' a = none ∧ B.E0 a = none ∧ a ∉ cs'.flatten) → Q v H') : OutTP B.K S H c x Q E (.ret t1 t) := fun c1 c' v S' H' g1 g2 g3 g4 ow1 ow2 nd fr => by
  rw [List.nodup_append] at nd
  have st2 := st.after hc hx g1 g2 g3 g4 (hw _ _ _ ow1) nd.1 fun b hb => fr b (List.mem_append_left _ hb)
  refine q v c' S' H' _ st2 ow2 nd.2.1 fun b hb => ?_
  obtain ⟨z1, z2⟩ := fr b (List.mem_append_right _ hb)
  have z2 : off H c b = none := z2
  have hi : i < cs.length := (List.getElem?_eq_some_iff.mp hc).1
  obtain ⟨_, p2⟩ := flatten_set (c := c1) hc
  have hnm : b ∉ (cs.set i c1).flatten := fun hm => by
    rcases List.mem_append.mp (p2.mem_iff.mp hm) with hm | hm
    · exact nd.2.2 b hm b hb rfl
    · obtain ⟨m1, m2⟩ := st.mem_er hc hm
      rw [off_out m2] at z2
      exact st.alloc b m1 z2
  refine ⟨z1, ?_, hnm⟩
  by_cases hm : b ∈ c
  · exact (st.hp.ow b (mem_flat hc hm)).2
  · rw [off_out hm] at z2
    exact st.hp.e0.free z2
/-- another slot's own thing, read where slot i's is not -/
theorem Sit.lent (st : Sit B S H σ ρ cs) (hc : cs[i]? = some c) (hij : j ≠ i) (hU : ρ[j]? = some (some U)) : ∃ y, σ[j]? = some (some y) ∧ Dq B.K (off H c) y U.flat := by
  obtain ⟨d0, y, hd, hy, ow⟩ := st.var hU
  have hs : Same S (off H c) := fun a o q => by
    have hn : a ∉ c := fun hm => by rw [(st.hp.ow a (mem_flat hc hm)).1] at q; cases q
    rw [off_out hn]
    exact st.same a o q
  refine ⟨y, hy, (ow.keep (Same.refl S) fun b hb => ?_).here hs⟩
  exact off_out (st.mem_er hc (mem_erase hd hb hij)).2
/-- f(x, y, ..): x a slot's own, y another one's, lent -/
theorem em_callB {R : RelTB} (hT : ρ[i]? = some (some T)) (hk : T = .nd (.ins C ns) us ∨ ∃ a, T = .nd (.slf a C ns) us) (hij : j ≠ i) (hU : ρ[j]? = some (some U)) (hd : U.flat = d) (ha : Eas B ts ρ ds) (r : AtT T fun a => R (.nd (.slf a C ns) us) [d] ds (.ret (.nd (.slf a C ns') us') t)) : Em B (tCall (SpTB B.K R) [] E (tCons (tVar i) (tCons (tVar j) ts))) ρ i (reT T ns' us') t := fun S H σ cs st Q q => by
  obtain ⟨c0, x, hc, hx, ow⟩ := st.var hT
  obtain ⟨_, y, _, hy, _⟩ := st.var hU
  refine ⟨x, hx, y, hy, ha S H σ cs st _ fun ws S2 H2 s2 f2 => ?_⟩
  show SpTB B.K R ((x :: y :: ws) ++ []) H2 Q E
  rw [List.append_nil]
  have st2 := st.grow s2
  obtain ⟨y2, hy2, dy⟩ := st2.lent hc hij hU
  rw [hy] at hy2
  cases hy2
  obtain ⟨a2, e2, r2, ow2, up⟩ := ow_slf hk (ow.same s2.s s2.h) r
  subst e2
  rw [hd] at dy
  exact ⟨.ref a2, [y], ws, _, [d], ds, c0, S2, _, rfl, r2, ow2, st2.chunk_nd hc, fun b hb => (st2.hp.ow b (mem_flat hc hb)).1, DqAll.cons dy DqAll.nil, f2, st2.same, outT_ret st2 hc hx (fun S' H' c' o => up S' H' c' _ _ o) q⟩
end
section
variable {B : Bs} {ρ : Rho} {D : Ends} {s : TS} {K : PySem.W.Frag} {l : List Clause} {out : WX} {tw : WX → TE} {C : Str} {v : V} {T1 : Tr} {i : Nat}
theorem x_tryCDM (h : ∀ W, ExMS B (tw W) ρ W i T1 C (some v)) (k : CatF B K s D (ρ.set i (some T1)) C v l) : Gd B (tSeq (tTryCl K l out fun W => tDrop (tw W)) s) D ρ := fun S H σ cs st => h _ S H σ cs st _ fun S1 H1 cs1 st1 => fun dd H' e h1 h2 => k.go st1 e h1 h2
theorem x_tryCDM0 (h : ∀ W, ExMS B (tw W) ρ W i T1 C none) (k : Cat0 B K s D (ρ.set i (some T1)) C l) : Gd B (tSeq (tTryCl K l out fun W => tDrop (tw W)) s) D ρ := fun S H σ cs st => h _ S H σ cs st _ fun S1 H1 cs1 st1 => fun H' e => k.go st1 e
end
section
variable {B : Bs} {ρ : Rho} {tt uu : TT} {T1 : Tr} {i : Nat} {b e : Bool}
theorem emt_and (hT : ρ[i]? = some (some T1)) (h1 : Et B tt ρ b) (h2 : b = true → EmT B uu ρ i T1 e) : EmT B (tAnd tt uu) ρ i T1 (b && e) := fun S H σ cs st Q q => h1 S H σ cs st _ fun S1 H1 s1 => by
  cases b with
  | true =>
    show (if true = true then _ else _)
    rw [if_pos rfl]
    exact h2 rfl S1 H1 σ cs (st.grow s1) Q fun S2 H2 cs2 st2 => q S2 H2 cs2 st2
  | false =>
    show (if false = true then _ else _)
    rw [if_neg Bool.false_ne_true]
    refine q S1 H1 cs ?_
    rw [set_same hT]
    exact st.grow s1
theorem emt_or (hT : ρ[i]? = some (some T1)) (h1 : Et B tt ρ b) (h2 : b = false → EmT B uu ρ i T1 e) : EmT B (tOr tt uu) ρ i T1 (b || e) := fun S H σ cs st Q q => h1 S H σ cs st _ fun S1 H1 s1 => by
  cases b with
  | true =>
    show (if true = true then _ else _)
    rw [if_pos rfl]
    refine q S1 H1 cs ?_
    rw [set_same hT]
    exact st.grow s1
  | false =>
    show (if false = true then _ else _)
    rw [if_neg Bool.false_ne_true]
    exact h2 rfl S1 H1 σ cs (st.grow s1) Q fun S2 H2 cs2 st2 => q S2 H2 cs2 st2
theorem emt_rev (hT : ρ[i]? = some (some T1)) (h1 : Et B tt ρ b) : EmT B tt ρ i T1 b := fun S H σ cs st Q q => h1 S H σ cs st _ fun S1 H1 s1 => by
  refine q S1 H1 cs ?_
  rw [set_same hT]
  exact st.grow s1
end

/-! the law's mixing and draws -/
def mix (c k : Int) : Int :=
  let f := (c + 1) * (48271 + 118 * k) % 2147483629
  (f / 977 * 16807 + f * (k * k + 7) + k) % 2147483587
theorem mix_nn (c k : Int) : 0 ≤ mix c k := Int.emod_nonneg _ (by decide)
theorem mix_lt (c k : Int) : mix c k < 2147483587 := Int.emod_lt_of_pos _ (by decide)
def raw (ns : List Int) (k : Int) : Int := ns.getD k.toNat 0
def cell (ns : List Int) (k : Int) : Int := mix (raw ns k % 2147483647) (k + 101)
def great (c : Int) : Int := (mix c 1 * 2147483587 + mix c 2) * 2147483587 + mix c 3
theorem atI_map {α β : Type} (f : α → β) {xs : List α} {i : Int} {x : α} (h : atI xs i = some x) : atI (xs.map f) i = some (f x) := by
  unfold atI at *
  rw [List.length_map]
  cases e : ixN xs.length i with
  | none => rw [e] at h; cases h
  | some j =>
    rw [e] at h
    have h2 : xs[j]? = some x := h
    show (xs.map f)[j]? = some (f x)
    rw [List.getElem?_map, h2]
    rfl
theorem atI_getD {α : Type} {xs : List α} {i : Int} {d : α} (h0 : 0 ≤ i) (h : i < xs.length) : atI xs i = some (xs.getD i.toNat d) := by
  obtain ⟨j, rfl⟩ := Int.eq_ofNat_of_zero_le h0
  have hj : j < xs.length := by omega
  rw [atI_nat (v := xs[j]) (by simp [hj])]
  simp [List.getD, hj]
theorem at_map {α : Type} {f : α → Da} {xs : List α} {i : Int} (d : α) (h0 : 0 ≤ i) (h : i < xs.length) : atI (xs.map f) i = some (f (xs.getD i.toNat d)) := atI_map f (atI_getD h0 h)
theorem at_int {xs : List Int} {i : Int} (h0 : 0 ≤ i) (h : i < xs.length) : atI (xs.map Da.int) i = some (.int (xs.getD i.toNat 0)) := at_map 0 h0 h
theorem raw_at {ns : List Int} {k : Int} (h0 : 0 ≤ k) (h : k < ns.length) : atI (ns.map Da.int) k = some (.int (raw ns k)) := at_int h0 h
theorem raw_out {ns : List Int} {k : Int} (h : ¬ k < ns.length) : raw ns k = 0 := by
  unfold raw
  rw [List.getD, List.getElem?_eq_none (by omega)]
  rfl
inductive R_l_mix : Rel
  | c1 {c k : Int} (h : 0 ≤ k ∧ k ≤ 10000000000) : R_l_mix [.int c, .int k] (.ret (.sh (.int (mix c k))))
local macro_rules | `(tactic| walk_at "Y.call") => `(tactic| ((with_reducible apply R_l_mix.c1); (· walk_at "Y.side")))
theorem ok_l_mix {P : Program} {w : World} {K : PySem.W.Frag} {mg : Str → Option Value} {base : Heap} (T : Txt K mg) : FnOk P w K mg base (L2.CX P w) 1 T.d_l_mix.f T.d_l_mix.fd ["_law_cell_here", "_law_k"] (SpD K R_l_mix) := by
  refine T.d_l_mix.F.ok sc_l_mix (fun vs H Q E h => spd_len (R := R_l_mix) (fun ds o r => by cases r <;> rfl) h) (fun cdv A outer s H vs Q E hr h => ?_)
  obtain ⟨ds, o, S, r, hd, hS, hq⟩ := h
  have hu := hu_of hr
  refine ⟨_, (pss_cons (ps_set (i := 2) sc_l_mix.nd rfl (Or.inl rfl) (pe_op op_mod (pe_op (r := rMulN) op_mulN (pe_op (r := rAddN) op_addN (pv 0) pe_int) (pe_op (r := rAddN) op_addN pe_int (pe_op (r := rMulN) op_mulN pe_int (pv 1)))) pe_int))
  (pss_one (ps_ret (pe_op op_mod (pe_op (r := rAddN) op_addN (pe_op (r := rAddN) op_addN (pe_op (r := rMulN) op_mulN (pe_op op_fdivW (pv 2) pe_int) pe_int) (pe_op (r := rMulN) op_mulN (pv 2) (pe_op (r := rAddN) op_addN (pe_op (r := rMulN) op_mulN (pv 1) (pv 1)) pe_int))) (pv 1)) pe_int)))), ?_⟩
  clear hr hu
  cases r with
  | @c1 c k h =>
    have q := hq.ret
    refine body_gd (n := 1) hd hS rfl ?_
    show Gd _ _ _ [some (.sh (.int c)), some (.sh (.int k)), none]
    clear hq hd
    try dsimp only [cxOf]
    walk_at "Y.q"
    walk_at "Y.ret"
inductive R_l_cell : Rel
  | c1 {ns : List Int} {k : Int} (h : 0 ≤ k ∧ k ≤ 1000000) : R_l_cell [.nd .rd (ns.map .int), .int k] (.ret (.sh (.int (cell ns k))))
local macro_rules | `(tactic| walk_at "Y.call") => `(tactic| ((with_reducible apply R_l_cell.c1); (· walk_at "Y.side")))
theorem ok_l_cell {P : Program} {w : World} {K : PySem.W.Frag} {mg : Str → Option Value} {base : Heap} (T : Txt K mg) : FnOk P w K mg base (L2.CX P w) 2 T.d_l_cell.f T.d_l_cell.fd ["_law_script", "_law_k"] (SpD K R_l_cell) := by
  have G_l_mix := ok_l_mix (P := P) (w := w) (base := base) T
  refine T.d_l_cell.F.ok sc_l_cell (fun vs H Q E h => spd_len (R := R_l_cell) (fun ds o r => by cases r <;> rfl) h) (fun cdv A outer s H vs Q E hr h => ?_)
  obtain ⟨ds, o, S, r, hd, hS, hq⟩ := h
  have hu := hu_of hr
  refine ⟨_, (pss_cons (ps_set (i := 2) sc_l_cell.nd rfl (Or.inl rfl) pe_int)
  (pss_cons (ps_if (pt_cmpR op_lt (pv 1) (pe_callB (r := rLenA K) call_lenA (by rfl) T.z_len (by decide +kernel) (pa_cons (pv 0) pa_nil)) (nomark _)) (pss_one (ps_set (i := 2) sc_l_cell.nd rfl (Or.inl rfl) (pe_op op_mod (pe_ix (r := rIxA K) (ix_A hu) (pv 0) (pv 1) (fun _ _ => rfl)) pe_int))) pss_nil)
  (pss_one (ps_ret (pe_call G_l_mix (hr.mono (by decide)) (by rfl) T.g_l_mix T.d_l_mix.kp T.d_l_mix.b .nil passE (pa_cons (pv 2) (pa_cons (pe_op (r := rAddN) op_addN (pv 1) pe_int) pa_nil))))))), ?_⟩
  clear hr hu
  cases r with
  | @c1 ns k h =>
    have q := hq.ret
    refine body_gd (n := 1) hd hS rfl ?_
    show Gd _ _ _ [some (.sh (.nd .rd (ns.map .int))), some (.sh (.int k)), none]
    clear hq hd
    try dsimp only [cxOf]
    obtain ⟨h0, h9⟩ := h
    walk_at "Y.q"
    walk_at "Y.q"
    · intro hb
      have e := raw_at h0 (of_decide_eq_true hb)
      walk_at "Y.last"
      walk_at "Y.q"
      refine g_go ?_
      walk_at "Y.ret"
    · intro hb
      have e : cell ns k = mix 0 (k + 101) := by
        unfold cell
        rw [raw_out (of_decide_eq_false hb)]
        rfl
      rw [e] at q
      walk_at "Y.ret"
def rawL (ns : List Int) (k : Int) : Int := if cell ns 0 % 2 = 0 then raw ns k else mix (mix (raw ns k % 2147483647) (k + 7)) k
inductive R_l_raw : Rel
  | c1 {ns : List Int} {k : Int} (h : 0 ≤ k ∧ k ≤ 1000000) : R_l_raw [.nd .rd (ns.map .int), .int k] (.ret (.sh (.int (rawL ns k))))
local macro_rules | `(tactic| walk_at "Y.call") => `(tactic| ((with_reducible apply R_l_raw.c1); (· walk_at "Y.side")))
theorem ok_l_raw {P : Program} {w : World} {K : PySem.W.Frag} {mg : Str → Option Value} {base : Heap} (T : Txt K mg) : FnOk P w K mg base (L2.CX P w) 3 T.d_l_raw.f T.d_l_raw.fd ["_law_script", "_law_k"] (SpD K R_l_raw) := by
  have G_l_cell := ok_l_cell (P := P) (w := w) (base := base) T
  have G_l_mix := ok_l_mix (P := P) (w := w) (base := base) T
  refine T.d_l_raw.F.ok sc_l_raw (fun vs H Q E h => spd_len (R := R_l_raw) (fun ds o r => by cases r <;> rfl) h) (fun cdv A outer s H vs Q E hr h => ?_)
  obtain ⟨ds, o, S, r, hd, hS, hq⟩ := h
  have hu := hu_of hr
  refine ⟨_, (pss_cons (ps_set (i := 2) sc_l_raw.nd rfl (Or.inl rfl) pe_int)
  (pss_cons (ps_if (pt_cmpR op_lt (pv 1) (pe_callB (r := rLenA K) call_lenA (by rfl) T.z_len (by decide +kernel) (pa_cons (pv 0) pa_nil)) (nomark _)) (pss_one (ps_set (i := 2) sc_l_raw.nd rfl (Or.inl rfl) (pe_ix (r := rIxA K) (ix_A hu) (pv 0) (pv 1) (fun _ _ => rfl)))) pss_nil)
  (pss_cons (ps_if (pt_cmpR (r := rEqA K) (op_eqA hr.units) (pe_op op_mod (pe_call G_l_cell (hr.mono (by decide)) (by rfl) T.g_l_cell T.d_l_cell.kp T.d_l_cell.b .nil passE (pa_cons (pv 0) (pa_cons pe_int pa_nil))) pe_int) pe_int (nomark _)) (pss_one (ps_ret (pv 2))) pss_nil)
  (pss_one (ps_ret (pe_call G_l_mix (hr.mono (by decide)) (by rfl) T.g_l_mix T.d_l_mix.kp T.d_l_mix.b .nil passE (pa_cons (pe_call G_l_mix (hr.mono (by decide)) (by rfl) T.g_l_mix T.d_l_mix.kp T.d_l_mix.b .nil passE (pa_cons (pe_op op_mod (pv 2) pe_int) (pa_cons (pe_op (r := rAddN) op_addN (pv 1) pe_int) pa_nil))) (pa_cons (pv 1) pa_nil)))))))), ?_⟩
  clear hr hu
  cases r with
  | @c1 ns k h =>
    have q := hq.ret
    refine body_gd (n := 1) hd hS rfl ?_
    show Gd _ _ _ [some (.sh (.nd .rd (ns.map .int))), some (.sh (.int k)), none]
    clear hq hd
    try dsimp only [cxOf]
    obtain ⟨h0, h9⟩ := h
    walk_at "Y.q"
    refine q_joinP (fun r => r = [some (.sh (.nd .rd (ns.map .int))), some (.sh (.int k)), some (.sh (.int (raw ns k)))]) (by walk_at "Y.et") ?_ ?_ ?_
    · rintro r rfl
      walk_at "Y.q"
      · intro hb
        have e : rawL ns k = raw ns k := by
          unfold rawL
          rw [if_pos (of_decide_eq_true hb)]
        rw [e] at q
        walk_at "Y.ret"
      · intro hb
        have e : rawL ns k = mix (mix (raw ns k % 2147483647) (k + 7)) k := by
          unfold rawL
          rw [if_neg (of_decide_eq_false hb)]
        rw [e] at q
        walk_at "Y.ret"
    · intro hb hk
      have e := raw_at h0 (of_decide_eq_true hb)
      walk_at "Y.last"
      walk_at "Y.q"
      exact g_go (hk _ rfl)
    · intro hb
      rw [raw_out (of_decide_eq_false hb)]
/-- is it a whole number -/
def whole : Da → Bool
  | .int _ => true
  | _ => false

/-! ### texts as lists of signs -/
def strL (l : List Nat) : Str := ⟨l.toArray⟩
theorem strL_tl (z : Str) : strL z.cps.toList = z := rfl
theorem strL_list (l : List Nat) : (strL l).cps.toList = l := by simp [strL]
theorem strL_len (l : List Nat) : (strL l).length = l.length := by simp [strL, Str.length]
theorem strL_app (l m : List Nat) : strL l ++ strL m = strL (l ++ m) := by
  show (⟨l.toArray ++ m.toArray⟩ : Str) = ⟨(l ++ m).toArray⟩
  simp
theorem strL_inj {l m : List Nat} (h : strL l = strL m) : l = m := by
  have e := congrArg (fun z : Str => z.cps.toList) h
  simpa [strL] using e
theorem strL_dec (l m : List Nat) : decide (strL l = strL m) = decide (l = m) := by
  by_cases h : l = m
  · rw [h]; simp
  · have h2 : ¬ strL l = strL m := fun e => h (strL_inj e)
    rw [decide_eq_false h, decide_eq_false h2]
theorem small_line {n : Nat} (h : n ≤ 1000000) : n ≤ sizeLine := Nat.le_trans h (by rw [sizeLine_eq]; decide)
theorem cutS_nat (l : List Nat) (i j : Nat) : cutS (strL l) (some (i : Int)) (some (j : Int)) = strL ((l.drop i).take (j - i)) := by
  unfold cutS
  rw [HT.sIx_nat, HT.sIx_nat, strL_len]
  show strL _ = strL _
  rw [strL_list]
  apply congrArg strL
  by_cases hi : i ≤ l.length
  · rw [Nat.min_eq_left hi]
    by_cases hj : j ≤ l.length
    · rw [Nat.min_eq_left hj]
    · rw [Nat.min_eq_right (by omega)]
      rw [List.take_of_length_le (by rw [List.length_drop]; exact Nat.le_refl _), List.take_of_length_le (by rw [List.length_drop]; omega)]
  · rw [List.drop_eq_nil_of_le (by omega), List.drop_eq_nil_of_le (by omega)]
    simp
theorem cutS_to (l : List Nat) (j : Nat) : cutS (strL l) none (some (j : Int)) = strL (l.take j) := by
  unfold cutS
  rw [HT.sIx_none, HT.sIx_nat, strL_len]
  show strL _ = strL _
  rw [strL_list, List.drop_zero, Nat.sub_zero]
  apply congrArg strL
  by_cases hj : j ≤ l.length
  · rw [Nat.min_eq_left hj]
  · rw [Nat.min_eq_right (by omega), List.take_of_length_le (Nat.le_refl _), List.take_of_length_le (by omega)]
theorem cutS_from (l : List Nat) (i : Nat) : cutS (strL l) (some (i : Int)) none = strL (l.drop i) := by
  unfold cutS
  rw [HT.sIx_none, HT.sIx_nat, strL_len]
  show strL _ = strL _
  rw [strL_list]
  apply congrArg strL
  rw [List.take_of_length_le (by rw [List.length_drop]; omega)]
  by_cases hj : i ≤ l.length
  · rw [Nat.min_eq_left hj]
  · rw [Nat.min_eq_right (by omega), List.drop_eq_nil_of_le (Nat.le_refl _), List.drop_eq_nil_of_le (by omega)]
/-! how often one sign stands in a text -/
theorem subAt_one (l : List Nat) (c i : Nat) : Builtin.Str.subAt (strL l) (strL [c]) i = decide (l[i]? = some c) := by
  unfold Builtin.Str.subAt
  show ((strL l).cps.extract i (i + (strL [c]).length) == (strL [c]).cps) = _
  rw [strL_len]
  show (l.toArray.extract i (i + 1) == [c].toArray) = _
  have e : l.toArray.extract i (i + 1) = ((l.drop i).take 1).toArray := by
    rw [List.extract_toArray]
    simp [List.extract]
  rw [e]
  cases h : l.drop i with
  | nil =>
    have hl : l.length ≤ i := List.drop_eq_nil_iff.mp h
    rw [List.getElem?_eq_none hl]
    rfl
  | cons x r =>
    have hx : l[i]? = some x := by
      have := congrArg List.head? h
      rw [List.head?_drop] at this
      exact this
    rw [hx]
    by_cases hc : x = c
    · subst hc; simp
    · simp [hc]
def occF (l : List Nat) (c : Nat) (s : Array Nat × Nat) (i : Nat) : Array Nat × Nat :=
  if (decide (s.1.size < l.length + 1) && decide (s.2 ≤ i) && decide (i + (strL [c]).length ≤ l.length) && Builtin.Str.subAt (strL l) (strL [c]) i) = true then (s.1.push i, i + (strL [c]).length) else (s.1, s.2)
theorem occF_count (l : List Nat) (c : Nat) : ∀ n, n ≤ l.length + 1 → ((List.range n).foldl (occF l c) (#[], 0)).1.size = (l.take n).count c ∧ ((List.range n).foldl (occF l c) (#[], 0)).2 ≤ n := by
  intro n hn
  induction n with
  | zero => simp
  | succ n ih =>
    obtain ⟨h1, h2⟩ := ih (by omega)
    rw [List.range_succ, List.foldl_append]
    generalize (List.range n).foldl (occF l c) (#[], 0) = st at h1 h2
    have hc1 : (l.take n).count c ≤ n := Nat.le_trans List.count_le_length (by rw [List.length_take]; omega)
    have e1 : (strL [c]).length = 1 := strL_len _
    rw [List.foldl_cons, List.foldl_nil, List.take_add_one, List.count_append]
    unfold occF
    rw [subAt_one, e1]
    by_cases hx : l[n]? = some c
    · have hlt : n < l.length := (List.getElem?_eq_some_iff.mp hx).1
      rw [if_pos (by simp [hx]; omega), hx]
      simp [h1]
    · rw [if_neg (by simp [hx])]
      have z : (l[n]?.toList).count c = 0 := by
        cases hy : l[n]? with
        | none => rfl
        | some y =>
          rw [hy] at hx
          have : y ≠ c := fun e => hx (by rw [e])
          simp [this]
      rw [z]
      exact ⟨by omega, by show st.2 ≤ n + 1; omega⟩
theorem occ_one (l : List Nat) (c : Nat) : (Builtin.Str.occurrences (strL l) (strL [c]) 0 l.length (l.length + 1)).length = l.count c := by
  have k := (occF_count l c (l.length + 1) (Nat.le_refl _)).1
  rw [List.take_of_length_le (by omega)] at k
  rw [← k]
  unfold Builtin.Str.occurrences
  simp only [Id.run, Std.Legacy.Range.forIn_eq_forIn_range', Std.Legacy.Range.size]
  rw [show l.length + 1 - 0 + 1 - 1 = l.length + 1 by omega, Nat.div_one, ← List.range_eq_range']
  have e : ∀ (i : Nat) (s : Array Nat × Nat), (if (decide (s.1.size < l.length + 1) && decide (s.2 ≤ i) && decide (i + (strL [c]).length ≤ l.length) && Builtin.Str.subAt (strL l) (strL [c]) i) = true then (pure (ForInStep.yield (s.1.push i, i + (strL [c]).length)) : Id (ForInStep (Array Nat × Nat))) else pure (ForInStep.yield (s.1, s.2))) = pure (ForInStep.yield (occF l c s i)) := by
    intro i s
    unfold occF
    split <;> rfl
  simp only [e, List.forIn_pure_yield_eq_foldl]
  rfl
theorem count_one (l : List Nat) (c : Nat) : PySem.Txt.count (strL l) (strL [c]) = (l.count c : Int) := by
  unfold PySem.Txt.count
  rw [strL_len, occ_one]

/-! enumerate over a text -/
section
open PySem.Spec PyProof.Rows
def Ies (z : Str) : It :=
  ⟨fun i _ => i < z.cps.size, fun i H v H' => ∃ T c, v = .ref T ∧ H T = none ∧ H' = upd H T (.tup [.int (i : Nat), .str ⟨#[c]⟩]) ∧ z.cps[i]? = some c, fun i _ => i = z.cps.size⟩
theorem draws_s {P : Program} {w : World} {A : Around} (hh : A.handled = none) (it : Addr) (z : Str) (t : Tok) (ty : String) (hty : ty = "str_ascii_iterator" ∨ ty = "str_iterator") :
    Draws P w A it [it] z.cps.size (fun i v => ∃ c u, z.cps[i]? = some c ∧ v = .str ⟨#[c]⟩ u) (fun i h => h.IsStrIter it ty z t i) := by
  rcases hty with e | e
  · rw [e]; exact Draws.strAscii hh it z t
  · rw [e]; exact Draws.strWide hh it z t
theorem turn_enumS {P : Program} {w : World} {K : PySem.W.Frag} {elts : List Expr} {kk : Nat} {tpos : Pos} (z : Str) (t : Tok) (e it : Addr) (ty : String) (hty : ty = "str_ascii_iterator" ∨ ty = "str_iterator") :
    Turn P w K (.Tuple elts kk tpos) (Ies z) [e, it] e (fun i h => (∃ old, IsEnum h e it ((i : Nat) : Int) old) ∧ h.IsStrIter it ty z t i ∧ e ≠ it) where
  mem := by simp
  obj := fun i h st b hb => by
    obtain ⟨⟨old, he⟩, ⟨o, ho, hc, hd⟩, _⟩ := st
    rcases (show b = e ∨ b = it by simpa using hb) with y | y <;> rw [y]
    · exact ⟨_, he, fun v q => nomatch q⟩
    · exact ⟨o, ho, fun v q => by rw [hd] at q; cases q⟩
  keep := fun i h h' st k => let ⟨⟨old, he⟩, ⟨o, ho, r⟩, hne⟩ := st; ⟨⟨old, k e (by simp) _ he⟩, ⟨o, k it (by simp) o ho, r⟩, hne⟩
  item := by
    intro X hP hw hK hc i pins s σ H E I hf st hg
    subst hP hw hK
    obtain ⟨⟨old, he⟩, hit, hne⟩ := st
    have le1 : e < s.heap.objs.size := Heap.lt_size he
    have le2 : it < s.heap.objs.size := by obtain ⟨_, q, _⟩ := id hit; exact Heap.lt_size q
    refine wpAny_pyNext_enum_itemD (draws_s (show X.A.in1.handled = none from I.ok.hd hc) it z t ty hty) he hit hg hne (by simp [hne]) fun x h' tk hP ho hit' hT hsz hk => ?_
    obtain ⟨c, u, hcx, rfl⟩ := hP
    refine ⟨_, rfl, wpAny_letOwnedTupleGo_enum (s := { s with heap := h', toks := tk + 1 }) ho fun g he' sb => ?_⟩
    have hT2 : g.get? s.heap.objs.size = some { cls := .type "tuple", data := .seq #[.int i tk, .str ⟨#[c]⟩ u] } := (sb.2 _ (Nat.ne_of_gt le1)).trans hT
    have new : ObjOk X.prog X.w (upd H s.heap.objs.size (.tup [.int (i : Nat), .str ⟨#[c]⟩])) g s.heap.objs.size (.tup [.int (i : Nat), .str ⟨#[c]⟩]) :=
      ⟨by show 2 ≤ sizeLine; decide, [.int i tk, .str ⟨#[c]⟩ u], .cons ⟨_, rfl⟩ (.cons ⟨_, rfl⟩ .nil), ⟨_, hT2, rfl, _, rfl⟩⟩
    have I1 : Inv X pins σ (upd H s.heap.objs.size (.tup [.int (i : Nat), .str ⟨#[c]⟩])) { s with heap := g, toks := tk + 1 } :=
      I.turnedNew (ch := [e, it]) (fun b ob hb q => (sb.2 b (fun y => hb (by simp [y]))).trans (hk b ob (fun y => hb (by simp [y])) (fun y => hb (by simp [y])) q)) hf (Nat.le_refl _) new
    obtain ⟨o, ho2, r⟩ := hit'
    refine ⟨.ref s.heap.objs.size, _, I1, rfl, ⟨_, c, rfl, I.hok.fresh (Nat.le_refl _), rfl, hcx⟩, ⟨⟨.str ⟨#[c]⟩ u, ?_⟩, ⟨o, (sb.2 it (Ne.symm hne)).trans ho2, r⟩, hne⟩, fun b hb => ?_⟩
    · rw [show ((i + 1 : Nat) : Int) = (i : Int) + 1 by omega]
      exact he'
    · have lb : b < s.heap.objs.size := by
        rcases (show b = e ∨ b = it by simpa using hb) with y | y <;> rw [y] <;> assumption
      rw [upd_ne (Nat.ne_of_lt lb)]
      exact (hf b hb).1
  done := by
    intro X hP hw hK hc i pins s σ H E I hf st hg
    subst hP hw hK
    obtain ⟨⟨old, he⟩, hit, hne⟩ := st
    obtain ⟨f0, f1, f2, f3, f4, f5⟩ := hf it (by simp)
    have hg2 : i = z.cps.size := hg
    subst hg2
    exact wpAny_pyNext_enum_endD (draws_s (show X.A.in1.handled = none from I.ok.hd hc) it z t ty hty) he hit fun h' eb => ⟨rfl, I.turned (t' := s.toks) (fun b o hb q => eb b o hb q) f0 f1 f3 f4 f5⟩
  self := fun A i s Q E st h => let ⟨⟨_, he⟩, _⟩ := st; wpAny_pyIter_enum he h
def iEnumS (ta : TA) : TI := fun σ H R => ta σ H fun vs H1 => ∃ z : Str, vs = [.str z] ∧ R (Ies z) H1
theorem pi_enumS {X : Cx} {e : Expr} {ta : TA} {p pos tpos : Pos} {elts : List Expr} {kk : Nat} (hg : Gl X "enumerate") (hm : X.mg "enumerate" = none) (ha : PA X [e] ta) (hs : starEach [e] X.env = [(false, eval e X.env)] := by rfl) :
    PI X (.Tuple elts kk tpos) (.Call (.Name "enumerate" p) [e] [] pos) (iEnumS ta) := by
  refine ⟨fun pins s σ H R I h => ?_⟩
  refine Call_ (ld_blt I hg hm boot_enumerate (PyProof.Rows.callWith_type1 (thn (ha.run pos pins s σ H _ I h) fun us s1 ⟨vs, H1, I1, r1, z, ex, q⟩ => ?_) hs rfl))
  subst ex
  cases r1 with
  | cons r rr =>
    cases rr
    obtain ⟨t, rfl⟩ := r
    refine call_enumerate_str fun h' he hit hsz hk => wpAny_pyIter_enum he ?_
    have hty : strIterType z = "str_ascii_iterator" ∨ strIterType z = "str_iterator" := by
      unfold strIterType
      split
      · exact .inl rfl
      · exact .inr rfl
    refine ⟨s1.heap.objs.size + 1, [s1.heap.objs.size + 1, s1.heap.objs.size], _, _, H1, rfl, I1.kept (t' := s1.toks) hk, turn_enumS z t (s1.heap.objs.size + 1) s1.heap.objs.size (strIterType z) hty, ⟨⟨.none, he⟩, hit, Nat.succ_ne_self _⟩, fun b hb => ?_, q⟩
    have le : s1.heap.objs.size ≤ b := by
      rcases (show b = s1.heap.objs.size + 1 ∨ b = s1.heap.objs.size by simpa using hb) with y | y <;> rw [y] <;> simp
    exact I1.fpOk le (I1.hok.fresh le)
theorem walk_enumS {z : Str} : Walk (Ies z) z.cps.size (fun _ => True) (YPair (fun i => some (.int (i : Nat))) (fun i => z.cps[i]?.map fun c => .str ⟨#[c]⟩)) := by
  refine ⟨fun _ _ hi _ => hi, fun _ _ => rfl, fun i H v H' _ _ y => ?_⟩
  obtain ⟨T, c, h1, h2, h3, h4⟩ := y
  exact ⟨T, .int (i : Nat), _, h1, h2, h3, rfl, by simp [h4]⟩
end
section
variable {B : Bs} {ρ : Rho} {ts : TA} {D : Ends} {s bd : TS} {l : List Nat}
theorem ej_enumS (h : Eab B ts ρ [.str (strL l)]) : Ej B (iEnumS ts) ρ (enumD (l.map fun c => Da.str ⟨#[c]⟩)) := fun S H σ cs st R r => h S H σ cs st _ fun ws S1 H1 s1 f1 => by
  obtain ⟨x, xr, rfl, g, g'⟩ := f1.cons_inv
  cases g'.nil_inv
  cases g
  refine ⟨strL l, rfl, r _ S1 H1 s1 (wk_of (walk_enumS (z := strL l)) (by simp [enumD, strL]) (fun _ _ => True.intro) fun i H2 x H3 S2 hi e1 e2 y => ?_)⟩
  obtain ⟨T, v, w, rfl, hT, rfl, h1, h2⟩ := y
  cases h1
  have e : (strL l).cps[i]? = l[i]? := by simp [strL]
  dsimp only at h2
  rw [e] at h2
  obtain ⟨c, hc, rfl⟩ := Option.map_eq_some_iff.mp h2
  refine ⟨upd S2 T (.tup [.int (i : Nat), .str ⟨#[c]⟩]), step_tup e2 hT, fun d hd => ?_⟩
  obtain ⟨e, he, rfl⟩ := enumD_at hd
  rw [List.getElem?_map, hc] at he
  cases he
  exact pair_dq (e2.free hT) (.int _) (.str _)
/-- for i, c in enumerate(text) -/
theorem q_forES {i1 i2 : Nat} (h : Eab B ts ρ [.str (strL l)]) (P : Nat → Rho → Prop) (h0 : P 0 ρ)
    (hs : ∀ S1, Lb B S1 → ∀ (i : Nat) c ρ', l[i]? = some c → P i ρ' → Gd ⟨B.K, S1, B.E0⟩ bd { D with nx := Nx ⟨B.K, S1, B.E0⟩ (P (i + 1)), ct := Nx ⟨B.K, S1, B.E0⟩ (P (i + 1)), bk := s D } ((ρ'.set i1 (some (.sh (.int (i : Nat))))).set i2 (some (.sh (.str ⟨#[c]⟩)))))
    (hd : ∀ ρ', P l.length ρ' → Gd B s D ρ') : Gd B (tSeq (tFor (iEnumS ts) (gTup B.K 2 (gCons (gName i1) (gCons (gName i2) gNil))) bd) s) D ρ := q_for (ej_enumS h) P h0 (fun S1 l' i d ρ' h1 h2 => by
    obtain ⟨e, he, rfl⟩ := enumD_at h1
    rw [List.getElem?_map] at he
    obtain ⟨x, hx, rfl⟩ := Option.map_eq_some_iff.mp he
    exact ⟨_, gt_tup (gts_cons gt_name (gts_cons gt_name gts_nil)) rfl, hs S1 l' i x ρ' hx h2⟩) fun ρ' p => hd ρ' (by simpa [enumD] using p)
end
local macro_rules | `(tactic| walk_at "Y.ej") => `(tactic| ((with_reducible apply ej_enumS); (· walk_at "Y.eab")))

theorem cshl_1 {n : Int} (h : 0 ≤ n) (h2 : n ≤ 1000000) : CShl 1 n := ⟨h, by
  have e : (Builtin.Int.intBits 1 : Int) = 1 := by decide
  rw [e]
  omega⟩
theorem cpow_10 : CPow 10 39 := by unfold CPow; decide
theorem pow_10 : (0 : Int) < 10 ^ (39 : Int).toNat := by decide
theorem flat_take {α β : Type} {l : List α} {f : α → List β} {i : Nat} {x : α} (h : l[i]? = some x) : (l.take (i + 1)).flatMap f = (l.take i).flatMap f ++ f x := by
  rw [List.take_add_one, h, List.flatMap_append]
  simp
theorem range_take {β : Type} {n j : Nat} (f : Nat → β) (h : j < n) : ((List.range n).map f).take (j + 1) = ((List.range n).map f).take j ++ [f j] := by
  have e : ((List.range n).map f)[j]? = some (f j) := by rw [List.getElem?_map, List.getElem?_range h]; rfl
  rw [List.take_add_one, e]
  rfl
theorem sign01 (r : Int) : atI (("01" : Str).cps.toList) (r % 2) = some ((48 + r % 2).toNat) := by
  have h : r % 2 = 0 ∨ r % 2 = 1 := by omega
  rcases h with h | h <;> rw [h] <;> decide +kernel
theorem sgn (n : Nat) : (⟨#[n]⟩ : Str) = strL [n] := rfl
theorem div_div (c : Int) (j : Nat) : c / 2 ^ j / 2 = c / 2 ^ (j + 1) := by
  rw [Int.ediv_ediv_of_nonneg (by have := Int.pow_pos (n := 2) (m := j) (by omega); omega), Int.pow_succ]
theorem one_str : ("1" : Str) = strL [49] := by decide +kernel
theorem mem_cutV {xs : List V} {lo hi : Option Int} {x : V} (h : x ∈ cutV xs lo hi) : x ∈ xs := List.mem_of_mem_drop (List.mem_of_mem_take h)
theorem mem_ints {cs : List Int} {x : V} (h : x ∈ cs.map V.int) : ∃ c, x = .int c := by
  obtain ⟨c, _, rfl⟩ := List.mem_map.mp h
  exact ⟨c, rfl⟩
local macro_rules | `(tactic| walk_at "Y.side") => `(tactic| first | with_reducible exact cpow_10 | with_reducible exact pow_10 | ((with_reducible apply cshl_1); (· omega); (· omega)) | fail)

/-! keys: numbers and texts -/
inductive KeyM where
  | n (i : Int)
  | s (l : List Nat)
deriving DecidableEq
def kd : KeyM → Da
  | .n i => .int i
  | .s l => .str (strL l)
def SG : List Nat := ("abcdefghijklmnopqrstuvwxyz0123456789-_ " : Str).cps.toList
theorem SG_len : SG.length = 39 := by decide +kernel
def okK : KeyM → Bool
  | .n i => decide (0 ≤ i) && decide (i ≤ 999999999999999999)
  | .s l => l.all (fun c => decide (c ∈ SG)) && decide (l.length ≤ 11)
theorem okK_s {l : List Nat} : okK (.s l) = (l.all (fun c => decide (c ∈ SG)) && decide (l.length ≤ 11)) := rfl
theorem okK_n {i : Int} : okK (.n i) = (decide (0 ≤ i) && decide (i ≤ 999999999999999999)) := rfl
def smK : KeyM → Bool
  | .n _ => true
  | .s l => decide (l.length ≤ 1000000)
def worthL (l : List Nat) : Int := l.foldl (fun (w : Int) (c : Nat) => 40 * w + (SG.idxOf c : Nat) + 1) 0
theorem worthL_snoc (l : List Nat) (c : Nat) : worthL (l ++ [c]) = 40 * worthL l + (SG.idxOf c : Nat) + 1 := by
  unfold worthL
  rw [List.foldl_append]
  rfl
def stampK : KeyM → Int
  | .n i => 2 * i
  | .s l => 2 * worthL l + 1
def mixedM (number salt size : Int) : Int :=
  let f := 1 + (1103515245 * salt + 12345) % (2305843009213693951 - 1)
  let a := (69069 * salt * salt + 7 * salt) % 2305843009213693951
  let x := (f * number + a) % 2305843009213693951
  (x + x / 2147483648) % size
theorem mixedM_in (number salt : Int) {size : Int} (h : 0 < size) : 0 ≤ mixedM number salt size ∧ mixedM number salt size < size := ⟨Int.emod_nonneg _ (by omega), Int.emod_lt_of_pos _ h⟩
theorem idx_all : SG.all (fun c => match Builtin.Str.occurrences ("abcdefghijklmnopqrstuvwxyz0123456789-_ " : Str) ⟨#[c]⟩ 0 ("abcdefghijklmnopqrstuvwxyz0123456789-_ " : Str).length 1 with | i :: _ => i == SG.idxOf c | [] => false) = true := by decide +kernel
theorem idx_at {c : Nat} (h : c ∈ SG) : ∃ rest, Builtin.Str.occurrences ("abcdefghijklmnopqrstuvwxyz0123456789-_ " : Str) ⟨#[c]⟩ 0 ("abcdefghijklmnopqrstuvwxyz0123456789-_ " : Str).length 1 = SG.idxOf c :: rest := by
  have z := List.all_eq_true.mp idx_all c h
  cases e : Builtin.Str.occurrences ("abcdefghijklmnopqrstuvwxyz0123456789-_ " : Str) ⟨#[c]⟩ 0 ("abcdefghijklmnopqrstuvwxyz0123456789-_ " : Str).length 1 with
  | nil => rw [e] at z; cases z
  | cons i r =>
    rw [e] at z
    exact ⟨r, by rw [eq_of_beq z]⟩
def rSIx : V → List V → Hp → VK → Prop := fun x xs H Q => ∃ a b i rest, x = .str a ∧ xs = [.str b] ∧ Builtin.Str.occurrences a b 0 a.length 1 = i :: rest ∧ Q (.int (i : Nat)) H
theorem mt_sindexA {X : Cx} : MtR X "str.index" rSIx := mt_sindex
theorem o_sIdx {K : PySem.W.Frag} {c : Nat} (h : c ∈ SG) : OpM K rSIx (.str "abcdefghijklmnopqrstuvwxyz0123456789-_ ") [.str ⟨#[c]⟩] (.int (SG.idxOf c : Nat)) := ⟨_, rfl, fun H vx vs Q h1 h2 q => by
  obtain ⟨x, r, rfl, g2, g3⟩ := h2.cons_inv
  cases g3.nil_inv
  cases h1
  cases g2
  obtain ⟨r, e⟩ := idx_at h
  exact ⟨_, _, _, r, rfl, rfl, e, q⟩⟩
theorem okS {l : List Nat} (h : okK (.s l) = true) : (∀ c ∈ l, c ∈ SG) ∧ l.length ≤ 11 := by
  rw [okK_s, Bool.and_eq_true] at h
  exact ⟨fun c hc => of_decide_eq_true (List.all_eq_true.mp h.1 c hc), of_decide_eq_true h.2⟩
theorem okK_sm {k : KeyM} (h : okK k = true) : smK k = true := by
  cases k with
  | n i => rfl
  | s l => exact decide_eq_true (by have := (okS h).2; omega)
theorem worth_nn (l : List Nat) : 0 ≤ worthL l := by
  have key : ∀ (m : List Nat) (w : Int), 0 ≤ w → 0 ≤ m.foldl (fun (w : Int) (c : Nat) => 40 * w + (SG.idxOf c : Nat) + 1) w := by
    intro m
    induction m with
    | nil => intro w h; exact h
    | cons a r ih =>
      intro w h
      exact ih _ (by show 0 ≤ 40 * w + ((SG.idxOf a : Nat) : Int) + 1; omega)
  exact key l 0 (by omega)

theorem ej_strL {B : Bs} {te : TE} {ρ : Rho} {l : List Nat} (h : Eb B te ρ (.str (strL l))) : Ej B (iStr te) ρ (l.map fun c => Da.str ⟨#[c]⟩) := by
  have z := ej_str h
  unfold sgnsD at z
  rw [strL_list] at z
  exact z
theorem kd_inj : ∀ a b : KeyM, kd a = kd b → a = b
  | .n i, .n j, h => by cases h; rfl
  | .s l, .s m, h => by
    have e : strL l = strL m := by injection h
    rw [strL_inj e]
  | .n _, .s _, h => nomatch h
  | .s _, .n _, h => nomatch h
theorem kd_fc (k : KeyM) : Fc (kd k) := by cases k <;> first | exact Fc.int | exact Fc.str
theorem kd_flat (k : KeyM) : (kd k).fl.isSome = true := by cases k <;> rfl
theorem strOk_SG {l : List Nat} (h : ∀ c ∈ l, c ∈ SG) : PyData.strOk (strL l) = true := by
  have ha : SG.all (fun c => decide (c < 0x110000)) = true := by decide +kernel
  show (strL l).cps.all (fun c => decide (c < 0x110000)) = true
  rw [← Array.all_toList, strL_list]
  exact List.all_eq_true.mpr fun c hc => List.all_eq_true.mp ha c (h c hc)
theorem kd_pl {k : KeyM} {n : Nat} (h : okK k = true) : Pl n (kd k) := by
  cases k with
  | n i => exact .int
  | s l => exact .str (strOk_SG (okS h).1)
theorem kd_cl (k : KeyM) : Cl (kd k) := (kd_fc k).1
theorem kds_pl {ks : List KeyM} {n : Nat} (h : ∀ k ∈ ks, okK k = true) : Pl (n + 1) (.nd .lst (ks.map kd)) := .lst fun d hd => by
  obtain ⟨k, hk, rfl⟩ := List.mem_map.mp hd
  exact kd_pl (h k hk)
theorem o_inKs {K : PySem.W.Frag} {k : KeyM} {ks : List KeyM} : Op2 K (rInA K) (kd k) (.nd .lst (ks.map kd)) (.bl (decide (k ∈ ks))) := o_inM (.inl rfl) kd_inj kd_fc
theorem o_ninKs {K : PySem.W.Frag} {k : KeyM} {ks : List KeyM} : Op2 K (rNinA K) (kd k) (.nd .lst (ks.map kd)) (.bl (!decide (k ∈ ks))) := o_ninM (.inl rfl) kd_inj kd_fc
local macro_rules | `(tactic| walk_at "Y.op") => `(tactic| first | with_reducible exact o_inKs | with_reducible exact o_ninKs | fail)
local macro_rules | `(tactic| walk_at "Y.opM") => `(tactic| ((with_reducible apply o_sIdx); (· walk_at "Y.side")))
inductive R_is_key : Rel
  | c1 {k : KeyM} (h : smK k = true) : R_is_key [kd k] (.ret (.sh (.bl (okK k))))
local macro_rules | `(tactic| walk_at "Y.call") => `(tactic| ((with_reducible apply R_is_key.c1); (· walk_at "Y.side")))
theorem ok_is_key {P : Program} {w : World} {K : PySem.W.Frag} {mg : Str → Option Value} {base : Heap} (T : Txt K mg) : FnOk P w K mg base (L2.CX P w) 1 T.d_is_key.f T.d_is_key.fd ["thing"] (SpD K R_is_key) := by
  refine T.d_is_key.F.ok sc_is_key (fun vs H Q E h => spd_len (R := R_is_key) (fun ds o r => by cases r <;> rfl) h) (fun cdv A outer s H vs Q E hr h => ?_)
  obtain ⟨ds, o, S, r, hd, hS, hq⟩ := h
  have hu := hu_of hr
  refine ⟨_, (pss_cons (ps_if (pt_val (pe_callB (r := rIsi K) call_isi (by rfl) T.z_isinstance (by decide +kernel) (pa_cons (pv 0) (pa_cons (pe_bltn (v := .ty "int") (by rfl) T.z_int (by decide +kernel) rfl) pa_nil)))) (pss_one (ps_ret (pe_chain op_le op_le pe_int (pv 0) (pe_glob (v := .int 999999999999999999) (by rfl) T.k_MOST_NUMBER ⟨_, rfl⟩)))) pss_nil)
  (pss_cons (ps_for (passes_of rfl) rfl (pi_str (pv 0)) (pg_name (i := 1) sc_is_key.nd rfl (Or.inl rfl))
  (pss_one (ps_if (pt_cmpR (r := rNinA K) (op_notinA hu) (pv 1) (pe_glob (v := .str "abcdefghijklmnopqrstuvwxyz0123456789-_ ") (by rfl) T.k_SIGNS ⟨_, rfl⟩) (by rfl)) (pss_one (ps_ret pe_bl)) pss_nil)))
  (pss_one (ps_ret (pe_cmpR op_le (pe_callB (r := rLenA K) call_lenA (by rfl) T.z_len (by decide +kernel) (pa_cons (pv 0) pa_nil)) (pe_glob (v := .int 11) (by rfl) T.k_MOST_SIGNS ⟨_, rfl⟩) (nomark _)))))), ?_⟩
  clear hr hu
  cases r with
  | @c1 k h =>
    have q := hq.ret
    refine body_gd (n := 1) hd hS rfl ?_
    show Gd _ _ _ [some (.sh (kd k)), none]
    clear hq hd
    try dsimp only [cxOf]
    cases k with
    | n i =>
      dsimp only [kd]
      walk_at "Y.q"
      · intro _
        walk_at "Y.ret"
      · intro hb
        cases hb
    | s l =>
      dsimp only [kd]
      have hl : l.length ≤ 1000000 := of_decide_eq_true h
      have hz : (strL l).length ≤ sizeLine := by rw [strL_len]; exact small_line hl
      walk_at "Y.q"
      · intro hb
        cases hb
      · intro _
        refine q_forM (f := fun c => Da.str ⟨#[c]⟩) (xs := l) (ej_strL (by walk_at "Y.eb")) (fun i ρ => ∃ x, ρ = [some (.sh (.str (strL l))), x] ∧ ∀ c ∈ l.take i, c ∈ SG) ⟨_, rfl, fun c hc => by simp at hc⟩ ?_ ?_
        · rintro S1 lb i c ρ' hc ⟨x, rfl, hall⟩
          walk_at "Y.rho"
          walk_at "Y.last"
          walk_at "Y.q"
          · intro hb
            have hno : c ∉ SG := by simpa [SG] using hb
            have e : okK (.s l) = false := by
              rw [okK_s]
              have : l.all (fun c => decide (c ∈ SG)) = false := by
                rw [List.all_eq_false]
                exact ⟨c, List.mem_of_getElem? hc, by simpa using hno⟩
              rw [this]
              rfl
            rw [e] at q
            walk_at "Y.ret"
          · intro hb
            have hin : c ∈ SG := by simpa [SG] using hb
            walk_at "Y.nx"
            refine ⟨_, rfl, ?_⟩
            rw [List.take_add_one, hc]
            intro d hd
            rcases List.mem_append.mp hd with h | h
            · exact hall d h
            · have : d = c := by simpa using h
              rw [this]
              exact hin
        · rintro ρ' ⟨x, rfl, hall⟩
          rw [List.take_length] at hall
          have e : okK (.s l) = decide (((strL l).length : Int) ≤ 11) := by
            rw [okK_s, strL_len, List.all_eq_true.mpr fun c hc => decide_eq_true (hall c hc), Bool.true_and]
            apply decide_eq_decide.mpr
            omega
          rw [e] at q
          walk_at "Y.ret"
inductive R_stamp : Rel
  | c1 {k : KeyM} (h : okK k = true) : R_stamp [kd k] (.ret (.sh (.int (stampK k))))
  | c2 {k : KeyM} (h : okK k = false ∧ smK k = true) : R_stamp [kd k] (.exc "NoKey" (some (.int 0)))
local macro_rules | `(tactic| walk_at "Y.call") => `(tactic| ((with_reducible apply R_stamp.c1); (· walk_at "Y.side")))
local macro_rules | `(tactic| walk_at "Y.call") => `(tactic| ((with_reducible apply R_stamp.c2); (· walk_at "Y.side")))
theorem ok_stamp {P : Program} {w : World} {K : PySem.W.Frag} {mg : Str → Option Value} {base : Heap} (T : Txt K mg) : FnOk P w K mg base (L2.CX P w) 3 T.d_stamp.f T.d_stamp.fd ["key"] (SpD K R_stamp) := by
  have G_is_key := ok_is_key (P := P) (w := w) (base := base) T
  have G_NoKey_init := ok_NoKey_init (P := P) (w := w) (base := base) T
  refine T.d_stamp.F.ok sc_stamp (fun vs H Q E h => spd_len (R := R_stamp) (fun ds o r => by cases r <;> rfl) h) (fun cdv A outer s H vs Q E hr h => ?_)
  obtain ⟨ds, o, S, r, hd, hS, hq⟩ := h
  have hu := hu_of hr
  refine ⟨_, (pss_cons (ps_if (pt_not (pt_val (pe_call G_is_key (hr.mono (by decide)) (by rfl) T.g_is_key T.d_is_key.kp T.d_is_key.b .nil passE (pa_cons (pv 0) pa_nil)))) (pss_one (ps_raiseO (pmk_oex T.ox_NoKey T.i_NoKey T.it_NoKey G_NoKey_init (hr.mono (by decide)) T.d_NoKey_init.b .nil passL (by rfl) T.c_NoKey (pa_cons pe_int pa_nil)))) pss_nil)
  (pss_cons (ps_if (pt_val (pe_callB (r := rIsi K) call_isi (by rfl) T.z_isinstance (by decide +kernel) (pa_cons (pv 0) (pa_cons (pe_bltn (v := .ty "int") (by rfl) T.z_int (by decide +kernel) rfl) pa_nil)))) (pss_one (ps_ret (pe_op (r := rMulN) op_mulN pe_int (pv 0)))) pss_nil)
  (pss_cons (ps_set (i := 1) sc_stamp.nd rfl (Or.inl rfl) pe_int)
  (pss_cons (ps_for (passes_of rfl) rfl (pi_str (pv 0)) (pg_name (i := 2) sc_stamp.nd rfl (Or.inl rfl))
  (pss_one (ps_set (i := 1) sc_stamp.nd rfl (Or.inl rfl) (pe_op (r := rAddN) op_addN (pe_op (r := rAddN) op_addN (pe_op (r := rMulN) op_mulN pe_int (pv 1)) (pe_m1 (r := rSIx) PySem.F.slot_str_index PySem.F.type_str_index mt_sindexA (pe_glob (v := .str "abcdefghijklmnopqrstuvwxyz0123456789-_ ") (by rfl) T.k_SIGNS ⟨_, rfl⟩) (pv 2))) pe_int))))
  (pss_one (ps_ret (pe_op (r := rAddN) op_addN (pe_op (r := rMulN) op_mulN pe_int (pv 1)) pe_int))))))), ?_⟩
  clear hr hu
  cases r with
  | @c1 k h =>
    have q := hq.ret
    refine body_gd (n := 2) hd hS rfl ?_
    show Gd _ _ _ [some (.sh (kd k)), none, none]
    clear hq hd
    try dsimp only [cxOf]
    have hsm := okK_sm h
    walk_at "Y.q"
    · intro hb
      rw [h] at hb
      cases hb
    · intro _
      cases k with
      | n i =>
        dsimp only [kd]
        walk_at "Y.q"
        · intro _
          walk_at "Y.ret"
        · intro hb
          cases hb
      | s l =>
        dsimp only [kd]
        obtain ⟨hs, hl⟩ := okS h
        walk_at "Y.q"
        · intro hb
          cases hb
        · intro _
          walk_at "Y.q"
          refine q_forM (f := fun c => Da.str ⟨#[c]⟩) (xs := l) (ej_strL (by walk_at "Y.eb")) (fun i ρ => ∃ x, ρ = [some (.sh (.str (strL l))), some (.sh (.int (worthL (l.take i)))), x]) ⟨_, rfl⟩ ?_ ?_
          · rintro S1 lb i c ρ' hc ⟨x, rfl⟩
            walk_at "Y.rho"
            walk_at "Y.last"
            have hcs := hs c (List.mem_of_getElem? hc)
            walk_at "Y.q"
            walk_at "Y.nx"
            refine ⟨some (.sh (.str ⟨#[c]⟩)), ?_⟩
            rw [List.take_add_one, hc]
            have e := worthL_snoc (l.take i) c
            rw [show (some c).toList = [c] from rfl, e]
          · rintro ρ' ⟨x, rfl⟩
            rw [List.take_length]
            walk_at "Y.ret"
  | @c2 k h =>
    have q := hq.exc
    refine body_gd (n := 2) hd hS rfl ?_
    show Gd _ _ _ [some (.sh (kd k)), none, none]
    clear hq hd
    try dsimp only [cxOf]
    obtain ⟨h1, h2⟩ := h
    walk_at "Y.q"
    · intro _
      exact x_raiseO eb_int rfl q
    · intro hb
      rw [h1] at hb
      cases hb

/-! unlike keys, unlike stamps -/
theorem worth_pos (l : List Nat) (c : Nat) : worthL (l ++ [c]) ≥ 1 := by
  rw [worthL_snoc]
  have := worth_nn l
  omega
theorem worthR_inj : ∀ {l m : List Nat}, (∀ c ∈ l, c ∈ SG) → (∀ c ∈ m, c ∈ SG) → worthL l.reverse = worthL m.reverse → l = m
  | [], [], _, _, _ => rfl
  | [], d :: m, _, _, e => by
    have := worth_pos m.reverse d
    rw [List.reverse_cons] at e
    rw [← e] at this
    exact absurd this (by decide)
  | c :: l, [], _, _, e => by
    have := worth_pos l.reverse c
    rw [List.reverse_cons] at e
    rw [e] at this
    exact absurd this (by decide)
  | c :: l, d :: m, hl, hm, e => by
    rw [List.reverse_cons, List.reverse_cons, worthL_snoc, worthL_snoc] at e
    have c1 : SG.idxOf c < SG.length := List.idxOf_lt_length_of_mem (hl c (.head _))
    have d1 : SG.idxOf d < SG.length := List.idxOf_lt_length_of_mem (hm d (.head _))
    have c2 := c1
    have d2 := d1
    rw [SG_len] at c2 d2
    have e1 : worthL l.reverse = worthL m.reverse := by omega
    have e2 : SG.idxOf c = SG.idxOf d := by omega
    have e3 := worthR_inj (fun x hx => hl x (.tail _ hx)) (fun x hx => hm x (.tail _ hx)) e1
    have z1 := List.getElem_idxOf c1
    have z2 := List.getElem_idxOf d1
    have e4 : c = d := by
      rw [← z1, ← z2]
      simp only [e2]
    rw [e3, e4]
theorem worthL_inj {l m : List Nat} (hl : ∀ c ∈ l, c ∈ SG) (hm : ∀ c ∈ m, c ∈ SG) (e : worthL l = worthL m) : l = m := by
  have z := worthR_inj (l := l.reverse) (m := m.reverse) (fun c hc => hl c (List.mem_reverse.mp hc)) (fun c hc => hm c (List.mem_reverse.mp hc)) (by rw [List.reverse_reverse, List.reverse_reverse]; exact e)
  exact List.reverse_inj.mp z
theorem stampK_inj {a b : KeyM} (ha : okK a = true) (hb : okK b = true) (e : stampK a = stampK b) : a = b := by
  cases a with
  | n i => cases b with
    | n j =>
      have : 2 * i = 2 * j := e
      rw [show i = j by omega]
    | s m =>
      have : 2 * i = 2 * worthL m + 1 := e
      omega
  | s l => cases b with
    | n j =>
      have : 2 * worthL l + 1 = 2 * j := e
      omega
    | s m =>
      have : 2 * worthL l + 1 = 2 * worthL m + 1 := e
      rw [worthL_inj (okS ha).1 (okS hb).1 (by omega)]
theorem stamps_nd : ∀ {ks : List KeyM}, (∀ k ∈ ks, okK k = true) → ks.Nodup → (ks.map stampK).Nodup
  | [], _, _ => List.nodup_nil
  | k :: r, h, nd => by
    rw [List.nodup_cons] at nd
    rw [List.map_cons, List.nodup_cons]
    refine ⟨fun z => ?_, stamps_nd (fun k hk => h k (.tail _ hk)) nd.2⟩
    obtain ⟨x, hx, e⟩ := List.mem_map.mp z
    exact nd.1 (stampK_inj (h x (.tail _ hx)) (h k (.head _)) e ▸ hx)

/-! ## places that are tied, walked -/
abbrev Tie := Int × Int × Int
abbrev Fnd := Int × Int × Int
def plF (F : List Fnd) : List Int := F.map Prod.fst
def endOf (t : Tie) (p : Int) : Prop := p = t.2.1 ∨ p = t.2.2
def oth (t : Tie) (p : Int) : Int := t.2.1 + t.2.2 - p
theorem oth_end {t : Tie} {p : Int} (h : endOf t p) : endOf t (oth t p) := by
  unfold endOf oth at *
  omega
theorem oth_oth {t : Tie} {p : Int} : oth t (oth t p) = p := by
  unfold oth
  omega
instance endDec (t : Tie) (p : Int) : Decidable (endOf t p) := inferInstanceAs (Decidable (_ ∨ _))
def rfOne (here : Int) (st : List Fnd × List Int) (t : Tie) : List Fnd × List Int :=
  if endOf t here ∧ ¬ oth t here ∈ plF st.1 then (st.1 ++ [(oth t here, t.1, here)], st.2 ++ [oth t here]) else st
def rfTurn (E : List Tie) (here : Int) (st : List Fnd × List Int) : List Fnd × List Int := E.foldl (rfOne here) st
def rfRun (E : List Tie) : Nat → List Fnd × List Int → List Fnd
  | 0, st => st.1
  | n + 1, st => match st.2.getLast? with
    | none => st.1
    | some h => rfRun E n (rfTurn E h (st.1, st.2.dropLast))
def reachM (E : List Tie) (start wo : Int) : List Fnd := rfRun E (2 * E.length + 1) ([(start, wo, start)], [start])
def univT (E : List Tie) (start : Int) : List Int := start :: E.flatMap fun t => [t.2.1, t.2.2]
theorem univT_len (E : List Tie) (start : Int) : (univT E start).length = 2 * E.length + 1 := by
  unfold univT
  rw [List.length_cons]
  congr 1
  induction E with
  | nil => rfl
  | cons t r ih => rw [List.flatMap_cons, List.length_append, ih]; simp only [List.length_cons, List.length_nil]; omega
theorem nd_len : ∀ {l m : List Int}, l.Nodup → (∀ x ∈ l, x ∈ m) → l.length ≤ m.length
  | [], _, _, _ => Nat.zero_le _
  | x :: l, m, h, s => by
    rw [List.nodup_cons] at h
    have hx := s x (.head _)
    have z := nd_len (l := l) (m := m.erase x) h.2 fun y hy => (List.mem_erase_of_ne (fun e => h.1 (by rw [← e]; exact hy))).mpr (s y (.tail _ hy))
    rw [List.length_erase_of_mem hx] at z
    have : 0 < m.length := List.length_pos_of_mem hx
    rw [List.length_cons]
    omega
structure RfOk (E : List Tie) (start wo : Int) (st : List Fnd × List Int) : Prop where
  nd : (plF st.1).Nodup
  hd : st.1[0]? = some (start, wo, start)
  td : ∀ p ∈ st.2, p ∈ plF st.1
  par : ∀ (i : Nat) (x : Fnd), st.1[i]? = some x → 0 < i → ∃ t ∈ E, t.1 = x.2.1 ∧ endOf t x.2.2 ∧ x.1 = oth t x.2.2 ∧ x.2.2 ∈ plF (st.1.take i)
def RfCl (E : List Tie) (st : List Fnd × List Int) : Prop := ∀ p ∈ plF st.1, p ∉ st.2 → ∀ t ∈ E, endOf t p → oth t p ∈ plF st.1
theorem plF_app (F G : List Fnd) : plF (F ++ G) = plF F ++ plF G := List.map_append
theorem rfOk_univ {E : List Tie} {start wo : Int} {st : List Fnd × List Int} (h : RfOk E start wo st) : ∀ p ∈ plF st.1, p ∈ univT E start := by
  intro p hp
  obtain ⟨x, hx, rfl⟩ := List.mem_map.mp hp
  obtain ⟨i, hi⟩ := List.mem_iff_getElem?.mp hx
  unfold univT
  by_cases h0 : i = 0
  · subst h0
    rw [h.hd] at hi
    cases hi
    exact .head _
  · obtain ⟨t, ht, _, he, e, _⟩ := h.par i x hi (by omega)
    have := oth_end he
    rw [← e] at this
    refine .tail _ (List.mem_flatMap.mpr ⟨t, ht, ?_⟩)
    rcases this with z | z <;> rw [z] <;> simp
structure RfMid (E : List Tie) (start wo here : Int) (st : List Fnd × List Int) : Prop where
  ok : RfOk E start wo st
  hin : here ∈ plF st.1
  cl : ∀ p ∈ plF st.1, p ∉ st.2 → p ≠ here → ∀ t ∈ E, endOf t p → oth t p ∈ plF st.1
theorem rfOne_mid {E : List Tie} {start wo here : Int} {st : List Fnd × List Int} {t : Tie} (h : RfMid E start wo here st) (ht : t ∈ E) :
    RfMid E start wo here (rfOne here st t) ∧ (endOf t here → oth t here ∈ plF (rfOne here st t).1) ∧ (∀ p ∈ plF st.1, p ∈ plF (rfOne here st t).1) ∧ (rfOne here st t).2.length + st.1.length = st.2.length + (rfOne here st t).1.length := by
  unfold rfOne
  split
  · rename_i hc
    obtain ⟨hc1, hc2⟩ := hc
    have hsub : ∀ p ∈ plF st.1, p ∈ plF (st.1 ++ [(oth t here, t.1, here)]) := fun p hp => by
      rw [plF_app]
      exact List.mem_append_left _ hp
    have hnew : oth t here ∈ plF (st.1 ++ [(oth t here, t.1, here)]) := by
      rw [plF_app]
      exact List.mem_append_right _ (.head _)
    have hlen : 0 < st.1.length := by
      have := (List.getElem?_eq_some_iff.mp h.ok.hd).1
      exact this
    refine ⟨⟨⟨?_, ?_, ?_, ?_⟩, hsub _ h.hin, ?_⟩, fun _ => hnew, hsub, ?_⟩
    · show (plF (st.1 ++ [_])).Nodup
      rw [plF_app, List.nodup_append]
      refine ⟨h.ok.nd, by simp [plF], fun a ha b hb e => hc2 ?_⟩
      have hb : b = oth t here := List.mem_singleton.mp hb
      rw [← hb, ← e]
      exact ha
    · show (st.1 ++ [_])[0]? = _
      rw [List.getElem?_append_left hlen]
      exact h.ok.hd
    · intro p hp
      rcases List.mem_append.mp hp with hp | hp
      · exact hsub _ (h.ok.td p hp)
      · rw [List.mem_singleton.mp hp]
        exact hnew
    · intro i x hx h0
      dsimp only
      have hx : (st.1 ++ [(oth t here, t.1, here)])[i]? = some x := hx
      by_cases hi : i < st.1.length
      · rw [List.getElem?_append_left hi] at hx
        rw [List.take_append_of_le_length (by omega)]
        exact h.ok.par i x hx h0
      · have hil := (List.getElem?_eq_some_iff.mp hx).1
        rw [List.length_append, List.length_cons, List.length_nil] at hil
        have e : i = st.1.length := by omega
        subst e
        rw [List.getElem?_append_right (Nat.le_refl _), Nat.sub_self] at hx
        cases hx
        rw [List.take_left]
        exact ⟨t, ht, rfl, hc1, rfl, h.hin⟩
    · intro p hp hn hh t' ht' he
      have hp : p ∈ plF (st.1 ++ [(oth t here, t.1, here)]) := hp
      rw [plF_app] at hp
      rcases List.mem_append.mp hp with hp | hp
      · exact hsub _ (h.cl p hp (fun z => hn (List.mem_append_left _ z)) hh t' ht' he)
      · exact absurd (List.mem_append_right _ (by
          have : p = oth t here := List.mem_singleton.mp hp
          rw [this]
          exact .head _)) hn
    · simp only [List.length_append, List.length_cons, List.length_nil]
      omega
  · rename_i hc
    refine ⟨h, fun he => ?_, fun p hp => hp, rfl⟩
    exact Classical.byContradiction fun z => hc ⟨he, z⟩
theorem rfFold_mid {E : List Tie} {start wo here : Int} : ∀ (E2 : List Tie) (st : List Fnd × List Int), (∀ t ∈ E2, t ∈ E) → RfMid E start wo here st →
    RfMid E start wo here (rfTurn E2 here st) ∧ (∀ t ∈ E2, endOf t here → oth t here ∈ plF (rfTurn E2 here st).1) ∧ (∀ p ∈ plF st.1, p ∈ plF (rfTurn E2 here st).1) ∧ (rfTurn E2 here st).2.length + st.1.length = st.2.length + (rfTurn E2 here st).1.length
  | [], st, _, h => ⟨h, fun t ht => (by cases ht), fun p hp => hp, rfl⟩
  | t :: r, st, hs, h => by
    obtain ⟨h1, h2, h3, h4⟩ := rfOne_mid h (hs t (.head _))
    obtain ⟨g1, g2, g3, g4⟩ := rfFold_mid r (rfOne here st t) (fun t ht => hs t (.tail _ ht)) h1
    refine ⟨g1, fun t' ht' he => ?_, fun p hp => g3 p (h3 p hp), ?_⟩
    · rcases List.mem_cons.mp ht' with e | ht'
      · subst e
        exact g3 _ (h2 he)
      · exact g2 t' ht' he
    · show (rfTurn r here (rfOne here st t)).2.length + _ = _ + (rfTurn r here (rfOne here st t)).1.length
      omega
theorem rfRun_ok {E : List Tie} {start wo : Int} : ∀ (n : Nat) (st : List Fnd × List Int), RfOk E start wo st → RfCl E st → (univT E start).length + st.2.length ≤ n + st.1.length → RfOk E start wo (rfRun E n st, []) ∧ RfCl E (rfRun E n st, [])
  | 0, st, h, c, l => by
    have z := nd_len h.nd (rfOk_univ h)
    rw [plF, List.length_map] at z
    have e : st.2 = [] := List.eq_nil_of_length_eq_zero (by omega)
    have e2 : st = (st.1, []) := by rw [← e]
    rw [e2] at h c
    exact ⟨h, c⟩
  | n + 1, st, h, c, l => by
    unfold rfRun
    split
    · rename_i e
      have e : st.2 = [] := List.getLast?_eq_none_iff.mp e
      have e2 : st = (st.1, []) := by rw [← e]
      rw [e2] at h c
      exact ⟨h, c⟩
    · rename_i here e
      obtain ⟨hne, e1⟩ : ∃ hne : st.2 ≠ [], st.2.getLast hne = here := by
        cases hz : st.2 with
        | nil => rw [hz] at e; cases e
        | cons a r =>
          refine ⟨by simp, ?_⟩
          rw [hz, List.getLast?_eq_some_getLast (by simp)] at e
          exact Option.some.inj e
      have es : st.2 = st.2.dropLast ++ [here] := by
        rw [← e1]
        exact (List.dropLast_concat_getLast hne).symm
      have hl : st.2.length = st.2.dropLast.length + 1 := by
        rw [List.length_dropLast]
        have : 0 < st.2.length := List.length_pos_iff.mpr hne
        omega
      have hm : RfMid E start wo here (st.1, st.2.dropLast) := by
        refine ⟨⟨h.nd, h.hd, fun p hp => h.td p (by rw [es]; exact List.mem_append_left _ hp), h.par⟩, h.td here (by rw [es]; simp), fun p hp hn hh t ht he => c p hp (fun z => ?_) t ht he⟩
        rw [es] at z
        rcases List.mem_append.mp z with z | z
        · exact hn z
        · exact hh (List.mem_singleton.mp z)
      obtain ⟨g1, g2, g3, g4⟩ := rfFold_mid E _ (fun t ht => ht) hm
      refine rfRun_ok n _ g1.ok (fun p hp hn t ht he => ?_) ?_
      · by_cases hh : p = here
        · subst hh
          exact g2 t ht he
        · exact g1.cl p hp hn hh t ht he
      · have g4 : (rfTurn E here (st.1, st.2.dropLast)).2.length + st.1.length = st.2.dropLast.length + (rfTurn E here (st.1, st.2.dropLast)).1.length := g4
        omega
theorem rfStart_ok {E : List Tie} {start wo : Int} : RfOk E start wo ([(start, wo, start)], [start]) ∧ RfCl E ([(start, wo, start)], [start]) := by
  refine ⟨⟨by simp [plF], rfl, fun p hp => by simpa [plF] using hp, fun i x hx h0 => ?_⟩, fun p hp hn => ?_⟩
  · obtain ⟨j, rfl⟩ : ∃ j, i = j + 1 := ⟨i - 1, by omega⟩
    cases hx
  · exact absurd (by simpa [plF] using hp) hn
theorem reach_ok (E : List Tie) (start wo : Int) : RfOk E start wo (reachM E start wo, []) ∧ RfCl E (reachM E start wo, []) := by
  unfold reachM
  refine rfRun_ok _ _ rfStart_ok.1 rfStart_ok.2 ?_
  rw [univT_len]
  simp only [List.length_cons, List.length_nil]
  omega
theorem reach_start (E : List Tie) (start wo : Int) : start ∈ plF (reachM E start wo) := by
  have h := (reach_ok E start wo).1.hd
  exact List.mem_map.mpr ⟨_, List.mem_of_getElem? h, rfl⟩
theorem reach_closed {E : List Tie} {start wo p : Int} (h : p ∈ plF (reachM E start wo)) {t : Tie} (ht : t ∈ E) (he : endOf t p) : oth t p ∈ plF (reachM E start wo) := (reach_ok E start wo).2 p h (fun z => by cases z) t ht he
theorem reach_nd (E : List Tie) (start wo : Int) : (plF (reachM E start wo)).Nodup := (reach_ok E start wo).1.nd
theorem reach_len (E : List Tie) (start wo : Int) : (reachM E start wo).length ≤ 2 * E.length + 1 := by
  have h := (reach_ok E start wo).1
  have z := nd_len h.nd (rfOk_univ h)
  rw [plF, List.length_map, univT_len] at z
  exact z
theorem reach_min {E : List Tie} {start wo : Int} {P : Int → Prop} (hs : P start) (hc : ∀ t ∈ E, ∀ p, endOf t p → P p → P (oth t p)) : ∀ p ∈ plF (reachM E start wo), P p := by
  have h := (reach_ok E start wo).1
  have key : ∀ (n i : Nat) (x : Fnd), i < n → (reachM E start wo)[i]? = some x → P x.1 := by
    intro n
    induction n with
    | zero => intro i x hi; omega
    | succ n ih =>
      intro i x hi hx
      by_cases h0 : i = 0
      · subst h0
        have := h.hd.symm.trans hx
        cases this
        exact hs
      · obtain ⟨t, ht, _, he, e, hm⟩ := h.par i x hx (by omega)
        obtain ⟨y, hy, e2⟩ := List.mem_map.mp hm
        obtain ⟨j, hj⟩ := List.mem_iff_getElem?.mp hy
        have hji : j < i := by
          have := (List.getElem?_eq_some_iff.mp hj).1
          rw [List.length_take] at this
          omega
        have hj : ((reachM E start wo).take i)[j]? = some y := hj
        rw [List.getElem?_take_of_lt hji] at hj
        have hp := ih j y (by omega) hj
        rw [e2] at hp
        rw [e]
        exact hc t ht _ he hp
  intro p hp
  obtain ⟨x, hx, rfl⟩ := List.mem_map.mp hp
  obtain ⟨i, hi⟩ := List.mem_iff_getElem?.mp hx
  exact key (i + 1) i x (by omega) hi
theorem reach_in {E : List Tie} {start wo n : Int} (hs : 0 ≤ start ∧ start < n) (hE : ∀ t ∈ E, (0 ≤ t.2.1 ∧ t.2.1 < n) ∧ 0 ≤ t.2.2 ∧ t.2.2 < n) : ∀ p ∈ plF (reachM E start wo), 0 ≤ p ∧ p < n := reach_min (P := fun p => 0 ≤ p ∧ p < n) hs fun t ht p he _ => by
  have := hE t ht
  have := oth_end he
  unfold endOf at this
  show 0 ≤ oth t p ∧ oth t p < n
  omega
theorem reach_apart {E : List Tie} {a b wo : Int} (h : b ∉ plF (reachM E a wo)) : ∀ p ∈ plF (reachM E b wo), p ∉ plF (reachM E a wo) := reach_min (P := fun p => p ∉ plF (reachM E a wo)) h fun t ht p he hp z => hp (by
  have := reach_closed z ht (oth_end he)
  rw [oth_oth] at this
  exact this)

def sumI (tb : List Int) (l : List Int) : Int := (l.map fun p => tb.getD p.toNat 0).sum
theorem sumI_next {tb l : List Int} {i : Nat} {p : Int} (h : l[i]? = some p) : sumI tb (l.take (i + 1)) = sumI tb (l.take i) + tb.getD p.toNat 0 := by
  unfold sumI
  rw [List.take_add_one, h, List.map_append, List.sum_append]
  simp
inductive R_summed : Rel
  | c1 {tb l : List Int} {m : Int} (h : 0 < m ∧ ∀ p ∈ l, 0 ≤ p ∧ p < tb.length) : R_summed [.nd .lst (tb.map .int), .nd .tup (l.map .int), .int m] (.ret (.sh (.int (sumI tb l % m))))
local macro_rules | `(tactic| walk_at "Y.call") => `(tactic| ((with_reducible apply R_summed.c1); (· walk_at "Y.side")))
theorem ok_summed {P : Program} {w : World} {K : PySem.W.Frag} {mg : Str → Option Value} {base : Heap} (T : Txt K mg) : FnOk P w K mg base (L2.CX P w) 1 T.d_summed.f T.d_summed.fd ["table", "places", "modulus"] (SpD K R_summed) := by
  refine T.d_summed.F.ok sc_summed (fun vs H Q E h => spd_len (R := R_summed) (fun ds o r => by cases r <;> rfl) h) (fun cdv A outer s H vs Q E hr h => ?_)
  obtain ⟨ds, o, S, r, hd, hS, hq⟩ := h
  have hu := hu_of hr
  refine ⟨_, (pss_cons (ps_set (i := 3) sc_summed.nd rfl (Or.inl rfl) pe_int)
  (pss_cons (ps_for (passes_of rfl) rfl (pi_tup (pv 1)) (pg_name (i := 4) sc_summed.nd rfl (Or.inl rfl))
  (pss_one (ps_aug (i := 3) sc_summed.nd rfl (Or.inl rfl) (pe_ix (r := rIxA K) (ix_A hu) (pv 0) (pv 4) (fun _ _ => rfl)) ip_add)))
  (pss_one (ps_ret (pe_op op_mod (pv 3) (pv 2)))))), ?_⟩
  clear hr hu
  cases r with
  | @c1 tb l m h =>
    have q := hq.ret
    refine body_gd (n := 2) hd hS rfl ?_
    show Gd _ _ _ [some (.sh (.nd .lst (tb.map .int))), some (.sh (.nd .tup (l.map .int))), some (.sh (.int m)), none, none]
    clear hq hd
    try dsimp only [cxOf]
    obtain ⟨h1, h2⟩ := h
    walk_at "Y.q"
    refine q_forM (f := Da.int) (xs := l) (ej_tup (by walk_at "Y.es")) (fun i ρ => ∃ x, ρ = [some (.sh (.nd .lst (tb.map .int))), some (.sh (.nd .tup (l.map .int))), some (.sh (.int m)), some (.sh (.int (sumI tb (l.take i)))), x]) ⟨_, rfl⟩ ?_ ?_
    · rintro S1 lb i p ρ' hi ⟨x, rfl⟩
      walk_at "Y.rho"
      have hp := h2 p (List.mem_of_getElem? hi)
      have ha : atI (tb.map Da.int) p = some (.int (tb.getD p.toNat 0)) := at_int hp.1 hp.2
      walk_at "Y.last"
      walk_at "Y.aug"
      walk_at "Y.nx"
      refine ⟨some (.sh (.int p)), ?_⟩
      rw [sumI_next hi]
    · rintro ρ' ⟨x, rfl⟩
      rw [List.take_length]
      walk_at "Y.ret"

inductive R_mixed : Rel
  | c1 {number salt size : Int} (h : -18446744073709551616 < salt ∧ salt < 18446744073709551616 ∧ 0 < size) : R_mixed [.int number, .int salt, .int size] (.ret (.sh (.int (mixedM number salt size))))
local macro_rules | `(tactic| walk_at "Y.call") => `(tactic| ((with_reducible apply R_mixed.c1); (· walk_at "Y.side")))
theorem ok_mixed {P : Program} {w : World} {K : PySem.W.Frag} {mg : Str → Option Value} {base : Heap} (T : Txt K mg) : FnOk P w K mg base (L2.CX P w) 1 T.d_mixed.f T.d_mixed.fd ["number", "salt", "size"] (SpD K R_mixed) := by
  refine T.d_mixed.F.ok sc_mixed (fun vs H Q E h => spd_len (R := R_mixed) (fun ds o r => by cases r <;> rfl) h) (fun cdv A outer s H vs Q E hr h => ?_)
  obtain ⟨ds, o, S, r, hd, hS, hq⟩ := h
  have hu := hu_of hr
  refine ⟨_, (pss_cons (ps_set (i := 3) sc_mixed.nd rfl (Or.inl rfl) (pe_op (r := rAddN) op_addN pe_int (pe_op op_mod (pe_op (r := rAddN) op_addN (pe_op (r := rMulN) op_mulN pe_int (pv 1)) pe_int) (pe_op op_sub (pe_glob (v := .int 2305843009213693951) (by rfl) T.k_PRIME ⟨_, rfl⟩) pe_int))))
  (pss_cons (ps_set (i := 4) sc_mixed.nd rfl (Or.inl rfl) (pe_op op_mod (pe_op (r := rAddN) op_addN (pe_op (r := rMulN) op_mulN (pe_op (r := rMulN) op_mulN pe_int (pv 1)) (pv 1)) (pe_op (r := rMulN) op_mulN pe_int (pv 1))) (pe_glob (v := .int 2305843009213693951) (by rfl) T.k_PRIME ⟨_, rfl⟩)))
  (pss_cons (ps_set (i := 5) sc_mixed.nd rfl (Or.inl rfl) (pe_op op_mod (pe_op (r := rAddN) op_addN (pe_op (r := rMulN) op_mulN (pv 3) (pv 0)) (pv 4)) (pe_glob (v := .int 2305843009213693951) (by rfl) T.k_PRIME ⟨_, rfl⟩)))
  (pss_one (ps_ret (pe_op op_mod (pe_op (r := rAddN) op_addN (pv 5) (pe_op op_fdivW (pv 5) pe_int)) (pv 2))))))), ?_⟩
  clear hr hu
  cases r with
  | @c1 number salt size h =>
    have q := hq.ret
    refine body_gd (n := 3) hd hS rfl ?_
    show Gd _ _ _ [some (.sh (.int number)), some (.sh (.int salt)), some (.sh (.int size)), none, none, none]
    clear hq hd
    try dsimp only [cxOf]
    obtain ⟨g1, g2, g3⟩ := h
    walk_at "Y.q"
    walk_at "Y.q"
    walk_at "Y.q"
    walk_at "Y.ret"
inductive R_l_mixed : Rel
  | c1 {number salt size : Int} (h : -18446744073709551616 < salt ∧ salt < 18446744073709551616 ∧ 0 < size) : R_l_mixed [.int number, .int salt, .int size] (.ret (.sh (.int (mixedM number salt size))))
local macro_rules | `(tactic| walk_at "Y.call") => `(tactic| ((with_reducible apply R_l_mixed.c1); (· walk_at "Y.side")))
theorem ok_l_mixed {P : Program} {w : World} {K : PySem.W.Frag} {mg : Str → Option Value} {base : Heap} (T : Txt K mg) : FnOk P w K mg base (L2.CX P w) 1 T.d_l_mixed.f T.d_l_mixed.fd ["_law_number", "_law_salt", "_law_size"] (SpD K R_l_mixed) := by
  refine T.d_l_mixed.F.ok sc_l_mixed (fun vs H Q E h => spd_len (R := R_l_mixed) (fun ds o r => by cases r <;> rfl) h) (fun cdv A outer s H vs Q E hr h => ?_)
  obtain ⟨ds, o, S, r, hd, hS, hq⟩ := h
  have hu := hu_of hr
  refine ⟨_, (pss_cons (ps_set (i := 3) sc_l_mixed.nd rfl (Or.inl rfl) pe_int)
  (pss_cons (ps_set (i := 4) sc_l_mixed.nd rfl (Or.inl rfl) (pe_op (r := rAddN) op_addN pe_int (pe_op op_mod (pe_op (r := rAddN) op_addN (pe_op (r := rMulN) op_mulN pe_int (pv 1)) pe_int) (pe_op op_sub (pv 3) pe_int))))
  (pss_cons (ps_set (i := 5) sc_l_mixed.nd rfl (Or.inl rfl) (pe_op op_mod (pe_op (r := rAddN) op_addN (pe_op (r := rMulN) op_mulN (pv 4) (pv 0)) (pe_op op_mod (pe_op (r := rAddN) op_addN (pe_op (r := rMulN) op_mulN (pe_op (r := rMulN) op_mulN pe_int (pv 1)) (pv 1)) (pe_op (r := rMulN) op_mulN pe_int (pv 1))) (pv 3))) (pv 3)))
  (pss_one (ps_ret (pe_op op_mod (pe_op (r := rAddN) op_addN (pv 5) (pe_op op_fdivW (pv 5) pe_int)) (pv 2))))))), ?_⟩
  clear hr hu
  cases r with
  | @c1 number salt size h =>
    have q := hq.ret
    refine body_gd (n := 3) hd hS rfl ?_
    show Gd _ _ _ [some (.sh (.int number)), some (.sh (.int salt)), some (.sh (.int size)), none, none, none]
    clear hq hd
    try dsimp only [cxOf]
    obtain ⟨g1, g2, g3⟩ := h
    walk_at "Y.q"
    walk_at "Y.q"
    walk_at "Y.q"
    walk_at "Y.ret"

/-! ## the living table: cells and pairs -/
abbrev Lod := List (KeyM × Int)
def plA (salt part : Int) (k : KeyM) : Int := mixedM (stampK k) (4 * salt) part
def plB (salt part : Int) (k : KeyM) : Int := part + mixedM (stampK k) (4 * salt + 1) part
def tieOf (salt part : Int) (k : KeyM) : Tie := (stampK k, plA salt part k, plB salt part k)
def tiesW (salt part : Int) (L : Lod) (wo : Int) : List Tie := (L.filter fun p => !decide (stampK p.1 = wo)).map fun p => tieOf salt part p.1
theorem plA_in {salt part : Int} (k : KeyM) (h : 1 ≤ part) : 0 ≤ plA salt part k ∧ plA salt part k < part := mixedM_in _ _ (by omega)
theorem plB_in {salt part : Int} (k : KeyM) (h : 1 ≤ part) : part ≤ plB salt part k ∧ plB salt part k < 2 * part := by
  have := mixedM_in (stampK k) (4 * salt + 1) (show 0 < part by omega)
  unfold plB
  omega
theorem ties_len {salt part : Int} {L : Lod} {wo : Int} : (tiesW salt part L wo).length ≤ L.length := by
  unfold tiesW
  rw [List.length_map]
  exact List.length_filter_le _ _
theorem ties_in {salt part : Int} {L : Lod} {wo : Int} (h : 1 ≤ part) : ∀ t ∈ tiesW salt part L wo, (0 ≤ t.2.1 ∧ t.2.1 < part) ∧ part ≤ t.2.2 ∧ t.2.2 < 2 * part := by
  intro t ht
  obtain ⟨p, _, rfl⟩ := List.mem_map.mp ht
  exact ⟨plA_in _ h, plB_in _ h⟩
theorem ties_in2 {salt part : Int} {L : Lod} {wo : Int} (h : 1 ≤ part) : ∀ t ∈ tiesW salt part L wo, (0 ≤ t.2.1 ∧ t.2.1 < 2 * part) ∧ 0 ≤ t.2.2 ∧ t.2.2 < 2 * part := fun t ht => by
  have := ties_in h t ht
  omega
def telC (C : List Int) (m a b : Int) : Int := (C.getD a.toNat 0 + C.getD b.toNat 0) % m
def telK (salt part m : Int) (C : List Int) (k : KeyM) : Int := telC C m (plA salt part k) (plB salt part k)
theorem telC_sum {C : List Int} {m a b : Int} : sumI C [a, b] % m = telC C m a b := by
  unfold sumI telC
  rw [List.map_cons, List.map_cons, List.map_nil, List.sum_cons, List.sum_cons, List.sum_nil, Int.add_zero]
theorem telC_in {C : List Int} {m a b : Int} (h : 0 < m) : 0 ≤ telC C m a b ∧ telC C m a b < m := ⟨Int.emod_nonneg _ (by omega), Int.emod_lt_of_pos _ h⟩
def putL (L : Lod) (k : KeyM) (v : Int) : Lod := if k ∈ L.map Prod.fst then L.map (fun p => if p.1 = k then (k, v) else p) else L ++ [(k, v)]
def dropL (L : Lod) (k : KeyM) : Lod := L.filter fun p => !decide (p.1 = k)
theorem putL_mem {L : Lod} {k : KeyM} {v : Int} {p : KeyM × Int} : p ∈ putL L k v ↔ p = (k, v) ∨ (p ∈ L ∧ p.1 ≠ k) := by
  unfold putL
  split
  · rename_i h
    obtain ⟨q, hq, e⟩ := List.mem_map.mp h
    rw [List.mem_map]
    constructor
    · rintro ⟨r, hr, rfl⟩
      by_cases hk : r.1 = k
      · rw [if_pos hk]; exact .inl rfl
      · rw [if_neg hk]; exact .inr ⟨hr, hk⟩
    · rintro (rfl | ⟨h1, h2⟩)
      · exact ⟨q, hq, if_pos e⟩
      · exact ⟨p, h1, if_neg h2⟩
  · rename_i h
    rw [List.mem_append, List.mem_singleton]
    constructor
    · rintro (h1 | h1)
      · exact .inr ⟨h1, fun e => h (List.mem_map.mpr ⟨p, h1, e⟩)⟩
      · exact .inl h1
    · rintro (h1 | ⟨h1, _⟩)
      · exact .inr h1
      · exact .inl h1
theorem putL_keys {L : Lod} {k : KeyM} {v : Int} : (putL L k v).map Prod.fst = if k ∈ L.map Prod.fst then L.map Prod.fst else L.map Prod.fst ++ [k] := by
  unfold putL
  split
  · rw [List.map_map]
    refine List.map_congr_left fun p _ => ?_
    show (if p.1 = k then (k, v) else p).1 = p.1
    split
    · rename_i e; exact e.symm
    · rfl
  · rw [List.map_append]
    rfl
theorem putL_nd {L : Lod} {k : KeyM} {v : Int} (h : (L.map Prod.fst).Nodup) : ((putL L k v).map Prod.fst).Nodup := by
  rw [putL_keys]
  split
  · exact h
  · rename_i hn
    rw [List.nodup_append]
    exact ⟨h, by simp, fun a ha b hb e => hn (by rw [List.mem_singleton] at hb; rw [← hb, ← e]; exact ha)⟩
theorem putL_len {L : Lod} {k : KeyM} {v : Int} : (putL L k v).length ≤ L.length + 1 := by
  unfold putL
  split
  · rw [List.length_map]; omega
  · rw [List.length_append]; simp
theorem dropL_mem {L : Lod} {k : KeyM} {p : KeyM × Int} : p ∈ dropL L k ↔ p ∈ L ∧ p.1 ≠ k := by
  unfold dropL
  rw [List.mem_filter]
  simp
theorem dropL_len {L : Lod} {k : KeyM} : (dropL L k).length ≤ L.length := List.length_filter_le _ _
theorem dropL_nd {L : Lod} {k : KeyM} (h : (L.map Prod.fst).Nodup) : ((dropL L k).map Prod.fst).Nodup := h.sublist (List.filter_sublist.map _)
theorem fst_uniq {L : Lod} (h : (L.map Prod.fst).Nodup) {p q : KeyM × Int} (hp : p ∈ L) (hq : q ∈ L) (e : p.1 = q.1) : p = q := by
  induction L with
  | nil => cases hp
  | cons a r ih =>
    rw [List.map_cons, List.nodup_cons] at h
    rcases List.mem_cons.mp hp with e1 | h1
    · rcases List.mem_cons.mp hq with e2 | h2
      · rw [e1, e2]
      · exact absurd (List.mem_map.mpr ⟨q, h2, by rw [← e, e1]⟩) h.1
    · rcases List.mem_cons.mp hq with e2 | h2
      · exact absurd (List.mem_map.mpr ⟨p, h1, by rw [e, e2]⟩) h.1
      · exact ih h.2 h1 h2
/-! the dict's own lists -/
theorem mem_mapf {f : KeyM → Key} {L : Lod} {k : KeyM} (hf : ∀ p ∈ L, f p.1 = f k → p.1 = k) : f k ∈ (L.map fun p => f p.1) ↔ k ∈ L.map Prod.fst := by
  rw [List.mem_map, List.mem_map]
  constructor
  · rintro ⟨p, hp, e⟩
    exact ⟨p, hp, hf p hp e⟩
  · rintro ⟨p, hp, e⟩
    exact ⟨p, hp, by rw [e]⟩
theorem putKs_L {f : KeyM → Key} {L : Lod} {k : KeyM} {v : Int} (hf : ∀ p ∈ L, f p.1 = f k → p.1 = k) : putKs (L.map fun p => f p.1) (f k) = (putL L k v).map fun p => f p.1 := by
  have e : (putL L k v).map (fun p => f p.1) = ((putL L k v).map Prod.fst).map f := by rw [List.map_map]; rfl
  rw [e, putL_keys]
  unfold putKs
  by_cases h : k ∈ L.map Prod.fst
  · rw [if_pos ((mem_mapf hf).mpr h), if_pos h, List.map_map]
    rfl
  · rw [if_neg (fun z => h ((mem_mapf hf).mp z)), if_neg h, List.map_append, List.map_map]
    rfl
theorem putVs_L {f : KeyM → Key} {g : KeyM × Int → Da} {L : Lod} {k : KeyM} {v : Int} (hf : ∀ p ∈ L, f p.1 = f k → p.1 = k) : putVs (L.map fun p => f p.1) (L.map g) (f k) (g (k, v)) = (putL L k v).map g := by
  unfold putVs putL
  by_cases h : k ∈ L.map Prod.fst
  · rw [if_pos ((mem_mapf hf).mpr h), if_pos h, List.map_map, List.zip_map', List.map_map]
    refine List.map_congr_left fun p hp => ?_
    show (if f p.1 = f k then g (k, v) else g p) = g (if p.1 = k then (k, v) else p)
    by_cases hk : p.1 = k
    · rw [if_pos (by rw [hk]), if_pos hk]
    · rw [if_neg (fun e => hk (hf p hp e)), if_neg hk]
  · rw [if_neg (fun z => h ((mem_mapf hf).mp z)), if_neg h, List.map_append]
    rfl
theorem dropKs_L {f : KeyM → Key} {L : Lod} {k : KeyM} (hf : ∀ p ∈ L, f p.1 = f k → p.1 = k) : dropKs (L.map fun p => f p.1) (f k) = (dropL L k).map fun p => f p.1 := by
  unfold dropKs dropL
  rw [List.filter_map]
  congr 1
  refine List.filter_congr fun p hp => ?_
  show decide (f p.1 ≠ f k) = !decide (p.1 = k)
  by_cases hk : p.1 = k
  · rw [hk]; simp
  · have hn : f p.1 ≠ f k := fun e => hk (hf p hp e)
    rw [decide_eq_true hn, decide_eq_false hk]; rfl
theorem dropVs_L {f : KeyM → Key} {g : KeyM × Int → Da} {L : Lod} {k : KeyM} (hf : ∀ p ∈ L, f p.1 = f k → p.1 = k) : dropVs (L.map fun p => f p.1) (L.map g) (f k) = (dropL L k).map g := by
  unfold dropVs dropL
  rw [List.zip_map', List.filter_map, List.map_map]
  have e : (L.filter ((fun a : Key × Da => decide (a.1 ≠ f k)) ∘ fun x => (f x.1, g x))) = L.filter fun p => !decide (p.1 = k) := by
    refine List.filter_congr fun p hp => ?_
    show decide (f p.1 ≠ f k) = !decide (p.1 = k)
    by_cases hk : p.1 = k
    · rw [hk]; simp
    · have hn : f p.1 ≠ f k := fun e => hk (hf p hp e)
      rw [decide_eq_true hn, decide_eq_false hk]; rfl
  rw [e]
  rfl
theorem getK_L {f : KeyM → Key} {g : KeyM × Int → Da} : ∀ {L : Lod} {p : KeyM × Int}, p ∈ L → (∀ q ∈ L, f q.1 = f p.1 → q = p) → getK (L.map fun p => f p.1) (L.map g) (f p.1) = some (g p)
  | [], p, hp, _ => by cases hp
  | a :: r, p, hp, hf => by
    unfold getK
    rw [List.map_cons, List.map_cons, List.zip_cons_cons, List.find?_cons]
    by_cases h : f a.1 = f p.1
    · rw [decide_eq_true (by exact h), hf a (.head _) h]
      rfl
    · rw [decide_eq_false (by exact h)]
      have hr : p ∈ r := by
        rcases List.mem_cons.mp hp with e | e
        · exact absurd (by rw [e]) h
        · exact e
      exact getK_L (L := r) hr fun q hq e => hf q (.tail _ hq) e
abbrev stK (k : KeyM) : Key := .inl (stampK k)
theorem stK_inj {a b : KeyM} (ha : okK a = true) (hb : okK b = true) (e : stK a = stK b) : a = b := stampK_inj ha hb (Sum.inl.inj e)
def keyD : KeyM → Key
  | .n i => .inl i
  | .s l => .inr (strL l)
theorem kyD_keyD (k : KeyM) : kyD (keyD k) = kd k := by cases k <;> rfl
theorem keyD_inj {a b : KeyM} (e : keyD a = keyD b) : a = b := by
  cases a with
  | n i => cases b with
    | n j => cases e; rfl
    | s m => cases e
  | s l => cases b with
    | n j => cases e
    | s m => rw [strL_inj (Sum.inr.inj e)]
/-! shifting -/
def shV (part m start step p c : Int) : Int := if (decide (p < part)) = decide (start < part) then (c + step) % m else (c - step) % m
def shiftM (part m start step : Int) (ks : List Int) (C : List Int) : List Int := ks.foldl (fun C p => C.set p.toNat (shV part m start step p (C.getD p.toNat 0))) C
theorem shiftM_snoc {part m start step p : Int} {ks C : List Int} : shiftM part m start step (ks ++ [p]) C = (shiftM part m start step ks C).set p.toNat (shV part m start step p ((shiftM part m start step ks C).getD p.toNat 0)) := by
  unfold shiftM
  rw [List.foldl_append]
  rfl
theorem shiftM_len {part m start step : Int} : ∀ (ks C : List Int), (shiftM part m start step ks C).length = C.length
  | [], _ => rfl
  | p :: r, C => by
    have z := shiftM_len (part := part) (m := m) (start := start) (step := step) r (C.set p.toNat (shV part m start step p (C.getD p.toNat 0)))
    rw [List.length_set] at z
    exact z
theorem getD_set {C : List Int} {i j : Nat} {x : Int} (hi : i < C.length) : (C.set i x).getD j 0 = if i = j then x else C.getD j 0 := by
  rw [List.getD, List.getD, List.getElem?_set]
  by_cases h : i = j
  · rw [if_pos h, if_pos h, if_pos hi]
    rfl
  · rw [if_neg h, if_neg h]
theorem shiftM_at {part m start step : Int} : ∀ (ks C : List Int), ks.Nodup → (∀ p ∈ ks, 0 ≤ p ∧ p < C.length) → ∀ p : Int, 0 ≤ p → (shiftM part m start step ks C).getD p.toNat 0 = if p ∈ ks then shV part m start step p (C.getD p.toNat 0) else C.getD p.toNat 0
  | [], _, _, _, p, _ => by rw [if_neg (by simp)]; rfl
  | q :: r, C, nd, hin, p, hp => by
    rw [List.nodup_cons] at nd
    have hq := hin q (.head _)
    have z := shiftM_at (part := part) (m := m) (start := start) (step := step) r (C.set q.toNat (shV part m start step q (C.getD q.toNat 0))) nd.2 (fun x hx => by rw [List.length_set]; exact hin x (.tail _ hx)) p hp
    show (shiftM part m start step r (C.set q.toNat (shV part m start step q (C.getD q.toNat 0)))).getD p.toNat 0 = _
    rw [z, getD_set (by omega)]
    by_cases h : q = p
    · subst h
      rw [if_neg nd.1, if_pos rfl, if_pos (.head _)]
    · have hne : ¬ q.toNat = p.toNat := by omega
      rw [if_neg hne]
      by_cases hr : p ∈ r
      · rw [if_pos hr, if_pos (.tail _ hr)]
      · rw [if_neg hr, if_neg (fun z => by rcases List.mem_cons.mp z with e | e; (· exact h e.symm); (· exact hr e))]
theorem shV_in {part m start step p c : Int} (h : 0 < m) : 0 ≤ shV part m start step p c ∧ shV part m start step p c < m := by
  unfold shV
  split
  · exact ⟨Int.emod_nonneg _ (by omega), Int.emod_lt_of_pos _ h⟩
  · exact ⟨Int.emod_nonneg _ (by omega), Int.emod_lt_of_pos _ h⟩
theorem mem_getD {C : List Int} {i : Nat} (h : i < C.length) : C.getD i 0 ∈ C := by
  rw [List.getD, List.getElem?_eq_getElem h]
  exact List.getElem_mem h
theorem shiftM_in {part m start step : Int} {ks C : List Int} (h : 0 < m) (hC : ∀ x ∈ C, 0 ≤ x ∧ x < m) (nd : ks.Nodup) (hin : ∀ p ∈ ks, 0 ≤ p ∧ p < C.length) : ∀ x ∈ shiftM part m start step ks C, 0 ≤ x ∧ x < m := by
  intro x hx
  obtain ⟨i, hi⟩ := List.mem_iff_getElem?.mp hx
  have hl := (List.getElem?_eq_some_iff.mp hi).1
  have z := shiftM_at (part := part) (m := m) (start := start) (step := step) ks C nd hin (i : Int) (by omega)
  rw [Int.toNat_natCast, List.getD, hi, Option.getD_some] at z
  rw [shiftM_len] at hl
  rw [z]
  split
  · exact shV_in h
  · exact hC _ (mem_getD hl)
/-! putting -/
def stepM (salt part m : Int) (C : List Int) (k : KeyM) (v : Int) : Int := (v - telK salt part m C k) % m
def onesM (salt part : Int) (L : Lod) (k : KeyM) : List Fnd := reachM (tiesW salt part L (stampK k)) (plA salt part k) (stampK k)
def othersM (salt part : Int) (L : Lod) (k : KeyM) : List Fnd := reachM (tiesW salt part L (stampK k)) (plB salt part k) (stampK k)
def putS (salt part m : Int) (C : List Int) (L : Lod) (k : KeyM) (v : Int) : Option (List Int × Int) :=
  if stepM salt part m C k v = 0 then some (C, 0)
  else if plB salt part k ∈ plF (onesM salt part L k) then none
  else if ((othersM salt part L k).length : Int) < (onesM salt part L k).length then some (shiftM part m (plB salt part k) (stepM salt part m C k v) (plF (othersM salt part L k)) C, min ((onesM salt part L k).length : Int) (othersM salt part L k).length)
  else some (shiftM part m (plA salt part k) (stepM salt part m C k v) (plF (onesM salt part L k)) C, min ((onesM salt part L k).length : Int) (othersM salt part L k).length)
structure LvOk (part salt m : Int) (C : List Int) (L : Lod) : Prop where
  p1 : 1 ≤ part
  p2 : part ≤ 300
  s1 : 0 ≤ salt
  s2 : salt ≤ 10000000000000
  m1 : 2 ≤ m
  m2 : m ≤ 1000000000
  len : (C.length : Int) = 2 * part
  cin : ∀ x ∈ C, 0 ≤ x ∧ x < m
  ok : ∀ p ∈ L, okK p.1 = true
  nd : (L.map Prod.fst).Nodup
  tl : ∀ p ∈ L, telK salt part m C p.1 = p.2
  ll : L.length ≤ 1000
theorem LvOk.stuniq {part salt m : Int} {C : List Int} {L : Lod} (h : LvOk part salt m C L) {k : KeyM} (hk : okK k = true) : ∀ p ∈ L, stK p.1 = stK k → p.1 = k := fun p hp e => stK_inj (h.ok p hp) hk e
theorem mod_two {x y s m : Int} : ((x + s) % m + (y - s) % m) % m = (x + y) % m := by
  rw [← Int.add_emod]
  congr 1
  omega
theorem mod_two' {x y s m : Int} : ((x - s) % m + (y + s) % m) % m = (x + y) % m := by
  rw [← Int.add_emod]
  congr 1
  omega
theorem mod_one {x y s m : Int} : ((x + s) % m + y) % m = (x + y + s) % m := by
  rw [Int.emod_add_emod]
  congr 1
  omega
theorem mod_one' {x y s m : Int} : (x + (y + s) % m) % m = (x + y + s) % m := by
  rw [Int.add_emod_emod]
  congr 1
  omega
theorem step_tel {t v m : Int} (h : 0 ≤ v ∧ v < m) (x : Int) (ht : t = x % m) : (x + (v - t) % m) % m = v := by
  have e := Int.emod_add_mul_ediv x m
  rw [Int.add_emod_emod, ht, show x + (v - x % m) = v + m * (x / m) by omega, Int.add_mul_emod_self_left]
  exact Int.emod_eq_of_lt h.1 h.2
theorem shV_same {part m start step p c : Int} (h : (p < part) ↔ (start < part)) : shV part m start step p c = (c + step) % m := by
  unfold shV
  rw [if_pos (decide_eq_decide.mpr h)]
theorem shV_diff {part m start step p c : Int} (h : ¬ ((p < part) ↔ (start < part))) : shV part m start step p c = (c - step) % m := by
  unfold shV
  rw [if_neg (fun e => h (decide_eq_decide.mp e))]
/-- a key whose places are both shifted, or both not, tells what it told -/
theorem shift_keeps {part m start step : Int} {ks C : List Int} (nd : ks.Nodup) (hin : ∀ p ∈ ks, 0 ≤ p ∧ p < C.length) {a b : Int} (ha : 0 ≤ a ∧ a < part) (hb : part ≤ b) (h : a ∈ ks ↔ b ∈ ks) : telC (shiftM part m start step ks C) m a b = telC C m a b := by
  unfold telC
  rw [shiftM_at ks C nd hin a ha.1, shiftM_at ks C nd hin b (by omega)]
  by_cases hk : a ∈ ks
  · rw [if_pos hk, if_pos (h.mp hk)]
    by_cases hs : start < part
    · rw [shV_same ⟨fun _ => hs, fun _ => ha.2⟩, shV_diff (fun z => by have := z.mpr hs; omega)]
      exact mod_two
    · rw [shV_diff (fun z => hs (z.mp ha.2)), shV_same ⟨fun z => absurd z (by omega), fun z => absurd z hs⟩]
      exact mod_two'
  · rw [if_neg hk, if_neg (fun z => hk (h.mpr z))]
theorem tie_both {E : List Tie} {s w : Int} {t : Tie} (ht : t ∈ E) : t.2.1 ∈ plF (reachM E s w) ↔ t.2.2 ∈ plF (reachM E s w) := by
  constructor
  · intro h
    have := reach_closed h ht (.inl rfl)
    unfold oth at this
    rwa [show t.2.1 + t.2.2 - t.2.1 = t.2.2 by omega] at this
  · intro h
    have := reach_closed h ht (.inr rfl)
    unfold oth at this
    rwa [show t.2.1 + t.2.2 - t.2.2 = t.2.1 by omega] at this
theorem tie_of {salt part : Int} {L : Lod} {p : KeyM × Int} {wo : Int} (h : p ∈ L) (hn : stampK p.1 ≠ wo) : tieOf salt part p.1 ∈ tiesW salt part L wo := List.mem_map.mpr ⟨p, List.mem_filter.mpr ⟨h, by rw [decide_eq_false hn]; rfl⟩, rfl⟩
section
variable {salt part m : Int} {C : List Int} {L : Lod} {k : KeyM} {v : Int}
theorem LvOk.pin (h : LvOk part salt m C L) {s w : Int} (hs : 0 ≤ s ∧ s < 2 * part) : ∀ p ∈ plF (reachM (tiesW salt part L w) s w), 0 ≤ p ∧ p < C.length := fun p hp => by
  have := reach_in hs (ties_in2 h.p1) p hp
  have := h.len
  omega
theorem LvOk.stamp_ne (h : LvOk part salt m C L) (hk : okK k = true) {p : KeyM × Int} (hp : p ∈ L) (hn : p.1 ≠ k) : stampK p.1 ≠ stampK k := fun e => hn (stampK_inj (h.ok p hp) hk e)
theorem LvOk.shifted (h : LvOk part salt m C L) (hk : okK k = true) {s step : Int} (hs : 0 ≤ s ∧ s < 2 * part) {p : KeyM × Int} (hp : p ∈ L) (hn : p.1 ≠ k) : telK salt part m (shiftM part m s step (plF (reachM (tiesW salt part L (stampK k)) s (stampK k))) C) p.1 = p.2 := by
  rw [← h.tl p hp]
  exact shift_keeps (reach_nd _ _ _) (h.pin hs) (plA_in _ h.p1) (plB_in _ h.p1).1 (tie_both (tie_of hp (h.stamp_ne hk hp hn)))
theorem LvOk.put1 (h : LvOk part salt m C L) (hk : okK k = true) (hl : L.length < 1000) {C' : List Int} (hlen : C'.length = C.length) (hC : ∀ x ∈ C', 0 ≤ x ∧ x < m) (hkv : telK salt part m C' k = v) (ho : ∀ p ∈ L, p.1 ≠ k → telK salt part m C' p.1 = p.2) : LvOk part salt m C' (putL L k v) := by
  refine ⟨h.p1, h.p2, h.s1, h.s2, h.m1, h.m2, by rw [hlen]; exact h.len, hC, fun p hp => ?_, putL_nd h.nd, fun p hp => ?_, by have := putL_len (L := L) (k := k) (v := v); omega⟩
  · rcases putL_mem.mp hp with rfl | ⟨h1, _⟩
    · exact hk
    · exact h.ok p h1
  · rcases putL_mem.mp hp with rfl | ⟨h1, h2⟩
    · exact hkv
    · exact ho p h1 h2
/-- put: all tell their values -/
theorem put_ok (h : LvOk part salt m C L) (hk : okK k = true) (hv : 0 ≤ v ∧ v < m) (hl : L.length < 1000) {C' : List Int} {ch : Int} (e : putS salt part m C L k v = some (C', ch)) : LvOk part salt m C' (putL L k v) := by
  have ha := plA_in (salt := salt) k h.p1
  have hb := plB_in (salt := salt) k h.p1
  have hm : 0 < m := by have := h.m1; omega
  unfold putS at e
  by_cases h0 : stepM salt part m C k v = 0
  · rw [if_pos h0] at e
    cases e
    refine h.put1 hk hl rfl h.cin ?_ fun p hp hn => h.tl p hp
    have z := step_tel (t := telK salt part m C k) hv (C.getD (plA salt part k).toNat 0 + C.getD (plB salt part k).toNat 0) rfl
    have h0 : (v - telK salt part m C k) % m = 0 := h0
    rw [h0, Int.add_zero] at z
    exact z
  rw [if_neg h0] at e
  by_cases h1 : plB salt part k ∈ plF (onesM salt part L k)
  · rw [if_pos h1] at e
    cases e
  rw [if_neg h1] at e
  have h1 : ¬ plB salt part k ∈ plF (reachM (tiesW salt part L (stampK k)) (plA salt part k) (stampK k)) := h1
  have hap := reach_apart h1
  by_cases h2 : ((othersM salt part L k).length : Int) < (onesM salt part L k).length
  · rw [if_pos h2] at e
    cases e
    have hs : 0 ≤ plB salt part k ∧ plB salt part k < 2 * part := by omega
    have hin := h.pin (w := stampK k) hs
    refine h.put1 hk hl (shiftM_len _ _) (shiftM_in hm h.cin (reach_nd _ _ _) hin) ?_ fun p hp hn => h.shifted hk hs hp hn
    unfold telK telC othersM
    rw [shiftM_at _ C (reach_nd _ _ _) hin _ ha.1, shiftM_at _ C (reach_nd _ _ _) hin _ (by omega), if_pos (reach_start _ _ _), if_neg (fun z => hap _ z (reach_start _ _ _)), shV_same Iff.rfl, mod_one']
    have z := step_tel (t := telK salt part m C k) hv (C.getD (plA salt part k).toNat 0 + C.getD (plB salt part k).toNat 0) rfl
    exact z
  · rw [if_neg h2] at e
    cases e
    have hs : 0 ≤ plA salt part k ∧ plA salt part k < 2 * part := by omega
    have hin := h.pin (w := stampK k) hs
    refine h.put1 hk hl (shiftM_len _ _) (shiftM_in hm h.cin (reach_nd _ _ _) hin) ?_ fun p hp hn => h.shifted hk hs hp hn
    unfold telK telC onesM
    rw [shiftM_at _ C (reach_nd _ _ _) hin _ ha.1, shiftM_at _ C (reach_nd _ _ _) hin _ (by omega), if_pos (reach_start _ _ _), if_neg h1, shV_same Iff.rfl, mod_one]
    have z := step_tel (t := telK salt part m C k) hv (C.getD (plA salt part k).toNat 0 + C.getD (plB salt part k).toNat 0) rfl
    exact z
theorem drop_ok (h : LvOk part salt m C L) : LvOk part salt m C (dropL L k) := ⟨h.p1, h.p2, h.s1, h.s2, h.m1, h.m2, h.len, h.cin, fun p hp => h.ok p (dropL_mem.mp hp).1, dropL_nd h.nd, fun p hp => h.tl p (dropL_mem.mp hp).1, by have := dropL_len (L := L) (k := k); have := h.ll; omega⟩
theorem new_ok (h1 : 1 ≤ part ∧ part ≤ 300) (h2 : 0 ≤ salt ∧ salt ≤ 10000000000000) (h3 : 2 ≤ m ∧ m ≤ 1000000000) : LvOk part salt m (List.replicate (2 * part).toNat 0) [] := ⟨h1.1, h1.2, h2.1, h2.2, h3.1, h3.2, by rw [List.length_replicate]; omega, fun x hx => by rw [(List.mem_replicate.mp hx).2]; omega, fun p hp => (by cases hp), List.nodup_nil, fun p hp => (by cases hp), Nat.zero_le _⟩
end

abbrev liN : List Str := ["part", "salting", "modulus", "cells", "lodgers"]
abbrev prD (p : KeyM × Int) : Da := .tup [kd p.1, .int p.2]
abbrev ldN (L : Lod) : NK := .dct (L.map fun p => stK p.1)
abbrev ldL (L : Lod) : NK := .dcl (L.map fun p => stK p.1)
abbrev livG (part salt m : Int) (C : List Int) (l : Da) : Da := .nd (.ins "Living" liN) [.int part, .int salt, .int m, .nd .lst (C.map .int), l]
abbrev livD (part salt m : Int) (C : List Int) (L : Lod) : Da := livG part salt m C (.nd (ldN L) (L.map prD))
abbrev livK (N : NK) (part salt m : Int) (C : List Int) (lk : NK) (L : Lod) : Tr := .nd N [.sh (.int part), .sh (.int salt), .sh (.int m), ol (C.map .int), .nd lk ((L.map prD).map Tr.sh)]
abbrev livT (a : Addr) (part salt m : Int) (C : List Int) (L : Lod) : Tr := livK (.slf a "Living" liN) part salt m C (ldN L) L
abbrev livI (part salt m : Int) (C : List Int) (L : Lod) : Tr := livK (.ins "Living" liN) part salt m C (ldN L) L
abbrev plsT (salt part : Int) (k : KeyM) : Tr := .nd .tup (([plA salt part k, plB salt part k].map Da.int).map Tr.sh)
abbrev plsD (salt part : Int) (k : KeyM) : Da := .tup ([plA salt part k, plB salt part k].map Da.int)
theorem livK_flat {N lk : NK} {part salt m : Int} {C : List Int} {L : Lod} : (livK N part salt m C lk L).flat = .nd N [.int part, .int salt, .int m, .nd .lst (C.map .int), .nd lk (L.map prD)] := by
  simp only [livK, ol, Tr.flat, Tr.flats, Tr.flats_sh]
section
variable {B : Bs} {ρ : Rho} {i : Nat} {part salt m : Int} {C : List Int} {L : Lod} {lk : NK} {a : Addr} {K : PySem.W.Frag}
theorem liv_hu : ∀ (H : Hp) (x : V), Dq K H x (livK (.slf a "Living" liN) part salt m C lk L).flat → Dq K H x (livG part salt m C (.nd lk (L.map prD))) := fun H x h => by
  rw [livK_flat] at h
  exact h.unslf
theorem liv_huI : ∀ (H : Hp) (x : V), Dq K H x (livK (.ins "Living" liN) part salt m C lk L).flat → Dq K H x (livG part salt m C (.nd lk (L.map prD))) := fun H x h => by
  rw [livK_flat] at h
  exact h
theorem liv_nt {N : NK} (hN : N ≠ .tup ∧ N ≠ .tpz) (hl : lk ≠ .tup ∧ lk ≠ .tpz) : NoT (livK N part salt m C lk L) := by
  have hs : ∀ ds : List Da, ∀ t ∈ ds.map Tr.sh, NoT t := fun ds t ht => by
    obtain ⟨d, _, rfl⟩ := List.mem_map.mp ht
    exact .sh
  refine .nd hN fun t ht => ?_
  simp only [List.mem_cons, List.not_mem_nil, or_false] at ht
  rcases ht with rfl | rfl | rfl | rfl | rfl
  · exact .sh
  · exact .sh
  · exact .sh
  · exact .nd ⟨fun z => (by cases z), fun z => (by cases z)⟩ (hs _)
  · exact .nd hl (hs _)
theorem liv_ntT : NoT (livT a part salt m C L) := liv_nt ⟨fun z => (by cases z), fun z => (by cases z)⟩ ⟨fun z => (by cases z), fun z => (by cases z)⟩
theorem liv_ntL : NoT (livK (.slf a "Living" liN) part salt m C (ldL L) L) := liv_nt ⟨fun z => (by cases z), fun z => (by cases z)⟩ ⟨fun z => (by cases z), fun z => (by cases z)⟩
theorem liv_ntI : NoT (livI part salt m C L) := liv_nt ⟨fun z => (by cases z), fun z => (by cases z)⟩ ⟨fun z => (by cases z), fun z => (by cases z)⟩
/-- an own living table, read -/
theorem eb_liv (h : ρ[i]? = some (some (livK (.slf a "Living" liN) part salt m C lk L))) : Eb B (tVar i) ρ (livG part salt m C (.nd lk (L.map prD))) := eb_unslf (eb_own h livK_flat)
theorem eb_livI (h : ρ[i]? = some (some (livK (.ins "Living" liN) part salt m C lk L))) : Eb B (tVar i) ρ (livG part salt m C (.nd lk (L.map prD))) := eb_own h livK_flat
end
theorem pls_lone {salt part : Int} {k : KeyM} : LoneT (plsT salt part k) := .nd fun t ht => by
  obtain ⟨d, hd, rfl⟩ := List.mem_map.mp ht
  obtain ⟨i, _, rfl⟩ := List.mem_map.mp hd
  exact .sh (.fl rfl)
theorem pls_lone2 {salt part : Int} {k : KeyM} : Lone (plsT salt part k) := .nd fun t ht => by
  obtain ⟨d, hd, rfl⟩ := List.mem_map.mp ht
  obtain ⟨i, _, rfl⟩ := List.mem_map.mp hd
  exact .sh rfl
theorem at_lookup {L : Lod} {part salt m : Int} {C : List Int} (h : LvOk part salt m C L) {p : KeyM × Int} (hp : p ∈ L) : getK (L.map fun p => stK p.1) (L.map prD) (stK p.1) = some (prD p) := getK_L (f := stK) hp fun q hq e => fst_uniq h.nd hq hp (stK_inj (h.ok q hq) (h.ok p hp) e)
/-- the pairs, by their stamps -/
def sortL (L : Lod) : Lod := sortF (fun p => stampK p.1) L
theorem sortL_mem {L : Lod} {p : KeyM × Int} : p ∈ sortL L ↔ p ∈ L := sortF_perm.mem_iff
theorem sortL_len {L : Lod} : (sortL L).length = L.length := sortF_perm.length_eq
theorem sortL_keys {L : Lod} : sortI (L.map fun p => stampK p.1) = (sortL L).map fun p => stampK p.1 := by
  refine (sortI_uniq (sortF_perm.map _) ?_).symm
  rw [List.pairwise_map]
  exact sortF_pw
local macro_rules | `(tactic| walk_at "Y.eb") => `(tactic| first | ((with_reducible apply eb_fld); (· (first | exact eb_liv rfl | exact eb_livI rfl)); (· assumption); (· assumption); (· rfl)) | fail)
inductive R_Living_init_Living : RelM
  | c1 {x : Addr} {part salt m : Int} (h : 1 ≤ part ∧ part ≤ 1000) : R_Living_init_Living (.nd (.slf x "Living" []) []) [.int part, .int salt, .int m] (.ret (livT x part salt m (List.replicate (2 * part).toNat 0) []))
theorem ok_Living_init_Living {P : Program} {w : World} {K : PySem.W.Frag} {mg : Str → Option Value} {base : Heap} (T : Txt K mg) : FnOk P w K mg base (L2.CX P w) 1 T.d_Living_init.f T.d_Living_init.fd ["self", "part", "salt", "modulus"] (SpM K R_Living_init_Living) := by
  have cl_Living := T.cl_Living
  have nt_Living_cells := T.nt_Living_cells
  have nt_Living_lodgers := T.nt_Living_lodgers
  have nt_Living_modulus := T.nt_Living_modulus
  have nt_Living_part := T.nt_Living_part
  have nt_Living_salting := T.nt_Living_salting
  refine T.d_Living_init.F.ok sc_Living_init (fun vs H Q E h => spm_len (R := R_Living_init_Living) (fun t ds o r => by cases r <;> rfl) h) (fun cdv A outer s H vs Q E hr h => ?_)
  obtain ⟨x, ws, t0, ds, c0, S, o, rfl, r, ow, nd, fr, hd, hS, hq⟩ := h
  have hu := hu_of hr
  refine ⟨_, (pss_cons (ps_fld (pv 0) (pv 1) rfl)
  (pss_cons (ps_fld (pv 0) (pv 2) rfl)
  (pss_cons (ps_fld (pv 0) (pv 3) rfl)
  (pss_cons (ps_fld (pv 0) (pe_lc (own := [("place", 4)]) (g := gName 4) (tt := tYes) rfl sc_Living_init.nd (pi_range1 (by rfl) T.z_range (pa_cons (pe_op (r := rMulN) op_mulN pe_int (pv 1)) pa_nil)) (blkOk_by (N := ["self", "part", "salt", "modulus", "place"]) (sc := defScope s_Living_init) (by decide +kernel)) (fun _ _ _ _ _ => pg_name (i := 4) sc_Living_init.nd rfl (Or.inl rfl)) (fun _ _ _ _ _ => pts_nil) (fun _ _ _ _ _ => pe_int)) rfl)
  (pss_one (ps_fld (pv 0) pe_dnewK rfl)))))), ?_⟩
  clear hr hu
  cases r with
  | @c1 x part salt m h =>
    have e0 := ow.slf_val
    subst e0
    have q : RetM ⟨K, S, off H c0⟩ _ Q _ := hq
    refine body_gdM (n := 1) ow nd fr hd hS rfl ?_
    show Gd _ _ _ [some (.nd (.slf x "Living" []) []), some (.sh (.int part)), some (.sh (.int salt)), some (.sh (.int m)), none]
    clear hq hd
    try dsimp only [cxOf]
    walk_at "Y.fld"
    walk_at "Y.fld"
    walk_at "Y.fld"
    refine q_fldO (eo_lcR (n := 2 * part) (fun _ => .int 0) (by walk_at "Y.eab") (by omega) (by omega) (by decide) (fun k hk => by walk_at "Y.es")) rfl (by assumption) (by assumption) (by decide) (by decide) ?_
    dsimp only [List.set, List.cons_append, List.nil_append]
    walk_at "Y.last"
    refine q_fldO eo_dnew rfl (by assumption) (by assumption) (by decide) (by decide) ?_
    dsimp only [List.set, List.cons_append, List.nil_append]
    refine g_next ?_
    have e : ((List.range (2 * part).toNat).map fun (_ : Nat) => Da.int 0) = (List.replicate (2 * part).toNat (0 : Int)).map Da.int := by rw [List.map_const', List.length_range, List.map_replicate]
    rw [e]
    exact en_retM rfl q
inductive R_Living_places_Living : Rel
  | c1 {k : KeyM} {part salt m : Int} {C : List Int} {l : Da} (h : okK k = true ∧ 1 ≤ part ∧ 0 ≤ salt ∧ salt ≤ 10000000000000) : R_Living_places_Living [livG part salt m C l, kd k] (.ret (plsT salt part k))
  | c2 {k : KeyM} {part salt m : Int} {C : List Int} {l : Da} (h : okK k = false ∧ smK k = true) : R_Living_places_Living [livG part salt m C l, kd k] (.exc "NoKey" (some (.int 0)))
local macro_rules | `(tactic| walk_at "Y.call") => `(tactic| ((with_reducible apply R_Living_places_Living.c1); (· walk_at "Y.side")))
local macro_rules | `(tactic| walk_at "Y.call") => `(tactic| ((with_reducible apply R_Living_places_Living.c2); (· walk_at "Y.side")))
theorem ok_Living_places_Living {P : Program} {w : World} {K : PySem.W.Frag} {mg : Str → Option Value} {base : Heap} (T : Txt K mg) : FnOk P w K mg base (L2.CX P w) 4 T.d_Living_places.f T.d_Living_places.fd ["self", "key"] (SpD K R_Living_places_Living) := by
  have G_stamp := ok_stamp (P := P) (w := w) (base := base) T
  have G_mixed := ok_mixed (P := P) (w := w) (base := base) T
  have cl_Living := T.cl_Living
  have nt_Living_part := T.nt_Living_part
  have nt_Living_salting := T.nt_Living_salting
  refine T.d_Living_places.F.ok sc_Living_places (fun vs H Q E h => spd_len (R := R_Living_places_Living) (fun ds o r => by cases r <;> rfl) h) (fun cdv A outer s H vs Q E hr h => ?_)
  obtain ⟨ds, o, S, r, hd, hS, hq⟩ := h
  have hu := hu_of hr
  refine ⟨_, (pss_cons (ps_set (i := 2) sc_Living_places.nd rfl (Or.inl rfl) (pe_call G_stamp (hr.mono (by decide)) (by rfl) T.g_stamp T.d_stamp.kp T.d_stamp.b .nil passE (pa_cons (pv 1) pa_nil)))
  (pss_cons (ps_set (i := 3) sc_Living_places.nd rfl (Or.inl rfl) (pe_call G_mixed (hr.mono (by decide)) (by rfl) T.g_mixed T.d_mixed.kp T.d_mixed.b .nil passE (pa_cons (pv 2) (pa_cons (pe_op (r := rMulN) op_mulN pe_int (pe_fld (pv 0) rfl)) (pa_cons (pe_fld (pv 0) rfl) pa_nil)))))
  (pss_one (ps_ret (pe_tup (pa_cons (pv 3) (pa_cons (pe_op (r := rAddN) op_addN (pe_fld (pv 0) rfl) (pe_call G_mixed (hr.mono (by decide)) (by rfl) T.g_mixed T.d_mixed.kp T.d_mixed.b .nil passE (pa_cons (pv 2) (pa_cons (pe_op (r := rAddN) op_addN (pe_op (r := rMulN) op_mulN pe_int (pe_fld (pv 0) rfl)) pe_int) (pa_cons (pe_fld (pv 0) rfl) pa_nil))))) pa_nil))))))), ?_⟩
  clear hr hu
  cases r with
  | @c1 k part salt m C l h =>
    have q := hq.ret
    refine body_gd (n := 2) hd hS rfl ?_
    show Gd _ _ _ [some (.sh (livG part salt m C l)), some (.sh (kd k)), none, none]
    clear hq hd
    try dsimp only [cxOf]
    obtain ⟨h1, h2, h3, h4⟩ := h
    walk_at "Y.q"
    walk_at "Y.q"
    walk_at "Y.last"
    exact s_retL q (eo_tup (ds := [.int (plA salt part k), .int (part + mixedM (stampK k) (4 * salt + 1) part)]) (eas_cons (by walk_at "Y.es") (eas_cons (es_flat (eb_op (by walk_at "Y.eb") (eb_call (by walk_at "Y.eab") (by walk_at "Y.call") (Tr.flat_sh _)) (by walk_at "Y.op")) rfl) eas_nil)) (by rw [sizeLine_eq]; simp only [List.length_cons, List.length_nil]; omega)) rfl
  | @c2 k part salt m C l h =>
    have q := hq.exc
    refine body_gd (n := 2) hd hS rfl ?_
    show Gd _ _ _ [some (.sh (livG part salt m C l)), some (.sh (kd k)), none, none]
    clear hq hd
    try dsimp only [cxOf]
    exact x_asg (ex_call (by walk_at "Y.eab") (R_stamp.c2 h)) q
inductive R_Living_table_Living : Rel
  | c1 {part salt m : Int} {C : List Int} {l : Da} : R_Living_table_Living [livG part salt m C l] (.ret (ol (C.map .int)))
local macro_rules | `(tactic| walk_at "Y.call") => `(tactic| ((with_reducible apply R_Living_table_Living.c1)))
theorem ok_Living_table_Living {P : Program} {w : World} {K : PySem.W.Frag} {mg : Str → Option Value} {base : Heap} (T : Txt K mg) : FnOk P w K mg base (L2.CX P w) 1 T.d_Living_table.f T.d_Living_table.fd ["self"] (SpD K R_Living_table_Living) := by
  have cl_Living := T.cl_Living
  have nt_Living_cells := T.nt_Living_cells
  refine T.d_Living_table.F.ok sc_Living_table (fun vs H Q E h => spd_len (R := R_Living_table_Living) (fun ds o r => by cases r <;> rfl) h) (fun cdv A outer s H vs Q E hr h => ?_)
  obtain ⟨ds, o, S, r, hd, hS, hq⟩ := h
  have hu := hu_of hr
  refine ⟨_, (pss_one (ps_ret (pe_callTy (r := rCopy K) call_copyA (by rfl) T.z_list (by decide +kernel) (pa_cons (pe_fld (pv 0) rfl) pa_nil)))), ?_⟩
  clear hr hu
  cases r with
  | @c1 part salt m C l =>
    have q := hq.ret
    refine body_gd (n := 0) hd hS rfl ?_
    show Gd _ _ _ [some (.sh (livG part salt m C l))]
    clear hq hd
    try dsimp only [cxOf]
    walk_at "Y.ret"
inductive R_Living_kept_Living : Rel
  | c1 {part salt m : Int} {C : List Int} {L : Lod} (h : LvOk part salt m C L) : R_Living_kept_Living [livD part salt m C L] (.ret (ol ((sortL L).map prD)))
local macro_rules | `(tactic| walk_at "Y.call") => `(tactic| ((with_reducible apply R_Living_kept_Living.c1); (· walk_at "Y.side")))
theorem ok_Living_kept_Living {P : Program} {w : World} {K : PySem.W.Frag} {mg : Str → Option Value} {base : Heap} (T : Txt K mg) : FnOk P w K mg base (L2.CX P w) 1 T.d_Living_kept.f T.d_Living_kept.fd ["self"] (SpD K R_Living_kept_Living) := by
  have cl_Living := T.cl_Living
  have nt_Living_lodgers := T.nt_Living_lodgers
  refine T.d_Living_kept.F.ok sc_Living_kept (fun vs H Q E h => spd_len (R := R_Living_kept_Living) (fun ds o r => by cases r <;> rfl) h) (fun cdv A outer s H vs Q E hr h => ?_)
  obtain ⟨ds, o, S, r, hd, hS, hq⟩ := h
  have hu := hu_of hr
  refine ⟨_, (pss_one (ps_ret (pe_lc (own := [("number", 1)]) (g := gName 1) (tt := tYes) rfl sc_Living_kept.nd (pi_list (pe_callB cr_sortedI (by rfl) T.z_sorted (by decide +kernel) (pa_cons (pe_callTy (r := rListD) (call_list_dK rfl) (by rfl) T.z_list (by decide +kernel) (pa_cons (pe_fld (pv 0) rfl) pa_nil)) pa_nil))) (blkOk_by (N := ["self", "number"]) (sc := defScope s_Living_kept) (by decide +kernel)) (fun _ _ _ _ _ => pg_name (i := 1) sc_Living_kept.nd rfl (Or.inl rfl)) (fun _ _ _ _ _ => pts_nil) (fun _ _ _ _ _ => (pe_ix (r := rIxA K) (ix_A hu) (pe_fldK (K2 := K) rfl (pv 0) rfl) (pv 1) (fun _ _ => rfl)))))), ?_⟩
  clear hr hu
  cases r with
  | @c1 part salt m C L h =>
    have q := hq.ret
    refine body_gd (n := 1) hd hS rfl ?_
    show Gd _ _ _ [some (.sh (livD part salt m C L)), none]
    clear hq hd
    try dsimp only [cxOf]
    have hsl := sizeLine_eq
    have hll := h.ll
    have e1 : ((L.map fun p => stK p.1).map kyD) = (L.map fun p => stampK p.1).map Da.int := by rw [List.map_map, List.map_map]; rfl
    refine s_retL q (eo_lcM (f := fun p : KeyM × Int => Da.int (stampK p.1)) (xs := sortL L) prD (ej_list (eo_freeze (eo_is (u := ol ((sortL L).map fun p => Da.int (stampK p.1))) (eo_sorted (xs := L.map fun p => stampK p.1) (eb_is (eb_of (eo_listK (by walk_at "Y.eb")) (ol_flat _ _)) (by rw [e1]))) (by rw [sortL_keys, List.map_map]; rfl)) (ol_flat _ _)) (.inl rfl)) (by rw [sortL_len]; omega) (by decide) (fun p hp => ?_)) rfl
    have ha := at_lookup h (sortL_mem.mp hp)
    walk_at "Y.es"
inductive R_Living_value_Living : Rel
  | c1 {k : KeyM} {part salt m : Int} {C : List Int} {l : Da} (h : okK k = true ∧ (1 ≤ part ∧ 0 ≤ salt ∧ salt ≤ 10000000000000) ∧ 1 ≤ m ∧ (C.length : Int) = 2 * part) : R_Living_value_Living [livG part salt m C l, kd k] (.ret (.sh (.int (telK salt part m C k))))
  | c2 {k : KeyM} {part salt m : Int} {C : List Int} {l : Da} (h : okK k = false ∧ smK k = true) : R_Living_value_Living [livG part salt m C l, kd k] (.exc "NoKey" (some (.int 0)))
local macro_rules | `(tactic| walk_at "Y.call") => `(tactic| ((with_reducible apply R_Living_value_Living.c1); (· walk_at "Y.side")))
local macro_rules | `(tactic| walk_at "Y.call") => `(tactic| ((with_reducible apply R_Living_value_Living.c2); (· walk_at "Y.side")))
theorem ok_Living_value_Living {P : Program} {w : World} {K : PySem.W.Frag} {mg : Str → Option Value} {base : Heap} (T : Txt K mg) : FnOk P w K mg base (L2.CX P w) 5 T.d_Living_value.f T.d_Living_value.fd ["self", "key"] (SpD K R_Living_value_Living) := by
  have G_summed := ok_summed (P := P) (w := w) (base := base) T
  have G_Living_places_Living := ok_Living_places_Living (P := P) (w := w) (base := base) T
  have cl_Living := T.cl_Living
  have nt_Living_cells := T.nt_Living_cells
  have nt_Living_modulus := T.nt_Living_modulus
  refine T.d_Living_value.F.ok sc_Living_value (fun vs H Q E h => spd_len (R := R_Living_value_Living) (fun ds o r => by cases r <;> rfl) h) (fun cdv A outer s H vs Q E hr h => ?_)
  obtain ⟨ds, o, S, r, hd, hS, hq⟩ := h
  have hu := hu_of hr
  refine ⟨_, (pss_one (ps_ret (pe_call G_summed (hr.mono (by decide)) (by rfl) T.g_summed T.d_summed.kp T.d_summed.b .nil passE (pa_cons (pe_fld (pv 0) rfl) (pa_cons (pe_meth (pv 0) T.cl_Living T.me_Living_places G_Living_places_Living (hr.mono (by decide)) T.d_Living_places.b .nil passE (pa_cons (pv 1) pa_nil)) (pa_cons (pe_fld (pv 0) rfl) pa_nil)))))), ?_⟩
  clear hr hu
  cases r with
  | @c1 k part salt m C l h =>
    have q := hq.ret
    refine body_gd (n := 0) hd hS rfl ?_
    show Gd _ _ _ [some (.sh (livG part salt m C l)), some (.sh (kd k))]
    clear hq hd
    try dsimp only [cxOf]
    obtain ⟨h1, ⟨h2, h3, h4⟩, h5, h6⟩ := h
    have ha := plA_in (salt := salt) k h2
    have hb := plB_in (salt := salt) k h2
    have hp : okK k = true ∧ 1 ≤ part ∧ 0 ≤ salt ∧ salt ≤ 10000000000000 := ⟨h1, h2, h3, h4⟩
    have hs : 0 < m ∧ ∀ p ∈ [plA salt part k, plB salt part k], 0 ≤ p ∧ p < C.length := ⟨by omega, fun p hp => by
      simp only [List.mem_cons, List.not_mem_nil, or_false] at hp
      rcases hp with rfl | rfl <;> omega⟩
    refine s_retS q (es_flat (eb_call (eab_cons (by walk_at "Y.eb") (eab_cons (eb_meth (by walk_at "Y.eb") (by decide) (by walk_at "Y.eab") (R_Living_places_Living.c1 hp) (ol_flat _ _)) (by walk_at "Y.eab"))) (R_summed.c1 hs) (Tr.flat_sh _)) rfl) ?_
    rw [telC_sum]
    rfl
  | @c2 k part salt m C l h =>
    have q := hq.exc
    refine body_gd (n := 0) hd hS rfl ?_
    show Gd _ _ _ [some (.sh (livG part salt m C l)), some (.sh (kd k))]
    clear hq hd
    try dsimp only [cxOf]
    exact x_ret (ex_arg2 (by walk_at "Y.eb") (ex_meth (by walk_at "Y.eb") (by decide) (by walk_at "Y.eab") (R_Living_places_Living.c2 h))) q

abbrev fnD (x : Fnd) : Da := .tup [.int x.2.1, .int x.2.2]
abbrev fnK (F : List Fnd) : NK := .dct (F.map fun x => .inl x.1)
abbrev fndT (F : List Fnd) : Tr := .nd (fnK F) ((F.map fnD).map Tr.sh)
abbrev tiB (t : Tie) : Da := .nd .tup ([t.2.1, t.2.2].map Da.int)
abbrev tiD (t : Tie) : Da := .tup [.int t.1, tiB t]
theorem fnK_mem {F : List Fnd} {p : Int} : (Sum.inl p : Key) ∈ (F.map fun x => (Sum.inl x.1 : Key)) ↔ p ∈ plF F := by
  unfold plF
  rw [List.mem_map, List.mem_map]
  constructor
  · rintro ⟨x, hx, e⟩
    exact ⟨x, hx, Sum.inl.inj e⟩
  · rintro ⟨x, hx, e⟩
    exact ⟨x, hx, by rw [e]⟩
theorem fn_putK {F : List Fnd} {x : Fnd} (h : ¬ x.1 ∈ plF F) : putKs (F.map fun x => (Sum.inl x.1 : Key)) (.inl x.1) = (F ++ [x]).map fun x => .inl x.1 := by
  unfold putKs
  rw [if_neg (fun z => h (fnK_mem.mp z)), List.map_append]
  rfl
theorem fn_putV {F : List Fnd} {x : Fnd} (h : ¬ x.1 ∈ plF F) : putVs (F.map fun x => (Sum.inl x.1 : Key)) (F.map fnD) (.inl x.1) (fnD x) = (F ++ [x]).map fnD := by
  unfold putVs
  rw [if_neg (fun z => h (fnK_mem.mp z)), List.map_append]
  rfl
theorem rf_test {t : Tie} {here : Int} {F : List Fnd} : (decide (here ∈ [t.2.1, t.2.2]) && !decide ((Sum.inl (t.2.1 + t.2.2 - here) : Key) ∈ (F.map fun x => (Sum.inl x.1 : Key)))) = decide (endOf t here ∧ ¬ oth t here ∈ plF F) := by
  rw [show decide (here ∈ [t.2.1, t.2.2]) = decide (endOf t here) from decide_eq_decide.mpr (by simp [endOf]), show decide ((Sum.inl (t.2.1 + t.2.2 - here) : Key) ∈ (F.map fun x => (Sum.inl x.1 : Key))) = decide (oth t here ∈ plF F) from decide_eq_decide.mpr fnK_mem]
  by_cases h1 : endOf t here
  · by_cases h2 : oth t here ∈ plF F
    · simp [h1, h2]
    · simp [h1, h2]
  · simp [h1]
theorem ties_items {L : Lod} : itemsD (L.map fun p => stK p.1) (L.map prD) = L.map fun q : KeyM × Int => .tup [.int (stampK q.1), prD q] := by
  unfold itemsD
  rw [List.zip_map', List.map_map]
  rfl
theorem rfRun_nil {E : List Tie} : ∀ {n : Nat} {st : List Fnd × List Int}, st.2 = [] → rfRun E n st = st.1
  | 0, _, _ => rfl
  | n + 1, st, h => by
    unfold rfRun
    rw [h]
    rfl
theorem rfRun_next {E : List Tie} {n : Nat} {F : List Fnd} {td : List Int} {here : Int} : rfRun E (n + 1) (F, td ++ [here]) = rfRun E n (rfTurn E here (F, td)) := by
  rw [rfRun]
  have e : (td ++ [here]).getLast? = some here := List.getLast?_concat
  simp only [e, List.dropLast_concat]
theorem rf_step {E : List Tie} {start wo here : Int} {F : List Fnd} {td : List Int} (h : RfOk E start wo (F, td ++ [here])) (c : RfCl E (F, td ++ [here])) : RfMid E start wo here (F, td) := by
  refine ⟨⟨h.nd, h.hd, fun p hp => h.td p (List.mem_append_left _ hp), h.par⟩, h.td here (List.mem_append_right _ (.head _)), fun p hp hn hh t ht he => c p hp (fun z => ?_) t ht he⟩
  rcases List.mem_append.mp z with z | z
  · exact hn z
  · exact hh (List.mem_singleton.mp z)
theorem rfTurn_take {E : List Tie} {here : Int} {st : List Fnd × List Int} {k : Nat} {t : Tie} (h : E[k]? = some t) : rfTurn (E.take (k + 1)) here st = rfOne here (rfTurn (E.take k) here st) t := by
  unfold rfTurn
  rw [List.take_add_one, h, List.foldl_append]
  rfl
inductive R_Living_reached_from_Living : RelT
  | c1 {a : Addr} {part salt m start wo : Int} {C : List Int} {L : Lod} (h : LvOk part salt m C L) : R_Living_reached_from_Living (livT a part salt m C L) [.int start, .int wo] (.ret (livT a part salt m C L) (fndT (reachM (tiesW salt part L wo) start wo)))
theorem ok_Living_reached_from_Living {P : Program} {w : World} {K : PySem.W.Frag} {mg : Str → Option Value} {base : Heap} (T : Txt K mg) : FnOk P w K mg base (L2.CX P w) 5 T.d_Living_reached_from.f T.d_Living_reached_from.fd ["self", "start", "without"] (SpT K R_Living_reached_from_Living) := by
  have G_Living_places_Living := ok_Living_places_Living (P := P) (w := w) (base := base) T
  have cl_Living := T.cl_Living
  have nt_Living_lodgers := T.nt_Living_lodgers
  refine T.d_Living_reached_from.F.ok sc_Living_reached_from (fun vs H Q E h => spt_len (R := R_Living_reached_from_Living) (fun t ds o r => by cases r <;> rfl) h) (fun cdv A outer s H vs Q E hr h => ?_)
  obtain ⟨x, ws, t0, ds, c0, S, o, rfl, r, ow, nd, fr, hd, hS, hq⟩ := h
  have hu := hu_of hr
  refine ⟨_, (pss_cons (ps_set (i := 3) sc_Living_reached_from.nd rfl (Or.inl rfl) (pe_disp (pps_cons (pv 1) (pe_tup (pa_cons (pv 2) (pa_cons (pv 1) pa_nil))) pps_nil) (by rfl) (by rfl) (fun z => by cases z) (by decide)))
  (pss_cons (ps_set (i := 4) sc_Living_reached_from.nd rfl (Or.inl rfl) (pe_lst (pa_cons (pv 1) pa_nil)))
  (pss_cons (ps_asgLock (ps_setLc (i := 6) (own := [("number", 5), ("pair", 10)]) (g := gTup K 2 (gCons (gName 5) (gCons (gName 10) (gNil)))) rfl sc_Living_reached_from.nd rfl rfl (sw_true rfl rfl rfl (by decide +kernel)) (pi_items (pe_fld (pv 0) rfl)) (blkOk_by (N := ["self", "start", "without", "found", "todo", "number", "ties", "here", "both", "there", "pair"]) (sc := defScope s_Living_reached_from) (by decide +kernel)) (fun _ _ _ _ _ => (pg_tup rfl (pgs_cons (pg_name (i := 5) sc_Living_reached_from.nd rfl (Or.inl rfl)) (pgs_cons (pg_name (i := 10) sc_Living_reached_from.nd rfl (Or.inl rfl)) pgs_nil)))) (fun _ _ _ _ _ => pts_one (pt_cmpR (r := rNeA K) (op_neA hr.units) (pv 5) (pv 2) (nomark _))) (fun _ _ _ _ _ => (pe_tup (pa_cons (pv 5) (pa_cons (pe_meth (pv 0) T.cl_Living T.me_Living_places G_Living_places_Living (hr.mono (by decide)) T.d_Living_places.b .nil passL (pa_cons (pe_ix (r := rIxA K) (ix_A hu) (pv 10) pe_int (fun _ _ => rfl)) pa_nil)) pa_nil))))))
  (pss_cons (ps_while (passes_of rfl) (pt_cmpR (r := rNeA K) (op_neA hr.units) (pv 4) (pe_lst pa_nil) (nomark _))
  (pss_cons (ps_set (i := 7) sc_Living_reached_from.nd rfl (Or.inl rfl) (pe_bm0 PySem.F.plainAttrs_list PySem.F.slot_list_pop PySem.F.type_list_pop mt_pop (pv 4)))
  (pss_one (ps_for (passes_of rfl) rfl (pi_list (pv 6)) (pg_tup rfl (pgs_cons (pg_name (i := 5) sc_Living_reached_from.nd rfl (Or.inl rfl)) (pgs_cons (pg_name (i := 8) sc_Living_reached_from.nd rfl (Or.inl rfl)) pgs_nil)))
  (pss_cons (ps_set (i := 9) sc_Living_reached_from.nd rfl (Or.inl rfl) (pe_op op_sub (pe_op (r := rAddN) op_addN (pe_ix (r := rIxA K) (ix_A hu) (pv 8) pe_int (fun _ _ => rfl)) (pe_ix (r := rIxA K) (ix_A hu) (pv 8) pe_int (fun _ _ => rfl))) (pv 7)))
  (pss_one (ps_if (PW.pt (pw_and (pt_cmpR (r := rInA K) (op_inA hu) (pv 7) (pv 8) (by rfl)) (pw_and1 (pt_cmpR (r := rNinA K) (op_notinA hu) (pv 9) (pv 3) (by rfl))))) (pss_cons (ps_asg (pe_tup (pa_cons (pv 5) (pa_cons (pv 7) pa_nil))) (pg_sub (pv 3) (pv 9) (set_A hu)))
  (pss_one (ps_expr (pe_bm PySem.F.plainAttrs_list PySem.F.slot_list_append PySem.F.type_list_append mt_append (pv 4) (pa_cons (pv 9) pa_nil))))) pss_nil)))))))
  (pss_one (ps_ret (pv 3))))))), ?_⟩
  clear hr hu
  cases r with
  | @c1 a part salt m start wo C L h =>
    have e0 := ow.slf_val
    subst e0
    have q : RetT ⟨K, S, off H c0⟩ _ Q _ _ := hq
    refine body_gdM (n := 8) ow nd fr hd hS rfl ?_
    show Gd _ _ _ [some (livT a part salt m C L), some (.sh (.int start)), some (.sh (.int wo)), none, none, none, none, none, none, none, none]
    clear hq hd
    try dsimp only [cxOf]
    have hsl := sizeLine_eq
    have hll := h.ll
    refine q_own (t := fndT [(start, wo, start)]) (eo_disp1 (kk := .inl start) (by walk_at "Y.eb") (eo_freeze (eo_tup (ds := [.int wo, .int start]) (by walk_at "Y.eas") (by simp only [List.length_cons, List.length_nil]; omega)) (ol_flat _ _))) ?_
    walk_at "Y.rho"
    refine q_own (t := ol ([start].map Da.int)) (eo_is (t := ol [.int start]) (by walk_at "Y.en") rfl) ?_
    walk_at "Y.rho"
    refine q_asg (d := .nd .lst ((tiesW salt part L wo).map tiD)) (es_is (eo_freeze (eo_lockT (i := 0) (p := [4]) (T := livT a part salt m C L) (ks := L.map fun p => stK p.1) (us := (L.map prD).map Tr.sh) rfl rfl (t := .nd .lst ((L.filter fun q : KeyM × Int => !decide (stampK q.1 = wo)).map fun q => Tr.sh (tiD (tieOf salt part q.1)))) ?_) rfl) ?_) ?_
    · refine eo_lcI (T := livK (.slf a "Living" liN) part salt m C (ldL L) L) (pth := [4]) (ds := L.map prD) (fun q : KeyM × Int => !decide (stampK q.1 = wo)) (fun q => Tr.sh (tiD (tieOf salt part q.1))) (loc_fld loc_var rfl rfl (by assumption) (by assumption) (by decide) rfl) rfl rfl ties_items (by omega) (fun x hx => ?_)
      refine ⟨_, gw_tup (gws_cons (gw_name (by decide)) (gws_cons (gw_name (by decide)) gws_nil)) rfl, et_is (b := !decide (stampK x.1 = wo)) (et_test (eb_op (d := .int (stampK x.1)) (y := .int wo) (eb_var rfl) (eb_var rfl) o_neI)) rfl, fun hp => ?_⟩
      have hpp : okK x.1 = true ∧ 1 ≤ part ∧ 0 ≤ salt ∧ salt ≤ 10000000000000 := ⟨h.ok x hx, h.p1, h.s1, h.s2⟩
      exact eo_freeze (eo_tup (ds := [.int (stampK x.1), plsD salt part x.1]) (eas_cons (by walk_at "Y.es") (eas_cons (eo_freeze (eo_methLT (T := livK (.slf a "Living" liN) part salt m C (ldL L) L) rfl liv_hu liv_ntL (by decide) (by walk_at "Y.eas") (R_Living_places_Living.c1 hpp) pls_lone) (ol_flat _ _)) eas_nil)) (by simp only [List.length_cons, List.length_nil]; omega)) (ol_flat _ _)
    · unfold tiesW
      rw [List.map_map]
      simp only [Tr.flat, Tr.flats_map, List.map_map]
      rfl
    walk_at "Y.rho"
    have hel := ties_len (salt := salt) (part := part) (L := L) (wo := wo)
    generalize hE : tiesW salt part L wo = E at *
    refine q_while (fun n ρ => ∃ F td x5 x7 x8 x9, ρ = [some (livT a part salt m C L), some (.sh (.int start)), some (.sh (.int wo)), some (fndT F), some (ol (td.map Da.int)), x5, some (.sh (.nd .lst (E.map tiD))), x7, x8, x9, none] ∧ (RfOk E start wo (F, td) ∧ RfCl E (F, td)) ∧ ((univT E start).length + td.length ≤ n + F.length ∧ n ≤ 2 * E.length + 1) ∧ rfRun E n (F, td) = reachM E start wo) (2 * E.length + 1) ⟨[(start, wo, start)], [start], none, none, none, none, rfl, rfStart_ok, ?_, rfl⟩ ?_
    · rw [univT_len]
      simp only [List.length_cons, List.length_nil]
      omega
    rintro n ρ' ⟨F, td, x5, x7, x8, x9, rfl, ⟨hok, hcl⟩, ⟨hm, hn⟩, hrun⟩
    have hfl := nd_len hok.nd (rfOk_univ hok)
    rw [plF, List.length_map, univT_len] at hfl
    have hfl : F.length ≤ 2 * E.length + 1 := hfl
    rw [univT_len] at hm
    have hm : 2 * E.length + 1 + td.length ≤ n + F.length := hm
    refine ⟨!(td.map Da.int).isEmpty, by walk_at "Y.et", fun hb => ?_, fun hb => ?_⟩
    · obtain ⟨td0, here, rfl⟩ : ∃ td0 here, td = td0 ++ [here] := by
        cases hz : td with
        | nil => rw [hz] at hb; cases hb
        | cons y r => exact ⟨(y :: r).dropLast, (y :: r).getLast (by simp), (List.dropLast_concat_getLast (by simp)).symm⟩
      refine q_pop (i := 4) (ds := (td0 ++ [here]).map Da.int) (d := .int here) rfl (by rw [List.map_append, List.length_append, List.length_map, List.getElem?_append_right (by simp)]; simp) ?_
      rw [show ((td0 ++ [here]).map Da.int).dropLast = td0.map Da.int by rw [List.map_append]; exact List.dropLast_concat]
      walk_at "Y.rho"
      walk_at "Y.last"
      rw [List.length_append, List.length_cons, List.length_nil] at hm
      have hn1 : n ≠ 0 := by
        intro z
        subst z
        omega
      obtain ⟨n, rfl⟩ : ∃ n', n = n' + 1 := ⟨n - 1, by omega⟩
      have hmid := rf_step hok hcl
      refine q_for2 (f := fun t : Tie => .int t.1) (g := tiB) (xs := E) (ej_list (by walk_at "Y.es") (.inl rfl)) (fun k ρ => ∃ x5 x8 x9, ρ = [some (livT a part salt m C L), some (.sh (.int start)), some (.sh (.int wo)), some (fndT (rfTurn (E.take k) here (F, td0)).1), some (ol ((rfTurn (E.take k) here (F, td0)).2.map Da.int)), x5, some (.sh (.nd .lst (E.map tiD))), some (.sh (.int here)), x8, x9, none]) ⟨_, _, _, rfl⟩ ?_ ?_
      · rintro S1 lb k t ρ' ht ⟨y5, y8, y9, rfl⟩
        walk_at "Y.rho"
        obtain ⟨gm, _, _, glen⟩ := rfFold_mid (E.take k) _ (fun t ht => List.mem_of_mem_take ht) hmid
        have gfl := nd_len gm.ok.nd (rfOk_univ gm.ok)
        rw [plF, List.length_map, univT_len] at gfl
        have glen : (rfTurn (E.take k) here (F, td0)).2.length + F.length = td0.length + (rfTurn (E.take k) here (F, td0)).1.length := glen
        have hnx := rfTurn_take (here := here) (st := (F, td0)) ht
        generalize rfTurn (E.take k) here (F, td0) = st at *
        refine q_asg (d := .int (oth t here)) (es_flat (eb_op (d := .int (t.2.1 + t.2.2)) (eb_op (d := .int t.2.1) (y := .int t.2.2) (eb_ix (eb_var (d := tiB t) rfl) (.inr (.inr rfl)) eb_int rfl) (eb_ix (eb_var (d := tiB t) rfl) (.inr (.inr rfl)) eb_int rfl) o_addI) (eb_var rfl) o_II) rfl) ?_
        walk_at "Y.rho"
        walk_at "Y.last"
        refine q_when (b := decide (endOf t here ∧ ¬ oth t here ∈ plF st.1)) (et_is (et_and (et_test (eb_op (by walk_at "Y.eb") (by walk_at "Y.eb") (o_inI (xs := [t.2.1, t.2.2]) (.inr rfl)))) (fun _ => et_test (eb_op (by walk_at "Y.eb") (by walk_at "Y.eb") (o_ninKI (.inl rfl))))) rf_test) ?_ ?_
        · intro hb
          have hb2 := of_decide_eq_true hb
          have hst : rfOne here st t = (st.1 ++ [(oth t here, t.1, here)], st.2 ++ [oth t here]) := by
            unfold rfOne
            rw [if_pos hb2]
          refine q_put (i := 3) (d := fnD (oth t here, t.1, here)) (kk := .inl (oth t here)) (eo_freeze (eo_tup (ds := [.int t.1, .int here]) (by walk_at "Y.eas") (by simp only [List.length_cons, List.length_nil]; omega)) (ol_flat _ _)) (by walk_at "Y.eb") rfl (by rw [List.length_map]; omega) ?_
          rw [fn_putK (x := (oth t here, t.1, here)) hb2.2, fn_putV (x := (oth t here, t.1, here)) hb2.2]
          walk_at "Y.rho"
          walk_at "Y.last"
          refine q_app (i := 4) (ds := st.2.map Da.int) (d := .int (oth t here)) (by walk_at "Y.es") rfl (by rw [List.length_map]; omega) ?_
          walk_at "Y.rho"
          walk_at "Y.nx"
          refine ⟨some (.sh (.int t.1)), some (.sh (tiB t)), some (.sh (.int (oth t here))), ?_⟩
          rw [hnx, hst, List.map_append (f := Da.int)]
          rfl
        · intro hb
          have hst : rfOne here st t = st := by
            unfold rfOne
            rw [if_neg (of_decide_eq_false hb)]
          walk_at "Y.nx"
          refine ⟨some (.sh (.int t.1)), some (.sh (tiB t)), some (.sh (.int (oth t here))), ?_⟩
          rw [hnx, hst]
      · rintro ρ' ⟨y5, y8, y9, rfl⟩
        rw [List.take_length]
        obtain ⟨gm, gcl, gsub, glen⟩ := rfFold_mid E _ (fun t ht => ht) hmid
        have glen : (rfTurn E here (F, td0)).2.length + F.length = td0.length + (rfTurn E here (F, td0)).1.length := glen
        rw [rfRun_next] at hrun
        walk_at "Y.nx"
        refine ⟨n, by omega, (rfTurn E here (F, td0)).1, (rfTurn E here (F, td0)).2, y5, _, y8, y9, rfl, ⟨gm.ok, fun p hp hnn t ht he => ?_⟩, ⟨?_, by omega⟩, hrun⟩
        · by_cases hh : p = here
          · subst hh
            exact gcl t ht he
          · exact gm.cl p hp hnn hh t ht he
        · rw [univT_len]
          omega
    · have htd : td = [] := by
        cases td with
        | nil => rfl
        | cons y r => cases hb
      rw [rfRun_nil htd] at hrun
      have hrun : F = reachM E start wo := hrun
      rw [← hrun] at q
      exact s_retTv (j := 3) rfl (by decide) rfl rfl q

theorem o_eqB {K : PySem.W.Frag} {a b : Bool} : Op2 K (rEqA K) (.bl a) (.bl b) (.bl (decide (a = b))) := by
  have z := o_eqG (K := K) (d := .bl a) (e := .bl b) .bl .bl
  have e : PyData.eqv (Da.bl a).py (Da.bl b).py = decide (a = b) := by cases a <;> cases b <;> rfl
  rwa [e] at z
theorem shiftM_next {part m s step p : Int} {ks C : List Int} {i : Nat} (h : ks[i]? = some p) : shiftM part m s step (ks.take (i + 1)) C = (shiftM part m s step (ks.take i) C).set p.toNat (shV part m s step p ((shiftM part m s step (ks.take i) C).getD p.toNat 0)) := by
  rw [List.take_add_one, h]
  exact shiftM_snoc
theorem fnK_kd {F : List Fnd} : (F.map fun x => (Sum.inl x.1 : Key)).map kyD = (plF F).map Da.int := by
  unfold plF
  rw [List.map_map, List.map_map]
  rfl
theorem ixN_at {n : Nat} {p : Int} (h : 0 ≤ p ∧ p < n) : ixN n p = some p.toNat := by
  unfold ixN
  rw [if_pos h.1, if_pos (by omega)]
theorem map_set {C : List Int} {i : Nat} {x : Int} : (C.map Da.int).set i (.int x) = (C.set i x).map Da.int := by
  rw [List.map_set]
inductive R_Living_shift_Living : RelT
  | c1 {a : Addr} {part salt m s step : Int} {C : List Int} {L : Lod} {F : List Fnd} (h : 1 ≤ m ∧ (plF F).Nodup ∧ ∀ p ∈ plF F, 0 ≤ p ∧ p < C.length) : R_Living_shift_Living (livT a part salt m C L) [.nd (.dcl (F.map fun x => .inl x.1)) (F.map fnD), .int s, .int step] (.ret (livT a part salt m (shiftM part m s step (plF F) C) L) (.sh .non))
theorem ok_Living_shift_Living {P : Program} {w : World} {K : PySem.W.Frag} {mg : Str → Option Value} {base : Heap} (T : Txt K mg) : FnOk P w K mg base (L2.CX P w) 1 T.d_Living_shift.f T.d_Living_shift.fd ["self", "reached", "start", "step"] (SpT K R_Living_shift_Living) := by
  have cl_Living := T.cl_Living
  have nt_Living_cells := T.nt_Living_cells
  have nt_Living_modulus := T.nt_Living_modulus
  have nt_Living_part := T.nt_Living_part
  refine T.d_Living_shift.F.ok sc_Living_shift (fun vs H Q E h => spt_len (R := R_Living_shift_Living) (fun t ds o r => by cases r <;> rfl) h) (fun cdv A outer s H vs Q E hr h => ?_)
  obtain ⟨x, ws, t0, ds, c0, S, o, rfl, r, ow, nd, fr, hd, hS, hq⟩ := h
  have hu := hu_of hr
  refine ⟨_, (pss_one (ps_for (passes_of rfl) rfl (pi_keys (pv 1)) (pg_name (i := 4) sc_Living_shift.nd rfl (Or.inl rfl))
  (pss_one (ps_if (pt_cmpR (r := rEqA K) (op_eqA hr.units) (pe_cmpR op_lt (pv 4) (pe_fld (pv 0) rfl) (nomark _)) (pe_cmpR op_lt (pv 2) (pe_fld (pv 0) rfl) (nomark _)) (nomark _)) (pss_one (ps_asg (pe_op op_mod (pe_op (r := rAddN) op_addN (pe_ix (r := rIxA K) (ix_A hu) (pe_fld (pv 0) rfl) (pv 4) (fun _ _ => rfl)) (pv 3)) (pe_fld (pv 0) rfl)) (pg_sub (pe_fld (pv 0) rfl) (pv 4) (set_A hu)))) (pss_one (ps_asg (pe_op op_mod (pe_op op_sub (pe_ix (r := rIxA K) (ix_A hu) (pe_fld (pv 0) rfl) (pv 4) (fun _ _ => rfl)) (pv 3)) (pe_fld (pv 0) rfl)) (pg_sub (pe_fld (pv 0) rfl) (pv 4) (set_A hu)))))))), ?_⟩
  clear hr hu
  cases r with
  | @c1 a part salt m s step C L F h =>
    have e0 := ow.slf_val
    subst e0
    have q : RetT ⟨K, S, off H c0⟩ _ Q _ _ := hq
    refine body_gdM (n := 1) ow nd fr hd hS rfl ?_
    show Gd _ _ _ [some (livT a part salt m C L), some (.sh (.nd (.dcl (F.map fun x => .inl x.1)) (F.map fnD))), some (.sh (.int s)), some (.sh (.int step)), none]
    clear hq hd
    try dsimp only [cxOf]
    obtain ⟨hm, hnd, hin⟩ := h
    walk_at "Y.last"
    have hj := ej_keys (B := ⟨K, S, off H c0⟩) (ρ := [some (livT a part salt m C L), some (.sh (.nd (.dcl (F.map fun x => .inl x.1)) (F.map fnD))), some (.sh (.int s)), some (.sh (.int step)), none]) (td := tVar 1) (es_var rfl)
    rw [fnK_kd] at hj
    refine q_forM (f := Da.int) (xs := plF F) hj (fun i ρ => ∃ x, ρ = [some (livT a part salt m (shiftM part m s step ((plF F).take i) C) L), some (.sh (.nd (.dcl (F.map fun x => .inl x.1)) (F.map fnD))), some (.sh (.int s)), some (.sh (.int step)), x]) ⟨_, rfl⟩ ?_ ?_
    · rintro S1 lb i p ρ' hp ⟨x, rfl⟩
      walk_at "Y.rho"
      have hpi := hin p (List.mem_of_getElem? hp)
      have hnx := shiftM_next (part := part) (m := m) (s := s) (step := step) (C := C) hp
      have hl := shiftM_len (part := part) (m := m) (start := s) (step := step) ((plF F).take i) C
      generalize shiftM part m s step ((plF F).take i) C = C1 at *
      have ha : atI (C1.map Da.int) p = some (.int (C1.getD p.toNat 0)) := at_int hpi.1 (by omega)
      walk_at "Y.last"
      refine q_if (b := decide (decide (p < part) = decide (s < part))) (et_test (eb_op (by walk_at "Y.eb") (by walk_at "Y.eb") o_eqB)) (fun hb => ?_) (fun hb => ?_)
      · have hv : shV part m s step p (C1.getD p.toNat 0) = (C1.getD p.toNat 0 + step) % m := by
          unfold shV
          rw [if_pos (of_decide_eq_true hb)]
        rw [hv] at hnx
        walk_at "Y.last"
        refine q_mset (i := 0) (p := [3]) (d := .int ((C1.getD p.toNat 0 + step) % m)) (ds := C1.map Da.int) (n := p) (m := p.toNat) (T := livT a part salt m C1 L) (by walk_at "Y.es") (loc_fld loc_var rfl rfl (by assumption) (by assumption) (by decide) rfl) (by walk_at "Y.eb") rfl rfl (ixN_at (by rw [List.length_map]; omega)) ?_
        rw [map_set, ← hnx]
        walk_at "Y.nx"
        exact ⟨_, rfl⟩
      · have hv : shV part m s step p (C1.getD p.toNat 0) = (C1.getD p.toNat 0 - step) % m := by
          unfold shV
          rw [if_neg (of_decide_eq_false hb)]
        rw [hv] at hnx
        walk_at "Y.last"
        refine q_mset (i := 0) (p := [3]) (d := .int ((C1.getD p.toNat 0 - step) % m)) (ds := C1.map Da.int) (n := p) (m := p.toNat) (T := livT a part salt m C1 L) (by walk_at "Y.es") (loc_fld loc_var rfl rfl (by assumption) (by assumption) (by decide) rfl) (by walk_at "Y.eb") rfl rfl (ixN_at (by rw [List.length_map]; omega)) ?_
        rw [map_set, ← hnx]
        walk_at "Y.nx"
        exact ⟨_, rfl⟩
    · rintro ρ' ⟨x, rfl⟩
      rw [List.take_length]
      refine g_next ?_
      exact en_retT rfl q
inductive R_Living_drop_Living : RelT
  | c1 {a : Addr} {part salt m : Int} {C : List Int} {L : Lod} {k : KeyM} (h : (∀ p ∈ L, okK p.1 = true) ∧ okK k = true ∧ k ∈ L.map Prod.fst) : R_Living_drop_Living (livT a part salt m C L) [kd k] (.ret (livT a part salt m C (dropL L k)) (.sh .non))
  | c2 {a : Addr} {part salt m : Int} {C : List Int} {L : Lod} {k : KeyM} (h : (∀ p ∈ L, okK p.1 = true) ∧ okK k = true ∧ ¬ k ∈ L.map Prod.fst) : R_Living_drop_Living (livT a part salt m C L) [kd k] (.exc "NoSuch" none (livT a part salt m C L))
  | c3 {a : Addr} {part salt m : Int} {C : List Int} {L : Lod} {k : KeyM} (h : okK k = false ∧ smK k = true) : R_Living_drop_Living (livT a part salt m C L) [kd k] (.exc "NoKey" (some (.int 0)) (livT a part salt m C L))
theorem ok_Living_drop_Living {P : Program} {w : World} {K : PySem.W.Frag} {mg : Str → Option Value} {base : Heap} (T : Txt K mg) : FnOk P w K mg base (L2.CX P w) 4 T.d_Living_drop.f T.d_Living_drop.fd ["self", "key"] (SpT K R_Living_drop_Living) := by
  have G_stamp := ok_stamp (P := P) (w := w) (base := base) T
  have cl_Living := T.cl_Living
  have nt_Living_lodgers := T.nt_Living_lodgers
  refine T.d_Living_drop.F.ok sc_Living_drop (fun vs H Q E h => spt_len (R := R_Living_drop_Living) (fun t ds o r => by cases r <;> rfl) h) (fun cdv A outer s H vs Q E hr h => ?_)
  obtain ⟨x, ws, t0, ds, c0, S, o, rfl, r, ow, nd, fr, hd, hS, hq⟩ := h
  have hu := hu_of hr
  refine ⟨_, (pss_cons (ps_set (i := 2) sc_Living_drop.nd rfl (Or.inl rfl) (pe_call G_stamp (hr.mono (by decide)) (by rfl) T.g_stamp T.d_stamp.kp T.d_stamp.b .nil passE (pa_cons (pv 1) pa_nil)))
  (pss_cons (ps_if (pt_cmpR (r := rNinA K) (op_notinA hu) (pv 2) (pe_fld (pv 0) rfl) (by rfl)) (pss_one (ps_raiseN (pmk_own PySem.F.excBase_ValueError T.xi_NoSuch T.c_NoSuch T.kp_NoSuch (raises_own T.bs_NoSuch T.ty_NoSuch) (by rfl)))) pss_nil)
  (pss_one (ps_expr (pe_dpop1 (pe_fld (pv 0) rfl) (pv 2) ⟨by rfl, by rfl, by rfl, by rfl⟩))))), ?_⟩
  clear hr hu
  cases r with
  | @c1 a part salt m C L k h =>
    have e0 := ow.slf_val
    subst e0
    have q : RetT ⟨K, S, off H c0⟩ _ Q _ _ := hq
    refine body_gdM (n := 1) ow nd fr hd hS rfl ?_
    show Gd _ _ _ [some (livT a part salt m C L), some (.sh (kd k)), none]
    clear hq hd
    try dsimp only [cxOf]
    obtain ⟨h1, h2, h3⟩ := h
    have hst : ∀ p ∈ L, stK p.1 = stK k → p.1 = k := fun p hp e => stK_inj (h1 p hp) h2 e
    have hm : stK k ∈ (L.map fun p => stK p.1) := (mem_mapf (f := stK) hst).mpr h3
    walk_at "Y.q"
    refine q_when (b := false) (et_is (et_test (eb_op (by walk_at "Y.eb") (eb_fld (eb_liv rfl) (by assumption) (by assumption) rfl) (o_ninKI (.inl rfl)))) (by rw [decide_eq_true hm]; rfl)) (fun hb => by cases hb) ?_
    intro _
    walk_at "Y.last"
    refine q_mdpop (i := 0) (p := [4]) (T := livT a part salt m C L) (kk := stK k) (ds := L.map prD) (loc_fld loc_var rfl rfl (by assumption) (by assumption) (by decide) rfl) (by walk_at "Y.eb") rfl rfl hm ?_
    rw [dropKs_L (f := stK) hst, dropVs_L (f := stK) (g := prD) hst]
    refine g_next ?_
    exact en_retT (a := a) (C := "Living") (ns := liN) rfl q
  | @c2 a part salt m C L k h =>
    have e0 := ow.slf_val
    subst e0
    have q : XkT ⟨K, S, off H c0⟩ _ E _ _ _ := hq
    refine body_gdM (n := 1) ow nd fr hd hS rfl ?_
    show Gd _ _ _ [some (livT a part salt m C L), some (.sh (kd k)), none]
    clear hq hd
    try dsimp only [cxOf]
    obtain ⟨h1, h2, h3⟩ := h
    have hst : ∀ p ∈ L, stK p.1 = stK k → p.1 = k := fun p hp e => stK_inj (h1 p hp) h2 e
    have hm : ¬ stK k ∈ (L.map fun p => stK p.1) := fun z => h3 ((mem_mapf (f := stK) hst).mp z)
    walk_at "Y.q"
    refine q_when (b := true) (et_is (et_test (eb_op (by walk_at "Y.eb") (eb_fld (eb_liv rfl) (by assumption) (by assumption) rfl) (o_ninKI (.inl rfl)))) (by rw [decide_eq_false hm]; rfl)) (fun hb => ?_) (fun hb => by cases hb)
    exact x_raiseNT rfl q
  | @c3 a part salt m C L k h =>
    have e0 := ow.slf_val
    subst e0
    have q : XkT ⟨K, S, off H c0⟩ _ E _ _ _ := hq
    refine body_gdM (n := 1) ow nd fr hd hS rfl ?_
    show Gd _ _ _ [some (livT a part salt m C L), some (.sh (kd k)), none]
    clear hq hd
    try dsimp only [cxOf]
    exact x_asgT (ex_call (by walk_at "Y.eab") (R_stamp.c2 h)) rfl q
inductive R_Living_put_Living : RelT
  | c1 {a : Addr} {part salt m v ch : Int} {C C' : List Int} {L : Lod} {k : KeyM} (h : LvOk part salt m C L ∧ okK k = true ∧ (0 ≤ v ∧ v < m) ∧ L.length < 1000 ∧ putS salt part m C L k v = some (C', ch)) : R_Living_put_Living (livT a part salt m C L) [kd k, .int v] (.ret (livT a part salt m C' (putL L k v)) (.sh (.int ch)))
  | c2 {a : Addr} {part salt m v : Int} {C : List Int} {L : Lod} {k : KeyM} (h : LvOk part salt m C L ∧ okK k = true ∧ (0 ≤ v ∧ v < m) ∧ putS salt part m C L k v = none) : R_Living_put_Living (livT a part salt m C L) [kd k, .int v] (.exc "Stuck" none (livT a part salt m C L))
  | c3 {a : Addr} {part salt m v : Int} {C : List Int} {L : Lod} {k : KeyM} (h : okK k = false ∧ smK k = true) : R_Living_put_Living (livT a part salt m C L) [kd k, .int v] (.exc "NoKey" (some (.int 0)) (livT a part salt m C L))
  | c4 {a : Addr} {part salt m v : Int} {C : List Int} {L : Lod} {k : KeyM} (h : LvOk part salt m C L ∧ okK k = true ∧ (v < 0 ∨ m ≤ v)) : R_Living_put_Living (livT a part salt m C L) [kd k, .int v] (.exc "NoValue" (some (.int 0)) (livT a part salt m C L))
theorem ok_Living_put_Living {P : Program} {w : World} {K : PySem.W.Frag} {mg : Str → Option Value} {base : Heap} (T : Txt K mg) : FnOk P w K mg base (L2.CX P w) 6 T.d_Living_put.f T.d_Living_put.fd ["self", "key", "value"] (SpT K R_Living_put_Living) := by
  have G_Living_places_Living := ok_Living_places_Living (P := P) (w := w) (base := base) T
  have G_NoValue_init := ok_NoValue_init (P := P) (w := w) (base := base) T
  have G_stamp := ok_stamp (P := P) (w := w) (base := base) T
  have G_Living_value_Living := ok_Living_value_Living (P := P) (w := w) (base := base) T
  have G_Living_reached_from_Living := ok_Living_reached_from_Living (P := P) (w := w) (base := base) T
  have G_Living_shift_Living := ok_Living_shift_Living (P := P) (w := w) (base := base) T
  have cl_Living := T.cl_Living
  have nt_Living_lodgers := T.nt_Living_lodgers
  have nt_Living_modulus := T.nt_Living_modulus
  refine T.d_Living_put.F.ok sc_Living_put (fun vs H Q E h => spt_len (R := R_Living_put_Living) (fun t ds o r => by cases r <;> rfl) h) (fun cdv A outer s H vs Q E hr h => ?_)
  obtain ⟨x, ws, t0, ds, c0, S, o, rfl, r, ow, nd, fr, hd, hS, hq⟩ := h
  have hu := hu_of hr
  refine ⟨_, (pss_cons (ps_asg (pe_meth (pv 0) T.cl_Living T.me_Living_places G_Living_places_Living (hr.mono (by decide)) T.d_Living_places.b .nil passE (pa_cons (pv 1) pa_nil)) (pg_tup rfl (pgs_cons (pg_name (i := 3) sc_Living_put.nd rfl (Or.inl rfl)) (pgs_cons (pg_name (i := 4) sc_Living_put.nd rfl (Or.inl rfl)) pgs_nil))))
  (pss_cons (ps_if (PW.pt (pw_or (pt_cmpR op_lt (pv 2) pe_int (nomark _)) (pw_or1 (pt_cmpR op_ge (pv 2) (pe_fld (pv 0) rfl) (nomark _))))) (pss_one (ps_raiseO (pmk_oex T.ox_NoValue T.i_NoValue T.it_NoValue G_NoValue_init (hr.mono (by decide)) T.d_NoValue_init.b .nil passL (by rfl) T.c_NoValue (pa_cons pe_int pa_nil)))) pss_nil)
  (pss_cons (ps_set (i := 5) sc_Living_put.nd rfl (Or.inl rfl) (pe_call G_stamp (hr.mono (by decide)) (by rfl) T.g_stamp T.d_stamp.kp T.d_stamp.b .nil passE (pa_cons (pv 1) pa_nil)))
  (pss_cons (ps_set (i := 6) sc_Living_put.nd rfl (Or.inl rfl) (pe_op op_mod (pe_op op_sub (pv 2) (pe_meth (pv 0) T.cl_Living T.me_Living_value G_Living_value_Living (hr.mono (by decide)) T.d_Living_value.b .nil passE (pa_cons (pv 1) pa_nil))) (pe_fld (pv 0) rfl)))
  (pss_cons (ps_set (i := 7) sc_Living_put.nd rfl (Or.inl rfl) pe_int)
  (pss_cons (ps_if (pt_cmpR (r := rNeA K) (op_neA hr.units) (pv 6) pe_int (nomark _)) (pss_cons (ps_set (i := 8) sc_Living_put.nd rfl (Or.inl rfl) (pe_meth (pv 0) T.cl_Living T.me_Living_reached_from G_Living_reached_from_Living (hr.mono (by decide)) T.d_Living_reached_from.b .nil passE (pa_cons (pv 3) (pa_cons (pv 5) pa_nil))))
  (pss_cons (ps_if (pt_cmpR (r := rInA K) (op_inA hu) (pv 4) (pv 8) (by rfl)) (pss_one (ps_raiseN (pmk_own PySem.F.excBase_ValueError T.xi_Stuck T.c_Stuck T.kp_Stuck (raises_own T.bs_Stuck T.ty_Stuck) (by rfl)))) pss_nil)
  (pss_cons (ps_set (i := 9) sc_Living_put.nd rfl (Or.inl rfl) (pe_meth (pv 0) T.cl_Living T.me_Living_reached_from G_Living_reached_from_Living (hr.mono (by decide)) T.d_Living_reached_from.b .nil passE (pa_cons (pv 4) (pa_cons (pv 5) pa_nil))))
  (pss_cons (ps_set (i := 7) sc_Living_put.nd rfl (Or.inl rfl) (pe_callB (r := rMinA K) (call_minA rfl) (by rfl) T.z_min (by decide +kernel) (pa_cons (pe_callB (r := rLenA K) call_lenA (by rfl) T.z_len (by decide +kernel) (pa_cons (pv 8) pa_nil)) (pa_cons (pe_callB (r := rLenA K) call_lenA (by rfl) T.z_len (by decide +kernel) (pa_cons (pv 9) pa_nil)) pa_nil))))
  (pss_one (ps_if (pt_cmpR op_lt (pe_callB (r := rLenA K) call_lenA (by rfl) T.z_len (by decide +kernel) (pa_cons (pv 9) pa_nil)) (pe_callB (r := rLenA K) call_lenA (by rfl) T.z_len (by decide +kernel) (pa_cons (pv 8) pa_nil)) (nomark _)) (pss_one (L2.ps_lockG (ps_expr (pe_meth (pv 0) T.cl_Living T.me_Living_shift G_Living_shift_Living (hr.mono (by decide)) T.d_Living_shift.b .nil passE (pa_cons (pv 9) (pa_cons (pv 4) (pa_cons (pv 6) pa_nil))))))) (pss_one (L2.ps_lockG (ps_expr (pe_meth (pv 0) T.cl_Living T.me_Living_shift G_Living_shift_Living (hr.mono (by decide)) T.d_Living_shift.b .nil passE (pa_cons (pv 8) (pa_cons (pv 3) (pa_cons (pv 6) pa_nil))))))))))))) pss_nil)
  (pss_cons (ps_asg (pe_tup (pa_cons (pv 1) (pa_cons (pv 2) pa_nil))) (pg_sub (pe_fld (pv 0) rfl) (pv 5) (set_A hu)))
  (pss_one (ps_ret (pv 7)))))))))), ?_⟩
  clear hr hu
  cases r with
  | @c1 a part salt m v ch C C' L k h =>
    have e0 := ow.slf_val
    subst e0
    have q : RetT ⟨K, S, off H c0⟩ _ Q _ _ := hq
    refine body_gdM (n := 7) ow nd fr hd hS rfl ?_
    show Gd _ _ _ [some (livT a part salt m C L), some (.sh (kd k)), some (.sh (.int v)), none, none, none, none, none, none, none]
    clear hq hd
    try dsimp only [cxOf]
    obtain ⟨h, hk, hv, hl, he⟩ := h
    have hsl := sizeLine_eq
    have hm1 := h.m1
    have hst := h.stuniq hk
    have hA := plA_in (salt := salt) k h.p1
    have hB := plB_in (salt := salt) k h.p1
    have hpp : okK k = true ∧ 1 ≤ part ∧ 0 ≤ salt ∧ salt ≤ 10000000000000 := ⟨hk, h.p1, h.s1, h.s2⟩
    have hvv : okK k = true ∧ (1 ≤ part ∧ 0 ≤ salt ∧ salt ≤ 10000000000000) ∧ 1 ≤ m ∧ (C.length : Int) = 2 * part := ⟨hk, ⟨h.p1, h.s1, h.s2⟩, by omega, h.len⟩
    refine q_tgt (d := plsD salt part k) (eo_freeze (eo_methLT (T := livT a part salt m C L) rfl liv_hu liv_ntT (by decide) (by walk_at "Y.eas") (R_Living_places_Living.c1 hpp) pls_lone) (ol_flat _ _)) (gt_tup (gts_cons gt_name (gts_cons gt_name gts_nil)) rfl) ?_
    walk_at "Y.rho"
    refine q_when (b := false) (et_is (by walk_at "Y.et") (by rw [decide_eq_false (by omega), decide_eq_false (by omega)]; rfl)) (fun hb => by cases hb) ?_
    intro _
    walk_at "Y.q"
    refine q_asg (d := .int (stepM salt part m C k v)) (es_is (d := .int ((v - telK salt part m C k) % m)) (es_flat (eb_op (eb_op (by walk_at "Y.eb") (eb_of (eo_methLT (T := livT a part salt m C L) rfl liv_hu liv_ntT (by decide) (by walk_at "Y.eas") (R_Living_value_Living.c1 hvv) (.sh (.fl rfl))) (Tr.flat_sh _)) (by walk_at "Y.op")) (by walk_at "Y.eb") (by walk_at "Y.op")) rfl) rfl) ?_
    walk_at "Y.rho"
    walk_at "Y.q"
    refine q_joinP (fun r => ∃ x8 x9, r = [some (livT a part salt m C' L), some (.sh (kd k)), some (.sh (.int v)), some (.sh (.int (plA salt part k))), some (.sh (.int (plB salt part k))), some (.sh (.int (stampK k))), some (.sh (.int (stepM salt part m C k v))), some (.sh (.int ch)), x8, x9]) (by walk_at "Y.et") ?_ ?_ ?_
    · rintro r ⟨x8, x9, rfl⟩
      refine q_mput (i := 0) (p := [4]) (T := livT a part salt m C' L) (d := prD (k, v)) (kk := stK k) (ds := L.map prD) (eo_freeze (eo_tup (ds := [kd k, .int v]) (by walk_at "Y.eas") (by simp only [List.length_cons, List.length_nil]; omega)) (ol_flat _ _)) (loc_fld loc_var rfl rfl (by assumption) (by assumption) (by decide) rfl) (by walk_at "Y.eb") rfl rfl (by rw [List.length_map]; omega) ?_
      rw [putKs_L (f := stK) (v := v) hst, putVs_L (f := stK) (g := prD) hst]
      walk_at "Y.last"
      exact s_retT0 (es_var (d := .int ch) rfl) (a := a) (C := "Living") (ns := liN) rfl rfl q
    · intro hb hfin
      have hne : ¬ stepM salt part m C k v = 0 := by
        intro z
        rw [z] at hb
        cases hb
      unfold putS at he
      rw [if_neg hne] at he
      by_cases h1 : plB salt part k ∈ plF (onesM salt part L k)
      · rw [if_pos h1] at he
        cases he
      rw [if_neg h1] at he
      refine q_asgM (em_meth (i := 0) (T := livT a part salt m C L) (C := "Living") (ns := liN) (ns' := liN) rfl (.inr ⟨a, rfl⟩) (by decide) (by walk_at "Y.eas") (t := fndT (onesM salt part L k)) (show R_Living_reached_from_Living _ _ _ from R_Living_reached_from_Living.c1 h)) ?_
      walk_at "Y.rho"
      show Gd _ _ _ [some (livT a part salt m C L), some (.sh (kd k)), some (.sh (.int v)), some (.sh (.int (plA salt part k))), some (.sh (.int (plB salt part k))), some (.sh (.int (stampK k))), some (.sh (.int (stepM salt part m C k v))), some (.sh (.int 0)), some (fndT (onesM salt part L k)), none]
      refine q_when (b := false) (et_is (et_test (eb_op (by walk_at "Y.eb") (by walk_at "Y.eb") (o_inKI (.inl rfl)))) (decide_eq_false fun z => h1 (fnK_mem.mp z))) (fun hb => by cases hb) ?_
      intro _
      refine q_asgM (em_meth (i := 0) (T := livT a part salt m C L) (C := "Living") (ns := liN) (ns' := liN) rfl (.inr ⟨a, rfl⟩) (by decide) (by walk_at "Y.eas") (t := fndT (othersM salt part L k)) (show R_Living_reached_from_Living _ _ _ from R_Living_reached_from_Living.c1 h)) ?_
      walk_at "Y.rho"
      show Gd _ _ _ [some (livT a part salt m C L), some (.sh (kd k)), some (.sh (.int v)), some (.sh (.int (plA salt part k))), some (.sh (.int (plB salt part k))), some (.sh (.int (stampK k))), some (.sh (.int (stepM salt part m C k v))), some (.sh (.int 0)), some (fndT (onesM salt part L k)), some (fndT (othersM salt part L k))]
      refine q_asg (d := .int (min ((onesM salt part L k).length : Int) (othersM salt part L k).length)) (es_flat (eb_is (eb_cb (eab_cons (eb_cb (eab_cons (by walk_at "Y.eb") eab_nil) o_lenD) (eab_cons (eb_cb (eab_cons (by walk_at "Y.eb") eab_nil) o_lenD) eab_nil)) o_min2) (by rw [List.length_map, List.length_map])) rfl) ?_
      walk_at "Y.rho"
      walk_at "Y.last"
      have hsA : 0 ≤ plA salt part k ∧ plA salt part k < 2 * part := by omega
      have hsB : 0 ≤ plB salt part k ∧ plB salt part k < 2 * part := by omega
      refine q_if (b := decide (((othersM salt part L k).length : Int) < (onesM salt part L k).length)) (et_is (et_test (eb_op (eb_cb (eab_cons (by walk_at "Y.eb") eab_nil) o_lenD) (eb_cb (eab_cons (by walk_at "Y.eb") eab_nil) o_lenD) (by walk_at "Y.op"))) (by rw [List.length_map, List.length_map])) (fun hb => ?_) (fun hb => ?_)
      · rw [if_pos (of_decide_eq_true hb)] at he
        cases he
        have hsh : 1 ≤ m ∧ (plF (othersM salt part L k)).Nodup ∧ ∀ p ∈ plF (othersM salt part L k), 0 ≤ p ∧ p < C.length := ⟨by omega, reach_nd _ _ _, h.pin hsB⟩
        walk_at "Y.last"
        refine q_lockG (j := 9) (p := []) (T := fndT (othersM salt part L k)) (ks := (othersM salt part L k).map fun x => .inl x.1) rfl rfl ?_
        refine q_freeze (i := 9) (t := .nd (.dcl ((othersM salt part L k).map fun x => .inl x.1)) (((othersM salt part L k).map fnD).map Tr.sh)) rfl (ol_flat _ _) ?_
        walk_at "Y.rho"
        refine q_dropM (em_meth (i := 0) (T := livT a part salt m C L) (C := "Living") (ns := liN) (ns' := liN) rfl (.inr ⟨a, rfl⟩) (by decide) (by walk_at "Y.eas") (show R_Living_shift_Living _ _ _ from R_Living_shift_Living.c1 hsh)) ?_
        walk_at "Y.rho"
        exact g_go (g_go (hfin _ ⟨_, _, rfl⟩))
      · rw [if_neg (of_decide_eq_false hb)] at he
        cases he
        have hsh : 1 ≤ m ∧ (plF (onesM salt part L k)).Nodup ∧ ∀ p ∈ plF (onesM salt part L k), 0 ≤ p ∧ p < C.length := ⟨by omega, reach_nd _ _ _, h.pin hsA⟩
        walk_at "Y.last"
        refine q_lockG (j := 8) (p := []) (T := fndT (onesM salt part L k)) (ks := (onesM salt part L k).map fun x => .inl x.1) rfl rfl ?_
        refine q_freeze (i := 8) (t := .nd (.dcl ((onesM salt part L k).map fun x => .inl x.1)) (((onesM salt part L k).map fnD).map Tr.sh)) rfl (ol_flat _ _) ?_
        walk_at "Y.rho"
        refine q_dropM (em_meth (i := 0) (T := livT a part salt m C L) (C := "Living") (ns := liN) (ns' := liN) rfl (.inr ⟨a, rfl⟩) (by decide) (by walk_at "Y.eas") (show R_Living_shift_Living _ _ _ from R_Living_shift_Living.c1 hsh)) ?_
        walk_at "Y.rho"
        exact g_go (g_go (hfin _ ⟨_, _, rfl⟩))
    · intro hb
      have hz : stepM salt part m C k v = 0 := by
        simpa using hb
      unfold putS at he
      rw [if_pos hz] at he
      cases he
      exact ⟨_, _, rfl⟩
  | @c2 a part salt m v C L k h =>
    have e0 := ow.slf_val
    subst e0
    have q : XkT ⟨K, S, off H c0⟩ _ E _ _ _ := hq
    refine body_gdM (n := 7) ow nd fr hd hS rfl ?_
    show Gd _ _ _ [some (livT a part salt m C L), some (.sh (kd k)), some (.sh (.int v)), none, none, none, none, none, none, none]
    clear hq hd
    try dsimp only [cxOf]
    obtain ⟨h, hk, hv, he⟩ := h
    have hsl := sizeLine_eq
    have hm1 := h.m1
    have hpp : okK k = true ∧ 1 ≤ part ∧ 0 ≤ salt ∧ salt ≤ 10000000000000 := ⟨hk, h.p1, h.s1, h.s2⟩
    have hvv : okK k = true ∧ (1 ≤ part ∧ 0 ≤ salt ∧ salt ≤ 10000000000000) ∧ 1 ≤ m ∧ (C.length : Int) = 2 * part := ⟨hk, ⟨h.p1, h.s1, h.s2⟩, by omega, h.len⟩
    refine q_tgt (d := plsD salt part k) (eo_freeze (eo_methLT (T := livT a part salt m C L) rfl liv_hu liv_ntT (by decide) (by walk_at "Y.eas") (R_Living_places_Living.c1 hpp) pls_lone) (ol_flat _ _)) (gt_tup (gts_cons gt_name (gts_cons gt_name gts_nil)) rfl) ?_
    walk_at "Y.rho"
    refine q_when (b := false) (et_is (by walk_at "Y.et") (by rw [decide_eq_false (by omega), decide_eq_false (by omega)]; rfl)) (fun hb => by cases hb) ?_
    intro _
    walk_at "Y.q"
    refine q_asg (d := .int (stepM salt part m C k v)) (es_is (d := .int ((v - telK salt part m C k) % m)) (es_flat (eb_op (eb_op (by walk_at "Y.eb") (eb_of (eo_methLT (T := livT a part salt m C L) rfl liv_hu liv_ntT (by decide) (by walk_at "Y.eas") (R_Living_value_Living.c1 hvv) (.sh (.fl rfl))) (Tr.flat_sh _)) (by walk_at "Y.op")) (by walk_at "Y.eb") (by walk_at "Y.op")) rfl) rfl) ?_
    walk_at "Y.rho"
    walk_at "Y.q"
    unfold putS at he
    by_cases h0 : stepM salt part m C k v = 0
    · rw [if_pos h0] at he
      cases he
    rw [if_neg h0] at he
    by_cases h1 : plB salt part k ∈ plF (onesM salt part L k)
    · refine q_when (b := true) (et_is (by walk_at "Y.et") (by simp [h0])) (fun _ => ?_) (fun hb => by cases hb)
      refine q_asgM (em_meth (i := 0) (T := livT a part salt m C L) (C := "Living") (ns := liN) (ns' := liN) rfl (.inr ⟨a, rfl⟩) (by decide) (by walk_at "Y.eas") (t := fndT (onesM salt part L k)) (show R_Living_reached_from_Living _ _ _ from R_Living_reached_from_Living.c1 h)) ?_
      walk_at "Y.rho"
      show Gd _ _ _ [some (livT a part salt m C L), some (.sh (kd k)), some (.sh (.int v)), some (.sh (.int (plA salt part k))), some (.sh (.int (plB salt part k))), some (.sh (.int (stampK k))), some (.sh (.int (stepM salt part m C k v))), some (.sh (.int 0)), some (fndT (onesM salt part L k)), none]
      refine q_when (b := true) (et_is (et_test (eb_op (by walk_at "Y.eb") (by walk_at "Y.eb") (o_inKI (.inl rfl)))) (decide_eq_true (fnK_mem.mpr h1))) (fun _ => ?_) (fun hb => by cases hb)
      exact x_raiseNT (a := a) (C := "Living") (ns := liN) rfl q
    · rw [if_neg h1] at he
      split at he <;> cases he
  | @c3 a part salt m v C L k h =>
    have e0 := ow.slf_val
    subst e0
    have q : XkT ⟨K, S, off H c0⟩ _ E _ _ _ := hq
    refine body_gdM (n := 7) ow nd fr hd hS rfl ?_
    show Gd _ _ _ [some (livT a part salt m C L), some (.sh (kd k)), some (.sh (.int v)), none, none, none, none, none, none, none]
    clear hq hd
    try dsimp only [cxOf]
    exact x_asgT (ex_meth (eb_liv rfl) (by decide) (by walk_at "Y.eab") (R_Living_places_Living.c2 h)) rfl q
  | @c4 a part salt m v C L k h =>
    have e0 := ow.slf_val
    subst e0
    have q : XkT ⟨K, S, off H c0⟩ _ E _ _ _ := hq
    refine body_gdM (n := 7) ow nd fr hd hS rfl ?_
    show Gd _ _ _ [some (livT a part salt m C L), some (.sh (kd k)), some (.sh (.int v)), none, none, none, none, none, none, none]
    clear hq hd
    try dsimp only [cxOf]
    obtain ⟨h, hk, hv⟩ := h
    have hpp : okK k = true ∧ 1 ≤ part ∧ 0 ≤ salt ∧ salt ≤ 10000000000000 := ⟨hk, h.p1, h.s1, h.s2⟩
    refine q_tgt (d := plsD salt part k) (eo_freeze (eo_methLT (T := livT a part salt m C L) rfl liv_hu liv_ntT (by decide) (by walk_at "Y.eas") (R_Living_places_Living.c1 hpp) pls_lone) (ol_flat _ _)) (gt_tup (gts_cons gt_name (gts_cons gt_name gts_nil)) rfl) ?_
    walk_at "Y.rho"
    refine q_when (b := true) (et_is (by walk_at "Y.et") (by rcases hv with z | z; (· rw [decide_eq_true z]; rfl); (· rw [show decide (v ≥ m) = true from decide_eq_true z, Bool.or_true]))) (fun hb => ?_) (fun hb => by cases hb)
    exact x_raiseOT rfl eb_int rfl q

/-! ## rings: the way back -/
def bkF (F : List Fnd) (a : Int) : Nat → Int → List Fnd
  | 0, _ => []
  | n + 1, p => if p = a then [] else match F.find? (fun x => decide (x.1 = p)) with
    | none => []
    | some x => x :: bkF F a n x.2.2
def kyOf (L : Lod) (n : Int) : KeyM := ((L.find? fun p => decide (stampK p.1 = n)).getD (.n 0, 0)).1
def ringL (salt part : Int) (L : Lod) (k : KeyM) : List Fnd := bkF (onesM salt part L k) (plA salt part k) (onesM salt part L k).length (plB salt part k)
def ringK (salt part : Int) (L : Lod) (k : KeyM) : List KeyM := (ringL salt part L k).reverse.map fun x => kyOf L x.2.1
theorem find_at {F : List Fnd} (nd : (plF F).Nodup) {i : Nat} {x : Fnd} (h : F[i]? = some x) : F.find? (fun y => decide (y.1 = x.1)) = some x := by
  induction F generalizing i with
  | nil => cases h
  | cons y r ih =>
    rw [plF, List.map_cons, List.nodup_cons] at nd
    cases i with
    | zero =>
      cases h
      rw [List.find?_cons_of_pos (by simp)]
    | succ i =>
      have h : r[i]? = some x := h
      have hne : ¬ y.1 = x.1 := fun e => nd.1 (by rw [e]; exact List.mem_map.mpr ⟨x, List.mem_of_getElem? h, rfl⟩)
      rw [List.find?_cons_of_neg (by simpa using hne)]
      exact ih nd.2 h
theorem getF_at {F : List Fnd} (nd : (plF F).Nodup) {x : Fnd} (h : x ∈ F) : getK (F.map fun x => (Sum.inl x.1 : Key)) (F.map fnD) (.inl x.1) = some (fnD x) := by
  obtain ⟨i, hi⟩ := List.mem_iff_getElem?.mp h
  have z := find_at nd hi
  unfold getK
  rw [List.zip_map', List.find?_map]
  have e : ((fun kv : Key × Da => decide (kv.1 = (Sum.inl x.1 : Key))) ∘ fun x : Fnd => ((Sum.inl x.1 : Key), fnD x)) = fun y : Fnd => decide (y.1 = x.1) := by
    funext y
    show decide ((Sum.inl y.1 : Key) = Sum.inl x.1) = decide (y.1 = x.1)
    exact decide_eq_decide.mpr ⟨Sum.inl.inj, fun e => by rw [e]⟩
  rw [e, z]
  rfl
theorem kyOf_at {salt part m : Int} {C : List Int} {L : Lod} (h : LvOk part salt m C L) {p : KeyM × Int} (hp : p ∈ L) : kyOf L (stampK p.1) = p.1 := by
  unfold kyOf
  cases hf : L.find? (fun q => decide (stampK q.1 = stampK p.1)) with
  | none =>
    rw [List.find?_eq_none] at hf
    exact absurd (decide_eq_true rfl) (hf p hp)
  | some q =>
    have h1 := List.find?_some hf
    have h2 := List.mem_of_find?_eq_some hf
    exact stampK_inj (h.ok q h2) (h.ok p hp) (of_decide_eq_true h1)
theorem ties_of {salt part : Int} {L : Lod} {wo : Int} {t : Tie} (h : t ∈ tiesW salt part L wo) : ∃ p ∈ L, stampK p.1 ≠ wo ∧ t = tieOf salt part p.1 := by
  obtain ⟨p, hp, rfl⟩ := List.mem_map.mp h
  rw [List.mem_filter] at hp
  exact ⟨p, hp.1, by simpa using hp.2, rfl⟩

/-! ## what the law walks: tied places, rings -/
def tdOne (cur : Int) (fs : List Int) (t : Tie) : List Int := if endOf t cur ∧ ¬ oth t cur ∈ fs then fs ++ [oth t cur] else fs
def tdTurn (E : List Tie) (cur : Int) (fs : List Int) : List Int := E.foldl (tdOne cur) fs
def tdRun (E : List Tie) : Nat → Nat → List Int → List Int
  | 0, _, fs => fs
  | n + 1, i, fs => match fs[i]? with
    | none => fs
    | some c => tdRun E n (i + 1) (tdTurn E c fs)
def tiedM (E : List Tie) (s : Int) : List Int := tdRun E (2 * E.length + 2) 0 [s]
structure TdOk (E : List Tie) (s : Int) (i : Nat) (fs : List Int) : Prop where
  nd : fs.Nodup
  st : s ∈ fs
  sub : ∀ p ∈ fs, p ∈ plF (reachM E s 0)
  cl : ∀ j p, j < i → fs[j]? = some p → ∀ t ∈ E, endOf t p → oth t p ∈ fs
theorem tdOne_pre {cur : Int} {fs : List Int} {t : Tie} : ∃ r, tdOne cur fs t = fs ++ r := by
  unfold tdOne
  split
  · exact ⟨_, rfl⟩
  · exact ⟨[], by simp⟩
theorem tdTurn_pre {cur : Int} : ∀ (E : List Tie) (fs : List Int), ∃ r, tdTurn E cur fs = fs ++ r
  | [], fs => ⟨[], by simp [tdTurn]⟩
  | t :: E, fs => by
    obtain ⟨r1, h1⟩ := tdOne_pre (cur := cur) (fs := fs) (t := t)
    obtain ⟨r2, h2⟩ := tdTurn_pre E (fs ++ r1) (cur := cur)
    refine ⟨r1 ++ r2, ?_⟩
    show tdTurn E cur (tdOne cur fs t) = _
    rw [h1, h2, List.append_assoc]
theorem tdOne_ok {E : List Tie} {s cur : Int} {fs : List Int} {t : Tie} (ht : t ∈ E) (hc : cur ∈ plF (reachM E s 0)) (h1 : fs.Nodup) (h2 : ∀ p ∈ fs, p ∈ plF (reachM E s 0)) : (tdOne cur fs t).Nodup ∧ (∀ p ∈ tdOne cur fs t, p ∈ plF (reachM E s 0)) ∧ (endOf t cur → oth t cur ∈ tdOne cur fs t) := by
  unfold tdOne
  split
  · rename_i h
    refine ⟨?_, fun p hp => ?_, fun _ => List.mem_append_right _ (.head _)⟩
    · rw [List.nodup_append]
      refine ⟨h1, by simp, fun a ha b hb e => h.2 ?_⟩
      rw [← List.mem_singleton.mp hb, ← e]
      exact ha
    · rcases List.mem_append.mp hp with hp | hp
      · exact h2 p hp
      · rw [List.mem_singleton.mp hp]
        exact reach_closed hc ht h.1
  · rename_i h
    exact ⟨h1, h2, fun he => Classical.byContradiction fun z => h ⟨he, z⟩⟩
theorem tdTurn_ok {E : List Tie} {s cur : Int} (hc : cur ∈ plF (reachM E s 0)) : ∀ (E2 : List Tie) (fs : List Int), (∀ t ∈ E2, t ∈ E) → fs.Nodup → (∀ p ∈ fs, p ∈ plF (reachM E s 0)) → (tdTurn E2 cur fs).Nodup ∧ (∀ p ∈ tdTurn E2 cur fs, p ∈ plF (reachM E s 0)) ∧ ∀ t ∈ E2, endOf t cur → oth t cur ∈ tdTurn E2 cur fs
  | [], fs, _, h1, h2 => ⟨h1, h2, fun t ht => (by cases ht)⟩
  | t :: E2, fs, hs, h1, h2 => by
    obtain ⟨g1, g2, g3⟩ := tdOne_ok (hs t (.head _)) hc h1 h2
    obtain ⟨k1, k2, k3⟩ := tdTurn_ok hc E2 (tdOne cur fs t) (fun t ht => hs t (.tail _ ht)) g1 g2
    refine ⟨k1, k2, fun t' ht' he => ?_⟩
    rcases List.mem_cons.mp ht' with e | ht'
    · subst e
      obtain ⟨r, hr⟩ := tdTurn_pre E2 (tdOne cur fs t') (cur := cur)
      show oth t' cur ∈ tdTurn E2 cur (tdOne cur fs t')
      rw [hr]
      exact List.mem_append_left _ (g3 he)
    · exact k3 t' ht' he
theorem td_len {E : List Tie} {s : Int} {i : Nat} {fs : List Int} (h : TdOk E s i fs) : fs.length ≤ 2 * E.length + 1 := by
  have z := nd_len h.nd h.sub
  have z2 := reach_len E s 0
  rw [plF, List.length_map] at z
  omega
theorem td_step {E : List Tie} {s : Int} {i : Nat} {fs : List Int} {c : Int} (h : TdOk E s i fs) (hc : fs[i]? = some c) : TdOk E s (i + 1) (tdTurn E c fs) := by
  have hcm := h.sub c (List.mem_of_getElem? hc)
  obtain ⟨g1, g2, g3⟩ := tdTurn_ok hcm E fs (fun t ht => ht) h.nd h.sub
  obtain ⟨r, hr⟩ := tdTurn_pre E fs (cur := c)
  refine ⟨g1, by rw [hr]; exact List.mem_append_left _ h.st, g2, fun j p hj hp t ht he => ?_⟩
  have hil := (List.getElem?_eq_some_iff.mp hc).1
  rw [hr, List.getElem?_append_left (by omega)] at hp
  by_cases e : j = i
  · subst e
    rw [hc] at hp
    cases hp
    exact g3 t ht he
  · rw [hr]
    exact List.mem_append_left _ (h.cl j p (by omega) hp t ht he)
theorem td_run {E : List Tie} {s : Int} : ∀ (n i : Nat) (fs : List Int), TdOk E s i fs → 2 * E.length + 2 ≤ n + i → TdOk E s (tdRun E n i fs).length (tdRun E n i fs)
  | 0, i, fs, h, hn => ⟨h.nd, h.st, h.sub, fun j p hj hp => h.cl j p (by
      have hj : j < fs.length := hj
      have := td_len h
      omega) hp⟩
  | n + 1, i, fs, h, hn => by
    unfold tdRun
    cases hc : fs[i]? with
    | none =>
      have : fs.length ≤ i := List.getElem?_eq_none_iff.mp hc
      exact ⟨h.nd, h.st, h.sub, fun j p hj hp => h.cl j p (by
        have hj : j < fs.length := hj
        omega) hp⟩
    | some c => exact td_run n (i + 1) _ (td_step h hc) (by omega)
theorem td_start {E : List Tie} {s : Int} : TdOk E s 0 [s] := ⟨by simp, .head _, fun p hp => by rw [List.mem_singleton.mp hp]; exact reach_start _ _ _, fun j p hj => absurd hj (by omega)⟩
theorem tied_ok (E : List Tie) (s : Int) : TdOk E s (tiedM E s).length (tiedM E s) := td_run _ 0 _ td_start (by omega)
theorem tied_mem {E : List Tie} {s w p : Int} : p ∈ tiedM E s ↔ p ∈ plF (reachM E s w) := by
  have h := tied_ok E s
  constructor
  · intro hp
    exact reach_min (E := E) (start := s) (wo := 0) (P := fun q => q ∈ plF (reachM E s w)) (reach_start _ _ _) (fun t ht q he hq => reach_closed hq ht he) p (h.sub p hp)
  · intro hp
    refine reach_min (E := E) (start := s) (wo := w) (P := fun q => q ∈ tiedM E s) h.st (fun t ht q he hq => ?_) p hp
    obtain ⟨j, hj⟩ := List.mem_iff_getElem?.mp hq
    exact h.cl j q (List.getElem?_eq_some_iff.mp hj).1 hj t ht he
theorem tied_nd (E : List Tie) (s : Int) : (tiedM E s).Nodup := (tied_ok E s).nd
theorem tied_perm (E : List Tie) (s w : Int) : (tiedM E s).Perm (plF (reachM E s w)) := (List.perm_ext_iff_of_nodup (tied_nd E s) (reach_nd E s w)).mpr fun p => tied_mem
/-! rings -/
def FwC : Int → List Fnd → Int → Prop
  | p, [], q => p = q
  | p, y :: r, q => y.2.2 = p ∧ FwC y.1 r q
theorem FwC_snoc : ∀ {l : List Fnd} {p : Int} {x : Fnd}, FwC p l x.2.2 → FwC p (l ++ [x]) x.1
  | [], p, x, h => ⟨h.symm, rfl⟩
  | y :: l, p, x, h => ⟨h.1, FwC_snoc h.2⟩
/-- the entries of a way back, and where they stand -/
inductive BkI (F : List Fnd) (a : Int) : Nat → List Fnd → Prop
  | nil {i : Nat} {x : Fnd} (h : F[i]? = some x) (e : x.1 = a) : BkI F a i []
  | cons {i j : Nat} {x y : Fnd} {l : List Fnd} (h : F[i]? = some x) (h0 : 0 < i) (hy : F[j]? = some y) (e : y.1 = x.2.2) (hj : j < i) (r : BkI F a j l) : BkI F a i (x :: l)
section
variable {salt part m : Int} {C : List Int} {L : Lod} {k : KeyM} {a wo : Int} {F : List Fnd} {E : List Tie}
theorem bk_i (hok : RfOk E a wo (F, [])) : ∀ (n i : Nat) (x : Fnd), F[i]? = some x → i ≤ n → BkI F a i (bkF F a n x.1)
  | 0, i, x, hx, hi => by
    have e : i = 0 := by omega
    subst e
    have := hok.hd.symm.trans hx
    cases this
    exact .nil hx rfl
  | n + 1, i, x, hx, hi => by
    unfold bkF
    by_cases h : x.1 = a
    · rw [if_pos h]
      exact .nil hx h
    · rw [if_neg h, find_at hok.nd hx]
      have h0 : 0 < i := by
        cases i with
        | zero =>
          have := hok.hd.symm.trans hx
          cases this
          exact absurd rfl h
        | succ i => omega
      obtain ⟨t, ht, e1, e2, e3, e4⟩ := hok.par i x hx h0
      obtain ⟨y, hy, ey⟩ := List.mem_map.mp e4
      obtain ⟨j, hj⟩ := List.mem_iff_getElem?.mp hy
      have hji : j < i := by
        have := (List.getElem?_eq_some_iff.mp hj).1
        rw [List.length_take] at this
        omega
      have hj : (F.take i)[j]? = some y := hj
      rw [List.getElem?_take_of_lt hji] at hj
      have z := bk_i hok n j y hj (by omega)
      rw [ey] at z
      exact .cons hx h0 hj ey hji z
theorem bki_fw {i : Nat} {l : List Fnd} (h : BkI F a i l) : ∀ x, F[i]? = some x → FwC a l.reverse x.1 := by
  induction h with
  | nil h e =>
    intro x hx
    rw [h] at hx
    cases hx
    exact e.symm
  | cons h h0 hy e hj r ih =>
    intro x hx
    rw [h] at hx
    cases hx
    rw [List.reverse_cons]
    refine FwC_snoc ?_
    rw [← e]
    exact ih _ hy
theorem bki_mem {i : Nat} {l : List Fnd} (h : BkI F a i l) : ∀ y ∈ l, ∃ j, j ≤ i ∧ 0 < j ∧ F[j]? = some y := by
  induction h with
  | nil h e => intro y hy; cases hy
  | cons h h0 hy e hj r ih =>
    intro y hm
    rcases List.mem_cons.mp hm with e | hm
    · subst e
      exact ⟨_, Nat.le_refl _, h0, h⟩
    · obtain ⟨j', h1, h2, h3⟩ := ih y hm
      exact ⟨j', by omega, h2, h3⟩
/-- each tie once -/
theorem bki_nd (hok : RfOk E a wo (F, [])) (hu : ∀ t ∈ E, ∀ u ∈ E, t.1 = u.1 → t = u) {i : Nat} {l : List Fnd} (h : BkI F a i l) : (l.map fun x => x.2.1).Nodup := by
  induction h with
  | nil h e => exact List.nodup_nil
  | @cons i j x y l h h0 hy e hj r ih =>
    rw [List.map_cons, List.nodup_cons]
    refine ⟨fun hm => ?_, ih⟩
    obtain ⟨z, hz, ez⟩ := List.mem_map.mp hm
    obtain ⟨j', h1, h2, h3⟩ := bki_mem r z hz
    obtain ⟨t, ht, a1, a2, a3, a4⟩ := hok.par i x h h0
    obtain ⟨u, hu2, b1, b2, b3, b4⟩ := hok.par j' z h3 h2
    have htu : u = t := hu u hu2 t ht (by rw [a1, b1, ez])
    subst htu
    have hne : ∀ (j2 : Nat) (w : Fnd), F[j2]? = some w → j2 ≠ i → w.1 ≠ x.1 := fun j2 w hw hne e2 => by
      have n1 : (plF F)[j2]? = some x.1 := by rw [plF, List.getElem?_map, hw]; exact congrArg some e2
      have n2 : (plF F)[i]? = some x.1 := by rw [plF, List.getElem?_map, h]; rfl
      exact hne ((List.getElem?_inj (List.getElem?_eq_some_iff.mp n1).1 hok.nd).mp (n1.trans n2.symm))
    have hzx : z.1 ≠ x.1 := hne j' z h3 (by omega)
    have hz2 : z.2.2 = x.1 := by
      unfold endOf at a2 b2
      unfold oth at a3 b3
      omega
    rw [hz2] at b4
    obtain ⟨w, hw, ew⟩ := List.mem_map.mp b4
    obtain ⟨j3, hj3⟩ := List.mem_iff_getElem?.mp hw
    have hlt : j3 < j' := by
      have := (List.getElem?_eq_some_iff.mp hj3).1
      rw [List.length_take] at this
      omega
    have hj3 : (F.take j')[j3]? = some w := hj3
    rw [List.getElem?_take_of_lt hlt] at hj3
    exact hne j3 w hj3 (by omega) ew
theorem ties_uniq (h : LvOk part salt m C L) : ∀ t ∈ tiesW salt part L wo, ∀ u ∈ tiesW salt part L wo, t.1 = u.1 → t = u := by
  intro t ht u hu e
  obtain ⟨p, hp, _, rfl⟩ := ties_of ht
  obtain ⟨q, hq, _, rfl⟩ := ties_of hu
  have e : stampK p.1 = stampK q.1 := e
  rw [stampK_inj (h.ok p hp) (h.ok q hq) e]
/-- an entry of a ring -/
structure RgE (part salt : Int) (L : Lod) (k : KeyM) (y : Fnd) (p : KeyM × Int) : Prop where
  hp : p ∈ L
  st : stampK p.1 = y.2.1
  ne : p.1 ≠ k
  ed : endOf (tieOf salt part p.1) y.2.2
  ot : y.1 = oth (tieOf salt part p.1) y.2.2
  ky : kyOf L y.2.1 = p.1
structure RingOk (part salt m : Int) (L : Lod) (k : KeyM) (R : List Fnd) : Prop where
  fw : FwC (plA salt part k) R (plB salt part k)
  nd : (R.map fun y => y.2.1).Nodup
  en : ∀ y ∈ R, ∃ p, RgE part salt L k y p
  len : R.length ≤ 2 * L.length + 1
theorem ring_ok (h : LvOk part salt m C L) (hk : okK k = true) (hb : plB salt part k ∈ plF (onesM salt part L k)) : RingOk part salt m L k (ringL salt part L k).reverse := by
  have hok : RfOk (tiesW salt part L (stampK k)) (plA salt part k) (stampK k) (onesM salt part L k, []) := (reach_ok _ _ _).1
  obtain ⟨x, hx, ex⟩ := List.mem_map.mp hb
  obtain ⟨i, hi⟩ := List.mem_iff_getElem?.mp hx
  have hil := (List.getElem?_eq_some_iff.mp hi).1
  have z := bk_i hok (onesM salt part L k).length i x hi (by omega)
  rw [ex] at z
  have z : BkI (onesM salt part L k) (plA salt part k) i (ringL salt part L k) := z
  have hfw := bki_fw z x hi
  rw [ex] at hfw
  have hnd := bki_nd hok (ties_uniq h) z
  have hmem := bki_mem z
  have hen : ∀ y ∈ ringL salt part L k, ∃ p, RgE part salt L k y p := fun y hy => by
    obtain ⟨j, _, h0, hj⟩ := hmem y hy
    obtain ⟨t, ht, e1, e2, e3, _⟩ := hok.par j y hj h0
    obtain ⟨p, hp, hne, rfl⟩ := ties_of ht
    have e1 : stampK p.1 = y.2.1 := e1
    refine ⟨p, hp, e1, fun e => hne (by rw [e]), e2, e3, ?_⟩
    rw [← e1]
    exact kyOf_at h hp
  have hpm : ((ringL salt part L k).reverse.map fun y => y.2.1).Perm ((ringL salt part L k).map fun y => y.2.1) := (List.reverse_perm _).map _
  refine ⟨hfw, hpm.nodup_iff.mpr hnd, fun y hy => hen y (List.mem_reverse.mp hy), ?_⟩
  have hlen := nd_len hnd (m := (tiesW salt part L (stampK k)).map fun t => t.1) (fun n hn => by
    obtain ⟨y, hy, rfl⟩ := List.mem_map.mp hn
    obtain ⟨p, hp⟩ := hen y hy
    exact List.mem_map.mpr ⟨_, tie_of hp.hp (h.stamp_ne hk hp.hp hp.ne), hp.st⟩)
  rw [List.length_map, List.length_map] at hlen
  have := ties_len (salt := salt) (part := part) (L := L) (wo := stampK k)
  rw [List.length_reverse]
  omega
/-! added and taken away by turns -/
def altI : List Int → Int
  | [] => 0
  | v :: r => v - altI r
theorem altI_snoc : ∀ (l : List Int) (v : Int), altI (l ++ [v]) = altI l + if l.length % 2 = 0 then v else 0 - v
  | [], v => by simp [altI]
  | x :: l, v => by
    rw [List.cons_append, altI, altI_snoc l v, altI, List.length_cons]
    by_cases h : l.length % 2 = 0
    · rw [if_pos h, if_neg (by omega)]
      omega
    · rw [if_neg h, if_pos (by omega)]
      omega
def valK (L : Lod) (k : KeyM) : Int := ((L.find? fun p => decide (p.1 = k)).getD (k, 0)).2
theorem valK_at (nd : (L.map Prod.fst).Nodup) {p : KeyM × Int} (hp : p ∈ L) : valK L p.1 = p.2 := by
  unfold valK
  cases hf : L.find? (fun q => decide (q.1 = p.1)) with
  | none =>
    rw [List.find?_eq_none] at hf
    exact absurd (decide_eq_true rfl) (hf p hp)
  | some q =>
    have h1 := List.find?_some hf
    have h2 := List.mem_of_find?_eq_some hf
    rw [Option.getD_some, fst_uniq nd h2 hp (of_decide_eq_true h1)]
def ringV (L : Lod) (R : List Fnd) : List Int := R.map fun y => valK L (kyOf L y.2.1)
theorem rg_par (h : LvOk part salt m C L) : ∀ {R : List Fnd} {p q : Int}, FwC p R q → (∀ y ∈ R, ∃ p, RgE part salt L k y p) → (R.length % 2 = 0 ↔ ((p < part) ↔ (q < part)))
  | [], p, q, hf, _ => by
    have hf : p = q := hf
    subst hf
    simp
  | y :: R, p, q, hf, he => by
    obtain ⟨h1, h2⟩ := hf
    have ih := rg_par h h2 fun z hz => he z (.tail _ hz)
    obtain ⟨pp, hp⟩ := he y (.head _)
    have hA := plA_in (salt := salt) pp.1 h.p1
    have hB := plB_in (salt := salt) pp.1 h.p1
    have e1 := hp.ed
    have e2 := hp.ot
    unfold endOf tieOf at e1
    unfold oth tieOf at e2
    dsimp only at e1 e2
    rw [List.length_cons]
    rw [h1] at e1 e2
    omega
theorem rg_sum (h : LvOk part salt m C L) : ∀ {R : List Fnd} {p q : Int}, FwC p R q → (∀ y ∈ R, ∃ p, RgE part salt L k y p) → ∃ z, altI (ringV L R) = C.getD p.toNat 0 - (if R.length % 2 = 0 then C.getD q.toNat 0 else 0 - C.getD q.toNat 0) + m * z
  | [], p, q, hf, _ => by
    have hf : p = q := hf
    subst hf
    exact ⟨0, by simp [ringV, altI]⟩
  | y :: R, p, q, hf, he => by
    obtain ⟨h1, h2⟩ := hf
    obtain ⟨z, hz⟩ := rg_sum h h2 fun z hz => he z (.tail _ hz)
    obtain ⟨pp, hp⟩ := he y (.head _)
    have hv : valK L (kyOf L y.2.1) = telK salt part m C pp.1 := by
      rw [hp.ky, valK_at h.nd hp.hp, h.tl pp hp.hp]
    have e1 := hp.ed
    have e2 := hp.ot
    unfold endOf tieOf at e1
    unfold oth tieOf at e2
    dsimp only at e1 e2
    rw [h1] at e1 e2
    have hs : telK salt part m C pp.1 = C.getD p.toNat 0 + C.getD y.1.toNat 0 - m * ((C.getD (plA salt part pp.1).toNat 0 + C.getD (plB salt part pp.1).toNat 0) / m) := by
      have e := Int.emod_add_mul_ediv (C.getD (plA salt part pp.1).toNat 0 + C.getD (plB salt part pp.1).toNat 0) m
      unfold telK telC
      rcases e1 with e1 | e1
      · have e3 : y.1 = plB salt part pp.1 := by omega
        rw [e3]
        rw [← e1] at e ⊢
        omega
      · have e3 : y.1 = plA salt part pp.1 := by omega
        rw [e3]
        rw [← e1] at e ⊢
        omega
    refine ⟨0 - (C.getD (plA salt part pp.1).toNat 0 + C.getD (plB salt part pp.1).toNat 0) / m - z, ?_⟩
    show valK L (kyOf L y.2.1) - altI (ringV L R) = _
    rw [hv, hs, hz, List.length_cons, Int.mul_sub, Int.mul_sub, Int.mul_zero]
    by_cases hq : R.length % 2 = 0
    · rw [if_pos hq, if_neg (by omega)]
      omega
    · rw [if_neg hq, if_pos (by omega)]
      omega
theorem ring_says (h : LvOk part salt m C L) {R : List Fnd} (hr : RingOk part salt m L k R) : R.length % 2 = 1 ∧ altI (ringV L R) % m = telK salt part m C k := by
  have hA := plA_in (salt := salt) k h.p1
  have hB := plB_in (salt := salt) k h.p1
  have hp := rg_par h hr.fw hr.en
  obtain ⟨z, hz⟩ := rg_sum h hr.fw hr.en
  have ho : ¬ R.length % 2 = 0 := fun e => by
    have := hp.mp e
    omega
  refine ⟨by omega, ?_⟩
  rw [if_neg ho] at hz
  rw [hz, show C.getD (plA salt part k).toNat 0 - (0 - C.getD (plB salt part k).toNat 0) + m * z = C.getD (plA salt part k).toNat 0 + C.getD (plB salt part k).toNat 0 + m * z by omega, Int.add_mul_emod_self_left]
  rfl
end

/-! ## two things of one's own handed in; a dict that is lent while it is locked -/
inductive OutT2
  | ret (t1 u1 t : Tr)
abbrev RelT2 := Tr → Tr → List Da → OutT2 → Prop
def RetT2 (B : Bs) (x y : V) (Q : VK) (t1 u1 t : Tr) : Prop := ∀ c d c' v S' H', Same B.S0 S' → Same B.E0 H' → Same S' H' → (∀ a, B.S0 a = none → B.E0 a ≠ none → S' a = none) → Ow B.K S' H' c x t1 → Ow B.K S' H' d y u1 → Ow B.K S' H' c' v t → (c ++ (d ++ c')).Nodup → (∀ a ∈ c ++ (d ++ c'), S' a = none ∧ B.E0 a = none) → Q v H'
def OutTP2 (K : PySem.W.Frag) (S H : Hp) (c0 : List Addr) (x y : V) (Q : VK) : OutT2 → Prop
  | .ret t1 u1 t => RetT2 ⟨K, S, off H c0⟩ x y Q t1 u1 t
def SpT2 (K : PySem.W.Frag) (R : RelT2) : Sp := fun vs H Q E => ∃ x y ws t0 u0 ds c0 d0 S o, vs = x :: y :: ws ∧ R t0 u0 ds o ∧ Ow K S H c0 x t0 ∧ Ow K S H d0 y u0 ∧ (c0 ++ d0).Nodup ∧ (∀ a ∈ c0 ++ d0, S a = none) ∧ DqAll K S ws ds ∧ Same S H ∧ OutTP2 K S H (c0 ++ d0) x y Q o
section
variable {B : Bs} {S H S' H' S0 E0 : Hp} {σ : L2.St} {ρ : Rho} {cs : List (List Addr)} {c d0 c0 : List Addr} {te td ti : TE} {ts : TA} {tt : TT} {d e z : Da} {ds es : List Da} {i j m n : Nat} {p : List Nat} {T T1 U U1 t t0 u0 t1 u : Tr} {us us' ws' : List Tr} {C C2 f : Str} {ns ns' : List Str} {D : Ends} {s s0 u1 u2 bd : TS} {a b : Addr} {K : PySem.W.Frag} {x y v : V} {vs ws : List V} {Q : VK} {E : XK} {N : List Str} {ks ks' : List Key} {kk : Key} {bb : Bool} {k : NK}
theorem spt2_len {R : RelT2} (hR : ∀ t u ds o, R t u ds o → ds.length + 2 = m) (h : SpT2 K R vs H Q E) : vs.length = m := by
  obtain ⟨x, y, ws, t0, u0, ds, c0, d0, S, o, rfl, r, _, _, _, _, dq, _, _⟩ := h
  rw [List.length_cons, List.length_cons, dq.1]
  exact hR t0 u0 ds o r
theorem body_gd2 {t : TS} (ow : Ow K S H c0 x t0) (ow2 : Ow K S H d0 y u0) (nd : (c0 ++ d0).Nodup) (fr : ∀ a ∈ c0 ++ d0, S a = none) (h : DqAll K S ws ds) (e : Same S H) (hn : N.length = ds.length + 2 + n) (g : Gd ⟨K, S, off H (c0 ++ d0)⟩ t D (some t0 :: some u0 :: (ds.map (fun d => some (Tr.sh d)) ++ List.replicate n none))) : t D (L2.start N (x :: y :: ws)) H := by
  have hz : L2.start N (x :: y :: ws) = some x :: some y :: (ws.map some ++ List.replicate n none) := by
    unfold L2.start
    rw [hn, List.map_cons, List.map_cons, List.length_cons, List.length_cons, h.1, List.cons_append, List.cons_append]
    congr 4
    omega
  rw [hz]
  have z0 := sit_start (n := n) h e
  refine g S H _ (c0 :: d0 :: List.replicate (ds.length + n) []) ⟨⟨Same.refl S, fun b o q => ?_, e, fun b q _ => q, fun b hb => ?_, ?_⟩, ?_, ?_, fun i c v e1 h1 h2 h3 => ?_⟩
  · have q : off H (c0 ++ d0) b = some o := q
    by_cases hb : b ∈ c0 ++ d0
    · rw [off_in hb] at q
      cases q
    · rw [off_out hb] at q
      exact q
  · have hb2 : b ∈ c0 ++ d0 := by simpa using hb
    exact ⟨fr b hb2, off_in hb2⟩
  · simpa using nd
  · have := z0.lc
    simp only [List.length_cons]
    rw [← this]
  · have := z0.ls
    simp only [List.length_cons]
    rw [← this]
  · cases i with
    | zero =>
      cases h1
      cases h2
      cases h3
      exact ⟨x, rfl, ow⟩
    | succ i => cases i with
      | zero =>
        cases h1
        cases h2
        cases h3
        exact ⟨y, rfl, ow2⟩
      | succ i => exact z0.en i c v e1 h1 h2 h3
theorem Ow.dcs_val {lk : Option PySem.Obj} (h : Ow K S H c v (.nd (.dcs a lk ks) us)) : v = .ref a := by
  cases h with
  | nd h l l2 f hc => rw [h.1]
theorem Ow.undcs (h : Ow K S H c v (.nd (.dcs a none ks) us)) : Ow K S H c v (.nd (.dct ks) us) := by
  cases h with
  | nd h l l2 f hc =>
    obtain ⟨_, h1, h2, h3⟩ := h
    exact .nd ⟨h1, h2, h3⟩ l l2 f hc
theorem Ow.todcs (h : Ow K S H c (.ref a) (.nd (.dct ks) us)) : Ow K S H c (.ref a) (.nd (.dcs a none ks) us) := by
  cases h with
  | nd h l l2 f hc =>
    obtain ⟨h1, h2, h3⟩ := h
    exact .nd ⟨rfl, h1, h2, h3⟩ l l2 f hc
theorem Dq.undcs (h : Dq K H v (.nd (.dcs a none ks) ds)) : Dq K H v (.nd (.dct ks) ds) := by
  obtain ⟨b, vs, rfl, h1, h2⟩ := h.inv
  obtain ⟨g1, _, g2⟩ := h1
  exact Dq.nd' (k := .dct ks) ⟨g1, 0, g2⟩ h2
theorem eb_dcs (h : ρ[i]? = some (some (.nd (.dcs a none ks) (ds.map Tr.sh)))) : Eb B (tVar i) ρ (.nd (.dct ks) ds) := fun S H σ cs st Q q => by
  obtain ⟨c, x, h1, h2, ow⟩ := st.var h
  refine ⟨x, h2, q x S H (Step.refl st.same) ?_⟩
  have := ow.undcs.here st.same
  rw [ol_flat] at this
  exact this
/-- the body's end -/
theorem s_ret22 (he : Eo ⟨K, S0, E0⟩ te ρ t) (hT : ρ[0]? = some (some (.nd (.slf a C ns) us))) (hU : ρ[1]? = some (some (.nd (.dcs b none ks) ws'))) (hD : D.rt = Q) (q : RetT2 ⟨K, S0, E0⟩ (.ref a) (.ref b) Q (.nd (.slf a C ns) us) (.nd (.dcs b none ks) ws') t) : Gd ⟨K, S0, E0⟩ (tRet te) D ρ := fun S H σ cs st => he S H σ cs st _ fun v c' S1 H1 s1 f1 => by
  have st1 := st.grow s1
  obtain ⟨c, x, hc, hx, ow⟩ := st1.var hT
  obtain ⟨d, y, hd, hy, ow2⟩ := st1.var hU
  have e := ow.slf_val
  subst e
  have e := ow2.dcs_val
  subst e
  rw [hD]
  have hcd : ∀ z ∈ d, z ∉ c := fun z hz => (st1.mem_er hc (mem_erase hd hz (by decide))).2
  refine q c d c' v S1 H1 st1.hp.s0 st1.hp.e0 st1.hp.sh st1.hp.nw ow ow2 f1.ow ?_ fun z hz => ?_
  · rw [List.nodup_append, List.nodup_append]
    refine ⟨st1.chunk_nd hc, ⟨st1.chunk_nd hd, f1.nd, fun z hz w hw e => ?_⟩, fun z hz w hw e => ?_⟩
    · exact st.alloc z (mem_flat hd hz) (by rw [e]; exact (f1.fr w hw).2)
    · subst e
      rcases List.mem_append.mp hw with hw | hw
      · exact hcd z hw hz
      · exact st.alloc z (mem_flat hc hz) (f1.fr z hw).2
  · rcases List.mem_append.mp hz with hz | hz
    · exact st1.hp.ow z (mem_flat hc hz)
    rcases List.mem_append.mp hz with hz | hz
    · exact st1.hp.ow z (mem_flat hd hz)
    · exact ⟨(f1.fr z hz).1, st.hp.e0.free (f1.fr z hz).2⟩
/-! an expression that takes the slots to others -/
def Emr (B : Bs) (te : TE) (ρ ρ' : Rho) (t : Tr) : Prop := ∀ S H σ cs, Sit B S H σ ρ cs → ∀ Q : VK, (∀ v c S' H' cs', Sit B S' H' σ ρ' cs' → Ow B.K S' H' c v t → c.Nodup → (∀ a ∈ c, S' a = none ∧ B.E0 a = none ∧ a ∉ cs'.flatten) → Q v H') → te σ H Q
def EmtR (B : Bs) (tt : TT) (ρ ρ' : Rho) (b : Bool) : Prop := ∀ S H σ cs, Sit B S H σ ρ cs → ∀ Q : Bool → Hp → Prop, (∀ S' H' cs', Sit B S' H' σ ρ' cs' → Q b H') → tt σ H Q
theorem emtr_test {ρ' : Rho} (h : Emr B te ρ ρ' (.sh (.bl bb))) : EmtR B (tTest te) ρ ρ' bb := fun S H σ cs st Q q => h S H σ cs st _ fun v c S1 H1 cs1 st1 ow nd fr => ⟨bb, ow.sh_inv.2.flat rfl, q S1 H1 cs1 st1⟩
theorem emtr_not {ρ' : Rho} (h : EmtR B tt ρ ρ' bb) : EmtR B (tNot tt) ρ ρ' (!bb) := fun S H σ cs st Q q => h S H σ cs st _ fun S1 H1 cs1 st1 => q S1 H1 cs1 st1
theorem emtr_is {ρ' : Rho} {b2 : Bool} (h : EmtR B tt ρ ρ' bb) (e : bb = b2) : EmtR B tt ρ ρ' b2 := e ▸ h
theorem q_ifR {ρ' : Rho} (h : EmtR B tt ρ ρ' bb) (h1 : bb = true → Gd B u1 { D with nx := s D } ρ') (h2 : bb = false → Gd B u2 { D with nx := s D } ρ') : Gd B (tSeq (tIfS tt u1 u2) s) D ρ := fun S H σ cs st => h S H σ cs st _ fun S1 H1 cs1 st1 => by
  cases bb with
  | true => exact h1 rfl S1 H1 σ cs1 st1
  | false => exact h2 rfl S1 H1 σ cs1 st1
theorem q_whenR {ρ' : Rho} (h : EmtR B tt ρ ρ' bb) (h1 : bb = true → Gd B u1 { D with nx := s D } ρ') (h2 : bb = false → Gd B s D ρ') : Gd B (tSeq (tIfS tt u1 tNext) s) D ρ := q_ifR h h1 h2
/-- a dict's place, known or not -/
def AtU (U : Tr) (P : Addr → Prop) : Prop := match U with
  | .nd (.dcs b _ _) _ => P b
  | _ => ∀ b, P b
def reU : Tr → List Key → List Tr → Tr
  | .nd (.dcs b l _) _, ks, us => .nd (.dcs b l ks) us
  | _, ks, us => .nd (.dct ks) us
theorem ow_dcs (hU : U = .nd (.dct ks) ws' ∨ ∃ b, U = .nd (.dcs b none ks) ws') (ow : Ow K S H c x U) {P : Addr → Prop} (h : AtU U P) : ∃ b, x = .ref b ∧ P b ∧ Ow K S H c (.ref b) (.nd (.dcs b none ks) ws') ∧ ∀ S' H' c' ks' us', Ow K S' H' c' x (.nd (.dcs b none ks') us') → Ow K S' H' c' x (reU U ks' us') := by
  rcases hU with rfl | ⟨b, rfl⟩
  · cases ow with
    | @nd a _ vs _ cs' A _ h1 l l2 f hc => exact ⟨a, rfl, h a, Ow.todcs (.nd h1 l l2 f hc), fun S' H' c' ks' us' o => o.undcs⟩
  · have e := ow.dcs_val
    subst e
    exact ⟨b, rfl, h, ow, fun S' H' c' ks' us' o => o⟩
theorem set_none_set {α : Type} {l : List (Option α)} {i j : Nat} {x y : Option α} (h : i ≠ j) : (((l.set j none).set i x).set j y) = (l.set i x).set j y := by
  rw [List.set_comm x y h, List.set_set, List.set_comm y x (Ne.symm h)]
/-- f(x, y, ..): x and y slots' own -/
theorem emr_call2 {R : RelT2} (hij : i ≠ j) (hT : ρ[i]? = some (some T)) (hk : T = .nd (.ins C ns) us ∨ ∃ a, T = .nd (.slf a C ns) us) (hU : ρ[j]? = some (some U)) (hu : U = .nd (.dct ks) ws' ∨ ∃ b, U = .nd (.dcs b none ks) ws') (ha : Eas B ts ρ ds)
    {ks' : List Key} {ws2 : List Tr} (r : AtT T fun a => AtU U fun b => R (.nd (.slf a C ns) us) (.nd (.dcs b none ks) ws') ds (.ret (.nd (.slf a C ns') us') (.nd (.dcs b none ks') ws2) t)) : Emr B (tCall (SpT2 B.K R) [] E (tCons (tVar i) (tCons (tVar j) ts))) ρ ((ρ.set i (some (reT T ns' us'))).set j (some (reU U ks' ws2))) t := fun S H σ cs st Q q => by
  obtain ⟨c0, x, hc, hx, ow⟩ := st.var hT
  obtain ⟨d0, y, hd, hy, ow2⟩ := st.var hU
  refine ⟨x, hx, y, hy, ha S H σ cs st _ fun ws S2 H2 s2 f2 => ?_⟩
  show SpT2 B.K R ((x :: y :: ws) ++ []) H2 Q E
  rw [List.append_nil]
  have st2 := st.grow s2
  obtain ⟨a2, e2, r2, owa, up⟩ := ow_slf hk (ow.same s2.s s2.h) r
  subst e2
  obtain ⟨b2, e3, r3, owb, up2⟩ := ow_dcs hu (ow2.same s2.s s2.h) r2
  subst e3
  have hdc : ∀ z ∈ d0, z ∉ c0 := fun z hz => (st2.mem_er hc (mem_erase hd hz (Ne.symm hij))).2
  have hn0 : (c0 ++ d0).Nodup := by
    rw [List.nodup_append]
    exact ⟨st2.chunk_nd hc, st2.chunk_nd hd, fun z hz w hw e => hdc w hw (e ▸ hz)⟩
  have hm0 : ∀ z ∈ c0 ++ d0, z ∈ cs.flatten := fun z hz => by
    rcases List.mem_append.mp hz with hz | hz
    · exact mem_flat hc hz
    · exact mem_flat hd hz
  refine ⟨.ref a2, .ref b2, ws, _, _, ds, c0, d0, S2, _, rfl, r3, owa, owb, hn0, fun z hz => (st2.hp.ow z (hm0 z hz)).1, f2, st2.same, fun c1 d1 c' v S' H' g1 g2 g3 g4 ow1 ow2' ow3 nd fr => ?_⟩
  have g2 : Same (off H2 (c0 ++ d0)) H' := g2
  have g4 : ∀ z, S2 z = none → off H2 (c0 ++ d0) z ≠ none → S' z = none := g4
  have fr : ∀ z ∈ c1 ++ (d1 ++ c'), S' z = none ∧ off H2 (c0 ++ d0) z = none := fr
  -- slot j is left out
  have st3 : Sit B S2 H2 σ (ρ.set j none) (cs.set j []) := st2.put hd (Same.refl S2) st2.hp.e0 st2.hp.sh st2.hp.nw (fun z hz => ⟨(st2.hp.ow z (st2.mem_er hd hz).1).1, rfl⟩) (fun z hz => by cases hz) List.nodup_nil (v := some (.ref b2)) rfl rfl hy fun _ _ => rfl
  have hc3 : (cs.set j [])[i]? = some c0 := by rw [set_ne hij]; exact hc
  have hout : ∀ z o, z ∉ c0 ++ d0 → H2 z = some o → H' z = some o := fun z o hz h => g2 z o ((off_out hz).trans h)
  have hE : ∀ z, B.E0 z ≠ none → z ∉ c0 ++ d0 := fun z h hm => h (st2.hp.ow z (hm0 z hm)).2
  have hnw : ∀ z, z ∉ c0 ++ d0 → S2 z = none → H2 z ≠ none → S' z = none := fun z hz h1 h2 => g4 z h1 (by rw [off_out hz]; exact h2)
  have hm3 : ∀ z ∈ ((cs.set j []).eraseIdx i).flatten, z ∈ cs.flatten ∧ z ∉ c0 ++ d0 := fun z hz => by
    obtain ⟨m1, m2⟩ := st3.mem_er hc3 hz
    obtain ⟨_, p2⟩ := flatten_set (c := []) hd
    have m3 := p2.mem_iff.mp m1
    rw [List.nil_append] at m3
    obtain ⟨m4, m5⟩ := st2.mem_er hd m3
    refine ⟨m4, fun hm => ?_⟩
    rcases List.mem_append.mp hm with hm | hm
    · exact m2 hm
    · exact m5 hm
  have hfree : ∀ z, S' z = none ∧ off H2 (c0 ++ d0) z = none → B.E0 z = none ∧ ∀ w ∈ cs.flatten, w ∉ c0 ++ d0 → w ≠ z := fun z hz => by
    by_cases hm : z ∈ c0 ++ d0
    · exact ⟨(st2.hp.ow z (hm0 z hm)).2, fun w _ hw e => hw (e ▸ hm)⟩
    · rw [off_out hm] at hz
      exact ⟨st2.hp.e0.free hz.2, fun w hw _ e => st2.alloc w hw (e ▸ hz.2)⟩
  rw [List.nodup_append, List.nodup_append] at nd
  have st4 : Sit B S' H' σ ((ρ.set j none).set i (some (reT T ns' us'))) ((cs.set j []).set i c1) := by
    refine st3.put hc3 g1 (fun z o h => hout z o (hE z (by rw [h]; exact fun w => nomatch w)) (st2.hp.e0 z o h)) g3 (fun z h1 h2 => ?_) (fun z hz => ?_) (fun z hz => ?_) nd.1 ⟨.ref a2, rfl, up _ _ _ _ _ ow1⟩ rfl hx fun _ _ => rfl
    · exact hnw z (hE z h2) (st2.hp.nw z h1 h2) (by
        intro e
        exact h2 (st2.hp.e0.free e))
    · obtain ⟨m1, m2⟩ := hm3 z hz
      cases e : H2 z with
      | none => exact absurd e (st2.alloc z m1)
      | some o => exact ⟨hnw z m2 (st2.hp.ow z m1).1 (by rw [e]; exact fun w => nomatch w), hout z o m2 e⟩
    · obtain ⟨z1, z2⟩ := hfree z (fr z (List.mem_append_left _ hz))
      exact ⟨(fr z (List.mem_append_left _ hz)).1, z1, fun hm => z2 z (hm3 z hm).1 (hm3 z hm).2 rfl⟩
  have hj4 : ((cs.set j []).set i c1)[j]? = some [] := by
    rw [set_ne (Ne.symm hij), List.getElem?_set_self (List.getElem?_eq_some_iff.mp hd).1]
  have hfl4 : ∀ z ∈ (((cs.set j []).set i c1).eraseIdx j).flatten, z ∈ c1 ∨ z ∈ ((cs.set j []).eraseIdx i).flatten := fun z hz => by
    obtain ⟨m1, _⟩ := st4.mem_er hj4 hz
    obtain ⟨_, p2⟩ := flatten_set (c := c1) hc3
    exact List.mem_append.mp (p2.mem_iff.mp m1)
  have hd1 : ∀ z ∈ d1, S' z = none ∧ off H2 (c0 ++ d0) z = none := fun z hz => fr z (List.mem_append_right _ (List.mem_append_left _ hz))
  have st5 : Sit B S' H' σ (((ρ.set j none).set i (some (reT T ns' us'))).set j (some (reU U ks' ws2))) (((cs.set j []).set i c1).set j d1) := by
    refine st4.put hj4 (Same.refl S') st4.hp.e0 g3 st4.hp.nw (fun z hz => ⟨(st4.hp.ow z (st4.mem_er hj4 hz).1).1, rfl⟩) (fun z hz => ⟨(hd1 z hz).1, (hfree z (hd1 z hz)).1, fun hm => ?_⟩) nd.2.1.1 ⟨.ref b2, rfl, up2 _ _ _ _ _ ow2'⟩ rfl hy fun _ _ => rfl
    rcases hfl4 z hm with hm | hm
    · exact nd.2.2 z hm z (List.mem_append_left _ hz) rfl
    · exact (hfree z (hd1 z hz)).2 z (hm3 z hm).1 (hm3 z hm).2 rfl
  rw [set_none_set hij] at st5
  refine q v c' S' H' _ st5 ow3 nd.2.1.2.1 fun z hz => ?_
  have hz2 := fr z (List.mem_append_right _ (List.mem_append_right _ hz))
  refine ⟨hz2.1, (hfree z hz2).1, fun hm => ?_⟩
  obtain ⟨_, p2⟩ := flatten_set (c := d1) hj4
  rcases List.mem_append.mp (p2.mem_iff.mp hm) with hm | hm
  · exact nd.2.1.2.2 z hm z hz rfl
  · rcases hfl4 z hm with hm | hm
    · exact nd.2.2 z hm z (List.mem_append_right _ hz) rfl
    · exact (hfree z hz2).2 z (hm3 z hm).1 (hm3 z hm).2 rfl
/-! a dict at a known place -/
theorem q_putS {to : TE} (he : Es B te ρ d) (hl : Loc B to ρ i []) (hi : Eb B ti ρ (kyD kk)) (hT : ρ[i]? = some (some (.nd (.dcs a none ks) (ds.map Tr.sh)))) (hz : ks.length < sizeLine)
    (k : Gd B s D (ρ.set i (some (.nd (.dcs a none (putKs ks kk)) ((putVs ks ds kk d).map Tr.sh))))) :
    Gd B (tSeq (tAsg te (gSub to ti rSetA)) s) D ρ := fun S H σ cs st => he S H σ cs st _ fun z c S1 H1 s1 f1 => by
  have st1 := st.grow s1
  obtain ⟨x0, _, _, hx, _⟩ := st1.at_ (p := []) hT rfl
  refine hl S1 H1 σ cs x0 st1 hx _ fun y S2 H2 s2 va => hi S2 H2 σ cs (st1.grow s2) _ fun x3 S3 H3 s3 f3 => ?_
  have st3 := st1.grow (s2.trans s3)
  obtain ⟨x0', b, vs, A, hx', va', o1, dq, g⟩ := st3.root (p := []) hT rfl
  rw [hx] at hx'
  cases hx'
  cases (va.same s3.h).uniq va'
  obtain ⟨rfl, rfl, l, ho⟩ := o1
  have l : ks.length = vs.length := l
  have ho : H3 b = some (.dK (ks.zip vs)) := ho
  rw [f3.flat (kyD_fl kk)]
  obtain ⟨z1, z2⟩ := putK_zip l kk z
  refine .inr ⟨b, _, rfl, DPut.k ho (by rw [List.length_zip, ← l, Nat.min_self]; exact hz), ?_⟩
  rw [z1]
  obtain ⟨cs4, st4⟩ := g (.dcs b none (putKs ks kk)) (putVs ks vs kk z) (putVs ks ds kk d) (upd H3 b (.dK ((putKs ks kk).zip (putVs ks vs kk z)))) (fun w hw => upd_ne hw) ⟨rfl, rfl, z2, upd_same⟩ (dq.put l (f1.dq.same (s2.trans s3).s))
  exact k S3 _ σ cs4 st4
theorem q_dpopS {ty : TE} (hl : Loc B td ρ i []) (hk : Eb B ty ρ (kyD kk)) (hT : ρ[i]? = some (some (.nd (.dcs a none ks) (ds.map Tr.sh)))) (hm : kk ∈ ks) (k : Gd B s D (ρ.set i (some (.nd (.dcs a none (dropKs ks kk)) ((dropVs ks ds kk).map Tr.sh))))) :
    Gd B (tSeq (tDrop (tDPop1 td ty)) s) D ρ := fun S H σ cs st => by
  obtain ⟨x0, _, _, hx, _⟩ := st.at_ (p := []) hT rfl
  refine hl S H σ cs x0 st hx _ fun y S1 H1 s1 va => ?_
  have st1 := st.grow s1
  obtain ⟨x0', b, vs, A, hx', va', o1, dq, _⟩ := st1.root (p := []) hT rfl
  rw [hx] at hx'
  cases hx'
  cases va.uniq va'
  refine ⟨b, rfl, .inl ⟨_, .inl o1.2.2.2⟩, hk S1 H1 σ cs st1 _ fun y S2 H2 s2 f2 => ?_⟩
  have st2 := st1.grow s2
  obtain ⟨x0', a2, vs2, A2, hx', va2, o2, dq2, g⟩ := st2.root (p := []) hT rfl
  rw [hx] at hx'
  cases hx'
  cases (va.same s2.h).uniq va2
  obtain ⟨rfl, rfl, hl2, ho⟩ := o2
  have hl2 : ks.length = vs2.length := hl2
  have ho : H2 b = some (.dK (ks.zip vs2)) := ho
  have hv : (valV (ks.zip vs2) kk).isSome = true := by rw [val_some hl2, decide_eq_true hm]
  obtain ⟨v, hv⟩ := Option.isSome_iff_exists.mp hv
  refine ⟨_, kk, v, ho, f2.flat (kyD_fl kk), hv, ?_⟩
  obtain ⟨z1, z2⟩ := dropK_zip hl2 kk
  rw [z1]
  obtain ⟨cs4, st4⟩ := g (.dcs b none (dropKs ks kk)) (dropVs ks vs2 kk) (dropVs ks ds kk) (upd H2 b (.dK ((dropKs ks kk).zip (dropVs ks vs2 kk)))) (fun w hw => upd_ne hw) ⟨rfl, rfl, z2, upd_same⟩ (dq2.dropV hl2 kk)
  exact k S2 _ σ cs4 st4
end

/-! ## a dict of one's own, locked and lent the while -/
def DctK (k : NK) (ks : List Key) : Prop := k = .dct ks ∨ ∃ b, k = .dcs b none ks
section
variable {B : Bs} {S H S' H' : Hp} {σ σ' : L2.St} {ρ ρ' : Rho} {cs : List (List Addr)} {c A : List Addr} {te td : TE} {d : Da} {ds : List Da} {i j : Nat} {T1 t : Tr} {D : Ends} {s s0 : TS} {a : Addr} {K : PySem.W.Frag} {v : V} {vs : List V} {Q : VK} {ks : List Key} {k : NK}
theorem dctK_own (hk : DctK k ks) (o : Own K H a vs A k) : A = [a] ∧ ks.length = vs.length ∧ H a = some (.dK (ks.zip vs)) ∧ ∀ H', H' a = some (.dK (ks.zip vs)) → Own K H' a vs [a] k := by
  rcases hk with rfl | ⟨b, rfl⟩
  · obtain ⟨h1, h2, h3⟩ := o
    exact ⟨h1, h2, h3, fun H' e => ⟨rfl, h2, e⟩⟩
  · obtain ⟨h0, h1, h2, h3⟩ := o
    exact ⟨h1, h2, h3, fun H' e => ⟨h0, rfl, h2, e⟩⟩
theorem dq_flat {S2 : Hp} (h : DqAll K S vs ds) (hf : ∀ d ∈ ds, d.fl.isSome = true) : DqAll K S2 vs ds := ⟨h.1, fun i v d h1 h2 => by
  obtain ⟨w, hw⟩ := Option.isSome_iff_exists.mp (hf d (List.mem_of_getElem? h2))
  rw [(h.2 i v d h1 h2).flat hw]
  exact Dq.of_flat hw⟩
structure Lend (B : Bs) (S H : Hp) (σ : L2.St) (ρ : Rho) (j : Nat) (k : NK) (ks : List Key) (ds : List Da) (a : Addr) (u : HO) (od : PySem.Obj) : Prop where
  dq : Dq B.K (join B.E0 (upd H a (.frz od u)) [a]) (.ref a) (.nd (.dcl ks) ds)
  st : ∃ cs1, Sit ⟨B.K, B.S0, join B.E0 (upd H a (.frz od u)) [a]⟩ S (upd H a (.frz od u)) σ (ρ.set j (some (.sh (.exn a none [])))) cs1
  e0 : ∀ z, join B.E0 (upd H a (.frz od u)) [a] z = none → B.E0 z = none ∧ z ≠ a
  bk : ∀ S' H' σ' ρ' cs', Sit ⟨B.K, B.S0, join B.E0 (upd H a (.frz od u)) [a]⟩ S' H' σ' ρ' cs' → ρ'[j]? = some (some (.sh (.exn a none []))) → H' a = some (.frz od u) ∧ S' a = none ∧ ∃ cs'', Sit B S' (upd H' a u) σ' (ρ'.set j (some (.nd k (ds.map Tr.sh)))) cs'' ∧ ∀ z ∈ cs''.flatten, z = a ∨ z ∈ cs'.flatten
theorem Sit.lend (st : Sit B S H σ ρ cs) (hT : ρ[j]? = some (some (.nd k (ds.map Tr.sh)))) (hk : DctK k ks) (hf : ∀ d ∈ ds, d.fl.isSome = true) : ∃ a u, H a = some u ∧ Mut (some u) ∧ S a = none ∧ ∀ od, Lend B S H σ ρ j k ks ds a u od := by
  obtain ⟨c0, x, hc, hx, ow⟩ := st.var hT
  obtain ⟨a, vs, rfl, o1, dq⟩ := ow.root_inv
  obtain ⟨rfl, hl, ha, back⟩ := dctK_own hk o1
  have hS : S a = none := (st.hp.ow a (mem_flat hc (List.mem_singleton_self a))).1
  have hE : B.E0 a = none := (st.hp.ow a (mem_flat hc (List.mem_singleton_self a))).2
  refine ⟨a, _, ha, True.intro, hS, fun od => ?_⟩
  have hEa : join B.E0 (upd H a (.frz od (.dK (ks.zip vs)))) [a] a = some (.frz od (.dK (ks.zip vs))) := by
    rw [join_in (List.mem_singleton_self a)]
    exact upd_same
  have hE1 : join B.E0 (upd H a (.frz od (.dK (ks.zip vs)))) [a] a ≠ none := by
    rw [hEa]
    exact fun z => nomatch z
  have hEE : Same B.E0 (join B.E0 (upd H a (.frz od (.dK (ks.zip vs)))) [a]) := join_same fun b hb => by rw [List.mem_singleton.mp hb]; exact hE
  have hS1 : Same S (upd H a (.frz od (.dK (ks.zip vs)))) := fun b o q => by
    rw [upd_ne (fun e : b = a => by rw [e, hS] at q; cases q)]
    exact st.hp.sh b o q
  have hE2 : Same B.E0 (upd H a (.frz od (.dK (ks.zip vs)))) := fun b o q => by
    rw [upd_ne (fun e : b = a => by rw [e, hE] at q; cases q)]
    exact st.hp.e0 b o q
  have st1 : Sit B S (upd H a (.frz od (.dK (ks.zip vs)))) σ (ρ.set j (some (.sh (.exn a none [])))) (cs.set j []) :=
    st.put hc (Same.refl S) hE2 hS1 st.hp.nw (fun b hb => ⟨(st.hp.ow b (st.mem_er hc hb).1).1, upd_ne fun e => (st.mem_er hc hb).2 (by rw [e]; exact List.mem_singleton_self a)⟩) (fun b hb => by cases hb) List.nodup_nil ⟨.ref a, rfl, .sh (.exn (.inl ⟨rfl, rfl⟩))⟩ rfl hx (fun _ _ => rfl)
  have st2 : Sit ⟨B.K, B.S0, join B.E0 (upd H a (.frz od (.dK (ks.zip vs)))) [a]⟩ S (upd H a (.frz od (.dK (ks.zip vs)))) σ (ρ.set j (some (.sh (.exn a none [])))) (cs.set j []) := by
    refine ⟨⟨st.hp.s0, join_heap hE2, hS1, fun b h1 h2 => ?_, fun b hb => ?_, st1.hp.nd⟩, st1.lc, st1.ls, st1.en⟩
    · by_cases e : b = a
      · rw [e]; exact hS
      · refine st.hp.nw b h1 fun z => h2 ?_
        show join B.E0 _ [a] b = none
        rw [join_out (by simpa using e)]
        exact z
    · have hn : b ∉ [a] := by
        obtain ⟨_, p2⟩ := flatten_set (c := []) hc
        exact (st.mem_er hc (by simpa using p2.mem_iff.mp hb)).2
      have z := st1.hp.ow b hb
      exact ⟨z.1, (join_out hn).trans z.2⟩
  have hS0 : B.S0 a = none := st.hp.s0.free hS
  refine ⟨Dq.nd' ⟨hl, od, hEa⟩ (dq_flat dq hf), ⟨_, st2⟩, fun z hz => ⟨hEE.free hz, fun e => hE1 (e ▸ hz)⟩, fun S' H' σ' ρ' cs' st3 hu => ?_⟩
  obtain ⟨c3, x3, hc3, hx3, ow3⟩ := st3.var hu
  obtain ⟨rfl, dq3⟩ := ow3.sh_inv
  have hx3a : x3 = .ref a := by
    cases dq3
    rfl
  subst hx3a
  have hS3 : S' a = none := st3.hp.nw a hS0 hE1
  have hH3 : H' a = some (.frz od (.dK (ks.zip vs))) := st3.hp.e0 a _ hEa
  have hno : ∀ b ∈ cs'.flatten, b ≠ a := fun b hb e => by
    have z : join B.E0 (upd H a (.frz od (.dK (ks.zip vs)))) [a] b = none := (st3.hp.ow b hb).2
    rw [e] at z
    exact hE1 z
  have st4 : Sit B S' H' σ' ρ' cs' := ⟨⟨st3.hp.s0, hEE.trans st3.hp.e0, st3.hp.sh, fun b h1 h2 => st3.hp.nw b h1 (fun z => h2 (hEE.free z)), fun b hb => ⟨(st3.hp.ow b hb).1, hEE.free (st3.hp.ow b hb).2⟩, st3.hp.nd⟩, st3.lc, st3.ls, st3.en⟩
  refine ⟨hH3, hS3, _, st4.put (c := [a]) hc3 (Same.refl S') (H' := upd H' a (.dK (ks.zip vs))) (fun b o q => ?_) (fun b o q => ?_) st4.hp.nw (fun b hb => ?_) (fun b hb => ?_) (by simp) ⟨.ref a, rfl, Ow.root (back _ upd_same) (dq_flat dq hf)⟩ rfl hx3 (fun _ _ => rfl), fun z hz => ?_⟩
  · rw [upd_ne (fun e : b = a => by rw [e, hE] at q; cases q)]
    exact st4.hp.e0 b o q
  · rw [upd_ne (fun e : b = a => by rw [e, hS3] at q; cases q)]
    exact st4.hp.sh b o q
  · have hb2 := (st4.mem_er hc3 hb).1
    exact ⟨(st4.hp.ow b hb2).1, upd_ne (hno b hb2)⟩
  · rw [List.mem_singleton.mp hb]
    exact ⟨hS3, hE, fun hm => hno a (st4.mem_er hc3 hm).1 rfl⟩
  · obtain ⟨_, p2⟩ := flatten_set (c := [a]) hc3
    rcases List.mem_append.mp (p2.mem_iff.mp hz) with hm | hm
    · exact .inl (List.mem_singleton.mp hm)
    · exact .inr (st4.mem_er hc3 hm).1
/-- an expression that changes slot i's own thing, run while slot j's dict is locked -/
theorem em_lockK (hij : j ≠ i) (hT : ρ[j]? = some (some (.nd k (ds.map Tr.sh)))) (hk : DctK k ks) (hf : ∀ d ∈ ds, d.fl.isSome = true) (he : ∀ E1 a, Dq B.K E1 (.ref a) (.nd (.dcl ks) ds) → Em ⟨B.K, B.S0, E1⟩ te (ρ.set j (some (.sh (.exn a none [])))) i T1 t) : Em B (tLockE te) ρ i T1 t := fun S H σ cs st Q q => by
  obtain ⟨a, u, ha, mu, hS, l⟩ := st.lend hT hk hf
  refine ⟨a, u, ha, mu, fun od => ?_⟩
  have ld := l od
  obtain ⟨cs1, st1⟩ := ld.st
  refine he _ a ld.dq S _ σ cs1 st1 _ fun v c S' H' cs' st' ow nd fr => ?_
  have hlt : j < ρ.length := (List.getElem?_eq_some_iff.mp hT).1
  obtain ⟨g1, g2, cs'', st'', g3⟩ := ld.bk S' H' σ _ cs' st' (by rw [List.getElem?_set_ne (Ne.symm hij), List.getElem?_set_self hlt])
  have e : (((ρ.set j (some (.sh (.exn a none [])))).set i (some T1)).set j (some (.nd k (ds.map Tr.sh)))) = ρ.set i (some T1) := by
    rw [List.set_comm _ _ (Ne.symm hij), List.set_set, set_same hT]
  rw [e] at st''
  have hca : ∀ z ∈ c, z ≠ a := fun z hz => (ld.e0 z (fr z hz).2.1).2
  refine ⟨g1, q v c S' _ cs'' st'' (ow.keep (Same.refl S') fun z hz => upd_ne (hca z hz)) nd fun z hz => ⟨(fr z hz).1, (ld.e0 z (fr z hz).2.1).1, fun hm => ?_⟩⟩
  rcases g3 z hm with e | hm
  · exact hca z hz e
  · exact (fr z hz).2.2 hm
theorem eo_lockK (hT : ρ[j]? = some (some (.nd k (ds.map Tr.sh)))) (hk : DctK k ks) (hf : ∀ d ∈ ds, d.fl.isSome = true) (he : ∀ E1 a, Dq B.K E1 (.ref a) (.nd (.dcl ks) ds) → Eo ⟨B.K, B.S0, E1⟩ te (ρ.set j (some (.sh (.exn a none [])))) t) : Eo B (tLockE te) ρ t := fun S H σ cs st Q q => by
  obtain ⟨a, u, ha, mu, hS, l⟩ := st.lend hT hk hf
  refine ⟨a, u, ha, mu, fun od => ?_⟩
  have ld := l od
  obtain ⟨cs1, st1⟩ := ld.st
  refine he _ a ld.dq S _ σ cs1 st1 _ fun x2 c2 S2 H2 s2 f2 => ?_
  have h2a := s2.h a _ upd_same
  refine ⟨h2a, ?_⟩
  have hfa : (upd H a (.frz od u)) a ≠ none := by rw [upd_same]; exact fun z => nomatch z
  have hS2 : S2 a = none := s2.nw a hS hfa
  have hca : ∀ b ∈ c2, b ≠ a := fun b hb e => by
    subst e
    exact hfa (f2.fr b hb).2
  refine q x2 c2 S2 _ ⟨s2.s, fun b o q => ?_, fun b o q => ?_, fun b h1 h2 => ?_⟩ ⟨f2.ow.keep (Same.refl S2) fun b hb => upd_ne (hca b hb), f2.nd, fun b hb => ?_⟩
  · by_cases hb : b = a
    · subst hb
      rw [ha] at q
      cases q
      exact upd_same
    · rw [upd_ne hb]
      exact s2.h b o (by rw [upd_ne hb]; exact q)
  · rw [upd_ne (fun e : b = a => by rw [e, hS2] at q; cases q)]
    exact s2.sh b o q
  · refine s2.nw b h1 ?_
    by_cases hb : b = a
    · subst hb
      exact hfa
    · rw [upd_ne hb]
      exact h2
  · have z := (f2.fr b hb).2
    rw [upd_ne (hca b hb)] at z
    exact ⟨(f2.fr b hb).1, z⟩
theorem es_lockK {v : V} (hT : ρ[j]? = some (some (.nd k (ds.map Tr.sh)))) (hk : DctK k ks) (hf : ∀ d ∈ ds, d.fl.isSome = true) (he : ∀ E1 a, Dq B.K E1 (.ref a) (.nd (.dcl ks) ds) → Eb ⟨B.K, B.S0, E1⟩ te (ρ.set j (some (.sh (.exn a none [])))) d) (e : d.fl = some v) : Es B (tLockE te) ρ d := eo_lockK hT hk hf fun E1 a h => es_flat (he E1 a h) e
/-- a statement that gives nothing back, run while slot j's dict is locked -/
theorem q_lockK (P : Rho → Prop) (hT : ρ[j]? = some (some (.nd k (ds.map Tr.sh)))) (hk : DctK k ks) (hf : ∀ d ∈ ds, d.fl.isSome = true)
    (he : ∀ E1 a D', Dq B.K E1 (.ref a) (.nd (.dcl ks) ds) → (∀ ρ', ρ'[j]? = some (some (.sh (.exn a none []))) → P ρ' → En ⟨B.K, B.S0, E1⟩ (Ends.nx D') ρ') → Gd ⟨B.K, B.S0, E1⟩ s0 D' (ρ.set j (some (.sh (.exn a none [])))))
    (hq : ∀ ρ', P ρ' → Gd B s D (ρ'.set j (some (.nd k (ds.map Tr.sh))))) : Gd B (tSeq (tLock s0) s) D ρ := fun S H σ cs st => by
  obtain ⟨a, u, ha, mu, hS, l⟩ := st.lend hT hk hf
  refine ⟨a, u, ha, mu, fun od => ?_⟩
  have ld := l od
  obtain ⟨cs1, st1⟩ := ld.st
  refine he _ a _ ld.dq (fun ρ' h1 h2 S' H' σ' cs' st' => ?_) S _ σ cs1 st1
  obtain ⟨g1, g2, cs'', st'', g3⟩ := ld.bk S' H' σ' _ cs' st' h1
  exact ⟨g1, hq ρ' h2 S' _ σ' cs'' st''⟩
/-- the items of a dict that is lent, locked -/
theorem ej_lentI (hT : ρ[i]? = some (some (.sh (.exn a none [])))) (hb : Dq B.K B.E0 (.ref a) (.nd (.dcl ks) ds)) (hf : ∀ d ∈ ds, d.fl.isSome = true) : Ej B (iItems (tVar i)) ρ (itemsD ks ds) := fun S H σ cs st R r => by
  obtain ⟨c, x, h1, h2, ow⟩ := st.var hT
  obtain ⟨_, dq3⟩ := ow.sh_inv
  have hx : x = .ref a := by
    cases dq3
    rfl
  subst hx
  obtain ⟨a2, vs, e, ⟨hl, o, ha⟩, dq⟩ := hb.inv
  cases e
  refine ⟨_, h2, _, o, ks.zip vs, rfl, st.hp.e0 _ _ ha, r _ S H (Step.refl st.same) (wk_ofE (walk_items (d := _) (o := o) (kvs := ks.zip vs)) (by rw [itemsD, List.length_map, List.length_zip, List.length_zip, dq.1]) (fun H2 _ e => e _ _ ha) fun i H2 x H3 S2 hi e1 e2 y => ?_)⟩
  obtain ⟨T, k', v, rfl, hT, rfl, hk1, hk2⟩ := y
  obtain ⟨⟨k, v'⟩, hk, e4⟩ := Option.map_eq_some_iff.mp hk1
  have hk2 : Option.map Prod.snd (ks.zip vs)[i]? = some v := hk2
  rw [hk] at hk2
  cases hk2
  cases e4
  refine ⟨upd S2 T (.tup [_, _]), step_tup e2 hT, fun d hd => ?_⟩
  rw [List.getElem?_zip_eq_some] at hk
  unfold itemsD at hd
  rw [List.getElem?_map] at hd
  obtain ⟨q, hq, rfl⟩ := Option.map_eq_some_iff.mp hd
  rw [List.getElem?_zip_eq_some] at hq
  rw [hk.1] at hq
  have e3 : k = q.1 := Option.some.inj hq.1
  subst e3
  exact pair_dq (e2.free hT) (Dq.of_flat (kyD_fl _)) ((dq_flat (S2 := S2) dq hf).2 i _ _ hk.2 hq.2)
end
section
variable {B : Bs} {ρ : Rho} {ts : TA} {d : Da} {ds : List Da} {i j : Nat} {T t : Tr} {us us' : List Tr} {C : Str} {ns ns' : List Str} {E : XK} {b : Addr}
/-- f(x, y, ..): x a slot's own, y lent already -/
theorem em_callE {R : RelTB} (hT : ρ[i]? = some (some T)) (hk : T = .nd (.ins C ns) us ∨ ∃ a, T = .nd (.slf a C ns) us) (hU : ρ[j]? = some (some (.sh (.exn b none [])))) (hb : Dq B.K B.E0 (.ref b) d) (ha : Eas B ts ρ ds) (r : AtT T fun a => R (.nd (.slf a C ns) us) [d] ds (.ret (.nd (.slf a C ns') us') t)) : Em B (tCall (SpTB B.K R) [] E (tCons (tVar i) (tCons (tVar j) ts))) ρ i (reT T ns' us') t := fun S H σ cs st Q q => by
  obtain ⟨c0, x, hc, hx, ow⟩ := st.var hT
  obtain ⟨c3, y, hc3, hy, ow3⟩ := st.var hU
  obtain ⟨_, dq3⟩ := ow3.sh_inv
  have hyb : y = .ref b := by
    cases dq3
    rfl
  subst hyb
  refine ⟨x, hx, _, hy, ha S H σ cs st _ fun ws S2 H2 s2 f2 => ?_⟩
  show SpTB B.K R ((x :: _ :: ws) ++ []) H2 Q E
  rw [List.append_nil]
  have st2 := st.grow s2
  obtain ⟨a2, e2, r2, ow2, up⟩ := ow_slf hk (ow.same s2.s s2.h) r
  subst e2
  have hE : Same B.E0 (off H2 c0) := fun z o q => by
    have hn : z ∉ c0 := fun hm => by rw [(st2.hp.ow z (mem_flat hc hm)).2] at q; cases q
    rw [off_out hn]
    exact st2.hp.e0 z o q
  exact ⟨.ref a2, [_], ws, _, [d], ds, c0, S2, _, rfl, r2, ow2, st2.chunk_nd hc, fun z hz => (st2.hp.ow z (mem_flat hc hz)).1, DqAll.cons (hb.same hE) DqAll.nil, f2, st2.same, outT_ret st2 hc hx (fun S' H' c' o => up S' H' c' _ _ o) q⟩
end
section
variable {B : Bs} {ρ : Rho} {tt uu : TT} {T1 : Tr} {i : Nat} {b e : Bool}
theorem emt_orM (hT : ρ[i]? = some (some T1)) (h1 : EmT B tt ρ i T1 b) (h2 : b = false → EmT B uu ρ i T1 e) : EmT B (tOr tt uu) ρ i T1 (b || e) := fun S H σ cs st Q q => h1 S H σ cs st _ fun S1 H1 cs1 st1 => by
  cases b with
  | true =>
    show (if true = true then _ else _)
    rw [if_pos rfl]
    exact q S1 H1 cs1 st1
  | false =>
    show (if false = true then _ else _)
    rw [if_neg Bool.false_ne_true]
    rw [set_same hT] at st1
    exact h2 rfl S1 H1 σ cs1 st1 Q fun S2 H2 cs2 st2 => q S2 H2 cs2 st2
end
section
variable {S0 E0 : Hp} {K : PySem.W.Frag} {B : Bs} {ρ ρ' : Rho} {te ta tb : TE} {t : Tr} {a b : Addr} {C : Str} {ns : List Str} {us ws' : List Tr} {ks : List Key} {D : Ends} {Q : VK} {T1 : Tr} {i : Nat} {p e : Bool}
/-- what is given back is told by an expression that changes the slots -/
theorem s_retR22 (he : Emr ⟨K, S0, E0⟩ te ρ ρ' t) (hT : ρ'[0]? = some (some (.nd (.slf a C ns) us))) (hU : ρ'[1]? = some (some (.nd (.dcs b none ks) ws'))) (hD : D.rt = Q) (q : RetT2 ⟨K, S0, E0⟩ (.ref a) (.ref b) Q (.nd (.slf a C ns) us) (.nd (.dcs b none ks) ws') t) : Gd ⟨K, S0, E0⟩ (tRet te) D ρ := fun S H σ cs st => he S H σ cs st _ fun v c' S1 H1 cs1 st1 ow3 nd3 fr3 => by
  obtain ⟨c, x, hc, hx, ow⟩ := st1.var hT
  obtain ⟨d, y, hd, hy, ow2⟩ := st1.var hU
  have e := ow.slf_val
  subst e
  have e := ow2.dcs_val
  subst e
  rw [hD]
  have hcd : ∀ z ∈ d, z ∉ c := fun z hz => (st1.mem_er hc (mem_erase hd hz (by decide))).2
  refine q c d c' v S1 H1 st1.hp.s0 st1.hp.e0 st1.hp.sh st1.hp.nw ow ow2 ow3 ?_ fun z hz => ?_
  · rw [List.nodup_append, List.nodup_append]
    refine ⟨st1.chunk_nd hc, ⟨st1.chunk_nd hd, nd3, fun z hz w hw e => ?_⟩, fun z hz w hw e => ?_⟩
    · exact (fr3 w hw).2.2 (e ▸ mem_flat hd hz)
    · subst e
      rcases List.mem_append.mp hw with hw | hw
      · exact hcd z hw hz
      · exact (fr3 z hw).2.2 (mem_flat hc hz)
  · rcases List.mem_append.mp hz with hz | hz
    · exact st1.hp.ow z (mem_flat hc hz)
    rcases List.mem_append.mp hz with hz | hz
    · exact st1.hp.ow z (mem_flat hd hz)
    · exact ⟨(fr3 z hz).1, (fr3 z hz).2.1⟩
theorem em_andV (hT : ρ[i]? = some (some T1)) (h1 : Eb B ta ρ (.bl p)) (h2 : p = true → Em B tb ρ i T1 (.sh (.bl e))) : Em B (tAndV ta tb) ρ i T1 (.sh (.bl (p && e))) := fun S H σ cs st Q q => h1 S H σ cs st _ fun x S1 H1 s1 f1 => ⟨p, f1.flat rfl, by
  cases p with
  | true => exact h2 rfl S1 H1 σ cs (st.grow s1) Q q
  | false =>
    refine q _ [] S1 H1 cs ?_ (.sh (Dq.of_flat rfl)) List.nodup_nil fun z hz => by cases hz
    rw [set_same hT]
    exact st.grow s1⟩
end

/-! ## the laws of living tables: their draws -/
def txtQ (c : Int) : List Nat := (List.range (c % 12).toNat).map fun (j : Nat) => SG.getD (c / 12 / 39 ^ j % 39).toNat 0
def keyQ (c : Int) : KeyM := if c % 4 = 0 then .n (c / 4 % 10 ^ (18 : Int).toNat) else if c % 4 = 1 then .s (txtQ (c / 4)) else if c % 4 = 2 then .n (c / 4 % 50) else .n (c / 4 % 12)
theorem getD_SG (i : Int) : SG.getD (i % 39).toNat 0 ∈ SG := by
  have h : (i % 39).toNat < SG.length := by rw [SG_len]; omega
  rw [List.getD, List.getElem?_eq_getElem h]
  exact List.getElem_mem h
theorem txtQ_len (c : Int) : (txtQ c).length = (c % 12).toNat := by
  unfold txtQ
  rw [List.length_map, List.length_range]
theorem keyQ_ok (c : Int) : okK (keyQ c) = true := by
  unfold keyQ
  split
  · have h1 := Int.emod_nonneg (c / 4) (show (10 ^ (18 : Int).toNat : Int) ≠ 0 by decide)
    have h2 := Int.emod_lt_of_pos (c / 4) (show (0 : Int) < 10 ^ (18 : Int).toNat by decide)
    have h3 : (10 ^ (18 : Int).toNat : Int) = 1000000000000000000 := by decide
    rw [okK_n, decide_eq_true (by omega), decide_eq_true (by omega)]
    rfl
  · split
    · rw [okK_s, Bool.and_eq_true]
      refine ⟨List.all_eq_true.mpr fun d hd => ?_, decide_eq_true ?_⟩
      · obtain ⟨k, _, rfl⟩ := List.mem_map.mp hd
        exact decide_eq_true (getD_SG _)
      · rw [txtQ_len]
        omega
    · split
      · rw [okK_n, decide_eq_true (by omega), decide_eq_true (by omega)]
        rfl
      · rw [okK_n, decide_eq_true (by omega), decide_eq_true (by omega)]
        rfl
theorem div39 (r : Int) (j : Nat) : r / 39 ^ j / 39 = r / 39 ^ (j + 1) := by
  rw [Int.ediv_ediv_of_nonneg (by have := Int.pow_pos (n := 39) (m := j) (by omega); omega), Int.pow_succ]
theorem pow18 : CPow 10 18 := by unfold CPow; decide
theorem pow18p : (0 : Int) < 10 ^ (18 : Int).toNat := by decide
theorem pow12 : CPow 10 12 := by unfold CPow; decide
def saltQ (c : Int) : Int := if c / 32 % 4 = 0 then 0 else if c / 32 % 4 = 1 then 1 else if c / 32 % 4 = 2 then c / 64 % 1000 else 10 ^ (12 : Int).toNat + c
def modQ (o : Int) : Int := if o % 8 = 0 then 2 else if o % 8 = 1 then 3 else if o % 8 = 2 then 2 + o / 8 % 9 else if o % 8 = 3 then 10 else if o % 8 = 4 then 1000 else if o % 8 = 5 then 1000000000 else if o % 8 = 6 then 2 + o / 8 % 999999999 else 7
theorem saltQ_in {c : Int} (h : 0 ≤ c ∧ c < 2147483587) : 0 ≤ saltQ c ∧ saltQ c ≤ 1100000000000 := by
  have e : (10 ^ (12 : Int).toNat : Int) = 1000000000000 := by decide
  unfold saltQ
  rw [e]
  split
  · omega
  · split
    · omega
    · split <;> omega
theorem modQ_in (o : Int) : 2 ≤ modQ o ∧ modQ o ≤ 1000000000 := by
  unfold modQ
  repeat' split
  all_goals omega
theorem at4 {a b c d : Da} {i : Int} (h : 0 ≤ i ∧ i < 4) : atI [a, b, c, d] i = some (if i = 0 then a else if i = 1 then b else if i = 2 then c else d) := by
  have : i = 0 ∨ i = 1 ∨ i = 2 ∨ i = 3 := by omega
  rcases this with rfl | rfl | rfl | rfl <;> rfl
theorem at8 {a b c d e f g z : Da} {i : Int} (h : 0 ≤ i ∧ i < 8) : atI [a, b, c, d, e, f, g, z] i = some (if i = 0 then a else if i = 1 then b else if i = 2 then c else if i = 3 then d else if i = 4 then e else if i = 5 then f else if i = 6 then g else z) := by
  have : i = 0 ∨ i = 1 ∨ i = 2 ∨ i = 3 ∨ i = 4 ∨ i = 5 ∨ i = 6 ∨ i = 7 := by omega
  rcases this with rfl | rfl | rfl | rfl | rfl | rfl | rfl | rfl <;> rfl
theorem int_ite {p : Prop} [Decidable p] {a b : Int} : (if p then Da.int a else Da.int b) = Da.int (if p then a else b) := by split <;> rfl
theorem at_salt {c : Int} : atI [Da.int 0, .int 1, .int (c / 64 % 1000), .int (10 ^ (12 : Int).toNat + c)] (c / 32 % 4) = some (.int (saltQ c)) := by
  rw [at4 (by omega), int_ite, int_ite, int_ite]
  rfl
theorem at_mod {o : Int} : atI [Da.int 2, .int 3, .int (2 + o / 8 % 9), .int 10, .int 1000, .int 1000000000, .int (2 + o / 8 % 999999999), .int 7] (o % 8) = some (.int (modQ o)) := by
  rw [at8 (by omega), int_ite, int_ite, int_ite, int_ite, int_ite, int_ite, int_ite]
  rfl
abbrev szD (part salt m : Int) : Da := .tup [.int part, .int salt, .int m]
def partQ (ns : List Int) (most : Int) : Int := 1 + cell ns 1 % most
def saltL (ns : List Int) : Int := saltQ (cell ns 1)
def modL (ns : List Int) : Int := modQ (mix (cell ns 1) 5)
theorem cell_in (ns : List Int) (k : Int) : 0 ≤ cell ns k ∧ cell ns k < 2147483587 := ⟨mix_nn _ _, mix_lt _ _⟩
theorem sizes_in {ns : List Int} {most : Int} (h : 1 ≤ most) : (1 ≤ partQ ns most ∧ partQ ns most ≤ most) ∧ (0 ≤ saltL ns ∧ saltL ns ≤ 1100000000000) ∧ 2 ≤ modL ns ∧ modL ns ≤ 1000000000 := by
  have h1 := Int.emod_nonneg (cell ns 1) (show most ≠ 0 by omega)
  have h2 := Int.emod_lt_of_pos (cell ns 1) (show 0 < most by omega)
  refine ⟨?_, saltQ_in (cell_in _ _), modQ_in _⟩
  unfold partQ
  omega
def manyQ (ns : List Int) (st most : Int) : Int := min most (max (max 0 ((ns.length : Int) - st)) (cell ns (st - 1) % (most + 1)))
theorem manyQ_in {ns : List Int} {st most : Int} (h : 0 ≤ most) : 0 ≤ manyQ ns st most ∧ manyQ ns st most ≤ most := by
  unfold manyQ
  omega
def cellQ (ns : List Int) (st k : Int) : Int := if cell ns 0 % 2 = 1 then mix (rawL ns (st + k % max 1 ((ns.length : Int) - st)) % 2147483647) k else rawL ns (st + k % max 1 ((ns.length : Int) - st))
def keptKey (L : Lod) (i : Int) : KeyM := (L.getD (i % (L.length : Int)).toNat (.n 0, 0)).1
def deedK (ns : List Int) (st k : Int) (L : Lod) (m : Int) : KeyM := if cellQ ns st k % 8 > 4 ∧ L ≠ [] then keptKey L (cellQ ns st k / 8 / m) else keyQ (cellQ ns st k / 8 / m)
def deedV (ns : List Int) (st k m : Int) : Int := cellQ ns st k / 8 % m
def deedD (ns : List Int) (st k : Int) : Int := if cellQ ns st k % 8 > 5 then 1 else 0
theorem keptKey_in {L : Lod} (h : L ≠ []) (i : Int) : keptKey L i ∈ L.map Prod.fst := by
  have hl : 0 < L.length := List.length_pos_iff.mpr h
  have h1 := Int.emod_nonneg i (show (L.length : Int) ≠ 0 by omega)
  have h2 := Int.emod_lt_of_pos i (show 0 < (L.length : Int) by omega)
  have h3 : (i % (L.length : Int)).toNat < L.length := by omega
  unfold keptKey
  rw [List.getD, List.getElem?_eq_getElem h3]
  exact List.mem_map.mpr ⟨_, List.getElem_mem h3, rfl⟩
theorem deedK_ok {ns : List Int} {st k : Int} {L : Lod} {m : Int} (h : ∀ p ∈ L, okK p.1 = true) : okK (deedK ns st k L m) = true := by
  unfold deedK
  split
  · rename_i hc
    obtain ⟨p, hp, e⟩ := List.mem_map.mp (keptKey_in hc.2 (cellQ ns st k / 8 / m))
    rw [← e]
    exact h p hp
  · exact keyQ_ok _
theorem deedV_in {ns : List Int} {st k m : Int} (h : 2 ≤ m) : 0 ≤ deedV ns st k m ∧ deedV ns st k m < m := ⟨Int.emod_nonneg _ (by omega), Int.emod_lt_of_pos _ (by omega)⟩
abbrev kpK (L : Lod) : NK := .dct (L.map fun p => keyD p.1)
abbrev kpL (L : Lod) : NK := .dcl (L.map fun p => keyD p.1)
abbrev kpV (L : Lod) : List Da := L.map fun p => .int p.2
abbrev kpT (L : Lod) : Tr := .nd (kpK L) ((kpV L).map Tr.sh)
theorem at_deed {w : Int} (h : 0 ≤ w ∧ w < 8) : atI [Da.int 0, .int 0, .int 0, .int 0, .int 0, .int 0, .int 1, .int 1] w = some (.int (if w > 5 then 1 else 0)) := by
  have : w = 0 ∨ w = 1 ∨ w = 2 ∨ w = 3 ∨ w = 4 ∨ w = 5 ∨ w = 6 ∨ w = 7 := by omega
  rcases this with rfl | rfl | rfl | rfl | rfl | rfl | rfl | rfl <;> rfl
theorem kp_keys {L : Lod} : (L.map fun p => keyD p.1).map kyD = L.map fun p => kd p.1 := by
  rw [List.map_map]
  exact List.map_congr_left fun p _ => kyD_keyD p.1
theorem at_kept {L : Lod} (h : L ≠ []) (i : Int) : atI ((L.map fun p => keyD p.1).map kyD) (i % (L.length : Int)) = some (kd (keptKey L i)) := by
  have hl : 0 < L.length := List.length_pos_iff.mpr h
  have h1 := Int.emod_nonneg i (show (L.length : Int) ≠ 0 by omega)
  have h2 := Int.emod_lt_of_pos i (show 0 < (L.length : Int) by omega)
  rw [kp_keys]
  have z := at_map (f := fun p : KeyM × Int => kd p.1) (xs := L) (.n 0, 0) h1 h2
  exact z
theorem lone3 {a b c : Da} (ha : a.fl.isSome = true) (hb : b.fl.isSome = true) (hc : c.fl.isSome = true) : Lone (.nd .tup ([a, b, c].map Tr.sh)) := .nd fun t ht => by
  obtain ⟨d, hd, rfl⟩ := List.mem_map.mp ht
  simp only [List.mem_cons, List.not_mem_nil, or_false] at hd
  rcases hd with rfl | rfl | rfl
  · exact .sh (Option.isSome_iff_exists.mp ha).choose_spec
  · exact .sh (Option.isSome_iff_exists.mp hb).choose_spec
  · exact .sh (Option.isSome_iff_exists.mp hc).choose_spec
local macro_rules | `(tactic| walk_at "Y.side") => `(tactic| first | with_reducible exact pow18 | with_reducible exact pow18p | with_reducible exact pow12 | fail)
inductive R_l_stamp : Rel
  | c1 {k : KeyM} (h : okK k = true) : R_l_stamp [kd k] (.ret (.sh (.int (stampK k))))
local macro_rules | `(tactic| walk_at "Y.call") => `(tactic| ((with_reducible apply R_l_stamp.c1); (· walk_at "Y.side")))
theorem ok_l_stamp {P : Program} {w : World} {K : PySem.W.Frag} {mg : Str → Option Value} {base : Heap} (T : Txt K mg) : FnOk P w K mg base (L2.CX P w) 1 T.d_l_stamp.f T.d_l_stamp.fd ["_law_key_here"] (SpD K R_l_stamp) := by
  refine T.d_l_stamp.F.ok sc_l_stamp (fun vs H Q E h => spd_len (R := R_l_stamp) (fun ds o r => by cases r <;> rfl) h) (fun cdv A outer s H vs Q E hr h => ?_)
  obtain ⟨ds, o, S, r, hd, hS, hq⟩ := h
  have hu := hu_of hr
  refine ⟨_, (pss_cons (ps_if (pt_val (pe_callB (r := rIsi K) call_isi (by rfl) T.z_isinstance (by decide +kernel) (pa_cons (pv 0) (pa_cons (pe_bltn (v := .ty "int") (by rfl) T.z_int (by decide +kernel) rfl) pa_nil)))) (pss_one (ps_ret (pe_op (r := rMulN) op_mulN pe_int (pv 0)))) pss_nil)
  (pss_cons (ps_set (i := 1) sc_l_stamp.nd rfl (Or.inl rfl) pe_int)
  (pss_cons (ps_for (passes_of rfl) rfl (pi_str (pv 0)) (pg_name (i := 2) sc_l_stamp.nd rfl (Or.inl rfl))
  (pss_one (ps_set (i := 1) sc_l_stamp.nd rfl (Or.inl rfl) (pe_op (r := rAddN) op_addN (pe_op (r := rAddN) op_addN (pe_op (r := rMulN) op_mulN pe_int (pv 1)) pe_int) (pe_m1 (r := rSIx) PySem.F.slot_str_index PySem.F.type_str_index mt_sindexA pe_str (pv 2))))))
  (pss_one (ps_ret (pe_op (r := rAddN) op_addN (pe_op (r := rMulN) op_mulN pe_int (pv 1)) pe_int)))))), ?_⟩
  clear hr hu
  cases r with
  | @c1 k h =>
    have q := hq.ret
    refine body_gd (n := 2) hd hS rfl ?_
    show Gd _ _ _ [some (.sh (kd k)), none, none]
    clear hq hd
    try dsimp only [cxOf]
    cases k with
    | n i =>
      dsimp only [kd]
      walk_at "Y.q"
      · intro _
        walk_at "Y.ret"
      · intro hb
        cases hb
    | s l =>
      dsimp only [kd]
      obtain ⟨hs, hl⟩ := okS h
      walk_at "Y.q"
      · intro hb
        cases hb
      · intro _
        walk_at "Y.q"
        refine q_forM (f := fun c => Da.str ⟨#[c]⟩) (xs := l) (ej_strL (by walk_at "Y.eb")) (fun i ρ => ∃ x, ρ = [some (.sh (.str (strL l))), some (.sh (.int (worthL (l.take i)))), x]) ⟨_, rfl⟩ ?_ ?_
        · rintro S1 lb i c ρ' hc ⟨x, rfl⟩
          walk_at "Y.rho"
          walk_at "Y.last"
          have hcs := hs c (List.mem_of_getElem? hc)
          walk_at "Y.q"
          walk_at "Y.nx"
          refine ⟨some (.sh (.str ⟨#[c]⟩)), ?_⟩
          rw [List.take_add_one, hc]
          have e := worthL_snoc (l.take i) c
          rw [show (some c).toList = [c] from rfl, e]
          congr 5
          omega
        · rintro ρ' ⟨x, rfl⟩
          rw [List.take_length]
          walk_at "Y.ret"
inductive R_l_places : Rel
  | c1 {k : KeyM} {part salt m : Int} (h : okK k = true ∧ 1 ≤ part ∧ 0 ≤ salt ∧ salt ≤ 10000000000000) : R_l_places [kd k, szD part salt m] (.ret (plsT salt part k))
local macro_rules | `(tactic| walk_at "Y.call") => `(tactic| ((with_reducible apply R_l_places.c1); (· walk_at "Y.side")))
theorem ok_l_places {P : Program} {w : World} {K : PySem.W.Frag} {mg : Str → Option Value} {base : Heap} (T : Txt K mg) : FnOk P w K mg base (L2.CX P w) 2 T.d_l_places.f T.d_l_places.fd ["_law_key_here", "_law_sizes_here"] (SpD K R_l_places) := by
  have G_l_stamp := ok_l_stamp (P := P) (w := w) (base := base) T
  have G_l_mixed := ok_l_mixed (P := P) (w := w) (base := base) T
  refine T.d_l_places.F.ok sc_l_places (fun vs H Q E h => spd_len (R := R_l_places) (fun ds o r => by cases r <;> rfl) h) (fun cdv A outer s H vs Q E hr h => ?_)
  obtain ⟨ds, o, S, r, hd, hS, hq⟩ := h
  have hu := hu_of hr
  refine ⟨_, (pss_cons (ps_asg (pv 1) (pg_tup rfl (pgs_cons (pg_name (i := 2) sc_l_places.nd rfl (Or.inl rfl)) (pgs_cons (pg_name (i := 3) sc_l_places.nd rfl (Or.inl rfl)) (pgs_cons (pg_name (i := 4) sc_l_places.nd rfl (Or.inl rfl)) pgs_nil)))))
  (pss_cons (ps_set (i := 5) sc_l_places.nd rfl (Or.inl rfl) (pe_call G_l_stamp (hr.mono (by decide)) (by rfl) T.g_l_stamp T.d_l_stamp.kp T.d_l_stamp.b .nil passE (pa_cons (pv 0) pa_nil)))
  (pss_one (ps_ret (pe_tup (pa_cons (pe_call G_l_mixed (hr.mono (by decide)) (by rfl) T.g_l_mixed T.d_l_mixed.kp T.d_l_mixed.b .nil passE (pa_cons (pv 5) (pa_cons (pe_op (r := rMulN) op_mulN pe_int (pv 3)) (pa_cons (pv 2) pa_nil)))) (pa_cons (pe_op (r := rAddN) op_addN (pv 2) (pe_call G_l_mixed (hr.mono (by decide)) (by rfl) T.g_l_mixed T.d_l_mixed.kp T.d_l_mixed.b .nil passE (pa_cons (pv 5) (pa_cons (pe_op (r := rAddN) op_addN (pe_op (r := rMulN) op_mulN pe_int (pv 3)) pe_int) (pa_cons (pv 2) pa_nil))))) pa_nil))))))), ?_⟩
  clear hr hu
  cases r with
  | @c1 k part salt m h =>
    have q := hq.ret
    refine body_gd (n := 4) hd hS rfl ?_
    show Gd _ _ _ [some (.sh (kd k)), some (.sh (szD part salt m)), none, none, none, none]
    clear hq hd
    try dsimp only [cxOf]
    obtain ⟨h1, h2, h3, h4⟩ := h
    refine q_tgt (by walk_at "Y.es") (gt_tup (gts_cons gt_name (gts_cons gt_name (gts_cons gt_name gts_nil))) rfl) ?_
    walk_at "Y.rho"
    walk_at "Y.q"
    walk_at "Y.last"
    exact s_retL q (eo_tup (ds := [.int (plA salt part k), .int (part + mixedM (stampK k) (4 * salt + 1) part)]) (eas_cons (es_is (d := .int (mixedM (stampK k) (4 * salt) part)) (es_flat (eb_call (by walk_at "Y.eab") (by walk_at "Y.call") (Tr.flat_sh _)) rfl) rfl) (eas_cons (es_flat (eb_op (by walk_at "Y.eb") (eb_call (by walk_at "Y.eab") (by walk_at "Y.call") (Tr.flat_sh _)) (by walk_at "Y.op")) rfl) eas_nil)) (by rw [sizeLine_eq]; simp only [List.length_cons, List.length_nil]; omega)) rfl
inductive R_l_text : Rel
  | c1 {c : Int} : R_l_text [.int c] (.ret (.sh (.str (strL (txtQ c)))))
local macro_rules | `(tactic| walk_at "Y.call") => `(tactic| ((with_reducible apply R_l_text.c1)))
theorem ok_l_text {P : Program} {w : World} {K : PySem.W.Frag} {mg : Str → Option Value} {base : Heap} (T : Txt K mg) : FnOk P w K mg base (L2.CX P w) 1 T.d_l_text.f T.d_l_text.fd ["_law_cell_here"] (SpD K R_l_text) := by
  refine T.d_l_text.F.ok sc_l_text (fun vs H Q E h => spd_len (R := R_l_text) (fun ds o r => by cases r <;> rfl) h) (fun cdv A outer s H vs Q E hr h => ?_)
  obtain ⟨ds, o, S, r, hd, hS, hq⟩ := h
  have hu := hu_of hr
  refine ⟨_, (pss_cons (ps_set (i := 1) sc_l_text.nd rfl (Or.inl rfl) pe_str)
  (pss_cons (ps_set (i := 2) sc_l_text.nd rfl (Or.inl rfl) (pe_op op_fdivW (pv 0) pe_int))
  (pss_cons (ps_for (passes_of rfl) rfl (pi_range1 (by rfl) T.z_range (pa_cons (pe_op op_mod (pv 0) pe_int) pa_nil)) (pg_name (i := 3) sc_l_text.nd rfl (Or.inl rfl))
  (pss_cons (ps_set (i := 1) sc_l_text.nd rfl (Or.inl rfl) (pe_op (r := rAddN) op_addN (pv 1) (pe_ix (r := rIxA K) (ix_A hu) pe_str (pe_op op_mod (pv 2) pe_int) (fun _ _ => rfl))))
  (pss_one (ps_set (i := 2) sc_l_text.nd rfl (Or.inl rfl) (pe_op op_fdivW (pv 2) pe_int)))))
  (pss_one (ps_ret (pv 1)))))), ?_⟩
  clear hr hu
  cases r with
  | @c1 c =>
    have q := hq.ret
    refine body_gd (n := 3) hd hS rfl ?_
    show Gd _ _ _ [some (.sh (.int c)), none, none, none]
    clear hq hd
    try dsimp only [cxOf]
    walk_at "Y.q"
    walk_at "Y.q"
    refine q_forR (n := c % 12) (by walk_at "Y.eab") (by omega) (by omega) (fun j ρ => ∃ x, ρ = [some (.sh (.int c)), some (.sh (.str (strL ((List.range j).map fun (j : Nat) => SG.getD (c / 12 / 39 ^ j % 39).toNat 0)))), some (.sh (.int (c / 12 / 39 ^ j))), x]) ⟨none, by simp; rfl⟩ ?_ ?_
    · rintro S1 lb j ρ' hj ⟨x, rfl⟩
      walk_at "Y.rho"
      have hs : atI (("abcdefghijklmnopqrstuvwxyz0123456789-_ " : Str).cps.toList) (c / 12 / 39 ^ j % 39) = some (SG.getD (c / 12 / 39 ^ j % 39).toNat 0) := atI_getD (xs := SG) (by omega) (by rw [SG_len]; omega)
      have hz : ("abcdefghijklmnopqrstuvwxyz0123456789-_ " : Str).length ≤ sizeLine := by decide +kernel
      have hz2 : (strL ((List.range j).map fun (j : Nat) => SG.getD (c / 12 / 39 ^ j % 39).toNat 0)).length + (⟨#[SG.getD (c / 12 / 39 ^ j % 39).toNat 0]⟩ : Str).length ≤ sizeLine := by
        show _ + (strL [_]).length ≤ _
        rw [strL_len, strL_len, List.length_map, List.length_range]
        exact small_line (by simp only [List.length_cons, List.length_nil]; omega)
      walk_at "Y.q"
      walk_at "Y.last"
      walk_at "Y.q"
      rw [div39]
      walk_at "Y.nx"
      refine ⟨some (.sh (.int (j : Int))), ?_⟩
      have e : strL ((List.range j).map fun (j : Nat) => SG.getD (c / 12 / 39 ^ j % 39).toNat 0) ++ ⟨#[SG.getD (c / 12 / 39 ^ j % 39).toNat 0]⟩ = strL ((List.range (j + 1)).map fun (j : Nat) => SG.getD (c / 12 / 39 ^ j % 39).toNat 0) := by
        show _ ++ strL [_] = _
        rw [strL_app, List.range_succ, List.map_append]
        rfl
      rw [e]
    · rintro ρ' ⟨x, rfl⟩
      show Gd _ _ _ [_, some (.sh (.str (strL (txtQ c)))), _, _]
      walk_at "Y.ret"
inductive R_l_key : Rel
  | c1 {c : Int} : R_l_key [.int c] (.ret (.sh (kd (keyQ c))))
local macro_rules | `(tactic| walk_at "Y.call") => `(tactic| ((with_reducible apply R_l_key.c1)))
theorem ok_l_key {P : Program} {w : World} {K : PySem.W.Frag} {mg : Str → Option Value} {base : Heap} (T : Txt K mg) : FnOk P w K mg base (L2.CX P w) 2 T.d_l_key.f T.d_l_key.fd ["_law_cell_here"] (SpD K R_l_key) := by
  have G_l_text := ok_l_text (P := P) (w := w) (base := base) T
  refine T.d_l_key.F.ok sc_l_key (fun vs H Q E h => spd_len (R := R_l_key) (fun ds o r => by cases r <;> rfl) h) (fun cdv A outer s H vs Q E hr h => ?_)
  obtain ⟨ds, o, S, r, hd, hS, hq⟩ := h
  have hu := hu_of hr
  refine ⟨_, (pss_cons (ps_set (i := 1) sc_l_key.nd rfl (Or.inl rfl) (pe_op op_fdivW (pv 0) pe_int))
  (pss_cons (ps_if (pt_cmpR (r := rEqA K) (op_eqA hr.units) (pe_op op_mod (pv 0) pe_int) pe_int (nomark _)) (pss_one (ps_ret (pe_op op_mod (pv 1) (pe_op op_pow pe_int pe_int)))) pss_nil)
  (pss_cons (ps_if (pt_cmpR (r := rEqA K) (op_eqA hr.units) (pe_op op_mod (pv 0) pe_int) pe_int (nomark _)) (pss_one (ps_ret (pe_call G_l_text (hr.mono (by decide)) (by rfl) T.g_l_text T.d_l_text.kp T.d_l_text.b .nil passE (pa_cons (pv 1) pa_nil)))) pss_nil)
  (pss_one (ps_ret (pe_op op_mod (pv 1) (pe_ix (r := rIxA K) (ix_A hu) (pe_lst (pa_cons pe_int (pa_cons pe_int pa_nil))) (pe_op op_sub (pe_op op_mod (pv 0) pe_int) pe_int) (fun _ _ => rfl)))))))), ?_⟩
  clear hr hu
  cases r with
  | @c1 c =>
    have q := hq.ret
    refine body_gd (n := 1) hd hS rfl ?_
    show Gd _ _ _ [some (.sh (.int c)), none]
    clear hq hd
    try dsimp only [cxOf]
    walk_at "Y.q"
    walk_at "Y.q"
    · intro hb
      have e : keyQ c = .n (c / 4 % 10 ^ (18 : Int).toNat) := by
        unfold keyQ
        rw [if_pos (of_decide_eq_true hb)]
      rw [e] at q
      dsimp only [kd] at q
      walk_at "Y.ret"
    intro h0
    walk_at "Y.q"
    · intro hb
      have e : keyQ c = .s (txtQ (c / 4)) := by
        unfold keyQ
        rw [if_neg (of_decide_eq_false h0), if_pos (of_decide_eq_true hb)]
      rw [e] at q
      dsimp only [kd] at q
      walk_at "Y.ret"
    intro h1
    have h0 := of_decide_eq_false h0
    have h1 := of_decide_eq_false h1
    by_cases h2 : c % 4 = 2
    · have e : keyQ c = .n (c / 4 % 50) := by
        unfold keyQ
        rw [if_neg h0, if_neg h1, if_pos h2]
      rw [e] at q
      dsimp only [kd] at q
      have ha : atI [Da.int 50, .int 12] (c % 4 - 2) = some (.int 50) := by rw [h2]; rfl
      walk_at "Y.ret"
    · have e : keyQ c = .n (c / 4 % 12) := by
        unfold keyQ
        rw [if_neg h0, if_neg h1, if_neg h2]
      rw [e] at q
      dsimp only [kd] at q
      have ha : atI [Da.int 50, .int 12] (c % 4 - 2) = some (.int 12) := by rw [show c % 4 = 3 by omega]; rfl
      walk_at "Y.ret"
inductive R_l_sizes : Rel
  | c1 {ns : List Int} {most : Int} (h : 1 ≤ most ∧ most ≤ 1000) : R_l_sizes [.nd .rd (ns.map .int), .int most] (.ret (.nd .tup ([.int (partQ ns most), .int (saltL ns), .int (modL ns)].map Tr.sh)))
local macro_rules | `(tactic| walk_at "Y.call") => `(tactic| ((with_reducible apply R_l_sizes.c1); (· walk_at "Y.side")))
theorem ok_l_sizes {P : Program} {w : World} {K : PySem.W.Frag} {mg : Str → Option Value} {base : Heap} (T : Txt K mg) : FnOk P w K mg base (L2.CX P w) 3 T.d_l_sizes.f T.d_l_sizes.fd ["_law_script", "_law_most"] (SpD K R_l_sizes) := by
  have G_l_cell := ok_l_cell (P := P) (w := w) (base := base) T
  have G_l_mix := ok_l_mix (P := P) (w := w) (base := base) T
  refine T.d_l_sizes.F.ok sc_l_sizes (fun vs H Q E h => spd_len (R := R_l_sizes) (fun ds o r => by cases r <;> rfl) h) (fun cdv A outer s H vs Q E hr h => ?_)
  obtain ⟨ds, o, S, r, hd, hS, hq⟩ := h
  have hu := hu_of hr
  refine ⟨_, (pss_cons (ps_set (i := 2) sc_l_sizes.nd rfl (Or.inl rfl) (pe_call G_l_cell (hr.mono (by decide)) (by rfl) T.g_l_cell T.d_l_cell.kp T.d_l_cell.b .nil passE (pa_cons (pv 0) (pa_cons pe_int pa_nil))))
  (pss_cons (ps_set (i := 3) sc_l_sizes.nd rfl (Or.inl rfl) (pe_op (r := rAddN) op_addN pe_int (pe_op op_mod (pv 2) (pv 1))))
  (pss_cons (ps_set (i := 4) sc_l_sizes.nd rfl (Or.inl rfl) (pe_ix (r := rIxA K) (ix_A hu) (pe_lst (pa_cons pe_int (pa_cons pe_int (pa_cons (pe_op op_mod (pe_op op_fdivW (pv 2) pe_int) pe_int) (pa_cons (pe_op (r := rAddN) op_addN (pe_op op_pow pe_int pe_int) (pv 2)) pa_nil))))) (pe_op op_mod (pe_op op_fdivW (pv 2) pe_int) pe_int) (fun _ _ => rfl)))
  (pss_cons (ps_set (i := 5) sc_l_sizes.nd rfl (Or.inl rfl) (pe_call G_l_mix (hr.mono (by decide)) (by rfl) T.g_l_mix T.d_l_mix.kp T.d_l_mix.b .nil passE (pa_cons (pv 2) (pa_cons pe_int pa_nil))))
  (pss_cons (ps_set (i := 6) sc_l_sizes.nd rfl (Or.inl rfl) (pe_ix (r := rIxA K) (ix_A hu) (pe_lst (pa_cons pe_int (pa_cons pe_int (pa_cons (pe_op (r := rAddN) op_addN pe_int (pe_op op_mod (pe_op op_fdivW (pv 5) pe_int) pe_int)) (pa_cons pe_int (pa_cons pe_int (pa_cons pe_int (pa_cons (pe_op (r := rAddN) op_addN pe_int (pe_op op_mod (pe_op op_fdivW (pv 5) pe_int) pe_int)) (pa_cons pe_int pa_nil))))))))) (pe_op op_mod (pv 5) pe_int) (fun _ _ => rfl)))
  (pss_one (ps_ret (pe_tup (pa_cons (pv 3) (pa_cons (pv 4) (pa_cons (pv 6) pa_nil))))))))))), ?_⟩
  clear hr hu
  cases r with
  | @c1 ns most h =>
    have q := hq.ret
    refine body_gd (n := 5) hd hS rfl ?_
    show Gd _ _ _ [some (.sh (.nd .rd (ns.map .int))), some (.sh (.int most)), none, none, none, none, none]
    clear hq hd
    try dsimp only [cxOf]
    obtain ⟨h1, h2⟩ := h
    walk_at "Y.q"
    have hsa := at_salt (c := cell ns 1)
    have hmo := at_mod (o := mix (cell ns 1) 5)
    walk_at "Y.q"
    walk_at "Y.q"
    walk_at "Y.q"
    walk_at "Y.q"
    walk_at "Y.last"
    exact s_retL q (eo_tup (by walk_at "Y.eas") (by rw [sizeLine_eq]; simp only [List.length_cons, List.length_nil]; omega)) rfl
inductive R_l_many : Rel
  | c1 {ns : List Int} {st most : Int} (h : (1 ≤ st ∧ st ≤ 1000) ∧ 0 ≤ most ∧ most ≤ 1000) : R_l_many [.nd .rd (ns.map .int), .int st, .int most] (.ret (.sh (.int (manyQ ns st most))))
local macro_rules | `(tactic| walk_at "Y.call") => `(tactic| ((with_reducible apply R_l_many.c1); (· walk_at "Y.side")))
theorem ok_l_many {P : Program} {w : World} {K : PySem.W.Frag} {mg : Str → Option Value} {base : Heap} (T : Txt K mg) : FnOk P w K mg base (L2.CX P w) 3 T.d_l_many.f T.d_l_many.fd ["_law_script", "_law_start", "_law_most"] (SpD K R_l_many) := by
  have G_l_cell := ok_l_cell (P := P) (w := w) (base := base) T
  refine T.d_l_many.F.ok sc_l_many (fun vs H Q E h => spd_len (R := R_l_many) (fun ds o r => by cases r <;> rfl) h) (fun cdv A outer s H vs Q E hr h => ?_)
  obtain ⟨ds, o, S, r, hd, hS, hq⟩ := h
  have hu := hu_of hr
  refine ⟨_, (pss_cons (ps_set (i := 3) sc_l_many.nd rfl (Or.inl rfl) (pe_callB (r := rMaxA K) (call_maxA rfl) (by rfl) T.z_max (by decide +kernel) (pa_cons pe_int (pa_cons (pe_op op_sub (pe_callB (r := rLenA K) call_lenA (by rfl) T.z_len (by decide +kernel) (pa_cons (pv 0) pa_nil)) (pv 1)) pa_nil))))
  (pss_one (ps_ret (pe_callB (r := rMinA K) (call_minA rfl) (by rfl) T.z_min (by decide +kernel) (pa_cons (pv 2) (pa_cons (pe_callB (r := rMaxA K) (call_maxA rfl) (by rfl) T.z_max (by decide +kernel) (pa_cons (pv 3) (pa_cons (pe_op op_mod (pe_call G_l_cell (hr.mono (by decide)) (by rfl) T.g_l_cell T.d_l_cell.kp T.d_l_cell.b .nil passE (pa_cons (pv 0) (pa_cons (pe_op op_sub (pv 1) pe_int) pa_nil))) (pe_op (r := rAddN) op_addN (pv 2) pe_int)) pa_nil))) pa_nil)))))), ?_⟩
  clear hr hu
  cases r with
  | @c1 ns st most h =>
    have q := hq.ret
    refine body_gd (n := 1) hd hS rfl ?_
    show Gd _ _ _ [some (.sh (.nd .rd (ns.map .int))), some (.sh (.int st)), some (.sh (.int most)), none]
    clear hq hd
    try dsimp only [cxOf]
    obtain ⟨⟨h1, h2⟩, h3, h4⟩ := h
    walk_at "Y.q"
    walk_at "Y.ret"
inductive R_l_deed : Rel
  | c1 {ns : List Int} {st k part salt m : Int} {L : Lod} (h : (0 ≤ st ∧ st ≤ 1000) ∧ (0 ≤ k ∧ k ≤ 1000) ∧ ns.length ≤ 63 ∧ 1 ≤ m ∧ m ≤ 1000000000) : R_l_deed [.nd .rd (ns.map .int), .int st, .int k, .nd (kpK L) (kpV L), szD part salt m] (.ret (.nd .tup ([.int (deedD ns st k), kd (deedK ns st k L m), .int (deedV ns st k m)].map Tr.sh)))
local macro_rules | `(tactic| walk_at "Y.call") => `(tactic| ((with_reducible apply R_l_deed.c1); (· walk_at "Y.side")))
theorem ok_l_deed {P : Program} {w : World} {K : PySem.W.Frag} {mg : Str → Option Value} {base : Heap} (T : Txt K mg) : FnOk P w K mg base (L2.CX P w) 4 T.d_l_deed.f T.d_l_deed.fd ["_law_script", "_law_start", "_law_k", "_law_kept", "_law_sizes_here"] (SpD K R_l_deed) := by
  have G_l_raw := ok_l_raw (P := P) (w := w) (base := base) T
  have G_l_cell := ok_l_cell (P := P) (w := w) (base := base) T
  have G_l_mix := ok_l_mix (P := P) (w := w) (base := base) T
  have G_l_key := ok_l_key (P := P) (w := w) (base := base) T
  refine T.d_l_deed.F.ok sc_l_deed (fun vs H Q E h => spd_len (R := R_l_deed) (fun ds o r => by cases r <;> rfl) h) (fun cdv A outer s H vs Q E hr h => ?_)
  obtain ⟨ds, o, S, r, hd, hS, hq⟩ := h
  have hu := hu_of hr
  refine ⟨_, (pss_cons (ps_set (i := 5) sc_l_deed.nd rfl (Or.inl rfl) (pe_call G_l_raw (hr.mono (by decide)) (by rfl) T.g_l_raw T.d_l_raw.kp T.d_l_raw.b .nil passE (pa_cons (pv 0) (pa_cons (pe_op (r := rAddN) op_addN (pv 1) (pe_op op_mod (pv 2) (pe_callB (r := rMaxA K) (call_maxA rfl) (by rfl) T.z_max (by decide +kernel) (pa_cons pe_int (pa_cons (pe_op op_sub (pe_callB (r := rLenA K) call_lenA (by rfl) T.z_len (by decide +kernel) (pa_cons (pv 0) pa_nil)) (pv 1)) pa_nil))))) pa_nil))))
  (pss_cons (ps_if (pt_cmpR (r := rEqA K) (op_eqA hr.units) (pe_op op_mod (pe_call G_l_cell (hr.mono (by decide)) (by rfl) T.g_l_cell T.d_l_cell.kp T.d_l_cell.b .nil passE (pa_cons (pv 0) (pa_cons pe_int pa_nil))) pe_int) pe_int (nomark _)) (pss_one (ps_set (i := 5) sc_l_deed.nd rfl (Or.inl rfl) (pe_call G_l_mix (hr.mono (by decide)) (by rfl) T.g_l_mix T.d_l_mix.kp T.d_l_mix.b .nil passE (pa_cons (pe_op op_mod (pv 5) pe_int) (pa_cons (pv 2) pa_nil))))) pss_nil)
  (pss_cons (ps_set (i := 6) sc_l_deed.nd rfl (Or.inl rfl) (pe_op op_mod (pv 5) pe_int))
  (pss_cons (ps_set (i := 7) sc_l_deed.nd rfl (Or.inl rfl) (pe_op op_fdivW (pv 5) pe_int))
  (pss_cons (ps_set (i := 8) sc_l_deed.nd rfl (Or.inl rfl) (pe_op op_mod (pv 7) (pe_ix (r := rIxA K) (ix_A hu) (pv 4) pe_int (fun _ _ => rfl))))
  (pss_cons (ps_set (i := 9) sc_l_deed.nd rfl (Or.inl rfl) (pe_call G_l_key (hr.mono (by decide)) (by rfl) T.g_l_key T.d_l_key.kp T.d_l_key.b .nil passE (pa_cons (pe_op op_fdivW (pv 7) (pe_ix (r := rIxA K) (ix_A hu) (pv 4) pe_int (fun _ _ => rfl))) pa_nil)))
  (pss_cons (ps_if (PW.pt (pw_and (pt_cmpR op_gt (pv 6) pe_int (nomark _)) (pw_and1 (pt_cmpR (r := L2.rNeDN) (L2.op_neDN (Nat.lt_of_le_of_lt (Nat.le_add_right _ 64) hr.units)) (pv 3) pe_dnewK (nomark _))))) (pss_one (ps_set (i := 9) sc_l_deed.nd rfl (Or.inl rfl) (pe_ix (r := rIxA K) (ix_A hu) (L2.pe_lstKeys rfl (by rfl) T.z_list (pv 3)) (pe_op op_mod (pe_op op_fdivW (pv 7) (pe_ix (r := rIxA K) (ix_A hu) (pv 4) pe_int (fun _ _ => rfl))) (pe_callB (r := rLenA K) call_lenA (by rfl) T.z_len (by decide +kernel) (pa_cons (pv 3) pa_nil))) (fun _ _ => rfl)))) pss_nil)
  (pss_one (ps_ret (pe_tup (pa_cons (pe_ix (r := rIxA K) (ix_A hu) (pe_lst (pa_cons pe_int (pa_cons pe_int (pa_cons pe_int (pa_cons pe_int (pa_cons pe_int (pa_cons pe_int (pa_cons pe_int (pa_cons pe_int pa_nil))))))))) (pv 6) (fun _ _ => rfl)) (pa_cons (pv 9) (pa_cons (pv 8) pa_nil))))))))))))), ?_⟩
  clear hr hu
  cases r with
  | @c1 ns st k part salt m L h =>
    have q := hq.ret
    refine body_gd (n := 5) hd hS rfl ?_
    show Gd _ _ _ [some (.sh (.nd .rd (ns.map .int))), some (.sh (.int st)), some (.sh (.int k)), some (.sh (.nd (kpK L) (kpV L))), some (.sh (szD part salt m)), none, none, none, none, none]
    clear hq hd
    try dsimp only [cxOf]
    obtain ⟨⟨h1, h2⟩, ⟨h3, h4⟩, h5, h6, h7⟩ := h
    have g1 := Int.emod_nonneg k (show max 1 ((ns.length : Int) - st) ≠ 0 by omega)
    have g2 := Int.emod_lt_of_pos k (show 0 < max 1 ((ns.length : Int) - st) by omega)
    walk_at "Y.q"
    refine q_joinP (fun r => r = [some (.sh (.nd .rd (ns.map .int))), some (.sh (.int st)), some (.sh (.int k)), some (.sh (.nd (kpK L) (kpV L))), some (.sh (szD part salt m)), some (.sh (.int (cellQ ns st k))), none, none, none, none]) (by walk_at "Y.et") ?_ ?_ ?_
    · rintro r rfl
      have hw : 0 ≤ cellQ ns st k % 8 ∧ cellQ ns st k % 8 < 8 := by omega
      have hat := at_deed hw
      have hD : deedD ns st k = if cellQ ns st k % 8 > 5 then 1 else 0 := rfl
      have hV : deedV ns st k m = cellQ ns st k / 8 % m := rfl
      rw [← hD] at hat
      rw [hV] at q
      have hk1 : cellQ ns st k % 8 > 4 ∧ L ≠ [] → deedK ns st k L m = keptKey L (cellQ ns st k / 8 / m) := fun z => by unfold deedK; rw [if_pos z]
      have hk2 : ¬ (cellQ ns st k % 8 > 4 ∧ L ≠ []) → deedK ns st k L m = keyQ (cellQ ns st k / 8 / m) := fun z => by unfold deedK; rw [if_neg z]
      generalize cellQ ns st k = c at *
      generalize deedD ns st k = dd at *
      walk_at "Y.q"
      walk_at "Y.q"
      walk_at "Y.q"
      walk_at "Y.q"
      refine q_joinP (fun r => r = [some (.sh (.nd .rd (ns.map .int))), some (.sh (.int st)), some (.sh (.int k)), some (.sh (.nd (kpK L) (kpV L))), some (.sh (szD part salt m)), some (.sh (.int c)), some (.sh (.int (c % 8))), some (.sh (.int (c / 8))), some (.sh (.int (c / 8 % m))), some (.sh (kd (deedK ns st k L m)))]) (b := decide (c % 8 > 4 ∧ L ≠ [])) (et_is (et_and (by walk_at "Y.et") (fun _ => et_test (eb_op (by walk_at "Y.eb") (eb_of eo_dnew rfl) (o_neDN (.inl rfl))))) ?_) ?_ ?_ ?_
      · by_cases z1 : c % 8 > 4
        · cases L with
          | nil => simp
          | cons p r => simp [z1]
        · simp [z1]
      · rintro r rfl
        walk_at "Y.last"
        exact s_retL q (eo_tup (by walk_at "Y.eas") (by rw [sizeLine_eq]; simp only [List.length_cons, List.length_nil]; omega)) rfl
      · intro hb hk
        have hb := of_decide_eq_true hb
        have hln : L.length ≠ 0 := fun z => hb.2 (List.eq_nil_of_length_eq_zero z)
        have hat2 := at_kept hb.2 (c / 8 / m)
        have hle : (kpV L).length = L.length := List.length_map ..
        walk_at "Y.last"
        refine q_asg (d := kd (keptKey L (c / 8 / m))) (es_ix (er_ol (eo_lstKeys (.inl rfl) (by walk_at "Y.eb"))) (.inl rfl) (eb_op (by walk_at "Y.eb") (eb_is (eb_cb (eab_cons (by walk_at "Y.eb") eab_nil) o_lenD) (by rw [hle])) (by walk_at "Y.op")) hat2) ?_
        refine g_go (hk _ ?_)
        rw [hk1 hb]
        rfl
      · intro hb
        rw [hk2 (of_decide_eq_false hb)]
    · intro hb hk
      have e : cellQ ns st k = mix (rawL ns (st + k % max 1 ((ns.length : Int) - st)) % 2147483647) k := by
        unfold cellQ
        rw [if_pos (of_decide_eq_true hb)]
      walk_at "Y.last"
      walk_at "Y.q"
      refine g_go (hk _ ?_)
      rw [e]
    · intro hb
      have e : cellQ ns st k = rawL ns (st + k % max 1 ((ns.length : Int) - st)) := by
        unfold cellQ
        rw [if_neg (of_decide_eq_false hb)]
      rw [e]

def putR (salt part m : Int) (C : List Int) (L : Lod) (k : KeyM) (v : Int) : List Int × Lod × Da := match putS salt part m C L k v with
  | none => (C, L, .str "stuck")
  | some (C', ch) => (C', putL L k v, .int ch)
section
variable {salt part m v ch : Int} {C C' : List Int} {L : Lod} {k : KeyM}
theorem putR_none (h : putS salt part m C L k v = none) : putR salt part m C L k v = (C, L, .str "stuck") := by
  unfold putR
  rw [h]
theorem putR_some (h : putS salt part m C L k v = some (C', ch)) : putR salt part m C L k v = (C', putL L k v, .int ch) := by
  unfold putR
  rw [h]
theorem putR_ok (h : LvOk part salt m C L) (hk : okK k = true) (hv : 0 ≤ v ∧ v < m) (hl : L.length < 1000) : LvOk part salt m (putR salt part m C L k v).1 (putR salt part m C L k v).2.1 ∧ (putR salt part m C L k v).2.1.length ≤ L.length + 1 := by
  cases hp : putS salt part m C L k v with
  | none =>
    rw [putR_none hp]
    exact ⟨h, Nat.le_succ _⟩
  | some cc =>
    rw [putR_some hp]
    exact ⟨put_ok h hk hv hl hp, putL_len⟩
end
inductive R_l_put : RelT
  | c1 {a : Addr} {part salt m v : Int} {C : List Int} {L : Lod} {k : KeyM} (h : LvOk part salt m C L ∧ okK k = true ∧ (0 ≤ v ∧ v < m) ∧ L.length < 1000) : R_l_put (livT a part salt m C L) [kd k, .int v] (.ret (livT a part salt m (putR salt part m C L k v).1 (putR salt part m C L k v).2.1) (.sh (putR salt part m C L k v).2.2))
theorem ok_l_put {P : Program} {w : World} {K : PySem.W.Frag} {mg : Str → Option Value} {base : Heap} (T : Txt K mg) : FnOk P w K mg base (L2.CX P w) 7 T.d_l_put.f T.d_l_put.fd ["_law_living", "_law_key_here", "_law_value"] (SpT K R_l_put) := by
  have G_Living_put_Living := ok_Living_put_Living (P := P) (w := w) (base := base) T
  have cl_Living := T.cl_Living
  refine T.d_l_put.F.ok sc_l_put (fun vs H Q E h => spt_len (R := R_l_put) (fun t ds o r => by cases r <;> rfl) h) (fun cdv A outer s H vs Q E hr h => ?_)
  obtain ⟨x, ws, t0, ds, c0, S, o, rfl, r, ow, nd, fr, hd, hS, hq⟩ := h
  have hu := hu_of hr
  refine ⟨_, (pss_cons (ps_tryNo rfl rfl ⟨by rfl, by decide, .inl T.c_Stuck⟩ takesE (fun W pn xe tk hpb => (pss_one (ps_set (i := 3) sc_l_put.nd rfl (Or.inl rfl) (pe_methW (pv 0) T.cl_Living T.me_Living_put G_Living_put_Living (hr.mono (by decide)) T.d_Living_put.b (fun σ => passAt tk σ) (pa_cons (pv 1) (pa_cons (pv 2) pa_nil))))))
  (fun a oe cls d pn hz hf => (pss_one (ps_set (i := 3) sc_l_put.nd rfl (Or.inl rfl) pe_str))))
  (pss_one (ps_ret (pv 3)))), ?_⟩
  clear hr hu
  cases r with
  | @c1 a part salt m v C L k h =>
    have e0 := ow.slf_val
    subst e0
    have q : RetT ⟨K, S, off H c0⟩ _ Q _ _ := hq
    refine body_gdM (n := 1) ow nd fr hd hS rfl ?_
    show Gd _ _ _ [some (livT a part salt m C L), some (.sh (kd k)), some (.sh (.int v)), none]
    clear hq hd
    try dsimp only [cxOf]
    obtain ⟨h1, h2, h3, h4⟩ := h
    cases hp : putS salt part m C L k v with
    | none =>
      rw [putR_none hp] at q
      refine x_tryANM (C := "Stuck") (fun W => exMS_meth (i := 0) (T := livT a part salt m C L) (C := "Living") (ns := liN) (ns' := liN) rfl (.inr ⟨a, rfl⟩) (by decide) (by walk_at "Y.eas") (show R_Living_put_Living _ _ _ from R_Living_put_Living.c2 ⟨h1, h2, h3, hp⟩)) T.em_Stuck_Stuck fun ea => ?_
      walk_at "Y.last"
      walk_at "Y.q"
      refine g_go ?_
      exact s_retT0 (es_var (d := .str "stuck") rfl) (a := a) (C := "Living") (ns := liN) rfl rfl q
    | some cc =>
      rw [putR_some hp] at q
      refine q_tryANM (fun W => em_methW (i := 0) (T := livT a part salt m C L) (C := "Living") (ns := liN) (ns' := liN) rfl (.inr ⟨a, rfl⟩) (by decide) (by walk_at "Y.eas") (show R_Living_put_Living _ _ _ from R_Living_put_Living.c1 ⟨h1, h2, h3, h4, hp⟩)) ?_
      walk_at "Y.rho"
      exact s_retT0 (es_var (d := .int cc.2) rfl) (a := a) (C := "Living") (ns := liN) rfl rfl q

theorem cells_pl {C : List Int} {n : Nat} : Pl (n + 1) (.nd .lst (C.map .int)) := pl_map fun _ _ => .int
theorem prD_pl {p : KeyM × Int} {n : Nat} (h : okK p.1 = true) : Pl (n + 1) (prD p) := .tup fun d hd => by
  simp only [List.mem_cons, List.not_mem_nil, or_false] at hd
  rcases hd with rfl | rfl
  · exact kd_pl h
  · exact .int
theorem prs_pl {L : Lod} {n : Nat} (h : ∀ p ∈ L, okK p.1 = true) : Pl (n + 2) (.nd .lst (L.map prD)) := .lst fun d hd => by
  obtain ⟨p, hp, rfl⟩ := List.mem_map.mp hd
  exact prD_pl (h p hp)
theorem prD_cl {p : KeyM × Int} : Cl (prD p) := .tup fun d hd => by
  simp only [List.mem_cons, List.not_mem_nil, or_false] at hd
  rcases hd with rfl | rfl
  · exact kd_cl _
  · exact .int
theorem prs_cl {L : Lod} : Cl (.nd .lst (L.map prD)) := .lst fun d hd => by
  obtain ⟨p, hp, rfl⟩ := List.mem_map.mp hd
  exact prD_cl
theorem kept_items {L : Lod} : itemsD (L.map fun p => keyD p.1) (kpV L) = L.map prD := by
  unfold itemsD
  rw [List.zip_map', List.map_map]
  exact List.map_congr_left fun p _ => by
    show Da.tup [kyD (keyD p.1), .int p.2] = _
    rw [kyD_keyD]

theorem kpV_fl {L : Lod} : ∀ d ∈ kpV L, d.fl.isSome = true := fun d hd => by
  obtain ⟨p, _, rfl⟩ := List.mem_map.mp hd
  rfl
abbrev kpS (b : Addr) (L : Lod) : Tr := .nd (.dcs b none (L.map fun p => keyD p.1)) ((kpV L).map Tr.sh)
theorem keyK_mem {L : Lod} {k : KeyM} : keyD k ∈ (L.map fun p => keyD p.1) ↔ k ∈ L.map Prod.fst := mem_mapf (f := keyD) fun p _ e => keyD_inj e
theorem dec_kept {L : Lod} {k : KeyM} : decide (keyD k ∈ (L.map fun p => keyD p.1)) = decide (k ∈ L.map Prod.fst) := decide_eq_decide.mpr keyK_mem
theorem deq_kd {a b : KeyM} : deq (kd a) (kd b) = decide (a = b) := deq_of ⟨kd_inj a b, fun e => by rw [e]⟩
theorem kept_get {L : Lod} (nd : (L.map Prod.fst).Nodup) {p : KeyM × Int} (hp : p ∈ L) : getK (L.map fun p => keyD p.1) (kpV L) (keyD p.1) = some (.int p.2) := getK_L (f := keyD) (g := fun p => Da.int p.2) hp fun q hq e => fst_uniq nd hq hp (keyD_inj e)
theorem setL_len {xs : List Int} (h : xs.Nodup) : (setL xs).length = xs.length := (setL_uniq h fun k => Iff.rfl).length_eq.symm
theorem ties_law {salt part m : Int} {C : List Int} {L : Lod} {k : KeyM} (h : LvOk part salt m C L) (hk : okK k = true) : ((L.filter fun p => !decide (p.1 = k)).map fun p => plsD salt part p.1) = (tiesW salt part L (stampK k)).map tiB := by
  unfold tiesW
  rw [List.map_map]
  have e : (L.filter fun p => !decide (p.1 = k)) = L.filter fun p => !decide (stampK p.1 = stampK k) := List.filter_congr fun p hp => by
    congr 1
    exact decide_eq_decide.mpr ⟨fun e => by rw [e], fun e => stampK_inj (h.ok p hp) hk e⟩
  rw [e]
  rfl
theorem tdTurn_take {E : List Tie} {c : Int} {fs : List Int} {j : Nat} {t : Tie} (h : E[j]? = some t) : tdTurn (E.take (j + 1)) c fs = tdOne c (tdTurn (E.take j) c fs) t := by
  unfold tdTurn
  rw [List.take_add_one, h, List.foldl_append]
  rfl
theorem td_test {t : Tie} {c : Int} {fs : List Int} : (decide (c ∈ [t.2.1, t.2.2]) && !decide (oth t c ∈ fs)) = decide (endOf t c ∧ ¬ oth t c ∈ fs) := by
  rw [show decide (c ∈ [t.2.1, t.2.2]) = decide (endOf t c) from decide_eq_decide.mpr (by simp [endOf])]
  by_cases h1 : endOf t c
  · by_cases h2 : oth t c ∈ fs
    · simp [h1, h2]
    · simp [h1, h2]
  · simp [h1]
def hereA (p : Int) (R : List Fnd) : Nat → Int
  | 0 => p
  | j + 1 => ((R[j]?).map fun y => y.1).getD 0
theorem fw_at : ∀ {R : List Fnd} {p q : Int}, FwC p R q → (∀ j y, R[j]? = some y → y.2.2 = hereA p R j) ∧ hereA p R R.length = q
  | [], p, q, h => ⟨fun j y hy => by simp at hy, h⟩
  | y :: R, p, q, h => by
    obtain ⟨h1, h2⟩ := fw_at h.2
    refine ⟨fun j z hz => ?_, ?_⟩
    · cases j with
      | zero =>
        cases hz
        exact h.1
      | succ j =>
        have hz : R[j]? = some z := hz
        rw [h1 j z hz]
        cases j with
        | zero => rfl
        | succ j => rfl
    · rw [← h2, List.length_cons]
      cases R with
      | nil => rfl
      | cons z R => rfl

theorem cells_loneT {C : List Int} : LoneT (ol (C.map .int)) := .nd fun t ht => by
  obtain ⟨d, hd, rfl⟩ := List.mem_map.mp ht
  obtain ⟨i, _, rfl⟩ := List.mem_map.mp hd
  exact .sh (.fl rfl)
theorem prD_tup {p : KeyM × Int} : TupD (prD p) := .tup fun d hd => by
  simp only [List.mem_cons, List.not_mem_nil, or_false] at hd
  rcases hd with rfl | rfl
  · exact .fl (Option.isSome_iff_exists.mp (kd_flat _)).choose_spec
  · exact .fl rfl
theorem prs_loneT {L : Lod} : LoneT (ol (L.map prD)) := .nd fun t ht => by
  obtain ⟨d, hd, rfl⟩ := List.mem_map.mp ht
  obtain ⟨p, _, rfl⟩ := List.mem_map.mp hd
  exact .sh prD_tup
theorem stp_zero {salt part m v : Int} {C : List Int} {k : KeyM} (h : 2 ≤ m) (hv : 0 ≤ v ∧ v < m) : stepM salt part m C k v = 0 ↔ telK salt part m C k = v := by
  have ht := telC_in (C := C) (m := m) (a := plA salt part k) (b := plB salt part k) (by omega)
  have z := step_tel (t := telK salt part m C k) hv (C.getD (plA salt part k).toNat 0 + C.getD (plB salt part k).toNat 0) rfl
  constructor
  · intro h0
    have h0 : (v - telK salt part m C k) % m = 0 := h0
    rw [h0, Int.add_zero] at z
    exact z
  · intro e
    unfold stepM
    rw [e, Int.sub_self, Int.zero_emod]
theorem putS_none {salt part m v : Int} {C : List Int} {L : Lod} {k : KeyM} (h : 2 ≤ m) (hv : 0 ≤ v ∧ v < m) : putS salt part m C L k v = none ↔ (plB salt part k ∈ plF (onesM salt part L k) ∧ telK salt part m C k ≠ v) := by
  have hz := stp_zero (salt := salt) (part := part) (C := C) (k := k) h hv
  unfold putS
  by_cases h0 : stepM salt part m C k v = 0
  · rw [if_pos h0]
    exact ⟨fun e => (by cases e), fun e => absurd (hz.mp h0) e.2⟩
  · rw [if_neg h0]
    by_cases h1 : plB salt part k ∈ plF (onesM salt part L k)
    · rw [if_pos h1]
      exact ⟨fun _ => ⟨h1, fun e => h0 (hz.mpr e)⟩, fun _ => rfl⟩
    · rw [if_neg h1]
      refine ⟨fun e => ?_, fun e => absurd e.1 h1⟩
      split at e <;> cases e

/-! which numbers were changed -/
def chgL (C C' : List Int) : List Int := ((List.range C.length).filter fun i => !decide (C.getD i 0 = C'.getD i 0)).map fun (i : Nat) => (i : Int)
theorem chgL_pw {C C' : List Int} : (chgL C C').Pairwise (· ≤ ·) := by
  unfold chgL
  rw [List.pairwise_map]
  exact ((List.pairwise_lt_range (n := C.length)).filter _).imp fun h => by omega
theorem chgL_nd {C C' : List Int} : (chgL C C').Nodup := by
  unfold chgL List.Nodup
  rw [List.pairwise_map]
  exact ((List.pairwise_lt_range (n := C.length)).filter _).imp fun h => by omega
theorem chgL_mem {C C' : List Int} {p : Int} : p ∈ chgL C C' ↔ (0 ≤ p ∧ p < C.length) ∧ C.getD p.toNat 0 ≠ C'.getD p.toNat 0 := by
  unfold chgL
  rw [List.mem_map]
  constructor
  · rintro ⟨i, hi, rfl⟩
    rw [List.mem_filter, List.mem_range] at hi
    rw [Int.toNat_natCast]
    exact ⟨by omega, by simpa using hi.2⟩
  · rintro ⟨⟨h1, h2⟩, h3⟩
    refine ⟨p.toNat, ?_, by omega⟩
    rw [List.mem_filter, List.mem_range]
    exact ⟨by omega, by simpa using h3⟩
theorem shV_ne {part m s step p c : Int} (hc : 0 ≤ c ∧ c < m) (hs : 0 < step ∧ step < m) : shV part m s step p c ≠ c := by
  unfold shV
  split
  · intro e
    by_cases h : c + step < m
    · rw [Int.emod_eq_of_lt (by omega) h] at e
      omega
    · rw [show c + step = (c + step - m) + m * 1 by omega, Int.add_mul_emod_self_left, Int.emod_eq_of_lt (by omega) (by omega)] at e
      omega
  · intro e
    by_cases h : 0 ≤ c - step
    · rw [Int.emod_eq_of_lt h (by omega)] at e
      omega
    · rw [show c - step = (c - step + m) + m * (-1) by omega, Int.add_mul_emod_self_left, Int.emod_eq_of_lt (by omega) (by omega)] at e
      omega
theorem chg_shift {part m s step : Int} {ks C : List Int} (nd : ks.Nodup) (hin : ∀ p ∈ ks, 0 ≤ p ∧ p < C.length) (hC : ∀ x ∈ C, 0 ≤ x ∧ x < m) (hs : 0 < step ∧ step < m) : (chgL C (shiftM part m s step ks C)).Perm ks := by
  refine (List.perm_ext_iff_of_nodup chgL_nd nd).mpr fun p => ?_
  rw [chgL_mem]
  constructor
  · rintro ⟨h1, h2⟩
    rw [shiftM_at ks C nd hin p h1.1] at h2
    by_cases h : p ∈ ks
    · exact h
    · rw [if_neg h] at h2
      exact absurd rfl h2
  · intro hp
    have h1 := hin p hp
    refine ⟨h1, ?_⟩
    rw [shiftM_at ks C nd hin p h1.1, if_pos hp]
    exact Ne.symm (shV_ne (hC _ (mem_getD (by omega))) hs)
theorem sortI_perm2 {xs ys : List Int} (h : xs.Perm ys) (hp : xs.Pairwise (· ≤ ·)) : xs = sortI ys := sortI_uniq h hp
theorem chg_same {C : List Int} : chgL C C = [] := by
  unfold chgL
  simp
/-- what a put changes -/
theorem put_chg {salt part m v ch : Int} {C C' : List Int} {L : Lod} {k : KeyM} (h : LvOk part salt m C L) (hk : okK k = true) (hv : 0 ≤ v ∧ v < m) (h0 : stepM salt part m C k v ≠ 0) (hp : putS salt part m C L k v = some (C', ch)) :
    C'.length = C.length ∧ (chgL C C').length = ch ∧ ch = min ((tiedM (tiesW salt part L (stampK k)) (plA salt part k)).length : Int) (tiedM (tiesW salt part L (stampK k)) (plB salt part k)).length ∧ (chgL C C' = sortI (tiedM (tiesW salt part L (stampK k)) (plA salt part k)) ∨ chgL C C' = sortI (tiedM (tiesW salt part L (stampK k)) (plB salt part k))) := by
  have hm := h.m1
  have hA := plA_in (salt := salt) k h.p1
  have hB := plB_in (salt := salt) k h.p1
  have hs : 0 < stepM salt part m C k v ∧ stepM salt part m C k v < m := by
    have z1 := Int.emod_nonneg (v - telK salt part m C k) (show m ≠ 0 by omega)
    have z2 := Int.emod_lt_of_pos (v - telK salt part m C k) (show 0 < m by omega)
    unfold stepM at h0 ⊢
    omega
  have l1 : ((tiedM (tiesW salt part L (stampK k)) (plA salt part k)).length) = (onesM salt part L k).length := by
    rw [(tied_perm _ _ (stampK k)).length_eq, plF, List.length_map]
    rfl
  have l2 : ((tiedM (tiesW salt part L (stampK k)) (plB salt part k)).length) = (othersM salt part L k).length := by
    rw [(tied_perm _ _ (stampK k)).length_eq, plF, List.length_map]
    rfl
  unfold putS at hp
  rw [if_neg h0] at hp
  by_cases h1 : plB salt part k ∈ plF (onesM salt part L k)
  · rw [if_pos h1] at hp
    cases hp
  rw [if_neg h1] at hp
  rw [l1, l2]
  by_cases h2 : ((othersM salt part L k).length : Int) < (onesM salt part L k).length
  · rw [if_pos h2] at hp
    cases hp
    have hin := h.pin (s := plB salt part k) (w := stampK k) (by omega)
    have z := chg_shift (part := part) (s := plB salt part k) (reach_nd _ _ _) hin h.cin hs
    refine ⟨shiftM_len _ _, ?_, rfl, .inr (sortI_perm2 (z.trans (tied_perm _ _ _).symm) chgL_pw)⟩
    have e := z.length_eq
    rw [plF, List.length_map] at e
    have e : (chgL C (shiftM part m (plB salt part k) (stepM salt part m C k v) (plF (othersM salt part L k)) C)).length = (othersM salt part L k).length := e
    rw [e]
    omega
  · rw [if_neg h2] at hp
    cases hp
    have hin := h.pin (s := plA salt part k) (w := stampK k) (by omega)
    have z := chg_shift (part := part) (s := plA salt part k) (reach_nd _ _ _) hin h.cin hs
    refine ⟨shiftM_len _ _, ?_, rfl, .inl (sortI_perm2 (z.trans (tied_perm _ _ _).symm) chgL_pw)⟩
    have e := z.length_eq
    rw [plF, List.length_map] at e
    have e : (chgL C (shiftM part m (plA salt part k) (stepM salt part m C k v) (plF (onesM salt part L k)) C)).length = (onesM salt part L k).length := e
    rw [e]
    omega
theorem enum_ints {C : List Int} : enumD (C.map Da.int) = (List.range C.length).map fun (i : Nat) => .tup [.int (i : Int), .int (C.getD i 0)] := by
  unfold enumD
  rw [List.length_map]
  refine List.map_congr_left fun i hi => ?_
  rw [List.mem_range] at hi
  congr 3
  rw [List.getD, List.getElem?_map, List.getElem?_eq_getElem hi, List.getD, List.getElem?_eq_getElem hi]
  rfl

/-! ## all tables -/
def allT (m : Int) : Nat → List (List Int)
  | 0 => [[]]
  | n + 1 => (allT m n).flatMap fun t => (List.range m.toNat).map fun (x : Nat) => t ++ [(x : Int)]
theorem allT_len (m : Int) : ∀ n, (allT m n).length = m.toNat ^ n
  | 0 => rfl
  | n + 1 => by
    have key : ∀ l : List (List Int), (l.flatMap fun t => (List.range m.toNat).map fun (x : Nat) => t ++ [(x : Int)]).length = l.length * m.toNat := by
      intro l
      induction l with
      | nil => simp
      | cons a r ih => rw [List.flatMap_cons, List.length_append, ih, List.length_map, List.length_range, List.length_cons, Nat.succ_mul, Nat.add_comm]
    rw [allT, key, allT_len m n, Nat.pow_succ]
theorem allT_mem {m : Int} (hm : 1 ≤ m) : ∀ {n : Nat} {T : List Int}, T ∈ allT m n ↔ T.length = n ∧ ∀ x ∈ T, 0 ≤ x ∧ x < m
  | 0, T => by
    unfold allT
    rw [List.mem_singleton]
    constructor
    · rintro rfl
      exact ⟨rfl, fun x hx => by cases hx⟩
    · rintro ⟨h, _⟩
      exact List.eq_nil_of_length_eq_zero h
  | n + 1, T => by
    rw [allT, List.mem_flatMap]
    constructor
    · rintro ⟨t, ht, hT⟩
      obtain ⟨x, hx, rfl⟩ := List.mem_map.mp hT
      rw [List.mem_range] at hx
      obtain ⟨h1, h2⟩ := (allT_mem hm).mp ht
      refine ⟨by simp [h1], fun y hy => ?_⟩
      rcases List.mem_append.mp hy with hy | hy
      · exact h2 y hy
      · rw [List.mem_singleton.mp hy]
        omega
    · rintro ⟨h1, h2⟩
      have hne : T ≠ [] := fun e => by rw [e] at h1; cases h1
      have hl := h2 (T.getLast hne) (List.getLast_mem hne)
      refine ⟨T.dropLast, (allT_mem hm).mpr ⟨by rw [List.length_dropLast]; omega, fun x hx => h2 x (List.dropLast_subset T hx)⟩, List.mem_map.mpr ⟨(T.getLast hne).toNat, List.mem_range.mpr (by omega), ?_⟩⟩
      rw [Int.toNat_of_nonneg hl.1]
      exact List.dropLast_concat_getLast hne
abbrev wtD (w : Int × Int × Int) : Da := .tup [.int w.1, .int w.2.1, .int w.2.2]
def wtB (m : Int) (T : List Int) (w : Int × Int × Int) : Bool := decide (telC T m w.1 w.2.1 = w.2.2)
def wantL (salt part : Int) (L : Lod) : List (Int × Int × Int) := L.map fun p => (plA salt part p.1, plB salt part p.1, p.2)
def foundL (m : Int) (n : Nat) (C : List Int) (W : List (Int × Int × Int)) : List Int := ((allT m n).filter fun T => W.all (wtB m T)).map fun T => ((chgL C T).length : Int)
def dueD (xs : List Int) : Da := if xs.isEmpty = true then .str "stuck" else .int (minI xs)
theorem sub_mod {x y m : Int} (h : (x - y) % m = 0) : x % m = y % m := Int.emod_eq_emod_iff_emod_sub_eq_zero.mpr h
theorem mod_sub' {x y m : Int} (h : x % m = y % m) : (x - y) % m = 0 := Int.emod_eq_emod_iff_emod_sub_eq_zero.mp h
def sgT (part : Int) (C T : List Int) (p : Int) : Int := if p < part then T.getD p.toNat 0 - C.getD p.toNat 0 else C.getD p.toNat 0 - T.getD p.toNat 0
section
variable {salt part m v ch : Int} {C C' T : List Int} {L : Lod} {k : KeyM}
theorem sg_diff {a b : Int} (ha : a < part) (hb : part ≤ b) : sgT part C T a - sgT part C T b = (T.getD a.toNat 0 + T.getD b.toNat 0) - (C.getD a.toNat 0 + C.getD b.toNat 0) := by
  unfold sgT
  rw [if_pos ha, if_neg (by omega)]
  omega
/-- a table that tells all kept ones differs alike at all tied places -/
theorem sg_const (h : LvOk part salt m C L) (hk : okK k = true) (hT : ∀ p ∈ L, p.1 ≠ k → telK salt part m T p.1 = p.2) {s : Int} : ∀ p ∈ plF (reachM (tiesW salt part L (stampK k)) s (stampK k)), sgT part C T p % m = sgT part C T s % m := by
  refine reach_min (P := fun p => sgT part C T p % m = sgT part C T s % m) rfl fun t ht p he hp => ?_
  obtain ⟨q, hq, hne, rfl⟩ := ties_of ht
  have hA := plA_in (salt := salt) q.1 h.p1
  have hB := plB_in (salt := salt) q.1 h.p1
  have e1 := h.tl q hq
  have e2 := hT q hq fun e => hne (by rw [e])
  have e3 : (T.getD (plA salt part q.1).toNat 0 + T.getD (plB salt part q.1).toNat 0) % m = (C.getD (plA salt part q.1).toNat 0 + C.getD (plB salt part q.1).toNat 0) % m := e2.trans e1.symm
  have e4 : sgT part C T (plA salt part q.1) % m = sgT part C T (plB salt part q.1) % m := sub_mod (by rw [sg_diff hA.2 hB.1]; exact mod_sub' e3)
  show sgT part C T (oth (tieOf salt part q.1) p) % m = _
  rw [← hp]
  unfold endOf tieOf at he
  unfold oth tieOf
  dsimp only at he ⊢
  rcases he with rfl | rfl
  · rw [show plA salt part q.1 + plB salt part q.1 - plA salt part q.1 = plB salt part q.1 by omega]
    exact e4.symm
  · rw [show plA salt part q.1 + plB salt part q.1 - plB salt part q.1 = plA salt part q.1 by omega]
    exact e4
theorem tel_of_sg (ha : 1 ≤ part) (e : sgT part C T (plA salt part k) % m = sgT part C T (plB salt part k) % m) : telK salt part m T k = telK salt part m C k := by
  have hA := plA_in (salt := salt) k ha
  have hB := plB_in (salt := salt) k ha
  have z := mod_sub' e
  rw [sg_diff hA.2 hB.1] at z
  exact sub_mod z
theorem want_all : ((wantL salt part L).all (wtB m T)) = true ↔ ∀ p ∈ L, telK salt part m T p.1 = p.2 := by
  unfold wantL
  rw [List.all_map, List.all_eq_true]
  exact ⟨fun h p hp => of_decide_eq_true (h p hp), fun h p hp => decide_eq_true (h p hp)⟩
theorem chg_all {ks : List Int} (nd : ks.Nodup) (hin : ∀ p ∈ ks, 0 ≤ p ∧ p < C.length) (hne : ∀ p ∈ ks, C.getD p.toNat 0 ≠ T.getD p.toNat 0) : ks.length ≤ (chgL C T).length := nd_len nd fun p hp => chgL_mem.mpr ⟨hin p hp, hne p hp⟩
theorem sg_zero {p : Int} (h : C.getD p.toNat 0 = T.getD p.toNat 0) : sgT part C T p % m = 0 := by
  unfold sgT
  rw [h]
  split <;> simp
/-- the fewest numbers that any table changes -/
theorem due_is (h : LvOk part salt m C L) (hk : okK k = true) (hv : 0 ≤ v ∧ v < m) (hl : L.length < 1000) : dueD (foundL m (2 * part).toNat C (wantL salt part (putL L k v))) = (putR salt part m C L k v).2.2 := by
  have hm := h.m1
  have hlen := h.len
  have hA := plA_in (salt := salt) k h.p1
  have hB := plB_in (salt := salt) k h.p1
  have hz := stp_zero (salt := salt) (part := part) (C := C) (k := k) hm hv
  have hnone := putS_none (salt := salt) (part := part) (C := C) (L := L) (k := k) hm hv
  have htell : ∀ T, (wantL salt part (putL L k v)).all (wtB m T) = true → telK salt part m T k = v ∧ ∀ p ∈ L, p.1 ≠ k → telK salt part m T p.1 = p.2 := fun T hT => by
    have z := want_all.mp hT
    exact ⟨z (k, v) (putL_mem.mpr (.inl rfl)), fun p hp hne => z p (putL_mem.mpr (.inr ⟨hp, hne⟩))⟩
  have hmem : ∀ x, x ∈ foundL m (2 * part).toNat C (wantL salt part (putL L k v)) ↔ ∃ T, (T.length = (2 * part).toNat ∧ ∀ y ∈ T, 0 ≤ y ∧ y < m) ∧ (wantL salt part (putL L k v)).all (wtB m T) = true ∧ ((chgL C T).length : Int) = x := fun x => by
    unfold foundL
    rw [List.mem_map]
    constructor
    · rintro ⟨T, hT, e⟩
      rw [List.mem_filter] at hT
      exact ⟨T, (allT_mem (by omega)).mp hT.1, hT.2, e⟩
    · rintro ⟨T, h1, h2, e⟩
      exact ⟨T, List.mem_filter.mpr ⟨(allT_mem (by omega)).mpr h1, h2⟩, e⟩
  cases hp : putS salt part m C L k v with
  | none =>
    rw [putR_none hp]
    obtain ⟨z1, z2⟩ := hnone.mp hp
    have he : foundL m (2 * part).toNat C (wantL salt part (putL L k v)) = [] := List.eq_nil_iff_forall_not_mem.mpr fun x hx => by
      obtain ⟨T, _, h2, _⟩ := (hmem x).mp hx
      obtain ⟨e1, e2⟩ := htell T h2
      have z := sg_const h hk e2 _ z1
      exact z2 ((tel_of_sg h.p1 z.symm).symm.trans e1)
    rw [he]
    rfl
  | some cc =>
    obtain ⟨C', ch⟩ := cc
    rw [putR_some hp]
    have h' := put_ok h hk hv hl hp
    have hch : ((chgL C C').length : Int) = ch := by
      by_cases h0 : stepM salt part m C k v = 0
      · unfold putS at hp
        rw [if_pos h0] at hp
        cases hp
        rw [chg_same]
        rfl
      · exact (put_chg h hk hv h0 hp).2.1
    have hin : ch ∈ foundL m (2 * part).toNat C (wantL salt part (putL L k v)) := (hmem ch).mpr ⟨C', ⟨by have := h'.len; omega, h'.cin⟩, want_all.mpr fun p hp => h'.tl p hp, hch⟩
    have hpos : 0 < (foundL m (2 * part).toNat C (wantL salt part (putL L k v))).length := List.length_pos_of_mem hin
    have hge : ∀ x ∈ foundL m (2 * part).toNat C (wantL salt part (putL L k v)), ch ≤ x := fun x hx => by
      obtain ⟨T, h1, h2, rfl⟩ := (hmem x).mp hx
      obtain ⟨e1, e2⟩ := htell T h2
      by_cases h0 : stepM salt part m C k v = 0
      · unfold putS at hp
        rw [if_pos h0] at hp
        cases hp
        omega
      have hne : telK salt part m C k ≠ v := fun e => h0 (hz.mpr e)
      have hb : ¬ plB salt part k ∈ plF (onesM salt part L k) := fun z => by
        rw [hnone.mpr ⟨z, hne⟩] at hp
        cases hp
      have hmin : ch = min ((onesM salt part L k).length : Int) (othersM salt part L k).length := by
        unfold putS at hp
        rw [if_neg h0, if_neg hb] at hp
        split at hp <;> cases hp <;> rfl
      by_cases ha : sgT part C T (plA salt part k) % m = 0
      · have hb2 : sgT part C T (plB salt part k) % m ≠ 0 := fun e => hne ((tel_of_sg h.p1 (ha.trans e.symm)).symm.trans e1)
        have z := chg_all (C := C) (T := T) (reach_nd (tiesW salt part L (stampK k)) (plB salt part k) (stampK k)) (h.pin (by omega)) fun p hp e => hb2 (by rw [← sg_const h hk e2 p hp]; exact sg_zero e)
        rw [plF, List.length_map] at z
        have z : (othersM salt part L k).length ≤ (chgL C T).length := z
        omega
      · have z := chg_all (C := C) (T := T) (reach_nd (tiesW salt part L (stampK k)) (plA salt part k) (stampK k)) (h.pin (by omega)) fun p hp e => ha (by rw [← sg_const h hk e2 p hp]; exact sg_zero e)
        rw [plF, List.length_map] at z
        have z : (onesM salt part L k).length ≤ (chgL C T).length := z
        omega
    obtain ⟨m1, m2⟩ := minI_is hpos
    have e : minI (foundL m (2 * part).toNat C (wantL salt part (putL L k v))) = ch := by
      have a1 := m2 ch hin
      have a2 := hge _ m1
      omega
    unfold dueD
    rw [if_neg (fun z => by rw [List.isEmpty_iff.mp z] at hpos; exact absurd hpos (by decide)), e]
end
theorem flat_takeT {l : List (List Int)} {f : List Int → List (List Int)} {i : Nat} {x : List Int} (h : l[i]? = some x) : (l.take (i + 1)).flatMap f = (l.take i).flatMap f ++ f x := by
  rw [List.take_add_one, h, List.flatMap_append]
  simp
inductive R_l_all_tables : Rel
  | c1 {m : Int} {n : Nat} (h : (1 ≤ m ∧ m ≤ 100) ∧ n ≤ 100 ∧ m.toNat ^ n ≤ 1000) : R_l_all_tables [.int (n : Int), .int m] (.ret (.sh (.nd .lst ((allT m n).map dInts))))
local macro_rules | `(tactic| walk_at "Y.call") => `(tactic| ((with_reducible apply R_l_all_tables.c1); (· walk_at "Y.side")))
theorem ok_l_all_tables {P : Program} {w : World} {K : PySem.W.Frag} {mg : Str → Option Value} {base : Heap} (T : Txt K mg) : FnOk P w K mg base (L2.CX P w) 1 T.d_l_all_tables.f T.d_l_all_tables.fd ["_law_places_here", "_law_modulus"] (SpD K R_l_all_tables) := by
  refine T.d_l_all_tables.F.ok sc_l_all_tables (fun vs H Q E h => spd_len (R := R_l_all_tables) (fun ds o r => by cases r <;> rfl) h) (fun cdv A outer s H vs Q E hr h => ?_)
  obtain ⟨ds, o, S, r, hd, hS, hq⟩ := h
  have hu := hu_of hr
  refine ⟨_, (pss_cons (ps_set (i := 2) sc_l_all_tables.nd rfl (Or.inl rfl) (pe_lst (pa_cons (pe_lst pa_nil) pa_nil)))
  (pss_cons (ps_for (passes_of rfl) rfl (pi_range1 (by rfl) T.z_range (pa_cons (pv 0) pa_nil)) (pg_name (i := 3) sc_l_all_tables.nd rfl (Or.inl rfl))
  (pss_cons (ps_set (i := 4) sc_l_all_tables.nd rfl (Or.inl rfl) (pe_lst pa_nil))
  (pss_cons (ps_for (passes_of rfl) rfl (pi_list (pv 2)) (pg_name (i := 5) sc_l_all_tables.nd rfl (Or.inr rfl))
  (pss_one (ps_set (i := 4) sc_l_all_tables.nd rfl (Or.inl rfl) (pe_op (r := rCat) op_cat (pv 4) (pe_lc (own := [("_law_number", 6)]) (g := gName 6) (tt := tYes) rfl sc_l_all_tables.nd (pi_range1 (by rfl) T.z_range (pa_cons (pv 1) pa_nil)) (blkOk_by (N := ["_law_places_here", "_law_modulus", "_law_found", "_law_k", "_law_more", "_law_table", "_law_number"]) (sc := defScope s_l_all_tables) (by decide +kernel)) (fun _ _ _ _ _ => pg_name (i := 6) sc_l_all_tables.nd rfl (Or.inl rfl)) (fun _ _ _ _ _ => pts_nil) (fun _ _ _ _ _ => (pe_op (r := rCat) op_cat (pv 5) (pe_lst (pa_cons (pv 6) pa_nil)))))))))
  (pss_one (ps_set (i := 2) sc_l_all_tables.nd rfl (Or.inl rfl) (pv 4))))))
  (pss_one (ps_ret (pv 2))))), ?_⟩
  clear hr hu
  cases r with
  | @c1 m n h =>
    have q := hq.ret
    refine body_gd (n := 5) hd hS rfl ?_
    show Gd _ _ _ [some (.sh (.int (n : Int))), some (.sh (.int m)), none, none, none, none, none]
    clear hq hd
    try dsimp only [cxOf]
    obtain ⟨⟨hm, hm2⟩, hn, hp⟩ := h
    have hsl := sizeLine_eq
    refine q_asg (d := .nd .lst ((allT m 0).map dInts)) (es_is (d := .lst [.lst []]) (eo_freeze (eo_lst (ds := [.lst []]) (eas_cons (eo_freeze (eo_lst eas_nil (by simp)) (ol_flat _ _)) eas_nil) (by simp only [List.length_cons, List.length_nil]; omega)) (ol_flat _ _)) rfl) ?_
    walk_at "Y.rho"
    refine q_forR (n := (n : Int)) (by walk_at "Y.eab") (by omega) (by omega) (fun i ρ => ∃ x3 x4 x5, ρ = [some (.sh (.int (n : Int))), some (.sh (.int m)), some (.sh (.nd .lst ((allT m i).map dInts))), x3, x4, x5, none]) ⟨_, _, _, rfl⟩ ?_ ?_
    · rintro S1 lb i ρ' hi ⟨x3, x4, x5, rfl⟩
      walk_at "Y.rho"
      have hpow : ∀ j, j ≤ n → (allT m j).length ≤ 1000 := fun j hj => by
        rw [allT_len]
        exact Nat.le_trans (Nat.pow_le_pow_right (by omega) hj) hp
      have hl1 := hpow i (by omega)
      have hl2 := hpow (i + 1) (by omega)
      have hstep : ∀ j, ((((allT m i).take j).flatMap fun t => (List.range m.toNat).map fun (x : Nat) => t ++ [(x : Int)]).length) ≤ 1000 := fun j => by
        refine Nat.le_trans ?_ hl2
        rw [allT, ← List.take_append_drop j (allT m i), List.flatMap_append, List.length_append]
        rw [List.take_append_drop]
        exact Nat.le_add_right _ _
      refine q_asg (d := .nd .lst ((((allT m i).take 0).flatMap fun t => (List.range m.toNat).map fun (x : Nat) => t ++ [(x : Int)]).map dInts)) (es_is (d := .lst []) (eo_freeze (eo_lst eas_nil (by simp)) (ol_flat _ _)) rfl) ?_
      walk_at "Y.rho"
      have hTl : ∀ t ∈ allT m i, t.length = i := fun t ht => ((allT_mem hm).mp ht).1
      refine q_forM (f := dInts) (xs := allT m i) (ej_list (by walk_at "Y.es") (.inl rfl)) (fun j ρ => ∃ x5, ρ = [some (.sh (.int (n : Int))), some (.sh (.int m)), some (.sh (.nd .lst ((allT m i).map dInts))), some (.sh (.int (i : Int))), some (.sh (.nd .lst ((((allT m i).take j).flatMap fun t => (List.range m.toNat).map fun (x : Nat) => t ++ [(x : Int)]).map dInts))), x5, none]) ⟨_, rfl⟩ ?_ ?_
      · rintro S2 lb2 j t ρ' ht ⟨x5, rfl⟩
        walk_at "Y.rho"
        have hnx := flat_takeT (f := fun t => (List.range m.toNat).map fun (x : Nat) => t ++ [(x : Int)]) ht
        have hsj := hstep j
        have htl := hTl t (List.mem_of_getElem? ht)
        generalize ((allT m i).take j).flatMap (fun t => (List.range m.toNat).map fun (x : Nat) => t ++ [(x : Int)]) = ac at *
        walk_at "Y.last"
        refine q_asg (d := .nd .lst ((ac ++ (List.range m.toNat).map fun (x : Nat) => t ++ [(x : Int)]).map dInts)) (es_is (eo_freeze (eo_cat (er_es (es_var rfl)) (er_ol (eo_lcR (n := m) (fun (x : Nat) => dInts (t ++ [(x : Int)])) (by walk_at "Y.eab") (by omega) (by omega) (by decide) (fun x hx => ?_))) (by rw [List.length_map, List.length_map, List.length_range]; omega)) (ol_flat _ _)) (by rw [List.map_append, List.map_map]; rfl)) ?_
        · refine es_is (eo_freeze (eo_cat (er_es (es_var (d := dInts t) rfl)) (er_ol (eo_lst (ds := [.int (x : Int)]) (by walk_at "Y.eas") (by simp only [List.length_cons, List.length_nil]; omega))) (by rw [List.length_map]; simp only [List.length_cons, List.length_nil]; omega)) (ol_flat _ _)) ?_
          show Da.nd .lst (t.map Da.int ++ [Da.int (x : Int)]) = dInts (t ++ [(x : Int)])
          unfold dInts
          rw [List.map_append]
          rfl
        walk_at "Y.rho"
        walk_at "Y.nx"
        refine ⟨some (.sh (dInts t)), ?_⟩
        rw [hnx]
      · rintro ρ' ⟨x5, rfl⟩
        rw [List.take_length]
        walk_at "Y.last"
        walk_at "Y.q"
        walk_at "Y.nx"
        exact ⟨_, _, _, rfl⟩
    · rintro ρ' ⟨x3, x4, x5, rfl⟩
      walk_at "Y.ret"
inductive R_l_apart : Rel
  | c1 {C T : List Int} (h : T.length = C.length ∧ C.length ≤ 1000) : R_l_apart [.nd .lst (C.map .int), .nd .lst (T.map .int)] (.ret (.sh (.int ((chgL C T).length : Nat))))
local macro_rules | `(tactic| walk_at "Y.call") => `(tactic| ((with_reducible apply R_l_apart.c1); (· walk_at "Y.side")))
theorem ok_l_apart {P : Program} {w : World} {K : PySem.W.Frag} {mg : Str → Option Value} {base : Heap} (T : Txt K mg) : FnOk P w K mg base (L2.CX P w) 1 T.d_l_apart.f T.d_l_apart.fd ["_law_one", "_law_other"] (SpD K R_l_apart) := by
  refine T.d_l_apart.F.ok sc_l_apart (fun vs H Q E h => spd_len (R := R_l_apart) (fun ds o r => by cases r <;> rfl) h) (fun cdv A outer s H vs Q E hr h => ?_)
  obtain ⟨ds, o, S, r, hd, hS, hq⟩ := h
  have hu := hu_of hr
  refine ⟨_, (pss_one (ps_ret (pe_callB (r := rLenA K) call_lenA (by rfl) T.z_len (by decide +kernel) (pa_cons (pe_lc (own := [("_law_k", 2), ("_law_number", 3)]) (g := gTup K 2 (gCons (gName 2) (gCons (gName 3) (gNil)))) rfl sc_l_apart.nd (pi_enum (by rfl) T.z_enumerate (pa_cons (pv 0) pa_nil)) (blkOk_by (N := ["_law_one", "_law_other", "_law_k", "_law_number"]) (sc := defScope s_l_apart) (by decide +kernel)) (fun _ _ _ _ _ => (pg_tup rfl (pgs_cons (pg_name (i := 2) sc_l_apart.nd rfl (Or.inl rfl)) (pgs_cons (pg_name (i := 3) sc_l_apart.nd rfl (Or.inl rfl)) pgs_nil)))) (fun _ _ _ _ _ => pts_one (pt_cmpR (r := rNeA K) (op_neA hr.units) (pv 3) (pe_ix (r := rIxA K) (ix_A hu) (pv 1) (pv 2) (fun _ _ => rfl)) (nomark _))) (fun _ _ _ _ _ => (pv 2))) pa_nil)))), ?_⟩
  clear hr hu
  cases r with
  | @c1 C T h =>
    have q := hq.ret
    refine body_gd (n := 2) hd hS rfl ?_
    show Gd _ _ _ [some (.sh (.nd .lst (C.map .int))), some (.sh (.nd .lst (T.map .int))), none, none]
    clear hq hd
    try dsimp only [cxOf]
    obtain ⟨h1, h2⟩ := h
    have hsl := sizeLine_eq
    have hj := ej_enum (B := ⟨K, S, H⟩) (ρ := [some (.sh (.nd .lst (C.map .int))), some (.sh (.nd .lst (T.map .int))), none, none]) (ds := C.map .int) (ts := tCons (tVar 0) tNil) (eas_cons (es_var rfl) eas_nil)
    rw [enum_ints] at hj
    refine s_retS q (es_flat (eb_is (eb_cb (eab_cons (eb_of (eo_is (u := ol ((chgL C T).map .int)) (eo_lc (f := fun (i : Nat) => Da.tup [.int (i : Int), .int (C.getD i 0)]) (xs := List.range C.length) (fun i => !decide (C.getD i 0 = T.getD i 0)) (fun (i : Nat) => Tr.sh (.int (i : Int))) hj (by rw [List.length_range]; omega) (fun i hi => ?_)) (by unfold chgL; rw [ol, List.map_map, List.map_map]; rfl)) (ol_flat _ _)) eab_nil) o_lenL) (by rw [List.length_map])) rfl) rfl
    rw [List.mem_range] at hi
    have hat : atI (T.map Da.int) (i : Int) = some (.int (T.getD i 0)) := at_int (by omega) (by omega)
    exact ⟨_, gw_tup (gws_cons (gw_name (by decide)) (gws_cons (gw_name (by decide)) gws_nil)) rfl, et_is (b := !decide (C.getD i 0 = T.getD i 0)) (et_test (eb_op (eb_var rfl) (eb_ix (eb_var (d := .nd .lst (T.map .int)) rfl) (.inl rfl) (eb_var rfl) hat) o_neI)) rfl, fun hp => es_var rfl⟩
inductive R_l_tells_all : Rel
  | c1 {T : List Int} {W : List (Int × Int × Int)} {m : Int} (h : (1 ≤ m ∧ m ≤ 1000000000) ∧ ∀ w ∈ W, (0 ≤ w.1 ∧ w.1 < T.length) ∧ 0 ≤ w.2.1 ∧ w.2.1 < T.length) : R_l_tells_all [.nd .lst (T.map .int), .nd .lst (W.map wtD), .int m] (.ret (.sh (.bl (W.all (wtB m T)))))
local macro_rules | `(tactic| walk_at "Y.call") => `(tactic| ((with_reducible apply R_l_tells_all.c1); (· walk_at "Y.side")))
theorem ok_l_tells_all {P : Program} {w : World} {K : PySem.W.Frag} {mg : Str → Option Value} {base : Heap} (T : Txt K mg) : FnOk P w K mg base (L2.CX P w) 1 T.d_l_tells_all.f T.d_l_tells_all.fd ["_law_table", "_law_wanted", "_law_modulus"] (SpD K R_l_tells_all) := by
  refine T.d_l_tells_all.F.ok sc_l_tells_all (fun vs H Q E h => spd_len (R := R_l_tells_all) (fun ds o r => by cases r <;> rfl) h) (fun cdv A outer s H vs Q E hr h => ?_)
  obtain ⟨ds, o, S, r, hd, hS, hq⟩ := h
  have hu := hu_of hr
  refine ⟨_, (pss_cons (ps_for (passes_of rfl) rfl (pi_list (pv 1)) (pg_tup rfl (pgs_cons (pg_name (i := 3) sc_l_tells_all.nd rfl (Or.inl rfl)) (pgs_cons (pg_name (i := 4) sc_l_tells_all.nd rfl (Or.inl rfl)) (pgs_cons (pg_name (i := 5) sc_l_tells_all.nd rfl (Or.inl rfl)) pgs_nil))))
  (pss_one (ps_if (pt_cmpR (r := rNeA K) (op_neA hr.units) (pe_op op_mod (pe_op (r := rAddN) op_addN (pe_ix (r := rIxA K) (ix_A hu) (pv 0) (pv 3) (fun _ _ => rfl)) (pe_ix (r := rIxA K) (ix_A hu) (pv 0) (pv 4) (fun _ _ => rfl))) (pv 2)) (pv 5) (nomark _)) (pss_one (ps_ret pe_bl)) pss_nil)))
  (pss_one (ps_ret pe_bl))), ?_⟩
  clear hr hu
  cases r with
  | @c1 T W m h =>
    have q := hq.ret
    refine body_gd (n := 3) hd hS rfl ?_
    show Gd _ _ _ [some (.sh (.nd .lst (T.map .int))), some (.sh (.nd .lst (W.map wtD))), some (.sh (.int m)), none, none, none]
    clear hq hd
    try dsimp only [cxOf]
    obtain ⟨⟨hm, hm2⟩, hin⟩ := h
    refine q_for (ys := W.map wtD) (ej_list (by walk_at "Y.es") (.inl rfl)) (fun i ρ => ∃ x3 x4 x5, ρ = [some (.sh (.nd .lst (T.map .int))), some (.sh (.nd .lst (W.map wtD))), some (.sh (.int m)), x3, x4, x5] ∧ (W.take i).all (wtB m T) = true) ⟨_, _, _, rfl, rfl⟩ ?_ ?_
    · rintro S1 lb i d ρ' hd ⟨x3, x4, x5, rfl, hall⟩
      rw [List.getElem?_map] at hd
      obtain ⟨w, hw, rfl⟩ := Option.map_eq_some_iff.mp hd
      have hwm := List.mem_of_getElem? hw
      obtain ⟨h1, h2⟩ := hin w hwm
      have ha1 : atI (T.map Da.int) w.1 = some (.int (T.getD w.1.toNat 0)) := at_int h1.1 h1.2
      have ha2 : atI (T.map Da.int) w.2.1 = some (.int (T.getD w.2.1.toNat 0)) := at_int h2.1 h2.2
      refine ⟨_, gt_tup (gts_cons gt_name (gts_cons gt_name (gts_cons gt_name gts_nil))) rfl, ?_⟩
      walk_at "Y.rho"
      walk_at "Y.last"
      refine q_when (b := !decide (telC T m w.1 w.2.1 = w.2.2)) (et_is (et_test (eb_op (d := .int ((T.getD w.1.toNat 0 + T.getD w.2.1.toNat 0) % m)) (by walk_at "Y.eb") (by walk_at "Y.eb") o_neI)) rfl) ?_ ?_
      · intro hb
        have e : W.all (wtB m T) = false := by
          rw [List.all_eq_false]
          exact ⟨w, hwm, by unfold wtB; simpa using hb⟩
        rw [e] at q
        walk_at "Y.ret"
      · intro hb
        walk_at "Y.nx"
        refine ⟨_, _, _, rfl, ?_⟩
        rw [List.take_add_one, hw, List.all_append, hall]
        show (true && (wtB m T w && true)) = true
        unfold wtB
        simpa using hb
    · rintro ρ' ⟨x3, x4, x5, rfl, hall⟩
      rw [List.length_map, List.take_length] at hall
      rw [hall] at q
      walk_at "Y.ret"
inductive R_l_fewest : Rel
  | c1 {part salt m : Int} {C : List Int} {L : Lod} (h : ((1 ≤ part ∧ part ≤ 300) ∧ 0 ≤ salt ∧ salt ≤ 10000000000000) ∧ (1 ≤ m ∧ m ≤ 1000000000) ∧ ((C.length : Int) = 2 * part) ∧ ((∀ p ∈ L, okK p.1 = true) ∧ L.length ≤ 1000) ∧ (allT m (2 * part).toNat).length ≤ 1000) : R_l_fewest [.nd .lst ((allT m (2 * part).toNat).map dInts), .nd .lst (C.map .int), .nd (kpL L) (kpV L), szD part salt m] (.ret (.sh (dueD (foundL m (2 * part).toNat C (wantL salt part L)))))
local macro_rules | `(tactic| walk_at "Y.call") => `(tactic| ((with_reducible apply R_l_fewest.c1); (· walk_at "Y.side")))
theorem ok_l_fewest {P : Program} {w : World} {K : PySem.W.Frag} {mg : Str → Option Value} {base : Heap} (T : Txt K mg) : FnOk P w K mg base (L2.CX P w) 3 T.d_l_fewest.f T.d_l_fewest.fd ["_law_tables", "_law_before", "_law_kept", "_law_sizes_here"] (SpD K R_l_fewest) := by
  have G_l_places := ok_l_places (P := P) (w := w) (base := base) T
  have G_l_tells_all := ok_l_tells_all (P := P) (w := w) (base := base) T
  have G_l_apart := ok_l_apart (P := P) (w := w) (base := base) T
  refine T.d_l_fewest.F.ok sc_l_fewest (fun vs H Q E h => spd_len (R := R_l_fewest) (fun ds o r => by cases r <;> rfl) h) (fun cdv A outer s H vs Q E hr h => ?_)
  obtain ⟨ds, o, S, r, hd, hS, hq⟩ := h
  have hu := hu_of hr
  refine ⟨_, (pss_cons (ps_set (i := 4) sc_l_fewest.nd rfl (Or.inr rfl) (pe_lc (own := [("_law_key_here", 6), ("_law_value", 7)]) (g := gTup K 2 (gCons (gName 6) (gCons (gName 7) (gNil)))) (tt := tYes) rfl sc_l_fewest.nd (pi_items (pv 2)) (blkOk_by (N := ["_law_tables", "_law_before", "_law_kept", "_law_sizes_here", "_law_wanted", "_law_found", "_law_key_here", "_law_value", "_law_table"]) (sc := defScope s_l_fewest) (by decide +kernel)) (fun _ _ _ _ _ => (pg_tup rfl (pgs_cons (pg_name (i := 6) sc_l_fewest.nd rfl (Or.inl rfl)) (pgs_cons (pg_name (i := 7) sc_l_fewest.nd rfl (Or.inl rfl)) pgs_nil)))) (fun _ _ _ _ _ => pts_nil) (fun _ _ _ _ _ => (pe_op (r := L2.rCatA K) L2.op_catA (pe_call G_l_places (hr.mono (by decide)) (by rfl) T.g_l_places T.d_l_places.kp T.d_l_places.b .nil passL (pa_cons (pv 6) (pa_cons (pv 3) pa_nil))) (pe_tup (pa_cons (pv 7) pa_nil))))))
  (pss_cons (ps_setLc (i := 5) (own := [("_law_table", 8)]) (g := gName 8) rfl sc_l_fewest.nd rfl rfl (sw_true rfl rfl rfl (by decide +kernel)) (pi_list (pv 0)) (blkOk_by (N := ["_law_tables", "_law_before", "_law_kept", "_law_sizes_here", "_law_wanted", "_law_found", "_law_key_here", "_law_value", "_law_table"]) (sc := defScope s_l_fewest) (by decide +kernel)) (fun _ _ _ _ _ => pg_name (i := 8) sc_l_fewest.nd rfl (Or.inl rfl)) (fun _ _ _ _ _ => pts_one (pt_val (pe_call G_l_tells_all (hr.mono (by decide)) (by rfl) T.g_l_tells_all T.d_l_tells_all.kp T.d_l_tells_all.b .nil passL (pa_cons (pv 8) (pa_cons (pv 4) (pa_cons (pe_ix (r := rIxA K) (ix_A hu) (pv 3) pe_int (fun _ _ => rfl)) pa_nil)))))) (fun _ _ _ _ _ => (pe_call G_l_apart (hr.mono (by decide)) (by rfl) T.g_l_apart T.d_l_apart.kp T.d_l_apart.b .nil passL (pa_cons (pv 1) (pa_cons (pv 8) pa_nil)))))
  (pss_cons (ps_if (pt_cmpR (r := rEqA K) (op_eqA hr.units) (pv 5) (pe_lst pa_nil) (nomark _)) (pss_one (ps_ret pe_str)) pss_nil)
  (pss_one (ps_ret (pe_callB (r := rMinA K) (call_minA rfl) (by rfl) T.z_min (by decide +kernel) (pa_cons (pv 5) pa_nil))))))), ?_⟩
  clear hr hu
  cases r with
  | @c1 part salt m C L h =>
    have q := hq.ret
    refine body_gd (n := 5) hd hS rfl ?_
    show Gd _ _ _ [some (.sh (.nd .lst ((allT m (2 * part).toNat).map dInts))), some (.sh (.nd .lst (C.map .int))), some (.sh (.nd (kpL L) (kpV L))), some (.sh (szD part salt m)), none, none, none, none, none]
    clear hq hd
    try dsimp only [cxOf]
    obtain ⟨⟨⟨g1, g9⟩, g2, g3⟩, ⟨g4, g5⟩, g6, ⟨g7, g8⟩, g10⟩ := h
    have hsl := sizeLine_eq
    have hj := ej_items (B := ⟨K, S, H⟩) (ρ := [some (.sh (.nd .lst ((allT m (2 * part).toNat).map dInts))), some (.sh (.nd .lst (C.map .int))), some (.sh (.nd (kpL L) (kpV L))), some (.sh (szD part salt m)), none, none, none, none, none]) (td := tVar 2) (es_var rfl)
    rw [kept_items] at hj
    refine q_asg (d := .nd .lst ((wantL salt part L).map wtD)) (es_is (eo_freeze (eo_is (u := ol (L.map fun p => wtD (plA salt part p.1, plB salt part p.1, p.2))) (eo_lc (f := prD) (xs := L) (fun _ => true) (fun p => Tr.sh (wtD (plA salt part p.1, plB salt part p.1, p.2))) hj (by omega) (fun p hp => ?_)) (by rw [filter_true, ol, List.map_map]; rfl)) (ol_flat _ _)) (by unfold wantL; rw [List.map_map]; rfl)) ?_
    · have hpp : okK p.1 = true ∧ 1 ≤ part ∧ 0 ≤ salt ∧ salt ≤ 10000000000000 := ⟨g7 p hp, g1, g2, g3⟩
      refine ⟨_, gw_tup (gws_cons (gw_name (by decide)) (gws_cons (gw_name (by decide)) gws_nil)) rfl, et_yes, fun _ => ?_⟩
      exact es_catT (ds := [.int (plA salt part p.1), .int (plB salt part p.1)]) (es := [.int p.2]) (eo_freeze (eo_call (by walk_at "Y.eas") (R_l_places.c1 hpp)) (ol_flat _ _)) (eo_freeze (eo_tup (ds := [.int p.2]) (by walk_at "Y.eas") (by simp only [List.length_cons, List.length_nil]; omega)) (ol_flat _ _)) (by simp only [List.length_cons, List.length_nil]; omega)
    walk_at "Y.rho"
    have hTl : ∀ T ∈ allT m (2 * part).toNat, T.length = (2 * part).toNat := fun T hT => ((allT_mem g4).mp hT).1
    have hW : ∀ T ∈ allT m (2 * part).toNat, (1 ≤ m ∧ m ≤ 1000000000) ∧ ∀ w ∈ wantL salt part L, (0 ≤ w.1 ∧ w.1 < T.length) ∧ 0 ≤ w.2.1 ∧ w.2.1 < T.length := fun T hT => ⟨⟨g4, g5⟩, fun w hw => by
      obtain ⟨p, hp, rfl⟩ := List.mem_map.mp hw
      have hA := plA_in (salt := salt) p.1 g1
      have hB := plB_in (salt := salt) p.1 g1
      have := hTl T hT
      dsimp only
      omega⟩
    refine q_asg (d := .nd .lst ((foundL m (2 * part).toNat C (wantL salt part L)).map .int)) (es_is (eo_freeze (eo_lcF (f := dInts) (xs := allT m (2 * part).toNat) (fun T => (wantL salt part L).all (wtB m T)) (fun T => Da.int ((chgL C T).length : Nat)) (ej_list (by walk_at "Y.es") (.inl rfl)) (by omega) (by decide) (fun T hT => ?_) (fun T hT hb => ?_)) (ol_flat _ _)) (by unfold foundL; rw [List.map_map]; rfl)) ?_
    · exact et_test (eb_call (eab_cons (eb_var (d := dInts T) rfl) (by walk_at "Y.eab")) (R_l_tells_all.c1 (hW T hT)) (Tr.flat_sh _))
    · have hap : T.length = C.length ∧ C.length ≤ 1000 := by
        have := hTl T hT
        omega
      exact eo_call (eas_cons (by walk_at "Y.es") (eas_cons (es_var (d := dInts T) rfl) eas_nil)) (R_l_apart.c1 hap)
    walk_at "Y.rho"
    generalize foundL m (2 * part).toNat C (wantL salt part L) = xs at *
    have hxp : Pl 9 (.nd .lst (xs.map Da.int)) := cells_pl
    refine q_when (b := xs.isEmpty) (et_is (et_test (eb_op (by walk_at "Y.eb") (by walk_at "Y.eb") (o_eqNil hxp))) (by cases xs <;> rfl)) ?_ ?_
    · intro hb
      have e : dueD xs = .str "stuck" := by
        unfold dueD
        rw [if_pos hb]
      rw [e] at q
      walk_at "Y.ret"
    · intro hb
      have e : dueD xs = .int (minI xs) := by
        unfold dueD
        rw [if_neg (by rw [hb]; exact Bool.false_ne_true)]
      rw [e] at q
      have hpos : 0 < xs.length := by
        cases xs with
        | nil => cases hb
        | cons x r => simp
      exact s_retS q (es_flat (eb_cb (eab_cons (by walk_at "Y.eb") eab_nil) (o_minL (.inl rfl) hpos)) rfl) rfl
theorem er_dcs {B : Bs} {ρ : Rho} {i : Nat} {a : Addr} {ks : List Key} {ds : List Da} (h : ρ[i]? = some (some (.nd (.dcs a none ks) (ds.map Tr.sh)))) : Er B (tVar i) ρ (.dct ks) ds := fun S H σ cs st Q q => by
  obtain ⟨c, x, h1, h2, ow⟩ := st.var h
  obtain ⟨b, vs, rfl, g1, g2⟩ := ow.undcs.root_inv
  exact ⟨_, h2, q b vs S H (Step.refl st.same) g1.stands g2⟩
inductive R_l_put_right : RelT2
  | c1 {a b : Addr} {part salt m v : Int} {C : List Int} {L : Lod} {k : KeyM} (h : LvOk part salt m C L ∧ okK k = true ∧ (0 ≤ v ∧ v < m) ∧ L.length < 1000 ∧ (allT m (2 * part).toNat).length ≤ 1000) : R_l_put_right (livT a part salt m C L) (kpS b L) [szD part salt m, .nd .lst ((allT m (2 * part).toNat).map dInts), kd k, .int v] (.ret (livT a part salt m (putR salt part m C L k v).1 (putR salt part m C L k v).2.1) (kpS b (putR salt part m C L k v).2.1) (.sh (.bl true)))
theorem ok_l_put_right {P : Program} {w : World} {K : PySem.W.Frag} {mg : Str → Option Value} {base : Heap} (T : Txt K mg) : FnOk P w K mg base (L2.CX P w) 8 T.d_l_put_right.f T.d_l_put_right.fd ["_law_living", "_law_kept", "_law_sizes_here", "_law_tables", "_law_key_here", "_law_value"] (SpT2 K R_l_put_right) := by
  have G_Living_table_Living := ok_Living_table_Living (P := P) (w := w) (base := base) T
  have G_Living_kept_Living := ok_Living_kept_Living (P := P) (w := w) (base := base) T
  have G_l_fewest := ok_l_fewest (P := P) (w := w) (base := base) T
  have G_l_put := ok_l_put (P := P) (w := w) (base := base) T
  have G_l_places := ok_l_places (P := P) (w := w) (base := base) T
  have G_l_tells_all := ok_l_tells_all (P := P) (w := w) (base := base) T
  have G_l_apart := ok_l_apart (P := P) (w := w) (base := base) T
  have cl_Living := T.cl_Living
  refine T.d_l_put_right.F.ok sc_l_put_right (fun vs H Q E h => spt2_len (R := R_l_put_right) (fun t u ds o r => by cases r <;> rfl) h) (fun cdv A outer s H vs Q E hr h => ?_)
  obtain ⟨x, y, ws, t0, u0, ds, c0, d0, S, o, rfl, r, ow, ow2, nd, fr, hd, hS, hq⟩ := h
  have hu := hu_of hr
  refine ⟨_, (pss_cons (ps_set (i := 6) sc_l_put_right.nd rfl (Or.inl rfl) (pe_meth0 (pv 0) T.cl_Living T.me_Living_table G_Living_table_Living (hr.mono (by decide)) T.d_Living_table.b .nil passE))
  (pss_cons (ps_set (i := 7) sc_l_put_right.nd rfl (Or.inl rfl) (pe_meth0 (pv 0) T.cl_Living T.me_Living_kept G_Living_kept_Living (hr.mono (by decide)) T.d_Living_kept.b .nil passE))
  (pss_cons (ps_set (i := 8) sc_l_put_right.nd rfl (Or.inl rfl) (pe_callTy (r := rDCopy) call_dCopy (by rfl) T.z_dict (by decide +kernel) (pa_cons (pv 1) pa_nil)))
  (pss_cons (ps_asg (pv 5) (pg_sub (pv 8) (pv 4) (set_A hu)))
  (pss_cons (ps_set (i := 9) sc_l_put_right.nd rfl (Or.inl rfl) (pe_lock (pe_call G_l_fewest (hr.mono (by decide)) (by rfl) T.g_l_fewest T.d_l_fewest.kp T.d_l_fewest.b .nil passE (pa_cons (pv 3) (pa_cons (pv 6) (pa_cons (pv 8) (pa_cons (pv 2) pa_nil)))))))
  (pss_cons (ps_set (i := 10) sc_l_put_right.nd rfl (Or.inl rfl) (pe_call G_l_put (hr.mono (by decide)) (by rfl) T.g_l_put T.d_l_put.kp T.d_l_put.b .nil passE (pa_cons (pv 0) (pa_cons (pv 4) (pa_cons (pv 5) pa_nil)))))
  (pss_cons (ps_if (PW.pt (pw_or (pt_cmpR (r := rNeA K) (op_neA hr.units) (pv 10) (pv 9) (nomark _)) (pw_or1 (pt_val (pe_callB (r := rIsi K) call_isi (by rfl) T.z_isinstance (by decide +kernel) (pa_cons (pv 10) (pa_cons (pe_bltn (v := .ty "bool") (by rfl) T.z_bool (by decide +kernel) rfl) pa_nil))))))) (pss_one (ps_ret pe_bl)) pss_nil)
  (pss_cons (ps_if (pt_cmpR (r := rEqA K) (op_eqA hr.units) (pv 10) pe_str (nomark _)) (pss_one (ps_ret (pe_and (pe_cmpR (r := rEqA K) (op_eqA hr.units) (pe_meth0 (pv 0) T.cl_Living T.me_Living_table G_Living_table_Living (hr.mono (by decide)) T.d_Living_table.b .nil passE) (pv 6) (nomark _)) (pe_one (pe_cmpR (r := rEqA K) (op_eqA hr.units) (pe_meth0 (pv 0) T.cl_Living T.me_Living_kept G_Living_kept_Living (hr.mono (by decide)) T.d_Living_kept.b .nil passE) (pv 7) (nomark _)))))) pss_nil)
  (pss_cons (ps_asg (pv 5) (pg_sub (pv 1) (pv 4) (set_A hu)))
  (pss_cons (ps_asgLock (ps_setLc (i := 11) (own := [("_law_one", 12), ("_law_number", 13)]) (g := gTup K 2 (gCons (gName 12) (gCons (gName 13) (gNil)))) (tt := tYes) rfl sc_l_put_right.nd rfl rfl (sw_true rfl rfl rfl (by decide +kernel)) (pi_items (pv 1)) (blkOk_by (N := ["_law_living", "_law_kept", "_law_sizes_here", "_law_tables", "_law_key_here", "_law_value", "_law_before", "_law_held", "_law_after", "_law_due", "_law_found", "_law_wanted", "_law_one", "_law_number"]) (sc := defScope s_l_put_right) (by decide +kernel)) (fun _ _ _ _ _ => (pg_tup rfl (pgs_cons (pg_name (i := 12) sc_l_put_right.nd rfl (Or.inl rfl)) (pgs_cons (pg_name (i := 13) sc_l_put_right.nd rfl (Or.inl rfl)) pgs_nil)))) (fun _ _ _ _ _ => pts_nil) (fun _ _ _ _ _ => (pe_op (r := L2.rCatA K) L2.op_catA (pe_call G_l_places (hr.mono (by decide)) (by rfl) T.g_l_places T.d_l_places.kp T.d_l_places.b .nil passL (pa_cons (pv 12) (pa_cons (pv 2) pa_nil))) (pe_tup (pa_cons (pv 13) pa_nil))))))
  (pss_one (ps_ret (pe_and (pe_cmpR (r := rEqA K) (op_eqA hr.units) (pe_call G_l_apart (hr.mono (by decide)) (by rfl) T.g_l_apart T.d_l_apart.kp T.d_l_apart.b .nil passE (pa_cons (pv 6) (pa_cons (pe_meth0 (pv 0) T.cl_Living T.me_Living_table G_Living_table_Living (hr.mono (by decide)) T.d_Living_table.b .nil passE) pa_nil))) (pv 10) (nomark _)) (pe_one (pe_call G_l_tells_all (hr.mono (by decide)) (by rfl) T.g_l_tells_all T.d_l_tells_all.kp T.d_l_tells_all.b .nil passE (pa_cons (pe_meth0 (pv 0) T.cl_Living T.me_Living_table G_Living_table_Living (hr.mono (by decide)) T.d_Living_table.b .nil passE) (pa_cons (pv 11) (pa_cons (pe_ix (r := rIxA K) (ix_A hu) (pv 2) pe_int (fun _ _ => rfl)) pa_nil)))))))))))))))))), ?_⟩
  clear hr hu
  cases r with
  | @c1 a b part salt m v C L k h =>
    have e0 := ow.slf_val
    subst e0
    have e1 := ow2.dcs_val
    subst e1
    have q : RetT2 ⟨K, S, off H (c0 ++ d0)⟩ _ _ Q _ _ _ := hq
    refine body_gd2 (n := 8) ow ow2 nd fr hd hS rfl ?_
    show Gd _ _ _ [some (livT a part salt m C L), some (kpS b L), some (.sh (szD part salt m)), some (.sh (.nd .lst ((allT m (2 * part).toNat).map dInts))), some (.sh (kd k)), some (.sh (.int v)), none, none, none, none, none, none, none, none]
    clear hq hd
    try dsimp only [cxOf]
    obtain ⟨h, hk, hv, hl, hta⟩ := h
    have hsl := sizeLine_eq
    have hll := h.ll
    have hm1 := h.m1
    have hm2 := h.m2
    have hp2 := h.p2
    have hlen := h.len
    have hst : ∀ p ∈ L, keyD p.1 = keyD k → p.1 = k := fun p _ e => keyD_inj e
    refine q_asg (d := .nd .lst (C.map .int)) (eo_freeze (eo_methLT (T := livT a part salt m C L) rfl liv_hu liv_ntT (by decide) eas_nil R_Living_table_Living.c1 cells_loneT) (ol_flat _ _)) ?_
    walk_at "Y.rho"
    refine q_asg (d := .nd .lst ((sortL L).map prD)) (eo_freeze (eo_methLT (T := livT a part salt m C L) rfl liv_hu liv_ntT (by decide) eas_nil (R_Living_kept_Living.c1 h) prs_loneT) (ol_flat _ _)) ?_
    walk_at "Y.rho"
    refine q_own (t := kpT L) (eo_dCopy (.inl rfl) (er_dcs rfl)) ?_
    walk_at "Y.rho"
    refine q_mput (i := 8) (p := []) (T := kpT L) (d := .int v) (kk := keyD k) (ds := kpV L) (by walk_at "Y.es") loc_var (eb_is (eb_var rfl) (kyD_keyD k).symm) rfl rfl (by rw [List.length_map]; omega) ?_
    rw [putKs_L (f := keyD) (v := v) hst, putVs_L (f := keyD) (g := fun p => .int p.2) (v := v) hst]
    walk_at "Y.rho"
    have hok2 : ∀ p ∈ putL L k v, okK p.1 = true := fun p hp => by
      rcases putL_mem.mp hp with rfl | ⟨h1, _⟩
      · exact hk
      · exact h.ok p h1
    have hpl := putL_len (L := L) (k := k) (v := v)
    have hfw : ((1 ≤ part ∧ part ≤ 300) ∧ 0 ≤ salt ∧ salt ≤ 10000000000000) ∧ (1 ≤ m ∧ m ≤ 1000000000) ∧ ((C.length : Int) = 2 * part) ∧ ((∀ p ∈ putL L k v, okK p.1 = true) ∧ (putL L k v).length ≤ 1000) ∧ (allT m (2 * part).toNat).length ≤ 1000 := ⟨⟨⟨h.p1, hp2⟩, h.s1, h.s2⟩, ⟨by omega, hm2⟩, hlen, ⟨hok2, by omega⟩, hta⟩
    have hdue := due_is h hk hv hl
    have hdfl : (dueD (foundL m (2 * part).toNat C (wantL salt part (putL L k v)))).fl.isSome = true := by
      unfold dueD
      split <;> rfl
    refine q_asg (d := (putR salt part m C L k v).2.2) (es_is (es_lockK (j := 8) (k := kpK (putL L k v)) (ks := (putL L k v).map fun p => keyD p.1) (ds := kpV (putL L k v)) rfl (.inl rfl) kpV_fl (fun E1 lb hlb => eb_call (eab_cons (by walk_at "Y.eb") (eab_cons (by walk_at "Y.eb") (eab_cons (eb_bo rfl hlb) (by walk_at "Y.eab")))) (R_l_fewest.c1 hfw) (Tr.flat_sh _)) (Option.isSome_iff_exists.mp hdfl).choose_spec) hdue) ?_
    walk_at "Y.rho"
    cases hp : putS salt part m C L k v with
    | none =>
      rw [putR_none hp] at q
      rw [putR_none hp]
      have hR : R_l_put (livT a part salt m C L) [kd k, .int v] (.ret (livT a part salt m C L) (.sh (.str "stuck"))) := by
        have z := R_l_put.c1 (a := a) (v := v) ⟨h, hk, hv, hl⟩
        rw [putR_none hp] at z
        exact z
      refine q_asgM (em_call (i := 0) (T := livT a part salt m C L) (C := "Living") (ns := liN) (ns' := liN) rfl (.inr ⟨a, rfl⟩) (by walk_at "Y.eas") (show R_l_put _ _ _ from hR)) ?_
      walk_at "Y.rho"
      show Gd _ _ _ [some (livT a part salt m C L), some (kpS b L), some (.sh (szD part salt m)), some (.sh (.nd .lst ((allT m (2 * part).toNat).map dInts))), some (.sh (kd k)), some (.sh (.int v)), some (.sh (.nd .lst (C.map .int))), some (.sh (.nd .lst ((sortL L).map prD))), some (kpT (putL L k v)), some (.sh (.str "stuck")), some (.sh (.str "stuck")), none, none, none]
      refine q_when (b := false) (et_is (et_or (et_test (eb_op (eb_var rfl) (eb_var rfl) o_neS)) (fun _ => et_test (eb_is_ (eb_var rfl) is_SB))) (by simp)) (fun hb => by cases hb) ?_
      intro _
      refine q_when (b := true) (et_is (et_test (eb_op (eb_var rfl) eb_str o_eqS)) (by simp)) (fun _ => ?_) (fun hb => by cases hb)
      have hcp : Pl 9 (.nd .lst (C.map Da.int)) := cells_pl
      have hcc : Cl (.nd .lst (C.map Da.int)) := cl_map fun _ _ => .int
      have hsp : Pl 9 (.nd .lst ((sortL L).map prD)) := prs_pl fun p hp => h.ok p (sortL_mem.mp hp)
      exact s_ret22 (es_flat (eb_is (eb_and (b := true) (eb_is (eb_op (d := .nd .lst (C.map Da.int)) (y := .nd .lst (C.map Da.int)) (eb_of (eo_methLT (T := livT a part salt m C L) rfl liv_hu liv_ntT (by decide) eas_nil R_Living_table_Living.c1 cells_loneT) (ol_flat _ _)) (eb_var rfl) (o_eqD hcp hcp hcc hcc)) (by rw [deq_true rfl])) (fun _ => eb_op (d := .nd .lst ((sortL L).map prD)) (y := .nd .lst ((sortL L).map prD)) (eb_of (eo_methLT (T := livT a part salt m C L) rfl liv_hu liv_ntT (by decide) eas_nil (R_Living_kept_Living.c1 h) prs_loneT) (ol_flat _ _)) (eb_var rfl) (o_eqD hsp hsp prs_cl prs_cl))) (by rw [deq_true rfl]; rfl)) rfl) (a := a) (b := b) (C := "Living") (ns := liN) rfl rfl rfl q
    | some cc =>
      rw [putR_some hp] at q
      rw [putR_some hp]
      have hR : R_l_put (livT a part salt m C L) [kd k, .int v] (.ret (livT a part salt m cc.1 (putL L k v)) (.sh (.int cc.2))) := by
        have z := R_l_put.c1 (a := a) (v := v) ⟨h, hk, hv, hl⟩
        rw [putR_some hp] at z
        exact z
      have h' := put_ok h hk hv hl hp
      have hch : ((chgL C cc.1).length : Int) = cc.2 := by
        by_cases h0 : stepM salt part m C k v = 0
        · unfold putS at hp
          rw [if_pos h0] at hp
          cases hp
          rw [chg_same]
          rfl
        · exact (put_chg h hk hv h0 hp).2.1
      refine q_asgM (em_call (i := 0) (T := livT a part salt m C L) (C := "Living") (ns := liN) (ns' := liN) rfl (.inr ⟨a, rfl⟩) (by walk_at "Y.eas") (show R_l_put _ _ _ from hR)) ?_
      walk_at "Y.rho"
      show Gd _ _ _ [some (livT a part salt m cc.1 (putL L k v)), some (kpS b L), some (.sh (szD part salt m)), some (.sh (.nd .lst ((allT m (2 * part).toNat).map dInts))), some (.sh (kd k)), some (.sh (.int v)), some (.sh (.nd .lst (C.map .int))), some (.sh (.nd .lst ((sortL L).map prD))), some (kpT (putL L k v)), some (.sh (.int cc.2)), some (.sh (.int cc.2)), none, none, none]
      refine q_when (b := false) (et_is (et_or (et_test (eb_op (eb_var rfl) (eb_var rfl) o_neI)) (fun _ => et_test (eb_is_ (eb_var rfl) is_IB))) (by simp)) (fun hb => by cases hb) ?_
      intro _
      refine q_when (b := false) (et_is (et_test (eb_op (d := .int cc.2) (y := .str "stuck") (eb_var rfl) eb_str (o_eqD .int (.str (by decide +kernel)) .int .str))) (by rw [deq_false (fun z => by cases z)])) (fun hb => by cases hb) ?_
      intro _
      refine q_putS (i := 1) (d := .int v) (kk := keyD k) (ds := kpV L) (by walk_at "Y.es") loc_var (eb_is (eb_var rfl) (kyD_keyD k).symm) rfl (by rw [List.length_map]; omega) ?_
      rw [putKs_L (f := keyD) (v := v) hst, putVs_L (f := keyD) (g := fun p => .int p.2) (v := v) hst]
      walk_at "Y.rho"
      refine q_asg (d := .nd .lst ((wantL salt part (putL L k v)).map wtD)) (es_is (eo_freeze (eo_lockK (j := 1) (k := .dcs b none ((putL L k v).map fun p => keyD p.1)) (ks := (putL L k v).map fun p => keyD p.1) (ds := kpV (putL L k v)) (t := ol ((putL L k v).map fun p => wtD (plA salt part p.1, plB salt part p.1, p.2))) rfl (.inr ⟨b, rfl⟩) kpV_fl (fun E1 lb hlb => ?_)) (ol_flat _ _)) (by unfold wantL; rw [List.map_map]; rfl)) ?_
      · have hj := ej_lentI (B := ⟨K, S, E1⟩) (ρ := [some (livT a part salt m cc.1 (putL L k v)), some (.sh (.exn lb none [])), some (.sh (szD part salt m)), some (.sh (.nd .lst ((allT m (2 * part).toNat).map dInts))), some (.sh (kd k)), some (.sh (.int v)), some (.sh (.nd .lst (C.map .int))), some (.sh (.nd .lst ((sortL L).map prD))), some (kpT (putL L k v)), some (.sh (.int cc.2)), some (.sh (.int cc.2)), none, none, none]) (i := 1) rfl hlb kpV_fl
        rw [kept_items] at hj
        refine eo_is (eo_lc (f := prD) (xs := putL L k v) (fun _ => true) (fun p => Tr.sh (wtD (plA salt part p.1, plB salt part p.1, p.2))) hj (by omega) (fun p hp => ?_)) (by rw [filter_true, ol, List.map_map]; rfl)
        have hpp : okK p.1 = true ∧ 1 ≤ part ∧ 0 ≤ salt ∧ salt ≤ 10000000000000 := ⟨hok2 p hp, h.p1, h.s1, h.s2⟩
        refine ⟨_, gw_tup (gws_cons (gw_name (by decide)) (gws_cons (gw_name (by decide)) gws_nil)) rfl, et_yes, fun _ => ?_⟩
        exact es_catT (ds := [.int (plA salt part p.1), .int (plB salt part p.1)]) (es := [.int p.2]) (eo_freeze (eo_call (by walk_at "Y.eas") (R_l_places.c1 hpp)) (ol_flat _ _)) (eo_freeze (eo_tup (ds := [.int p.2]) (by walk_at "Y.eas") (by simp only [List.length_cons, List.length_nil]; omega)) (ol_flat _ _)) (by simp only [List.length_cons, List.length_nil]; omega)
      walk_at "Y.rho"
      have hl' := h'.len
      have hap : cc.1.length = C.length ∧ C.length ≤ 1000 := by omega
      have hwt : (1 ≤ m ∧ m ≤ 1000000000) ∧ ∀ w ∈ wantL salt part (putL L k v), (0 ≤ w.1 ∧ w.1 < cc.1.length) ∧ 0 ≤ w.2.1 ∧ w.2.1 < cc.1.length := ⟨⟨by omega, hm2⟩, fun w hw => by
        obtain ⟨p, hp, rfl⟩ := List.mem_map.mp hw
        have hA := plA_in (salt := salt) p.1 h.p1
        have hB := plB_in (salt := salt) p.1 h.p1
        dsimp only
        omega⟩
      have hall : (wantL salt part (putL L k v)).all (wtB m cc.1) = true := want_all.mpr fun p hp => h'.tl p hp
      exact s_ret22 (es_flat (eb_is (eb_and (b := true) (eb_is (eb_op (eb_call (eab_cons (eb_var rfl) (eab_cons (eb_of (eo_methLT (T := livT a part salt m cc.1 (putL L k v)) rfl liv_hu liv_ntT (by decide) eas_nil R_Living_table_Living.c1 cells_loneT) (ol_flat _ _)) eab_nil)) (R_l_apart.c1 hap) (Tr.flat_sh _)) (eb_var rfl) o_eqI) (by rw [hch]; simp)) (fun _ => eb_call (eab_cons (eb_of (eo_methLT (T := livT a part salt m cc.1 (putL L k v)) rfl liv_hu liv_ntT (by decide) eas_nil R_Living_table_Living.c1 cells_loneT) (ol_flat _ _)) (by walk_at "Y.eab")) (R_l_tells_all.c1 hwt) (Tr.flat_sh _))) (by rw [hall]; rfl)) rfl) (a := a) (b := b) (C := "Living") (ns := liN) rfl rfl rfl q
def smZ : List (Int × Int) := [(1, 2), (1, 9), (2, 2), (2, 3), (2, 4), (3, 2), (3, 2), (2, 3)]
def szZ (c : Int) : Int × Int := smZ.getD (c % 8).toNat (1, 2)
theorem szZ_in (c : Int) : (1 ≤ (szZ c).1 ∧ (szZ c).1 ≤ 3) ∧ (2 ≤ (szZ c).2 ∧ (szZ c).2 ≤ 9) ∧ (szZ c).2.toNat ^ (2 * (szZ c).1).toNat ≤ 1000 := by
  have h : (c % 8).toNat < 8 := by omega
  unfold szZ
  generalize (c % 8).toNat = i at *
  have : i = 0 ∨ i = 1 ∨ i = 2 ∨ i = 3 ∨ i = 4 ∨ i = 5 ∨ i = 6 ∨ i = 7 := by omega
  rcases this with rfl | rfl | rfl | rfl | rfl | rfl | rfl | rfl <;> decide
inductive R_law : Rel
  | c1 {ns : List Int} (h : ns.length ≤ 63) : R_law [.nd .rd (ns.map .int)] (.ret (.sh (.bl true)))
local macro_rules | `(tactic| walk_at "Y.call") => `(tactic| ((with_reducible apply R_law.c1); (· walk_at "Y.side")))
theorem ok_law {P : Program} {w : World} {K : PySem.W.Frag} {mg : Str → Option Value} {base : Heap} (T : Txt K mg) : FnOk P w K mg base (L2.CX P w) 9 T.d_law.f T.d_law.fd ["_law_script"] (SpD K R_law) := by
  have G_l_mix := ok_l_mix (P := P) (w := w) (base := base) T
  have G_l_cell := ok_l_cell (P := P) (w := w) (base := base) T
  have G_l_sizes := ok_l_sizes (P := P) (w := w) (base := base) T
  have G_l_all_tables := ok_l_all_tables (P := P) (w := w) (base := base) T
  have G_Living_init_Living := ok_Living_init_Living (P := P) (w := w) (base := base) T
  have G_l_many := ok_l_many (P := P) (w := w) (base := base) T
  have G_l_deed := ok_l_deed (P := P) (w := w) (base := base) T
  have G_Living_table_Living := ok_Living_table_Living (P := P) (w := w) (base := base) T
  have G_Living_drop_Living := ok_Living_drop_Living (P := P) (w := w) (base := base) T
  have G_l_put_right := ok_l_put_right (P := P) (w := w) (base := base) T
  have G_Living_kept_Living := ok_Living_kept_Living (P := P) (w := w) (base := base) T
  have cl_Living := T.cl_Living
  refine T.d_law.F.ok sc_law (fun vs H Q E h => spd_len (R := R_law) (fun ds o r => by cases r <;> rfl) h) (fun cdv A outer s H vs Q E hr h => ?_)
  obtain ⟨ds, o, S, r, hd, hS, hq⟩ := h
  have hu := hu_of hr
  refine ⟨_, (pss_cons (ps_set (i := 1) sc_law.nd rfl (Or.inl rfl) (pe_call G_l_mix (hr.mono (by decide)) (by rfl) T.g_l_mix T.d_l_mix.kp T.d_l_mix.b .nil passE (pa_cons (pe_call G_l_cell (hr.mono (by decide)) (by rfl) T.g_l_cell T.d_l_cell.kp T.d_l_cell.b .nil passE (pa_cons (pv 0) (pa_cons pe_int pa_nil))) (pa_cons pe_int pa_nil))))
  (pss_cons (ps_asg (pe_ix (r := rIxA K) (ix_A hu) (pe_lst (pa_cons (pe_tup (pa_cons pe_int (pa_cons pe_int pa_nil))) (pa_cons (pe_tup (pa_cons pe_int (pa_cons pe_int pa_nil))) (pa_cons (pe_tup (pa_cons pe_int (pa_cons pe_int pa_nil))) (pa_cons (pe_tup (pa_cons pe_int (pa_cons pe_int pa_nil))) (pa_cons (pe_tup (pa_cons pe_int (pa_cons pe_int pa_nil))) (pa_cons (pe_tup (pa_cons pe_int (pa_cons pe_int pa_nil))) (pa_cons (pe_tup (pa_cons pe_int (pa_cons pe_int pa_nil))) (pa_cons (pe_tup (pa_cons pe_int (pa_cons pe_int pa_nil))) pa_nil))))))))) (pe_op op_mod (pv 1) pe_int) (fun _ _ => rfl)) (pg_tup rfl (pgs_cons (pg_name (i := 2) sc_law.nd rfl (Or.inl rfl)) (pgs_cons (pg_name (i := 3) sc_law.nd rfl (Or.inl rfl)) pgs_nil))))
  (pss_cons (ps_set (i := 4) sc_law.nd rfl (Or.inl rfl) (pe_tup (pa_cons (pv 2) (pa_cons (pe_ix (r := rIxA K) (ix_A hu) (pe_call G_l_sizes (hr.mono (by decide)) (by rfl) T.g_l_sizes T.d_l_sizes.kp T.d_l_sizes.b .nil passE (pa_cons (pv 0) (pa_cons pe_int pa_nil))) pe_int (fun _ _ => rfl)) (pa_cons (pv 3) pa_nil)))))
  (pss_cons (ps_set (i := 5) sc_law.nd rfl (Or.inl rfl) (pe_call G_l_all_tables (hr.mono (by decide)) (by rfl) T.g_l_all_tables T.d_l_all_tables.kp T.d_l_all_tables.b .nil passE (pa_cons (pe_op (r := rMulN) op_mulN pe_int (pv 2)) (pa_cons (pv 3) pa_nil))))
  (pss_cons (ps_set (i := 6) sc_law.nd rfl (Or.inl rfl) (pe_make T.mk_Living G_Living_init_Living (hr.mono (by decide)) (by rfl) T.c_Living T.d_Living_init.b .nil passE (pa_cons (pe_ix (r := rIxA K) (ix_A hu) (pv 4) pe_int (fun _ _ => rfl)) (pa_cons (pe_ix (r := rIxA K) (ix_A hu) (pv 4) pe_int (fun _ _ => rfl)) (pa_cons (pe_ix (r := rIxA K) (ix_A hu) (pv 4) pe_int (fun _ _ => rfl)) pa_nil)))))
  (pss_cons (ps_set (i := 7) sc_law.nd rfl (Or.inl rfl) pe_dnewK)
  (pss_cons (ps_for (passes_of rfl) rfl (pi_range1 (by rfl) T.z_range (pa_cons (pe_call G_l_many (hr.mono (by decide)) (by rfl) T.g_l_many T.d_l_many.kp T.d_l_many.b .nil passE (pa_cons (pv 0) (pa_cons pe_int (pa_cons pe_int pa_nil)))) pa_nil)) (pg_name (i := 8) sc_law.nd rfl (Or.inl rfl))
  (pss_cons (ps_asg (pe_call G_l_deed (hr.mono (by decide)) (by rfl) T.g_l_deed T.d_l_deed.kp T.d_l_deed.b .nil passE (pa_cons (pv 0) (pa_cons pe_int (pa_cons (pv 8) (pa_cons (pv 7) (pa_cons (pv 4) pa_nil)))))) (pg_tup rfl (pgs_cons (pg_name (i := 9) sc_law.nd rfl (Or.inl rfl)) (pgs_cons (pg_name (i := 10) sc_law.nd rfl (Or.inl rfl)) (pgs_cons (pg_name (i := 11) sc_law.nd rfl (Or.inl rfl)) pgs_nil)))))
  (pss_cons (ps_set (i := 12) sc_law.nd rfl (Or.inl rfl) (pe_meth0 (pv 6) T.cl_Living T.me_Living_table G_Living_table_Living (hr.mono (by decide)) T.d_Living_table.b .nil passE))
  (pss_one (ps_if (PW.pt (pw_and (pt_cmpR (r := rInA K) (op_inA hu) (pv 10) (pv 7) (by rfl)) (pw_and1 (PW.pt (pw_or (pt_cmpR (r := rEqA K) (op_eqA hr.units) (pv 9) pe_int (nomark _)) (pw_or1 (pt_cmpR op_gt (pe_callB (r := rLenA K) call_lenA (by rfl) T.z_len (by decide +kernel) (pa_cons (pv 7) pa_nil)) pe_int (nomark _)))))))) (pss_cons (ps_expr (pe_meth (pv 6) T.cl_Living T.me_Living_drop G_Living_drop_Living (hr.mono (by decide)) T.d_Living_drop.b .nil passE (pa_cons (pv 10) pa_nil)))
  (pss_cons (ps_expr (pe_dpop1 (pv 7) (pv 10) ⟨by rfl, by rfl, by rfl, by rfl⟩))
  (pss_one (ps_if (pt_cmpR (r := rNeA K) (op_neA hr.units) (pe_meth0 (pv 6) T.cl_Living T.me_Living_table G_Living_table_Living (hr.mono (by decide)) T.d_Living_table.b .nil passE) (pv 12) (nomark _)) (pss_one (ps_ret pe_bl)) pss_nil)))) (pss_one (ps_if (PW.pt (pw_or (pt_cmpR op_lt (pe_callB (r := rLenA K) call_lenA (by rfl) T.z_len (by decide +kernel) (pa_cons (pv 7) pa_nil)) pe_int (nomark _)) (pw_or1 (pt_cmpR (r := rInA K) (op_inA hu) (pv 10) (pv 7) (by rfl))))) (pss_one (ps_if (pt_not (pt_val (pe_call G_l_put_right (hr.mono (by decide)) (by rfl) T.g_l_put_right T.d_l_put_right.kp T.d_l_put_right.b .nil passE (pa_cons (pv 6) (pa_cons (pv 7) (pa_cons (pv 4) (pa_cons (pv 5) (pa_cons (pv 10) (pa_cons (pv 11) pa_nil))))))))) (pss_one (ps_ret pe_bl)) pss_nil)) pss_nil)))))))
  (pss_one (ps_ret (pe_cmpR (r := rEqA K) (op_eqA hr.units) (pe_callB (r := rLenA K) call_lenA (by rfl) T.z_len (by decide +kernel) (pa_cons (pe_meth0 (pv 6) T.cl_Living T.me_Living_kept G_Living_kept_Living (hr.mono (by decide)) T.d_Living_kept.b .nil passE) pa_nil)) (pe_callB (r := rLenA K) call_lenA (by rfl) T.z_len (by decide +kernel) (pa_cons (pv 7) pa_nil)) (nomark _))))))))))), ?_⟩
  clear hr hu
  cases r with
  | @c1 ns h =>
    have q := hq.ret
    refine body_gd (n := 12) hd hS rfl ?_
    show Gd _ _ _ [some (.sh (.nd .rd (ns.map .int))), none, none, none, none, none, none, none, none, none, none, none, none]
    clear hq hd
    try dsimp only [cxOf]
    have hsl := sizeLine_eq
    have hcin := mix_nn (cell ns 1) 9
    have hsz := sizes_in (ns := ns) (most := 3) (by omega)
    have hs3 : 1 ≤ (3 : Int) ∧ (3 : Int) ≤ 1000 := by omega
    walk_at "Y.q"
    have hzz := szZ_in (mix (cell ns 1) 9)
    have hat : atI (smZ.map fun p : Int × Int => Da.tup [.int p.1, .int p.2]) (mix (cell ns 1) 9 % 8) = some (.tup [.int (szZ (mix (cell ns 1) 9)).1, .int (szZ (mix (cell ns 1) 9)).2]) := at_map (f := fun p : Int × Int => Da.tup [.int p.1, .int p.2]) (1, 2) (by omega) (by show _ < ((8 : Nat) : Int); omega)
    generalize szZ (mix (cell ns 1) 9) = pz at *
    generalize mix (cell ns 1) 9 = ce at *
    obtain ⟨part, m⟩ := pz
    dsimp only at hzz hat
    obtain ⟨hpt, hmm, hpw⟩ := hzz
    have hlT : ∀ x y : Int, Es (⟨K, S, H⟩ : Bs) (tTup (tCons (tC (.int x)) (tCons (tC (.int y)) tNil))) [some (.sh (.nd .rd (ns.map .int))), some (.sh (.int ce)), none, none, none, none, none, none, none, none, none, none, none] (.tup [.int x, .int y]) := fun x y => eo_freeze (eo_tup (ds := [.int x, .int y]) (by walk_at "Y.eas") (by simp only [List.length_cons, List.length_nil]; omega)) (ol_flat _ _)
    refine q_tgt (d := .tup [.int part, .int m]) (es_ix (er_ol (eo_lst (ds := smZ.map fun p : Int × Int => Da.tup [.int p.1, .int p.2]) (eas_cons (hlT _ _) (eas_cons (hlT _ _) (eas_cons (hlT _ _) (eas_cons (hlT _ _) (eas_cons (hlT _ _) (eas_cons (hlT _ _) (eas_cons (hlT _ _) (eas_cons (hlT _ _) eas_nil)))))))) (by show 8 ≤ sizeLine; omega))) (.inl rfl) (by walk_at "Y.eb") hat) (gt_tup (gts_cons gt_name (gts_cons gt_name gts_nil)) rfl) ?_
    walk_at "Y.rho"
    refine q_asg (d := szD part (saltL ns) m) (eo_freeze (eo_tup (ds := [.int part, .int (saltL ns), .int m]) (eas_cons (by walk_at "Y.es") (eas_cons (es_flat (eb_ix (eb_call (by walk_at "Y.eab") (R_l_sizes.c1 hs3) (ol_flat _ _)) (.inr (.inr rfl)) eb_int rfl) rfl) (by walk_at "Y.eas"))) (by simp only [List.length_cons, List.length_nil]; omega)) (ol_flat _ _)) ?_
    walk_at "Y.rho"
    obtain ⟨_, hsa, _⟩ := hsz
    generalize saltL ns = salt at *
    have hall : (1 ≤ m ∧ m ≤ 100) ∧ (2 * part).toNat ≤ 100 ∧ m.toNat ^ (2 * part).toNat ≤ 1000 := ⟨by omega, by omega, hpw⟩
    have hta : (allT m (2 * part).toNat).length ≤ 1000 := by rw [allT_len]; exact hpw
    have hpe : 2 * part = (((2 * part).toNat : Nat) : Int) := by omega
    refine q_asg (d := .nd .lst ((allT m (2 * part).toNat).map dInts)) (eo_call (eas_cons (es_is (d := .int (2 * part)) (by walk_at "Y.es") (congrArg Da.int hpe)) (by walk_at "Y.eas")) (R_l_all_tables.c1 hall)) ?_
    walk_at "Y.rho"
    have hpi : 1 ≤ part ∧ part ≤ 1000 := by omega
    have hnew : LvOk part salt m (List.replicate (2 * part).toNat 0) [] := new_ok (by omega) (by omega) (by omega)
    refine q_own (t := livI part salt m (List.replicate (2 * part).toNat 0) []) (eo_make (C := "Living") (ns := liN) (by walk_at "Y.eas") (fun x => R_Living_init_Living.c1 hpi)) ?_
    walk_at "Y.rho"
    refine q_own (t := kpT []) eo_dnew ?_
    walk_at "Y.rho"
    have hmy := manyQ_in (ns := ns) (st := 3) (most := 24) (by omega)
    have hmi : (1 ≤ (3 : Int) ∧ (3 : Int) ≤ 1000) ∧ 0 ≤ (24 : Int) ∧ (24 : Int) ≤ 1000 := by omega
    refine q_forR (n := manyQ ns 3 24) (eab_cons (eb_call (by walk_at "Y.eab") (R_l_many.c1 hmi) (Tr.flat_sh _)) eab_nil) (by omega) (by omega) (fun i ρ => ∃ C L x8 x9 x10 x11 x12, ρ = [some (.sh (.nd .rd (ns.map .int))), some (.sh (.int ce)), some (.sh (.int part)), some (.sh (.int m)), some (.sh (szD part salt m)), some (.sh (.nd .lst ((allT m (2 * part).toNat).map dInts))), some (livI part salt m C L), some (kpT L), x8, x9, x10, x11, x12] ∧ LvOk part salt m C L ∧ L.length ≤ i) ⟨_, [], _, _, _, _, _, rfl, hnew, Nat.le_refl _⟩ ?_ ?_
    · rintro S1 lb i ρ' hi ⟨C, L, x8, x9, x10, x11, x12, rfl, hl1, hn1⟩
      walk_at "Y.rho"
      have hdp : (0 ≤ (3 : Int) ∧ (3 : Int) ≤ 1000) ∧ (0 ≤ (i : Int) ∧ (i : Int) ≤ 1000) ∧ ns.length ≤ 63 ∧ 1 ≤ m ∧ m ≤ 1000000000 := by omega
      refine q_tgt (d := .tup [.int (deedD ns 3 i), kd (deedK ns 3 i L m), .int (deedV ns 3 i m)]) (eo_freeze (eo_lone (eab_cons (eb_var rfl) (eab_cons eb_int (eab_cons (eb_var rfl) (eab_cons (eb_ol (k := kpK L) (ds := kpV L) rfl) (eab_cons (eb_var rfl) eab_nil))))) (R_l_deed.c1 hdp) (lone3 rfl (kd_flat _) rfl)) (ol_flat _ _)) (gt_tup (gts_cons gt_name (gts_cons gt_name (gts_cons gt_name gts_nil))) rfl) ?_
      walk_at "Y.rho"
      have hK : okK (deedK ns 3 i L m) = true := deedK_ok hl1.ok
      have hV := deedV_in (ns := ns) (st := 3) (k := i) (m := m) (by omega)
      generalize deedK ns 3 i L m = k at *
      generalize deedV ns 3 i m = v at *
      generalize deedD ns 3 i = dd at *
      have hst : ∀ p ∈ L, keyD p.1 = keyD k → p.1 = k := fun p _ e => keyD_inj e
      have hle : (kpV L).length = L.length := List.length_map ..
      refine q_asg (d := .nd .lst (C.map .int)) (eo_freeze (eo_methLT (T := livI part salt m C L) rfl liv_huI liv_ntI (by decide) eas_nil R_Living_table_Living.c1 cells_loneT) (ol_flat _ _)) ?_
      walk_at "Y.rho"
      walk_at "Y.last"
      refine q_if (b := decide (k ∈ L.map Prod.fst) && (decide (dd = 1) || decide ((L.length : Int) > 8))) (et_is (et_and (et_test (eb_op (eb_is (eb_var rfl) (kyD_keyD k).symm) (eb_ol (k := kpK L) (ds := kpV L) rfl) (o_inK (.inl rfl)))) (fun _ => et_or (by walk_at "Y.et") (fun _ => et_test (eb_op (eb_cb (eab_cons (eb_ol (k := kpK L) (ds := kpV L) rfl) eab_nil) o_lenD) eb_int (by walk_at "Y.op"))))) (by rw [dec_kept, hle])) (fun hb => ?_) (fun hb => ?_)
      · rw [Bool.and_eq_true] at hb
        have hin : k ∈ L.map Prod.fst := of_decide_eq_true hb.1
        have hcp : Pl 9 (.nd .lst (C.map Da.int)) := cells_pl
        have hcc : Cl (.nd .lst (C.map Da.int)) := cl_map fun _ _ => .int
        refine q_dropM (em_meth (i := 6) (T := livI part salt m C L) (C := "Living") (ns := liN) (ns' := liN) rfl (.inl rfl) (by decide) (by walk_at "Y.eas") (show ∀ a, R_Living_drop_Living _ _ _ from fun a => R_Living_drop_Living.c1 ⟨hl1.ok, hK, hin⟩)) ?_
        walk_at "Y.rho"
        refine q_mdpop (i := 7) (p := []) (T := kpT L) (kk := keyD k) (ds := kpV L) loc_var (eb_is (eb_var rfl) (kyD_keyD k).symm) rfl rfl (keyK_mem.mpr hin) ?_
        rw [dropKs_L (f := keyD) hst, dropVs_L (f := keyD) (g := fun p => .int p.2) hst]
        walk_at "Y.rho"
        walk_at "Y.last"
        refine q_when (b := false) (et_is (et_test (eb_op (d := .nd .lst (C.map .int)) (y := .nd .lst (C.map .int)) (eb_of (eo_methLT (T := livI part salt m C (dropL L k)) rfl liv_huI liv_ntI (by decide) eas_nil R_Living_table_Living.c1 cells_loneT) (ol_flat _ _)) (eb_var rfl) (o_neD hcp hcp hcc hcc))) (by rw [deq_true rfl]; rfl)) (fun hb => by cases hb) ?_
        intro _
        walk_at "Y.nx"
        have := dropL_len (L := L) (k := k)
        exact ⟨C, dropL L k, _, _, _, _, _, rfl, drop_ok hl1, by omega⟩
      · walk_at "Y.last"
        refine q_when (b := decide ((L.length : Int) < 8) || decide (k ∈ L.map Prod.fst)) (et_is (et_or (et_test (eb_op (eb_cb (eab_cons (eb_ol (k := kpK L) (ds := kpV L) rfl) eab_nil) o_lenD) eb_int (by walk_at "Y.op"))) (fun _ => et_test (eb_op (eb_is (eb_var rfl) (kyD_keyD k).symm) (eb_ol (k := kpK L) (ds := kpV L) rfl) (o_inK (.inl rfl))))) (by rw [dec_kept, hle])) (fun hb2 => ?_) (fun hb2 => ?_)
        · walk_at "Y.last"
          have hput : LvOk part salt m C L ∧ okK k = true ∧ (0 ≤ v ∧ v < m) ∧ L.length < 1000 ∧ (allT m (2 * part).toNat).length ≤ 1000 := ⟨hl1, hK, hV, by omega, hta⟩
          have hpo := putR_ok hl1 hK hV (by omega)
          refine q_whenR (bb := false) (emtr_is (emtr_not (emtr_test (emr_call2 (i := 6) (j := 7) (T := livI part salt m C L) (U := kpT L) (C := "Living") (ns := liN) (ns' := liN) (ks := L.map fun p => keyD p.1) (ws' := (kpV L).map Tr.sh) (by decide) rfl (.inl rfl) rfl (.inl rfl) (by walk_at "Y.eas") (show ∀ a b, R_l_put_right _ _ _ _ from fun a b => R_l_put_right.c1 hput)))) rfl) (fun hb => by cases hb) ?_
          intro _
          walk_at "Y.rho"
          walk_at "Y.nx"
          exact ⟨_, _, _, _, _, _, _, rfl, hpo.1, by omega⟩
        · walk_at "Y.nx"
          exact ⟨C, L, _, _, _, _, _, rfl, hl1, by omega⟩
    · rintro ρ' ⟨C, L, x8, x9, x10, x11, x12, rfl, hl1, hn1⟩
      have e1 : ((sortL L).map prD).length = L.length := by rw [List.length_map, sortL_len]
      have e2 : (kpV L).length = L.length := List.length_map ..
      exact s_retS q (d' := .bl true) (es_flat (eb_is (eb_op (eb_cb (eab_cons (eb_of (eo_methLT (T := livI part salt m C L) rfl liv_huI liv_ntI (by decide) eas_nil (R_Living_kept_Living.c1 hl1) prs_loneT) (ol_flat _ _)) eab_nil) o_lenL) (eb_cb (eab_cons (eb_ol (k := kpK L) (ds := kpV L) rfl) eab_nil) o_lenD) o_eqI) (by rw [e1, e2]; simp)) rfl) rfl
theorem txt {K : PySem.W.Frag} {h : Heap} {mg : Str → Option Value} (X : K.In h) (G : h.Ns mainGlobals mg) (c0 : obsX fa fn xbF K = (He.valD fn, true)) : Nonempty (Txt K mg) := by
  obtain ⟨c, xb⟩ := saysX c0
  obtain ⟨fd__wall, F__wall⟩ := c.def_ 0 (d := dd__wall) rfl
  obtain ⟨fd_NoKey_init, F_NoKey_init⟩ := c.def_ 1 (d := dd_NoKey_init) rfl
  obtain ⟨fd_NoValue_init, F_NoValue_init⟩ := c.def_ 2 (d := dd_NoValue_init) rfl
  obtain ⟨fd_summed, F_summed⟩ := c.def_ 3 (d := dd_summed) rfl
  obtain ⟨fd_is_key, F_is_key⟩ := c.def_ 4 (d := dd_is_key) rfl
  obtain ⟨fd_stamp, F_stamp⟩ := c.def_ 5 (d := dd_stamp) rfl
  obtain ⟨fd_mixed, F_mixed⟩ := c.def_ 6 (d := dd_mixed) rfl
  obtain ⟨fd_Living_init, F_Living_init⟩ := c.def_ 7 (d := dd_Living_init) rfl
  obtain ⟨fd_Living_places, F_Living_places⟩ := c.def_ 8 (d := dd_Living_places) rfl
  obtain ⟨fd_Living_table, F_Living_table⟩ := c.def_ 9 (d := dd_Living_table) rfl
  obtain ⟨fd_Living_kept, F_Living_kept⟩ := c.def_ 10 (d := dd_Living_kept) rfl
  obtain ⟨fd_Living_value, F_Living_value⟩ := c.def_ 11 (d := dd_Living_value) rfl
  obtain ⟨fd_Living_reached_from, F_Living_reached_from⟩ := c.def_ 12 (d := dd_Living_reached_from) rfl
  obtain ⟨fd_Living_shift, F_Living_shift⟩ := c.def_ 13 (d := dd_Living_shift) rfl
  obtain ⟨fd_Living_put, F_Living_put⟩ := c.def_ 14 (d := dd_Living_put) rfl
  obtain ⟨fd_Living_drop, F_Living_drop⟩ := c.def_ 15 (d := dd_Living_drop) rfl
  obtain ⟨fd_l_mix, F_l_mix⟩ := c.def_ 16 (d := dd_l_mix) rfl
  obtain ⟨fd_l_cell, F_l_cell⟩ := c.def_ 17 (d := dd_l_cell) rfl
  obtain ⟨fd_l_stamp, F_l_stamp⟩ := c.def_ 18 (d := dd_l_stamp) rfl
  obtain ⟨fd_l_mixed, F_l_mixed⟩ := c.def_ 19 (d := dd_l_mixed) rfl
  obtain ⟨fd_l_places, F_l_places⟩ := c.def_ 20 (d := dd_l_places) rfl
  obtain ⟨fd_l_text, F_l_text⟩ := c.def_ 21 (d := dd_l_text) rfl
  obtain ⟨fd_l_key, F_l_key⟩ := c.def_ 22 (d := dd_l_key) rfl
  obtain ⟨fd_l_raw, F_l_raw⟩ := c.def_ 23 (d := dd_l_raw) rfl
  obtain ⟨fd_l_sizes, F_l_sizes⟩ := c.def_ 24 (d := dd_l_sizes) rfl
  obtain ⟨fd_l_many, F_l_many⟩ := c.def_ 25 (d := dd_l_many) rfl
  obtain ⟨fd_l_deed, F_l_deed⟩ := c.def_ 26 (d := dd_l_deed) rfl
  obtain ⟨fd_l_put, F_l_put⟩ := c.def_ 27 (d := dd_l_put) rfl
  obtain ⟨fd_l_all_tables, F_l_all_tables⟩ := c.def_ 28 (d := dd_l_all_tables) rfl
  obtain ⟨fd_l_apart, F_l_apart⟩ := c.def_ 29 (d := dd_l_apart) rfl
  obtain ⟨fd_l_tells_all, F_l_tells_all⟩ := c.def_ 30 (d := dd_l_tells_all) rfl
  obtain ⟨fd_l_fewest, F_l_fewest⟩ := c.def_ 31 (d := dd_l_fewest) rfl
  obtain ⟨fd_l_put_right, F_l_put_right⟩ := c.def_ 32 (d := dd_l_put_right) rfl
  obtain ⟨fd_law, F_law⟩ := c.def_ 33 (d := dd_law) rfl
  obtain ⟨t_PRIME, k_PRIME⟩ := He.int_ok X G (c.fact 35 (f := .int "PRIME" 2305843009213693951) rfl)
  obtain ⟨t_SIGNS, k_SIGNS⟩ := He.str_ok X G (c.fact 36 (f := .str "SIGNS" "abcdefghijklmnopqrstuvwxyz0123456789-_ ") rfl)
  obtain ⟨t_MOST_NUMBER, k_MOST_NUMBER⟩ := He.int_ok X G (c.fact 37 (f := .int "MOST_NUMBER" 999999999999999999) rfl)
  obtain ⟨t_MOST_SIGNS, k_MOST_SIGNS⟩ := He.int_ok X G (c.fact 38 (f := .int "MOST_SIGNS" 11) rfl)
  exact ⟨{
    d__wall := ⟨_, fd__wall, F__wall, FunD.bindsN F__wall (fun _ _ _ _ _ _ us hl => match us, hl with | [_], _ => rfl)⟩,
    g__wall := He.glo_ok X G (c.fact 0 (f := .glo "_wall") rfl),
    d_NoKey_init := ⟨_, fd_NoKey_init, F_NoKey_init, FunD.bindsN F_NoKey_init (fun _ _ _ _ _ _ us hl => match us, hl with | [_, _], _ => rfl)⟩,
    d_NoValue_init := ⟨_, fd_NoValue_init, F_NoValue_init, FunD.bindsN F_NoValue_init (fun _ _ _ _ _ _ us hl => match us, hl with | [_, _], _ => rfl)⟩,
    d_summed := ⟨_, fd_summed, F_summed, FunD.bindsN F_summed (fun _ _ _ _ _ _ us hl => match us, hl with | [_, _, _], _ => rfl)⟩,
    g_summed := He.glo_ok X G (c.fact 1 (f := .glo "summed") rfl),
    d_is_key := ⟨_, fd_is_key, F_is_key, FunD.bindsN F_is_key (fun _ _ _ _ _ _ us hl => match us, hl with | [_], _ => rfl)⟩,
    g_is_key := He.glo_ok X G (c.fact 2 (f := .glo "is_key") rfl),
    d_stamp := ⟨_, fd_stamp, F_stamp, FunD.bindsN F_stamp (fun _ _ _ _ _ _ us hl => match us, hl with | [_], _ => rfl)⟩,
    g_stamp := He.glo_ok X G (c.fact 3 (f := .glo "stamp") rfl),
    d_mixed := ⟨_, fd_mixed, F_mixed, FunD.bindsN F_mixed (fun _ _ _ _ _ _ us hl => match us, hl with | [_, _, _], _ => rfl)⟩,
    g_mixed := He.glo_ok X G (c.fact 4 (f := .glo "mixed") rfl),
    d_Living_init := ⟨_, fd_Living_init, F_Living_init, FunD.bindsN F_Living_init (fun _ _ _ _ _ _ us hl => match us, hl with | [_, _, _, _], _ => rfl)⟩,
    d_Living_places := ⟨_, fd_Living_places, F_Living_places, FunD.bindsN F_Living_places (fun _ _ _ _ _ _ us hl => match us, hl with | [_, _], _ => rfl)⟩,
    d_Living_table := ⟨_, fd_Living_table, F_Living_table, FunD.bindsN F_Living_table (fun _ _ _ _ _ _ us hl => match us, hl with | [_], _ => rfl)⟩,
    d_Living_kept := ⟨_, fd_Living_kept, F_Living_kept, FunD.bindsN F_Living_kept (fun _ _ _ _ _ _ us hl => match us, hl with | [_], _ => rfl)⟩,
    d_Living_value := ⟨_, fd_Living_value, F_Living_value, FunD.bindsN F_Living_value (fun _ _ _ _ _ _ us hl => match us, hl with | [_, _], _ => rfl)⟩,
    d_Living_reached_from := ⟨_, fd_Living_reached_from, F_Living_reached_from, FunD.bindsN F_Living_reached_from (fun _ _ _ _ _ _ us hl => match us, hl with | [_, _, _], _ => rfl)⟩,
    d_Living_shift := ⟨_, fd_Living_shift, F_Living_shift, FunD.bindsN F_Living_shift (fun _ _ _ _ _ _ us hl => match us, hl with | [_, _, _, _], _ => rfl)⟩,
    d_Living_put := ⟨_, fd_Living_put, F_Living_put, FunD.bindsN F_Living_put (fun _ _ _ _ _ _ us hl => match us, hl with | [_, _, _], _ => rfl)⟩,
    d_Living_drop := ⟨_, fd_Living_drop, F_Living_drop, FunD.bindsN F_Living_drop (fun _ _ _ _ _ _ us hl => match us, hl with | [_, _], _ => rfl)⟩,
    d_l_mix := ⟨_, fd_l_mix, F_l_mix, FunD.bindsN F_l_mix (fun _ _ _ _ _ _ us hl => match us, hl with | [_, _], _ => rfl)⟩,
    g_l_mix := He.glo_ok X G (c.fact 5 (f := .glo "_law_mix") rfl),
    d_l_cell := ⟨_, fd_l_cell, F_l_cell, FunD.bindsN F_l_cell (fun _ _ _ _ _ _ us hl => match us, hl with | [_, _], _ => rfl)⟩,
    g_l_cell := He.glo_ok X G (c.fact 6 (f := .glo "_law_cell") rfl),
    d_l_stamp := ⟨_, fd_l_stamp, F_l_stamp, FunD.bindsN F_l_stamp (fun _ _ _ _ _ _ us hl => match us, hl with | [_], _ => rfl)⟩,
    g_l_stamp := He.glo_ok X G (c.fact 7 (f := .glo "_law_stamp") rfl),
    d_l_mixed := ⟨_, fd_l_mixed, F_l_mixed, FunD.bindsN F_l_mixed (fun _ _ _ _ _ _ us hl => match us, hl with | [_, _, _], _ => rfl)⟩,
    g_l_mixed := He.glo_ok X G (c.fact 8 (f := .glo "_law_mixed") rfl),
    d_l_places := ⟨_, fd_l_places, F_l_places, FunD.bindsN F_l_places (fun _ _ _ _ _ _ us hl => match us, hl with | [_, _], _ => rfl)⟩,
    g_l_places := He.glo_ok X G (c.fact 9 (f := .glo "_law_places") rfl),
    d_l_text := ⟨_, fd_l_text, F_l_text, FunD.bindsN F_l_text (fun _ _ _ _ _ _ us hl => match us, hl with | [_], _ => rfl)⟩,
    g_l_text := He.glo_ok X G (c.fact 10 (f := .glo "_law_text") rfl),
    d_l_key := ⟨_, fd_l_key, F_l_key, FunD.bindsN F_l_key (fun _ _ _ _ _ _ us hl => match us, hl with | [_], _ => rfl)⟩,
    g_l_key := He.glo_ok X G (c.fact 11 (f := .glo "_law_key") rfl),
    d_l_raw := ⟨_, fd_l_raw, F_l_raw, FunD.bindsN F_l_raw (fun _ _ _ _ _ _ us hl => match us, hl with | [_, _], _ => rfl)⟩,
    g_l_raw := He.glo_ok X G (c.fact 12 (f := .glo "_law_raw") rfl),
    d_l_sizes := ⟨_, fd_l_sizes, F_l_sizes, FunD.bindsN F_l_sizes (fun _ _ _ _ _ _ us hl => match us, hl with | [_, _], _ => rfl)⟩,
    g_l_sizes := He.glo_ok X G (c.fact 13 (f := .glo "_law_sizes") rfl),
    d_l_many := ⟨_, fd_l_many, F_l_many, FunD.bindsN F_l_many (fun _ _ _ _ _ _ us hl => match us, hl with | [_, _, _], _ => rfl)⟩,
    g_l_many := He.glo_ok X G (c.fact 14 (f := .glo "_law_many") rfl),
    d_l_deed := ⟨_, fd_l_deed, F_l_deed, FunD.bindsN F_l_deed (fun _ _ _ _ _ _ us hl => match us, hl with | [_, _, _, _, _], _ => rfl)⟩,
    g_l_deed := He.glo_ok X G (c.fact 15 (f := .glo "_law_deed") rfl),
    d_l_put := ⟨_, fd_l_put, F_l_put, FunD.bindsN F_l_put (fun _ _ _ _ _ _ us hl => match us, hl with | [_, _, _], _ => rfl)⟩,
    g_l_put := He.glo_ok X G (c.fact 16 (f := .glo "_law_put") rfl),
    d_l_all_tables := ⟨_, fd_l_all_tables, F_l_all_tables, FunD.bindsN F_l_all_tables (fun _ _ _ _ _ _ us hl => match us, hl with | [_, _], _ => rfl)⟩,
    g_l_all_tables := He.glo_ok X G (c.fact 17 (f := .glo "_law_all_tables") rfl),
    d_l_apart := ⟨_, fd_l_apart, F_l_apart, FunD.bindsN F_l_apart (fun _ _ _ _ _ _ us hl => match us, hl with | [_, _], _ => rfl)⟩,
    g_l_apart := He.glo_ok X G (c.fact 18 (f := .glo "_law_apart") rfl),
    d_l_tells_all := ⟨_, fd_l_tells_all, F_l_tells_all, FunD.bindsN F_l_tells_all (fun _ _ _ _ _ _ us hl => match us, hl with | [_, _, _], _ => rfl)⟩,
    g_l_tells_all := He.glo_ok X G (c.fact 19 (f := .glo "_law_tells_all") rfl),
    d_l_fewest := ⟨_, fd_l_fewest, F_l_fewest, FunD.bindsN F_l_fewest (fun _ _ _ _ _ _ us hl => match us, hl with | [_, _, _, _], _ => rfl)⟩,
    g_l_fewest := He.glo_ok X G (c.fact 20 (f := .glo "_law_fewest") rfl),
    d_l_put_right := ⟨_, fd_l_put_right, F_l_put_right, FunD.bindsN F_l_put_right (fun _ _ _ _ _ _ us hl => match us, hl with | [_, _, _, _, _, _], _ => rfl)⟩,
    g_l_put_right := He.glo_ok X G (c.fact 21 (f := .glo "_law_put_right") rfl),
    d_law := ⟨_, fd_law, F_law, FunD.bindsN F_law (fun _ _ _ _ _ _ us hl => match us, hl with | [_], _ => rfl)⟩,
    g_law := He.glo_ok X G (c.fact 22 (f := .glo "law") rfl),
    z_ValueError := He.free_ok X G (c.fact 23 (f := .free "ValueError") rfl),
    z_bool := He.free_ok X G (c.fact 24 (f := .free "bool") rfl),
    z_dict := He.free_ok X G (c.fact 25 (f := .free "dict") rfl),
    z_enumerate := He.free_ok X G (c.fact 26 (f := .free "enumerate") rfl),
    z_int := He.free_ok X G (c.fact 27 (f := .free "int") rfl),
    z_isinstance := He.free_ok X G (c.fact 28 (f := .free "isinstance") rfl),
    z_len := He.free_ok X G (c.fact 29 (f := .free "len") rfl),
    z_list := He.free_ok X G (c.fact 30 (f := .free "list") rfl),
    z_max := He.free_ok X G (c.fact 31 (f := .free "max") rfl),
    z_min := He.free_ok X G (c.fact 32 (f := .free "min") rfl),
    z_range := He.free_ok X G (c.fact 33 (f := .free "range") rfl),
    z_sorted := He.free_ok X G (c.fact 34 (f := .free "sorted") rfl),
    t_PRIME := t_PRIME,
    k_PRIME := k_PRIME,
    t_SIGNS := t_SIGNS,
    k_SIGNS := k_SIGNS,
    t_MOST_NUMBER := t_MOST_NUMBER,
    k_MOST_NUMBER := k_MOST_NUMBER,
    t_MOST_SIGNS := t_MOST_SIGNS,
    k_MOST_SIGNS := k_MOST_SIGNS,
    c_LodgeError := He.glo_ok X G (c.fact 39 (f := .glo "LodgeError") rfl),
    xc_LodgeError := excB_ok (xbat xb 0 rfl),
    xf_LodgeError := let z := excB_ok (xbat xb 0 rfl); ⟨z.hg, z.hk, z.hs, z.hd⟩,
    xi_LodgeError := (He.exc_ok (c.fact 40 (f := .exc "LodgeError") rfl)).1,
    kp_LodgeError := (He.exc_ok (c.fact 40 (f := .exc "LodgeError") rfl)).2.1,
    bs_LodgeError := (He.exc_ok (c.fact 40 (f := .exc "LodgeError") rfl)).2.2.1,
    ty_LodgeError := (He.exc_ok (c.fact 40 (f := .exc "LodgeError") rfl)).2.2.2,
    c_NoKey := He.glo_ok X G (c.fact 41 (f := .glo "NoKey") rfl),
    xc_NoKey := excB_ok (xbat xb 1 rfl),
    xf_NoKey := let z := excB_ok (xbat xb 1 rfl); ⟨z.hg, z.hk, z.hs, z.hd⟩,
    ox_NoKey := oexB_ok (xbat xb 2 rfl),
    i_NoKey := (He.meth_ok (c.fact 43 (f := .meth "NoKey" "__init__") rfl)).at_,
    it_NoKey := beq_iff_eq.mp (He.meth_ok (c.fact 43 (f := .meth "NoKey" "__init__") rfl)).fn,
    na_NoKey := He.noat_ok (c.fact 42 (f := .noat "NoKey" "at") rfl),
    c_NoValue := He.glo_ok X G (c.fact 44 (f := .glo "NoValue") rfl),
    xc_NoValue := excB_ok (xbat xb 3 rfl),
    xf_NoValue := let z := excB_ok (xbat xb 3 rfl); ⟨z.hg, z.hk, z.hs, z.hd⟩,
    ox_NoValue := oexB_ok (xbat xb 4 rfl),
    i_NoValue := (He.meth_ok (c.fact 46 (f := .meth "NoValue" "__init__") rfl)).at_,
    it_NoValue := beq_iff_eq.mp (He.meth_ok (c.fact 46 (f := .meth "NoValue" "__init__") rfl)).fn,
    na_NoValue := He.noat_ok (c.fact 45 (f := .noat "NoValue" "at") rfl),
    c_Stuck := He.glo_ok X G (c.fact 47 (f := .glo "Stuck") rfl),
    xc_Stuck := excB_ok (xbat xb 5 rfl),
    xf_Stuck := let z := excB_ok (xbat xb 5 rfl); ⟨z.hg, z.hk, z.hs, z.hd⟩,
    xi_Stuck := (He.exc_ok (c.fact 48 (f := .exc "Stuck") rfl)).1,
    kp_Stuck := (He.exc_ok (c.fact 48 (f := .exc "Stuck") rfl)).2.1,
    bs_Stuck := (He.exc_ok (c.fact 48 (f := .exc "Stuck") rfl)).2.2.1,
    ty_Stuck := (He.exc_ok (c.fact 48 (f := .exc "Stuck") rfl)).2.2.2,
    c_NoSuch := He.glo_ok X G (c.fact 49 (f := .glo "NoSuch") rfl),
    xc_NoSuch := excB_ok (xbat xb 6 rfl),
    xf_NoSuch := let z := excB_ok (xbat xb 6 rfl); ⟨z.hg, z.hk, z.hs, z.hd⟩,
    xi_NoSuch := (He.exc_ok (c.fact 50 (f := .exc "NoSuch") rfl)).1,
    kp_NoSuch := (He.exc_ok (c.fact 50 (f := .exc "NoSuch") rfl)).2.1,
    bs_NoSuch := (He.exc_ok (c.fact 50 (f := .exc "NoSuch") rfl)).2.2.1,
    ty_NoSuch := (He.exc_ok (c.fact 50 (f := .exc "NoSuch") rfl)).2.2.2,
    em_Stuck_Stuck := He.exm_ok (c.fact 51 (f := .exm "Stuck" "Stuck" true) rfl),
    c_Living := He.glo_ok X G (c.fact 52 (f := .glo "Living") rfl),
    cl_Living := He.cls_ok (xbat xb 7 rfl),
    me_Living_drop := methB_ok (xbat xb 8 rfl),
    me_Living_kept := methB_ok (xbat xb 9 rfl),
    me_Living_places := methB_ok (xbat xb 10 rfl),
    me_Living_put := methB_ok (xbat xb 11 rfl),
    me_Living_reached_from := methB_ok (xbat xb 12 rfl),
    me_Living_shift := methB_ok (xbat xb 13 rfl),
    me_Living_table := methB_ok (xbat xb 14 rfl),
    me_Living_value := methB_ok (xbat xb 15 rfl),
    mk_Living := mkB_ok (xbat xb 16 rfl),
    nt_Living_cells := He.noat_ok (xbat xb 17 rfl),
    nt_Living_lodgers := He.noat_ok (xbat xb 18 rfl),
    nt_Living_modulus := He.noat_ok (xbat xb 19 rfl),
    nt_Living_part := He.noat_ok (xbat xb 20 rfl),
    nt_Living_salting := He.noat_ok (xbat xb 21 rfl)}⟩
theorem walk_end {l : PySem.W.OpenLaw} {n k : Nat} {q : Program} {loose : List Str} {XP : (Str → Option Value) → Heap → Prop} {YP : World → Heap → Prop} {d : DefRec} {CX : World → CXT} {x : Str}
    (hn : l.most = some n) (hs : n ≤ sizeLine) (hd : d.params.defaults = []) (hr : Room k callerA)
    (F : ∀ (w : World) (mg : Str → Option Value) (fa : Addr) (h : Heap), YP w h → h.Ns mainGlobals mg → mg d.name = some (.ref fa) → ∃ (K : PySem.W.Frag) (fd : FuncData) (sp : Sp), K.In h ∧
      (∀ (s : Shared) (u : Value), BindsTo s fd ⟨[u], []⟩ [(x, u)]) ∧ (∀ (H : Hp) (a : Addr) (ns : List Int), ns.length ≤ n → SqL K H a (ns.map V.int) → sp [.ref a] H (fun v _ => v = .bl true) fun _ _ _ => False) ∧
      ∀ base : Heap, K.In base → base.Ns mainGlobals mg → FnOk l.prog w K mg base (CX w) k fa fd [x] sp)
    (hx : ∀ (w : World) (H : Hp) (s : Shared) (e : Value) (t : Shared), CX w [] H s (fun _ _ _ => False) e t → False) : PySem.W.WalkO q loose XP YP l.row.toRowW d [] (fun f vs => PySem.call f vs) :=
  Att.attach_call hn hd fun w _ st mg _ fa _ _ _ _ a _ ns G Y _ _ _ hm ho hi hl hg => by
    obtain ⟨K, fd, sp, X, hb, hp, ok⟩ := F w mg fa _ Y G.T.g hm
    exact law_call X G.T.g G.T.b G.T.builtins G.T.nolimit hg ho hi (Nat.le_trans hl hs) hr ok hb (fun H _ h => hp H a ns hl h) fun H e t => hx w H st e t
end Ly
open PySem PySem.W PySem.Calls PyProof.Rows
theorem PySem.Challenge.cw_lodge_k72_fewest_changes_holds : PySem.Challenge.rw_lodge_k72_fewest_changes.Holds := by
  w_on; o_law
  refine HandSHeadRun.head_any (r := OpenLaw.row PySem.Challenge.rw_lodge_k72_fewest_changes) (q := view (OpenLaw.row PySem.Challenge.rw_lodge_k72_fewest_changes).prog [37]) (H := Ly.hk) (ob := Ly.ob) (M := 17200) (loose := Ly.ls) (d := HandSHeadRun.topDef (OpenLaw.row PySem.Challenge.rw_lodge_k72_fewest_changes).prog 37) (kwd := []) Ly.ob_eq
    (by kernel_rfl) (fun s => by kernel_rfl) Ly.run (by kernel_rfl) (by kernel_rfl) (by kernel_rfl) (by rfl) (by first | assumption | decide +kernel) (by decide +kernel) ⟨rfl, rfl, rfl, rfl, rfl, by decide +kernel⟩ ?hw ?hc
  case hw => w_witness2
  case hc =>
    refine Ly.walk_end (l := PySem.Challenge.rw_lodge_k72_fewest_changes) (n := 63) (k := 9) (x := "_law_script") (CX := L2.CX PySem.Challenge.rw_lodge_k72_fewest_changes.prog) rfl (by decide) (by kernel_rfl) ⟨rfl, by decide, by decide⟩ ?F (fun w H s e t z => by
      obtain ⟨_, _, _, _, _, _, _, _, _, _, _, _, z⟩ := z
      exact z)
    intro w mg fa h Y G hmg0
    obtain ⟨K, KX, c⟩ := Y
    have hmg : mg ("law" : PySem.Str) = some (.ref fa) := by
      have e : (HandSHeadRun.topDef (OpenLaw.row PySem.Challenge.rw_lodge_k72_fewest_changes).prog 37).name = ("law" : PySem.Str) := by kernel_rfl
      rw [← e]
      exact hmg0
    obtain ⟨T⟩ := Ly.txt KX G c
    have e := hmg.symm.trans T.g_law
    cases e
    have b := L2.FunD.bindsA (ps := ["_law_script"]) T.d_law.F fun _ _ _ _ _ _ us hl => match us, hl with | [_], _ => rfl
    exact ⟨K, T.d_law.fd, Ly.SpD K Ly.R_law, KX, fun s v => b s [v] rfl, fun H a ns hl hS => Ly.spd_law (Ly.R_law.c1 hl) hS, fun base _ _ => Ly.ok_law T⟩
