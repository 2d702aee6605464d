import PyProof.Rows.All
import Wide.All
import OpenK.AllK
import Wide.FinOn
import HandS.ForMost
import HandS.Exc
import HandS.Wide
import HandS.TupAny
import HandS.Gcd
import HandS.Style
import HandS.IsInst
import PyProof.MaxThree
import HandS.NoneIn
import HandS.Defaults
import KE.GoesNew
import HandS.Zip
import KE.DataFind
import HandS.Deep
import HandS.More
import HandS.Set
import HandS.SetFor
import HandS.SortRule
import HandS.TupSets
import HandS.SetBool
import HandS.RevTup
import HandS.Rev
import HandS.Remove
import HandS.HeadEnd
import HandS.HeadHook2
import HandS.Head3
import KE.KStateDown
import PySem.Challenge.RW_windfigure_k27_whole_never_later_on_any
open PySem L2
set_option Elab.async false
set_option linter.all false
set_option maxRecDepth 100000
set_option maxHeartbeats 1000000
/-! # The windfigure layer, part 1: data, heaps, judgements, calls -/
namespace WF
open PySem PySem.Spec PyProof.Rows L2

/-- data in line: tuples and lists that no one changes any more are values; a list that is still changed is a reference -/
inductive D where
  | non | bl (b : Bool) | int (i : Int) | str (s : Str) | tup (ds : List D) | lst (ds : List D) | ref (a : Addr) | ty (n : String)

/-- the lists that may still change -/
abbrev AH := Addr → Option (List D)
def AH.set (h : AH) (a : Addr) (ds : List D) : AH := fun b => if b = a then some ds else h b
def AH.del (h : AH) (a : Addr) : AH := fun b => if b = a then none else h b
theorem AH.set_same {h : AH} {a : Addr} {ds : List D} : h.set a ds a = some ds := if_pos rfl
theorem AH.set_ne {h : AH} {a b : Addr} {ds : List D} (n : b ≠ a) : h.set a ds b = h b := if_neg n
theorem AH.del_same {h : AH} {a : Addr} : h.del a a = none := if_pos rfl
theorem AH.del_ne {h : AH} {a b : Addr} (n : b ≠ a) : h.del a b = h b := if_neg n
theorem AH.set_set {h : AH} {a : Addr} {ds es : List D} : (h.set a ds).set a es = h.set a es := by
  funext b
  unfold AH.set
  split <;> rfl
theorem AH.set_del {h : AH} {a : Addr} {ds : List D} (n : h a = none) : (h.set a ds).del a = h := by
  funext b
  unfold AH.del AH.set
  by_cases e : b = a
  · subst e
    rw [if_pos rfl, n]
  · rw [if_neg e, if_neg e]

/-- a list that no one changes: not among those of h; or one of the written part -/
def SL (K : PySem.W.Frag) (Z : List Addr) (h : AH) (H : Hp) (a : Addr) (xs : List V) : Prop :=
  (Rd H a (.lst xs) ∧ h a = none ∧ a ∉ Z) ∨ (SqL K (fun _ => none) a xs)
theorem SL.sq {K : PySem.W.Frag} {Z : List Addr} {h : AH} {H : Hp} {a : Addr} {xs : List V} (s : SL K Z h H a xs) : SqL K H a xs := by
  rcases s with s | s
  · exact .inl s.1
  · rcases s with s | s
    · rcases s with s | ⟨_, s⟩ <;> cases s
    · exact .inr s
section
variable (K : PySem.W.Frag) (Z : List Addr) (h : AH) (H : Hp)
mutual
/-- v stands for d in the abstract heap H, h being what may still change -/
def RD : D → V → Prop
  | .non, v => v = .non
  | .bl b, v => v = .bl b
  | .int i, v => v = .int i
  | .str s, v => v = .str s
  | .ty n, v => v = .ty n
  | .ref a, v => v = .ref a
  | .tup ds, v => ∃ a xs, v = .ref a ∧ SqT K H a xs ∧ RDs ds xs
  | .lst ds, v => ∃ a xs, v = .ref a ∧ SL K Z h H a xs ∧ RDs ds xs
def RDs : List D → List V → Prop
  | [], xs => xs = []
  | d :: ds, xs => ∃ y ys, xs = y :: ys ∧ RD d y ∧ RDs ds ys
end
/-- the lists of h stand in H -/
structure RH : Prop where
  at_ : ∀ a ds, h a = some ds → ∃ xs, H a = some (.lst xs) ∧ RDs K Z h H ds xs
  zk : ∀ a ∈ Z, H a ≠ none ∧ h a = none
end
/-- what h does not hold stays -/
def Kp (h : AH) (H : Hp) (h' : AH) (H' : Hp) : Prop := ∀ a, h a = none → (∀ o, H a = some o → H' a = some o ∧ h' a = none)
theorem Kp.refl {h : AH} {H : Hp} : Kp h H h H := fun a n o e => ⟨e, n⟩
theorem Kp.trans {h h1 h2 : AH} {H H1 H2 : Hp} (p : Kp h H h1 H1) (q : Kp h1 H1 h2 H2) : Kp h H h2 H2 := fun a n o e =>
  let ⟨e1, n1⟩ := p a n o e
  q a n1 o e1

section
variable {K : PySem.W.Frag} {Z : List Addr} {h h' : AH} {H H' : Hp}
theorem RDs.length : ∀ {ds : List D} {xs : List V}, RDs K Z h H ds xs → ds.length = xs.length
  | [], _, e => by
    simp only [RDs] at e
    rw [e]
    rfl
  | d :: ds, _, e => by
    simp only [RDs] at e
    obtain ⟨y, ys, rfl, _, r⟩ := e
    simp [RDs.length r]
theorem RDs.get : ∀ {ds : List D} {xs : List V} {i : Nat} {d : D}, RDs K Z h H ds xs → ds[i]? = some d → ∃ x, xs[i]? = some x ∧ RD K Z h H d x
  | [], _, i, d, e, q => by simp at q
  | d0 :: ds, _, 0, d, e, q => by
    simp only [RDs] at e
    obtain ⟨y, ys, rfl, r, _⟩ := e
    simp at q
    subst q
    exact ⟨y, rfl, r⟩
  | d0 :: ds, _, i + 1, d, e, q => by
    simp only [RDs] at e
    obtain ⟨y, ys, rfl, _, r⟩ := e
    simpa using RDs.get r (by simpa using q)
theorem RDs.append : ∀ {ds es : List D} {xs ys : List V}, RDs K Z h H ds xs → RDs K Z h H es ys → RDs K Z h H (ds ++ es) (xs ++ ys)
  | [], es, _, ys, e, q => by
    simp only [RDs] at e
    subst e
    exact q
  | d :: ds, es, _, ys, e, q => by
    simp only [RDs] at e
    obtain ⟨y, zs, rfl, r, t⟩ := e
    exact ⟨y, zs ++ ys, rfl, r, RDs.append t q⟩
theorem RDs.one {d : D} {v : V} (r : RD K Z h H d v) : RDs K Z h H [d] [v] := ⟨v, [], rfl, r, rfl⟩
theorem RDs.take : ∀ (n : Nat) {ds : List D} {xs : List V}, RDs K Z h H ds xs → RDs K Z h H (ds.take n) (xs.take n)
  | 0, _, _, _ => rfl
  | n + 1, [], _, e => by
    simp only [RDs] at e
    subst e
    rfl
  | n + 1, d :: ds, _, e => by
    simp only [RDs] at e
    obtain ⟨y, ys, rfl, r, t⟩ := e
    exact ⟨y, ys.take n, rfl, r, RDs.take n t⟩
theorem RDs.drop : ∀ (n : Nat) {ds : List D} {xs : List V}, RDs K Z h H ds xs → RDs K Z h H (ds.drop n) (xs.drop n)
  | 0, _, _, e => e
  | n + 1, [], _, e => by
    simp only [RDs] at e
    subst e
    rfl
  | n + 1, d :: ds, _, e => by
    simp only [RDs] at e
    obtain ⟨y, ys, rfl, r, t⟩ := e
    exact RDs.drop n t
theorem RDs.reverse : ∀ {ds : List D} {xs : List V}, RDs K Z h H ds xs → RDs K Z h H ds.reverse xs.reverse
  | [], _, e => by
    simp only [RDs] at e
    subst e
    rfl
  | d :: ds, _, e => by
    simp only [RDs] at e
    obtain ⟨y, ys, rfl, r, t⟩ := e
    rw [List.reverse_cons, List.reverse_cons]
    exact RDs.append (RDs.reverse t) (RDs.one r)
theorem RDs.set : ∀ (i : Nat) {ds : List D} {xs : List V} {d : D} {v : V}, RDs K Z h H ds xs → RD K Z h H d v → RDs K Z h H (ds.set i d) (xs.set i v)
  | _, [], _, _, _, e, _ => by
    simp only [RDs] at e
    subst e
    rfl
  | 0, d0 :: ds, _, _, _, e, q => by
    simp only [RDs] at e
    obtain ⟨y, ys, rfl, r, t⟩ := e
    exact ⟨_, ys, rfl, q, t⟩
  | i + 1, d0 :: ds, _, _, _, e, q => by
    simp only [RDs] at e
    obtain ⟨y, ys, rfl, r, t⟩ := e
    exact ⟨y, ys.set i _, rfl, r, RDs.set i t q⟩
theorem RDs.eraseIdx : ∀ (i : Nat) {ds : List D} {xs : List V}, RDs K Z h H ds xs → RDs K Z h H (ds.eraseIdx i) (xs.eraseIdx i)
  | _, [], _, e => by
    simp only [RDs] at e
    subst e
    rfl
  | 0, d0 :: ds, _, e => by
    simp only [RDs] at e
    obtain ⟨y, ys, rfl, r, t⟩ := e
    exact t
  | i + 1, d0 :: ds, _, e => by
    simp only [RDs] at e
    obtain ⟨y, ys, rfl, r, t⟩ := e
    exact ⟨y, ys.eraseIdx i, rfl, r, RDs.eraseIdx i t⟩

/-- what h holds are lists -/
def NL (h : AH) (H : Hp) : Prop := ∀ a ds, h a = some ds → ∃ xs, H a = some (.lst xs)
theorem RH.nl (R : RH K Z h H) : NL h H := fun a ds e => let ⟨xs, e1, _⟩ := R.at_ a ds e; ⟨xs, e1⟩
theorem NL.none (n : NL h H) {a : Addr} {o : HO} (e : H a = some o) (d : ∀ xs, o ≠ .lst xs) : h a = none := by
  cases q : h a with
  | none => rfl
  | some ds =>
    obtain ⟨ys, z⟩ := n a ds q
    rw [e] at z
    cases z
    exact absurd rfl (d ys)
theorem SqT.keep (n : NL h H) (k : Kp h H h' H') {a : Addr} {xs : List V} (q : SqT K H a xs) : SqT K H' a xs := by
  rcases q with q | q
  · rcases q with q | ⟨o, q⟩
    · exact .inl (.inl (k a (n.none q (fun _ z => by cases z)) _ q).1)
    · exact .inl (.inr ⟨o, (k a (n.none q (fun _ z => by cases z)) _ q).1⟩)
  · exact .inr q
theorem SL.keep (k : Kp h H h' H') {a : Addr} {xs : List V} (q : SL K Z h H a xs) : SL K Z h' H' a xs := by
  rcases q with ⟨q, n, z⟩ | q
  · rcases q with q | ⟨o, q⟩
    · exact .inl ⟨.inl (k a n _ q).1, (k a n _ q).2, z⟩
    · exact .inl ⟨.inr ⟨o, (k a n _ q).1⟩, (k a n _ q).2, z⟩
  · exact .inr q
mutual
theorem RD.keepN (n : NL h H) (k : Kp h H h' H') : ∀ {d : D} {v : V}, RD K Z h H d v → RD K Z h' H' d v
  | .non, _, e => e
  | .bl _, _, e => e
  | .int _, _, e => e
  | .str _, _, e => e
  | .ty _, _, e => e
  | .ref _, _, e => e
  | .tup ds, _, e => by
    simp only [RD] at e ⊢
    obtain ⟨a, xs, e1, e2, e3⟩ := e
    exact ⟨a, xs, e1, SqT.keep n k e2, RDs.keepN n k e3⟩
  | .lst ds, _, e => by
    simp only [RD] at e ⊢
    obtain ⟨a, xs, e1, e2, e3⟩ := e
    exact ⟨a, xs, e1, e2.keep k, RDs.keepN n k e3⟩
theorem RDs.keepN (n : NL h H) (k : Kp h H h' H') : ∀ {ds : List D} {xs : List V}, RDs K Z h H ds xs → RDs K Z h' H' ds xs
  | [], _, e => e
  | d :: ds, _, e => by
    simp only [RDs] at e ⊢
    obtain ⟨y, ys, e1, e2, e3⟩ := e
    exact ⟨y, ys, e1, RD.keepN n k e2, RDs.keepN n k e3⟩
end
theorem RD.keep (R : RH K Z h H) (k : Kp h H h' H') {d : D} {v : V} (r : RD K Z h H d v) : RD K Z h' H' d v := RD.keepN R.nl k r
theorem RDs.keep (R : RH K Z h H) (k : Kp h H h' H') {d : List D} {v : List V} (r : RDs K Z h H d v) : RDs K Z h' H' d v := RDs.keepN R.nl k r
/-! ### steps of the heap -/
/-- a new object that h does not hold -/
theorem Kp.laid {p : Addr} {o : HO} (n : H p = none) : Kp h H h (upd H p o) := fun a na u e => by
  rw [upd_ne (ne_of_none e n)]
  exact ⟨e, na⟩
theorem RH.laid (R : RH K Z h H) {p : Addr} {o : HO} (n : H p = none) : RH K Z h (upd H p o) := by
  refine ⟨fun a ds e => ?_, fun a m => ⟨fun e => (R.zk a m).1 ?_, (R.zk a m).2⟩⟩
  rotate_left
  · by_cases z : a = p
    · subst z; exact n
    · rw [upd_ne z] at e; exact e
  obtain ⟨xs, e1, r⟩ := R.at_ a ds e
  refine ⟨xs, ?_, RDs.keep R (Kp.laid n) r⟩
  rw [upd_ne (ne_of_none e1 n)]
  exact e1
/-- a list of h is changed, or a new one is laid among them -/
theorem Kp.put {p : Addr} {ds : List D} {xs : List V} (c : h p ≠ none ∨ H p = none) : Kp h H (h.set p ds) (upd H p (.lst xs)) := fun a na u e => by
  have ne : a ≠ p := fun z => by
    subst z
    rcases c with c | c
    · exact c na
    · rw [c] at e; cases e
  rw [upd_ne ne, AH.set_ne ne]
  exact ⟨e, na⟩
theorem RH.put (R : RH K Z h H) {p : Addr} {ds : List D} {xs : List V} (c : h p ≠ none ∨ H p = none) (r : RDs K Z h H ds xs) : RH K Z (h.set p ds) (upd H p (.lst xs)) := by
  have zp : ∀ a ∈ Z, a ≠ p := fun a m z => by
    subst z
    rcases c with c | c
    · exact c (R.zk a m).2
    · exact (R.zk a m).1 c
  refine ⟨fun a es e => ?_, fun a m => ⟨by rw [upd_ne (zp a m)]; exact (R.zk a m).1, by rw [AH.set_ne (zp a m)]; exact (R.zk a m).2⟩⟩
  by_cases z : a = p
  · subst z
    rw [AH.set_same] at e
    cases e
    exact ⟨xs, upd_same, RDs.keep R (Kp.put c) r⟩
  · rw [AH.set_ne z] at e
    obtain ⟨ys, e1, q⟩ := R.at_ a es e
    exact ⟨ys, by rw [upd_ne z]; exact e1, RDs.keep R (Kp.put c) q⟩
/-- a list of h is changed no more: it is a value from now on -/
theorem Kp.del {p : Addr} : Kp h H (h.del p) H := fun a na u e => ⟨e, by
  by_cases z : a = p
  · subst z; exact AH.del_same
  · rw [AH.del_ne z]; exact na⟩
theorem RH.del (R : RH K Z h H) {p : Addr} : RH K Z (h.del p) H := by
  refine ⟨fun a es e => ?_, fun a m => ⟨(R.zk a m).1, ?_⟩⟩
  rotate_left
  · by_cases z : a = p
    · subst z; exact AH.del_same
    · rw [AH.del_ne z]; exact (R.zk a m).2
  by_cases z : a = p
  · subst z
    rw [AH.del_same] at e
    cases e
  · rw [AH.del_ne z] at e
    obtain ⟨ys, e1, q⟩ := R.at_ a es e
    exact ⟨ys, e1, RDs.keep R Kp.del q⟩
theorem RD.frozen (R : RH K Z h H) {p : Addr} {ds : List D} (e : h p = some ds) : RD K Z (h.del p) H (.lst ds) (.ref p) := by
  obtain ⟨xs, e1, r⟩ := R.at_ p ds e
  exact ⟨p, xs, rfl, (.inl ⟨.inl e1, AH.del_same, fun m => by rw [(R.zk p m).2] at e; cases e⟩), RDs.keep R Kp.del r⟩
end

/-! ### readings over data -/
abbrev ASt := List (Option D)
abbrev AQ := D → AH → Prop
abbrev XQ := Str → D → AH → Prop
abbrev ATE := ASt → AH → AQ → Prop
abbrev ATT := ASt → AH → (Bool → AH → Prop) → Prop
abbrev ATA := ASt → AH → (List D → AH → Prop) → Prop
structure AEnds where
  nx : ASt → AH → Prop
  rt : AQ
  bk : ASt → AH → Prop := fun _ _ => False
  ct : ASt → AH → Prop := fun _ _ => False
abbrev ATS := AEnds → ASt → AH → Prop
/-- a def's promise -/
abbrev ASp := List D → AH → AQ → XQ → Prop
abbrev noX : XQ := fun _ _ _ => False

/-- the slots -/
def RS (K : PySem.W.Frag) (Z : List Addr) (h : AH) (H : Hp) (σa : ASt) (σ : L2.St) : Prop := σa.length = σ.length ∧ ∀ (i : Nat) (d : D), σa[i]? = some (some d) → ∃ v, σ[i]? = some (some v) ∧ RD K Z h H d v
section
variable {K : PySem.W.Frag} {Z : List Addr} {h h' : AH} {H H' : Hp} {σa : ASt} {σ : L2.St}
theorem RS.keep (R : RH K Z h H) (k : Kp h H h' H') (r : RS K Z h H σa σ) : RS K Z h' H' σa σ := ⟨r.1, fun i d e =>
  let ⟨v, e1, q⟩ := r.2 i d e
  ⟨v, e1, RD.keep R k q⟩⟩
theorem RS.put (r : RS K Z h H σa σ) {i : Nat} {d : D} {v : V} (q : RD K Z h H d v) : RS K Z h H (σa.set i (some d)) (σ.set i (some v)) := by
  refine ⟨by rw [List.length_set, List.length_set]; exact r.1, fun j e z => ?_⟩
  by_cases hj : i = j
  · subst hj
    by_cases hi : i < σa.length
    · rw [List.getElem?_set_self hi] at z
      cases z
      exact ⟨v, by rw [List.getElem?_set_self (by rw [← r.1]; exact hi)], q⟩
    · rw [List.getElem?_eq_none (by simpa using hi)] at z
      cases z
  · rw [List.getElem?_set_ne hj] at z ⊢
    exact r.2 j e z
end

/-- what an expression's end has to be -/
def EndE (K : PySem.W.Frag) (Z : List Addr) (h : AH) (H : Hp) (Q : VK) : AQ := fun d h' => ∀ v H', RD K Z h' H' d v → RH K Z h' H' → Kp h H h' H' → Q v H'
def EndT (K : PySem.W.Frag) (Z : List Addr) (h : AH) (H : Hp) (Q : Bool → Hp → Prop) : Bool → AH → Prop := fun b h' => ∀ H', RH K Z h' H' → Kp h H h' H' → Q b H'
def EndA (K : PySem.W.Frag) (Z : List Addr) (h : AH) (H : Hp) (Q : List V → Hp → Prop) : List D → AH → Prop := fun ds h' => ∀ vs H', RDs K Z h' H' ds vs → RH K Z h' H' → Kp h H h' H' → Q vs H'
def EndS (K : PySem.W.Frag) (Z : List Addr) (h : AH) (H : Hp) (Q : L2.St → Hp → Prop) : ASt → AH → Prop := fun σa h' => ∀ σ H', RS K Z h' H' σa σ → RH K Z h' H' → Kp h H h' H' → Q σ H'
def lftE (K : PySem.W.Frag) (t : ATE) : TE := fun σ H Q => ∃ Z σa h, RS K Z h H σa σ ∧ RH K Z h H ∧ t σa h (EndE K Z h H Q)
def lftT (K : PySem.W.Frag) (t : ATT) : TT := fun σ H Q => ∃ Z σa h, RS K Z h H σa σ ∧ RH K Z h H ∧ t σa h (EndT K Z h H Q)
def lftA (K : PySem.W.Frag) (t : ATA) : TA := fun σ H Q => ∃ Z σa h, RS K Z h H σa σ ∧ RH K Z h H ∧ t σa h (EndA K Z h H Q)
def lftEnds (K : PySem.W.Frag) (Z : List Addr) (h : AH) (H : Hp) (D : Ends) : AEnds := ⟨EndS K Z h H D.nx, EndE K Z h H D.rt, EndS K Z h H D.bk, EndS K Z h H D.ct⟩
def lftS (K : PySem.W.Frag) (t : ATS) : TS := fun D σ H => ∃ Z σa h, RS K Z h H σa σ ∧ RH K Z h H ∧ t (lftEnds K Z h H D) σa h
/-- a def's promise as the layer below has it -/
def lftSp (K : PySem.W.Frag) (n : Nat) (sp : ASp) : Sp := fun vs H Q _ => ∃ Z ds h, ds.length = n ∧ RDs K Z h H ds vs ∧ RH K Z h H ∧ sp ds h (EndE K Z h H Q) noX
theorem EndE.mono {K : PySem.W.Frag} {Z : List Addr} {h h1 : AH} {H H1 : Hp} {Q : VK} (k : Kp h H h1 H1) {d : D} {h' : AH} (e : EndE K Z h H Q d h') : EndE K Z h1 H1 Q d h' := fun v H' r R k' => e v H' r R (k.trans k')
theorem EndT.mono {K : PySem.W.Frag} {Z : List Addr} {h h1 : AH} {H H1 : Hp} {Q : Bool → Hp → Prop} (k : Kp h H h1 H1) {b : Bool} {h' : AH} (e : EndT K Z h H Q b h') : EndT K Z h1 H1 Q b h' := fun H' R k' => e H' R (k.trans k')
theorem EndA.mono {K : PySem.W.Frag} {Z : List Addr} {h h1 : AH} {H H1 : Hp} {Q : List V → Hp → Prop} (k : Kp h H h1 H1) {ds : List D} {h' : AH} (e : EndA K Z h H Q ds h') : EndA K Z h1 H1 Q ds h' := fun v H' r R k' => e v H' r R (k.trans k')
theorem EndS.mono {K : PySem.W.Frag} {Z : List Addr} {h h1 : AH} {H H1 : Hp} {Q : L2.St → Hp → Prop} (k : Kp h H h1 H1) {σ : ASt} {h' : AH} (e : EndS K Z h H Q σ h') : EndS K Z h1 H1 Q σ h' := fun v H' r R k' => e v H' r R (k.trans k')

/-! ### judgements over data -/
def MonE (t : ATE) : Prop := ∀ σ h Q Q', (∀ d h', Q d h' → Q' d h') → t σ h Q → t σ h Q'
def MonT (t : ATT) : Prop := ∀ σ h Q Q', (∀ d h', Q d h' → Q' d h') → t σ h Q → t σ h Q'
def MonA (t : ATA) : Prop := ∀ σ h Q Q', (∀ d h', Q d h' → Q' d h') → t σ h Q → t σ h Q'
structure AEnds.Le (D D' : AEnds) : Prop where
  nx : ∀ σ h, D.nx σ h → D'.nx σ h
  rt : ∀ d h, D.rt d h → D'.rt d h
  bk : ∀ σ h, D.bk σ h → D'.bk σ h
  ct : ∀ σ h, D.ct σ h → D'.ct σ h
def MonS (t : ATS) : Prop := ∀ D D' σ h, D.Le D' → t D σ h → t D' σ h
structure AE (X : Cx) (e : Expr) (t : ATE) : Prop where
  mon : MonE t
  run : PE X e (lftE X.K t)
structure AT (X : Cx) (e : Expr) (t : ATT) : Prop where
  mon : MonT t
  run : PT X e (lftT X.K t)
structure AA (X : Cx) (es : List Expr) (t : ATA) : Prop where
  mon : MonA t
  run : PA X es (lftA X.K t)
structure AS (X : Cx) (s : Stmt) (t : ATS) : Prop where
  mon : MonS t
  run : PS X s (lftS X.K t)
structure ASs (X : Cx) (s : List Stmt) (t : ATS) : Prop where
  mon : MonS t
  run : PSs X s (lftS X.K t)
section
variable {X : Cx}
theorem pe_weak {e : Expr} {t t' : TE} (h : PE X e t) (w : ∀ σ H Q, t' σ H Q → t σ H Q) : PE X e t' := ⟨fun pins s σ H Q I q => h.run pins s σ H Q I (w σ H Q q)⟩
theorem pt_weak {e : Expr} {t t' : TT} (h : PT X e t) (w : ∀ σ H Q, t' σ H Q → t σ H Q) : PT X e t' := ⟨fun pins s σ H Q I q => h.run pins s σ H Q I (w σ H Q q)⟩
theorem pw_weak {e : Expr} {t t' : TT} (h : PW X e t) (w : ∀ σ H Q, t' σ H Q → t σ H Q) : PW X e t' := ⟨fun wh pins s σ H Q I q => h.run wh pins s σ H Q I (w σ H Q q)⟩
theorem pa_weak {es : List Expr} {t t' : TA} (h : PA X es t) (w : ∀ σ H Q, t' σ H Q → t σ H Q) : PA X es t' := ⟨fun pos pins s σ H Q I q => h.run pos pins s σ H Q I (w σ H Q q)⟩
theorem ps_weak {s : Stmt} {t t' : TS} (h : PS X s t) (w : ∀ D σ H, t' D σ H → t D σ H) : PS X s t' := ⟨fun pins s σ H D I q => h.run pins s σ H D I (w D σ H q)⟩
theorem pss_weak {s : List Stmt} {t t' : TS} (h : PSs X s t) (w : ∀ D σ H, t' D σ H → t D σ H) : PSs X s t' := ⟨fun pins s σ H D I q => h.run pins s σ H D I (w D σ H q)⟩
end
end WF

open PySem L2
set_option Elab.async false
set_option linter.all false
set_option maxRecDepth 100000
set_option maxHeartbeats 1000000
/-! # part 2: expressions -/
namespace WF
open PySem PySem.Spec PyProof.Rows L2
/-- a new list: among those that may change (m), or a value -/
def newL (m : Bool) (ds : List D) (h : AH) (Q : AQ) : Prop := match m with
  | true => ∀ p, h p = none → Q (.ref p) (h.set p ds)
  | false => Q (.lst ds) h
def seqL (h : AH) : D → Option (List D)
  | .lst ds => some ds
  | .ref a => h a
  | _ => none
def seqA (h : AH) : D → Option (List D)
  | .tup ds => some ds
  | .lst ds => some ds
  | .ref a => h a
  | _ => none
theorem newL_mono {m : Bool} {ds : List D} {h : AH} {Q Q' : AQ} (w : ∀ d h', Q d h' → Q' d h') (q : newL m ds h Q) : newL m ds h Q' := by
  cases m with
  | true => exact fun p n => w _ _ (q p n)
  | false => exact w _ _ q
section
variable {K : PySem.W.Frag} {Z : List Addr} {h h' : AH} {H H' : Hp}
theorem RH.fresh (R : RH K Z h H) {p : Addr} (n : H p = none) : h p = none := by
  cases q : h p with
  | none => rfl
  | some ds =>
    obtain ⟨xs, e, _⟩ := R.at_ p ds q
    rw [n] at e
    cases e
theorem seqL_ok (R : RH K Z h H) {d : D} {v : V} {ds : List D} (r : RD K Z h H d v) (e : seqL h d = some ds) : ∃ a xs, v = .ref a ∧ SqL K H a xs ∧ RDs K Z h H ds xs := by
  cases d with
  | lst es =>
    cases e
    obtain ⟨a, xs, e1, e2, e3⟩ := r
    exact ⟨a, xs, e1, e2.sq, e3⟩
  | ref a =>
    obtain ⟨xs, e1, e2⟩ := R.at_ a ds e
    exact ⟨a, xs, r, .inl (.inl e1), e2⟩
  | _ => cases e
theorem seqA_ok (R : RH K Z h H) {d : D} {v : V} {ds : List D} (r : RD K Z h H d v) (e : seqA h d = some ds) : ∃ a xs, v = .ref a ∧ (SqL K H a xs ∨ SqT K H a xs) ∧ RDs K Z h H ds xs := by
  cases d with
  | tup es =>
    cases e
    obtain ⟨a, xs, e1, e2, e3⟩ := r
    exact ⟨a, xs, e1, .inr e2, e3⟩
  | lst es =>
    obtain ⟨a, xs, e1, e2, e3⟩ := seqL_ok R r (show seqL h (.lst es) = some ds from e)
    exact ⟨a, xs, e1, .inl e2, e3⟩
  | ref b =>
    obtain ⟨a, xs, e1, e2, e3⟩ := seqL_ok R r (show seqL h (.ref b) = some ds from e)
    exact ⟨a, xs, e1, .inl e2, e3⟩
  | _ => cases e
/-! ends -/
theorem EndE.fin {Q : VK} {d : D} {v : V} (e : EndE K Z h H Q d h) (r : RD K Z h H d v) (R : RH K Z h H) : Q v H := e v H r R Kp.refl
theorem EndE.tup {Q : VK} {ds : List D} {xs : List V} {p : Addr} (e : EndE K Z h H Q (.tup ds) h) (r : RDs K Z h H ds xs) (R : RH K Z h H) (n : H p = none) : Q (.ref p) (upd H p (.tup xs)) :=
  e (.ref p) _ ⟨p, xs, rfl, .inl (.inl upd_same), RDs.keep R (Kp.laid n) r⟩ (R.laid n) (Kp.laid n)
theorem EndE.new {m : Bool} {Q : VK} {ds : List D} {xs : List V} {p : Addr} (e : newL m ds h (EndE K Z h H Q)) (r : RDs K Z h H ds xs) (R : RH K Z h H) (n : H p = none) : Q (.ref p) (upd H p (.lst xs)) := by
  cases m with
  | true => exact e p (R.fresh n) (.ref p) _ rfl (R.put (.inr n) r) (Kp.put (.inr n))
  | false =>
    have e' : EndE K Z h H Q (.lst ds) h := e
    exact e' (.ref p) _ ⟨p, xs, rfl, (.inl ⟨.inl upd_same, R.fresh n, fun m => (R.zk p m).1 n⟩), RDs.keep R (Kp.laid n) r⟩ (R.laid n) (Kp.laid n)
end

/-! ## names, constants -/
def aVar (i : Nat) : ATE := fun σ h Q => ∃ d, σ[i]? = some (some d) ∧ Q d h
def aC (d : D) : ATE := fun _ h Q => Q d h
section
variable {X : Cx} {a b c e : Expr} {es : List Expr} {ta tb tc te : ATE} {t : ATA} {pos : Pos}
theorem ae_var {i : Nat} {x : Str} (hN : X.N[i]? = some x) (hv : Vis X.env.scope x) (hd : (x == ("__debug__" : Str)) = false) (hcd : (x == ("__classdict__" : Str)) = false) : AE X (.Name x pos) (aVar i) := by
  refine ⟨fun σ h Q Q' w ⟨d, e, q⟩ => ⟨d, e, w _ _ q⟩, pe_weak (pe_var hN hv hd hcd) ?_⟩
  rintro σ H Q ⟨Z, σa, h, rs, R, d, e, q⟩
  obtain ⟨v, e1, r⟩ := rs.2 i d e
  exact ⟨v, e1, q.fin r R⟩
theorem ae_cst {d : D} {v : V} (hp : PE X e (tC v)) (hr : ∀ Z h H, RD X.K Z h H d v) : AE X e (aC d) := by
  refine ⟨fun σ h Q Q' w q => w _ _ q, pe_weak hp ?_⟩
  rintro σ H Q ⟨Z, σa, h, rs, R, q⟩
  exact q.fin (hr Z h H) R
/-! ## argument lists, displays -/
def aNil : ATA := fun _ h Q => Q [] h
def aCons (ta : ATE) (tr : ATA) : ATA := fun σ h Q => ta σ h fun d h1 => tr σ h1 fun ds h2 => Q (d :: ds) h2
theorem aa_nil : AA X [] aNil := by
  refine ⟨fun σ h Q Q' w q => w _ _ q, pa_weak pa_nil ?_⟩
  rintro σ H Q ⟨Z, σa, h, rs, R, q⟩
  exact q [] H rfl R Kp.refl
theorem aa_cons (ha : AE X e te) (hr : AA X es t) (hs : starEach (e :: es) X.env = (false, eval e X.env) :: starEach es X.env) : AA X (e :: es) (aCons te t) := by
  refine ⟨fun σ h Q Q' w q => ha.mon _ _ _ _ (fun d h1 q1 => hr.mon _ _ _ _ (fun ds h2 q2 => w _ _ q2) q1) q, pa_weak (pa_cons ha.run hr.run hs) ?_⟩
  rintro σ H Q ⟨Z, σa, h, rs, R, q⟩
  refine ⟨Z, σa, h, rs, R, ha.mon _ _ _ _ (fun d h1 q1 => ?_) q⟩
  intro v H1 r1 R1 k1
  refine ⟨Z, σa, h1, rs.keep R k1, R1, hr.mon _ _ _ _ (fun ds h2 q2 => ?_) q1⟩
  intro vs H2 r2 R2 k2
  exact q2 (v :: vs) H2 ⟨v, vs, rfl, RD.keep R1 k2 r1, r2⟩ R2 (k1.trans k2)
def aTup (t : ATA) : ATE := fun σ h Q => t σ h fun ds h1 => ds.length ≤ sizeLine ∧ Q (.tup ds) h1
def aLst (m : Bool) (t : ATA) : ATE := fun σ h Q => t σ h fun ds h1 => ds.length ≤ sizeLine ∧ newL m ds h1 Q
theorem ae_tup {k : Nat} (ha : AA X es t) : AE X (.Tuple es k pos) (aTup t) := by
  refine ⟨fun σ h Q Q' w q => ha.mon _ _ _ _ (fun ds h1 ⟨z, q1⟩ => ⟨z, w _ _ q1⟩) q, pe_weak (pe_tup ha.run) ?_⟩
  rintro σ H Q ⟨Z, σa, h, rs, R, q⟩
  refine ⟨Z, σa, h, rs, R, ha.mon _ _ _ _ (fun ds h1 ⟨z, q1⟩ => ?_) q⟩
  intro vs H1 r1 R1 k1
  exact ⟨by rw [← r1.length]; exact z, fun p n => (q1.mono k1).tup r1 R1 n⟩
theorem ae_lst {m : Bool} (ha : AA X es t) : AE X (.List es pos) (aLst m t) := by
  refine ⟨fun σ h Q Q' w q => ha.mon _ _ _ _ (fun ds h1 ⟨z, q1⟩ => ⟨z, newL_mono w q1⟩) q, pe_weak (pe_lst ha.run) ?_⟩
  rintro σ H Q ⟨Z, σa, h, rs, R, q⟩
  refine ⟨Z, σa, h, rs, R, ha.mon _ _ _ _ (fun ds h1 ⟨z, q1⟩ => ?_) q⟩
  intro vs H1 r1 R1 k1
  exact ⟨by rw [← r1.length]; exact z, fun p n => EndE.new (newL_mono (fun d h' e => e.mono k1) q1) r1 R1 n⟩
/-! ## operators by values -/
abbrev AR1 := D → AH → AQ → Prop
abbrev AR2 := D → D → AH → AQ → Prop
abbrev ARn := List D → AH → AQ → Prop
def MonR2 (r : AR2) : Prop := ∀ x y h Q Q', (∀ d h', Q d h' → Q' d h') → r x y h Q → r x y h Q'
def MonR1 (r : AR1) : Prop := ∀ x h Q Q', (∀ d h', Q d h' → Q' d h') → r x h Q → r x h Q'
def MonRn (r : ARn) : Prop := ∀ x h Q Q', (∀ d h', Q d h' → Q' d h') → r x h Q → r x h Q'
structure AOp (X : Cx) (f : Value → Value → Sem Value) (r : AR2) : Prop where
  mon : MonR2 r
  run : ∀ Z x y h H vx vy Q, RD X.K Z h H x vx → RD X.K Z h H y vy → RH X.K Z h H → r x y h (EndE X.K Z h H Q) → ∃ r0, OpR X f r0 ∧ r0 vx vy H Q
structure AUn (X : Cx) (f : Value → Sem Value) (r : AR1) : Prop where
  mon : MonR1 r
  run : ∀ Z x h H vx Q, RD X.K Z h H x vx → RH X.K Z h H → r x h (EndE X.K Z h H Q) → ∃ r0, UnR X f r0 ∧ r0 vx H Q
structure ACall (X : Cx) (f : Value) (r : ARn) : Prop where
  mon : MonRn r
  run : ∀ Z xs h H vs Q, RDs X.K Z h H xs vs → RH X.K Z h H → r xs h (EndE X.K Z h H Q) → ∃ r0, CallR X f r0 ∧ r0 vs H Q
structure AIx (X : Cx) (r : AR2) : Prop where
  mon : MonR2 r
  run : ∀ Z x y h H vx vy Q, RD X.K Z h H x vx → RD X.K Z h H y vy → RH X.K Z h H → r x y h (EndE X.K Z h H Q) → ∃ r0, IxR X r0 ∧ r0 vx vy H Q
theorem opr_any {f : Value → Value → Sem Value} : OpR X f (fun x y H Q => ∃ r0, OpR X f r0 ∧ r0 x y H Q) := fun pins s σ H x y v u Q I rx ry ⟨r0, o, q⟩ => o pins s σ H x y v u Q I rx ry q
theorem unr_any {f : Value → Sem Value} : UnR X f (fun x H Q => ∃ r0, UnR X f r0 ∧ r0 x H Q) := fun pins s σ H x v Q I rx ⟨r0, o, q⟩ => o pins s σ H x v Q I rx q
theorem callr_any {f : Value} : CallR X f (fun x H Q => ∃ r0, CallR X f r0 ∧ r0 x H Q) := fun pins s σ H x v Q I rx ⟨r0, o, q⟩ => o pins s σ H x v Q I rx q
theorem ixr_any : IxR X (fun x y H Q => ∃ r0, IxR X r0 ∧ r0 x y H Q) := fun va sl pins s σ H x y v u Q I rx ry ⟨r0, o, q⟩ hs => o va sl pins s σ H x y v u Q I rx ry q hs
def aOp (r : AR2) (ta tb : ATE) : ATE := fun σ h Q => ta σ h fun x h1 => tb σ h1 fun y h2 => r x y h2 Q
def aUn (r : AR1) (ta : ATE) : ATE := fun σ h Q => ta σ h fun x h1 => r x h1 Q
def aCall (r : ARn) (t : ATA) : ATE := fun σ h Q => t σ h fun xs h1 => r xs h1 Q
theorem aop_mon {r : AR2} (mr : MonR2 r) (ha : MonE ta) (hb : MonE tb) : MonE (aOp r ta tb) := fun σ h Q Q' w q =>
  ha _ _ _ _ (fun d h1 q1 => hb _ _ _ _ (fun e h2 q2 => mr _ _ _ _ _ w q2) q1) q
/-- two expressions, then r0 -/
theorem aop_w {r : AR2} {r0 : R2} (mr : MonR2 r) (ha : MonE ta) (hb : MonE tb) (ho : ∀ Z x y h H vx vy Q, RD X.K Z h H x vx → RD X.K Z h H y vy → RH X.K Z h H → r x y h (EndE X.K Z h H Q) → r0 vx vy H Q) :
    ∀ σ H Q, lftE X.K (aOp r ta tb) σ H Q → tOp r0 (lftE X.K ta) (lftE X.K tb) σ H Q := by
  rintro σ H Q ⟨Z, σa, h, rs, R, q⟩
  refine ⟨Z, σa, h, rs, R, ha _ _ _ _ (fun d h1 q1 => ?_) q⟩
  intro v H1 r1 R1 k1
  refine ⟨Z, σa, h1, rs.keep R k1, R1, hb _ _ _ _ (fun e h2 q2 => ?_) q1⟩
  intro u H2 r2 R2 k2
  exact ho Z d e h2 H2 v u Q (RD.keep R1 k2 r1) r2 R2 (mr _ _ _ _ _ (fun _ _ e => e.mono (k1.trans k2)) q2)
theorem ae_bin {op : Operator} {r : AR2} (ho : AOp X (binaryOp op) r) (ha : AE X a ta) (hb : AE X b tb) : AE X (.BinOp a op b pos) (aOp r ta tb) :=
  ⟨aop_mon ho.mon ha.mon hb.mon, pe_weak (pe_op opr_any ha.run hb.run) (aop_w ho.mon ha.mon hb.mon ho.run)⟩
theorem ae_cmp {op : CmpOp} {r : AR2} (ho : AOp X (compareOp op) r) (ha : AE X a ta) (hb : AE X b tb) (hm : behindInMarks op b = false) : AE X (.Compare a [op] [b] pos) (aOp r ta tb) :=
  ⟨aop_mon ho.mon ha.mon hb.mon, pe_weak (pe_cmpR opr_any ha.run hb.run hm) (aop_w ho.mon ha.mon hb.mon ho.run)⟩
theorem ae_ix {r : AR2} (ho : AIx X r) (ha : AE X a ta) (hb : AE X b tb) (hs : PlainIx b) : AE X (.Subscript a b pos) (aOp r ta tb) :=
  ⟨aop_mon ho.mon ha.mon hb.mon, pe_weak (pe_ix ixr_any ha.run hb.run hs) (aop_w ho.mon ha.mon hb.mon ho.run)⟩
theorem ae_un {op : UnaryOp} {r : AR1} (ho : AUn X (unaryOp op) r) (ha : AE X a ta) : AE X (.UnaryOp op a pos) (aUn r ta) := by
  refine ⟨fun σ h Q Q' w q => ha.mon _ _ _ _ (fun d h1 q1 => ho.mon _ _ _ _ w q1) q, pe_weak (pe_un unr_any ha.run) ?_⟩
  rintro σ H Q ⟨Z, σa, h, rs, R, q⟩
  refine ⟨Z, σa, h, rs, R, ha.mon _ _ _ _ (fun d h1 q1 => ?_) q⟩
  intro v H1 r1 R1 k1
  exact ho.run Z d h1 H1 v Q r1 R1 (ho.mon _ _ _ _ (fun _ _ e => e.mono k1) q1)
theorem acall_mon {r : ARn} (mr : MonRn r) (ha : MonA t) : MonE (aCall r t) := fun σ h Q Q' w q => ha _ _ _ _ (fun d h1 q1 => mr _ _ _ _ w q1) q
theorem acall_w {r : ARn} {r0 : List V → Hp → VK → Prop} (mr : MonRn r) (ha : MonA t) (ho : ∀ Z xs h H vs Q, RDs X.K Z h H xs vs → RH X.K Z h H → r xs h (EndE X.K Z h H Q) → r0 vs H Q) :
    ∀ σ H Q, lftE X.K (aCall r t) σ H Q → tCB r0 (lftA X.K t) σ H Q := by
  rintro σ H Q ⟨Z, σa, h, rs, R, q⟩
  refine ⟨Z, σa, h, rs, R, ha _ _ _ _ (fun d h1 q1 => ?_) q⟩
  intro v H1 r1 R1 k1
  exact ho Z d h1 H1 v Q r1 R1 (mr _ _ _ _ (fun _ _ e => e.mono k1) q1)
theorem ae_callB {x : Str} {p : Pos} {id : String} {r : ARn} (ho : ACall X (.builtin id) r) (hg : Gl X x) (hm : X.mg x = none) (hv : bootBuiltins x = some (.builtin id)) (ha : AA X (e :: es) t) (hn : x ≠ "__name__") (hdb : (x == ("__debug__" : Str)) = false)
    (he : starEach (e :: es) X.env = (false, eval e X.env) :: starEach es X.env) (hpl : (backTo pos (starEach es X.env)).any (·.1) = false) : AE X (.Call (.Name x p) (e :: es) [] pos) (aCall r t) :=
  ⟨acall_mon ho.mon ha.mon, pe_weak (pe_callB callr_any hg hm hv ha.run hn hdb he hpl) (acall_w ho.mon ha.mon ho.run)⟩
theorem ae_callTy {x : Str} {p : Pos} {T : String} {r : ARn} (ho : ACall X (.type T) r) (hg : Gl X x) (hm : X.mg x = none) (hv : bootBuiltins x = some (.type T)) (ha : AA X (e :: es) t) (hn : x ≠ "__name__") (hdb : (x == ("__debug__" : Str)) = false)
    (he : starEach (e :: es) X.env = (false, eval e X.env) :: starEach es X.env) (hpl : (backTo pos (starEach es X.env)).any (·.1) = false) : AE X (.Call (.Name x p) (e :: es) [] pos) (aCall r t) :=
  ⟨acall_mon ho.mon ha.mon, pe_weak (pe_callTy callr_any hg hm hv ha.run hn hdb he hpl) (acall_w ho.mon ha.mon ho.run)⟩
theorem ae_callFun {x : Str} {p : Pos} {id : String} {r : ARn} (ho : ACall X (.builtin id) r) (hg : Gl X x) (hm : X.mg x = some (.builtin id)) (ha : AA X (e :: es) t) (hdb : (x == ("__debug__" : Str)) = false)
    (he : starEach (e :: es) X.env = (false, eval e X.env) :: starEach es X.env) (hpl : (backTo pos (starEach es X.env)).any (·.1) = false) : AE X (.Call (.Name x p) (e :: es) [] pos) (aCall r t) :=
  ⟨acall_mon ho.mon ha.mon, pe_weak (pe_callBfun callr_any hg hm ha.run hdb he hpl) (acall_w ho.mon ha.mon ho.run)⟩
/-! ## tests, and, or, not, if -/
def aTst (t : ATE) : ATT := fun σ h Q => t σ h fun d h1 => ∃ k, d = .bl k ∧ Q k h1
theorem atst_mon (ha : MonE ta) : MonT (aTst ta) := fun σ h Q Q' w q => ha _ _ _ _ (fun d h1 ⟨k, e, q1⟩ => ⟨k, e, w _ _ q1⟩) q
theorem at_val (ha : AE X e te) (he : ∀ whole, isTrue e X.env whole = (do let v ← whole; standAt e.pos; holding [v] (truthy v))) : AT X e (aTst te) := by
  refine ⟨atst_mon ha.mon, pt_weak (pt_val ha.run he) ?_⟩
  rintro σ H Q ⟨Z, σa, h, rs, R, q⟩
  refine ⟨Z, σa, h, rs, R, ha.mon _ _ _ _ (fun d h1 ⟨k, e1, q1⟩ => ?_) q⟩
  intro v H1 r1 R1 k1
  subst e1
  exact ⟨k, r1, q1 H1 R1 k1⟩
theorem at_cmp {op : CmpOp} {r : AR2} (ho : AOp X (compareOp op) r) (ha : AE X a ta) (hb : AE X b tb) (hm : behindInMarks op b = false) : AT X (.Compare a [op] [b] pos) (aTst (aOp r ta tb)) := by
  refine ⟨atst_mon (aop_mon ho.mon ha.mon hb.mon), pt_weak (pt_cmpR opr_any ha.run hb.run hm) ?_⟩
  rintro σ H Q ⟨Z, σa, h, rs, R, q⟩
  refine aop_w ho.mon ha.mon hb.mon ho.run σ H _ ⟨Z, σa, h, rs, R, aop_mon ho.mon ha.mon hb.mon _ _ _ _ (fun d h1 ⟨k, e1, q1⟩ => ?_) q⟩
  intro v H1 r1 R1 k1
  subst e1
  exact ⟨k, r1, q1 H1 R1 k1⟩
def aAnd (ta tb : ATE) : ATE := fun σ h Q => ta σ h fun d h1 => ∃ k, d = .bl k ∧ if k = true then tb σ h1 Q else Q (.bl false) h1
def aOr (ta tb : ATE) : ATE := fun σ h Q => ta σ h fun d h1 => ∃ k, d = .bl k ∧ if k = true then Q (.bl true) h1 else tb σ h1 Q
def aNot (ta : ATE) : ATE := fun σ h Q => ta σ h fun d h1 => ∃ k, d = .bl k ∧ Q (.bl (!k)) h1
def aIf (tc ta tb : ATE) : ATE := fun σ h Q => tc σ h fun d h1 => ∃ k, d = .bl k ∧ if k = true then ta σ h1 Q else tb σ h1 Q
theorem aand_mon (ha : MonE ta) (hb : MonE tb) : MonE (aAnd ta tb) := fun σ h Q Q' w q => ha _ _ _ _ (fun d h1 ⟨k, e, q1⟩ => ⟨k, e, by
  cases k with
  | true => exact hb _ _ _ _ w q1
  | false => exact w _ _ q1⟩) q
theorem aor_mon (ha : MonE ta) (hb : MonE tb) : MonE (aOr ta tb) := fun σ h Q Q' w q => ha _ _ _ _ (fun d h1 ⟨k, e, q1⟩ => ⟨k, e, by
  cases k with
  | true => exact w _ _ q1
  | false => exact hb _ _ _ _ w q1⟩) q
theorem anot_mon (ha : MonE ta) : MonE (aNot ta) := fun σ h Q Q' w q => ha _ _ _ _ (fun d h1 ⟨k, e, q1⟩ => ⟨k, e, w _ _ q1⟩) q
theorem aif_mon (hc : MonE tc) (ha : MonE ta) (hb : MonE tb) : MonE (aIf tc ta tb) := fun σ h Q Q' w q => hc _ _ _ _ (fun d h1 ⟨k, e, q1⟩ => ⟨k, e, by
  cases k with
  | true => exact ha _ _ _ _ w q1
  | false => exact hb _ _ _ _ w q1⟩) q
variable {rest : List Expr}
theorem ae_one {op : BoolOp} (ha : AE X a ta) : AE X (.BoolOp op [a] pos) ta := ⟨ha.mon, pe_one ha.run⟩
theorem ae_and (ha : AE X a ta) (hb : AE X (.BoolOp .And (b :: rest) pos) tb) : AE X (.BoolOp .And (a :: b :: rest) pos) (aAnd ta tb) := by
  refine ⟨aand_mon ha.mon hb.mon, pe_weak (pe_and ha.run hb.run) ?_⟩
  rintro σ H Q ⟨Z, σa, h, rs, R, q⟩
  refine ⟨Z, σa, h, rs, R, ha.mon _ _ _ _ (fun d h1 ⟨k, e1, q1⟩ => ?_) q⟩
  intro v H1 r1 R1 k1
  subst e1
  refine ⟨k, r1, ?_⟩
  cases k with
  | true => exact ⟨Z, σa, h1, rs.keep R k1, R1, hb.mon _ _ _ _ (fun _ _ e => e.mono k1) q1⟩
  | false => exact (q1 : EndE X.K Z h H Q (.bl false) h1) (.bl false) H1 rfl R1 k1
theorem ae_or (ha : AE X a ta) (hb : AE X (.BoolOp .Or (b :: rest) pos) tb) : AE X (.BoolOp .Or (a :: b :: rest) pos) (aOr ta tb) := by
  refine ⟨aor_mon ha.mon hb.mon, pe_weak (pe_or ha.run hb.run) ?_⟩
  rintro σ H Q ⟨Z, σa, h, rs, R, q⟩
  refine ⟨Z, σa, h, rs, R, ha.mon _ _ _ _ (fun d h1 ⟨k, e1, q1⟩ => ?_) q⟩
  intro v H1 r1 R1 k1
  subst e1
  refine ⟨k, r1, ?_⟩
  cases k with
  | false => exact ⟨Z, σa, h1, rs.keep R k1, R1, hb.mon _ _ _ _ (fun _ _ e => e.mono k1) q1⟩
  | true => exact (q1 : EndE X.K Z h H Q (.bl true) h1) (.bl true) H1 rfl R1 k1
theorem ae_not (ha : AE X a ta) : AE X (.UnaryOp .Not a pos) (aNot ta) := by
  refine ⟨anot_mon ha.mon, pe_weak (pe_not ha.run) ?_⟩
  rintro σ H Q ⟨Z, σa, h, rs, R, q⟩
  refine ⟨Z, σa, h, rs, R, ha.mon _ _ _ _ (fun d h1 ⟨k, e1, q1⟩ => ?_) q⟩
  intro v H1 r1 R1 k1
  subst e1
  exact ⟨k, r1, (q1 : EndE X.K Z h H Q (.bl (!k)) h1) (.bl (!k)) H1 rfl R1 k1⟩
theorem ae_if (hc : AT X c (aTst tc)) (mc : MonE tc) (ha : AE X a ta) (hb : AE X b tb) : AE X (.IfExp c a b pos) (aIf tc ta tb) := by
  refine ⟨aif_mon mc ha.mon hb.mon, pe_weak (pe_ifExp hc.run ha.run hb.run) ?_⟩
  rintro σ H Q ⟨Z, σa, h, rs, R, q⟩
  refine ⟨Z, σa, h, rs, R, mc _ _ _ _ (fun d h1 ⟨k, e1, q1⟩ => ?_) q⟩
  subst e1
  refine ⟨k, rfl, fun H1 R1 k1 => ?_⟩
  cases k with
  | true => exact ⟨Z, σa, h1, rs.keep R k1, R1, ha.mon _ _ _ _ (fun _ _ e => e.mono k1) q1⟩
  | false => exact ⟨Z, σa, h1, rs.keep R k1, R1, hb.mon _ _ _ _ (fun _ _ e => e.mono k1) q1⟩
/-! .. as tests -/
structure AW (X : Cx) (e : Expr) (t : ATT) : Prop where
  mon : MonT t
  run : PW X e (lftT X.K t)
theorem aw_and1 (ha : AT X a (aTst ta)) : AW X (.BoolOp .And [a] pos) (aTst ta) := ⟨ha.mon, pw_and1 ha.run⟩
theorem aw_or1 (ha : AT X a (aTst ta)) : AW X (.BoolOp .Or [a] pos) (aTst ta) := ⟨ha.mon, pw_or1 ha.run⟩
theorem aw_and (ha : AT X a (aTst ta)) (hb : AW X (.BoolOp .And (b :: rest) pos) (aTst tb)) (ma : MonE ta) (mb : MonE tb) : AW X (.BoolOp .And (a :: b :: rest) pos) (aTst (aAnd ta tb)) := by
  refine ⟨atst_mon (aand_mon ma mb), pw_weak (pw_and ha.run hb.run) ?_⟩
  rintro σ H Q ⟨Z, σa, h, rs, R, q⟩
  refine ⟨Z, σa, h, rs, R, ma _ _ _ _ (fun d h1 ⟨k, e1, q1⟩ => ?_) q⟩
  subst e1
  refine ⟨k, rfl, fun H1 R1 k1 => ?_⟩
  cases k with
  | true => exact ⟨Z, σa, h1, rs.keep R k1, R1, mb _ _ _ _ (fun d2 h2 ⟨k2, e2, q2⟩ => ⟨k2, e2, q2.mono k1⟩) q1⟩
  | false =>
    obtain ⟨k2, e2, q2⟩ := (q1 : ∃ k2, D.bl false = .bl k2 ∧ EndT X.K Z h H Q k2 h1)
    cases e2
    exact q2 H1 R1 k1
theorem aw_or (ha : AT X a (aTst ta)) (hb : AW X (.BoolOp .Or (b :: rest) pos) (aTst tb)) (ma : MonE ta) (mb : MonE tb) : AW X (.BoolOp .Or (a :: b :: rest) pos) (aTst (aOr ta tb)) := by
  refine ⟨atst_mon (aor_mon ma mb), pw_weak (pw_or ha.run hb.run) ?_⟩
  rintro σ H Q ⟨Z, σa, h, rs, R, q⟩
  refine ⟨Z, σa, h, rs, R, ma _ _ _ _ (fun d h1 ⟨k, e1, q1⟩ => ?_) q⟩
  subst e1
  refine ⟨k, rfl, fun H1 R1 k1 => ?_⟩
  cases k with
  | false => exact ⟨Z, σa, h1, rs.keep R k1, R1, mb _ _ _ _ (fun d2 h2 ⟨k2, e2, q2⟩ => ⟨k2, e2, q2.mono k1⟩) q1⟩
  | true =>
    obtain ⟨k2, e2, q2⟩ := (q1 : ∃ k2, D.bl true = .bl k2 ∧ EndT X.K Z h H Q k2 h1)
    cases e2
    exact q2 H1 R1 k1
theorem at_not (ha : AT X a (aTst ta)) (ma : MonE ta) : AT X (.UnaryOp .Not a pos) (aTst (aNot ta)) := by
  refine ⟨atst_mon (anot_mon ma), pt_weak (pt_not ha.run) ?_⟩
  rintro σ H Q ⟨Z, σa, h, rs, R, q⟩
  refine ⟨Z, σa, h, rs, R, ma _ _ _ _ (fun d h1 ⟨k, e1, q1⟩ => ?_) q⟩
  subst e1
  obtain ⟨k2, e2, q2⟩ := q1
  cases e2
  exact ⟨k, rfl, q2⟩
end
end WF

open PySem L2
set_option Elab.async false
set_option linter.all false
set_option maxRecDepth 100000
set_option maxHeartbeats 1000000
/-! # part 3: operators and built-ins by values -/
namespace WF
open PySem PySem.Spec PyProof.Rows L2
section
variable {prog : Program} {w : World} {A : Around} {E : Value → Shared → Prop} {s : Shared}
theorem args_min4 (a b c d : Value) : argsOk "min" ⟨[a, b, c, d], []⟩ := by unfold argsOk; kernel_rfl
/-- the call's walk, by what its iterator walks over -/
theorem call_min4 {a b c d : Value} {Q : Value → Shared → Prop}
    (h : wpAny (model prog w) A.in1 (pyIter (.ref s.heap.objs.size)) (fun it s2 => ∃ I fp wr n R St bt, it = .ref I ∧ Walks prog w A.in1 I fp wr n R St ∧ St 0 s2.heap ∧ (∀ r ∈ fp, r < s2.heap.objs.size) ∧ 0 < n ∧ CmpOf prog w A.in1 .Lt R bt ∧
      ∀ v h' tk, R (argBest bt (n - 1)) v → (∀ r o, r ∉ wr → s2.heap.get? r = some o → h'.get? r = some o) → Q v { s2 with heap := h', toks := tk }) E
      { s with heap := s.heap.push { cls := .type "tuple", data := .seq #[a, b, c, d] } }) :
    wpAny (model prog w) A (call (.builtin "min") [a, b, c, d]) Q E s := by
  refine call_function_tree F.kind_min F.plain_min F.entry_min (args_min4 _ _ _ _) ?_
  show wpAny _ A.in1 (Builtin.Builtins.bindParams "min" ["key", "default"] 0 ⟨[], []⟩ >>= _) _ _ s
  refine wpAny_bind (wpAny_of_eq (show Builtin.Builtins.bindParams "min" ["key", "default"] 0 ⟨[], []⟩ = pure [none, none] from rfl) ?_)
  show wpAny _ A.in1 (newTuple [a, b, c, d] >>= _) _ _ s
  refine wpAny_bind (wpAny_newObj_type (wpAny_bind (wpAny_mono h ?_ fun _ _ e => e)))
  rintro it s2 ⟨I, fp, wr, n, R, St, bt, rfl, W, st0, low, pos, cmp, post⟩
  refine wpAny_bind (wpAny_newObj_type ?_)
  rw [show (toString "min" ++ toString ".loop" : String) = "min.loop" from by decide]
  refine wpAny_pure ⟨plainId_quiet F.plain_min_loop _, codeAny_min_loop_first W bt cmp s2.heap.objs.size (fun m => Nat.lt_irrefl _ (low _ m)) pos (W.frame _ _ _ st0 fun r _ o e => Heap.get?_push_of_some _ e) (Heap.get?_push_size _ rfl) fun v h' tk hv keep => ?_⟩
  exact post v h' tk hv fun r o nw e => keep r o nw (Nat.ne_of_lt (Heap.lt_size e)) (Heap.get?_push_of_some _ e)
/-- min of four whole numbers: the least of them -/
theorem min4_ints {a b c d : Int} {t u x y : Tok} {Q : Value → Shared → Prop} (hh : A.handled = none)
    (h : ∀ (h' : Heap) (tk : Nat) (m : Int) (t' : Tok), (∀ r o, s.heap.get? r = some o → h'.get? r = some o) → m ∈ [a, b, c, d] → (∀ i ∈ [a, b, c, d], m ≤ i) → Q (.int m t') { s with heap := h', toks := tk }) :
    wpAny (model prog w) A (call (.builtin "min") [.int a t, .int b u, .int c x, .int d y]) Q E s := by
  have tup : (s.heap.push { cls := .type "tuple", data := .seq #[.int a t, .int b u, .int c x, .int d y] }).IsTuple s.heap.objs.size (intItems #[(a, t), (b, u), (c, x), (d, y)]) := ⟨_, Heap.get?_push_size _ rfl, rfl, 0, by simp [intItems]⟩
  have sz : (s.heap.push { cls := .type "tuple", data := .seq #[.int a t, .int b u, .int c x, .int d y] }).objs.size = s.heap.objs.size + 1 := Heap.size_push ..
  refine call_min4 (wpAny_pyIter_tuple tup ⟨_, [_, s.heap.objs.size], [_], _, _, _, _, rfl, Walks.tuple (A := A.in1) hh _ s.heap.objs.size (by rw [sz]; exact Nat.ne_of_lt (Nat.lt_succ_self _)) (intItems #[(a, t), (b, u), (c, x), (d, y)]),
    ⟨⟨_, Heap.get?_push_size _ rfl, rfl, rfl⟩, tup.push _⟩, fun r m => ?_, by simp [intItems], CmpOf.ints_lt (numAt #[(a, t), (b, u), (c, x), (d, y)]) fun _ _ => intItems_at, fun v h' tk hv keep => ?_⟩)
  · show r < ((s.heap.push _).push _).objs.size
    rw [Heap.size_push, sz]
    simp only [List.mem_cons, List.not_mem_nil, or_false] at m
    rcases m with rfl | rfl
    · rw [sz]; exact Nat.lt_succ_self _
    · exact Nat.lt_succ_of_lt (Nat.lt_succ_self _)
  · have old : ∀ r o, s.heap.get? r = some o → h'.get? r = some o := fun r o e => by
      refine keep r o (fun m => ?_) (Heap.get?_push_of_some _ (Heap.get?_push_of_some _ e))
      simp only [List.mem_cons, List.not_mem_nil, or_false] at m
      have lt := Heap.lt_size e
      rw [m, sz] at lt
      exact Nat.lt_irrefl _ (Nat.lt_of_succ_lt lt)
    obtain ⟨q1, q2⟩ := argBest_lt (numAt #[(a, t), (b, u), (c, x), (d, y)]) 3
    obtain ⟨t', rfl⟩ := intItems_at hv
    have e3 : (intItems #[(a, t), (b, u), (c, x), (d, y)]).size - 1 = 3 := by simp [intItems]
    refine h h' tk _ t' old ?_ ?_
    · rw [e3]
      generalize argBest _ 3 = k at *
      match k, q1 with
      | 0, _ => simp [numAt]
      | 1, _ => simp [numAt]
      | 2, _ => simp [numAt]
      | 3, _ => simp [numAt]
      | k + 4, l => omega
    · rw [e3]
      have f0 := q2 0 (by omega)
      have f1 := q2 1 (by omega)
      have f2 := q2 2 (by omega)
      have f3 := q2 3 (by omega)
      simp [numAt] at f0 f1 f2 f3
      intro i m
      simp only [List.mem_cons, List.not_mem_nil, or_false] at m
      rcases m with rfl | rfl | rfl | rfl
      · simpa [numAt] using f0
      · simpa [numAt] using f1
      · simpa [numAt] using f2
      · simpa [numAt] using f3
end
section
variable {X : Cx}
theorem cr_min4 (hc : X.calm = true) : CallR X (.builtin "min") (fun xs H Q => ∃ a b c d : Int, xs = [.int a, .int b, .int c, .int d] ∧ ∀ m, m ∈ [a, b, c, d] → (∀ i ∈ [a, b, c, d], m ≤ i) → Q (.int m) H) := by
  intro pins s σ H xs us Q I r h
  obtain ⟨a, b, c, d, rfl, q⟩ := h
  cases r with
  | cons r1 r =>
    cases r with
    | cons r2 r =>
      cases r with
      | cons r3 r =>
        cases r with
        | cons r4 r =>
          cases r
          obtain ⟨t, rfl⟩ := r1
          obtain ⟨u, rfl⟩ := r2
          obtain ⟨x, rfl⟩ := r3
          obtain ⟨y, rfl⟩ := r4
          exact min4_ints (I.ok.hd hc) fun h' tk m t' k h1 h2 => ⟨.int m, H, I.kept k, ⟨_, rfl⟩, q m h1 h2⟩
end
open PySem PySem.Spec PyProof.Rows L2
/-! ## data as data -/
mutual
def pd0 : D → Option PyData
  | .non => some .none
  | .bl b => some (.bool b)
  | .int i => some (.int i)
  | .str s => some (.str s)
  | .tup ds => (pds ds).map .tuple
  | .lst ds => (pds ds).map .list
  | .ref _ => none
  | .ty _ => none
def pds : List D → Option (List PyData)
  | [] => some []
  | d :: ds => (pd0 d).bind fun x => (pds ds).map fun xs => x :: xs
end
def pd (h : AH) : D → Option PyData
  | .ref a => (h a).bind fun ds => (pds ds).map .list
  | d => pd0 d
section
variable {K : PySem.W.Frag} {Z : List Addr} {h : AH} {H : Hp}
mutual
theorem pd0_ok (R : RH K Z h H) : ∀ {d : D} {v : V} {p : PyData}, RD K Z h H d v → pd0 d = some p → Dp K H v p
  | .non, _, _, r, e => by
    cases r
    cases e
    exact .non
  | .bl b, _, _, r, e => by
    cases r
    cases e
    exact .bl b
  | .int i, _, _, r, e => by
    cases r
    cases e
    exact .int i
  | .str s, _, _, r, e => by
    cases r
    cases e
    exact .str s
  | .tup ds, _, _, r, e => by
    simp only [RD] at r
    obtain ⟨a, xs, rfl, hs, r⟩ := r
    simp only [pd0] at e
    cases q : pds ds with
    | none =>
      rw [q] at e
      cases e
    | some ps =>
      rw [q] at e
      cases e
      exact .tup hs (pds_ok R r q)
  | .lst ds, _, _, r, e => by
    simp only [RD] at r
    obtain ⟨a, xs, rfl, hs, r⟩ := r
    simp only [pd0] at e
    cases q : pds ds with
    | none =>
      rw [q] at e
      cases e
    | some ps =>
      rw [q] at e
      cases e
      exact .lst hs.sq (pds_ok R r q)
  | .ref _, _, _, _, e => by cases e
  | .ty _, _, _, _, e => by cases e
theorem pds_ok (R : RH K Z h H) : ∀ {ds : List D} {xs : List V} {ps : List PyData}, RDs K Z h H ds xs → pds ds = some ps → DpAll K H xs ps
  | [], _, _, r, e => by
    simp only [RDs] at r
    subst r
    cases e
    exact .nil
  | d :: ds, _, _, r, e => by
    simp only [RDs] at r
    obtain ⟨y, ys, rfl, r1, r2⟩ := r
    simp only [pds] at e
    cases q : pd0 d with
    | none =>
      rw [q] at e
      cases e
    | some p =>
      rw [q] at e
      cases q2 : pds ds with
      | none =>
        rw [q2] at e
        cases e
      | some ps =>
        rw [q2] at e
        cases e
        exact .cons (pd0_ok R r1 q) (pds_ok R r2 q2)
end
theorem pd_ok (R : RH K Z h H) {d : D} {v : V} {p : PyData} (r : RD K Z h H d v) (e : pd h d = some p) : Dp K H v p := by
  cases d with
  | ref a =>
    simp only [pd] at e
    cases q : h a with
    | none =>
      rw [q] at e
      cases e
    | some ds =>
      rw [q] at e
      cases q2 : pds ds with
      | none =>
        simp [q2] at e
      | some ps =>
        simp [q2] at e
        subst e
        obtain ⟨xs, e1, r1⟩ := R.at_ a ds q
        cases r
        exact .lst (.inl (.inl e1)) (pds_ok R r1 q2)
  | _ => exact pd0_ok R r e
theorem RDs.ints : ∀ {ns : List Int} {xs : List V}, RDs K Z h H (ns.map D.int) xs → xs = ns.map V.int
  | [], _, r => by
    simp only [List.map_nil, RDs] at r
    exact r
  | n :: ns, _, r => by
    simp only [List.map_cons, RDs, RD] at r
    obtain ⟨y, ys, rfl, rfl, r⟩ := r
    rw [RDs.ints r]
    rfl
theorem RDs.bls : ∀ {ns : List Bool} {xs : List V}, RDs K Z h H (ns.map D.bl) xs → xs = ns.map V.bl
  | [], _, r => by
    simp only [List.map_nil, RDs] at r
    exact r
  | n :: ns, _, r => by
    simp only [List.map_cons, RDs, RD] at r
    obtain ⟨y, ys, rfl, rfl, r⟩ := r
    rw [RDs.bls r]
    rfl
theorem rds_ints : ∀ (ns : List Int), RDs K Z h H (ns.map D.int) (ns.map V.int)
  | [] => rfl
  | n :: ns => ⟨_, _, rfl, rfl, rds_ints ns⟩
theorem RDs.one_of {d : D} {xs : List V} (r : RDs K Z h H [d] xs) : ∃ x, xs = [x] ∧ RD K Z h H d x := by
  simp only [RDs] at r
  obtain ⟨x, ys, rfl, r1, rfl⟩ := r
  exact ⟨x, rfl, r1⟩
theorem RDs.two_of {d e : D} {xs : List V} (r : RDs K Z h H [d, e] xs) : ∃ x y, xs = [x, y] ∧ RD K Z h H d x ∧ RD K Z h H e y := by
  simp only [RDs] at r
  obtain ⟨x, ys, rfl, r1, y, zs, rfl, r2, rfl⟩ := r
  exact ⟨x, y, rfl, r1, r2⟩
end
/-! ## operators -/
/-- a product that the machine makes -/
def MulOk (i j : Int) : Prop := i.natAbs.log2 + j.natAbs.log2 < 1000000
/-- a divisor that the machine takes -/
def DivOk (j : Int) : Prop := 0 < j ∧ j.natAbs.log2 < 9000
def sAdd (m : Bool) : AR2 := fun x y h Q => match x, y with
  | .int i, .int j => Q (.int (i + j)) h
  | .str a, .str b => a.length + b.length ≤ sizeLine ∧ Q (.str (a ++ b)) h
  | .tup xs, .tup ys => xs.length + ys.length ≤ sizeLine ∧ Q (.tup (xs ++ ys)) h
  | _, _ => ∃ xs ys, seqL h x = some xs ∧ seqL h y = some ys ∧ xs.length + ys.length ≤ sizeLine ∧ newL m (xs ++ ys) h Q
def sSub : AR2 := fun x y h Q => match x, y with
  | .int i, .int j => Q (.int (i - j)) h
  | .bl a, .bl b => Q (.int ((if a then 1 else 0) - (if b then 1 else 0))) h
  | _, _ => False
def sMul : AR2 := fun x y h Q => match x, y with
  | .int i, .int j => MulOk i j ∧ Q (.int (i * j)) h
  | _, _ => False
def sRep (m : Bool) : AR2 := fun x y h Q => match x, y with
  | .ref a, .int k => ∃ ds, h a = some ds ∧ 0 ≤ k ∧ k < 1000000000 ∧ ds.length * k.toNat ≤ sizeLine ∧ newL m (List.replicate k.toNat ds).flatten (h.del a) Q
  | _, _ => False
def sDiv : AR2 := fun x y h Q => match x, y with
  | .int i, .int j => DivOk j ∧ Q (.int (i / j)) h
  | _, _ => False
def sMod : AR2 := fun x y h Q => match x, y with
  | .int i, .int j => 0 < j ∧ Q (.int (i % j)) h
  | _, _ => False
def sPow : AR2 := fun x y h Q => match x, y with
  | .int i, .int j => (0 ≤ j ∧ j ≤ 1000000 ∧ i.natAbs < 2 ^ 64) ∧ Q (.int (i ^ j.toNat)) h
  | _, _ => False
def sRel (p : Int → Int → Bool) : AR2 := fun x y h Q => match x, y with
  | .int i, .int j => Q (.bl (p i j)) h
  | _, _ => False
def sEq (neg : Bool) : AR2 := fun x y h Q => (∃ a b, x = .str a ∧ y = .str b ∧ Q (.bl (if neg then !decide (a = b) else decide (a = b))) h) ∨ ∃ p q, pd h x = some p ∧ pd h y = some q ∧ SeqAt.shaped p = true ∧ SeqAt.shaped q = true ∧ Q (.bl (if neg then !PyData.eqv p q else PyData.eqv p q)) h
@[simp] def isNon : D → Bool
  | .non => true
  | _ => false
/-- is, is not: None, or two truth values -/
def sIs (neg : Bool) : AR2 := fun x y h Q => match y with
  | .non => Q (.bl (if neg then !isNon x else isNon x)) h
  | .bl b => (match x with | .bl a => Q (.bl (if neg then !(decide (a = b)) else decide (a = b))) h | _ => False)
  | _ => False
def sNeg : AR1 := fun x h Q => match x with
  | .int i => Q (.int (-i)) h
  | _ => False
def sIx : AR2 := fun x y h Q => match y with
  | .int i => ∃ ds d, seqA h x = some ds ∧ atI ds i = some d ∧ Q d h
  | _ => False
section
variable {X : Cx}
theorem op_sub_bb : OpR X (binaryOp .Sub) (fun x y H Q => ∃ i k, x = .bl i ∧ y = .bl k ∧ Q (.int ((if i then 1 else 0) - (if k then 1 else 0))) H) := by
  intro pins s σ H x y v u Q I rx ry h
  obtain ⟨i, k, rfl, rfl, q⟩ := h
  cases rx
  cases ry
  exact PyProof.Rows.sub_bool ⟨.int _, H, I.tok _, ⟨_, rfl⟩, q⟩
/-- xs + ys, lists that are read -/
theorem op_catSq : OpR X (binaryOp .Add) (fun x y H Q => ∃ a b xs ys, x = .ref a ∧ y = .ref b ∧ SqL X.K H a xs ∧ SqL X.K H b ys ∧ xs.length + ys.length ≤ sizeLine ∧ ∀ p, H p = none → Q (.ref p) (upd H p (.lst (xs ++ ys)))) := by
  intro pins s σ H x y v u Q I rx ry h
  obtain ⟨a, b, xs, ys, rfl, rfl, ha, hb, hz, q⟩ := h
  cases rx
  cases ry
  obtain ⟨i1, r1, p1, z1⟩ := I.list ha
  obtain ⟨i2, r2, p2, z2⟩ := I.list hb
  obtain ⟨⟨c1, d1, t1, l1⟩, g1, k1, n1, f1⟩ := p1.isList
  obtain ⟨⟨c2, d2, t2, l2⟩, g2, k2, n2, f2⟩ := p2.isList
  simp only at k1 f1 k2 f2
  subst k1 f1 k2 f2
  have e1 := r1.length
  have e2 := r2.length
  refine concat_meets ⟨_, g1, rfl⟩ ⟨_, g2, rfl⟩ noFill_list_add seq_list_add PySem.F.slot_list_add PySem.F.entry_list_add (PySem.F.args_list_add_2 _ _)
    (list_addW a b i1.toArray i2.toArray n1 n2 d1 d2 l1 l2 (by simp only [List.size_toArray]; omega)) ⟨g1, g2, ?_⟩
  have e : i1.toArray ++ i2.toArray = (i1 ++ i2).toArray := by simp
  rw [e]
  exact ⟨.ref _, _, I.lnew (t' := s.toks) (r1.append r2) (by rw [List.length_append]; exact hz), rfl, q _ I.fresh⟩
theorem o_add {m : Bool} : AOp X (binaryOp .Add) (sAdd m) := by
  refine ⟨fun x y h Q Q' w q => ?_, fun Z x y h H vx vy Q rx ry R q => ?_⟩
  · unfold sAdd at q ⊢
    split <;> rename_i e1 e2 <;> simp only at q
    · exact w _ _ q
    · exact ⟨q.1, w _ _ q.2⟩
    · exact ⟨q.1, w _ _ q.2⟩
    · obtain ⟨xs, ys, h1, h2, h3, q⟩ := q
      exact ⟨xs, ys, h1, h2, h3, newL_mono w q⟩
  · unfold sAdd at q
    split at q
    · cases rx
      cases ry
      exact ⟨_, op_add, _, _, rfl, rfl, q.fin rfl R⟩
    · cases rx
      cases ry
      exact ⟨_, op_add_str, _, _, rfl, rfl, q.1, EndE.fin q.2 rfl R⟩
    · rename_i xs ys
      obtain ⟨z, q⟩ := q
      simp only [RD] at rx ry
      obtain ⟨a, vs, rfl, ha, ra⟩ := rx
      obtain ⟨b, us, rfl, hb, rb⟩ := ry
      have l1 := ra.length
      have l2 := rb.length
      refine ⟨_, op_catA, a, b, vs, us, rfl, rfl, ha, hb, by omega, fun e => ?_, fun e1 e2 => ?_, fun e1 e2 p n => q.tup (ra.append rb) R n⟩
      · subst e
        have e0 : xs = [] := List.length_eq_zero_iff.mp (by simpa using l1)
        subst e0
        exact EndE.fin q ⟨b, us, rfl, hb, rb⟩ R
      · subst e2
        have e0 : ys = [] := List.length_eq_zero_iff.mp (by simpa using l2)
        subst e0
        rw [List.append_nil] at q
        exact EndE.fin q ⟨a, vs, rfl, ha, ra⟩ R
    · obtain ⟨xs, ys, e1, e2, z, q⟩ := q
      obtain ⟨a, vs, rfl, ha, ra⟩ := seqL_ok R rx e1
      obtain ⟨b, us, rfl, hb, rb⟩ := seqL_ok R ry e2
      have l1 := ra.length
      have l2 := rb.length
      exact ⟨_, op_catSq, a, b, vs, us, rfl, rfl, ha, hb, by omega, fun p n => EndE.new q (ra.append rb) R n⟩
theorem o_sub : AOp X (binaryOp .Sub) sSub := by
  refine ⟨fun x y h Q Q' w q => ?_, fun Z x y h H vx vy Q rx ry R q => ?_⟩
  · unfold sSub at q ⊢
    split <;> rename_i e1 e2 <;> simp only at q <;> exact w _ _ q
  · unfold sSub at q
    split at q
    · cases rx
      cases ry
      exact ⟨_, op_sub, _, _, rfl, rfl, q.fin rfl R⟩
    · cases rx
      cases ry
      exact ⟨_, op_sub_bb, _, _, rfl, rfl, q.fin rfl R⟩
    · exact q.elim
theorem o_mul : AOp X (binaryOp .Mult) sMul := by
  refine ⟨fun x y h Q Q' w q => ?_, fun Z x y h H vx vy Q rx ry R q => ?_⟩
  · unfold sMul at q ⊢
    split <;> rename_i e1 e2 <;> simp only at q
    exact ⟨q.1, w _ _ q.2⟩
  · unfold sMul at q
    split at q
    · cases rx
      cases ry
      exact ⟨_, op_mulW, _, _, rfl, rfl, q.1, EndE.fin q.2 rfl R⟩
    · exact q.elim
/-- a list that is made for this alone, times a number -/
theorem mon_rep {m : Bool} : MonR2 (sRep m) := by
  intro x y h Q Q' w q
  unfold sRep at q ⊢
  split at q
  · obtain ⟨ds, e, h1, h2, h3, q⟩ := q
    exact ⟨ds, e, h1, h2, h3, newL_mono w q⟩
  · exact q.elim
theorem rds_rep {K : PySem.W.Frag} {Z : List Addr} {h : AH} {H : Hp} {ds : List D} {xs : List V} (r : RDs K Z h H ds xs) : ∀ n : Nat, RDs K Z h H (List.replicate n ds).flatten (List.replicate n xs).flatten
  | 0 => rfl
  | n + 1 => by
    rw [List.replicate_succ, List.replicate_succ, List.flatten_cons, List.flatten_cons]
    exact r.append (rds_rep r n)
theorem o_rep {m : Bool} : AOp X (binaryOp .Mult) (sRep m) := by
  refine ⟨mon_rep, fun Z x y h H vx vy Q rx ry R q => ?_⟩
  unfold sRep at q
  split at q
  · rename_i a k
    obtain ⟨ds, e, h1, h2, h3, q⟩ := q
    cases ry
    cases rx
    obtain ⟨xs, hH, rs⟩ := R.at_ a ds e
    have l := rs.length
    refine ⟨_, op_rep, a, k, xs, rfl, rfl, hH, by omega, by omega, by rw [← l]; exact h3, fun p n => ?_⟩
    exact EndE.new (newL_mono (fun d h' => EndE.mono Kp.del) q) (rds_rep (RDs.keep R Kp.del rs) _) R.del n
  · exact q.elim
theorem o_div : AOp X (binaryOp .FloorDiv) sDiv := by
  refine ⟨fun x y h Q Q' w q => ?_, fun Z x y h H vx vy Q rx ry R q => ?_⟩
  · unfold sDiv at q ⊢
    split <;> rename_i e1 e2 <;> simp only at q
    exact ⟨q.1, w _ _ q.2⟩
  · unfold sDiv at q
    split at q
    · cases rx
      cases ry
      exact ⟨_, op_fdivW, _, _, rfl, rfl, q.1, EndE.fin q.2 rfl R⟩
    · exact q.elim
theorem o_mod : AOp X (binaryOp .Mod) sMod := by
  refine ⟨fun x y h Q Q' w q => ?_, fun Z x y h H vx vy Q rx ry R q => ?_⟩
  · unfold sMod at q ⊢
    split <;> rename_i e1 e2 <;> simp only at q
    exact ⟨q.1, w _ _ q.2⟩
  · unfold sMod at q
    split at q
    · cases rx
      cases ry
      exact ⟨_, op_mod, _, _, rfl, rfl, q.1, EndE.fin q.2 rfl R⟩
    · exact q.elim
theorem o_pow : AOp X (binaryOp .Pow) sPow := by
  refine ⟨fun x y h Q Q' w q => ?_, fun Z x y h H vx vy Q rx ry R q => ?_⟩
  · unfold sPow at q ⊢
    split <;> rename_i e1 e2 <;> simp only at q
    exact ⟨q.1, w _ _ q.2⟩
  · unfold sPow at q
    split at q
    · cases rx
      cases ry
      exact ⟨_, op_pow, _, _, rfl, rfl, q.1, EndE.fin q.2 rfl R⟩
    · exact q.elim
theorem o_rel {op : CmpOp} {p : Int → Int → Bool} (o : OpR X (compareOp op) (rI0 fun i j => .bl (p i j))) : AOp X (compareOp op) (sRel p) := by
  refine ⟨fun x y h Q Q' w q => ?_, fun Z x y h H vx vy Q rx ry R q => ?_⟩
  · unfold sRel at q ⊢
    split <;> rename_i e1 e2 <;> simp only at q
    exact w _ _ q
  · unfold sRel at q
    split at q
    · cases rx
      cases ry
      exact ⟨_, o, _, _, rfl, rfl, q.fin rfl R⟩
    · exact q.elim
theorem dec_strV {i j : Str} : decide (V.str i = V.str j) = decide (i = j) := by
  rw [Bool.eq_iff_iff]
  simp
theorem seq_mon {n : Bool} : MonR2 (sEq n) := by
  rintro x y h Q Q' w (⟨a, b, e1, e2, q⟩ | ⟨p, r, e1, e2, z1, z2, q⟩)
  · exact .inl ⟨a, b, e1, e2, w _ _ q⟩
  · exact .inr ⟨p, r, e1, e2, z1, z2, w _ _ q⟩
theorem o_eq (hu : X.A.units + 64 < cLine) : AOp X (compareOp .Eq) (sEq false) := by
  refine ⟨seq_mon, fun Z x y h H vx vy Q rx ry R q => ?_⟩
  rcases q with ⟨a, b, e1, e2, q⟩ | ⟨p, r, e1, e2, z1, z2, q⟩
  · subst e1 e2
    cases rx
    cases ry
    exact ⟨_, op_eq, rfl, by rw [dec_strV]; exact EndE.fin q rfl R⟩
  · exact ⟨_, op_eqD hu, p, r, pd_ok R rx e1, pd_ok R ry e2, z1, z2, EndE.fin q rfl R⟩
theorem o_ne (hu : X.A.units + 64 < cLine) : AOp X (compareOp .NotEq) (sEq true) := by
  refine ⟨seq_mon, fun Z x y h H vx vy Q rx ry R q => ?_⟩
  rcases q with ⟨a, b, e1, e2, q⟩ | ⟨p, r, e1, e2, z1, z2, q⟩
  · subst e1 e2
    cases rx
    cases ry
    exact ⟨_, op_ne, rfl, by rw [dec_strV]; exact EndE.fin q rfl R⟩
  · exact ⟨_, op_neD hu, p, r, pd_ok R rx e1, pd_ok R ry e2, z1, z2, EndE.fin q rfl R⟩
theorem rd_non {K : PySem.W.Frag} {Z : List Addr} {h : AH} {H : Hp} {d : D} {v : V} (r : RD K Z h H d v) : decide (v = .non) = isNon d := by
  cases d with
  | non =>
    cases r
    rfl
  | tup ds =>
    simp only [RD] at r
    obtain ⟨a, xs, rfl, _⟩ := r
    rfl
  | lst ds =>
    simp only [RD] at r
    obtain ⟨a, xs, rfl, _⟩ := r
    rfl
  | _ =>
    cases r
    rfl
theorem o_is : AOp X (compareOp .Is) (sIs false) := by
  refine ⟨fun x y h Q Q' w q => ?_, fun Z x y h H vx vy Q rx ry R q => ?_⟩
  · cases y with
    | non => exact w _ _ q
    | bl b =>
      cases x with
      | bl a => exact w _ _ q
      | _ => exact q.elim
    | _ => exact q.elim
  · cases y with
    | non =>
      cases ry
      exact ⟨_, op_isN, rfl, EndE.fin (d := .bl (decide (vx = .non))) (by rw [rd_non rx]; exact q) rfl R⟩
    | bl b =>
      cases x with
      | bl a =>
        cases rx
        cases ry
        exact ⟨_, op_isBl, _, _, rfl, rfl, EndE.fin q rfl R⟩
      | _ => exact q.elim
    | _ => exact q.elim
theorem o_isnot : AOp X (compareOp .IsNot) (sIs true) := by
  refine ⟨fun x y h Q Q' w q => ?_, fun Z x y h H vx vy Q rx ry R q => ?_⟩
  · cases y with
    | non => exact w _ _ q
    | bl b =>
      cases x with
      | bl a => exact w _ _ q
      | _ => exact q.elim
    | _ => exact q.elim
  · cases y with
    | non =>
      cases ry
      exact ⟨_, op_notN, rfl, EndE.fin (d := .bl (!decide (vx = .non))) (by rw [rd_non rx]; exact q) rfl R⟩
    | bl b =>
      cases x with
      | bl a =>
        cases rx
        cases ry
        exact ⟨_, op_notBl, _, _, rfl, rfl, EndE.fin q rfl R⟩
      | _ => exact q.elim
    | _ => exact q.elim
theorem u_neg : AUn X (unaryOp .USub) sNeg := by
  refine ⟨fun x h Q Q' w q => ?_, fun Z x h H vx Q rx R q => ?_⟩
  · unfold sNeg at q ⊢
    split <;> simp only at q
    exact w _ _ q
  · unfold sNeg at q
    split at q
    · cases rx
      exact ⟨_, un_neg, _, rfl, q.fin rfl R⟩
    · exact q.elim
theorem atI_rd {K : PySem.W.Frag} {Z : List Addr} {h : AH} {H : Hp} {ds : List D} {xs : List V} {i : Int} {d : D} (r : RDs K Z h H ds xs) (e : atI ds i = some d) : ∃ v, atI xs i = some v ∧ RD K Z h H d v := by
  unfold atI at e ⊢
  rw [r.length] at e
  cases q : ixN xs.length i with
  | none =>
    rw [q] at e
    cases e
  | some j =>
    rw [q] at e
    exact r.get e
theorem o_ix : AIx X sIx := by
  refine ⟨fun x y h Q Q' w q => ?_, fun Z x y h H vx vy Q rx ry R q => ?_⟩
  · unfold sIx at q ⊢
    split <;> simp only at q
    obtain ⟨ds, d, e1, e2, q⟩ := q
    exact ⟨ds, d, e1, e2, w _ _ q⟩
  · unfold sIx at q
    split at q
    · obtain ⟨ds, d, e1, e2, q⟩ := q
      cases ry
      obtain ⟨a, xs, rfl, hs, r⟩ := seqA_ok R rx e1
      obtain ⟨v, e3, rv⟩ := atI_rd r e2
      rcases hs with hs | hs
      · exact ⟨_, ix_list, a, xs, _, v, rfl, rfl, hs, e3, EndE.fin q rv R⟩
      · exact ⟨_, ix_tup, a, xs, _, v, rfl, rfl, hs, e3, EndE.fin q rv R⟩
    · exact q.elim
end
/-! ## built-ins -/
def nLen : ARn := fun xs h Q => match xs with
  | [x] => ∃ ds, seqA h x = some ds ∧ Q (.int ds.length) h
  | _ => False
def nTuple : ARn := fun xs h Q => match xs with
  | [x] => ∃ ds, seqA h x = some ds ∧ Q (.tup ds) h
  | _ => False
def nList (m : Bool) : ARn := fun xs h Q => match xs with
  | [x] => ∃ ds, seqA h x = some ds ∧ newL m ds h Q
  | _ => False
def nAbs : ARn := fun xs h Q => match xs with
  | [.int i] => Q (.int i.natAbs) h
  | _ => False
def nInt : ARn := fun xs h Q => match xs with
  | [.int i] => Q (.int i) h
  | [.bl b] => Q (.int (if b then 1 else 0)) h
  | _ => False
def nGcd : ARn := fun xs h Q => match xs with
  | [.int i, .int j] => Q (.int ((Nat.gcd i.natAbs j.natAbs : Nat) : Int)) h
  | _ => False
def nDivmod : ARn := fun xs h Q => match xs with
  | [.int i, .int j] => (0 < j ∧ j < 1073741824) ∧ Q (.tup [.int (i / j), .int (i % j)]) h
  | _ => False
def nAll : ARn := fun xs h Q => match xs with
  | [x] => ∃ bs : List Bool, seqL h x = some (bs.map D.bl) ∧ Q (.bl (bs.all id)) h
  | _ => False
def nAny : ARn := fun xs h Q => match xs with
  | [x] => ∃ bs : List Bool, seqL h x = some (bs.map D.bl) ∧ Q (.bl (bs.any id)) h
  | _ => False
def nSum : ARn := fun xs h Q => match xs with
  | [x] => ∃ ns : List Int, seqL h x = some (ns.map D.int) ∧ Q (.int ns.sum) h
  | _ => False
def nMin : ARn := fun xs h Q => match xs with
  | [.int i, .int j] => Q (.int (if j < i then j else i)) h
  | [x] => ∃ ns : List Int, seqL h x = some (ns.map D.int) ∧ 0 < ns.length ∧ ∀ m, m ∈ ns → (∀ y, y ∈ ns → m ≤ y) → Q (.int m) h
  | [.int a, .int b, .int c, .int d] => ∀ m, m ∈ [a, b, c, d] → (∀ y ∈ [a, b, c, d], m ≤ y) → Q (.int m) h
  | _ => False
def nMax : ARn := fun xs h Q => match xs with
  | [.int i, .int j] => Q (.int (if j > i then j else i)) h
  | [x] => ∃ ns : List Int, seqL h x = some (ns.map D.int) ∧ 0 < ns.length ∧ ∀ m, m ∈ ns → (∀ y, y ∈ ns → y ≤ m) → Q (.int m) h
  | _ => False
@[simp] def tyN : D → String
  | .non => "NoneType"
  | .bl _ => "bool"
  | .int _ => "int"
  | .str _ => "str"
  | .tup _ => "tuple"
  | .lst _ => "list"
  | .ref _ => "list"
  | .ty _ => "type"
@[simp] def isaB (a b : String) : Bool := a == b || (a == "bool" && b == "int")
def okTy (h : AH) : D → Prop
  | .ref a => h a ≠ none
  | .ty _ => False
  | _ => True
def nIsi : ARn := fun xs h Q => match xs with
  | [x, .ty T] => okTy h x ∧ T ∈ ["int", "bool", "tuple", "list", "str", "dict"] ∧ Q (.bl (isaB (tyN x) T)) h
  | _ => False
section
variable {X : Cx}
theorem b_len : ACall X (.builtin "len") nLen := by
  refine ⟨fun x h Q Q' w q => ?_, fun Z xs h H vs Q rx R q => ?_⟩
  · unfold nLen at q ⊢
    split <;> simp only at q
    obtain ⟨ds, e, q⟩ := q
    exact ⟨ds, e, w _ _ q⟩
  · unfold nLen at q
    split at q
    · obtain ⟨ds, e, q⟩ := q
      obtain ⟨v, rfl, r1⟩ := rx.one_of
      obtain ⟨a, xs, rfl, hs, r⟩ := seqA_ok R r1 e
      exact ⟨_, call_len_seq, a, xs, rfl, hs, by rw [← r.length]; exact EndE.fin q rfl R⟩
    · exact q.elim
theorem b_tuple : ACall X (.type "tuple") nTuple := by
  refine ⟨fun x h Q Q' w q => ?_, fun Z xs h H vs Q rx R q => ?_⟩
  · unfold nTuple at q ⊢
    split <;> simp only at q
    obtain ⟨ds, e, q⟩ := q
    exact ⟨ds, e, w _ _ q⟩
  · unfold nTuple at q
    split at q
    · obtain ⟨ds, e, q⟩ := q
      obtain ⟨v, rfl, r1⟩ := rx.one_of
      obtain ⟨a, xs, rfl, hs, r⟩ := seqA_ok R r1 e
      refine ⟨_, call_tuple_of, a, xs, rfl, ?_⟩
      rcases hs with hs | hs
      · exact .inl ⟨hs, fun p n => EndE.tup q r R n⟩
      · exact .inr ⟨hs, EndE.fin q ⟨a, xs, rfl, hs, r⟩ R⟩
    · exact q.elim
theorem b_list {m : Bool} : ACall X (.type "list") (nList m) := by
  refine ⟨fun x h Q Q' w q => ?_, fun Z xs h H vs Q rx R q => ?_⟩
  · unfold nList at q ⊢
    split <;> simp only at q
    obtain ⟨ds, e, q⟩ := q
    exact ⟨ds, e, newL_mono w q⟩
  · unfold nList at q
    split at q
    · obtain ⟨ds, e, q⟩ := q
      obtain ⟨v, rfl, r1⟩ := rx.one_of
      obtain ⟨a, xs, rfl, hs, r⟩ := seqA_ok R r1 e
      exact ⟨_, call_list_of, a, xs, rfl, hs, fun p n => EndE.new q r R n⟩
    · exact q.elim
theorem b_abs : ACall X (.builtin "abs") nAbs := by
  refine ⟨fun x h Q Q' w q => ?_, fun Z xs h H vs Q rx R q => ?_⟩
  · unfold nAbs at q ⊢
    split <;> simp only at q
    exact w _ _ q
  · unfold nAbs at q
    split at q
    · rename_i i
      obtain ⟨v, rfl, r1⟩ := rx.one_of
      cases r1
      refine ⟨_, call_abs, i, rfl, ?_⟩
      have e : (if i < 0 then -i else i) = (i.natAbs : Int) := by omega
      rw [e]
      exact EndE.fin q rfl R
    · exact q.elim
theorem b_int : ACall X (.type "int") nInt := by
  refine ⟨fun x h Q Q' w q => ?_, fun Z xs h H vs Q rx R q => ?_⟩
  · unfold nInt at q ⊢
    split <;> simp only at q <;> exact w _ _ q
  · unfold nInt at q
    split at q
    · obtain ⟨v, rfl, r1⟩ := rx.one_of
      cases r1
      exact ⟨_, call_int1, .inl ⟨_, rfl, EndE.fin q rfl R⟩⟩
    · obtain ⟨v, rfl, r1⟩ := rx.one_of
      cases r1
      exact ⟨_, call_int1, .inr ⟨_, rfl, EndE.fin q rfl R⟩⟩
    · exact q.elim
theorem b_gcd : ACall X (.builtin "math.gcd") nGcd := by
  refine ⟨fun x h Q Q' w q => ?_, fun Z xs h H vs Q rx R q => ?_⟩
  · unfold nGcd at q ⊢
    split <;> simp only at q
    exact w _ _ q
  · unfold nGcd at q
    split at q
    · obtain ⟨v, u, rfl, r1, r2⟩ := rx.two_of
      cases r1
      cases r2
      exact ⟨_, cr_gcd, _, _, rfl, EndE.fin q rfl R⟩
    · exact q.elim
theorem b_divmod : ACall X (.builtin "divmod") nDivmod := by
  refine ⟨fun x h Q Q' w q => ?_, fun Z xs h H vs Q rx R q => ?_⟩
  · unfold nDivmod at q ⊢
    split <;> simp only at q
    exact ⟨q.1, w _ _ q.2⟩
  · unfold nDivmod at q
    split at q
    · obtain ⟨v, u, rfl, r1, r2⟩ := rx.two_of
      cases r1
      cases r2
      exact ⟨_, call_divmod, _, _, rfl, q.1, fun p n => EndE.tup (ds := [.int _, .int _]) q.2 ⟨_, _, rfl, rfl, _, _, rfl, rfl, rfl⟩ R n⟩
    · exact q.elim
theorem b_all (hc : X.calm = true) : ACall X (.builtin "all") nAll := by
  refine ⟨fun x h Q Q' w q => ?_, fun Z xs h H vs Q rx R q => ?_⟩
  · unfold nAll at q ⊢
    split <;> simp only at q
    obtain ⟨ds, e, q⟩ := q
    exact ⟨ds, e, w _ _ q⟩
  · unfold nAll at q
    split at q
    · obtain ⟨bs, e, q⟩ := q
      obtain ⟨v, rfl, r1⟩ := rx.one_of
      obtain ⟨a, xs, rfl, hs, r⟩ := seqL_ok R r1 e
      rw [r.bls] at hs
      exact ⟨_, cr_all hc, a, bs, rfl, hs, EndE.fin q rfl R⟩
    · exact q.elim
theorem b_any (hc : X.calm = true) : ACall X (.builtin "any") nAny := by
  refine ⟨fun x h Q Q' w q => ?_, fun Z xs h H vs Q rx R q => ?_⟩
  · unfold nAny at q ⊢
    split <;> simp only at q
    obtain ⟨ds, e, q⟩ := q
    exact ⟨ds, e, w _ _ q⟩
  · unfold nAny at q
    split at q
    · obtain ⟨bs, e, q⟩ := q
      obtain ⟨v, rfl, r1⟩ := rx.one_of
      obtain ⟨a, xs, rfl, hs, r⟩ := seqL_ok R r1 e
      rw [r.bls] at hs
      exact ⟨_, cr_any hc, a, bs, rfl, hs, EndE.fin q rfl R⟩
    · exact q.elim
theorem b_sum (hc : X.calm = true) : ACall X (.builtin "sum") nSum := by
  refine ⟨fun x h Q Q' w q => ?_, fun Z xs h H vs Q rx R q => ?_⟩
  · unfold nSum at q ⊢
    split <;> simp only at q
    obtain ⟨ds, e, q⟩ := q
    exact ⟨ds, e, w _ _ q⟩
  · unfold nSum at q
    split at q
    · obtain ⟨ns, e, q⟩ := q
      obtain ⟨v, rfl, r1⟩ := rx.one_of
      obtain ⟨a, xs, rfl, hs, r⟩ := seqL_ok R r1 e
      rw [r.ints] at hs
      exact ⟨_, cr_sum hc, a, ns, rfl, hs, EndE.fin q rfl R⟩
    · exact q.elim
theorem b_min (hc : X.calm = true) : ACall X (.builtin "min") nMin := by
  refine ⟨fun x h Q Q' w q => ?_, fun Z xs h H vs Q rx R q => ?_⟩
  · unfold nMin at q ⊢
    split <;> simp only at q
    · exact w _ _ q
    · obtain ⟨ns, e, l, q⟩ := q
      exact ⟨ns, e, l, fun m h1 h2 => w _ _ (q m h1 h2)⟩
    · exact fun m h1 h2 => w _ _ (q m h1 h2)
  · unfold nMin at q
    split at q
    · obtain ⟨v, u, rfl, r1, r2⟩ := rx.two_of
      cases r1
      cases r2
      exact ⟨_, call_min2 hc, _, _, rfl, EndE.fin q rfl R⟩
    · obtain ⟨ns, e, l, q⟩ := q
      obtain ⟨v, rfl, r1⟩ := rx.one_of
      obtain ⟨a, xs, rfl, hs, r⟩ := seqL_ok R r1 e
      rw [r.ints] at hs
      exact ⟨_, cr_min hc, a, ns, rfl, hs, l, fun m h1 h2 => EndE.fin (q m h1 h2) rfl R⟩
    · rename_i a b c d
      simp only [RDs] at rx
      obtain ⟨v1, _, rfl, r1, v2, _, rfl, r2, v3, _, rfl, r3, v4, _, rfl, r4, rfl⟩ := rx
      cases r1
      cases r2
      cases r3
      cases r4
      exact ⟨_, cr_min4 hc, a, b, c, d, rfl, fun m h1 h2 => EndE.fin (q m h1 h2) rfl R⟩
    · exact q.elim
theorem b_max (hc : X.calm = true) : ACall X (.builtin "max") nMax := by
  refine ⟨fun x h Q Q' w q => ?_, fun Z xs h H vs Q rx R q => ?_⟩
  · unfold nMax at q ⊢
    split <;> simp only at q
    · exact w _ _ q
    · obtain ⟨ns, e, l, q⟩ := q
      exact ⟨ns, e, l, fun m h1 h2 => w _ _ (q m h1 h2)⟩
  · unfold nMax at q
    split at q
    · obtain ⟨v, u, rfl, r1, r2⟩ := rx.two_of
      cases r1
      cases r2
      exact ⟨_, call_max2 hc, _, _, rfl, EndE.fin q rfl R⟩
    · obtain ⟨ns, e, l, q⟩ := q
      obtain ⟨v, rfl, r1⟩ := rx.one_of
      obtain ⟨a, xs, rfl, hs, r⟩ := seqL_ok R r1 e
      rw [r.ints] at hs
      exact ⟨_, cr_max hc, a, ns, rfl, hs, l, fun m h1 h2 => EndE.fin (q m h1 h2) rfl R⟩
    · exact q.elim
theorem isa_kit : ∀ a ∈ ["NoneType", "bool", "int", "str", "tuple", "list"], ∀ b ∈ ["int", "bool", "tuple", "list", "str", "dict"], kitB a b = some (isaB a b) := by decide +kernel
theorem ty_of {K : PySem.W.Frag} {Z : List Addr} {h : AH} {H : Hp} {x : D} {v : V} (R : RH K Z h H) (r : RD K Z h H x v) (ok : okTy h x) : TyX K H v (.type (tyN x)) ∧ tyN x ∈ ["NoneType", "bool", "int", "str", "tuple", "list"] := by
  cases x with
  | non => cases r; exact ⟨.base .non, by decide⟩
  | bl b => cases r; exact ⟨.base (.bl b), by simp [tyN]⟩
  | int i => cases r; exact ⟨.base (.int i), by simp [tyN]⟩
  | str s => cases r; exact ⟨.base (.str s), by simp [tyN]⟩
  | tup ds =>
    simp only [RD] at r
    obtain ⟨a, xs, rfl, hs, _⟩ := r
    refine ⟨?_, by simp [tyN]⟩
    rcases hs with hs | ⟨o, its, n, e, c, _⟩
    · rcases hs with hs | ⟨o, hs⟩
      · exact .base (.tup hs)
      · exact .fTuple hs
    · exact .kTuple e c
  | lst ds =>
    simp only [RD] at r
    obtain ⟨a, xs, rfl, hs, _⟩ := r
    refine ⟨?_, by simp [tyN]⟩
    rcases hs.sq with hs | ⟨o, its, n, e, c, _⟩
    · rcases hs with hs | ⟨o, hs⟩
      · exact .base (.lst hs)
      · exact .base (.frz hs)
    · exact .kList e c
  | ref a =>
    cases r
    cases e : h a with
    | none => exact absurd e ok
    | some ds =>
      obtain ⟨xs, e1, _⟩ := R.at_ a ds e
      exact ⟨.base (.lst e1), by simp [tyN]⟩
  | ty n => exact ok.elim
theorem b_isi : ACall X (.builtin "isinstance") nIsi := by
  refine ⟨fun x h Q Q' w q => ?_, fun Z xs h H vs Q rx R q => ?_⟩
  · unfold nIsi at q ⊢
    split <;> simp only at q
    exact ⟨q.1, q.2.1, w _ _ q.2.2⟩
  · unfold nIsi at q
    split at q
    · rename_i x T
      obtain ⟨v, u, rfl, r1, r2⟩ := rx.two_of
      cases r2
      obtain ⟨q1, q2, q3⟩ := q
      obtain ⟨t1, t2⟩ := ty_of R r1 q1
      exact ⟨_, call_isi, v, .ty T, .type (tyN x), .type T, _, rfl, .ty T, t1, kit_ty (isa_kit _ t2 _ q2), EndE.fin q3 rfl R⟩
    · exact q.elim
end
end WF

open PySem L2
set_option Elab.async false
set_option linter.all false
set_option maxRecDepth 100000
set_option maxHeartbeats 1000000
/-! # part 4: targets, statements, loops -/
namespace WF
open PySem PySem.Spec PyProof.Rows L2
/-! ## targets -/
abbrev ATG := D → ASt → AH → (ASt → AH → Prop) → Prop
abbrev ATGs := List D → ASt → AH → (ASt → AH → Prop) → Prop
def MonG (t : ATG) : Prop := ∀ d σ h Q Q', (∀ σ' h', Q σ' h' → Q' σ' h') → t d σ h Q → t d σ h Q'
def MonGs (t : ATGs) : Prop := ∀ d σ h Q Q', (∀ σ' h', Q σ' h' → Q' σ' h') → t d σ h Q → t d σ h Q'
def lftG (K : PySem.W.Frag) (t : ATG) : TG := fun v σ H Q => ∃ Z d σa h, RD K Z h H d v ∧ RS K Z h H σa σ ∧ RH K Z h H ∧ t d σa h (EndS K Z h H Q)
def lftGs (K : PySem.W.Frag) (t : ATGs) : TGs := fun vs σ H Q => ∃ Z ds σa h, RDs K Z h H ds vs ∧ RS K Z h H σa σ ∧ RH K Z h H ∧ t ds σa h (EndS K Z h H Q)
structure AG (X : Cx) (e : Expr) (t : ATG) : Prop where
  mon : MonG t
  run : PG X e (lftG X.K t)
structure AGs (X : Cx) (es : List Expr) (t : ATGs) : Prop where
  mon : MonGs t
  run : PGs X es (lftGs X.K t)
theorem pg_weak {X : Cx} {e : Expr} {t t' : TG} (h : PG X e t) (w : ∀ v σ H Q, t' v σ H Q → t v σ H Q) : PG X e t' := ⟨fun pins s σ H v u Q I r q => h.run pins s σ H v u Q I r (w v σ H Q q)⟩
theorem pgs_weak {X : Cx} {e : List Expr} {t t' : TGs} (h : PGs X e t) (w : ∀ v σ H Q, t' v σ H Q → t v σ H Q) : PGs X e t' := ⟨fun pins s σ H v u Q I r q => h.run pins s σ H v u Q I r (w v σ H Q q)⟩
def gN (i : Nat) : ATG := fun d σ h Q => Q (σ.set i (some d)) h
def gsNil : ATGs := fun ds σ h Q => ds = [] ∧ Q σ h
def gsCons (t : ATG) (u : ATGs) : ATGs := fun ds σ h Q => ∃ d r, ds = d :: r ∧ t d σ h fun σ' h' => u r σ' h' Q
def gT (t : ATGs) (n : Nat) : ATG := fun d σ h Q => ∃ ds, seqA h d = some ds ∧ ds.length = n ∧ t ds σ h Q
/-- a tuple or a list of that length, taken apart -/
def gAny (K : PySem.W.Frag) (n : Nat) (t : TGs) : TG := fun v σ H Q => ∃ a xs, v = .ref a ∧ (SqL K H a xs ∨ SqT K H a xs) ∧ xs.length = n ∧ t xs σ H Q
theorem pg_any {X : Cx} {es : List Expr} {k n : Nat} {t : TGs} {pos : Pos} (hc : X.calm = true) (h : PGs X es t) (hn : (assignEach es X.env).length = n) (hst : (assignEach es X.env).findIdx? (·.1) = none) : PG X (.Tuple es k pos) (gAny X.K n t) := by
  refine ⟨fun pins s σ H v u Q I r hw => ?_⟩
  obtain ⟨a, xs, e, hs, l, q⟩ := hw
  rcases hs with hs | hs
  · exact (pg_unl hc h hn hst).run pins s σ H v u Q I r ⟨a, xs, e, hs, l, q⟩
  · exact (pg_tup hc h hn hst).run pins s σ H v u Q I r ⟨a, xs, e, hs, l, q⟩
/-- o[i] = a value -/
def gS (to ti : ATE) : ATG := fun d σ h Q => to σ h fun o h1 => ti σ h1 fun k h2 => ∃ a i j ds, o = .ref a ∧ k = .int i ∧ h2 a = some ds ∧ ixN ds.length i = some j ∧ Q σ (h2.set a (ds.set j d))
section
variable {X : Cx} {e o i : Expr} {es : List Expr} {to ti te : ATE} {pos : Pos}
theorem ag_name {i : Nat} {x : Str} (hN : X.N.Nodup) (hi : X.N[i]? = some x) (hx : Loc X.env.scope x) (hf : X.fn x = true ∨ X.env.scope.names.lookup x = some .local) : AG X (.Name x pos) (gN i) := by
  refine ⟨fun d σ h Q Q' w q => w _ _ q, pg_weak (pg_name hN hi hx hf) ?_⟩
  rintro v σ H Q ⟨Z, d, σa, h, r, rs, R, q⟩
  exact q _ _ (rs.put r) R Kp.refl
theorem ags_nil : AGs X [] gsNil := by
  refine ⟨fun d σ h Q Q' w q => ⟨q.1, w _ _ q.2⟩, pgs_weak pgs_nil ?_⟩
  rintro vs σ H Q ⟨Z, ds, σa, h, r, rs, R, e, q⟩
  subst e
  exact ⟨r, q _ _ rs R Kp.refl⟩
theorem ags_cons {t : ATG} {u : ATGs} (h1 : AG X e t) (h2 : AGs X es u) (hs : (assignEach (e :: es) X.env).map (·.2) = assign e X.env :: (assignEach es X.env).map (·.2)) : AGs X (e :: es) (gsCons t u) := by
  refine ⟨fun d σ h Q Q' w ⟨d0, r, e, q⟩ => ⟨d0, r, e, h1.mon _ _ _ _ _ (fun σ1 h1' q1 => h2.mon _ _ _ _ _ w q1) q⟩, pgs_weak (pgs_cons h1.run h2.run hs) ?_⟩
  rintro vs σ H Q ⟨Z, ds, σa, h, r, rs, R, d, r0, e, q⟩
  subst e
  simp only [RDs] at r
  obtain ⟨v, vr, rfl, r1, r2⟩ := r
  refine ⟨v, vr, rfl, Z, d, σa, h, r1, rs, R, h1.mon _ _ _ _ _ (fun σ1 h1' q1 => ?_) q⟩
  intro σ' H' rs' R' k'
  exact ⟨Z, r0, σ1, h1', RDs.keep R k' r2, rs', R', h2.mon _ _ _ _ _ (fun _ _ e => e.mono k') q1⟩
theorem ag_tup {k n : Nat} {t : ATGs} (hc : X.calm = true) (h : AGs X es t) (hn : (assignEach es X.env).length = n) (hst : (assignEach es X.env).findIdx? (·.1) = none) : AG X (.Tuple es k pos) (gT t n) := by
  refine ⟨fun d σ h' Q Q' w ⟨ds, e, l, q⟩ => ⟨ds, e, l, h.mon _ _ _ _ _ w q⟩, pg_weak (pg_any hc h.run hn hst) ?_⟩
  rintro v σ H Q ⟨Z, d, σa, h', r, rs, R, ds, e, l, q⟩
  obtain ⟨a, xs, rfl, hs, r⟩ := seqA_ok R r e
  exact ⟨a, xs, rfl, hs, by rw [← r.length]; exact l, Z, ds, σa, h', r, rs, R, q⟩
theorem ag_sub (ho : AE X o to) (hi : AE X i ti) (ha : ∀ v, assign (.Subscript o i pos) X.env v = (do
      let ov ← holding [v] (eval o X.env)
      let iv ← holding [v, ov] (eval i X.env)
      standAt pos
      holding [v, ov, iv] (setItem ov iv v)
      release [v, ov, iv] [])) : AG X (.Subscript o i pos) (gS to ti) := by
  refine ⟨fun d σ h Q Q' w q => ho.mon _ _ _ _ (fun x h1 q1 => hi.mon _ _ _ _ (fun y h2 ⟨a, k, j, ds, e1, e2, e3, e4, q2⟩ => ⟨a, k, j, ds, e1, e2, e3, e4, w _ _ q2⟩) q1) q, pg_weak (pg_sub ho.run hi.run set_list ha) ?_⟩
  rintro v σ H Q ⟨Z, d, σa, h, r, rs, R, q⟩
  refine ⟨Z, σa, h, rs, R, ho.mon _ _ _ _ (fun x h1 q1 => ?_) q⟩
  intro ov H1 r1 R1 k1
  refine ⟨Z, σa, h1, rs.keep R k1, R1, hi.mon _ _ _ _ (fun y h2 q2 => ?_) q1⟩
  intro iv H2 r2 R2 k2
  obtain ⟨a, kk, j, ds, e1, e2, e3, e4, q3⟩ := q2
  subst e1 e2
  have r1' := RD.keep R1 k2 r1
  cases r1'
  cases r2
  obtain ⟨xs, g, rr⟩ := R2.at_ a ds e3
  refine ⟨a, xs, kk, j, rfl, rfl, g, by rw [← rr.length]; exact e4, ?_⟩
  have kk' := k1.trans k2
  have ne : h2 a ≠ none := by rw [e3]; exact fun z => nomatch z
  have kput : Kp h2 H2 (h2.set a (ds.set j d)) (upd H2 a (.lst (xs.set j v))) := Kp.put (.inl ne)
  exact q3 _ _ ((rs.keep R kk').keep R2 kput) (R2.put (.inl ne) (rr.set j (RD.keep R kk' r))) (kk'.trans kput)
/-! ## small statements -/
variable {st : Stmt} {rest : List Stmt} {t u : ATS}
def sNext : ATS := fun E σ h => E.nx σ h
def sSeq (t u : ATS) : ATS := fun E σ h => t { E with nx := fun σ' h' => u E σ' h' } σ h
theorem lftEnds_mono {K : PySem.W.Frag} {Z : List Addr} {h h1 : AH} {H H1 : Hp} {D : Ends} (k : Kp h H h1 H1) : (lftEnds K Z h H D).Le (lftEnds K Z h1 H1 D) :=
  ⟨fun _ _ e => e.mono k, fun _ _ e => e.mono k, fun _ _ e => e.mono k, fun _ _ e => e.mono k⟩
theorem ass_nil : ASs X [] sNext := by
  refine ⟨fun D D' σ h l q => l.nx _ _ q, pss_weak pss_nil ?_⟩
  rintro D σ H ⟨Z, σa, h, rs, R, q⟩
  exact (q : EndS X.K Z h H D.nx σa h) σ H rs R Kp.refl
theorem ass_cons (h1 : AS X st t) (h2 : ASs X rest u) : ASs X (st :: rest) (sSeq t u) := by
  refine ⟨fun D D' σ h l q => h1.mon { D with nx := fun σ' h' => u D σ' h' } { D' with nx := fun σ' h' => u D' σ' h' } _ _ ⟨fun σ' h' q' => h2.mon D D' _ _ l q', l.rt, l.bk, l.ct⟩ q, pss_weak (pss_cons h1.run h2.run) ?_⟩
  rintro D σ H ⟨Z, σa, h, rs, R, q⟩
  refine ⟨Z, σa, h, rs, R, h1.mon { lftEnds X.K Z h H D with nx := fun σ' h' => u (lftEnds X.K Z h H D) σ' h' } _ _ _ ⟨fun σ' h' q' => ?_, fun _ _ e => e, fun _ _ e => e, fun _ _ e => e⟩ q⟩
  intro σ2 H2 rs2 R2 k2
  exact ⟨Z, σ', h', rs2, R2, h2.mon _ _ _ _ (lftEnds_mono k2) q'⟩
theorem as_pass : AS X (.Pass pos) sNext := by
  refine ⟨fun D D' σ h l q => l.nx _ _ q, ps_weak ps_pass ?_⟩
  rintro D σ H ⟨Z, σa, h, rs, R, q⟩
  exact (q : EndS X.K Z h H D.nx σa h) σ H rs R Kp.refl
def sBrk : ATS := fun E σ h => E.bk σ h
def sCnt : ATS := fun E σ h => E.ct σ h
theorem as_brk : AS X (.Break pos) sBrk := by
  refine ⟨fun D D' σ h l q => l.bk _ _ q, ps_weak ps_break ?_⟩
  rintro D σ H ⟨Z, σa, h, rs, R, q⟩
  exact (q : EndS X.K Z h H D.bk σa h) σ H rs R Kp.refl
theorem as_cnt : AS X (.Continue pos) sCnt := by
  refine ⟨fun D D' σ h l q => l.ct _ _ q, ps_weak ps_continue ?_⟩
  rintro D σ H ⟨Z, σa, h, rs, R, q⟩
  exact (q : EndS X.K Z h H D.ct σa h) σ H rs R Kp.refl
/-- what is never come to -/
def sNever : ATS := fun _ _ _ => False
theorem as_never : AS X st sNever := by
  refine ⟨fun D D' σ h l q => q, ps_weak ps_never ?_⟩
  rintro D σ H ⟨Z, σa, h, rs, R, q⟩
  exact q
def sDrop (te : ATE) : ATS := fun E σ h => te σ h fun _ h1 => E.nx σ h1
theorem as_expr (he : AE X e te) (hs : swapsWith e none pos.line X.env = pure false) : AS X (.Expr e pos) (sDrop te) := by
  refine ⟨fun D D' σ h l q => he.mon _ _ _ _ (fun _ h1 q1 => l.nx _ _ q1) q, ps_weak (ps_expr he.run hs) ?_⟩
  rintro D σ H ⟨Z, σa, h, rs, R, q⟩
  refine ⟨Z, σa, h, rs, R, he.mon _ _ _ _ (fun d h1 q1 => ?_) q⟩
  intro v H1 r1 R1 k1
  exact (q1 : EndS X.K Z h H D.nx σa h1) σ H1 (rs.keep R k1) R1 k1
def sRet (te : ATE) : ATS := fun E σ h => te σ h E.rt
theorem as_ret (he : AE X e te) : AS X (.Return (some e) pos) (sRet te) := by
  refine ⟨fun D D' σ h l q => he.mon _ _ _ _ l.rt q, ps_weak (ps_ret he.run) ?_⟩
  rintro D σ H ⟨Z, σa, h, rs, R, q⟩
  exact ⟨Z, σa, h, rs, R, q⟩
def sRetN : ATS := fun E σ h => E.rt .non h
theorem as_retN : AS X (.Return none pos) sRetN := by
  refine ⟨fun D D' σ h l q => l.rt _ _ q, ps_weak ps_retN ?_⟩
  rintro D σ H ⟨Z, σa, h, rs, R, q⟩
  exact EndE.fin (show EndE X.K Z h H D.rt .non h from q) rfl R
def sIf (tc : ATE) (t u : ATS) : ATS := fun E σ h => tc σ h fun d h1 => ∃ k, d = .bl k ∧ if k = true then t E σ h1 else u E σ h1
theorem as_if {c : Expr} {a b : List Stmt} {tc : ATE} (hc : AT X c (aTst tc)) (mc : MonE tc) (ha : ASs X a t) (hb : ASs X b u) : AS X (.If c a b pos) (sIf tc t u) := by
  refine ⟨fun D D' σ h l q => mc _ _ _ _ ?_ q, ps_weak (ps_if hc.run ha.run hb.run) ?_⟩
  · rintro d h1 ⟨k, e, q1⟩
    refine ⟨k, e, ?_⟩
    cases k with
    | true => exact ha.mon _ _ _ _ l q1
    | false => exact hb.mon _ _ _ _ l q1
  · rintro D σ H ⟨Z, σa, h, rs, R, q⟩
    refine ⟨Z, σa, h, rs, R, mc _ _ _ _ (fun d h1 ⟨k, e1, q1⟩ => ?_) q⟩
    subst e1
    refine ⟨k, rfl, fun H1 R1 k1 => ?_⟩
    cases k with
    | true => exact ⟨Z, σa, h1, rs.keep R k1, R1, ha.mon _ _ _ _ (lftEnds_mono k1) q1⟩
    | false => exact ⟨Z, σa, h1, rs.keep R k1, R1, hb.mon _ _ _ _ (lftEnds_mono k1) q1⟩
def sAsg (te : ATE) (g : ATG) : ATS := fun E σ h => te σ h fun d h1 => g d σ h1 E.nx
theorem sasg_mon {g : ATG} (me : MonE te) (mg : MonG g) : MonS (sAsg te g) := fun D D' σ h l q => me _ _ _ _ (fun d h1 q1 => mg _ _ _ _ _ l.nx q1) q
theorem sasg_w {g : ATG} (me : MonE te) (mg : MonG g) : ∀ D σ H, lftS X.K (sAsg te g) D σ H → tAsg (lftE X.K te) (lftG X.K g) D σ H := by
  rintro D σ H ⟨Z, σa, h, rs, R, q⟩
  refine ⟨Z, σa, h, rs, R, me _ _ _ _ (fun d h1 q1 => ?_) q⟩
  intro v H1 r1 R1 k1
  exact ⟨Z, d, σa, h1, r1, rs.keep R k1, R1, mg _ _ _ _ _ (fun _ _ e => (e : EndS X.K Z h H D.nx _ _).mono k1) q1⟩
theorem as_asg {tg : Expr} {g : ATG} (he : AE X e te) (hg : AG X tg g) (hs : swapsWithSole [tg] e pos.line X.env = pure false) (hw : swappedStores [tg] e X.env = pure none)
    (h1 : (assignEach [tg] X.env).map (·.2) = [assign tg X.env]) : AS X (.Assign [tg] e pos) (sAsg te g) :=
  ⟨sasg_mon he.mon hg.mon, ps_weak (ps_asg he.run hg.run hs hw h1) (sasg_w he.mon hg.mon)⟩
/-- a frozen list is a value from here on -/
def sFrz (i : Nat) (t : ATS) : ATS := fun E σ h => ∃ a ds, σ[i]? = some (some (.ref a)) ∧ h a = some ds ∧ t E (σ.set i (some (.lst ds))) (h.del a)
theorem ass_frz {i : Nat} (h1 : ASs X rest t) : ASs X rest (sFrz i t) := by
  refine ⟨fun D D' σ h l ⟨a, ds, e1, e2, q⟩ => ⟨a, ds, e1, e2, h1.mon _ _ _ _ l q⟩, pss_weak h1.run ?_⟩
  rintro D σ H ⟨Z, σa, h, rs, R, a, ds, e1, e2, q⟩
  obtain ⟨v, g, r⟩ := rs.2 i _ e1
  have rs2 : RS X.K Z (h.del a) H (σa.set i (some (.lst ds))) (σ.set i (some (.ref a))) := (rs.keep R Kp.del).put (RD.frozen R e2)
  have e3 : σ.set i (some (V.ref a)) = σ := by
    cases r
    refine List.ext_getElem? fun j => ?_
    rw [List.getElem?_set]
    split
    · rename_i hj
      subst hj
      split
      · exact g.symm
      · rename_i hl
        rw [List.getElem?_eq_none (by omega)] at g
        cases g
    · rfl
  rw [e3] at rs2
  exact ⟨Z, _, _, rs2, R.del, h1.mon _ _ _ _ (lftEnds_mono Kp.del) q⟩
/-- x += e, ints -/
def sAug (i : Nat) (te : ATE) : ATS := fun E σ h => ∃ a, σ[i]? = some (some (.int a)) ∧ te σ h fun d h1 => ∃ b, d = .int b ∧ E.nx (σ.set i (some (.int (a + b)))) h1
theorem as_aug {i : Nat} {x : Str} {pos' : Pos} (hN : X.N.Nodup) (hi : X.N[i]? = some x) (hx : Loc X.env.scope x) (he : AE X e te) (hf : X.fn x = true ∨ X.env.scope.names.lookup x = some .local) : AS X (.AugAssign (.Name x pos') .Add e pos) (sAug i te) := by
  refine ⟨fun D D' σ h l ⟨a, e, q⟩ => ⟨a, e, he.mon _ _ _ _ (fun d h1 ⟨b, e2, q1⟩ => ⟨b, e2, l.nx _ _ q1⟩) q⟩, ps_weak (ps_aug hN hi hx he.run ip_add hf) ?_⟩
  rintro D σ H ⟨Z, σa, h, rs, R, a, e1, q⟩
  obtain ⟨v, g, r⟩ := rs.2 i _ e1
  cases r
  refine ⟨_, g, Z, σa, h, rs, R, he.mon _ _ _ _ (fun d h1 ⟨b, e2, q1⟩ => ?_) q⟩
  intro v H1 r1 R1 k1
  subst e2
  cases r1
  exact ⟨a, b, rfl, rfl, (q1 : EndS X.K Z h H D.nx _ h1) _ H1 ((rs.keep R k1).put (d := .int (a + b)) rfl) R1 k1⟩
/-! ## while -/
def sWhile (tc : ATE) (tb : ATS) : ATS := fun E σ h => ∃ W : Nat → ASt → AH → Prop, (∃ m, W m σ h) ∧ ∀ m σ h, W m σ h → tc σ h fun d h1 => ∃ k, d = .bl k ∧
  if k = true then tb { E with nx := fun σ' h' => ∃ m', m' < m ∧ W m' σ' h', ct := fun σ' h' => ∃ m', m' < m ∧ W m' σ' h', bk := E.nx } σ h1 else E.nx σ h1
theorem as_while {c : Expr} {body : List Stmt} {tc : ATE} (hp : PassesOwn (model X.prog X.w) X.A X.env X.xe) (hc : AT X c (aTst tc)) (mc : MonE tc) (hb : ASs X body t) : AS X (.While c body [] pos) (sWhile tc t) := by
  refine ⟨fun D D' σ h l ⟨W, w0, ws⟩ => ⟨W, w0, fun m σ h w => mc _ _ _ _ ?_ (ws m σ h w)⟩, ps_weak (ps_while hp hc.run hb.run) ?_⟩
  · rintro d h1 ⟨k, e, q1⟩
    refine ⟨k, e, ?_⟩
    cases k with
    | true => exact hb.mon { D with nx := fun σ' h' => ∃ m', m' < m ∧ W m' σ' h', ct := fun σ' h' => ∃ m', m' < m ∧ W m' σ' h', bk := D.nx } _ _ _ ⟨fun _ _ z => z, l.rt, l.nx, fun _ _ z => z⟩ q1
    | false => exact l.nx _ _ q1
  · rintro D σ H ⟨Z, σa, h, rs, R, W, ⟨m0, w0⟩, ws⟩
    refine ⟨fun m σ' H' => ∃ σa' h', RS X.K Z h' H' σa' σ' ∧ RH X.K Z h' H' ∧ Kp h H h' H' ∧ W m σa' h', ⟨m0, σa, h, rs, R, Kp.refl, w0⟩, ?_⟩
    rintro m σ1 H1 ⟨σa1, h1, rs1, R1, k1, w1⟩
    refine ⟨Z, σa1, h1, rs1, R1, mc _ _ _ _ (fun d h2 ⟨k, e, q⟩ => ?_) (ws m σa1 h1 w1)⟩
    subst e
    refine ⟨k, rfl, fun H2 R2 k2 => ?_⟩
    have k12 := k1.trans k2
    have rs2 := rs1.keep R1 k2
    cases k with
    | false => exact (q : EndS X.K Z h H D.nx σa1 h2) σ1 H2 rs2 R2 k12
    | true =>
      refine ⟨fun σ' H' => ∃ σa' h', RS X.K Z h' H' σa' σ' ∧ RH X.K Z h' H' ∧ Kp h H h' H' ∧ ∃ m', m' < m ∧ W m' σa' h', fun σ' H' ⟨sa, hh, a1, a2, a3, m', l, a4⟩ => ⟨m', l, sa, hh, a1, a2, a3, a4⟩, Z, σa1, h2, rs2, R2, ?_⟩
      exact hb.mon { lftEnds X.K Z h H D with nx := fun σ' h' => ∃ m', m' < m ∧ W m' σ' h', ct := fun σ' h' => ∃ m', m' < m ∧ W m' σ' h', bk := (lftEnds X.K Z h H D).nx } _ _ _ ⟨fun σ' h' z => fun σ3 H3 rs3 R3 k3 => ⟨σ', h', rs3, R3, k12.trans k3, z⟩, fun _ _ e => (e : EndE X.K Z h H D.rt _ _).mono k12, fun _ _ e => (e : EndS X.K Z h H D.nx _ _).mono k12,
        fun σ' h' z => fun σ3 H3 rs3 R3 k3 => ⟨σ', h', rs3, R3, k12.trans k3, z⟩⟩ q
end
end WF

open PySem L2
set_option Elab.async false
set_option linter.all false
set_option maxRecDepth 100000
set_option maxHeartbeats 1000000
/-! # part 5: what is walked; for, comprehensions -/
namespace WF
open PySem PySem.Spec PyProof.Rows L2
/-! hiding addresses that are new -/
section
variable {K : PySem.W.Frag} {Z Z' : List Addr} {h : AH} {H : Hp}
def New (Z : List Addr) (H : Hp) (Z' : List Addr) : Prop := ∀ z ∈ Z', z ∈ Z ∨ H z = none
theorem SL.hide (n : New Z H Z') {a : Addr} {xs : List V} (e : SL K Z h H a xs) : SL K Z' h H a xs := by
  rcases e with ⟨q, q2, q3⟩ | q
  · refine .inl ⟨q, q2, fun m => ?_⟩
    rcases n a m with z | z
    · exact q3 z
    · rcases q with q | ⟨_, q⟩ <;> rw [z] at q <;> cases q
  · exact .inr q
mutual
theorem RD.hide (n : New Z H Z') : ∀ {d : D} {v : V}, RD K Z h H d v → RD K Z' h H d v
  | .non, _, e => e
  | .bl _, _, e => e
  | .int _, _, e => e
  | .str _, _, e => e
  | .ty _, _, e => e
  | .ref _, _, e => e
  | .tup ds, _, e => by
    simp only [RD] at e ⊢
    obtain ⟨a, xs, e1, e2, e3⟩ := e
    exact ⟨a, xs, e1, e2, RDs.hide n e3⟩
  | .lst ds, _, e => by
    simp only [RD] at e ⊢
    obtain ⟨a, xs, e1, e2, e3⟩ := e
    exact ⟨a, xs, e1, e2.hide n, RDs.hide n e3⟩
theorem RDs.hide (n : New Z H Z') : ∀ {ds : List D} {xs : List V}, RDs K Z h H ds xs → RDs K Z' h H ds xs
  | [], _, e => e
  | d :: ds, _, e => by
    simp only [RDs] at e ⊢
    obtain ⟨y, ys, e1, e2, e3⟩ := e
    exact ⟨y, ys, e1, RD.hide n e2, RDs.hide n e3⟩
end
theorem New.one {p : Addr} (n : H p = none) : New Z H (p :: Z) := fun z m => by
  rcases List.mem_cons.mp m with e | e
  · subst e; exact .inr n
  · exact .inl e
end
/-- the items, and what must stay true while they are walked -/
structure Src where
  ds : List D
  ok : AH → Prop
abbrev ATI := ASt → AH → (Src → AH → Prop) → Prop
def MonI (t : ATI) : Prop := ∀ σ h Q Q', (∀ s h', Q s h' → Q' s h') → t σ h Q → t σ h Q'
/-- the iterator J yields the items of src, from the state h0, H0 on -/
def Feeds (K : PySem.W.Frag) (Z : List Addr) (h0 : AH) (H0 : Hp) (src : Src) (J : It) : Prop := ∀ (Z' : List Addr) (i : Nat) (h : AH) (H : Hp), New Z H0 Z' → RH K Z' h H → Kp h0 H0 h H → src.ok h →
  (∀ d, src.ds[i]? = some d → J.go i H ∧ ∀ x H', J.yld i H x H' → RD K Z' h H' d x ∧ RH K Z' h H' ∧ Kp h H h H') ∧ (src.ds.length ≤ i → J.stop i H)
def EndI (K : PySem.W.Frag) (Z : List Addr) (h : AH) (H : Hp) (R : It → Hp → Prop) : Src → AH → Prop := fun src h' => ∀ J H', RH K Z h' H' → Kp h H h' H' → Feeds K Z h' H' src J → R J H'
def lftI (K : PySem.W.Frag) (t : ATI) : TI := fun σ H R => ∃ Z σa h, RS K Z h H σa σ ∧ RH K Z h H ∧ t σa h (EndI K Z h H R)
structure AI (X : Cx) (tg e : Expr) (t : ATI) : Prop where
  mon : MonI t
  run : PI X tg e (lftI X.K t)
theorem pi_weak {X : Cx} {tg e : Expr} {t t' : TI} (h : PI X tg e t) (w : ∀ σ H R, t' σ H R → t σ H R) : PI X tg e t' := ⟨fun pins s σ H R I q => h.run pins s σ H R I (w σ H R q)⟩
section
variable {X : Cx} {tg e e2 : Expr} {es : List Expr} {te : ATE} {ta : ATA} {pos p : Pos}
/-- a list or a tuple -/
def iSeqV (K : PySem.W.Frag) (tl : TE) : TI := fun σ H R => tl σ H fun x H1 => ∃ a, x = .ref a ∧ (((∃ xs, SqL K H1 a xs) ∧ R (Itl K a) H1) ∨ ((∃ xs, SqT K H1 a xs) ∧ R (Itt K a) H1))
theorem pi_seqV {tl : TE} (hl : PE X e tl) : PI X tg e (iSeqV X.K tl) := by
  refine ⟨fun pins s σ H R I h => thn (hl.run pins s σ H _ I h) fun v s1 ⟨x, H1, I1, r1, q1⟩ => ?_⟩
  obtain ⟨a, e, q⟩ := q1
  subst e
  cases r1
  have old : Inv X pins σ H1 { s1 with heap := s1.heap } := I1
  have fit : ∀ b ∈ [s1.heap.objs.size], FpOk X pins H1 b := fun b hb => by
    rcases List.mem_singleton.mp hb with rfl
    exact I1.fpOk (Nat.le_refl _) (I1.hok.fresh (Nat.le_refl _))
  rcases q with ⟨⟨xs, hq⟩, q⟩ | ⟨⟨xs, hq⟩, q⟩
  · obtain ⟨its, rv, pl, hz⟩ := I1.list hq
    exact wpAny_pyIter_list pl.isList ⟨_, [s1.heap.objs.size], _, _, H1, rfl, I1.kept (t' := s1.toks) (fun b o q => Heap.get?_push_of_some _ q), turn_list a _, ⟨_, Heap.get?_push_size _ rfl, rfl, rfl⟩, fit, q⟩
  · obtain ⟨its, rv, pl, hz⟩ := I1.tuple hq
    exact wpAny_pyIter_tuple (show s1.heap.IsTuple a its.toArray from pl) ⟨_, [s1.heap.objs.size], _, _, H1, rfl, I1.kept (t' := s1.toks) (fun b o q => Heap.get?_push_of_some _ q), turn_tuple a _, ⟨_, Heap.get?_push_size _ rfl, rfl, rfl⟩, fit, q⟩
def aSeq (te : ATE) : ATI := fun σ h Q => te σ h fun d h1 => match d with
  | .tup ds => Q ⟨ds, fun _ => True⟩ h1
  | .lst ds => Q ⟨ds, fun _ => True⟩ h1
  | .ref a => ∃ ds, h1 a = some ds ∧ Q ⟨ds, fun h => h a = some ds⟩ h1
  | _ => False
theorem sql_inj {K : PySem.W.Frag} {H : Hp} {a : Addr} {xs ys : List V} (h : SqL K H a xs) (h' : Rd H a (.lst ys)) (n : ∀ o, K.lookup a = some o → False) : xs = ys := by
  rcases h with h | ⟨o, its, k, e, _⟩
  · rcases h with h | ⟨o, h⟩ <;> rcases h' with h' | ⟨o', h'⟩ <;> rw [h] at h' <;> cases h' <;> rfl
  · exact (n o e).elim
/-- what the item of a list or tuple is told by the state -/
theorem feeds_tup {K : PySem.W.Frag} {Z : List Addr} {h0 : AH} {H0 : Hp} (R0 : RH K Z h0 H0) {a : Addr} {xs : List V} {ds : List D} (hs : SqT K H0 a xs) (r : RDs K Z h0 H0 ds xs) : Feeds K Z h0 H0 ⟨ds, fun _ => True⟩ (Itt K a) := by
  intro Z' i h H nz R k _
  have hs' : SqT K H a xs := SqT.keep R0.nl k hs
  have r' := RDs.keepN R0.nl k (RDs.hide nz r)
  refine ⟨fun d e => ?_, fun l => ⟨xs, hs', by rw [← r.length]; exact l⟩⟩
  obtain ⟨x, ex, rx⟩ := r'.get e
  refine ⟨⟨xs, x, hs', ex⟩, fun y H' ⟨e1, e2⟩ => ?_⟩
  subst e1
  have := e2 xs hs'
  rw [ex] at this
  cases this
  exact ⟨rx, R, Kp.refl⟩
theorem feeds_lst {K : PySem.W.Frag} {Z : List Addr} {h0 : AH} {H0 : Hp} (R0 : RH K Z h0 H0) {a : Addr} {xs : List V} {ds : List D} (hs : SL K Z h0 H0 a xs) (r : RDs K Z h0 H0 ds xs) : Feeds K Z h0 H0 ⟨ds, fun _ => True⟩ (Itl K a) := by
  intro Z' i h H nz R k _
  have hs' : SqL K H a xs := (hs.keep k).sq
  have r' := RDs.keepN R0.nl k (RDs.hide nz r)
  refine ⟨fun d e => ?_, fun l => ⟨xs, hs', by rw [← r.length]; exact l⟩⟩
  obtain ⟨x, ex, rx⟩ := r'.get e
  refine ⟨⟨xs, x, hs', ex⟩, fun y H' ⟨e1, e2⟩ => ?_⟩
  subst e1
  have := e2 xs hs'
  rw [ex] at this
  cases this
  exact ⟨rx, R, Kp.refl⟩
theorem feeds_ref {K : PySem.W.Frag} {Z : List Addr} {h0 : AH} {H0 : Hp} {a : Addr} {ds : List D} : Feeds K Z h0 H0 ⟨ds, fun h => h a = some ds⟩ (Itl K a) := by
  intro Z' i h H nz R k ok
  obtain ⟨xs, e1, r⟩ := R.at_ a ds ok
  have hs' : SqL K H a xs := .inl (.inl e1)
  refine ⟨fun d e => ?_, fun l => ⟨xs, hs', by rw [← r.length]; exact l⟩⟩
  obtain ⟨x, ex, rx⟩ := r.get e
  refine ⟨⟨xs, x, hs', ex⟩, fun y H' ⟨e1, e2⟩ => ?_⟩
  subst e1
  have := e2 xs hs'
  rw [ex] at this
  cases this
  exact ⟨rx, R, Kp.refl⟩
theorem ai_seq (he : AE X e te) : AI X tg e (aSeq te) := by
  refine ⟨fun σ h Q Q' w q => he.mon _ _ _ _ (fun d h1 q1 => ?_) q, pi_weak (pi_seqV he.run) ?_⟩
  · cases d with
    | tup ds => exact w _ _ q1
    | lst ds => exact w _ _ q1
    | ref a =>
      obtain ⟨ds, e1, q1⟩ := q1
      exact ⟨ds, e1, w _ _ q1⟩
    | _ => exact q1
  · rintro σ H R0 ⟨Z, σa, h, rs, R, q⟩
    refine ⟨Z, σa, h, rs, R, he.mon _ _ _ _ (fun d h1 q1 => ?_) q⟩
    intro v H1 r1 R1 k1
    cases d with
    | tup ds =>
      simp only [RD] at r1
      obtain ⟨a, xs, rfl, hs, r⟩ := r1
      exact ⟨a, rfl, .inr ⟨⟨xs, hs⟩, (q1 : EndI X.K Z h H R0 _ h1) _ H1 R1 k1 (feeds_tup R1 hs r)⟩⟩
    | lst ds =>
      simp only [RD] at r1
      obtain ⟨a, xs, rfl, hs, r⟩ := r1
      exact ⟨a, rfl, .inl ⟨⟨xs, hs.sq⟩, (q1 : EndI X.K Z h H R0 _ h1) _ H1 R1 k1 (feeds_lst R1 hs r)⟩⟩
    | ref a =>
      obtain ⟨ds, e1, q1⟩ := q1
      cases r1
      obtain ⟨xs, g, r⟩ := R1.at_ a ds e1
      exact ⟨a, rfl, .inl ⟨⟨xs, .inl (.inl g)⟩, (q1 : EndI X.K Z h H R0 _ h1) _ H1 R1 k1 feeds_ref⟩⟩
    | _ => exact q1.elim
/-- lo, lo + 1, .. -/
def rngD (lo : Int) (n : Nat) : List D := (List.range n).map fun i : Nat => D.int (lo + (i : Int))
theorem feeds_rng {K : PySem.W.Frag} {Z : List Addr} {h0 : AH} {H0 : Hp} {lo : Int} {n : Nat} : Feeds K Z h0 H0 ⟨rngD lo n, fun _ => True⟩ (Itr lo n) := by
  intro Z' i h H nz R k _
  refine ⟨fun d e => ?_, fun l => ?_⟩
  · unfold rngD at e
    rw [List.getElem?_map] at e
    cases q : (List.range n)[i]? with
    | none =>
      rw [q] at e
      cases e
    | some j =>
      rw [q] at e
      have hj : i < n := by
        have := (List.getElem?_eq_some_iff.mp q).1
        simpa using this
      have ej : j = i := by
        have := (List.getElem?_eq_some_iff.mp q).2
        simpa using this.symm
      subst ej
      cases e
      refine ⟨hj, fun x H' ⟨e1, e2⟩ => ?_⟩
      subst e1 e2
      exact ⟨rfl, R, Kp.refl⟩
  · have : n ≤ i := by simpa [rngD] using l
    exact this
def aRng1 (ta : ATA) : ATI := fun σ h Q => ta σ h fun ds h1 => ∃ j : Int, ds = [.int j] ∧ (-(2 ^ 62) ≤ j ∧ j < 2 ^ 62) ∧ Q ⟨rngD 0 j.toNat, fun _ => True⟩ h1
def aRng2 (ta : ATA) : ATI := fun σ h Q => ta σ h fun ds h1 => ∃ i j : Int, ds = [.int i, .int j] ∧ (-(2 ^ 62) ≤ i ∧ i < 2 ^ 62 ∧ -(2 ^ 62) ≤ j ∧ j < 2 ^ 62) ∧ Q ⟨rngD i (j - i).toNat, fun _ => True⟩ h1
theorem ai_rng1 (hg : Gl X "range") (hm : X.mg "range" = none) (ha : AA X [e] ta) (hs : starEach [e] X.env = [(false, eval e X.env)]) : AI X tg (.Call (.Name "range" p) [e] [] pos) (aRng1 ta) := by
  refine ⟨fun σ h Q Q' w q => ha.mon _ _ _ _ (fun d h1 ⟨j, e1, b, q1⟩ => ⟨j, e1, b, w _ _ q1⟩) q, pi_weak (pi_range1 hg hm ha.run hs) ?_⟩
  rintro σ H R0 ⟨Z, σa, h, rs, R, q⟩
  refine ⟨Z, σa, h, rs, R, ha.mon _ _ _ _ (fun d h1 ⟨j, e1, ⟨b1, b2⟩, q1⟩ => ?_) q⟩
  intro vs H1 r1 R1 k1
  subst e1
  obtain ⟨v, rfl, r⟩ := r1.one_of
  cases r
  exact ⟨j, rfl, b1, b2, (q1 : EndI X.K Z h H R0 _ h1) _ H1 R1 k1 feeds_rng⟩
theorem ai_rng2 (hg : Gl X "range") (hm : X.mg "range" = none) (ha : AA X [e, e2] ta) (hs : starEach [e, e2] X.env = [(false, eval e X.env), (false, eval e2 X.env)]) (hs2 : starEach [e2] X.env = [(false, eval e2 X.env)]) : AI X tg (.Call (.Name "range" p) [e, e2] [] pos) (aRng2 ta) := by
  refine ⟨fun σ h Q Q' w q => ha.mon _ _ _ _ (fun d h1 ⟨i, j, e1, b, q1⟩ => ⟨i, j, e1, b, w _ _ q1⟩) q, pi_weak (pi_range2 hg hm ha.run hs hs2) ?_⟩
  rintro σ H R0 ⟨Z, σa, h, rs, R, q⟩
  refine ⟨Z, σa, h, rs, R, ha.mon _ _ _ _ (fun d h1 ⟨i, j, e1, b, q1⟩ => ?_) q⟩
  intro vs H1 r1 R1 k1
  subst e1
  obtain ⟨v, u, rfl, ra, rb⟩ := r1.two_of
  cases ra
  cases rb
  exact ⟨i, j, rfl, b, (q1 : EndI X.K Z h H R0 _ h1) _ H1 R1 k1 feeds_rng⟩
/-! ## for -/
def loopD (step : D → AEnds → ASt → AH → Prop) (ok : AH → Prop) (E : AEnds) : List D → ASt → AH → Prop
  | [], σ, h => ok h ∧ E.nx σ h
  | d :: ds, σ, h => ok h ∧ step d { nx := loopD step ok E ds, rt := E.rt, bk := E.nx, ct := loopD step ok E ds } σ h
def sFor (ti : ATI) (g : ATG) (tb : ATS) : ATS := fun E σ h => ti σ h fun src h1 => loopD (fun d E' σ' h' => g d σ' h' fun σ2 h2 => tb E' σ2 h2) src.ok E src.ds σ h1
theorem loopD_mono {g : ATG} {tb : ATS} (mg : MonG g) (mb : MonS tb) {ok : AH → Prop} {E E' : AEnds} (l : E.Le E') : ∀ (ds : List D) (σ : ASt) (h : AH),
    loopD (fun d E' σ' h' => g d σ' h' fun σ2 h2 => tb E' σ2 h2) ok E ds σ h → loopD (fun d E' σ' h' => g d σ' h' fun σ2 h2 => tb E' σ2 h2) ok E' ds σ h
  | [], σ, h, q => ⟨q.1, l.nx _ _ q.2⟩
  | d :: ds, σ, h, q => ⟨q.1, mg _ _ _ _ _ (fun σ' h' q' => mb { nx := loopD (fun d E' σ' h' => g d σ' h' fun σ2 h2 => tb E' σ2 h2) ok E ds, rt := E.rt, bk := E.nx, ct := loopD (fun d E' σ' h' => g d σ' h' fun σ2 h2 => tb E' σ2 h2) ok E ds } _ _ _ ⟨fun σ h => loopD_mono mg mb l ds σ h, l.rt, l.nx, fun σ h => loopD_mono mg mb l ds σ h⟩ q') q.2⟩
theorem as_for {ti : ATI} {g : ATG} {tb : ATS} {body : List Stmt} (hp : PassesOwn (model X.prog X.w) X.A X.env X.xe) (hc : X.calm = true) (hi : AI X tg e ti) (hg : AG X tg g) (hb : ASs X body tb)
    (hs : ∀ x, foldedSetIterable e X.env x = pure x) : AS X (.For tg e body [] pos) (sFor ti g tb) := by
  refine ⟨fun D D' σ h l q => hi.mon _ _ _ _ (fun src h1 q1 => loopD_mono hg.mon hb.mon l _ _ _ q1) q, ps_weak (ps_for hp hc hi.run hg.run hb.run hs) ?_⟩
  rintro Dn σ H ⟨Z, σa, h, rs, R, q⟩
  refine ⟨Z, σa, h, rs, R, hi.mon _ _ _ _ (fun src h1 q1 => ?_) q⟩
  intro J H1 R1 k1 feed
  refine ⟨fun i m σ' H' => m = src.ds.length - i ∧ i ≤ src.ds.length ∧ ∃ σa' h', RS X.K Z h' H' σa' σ' ∧ RH X.K Z h' H' ∧ Kp h1 H1 h' H' ∧
      loopD (fun d E' σ' h' => g d σ' h' fun σ2 h2 => tb E' σ2 h2) src.ok (lftEnds X.K Z h H Dn) (src.ds.drop i) σa' h', ⟨_, rfl, Nat.zero_le _, σa, h1, rs.keep R k1, R1, Kp.refl, q1⟩, ?_⟩
  rintro i m σ2 H2 ⟨rfl, hi', σa2, h2, rs2, R2, k2, q2⟩
  have kk := k1.trans k2
  by_cases hlt : i < src.ds.length
  · have ed : src.ds.drop i = src.ds[i] :: src.ds.drop (i + 1) := List.drop_eq_getElem_cons hlt
    rw [ed] at q2
    obtain ⟨ok, q3⟩ := q2
    obtain ⟨go, yl⟩ := (feed Z i h2 H2 (fun z m => .inl m) R2 k2 ok).1 src.ds[i] (List.getElem?_eq_getElem hlt)
    let N : L2.St → Hp → Prop := fun σ' H' => ∃ σa' h', RS X.K Z h' H' σa' σ' ∧ RH X.K Z h' H' ∧ Kp h1 H1 h' H' ∧ loopD (fun d E' σ' h' => g d σ' h' fun σ2 h2 => tb E' σ2 h2) src.ok (lftEnds X.K Z h H Dn) (src.ds.drop (i + 1)) σa' h'
    refine .inr ⟨go, N, fun σ' H' ⟨sa, hh, a1, a2, a3, a4⟩ => ⟨src.ds.length - (i + 1), by omega, rfl, hlt, sa, hh, a1, a2, a3, a4⟩, fun x H' y => ?_⟩
    obtain ⟨rd, R3, k3⟩ := yl x H' y
    refine ⟨Z, src.ds[i], σa2, h2, rd, rs2.keep R2 k3, R3, hg.mon _ _ _ _ _ (fun σ4 h4 q4 => ?_) q3⟩
    intro σ5 H5 rs5 R5 k5
    have k15 := (k2.trans k3).trans k5
    have k05 := (kk.trans k3).trans k5
    exact ⟨Z, σ4, h4, rs5, R5, hb.mon { nx := loopD (fun d E' σ' h' => g d σ' h' fun σ2 h2 => tb E' σ2 h2) src.ok (lftEnds X.K Z h H Dn) (src.ds.drop (i + 1)), rt := EndE X.K Z h H Dn.rt, bk := EndS X.K Z h H Dn.nx, ct := loopD (fun d E' σ' h' => g d σ' h' fun σ2 h2 => tb E' σ2 h2) src.ok (lftEnds X.K Z h H Dn) (src.ds.drop (i + 1)) } _ _ _
      ⟨fun σ' h' z => fun σ6 H6 rs6 R6 k6 => ⟨σ', h', rs6, R6, k15.trans k6, z⟩, fun _ _ e => e.mono k05, fun _ _ e => e.mono k05, fun σ' h' z => fun σ6 H6 rs6 R6 k6 => ⟨σ', h', rs6, R6, k15.trans k6, z⟩⟩ q4⟩
  · have e0 : i = src.ds.length := by omega
    subst e0
    rw [List.drop_length] at q2
    obtain ⟨ok, q3⟩ := q2
    exact .inl ⟨(feed Z _ h2 H2 (fun z m => .inl m) R2 k2 ok).2 (Nat.le_refl _), (q3 : EndS X.K Z h H Dn.nx σa2 h2) σ2 H2 rs2 R2 kk⟩
/-! ## comprehensions -/
/-- the items one after another: each gives an element, or none -/
def lcD (step : D → AH → (Option D → AH → Prop) → Prop) (ok : AH → Prop) : List D → List D → AH → (List D → AH → Prop) → Prop
  | [], acc, h, Q => ok h ∧ Q acc h
  | d :: ds, acc, h, Q => ok h ∧ step d h fun o h' => match o with
    | some y => lcD step ok ds (acc ++ [y]) h' Q
    | none => lcD step ok ds acc h' Q
/-- the slots of a comprehension's own names are forgotten within -/
@[simp] def wipeA (σ : ASt) : List Nat → ASt
  | [] => σ
  | v :: vs => (wipeA σ vs).set v none
/-- one turn: target, test, element; the own slots alone may be stored -/
def lcStep (g : ATG) (tt : ATE) (te : ATE) (vs : List Nat) (σ : ASt) : D → AH → (Option D → AH → Prop) → Prop := fun d h Q =>
  g d (wipeA σ vs) h fun σ2 h2 => tt σ2 h2 fun b h3 => ∃ k, b = .bl k ∧ if k = true then te σ2 h3 fun y h4 => Q (some y) h4 else Q none h3
def aLc (m : Bool) (ti : ATI) (g : ATG) (tt te : ATE) (vs : List Nat) : ATE := fun σ h Q => ti σ h fun src h1 => src.ds.length ≤ sizeLine ∧ lcD (lcStep g tt te vs σ) src.ok src.ds [] h1 fun acc h2 => newL m acc h2 Q
theorem lcStep_eq {g : ATG} {tt te : ATE} {vs : List Nat} {σ : ASt} {d : D} {h : AH} {Q : Option D → AH → Prop} : lcStep g tt te vs σ d h Q ↔ g d (wipeA σ vs) h fun σ2 h2 => tt σ2 h2 fun b h3 => ∃ k, b = .bl k ∧ if k = true then te σ2 h3 fun y h4 => Q (some y) h4 else Q none h3 := Iff.rfl
theorem lcStep_mono {g : ATG} {tt te : ATE} {vs : List Nat} {σ : ASt} (mg : MonG g) (mt : MonE tt) (me : MonE te) {d : D} {h : AH} {Q Q' : Option D → AH → Prop} (w : ∀ o h', Q o h' → Q' o h') (q : lcStep g tt te vs σ d h Q) : lcStep g tt te vs σ d h Q' :=
  mg _ _ _ _ _ (fun σ2 h2 q2 => mt _ _ _ _ (fun b h3 ⟨k, e3, q3⟩ => ⟨k, e3, by
    cases k with
    | true => exact me _ _ _ _ (fun y h4 q4 => w _ _ q4) q3
    | false => exact w _ _ q3⟩) q2) q
theorem lcD_mono {g : ATG} {tt te : ATE} {vs : List Nat} {σ : ASt} (mg : MonG g) (mt : MonE tt) (me : MonE te) {ok : AH → Prop} {Q Q' : List D → AH → Prop} (w : ∀ o h', Q o h' → Q' o h') : ∀ (ds acc : List D) (h : AH),
    lcD (lcStep g tt te vs σ) ok ds acc h Q → lcD (lcStep g tt te vs σ) ok ds acc h Q'
  | [], acc, h, q => ⟨q.1, w _ _ q.2⟩
  | d :: ds, acc, h, q => ⟨q.1, lcStep_mono mg mt me (fun o h' q' => by
    cases o with
    | some y => exact lcD_mono mg mt me w ds _ h' q'
    | none => exact lcD_mono mg mt me w ds _ h' q') q.2⟩
theorem wipeA_rs {K : PySem.W.Frag} {Z : List Addr} {h : AH} {H : Hp} {σa : ASt} {σ : L2.St} (rs : RS K Z h H σa σ) : ∀ vs : List Nat, RS K Z h H (wipeA σa vs) (wipe σ vs)
  | [] => rs
  | v :: vs => by
    have ih := wipeA_rs rs vs
    refine ⟨by unfold wipeA wipe; rw [List.length_set, List.length_set]; exact ih.1, fun i d e => ?_⟩
    unfold wipeA at e
    unfold wipe
    by_cases hv : v = i
    · subst hv
      rw [List.getElem?_set] at e
      split at e
      · split at e <;> cases e
      · rename_i hne
        exact absurd rfl hne
    · rw [List.getElem?_set_ne hv] at e ⊢
      exact ih.2 i d e
/-! a block's targets store its own slots alone -/
theorem wipe_set (x : Option V) : ∀ (vs : List Nat) (σ : L2.St) (i : Nat), wipe (σ.set i x) vs = if i ∈ vs then wipe σ vs else (wipe σ vs).set i x
  | [], σ, i => by rw [if_neg (by simp)]; rfl
  | v :: vs, σ, i => by
    unfold wipe
    rw [wipe_set x vs σ i]
    by_cases h1 : i ∈ vs
    · rw [if_pos h1, if_pos (List.mem_cons_of_mem _ h1)]
    · rw [if_neg h1]
      by_cases h2 : i = v
      · subst h2
        rw [if_pos List.mem_cons_self, List.set_set]
      · rw [if_neg (by simp [h1, h2]), List.set_comm _ _ h2]
theorem wipe_set_in {x : Option V} {vs : List Nat} {σ : L2.St} {i : Nat} (h : i ∈ vs) : wipe (σ.set i x) vs = wipe σ vs := by rw [wipe_set, if_pos h]
/-- .. and what is outside them stays -/
def EndV (K : PySem.W.Frag) (Z : List Addr) (vs : List Nat) (σ0 : L2.St) (h : AH) (H : Hp) (Q : L2.St → Hp → Prop) : ASt → AH → Prop := fun σa h' => ∀ σ H', wipe σ vs = wipe σ0 vs → RS K Z h' H' σa σ → RH K Z h' H' → Kp h H h' H' → Q σ H'
def lftV (K : PySem.W.Frag) (vs : List Nat) (t : ATG) : TG := fun v σ H Q => ∃ Z d σa h, RD K Z h H d v ∧ RS K Z h H σa σ ∧ RH K Z h H ∧ t d σa h (EndV K Z vs σ h H Q)
def lftVs (K : PySem.W.Frag) (vs : List Nat) (t : ATGs) : TGs := fun us σ H Q => ∃ Z ds σa h, RDs K Z h H ds us ∧ RS K Z h H σa σ ∧ RH K Z h H ∧ t ds σa h (EndV K Z vs σ h H Q)
structure AV (X : Cx) (vs : List Nat) (e : Expr) (t : ATG) : Prop where
  mon : MonG t
  run : PG X e (lftV X.K vs t)
structure AVs (X : Cx) (vs : List Nat) (es : List Expr) (t : ATGs) : Prop where
  mon : MonGs t
  run : PGs X es (lftVs X.K vs t)
variable {vs : List Nat}
theorem av_name {i : Nat} {x : Str} (hN : X.N.Nodup) (hi : X.N[i]? = some x) (hx : Loc X.env.scope x) (hf : X.fn x = true ∨ X.env.scope.names.lookup x = some .local) (hv : i ∈ vs) : AV X vs (.Name x pos) (gN i) := by
  refine ⟨fun d σ h Q Q' w q => w _ _ q, pg_weak (pg_name hN hi hx hf) ?_⟩
  rintro v σ H Q ⟨Z, d, σa, h, r, rs, R, q⟩
  exact q _ _ (wipe_set_in hv) (rs.put r) R Kp.refl
theorem avs_nil : AVs X vs [] gsNil := by
  refine ⟨fun d σ h Q Q' w q => ⟨q.1, w _ _ q.2⟩, pgs_weak pgs_nil ?_⟩
  rintro us σ H Q ⟨Z, ds, σa, h, r, rs, R, e, q⟩
  subst e
  exact ⟨r, q _ _ rfl rs R Kp.refl⟩
theorem avs_cons {t : ATG} {u : ATGs} (h1 : AV X vs e t) (h2 : AVs X vs es u) (hs : (assignEach (e :: es) X.env).map (·.2) = assign e X.env :: (assignEach es X.env).map (·.2)) : AVs X vs (e :: es) (gsCons t u) := by
  refine ⟨fun d σ h Q Q' w ⟨d0, r, e, q⟩ => ⟨d0, r, e, h1.mon _ _ _ _ _ (fun σ1 h1' q1 => h2.mon _ _ _ _ _ w q1) q⟩, pgs_weak (pgs_cons h1.run h2.run hs) ?_⟩
  rintro us σ H Q ⟨Z, ds, σa, h, r, rs, R, d, r0, e, q⟩
  subst e
  simp only [RDs] at r
  obtain ⟨v, vr, rfl, r1, r2⟩ := r
  refine ⟨v, vr, rfl, Z, d, σa, h, r1, rs, R, h1.mon _ _ _ _ _ (fun σ1 h1' q1 => ?_) q⟩
  intro σ' H' w' rs' R' k'
  exact ⟨Z, r0, σ1, h1', RDs.keep R k' r2, rs', R', h2.mon _ _ _ _ _ (fun σ3 h3 e3 => fun σ4 H4 w4 rs4 R4 k4 => e3 σ4 H4 (w4.trans w') rs4 R4 (k'.trans k4)) q1⟩
theorem av_tup {k n : Nat} {t : ATGs} (hc : X.calm = true) (h : AVs X vs es t) (hn : (assignEach es X.env).length = n) (hst : (assignEach es X.env).findIdx? (·.1) = none) : AV X vs (.Tuple es k pos) (gT t n) := by
  refine ⟨fun d σ h' Q Q' w ⟨ds, e, l, q⟩ => ⟨ds, e, l, h.mon _ _ _ _ _ w q⟩, pg_weak (pg_any hc h.run hn hst) ?_⟩
  rintro v σ H Q ⟨Z, d, σa, h', r, rs, R, ds, e, l, q⟩
  obtain ⟨a, xs, rfl, hs, r⟩ := seqA_ok R r e
  exact ⟨a, xs, rfl, hs, by rw [← r.length]; exact l, Z, ds, σa, h', r, rs, R, q⟩
section
variable {K : PySem.W.Frag} {Z : List Addr} {h : AH} {H : Hp} {p : Addr}
mutual
theorem RD.bare : ∀ {d : D} {v : V}, RD K (p :: Z) h H d v → RD K Z h H d v
  | .non, _, e => e
  | .bl _, _, e => e
  | .int _, _, e => e
  | .str _, _, e => e
  | .ty _, _, e => e
  | .ref _, _, e => e
  | .tup ds, _, e => by
    simp only [RD] at e ⊢
    obtain ⟨a, xs, e1, e2, e3⟩ := e
    exact ⟨a, xs, e1, e2, RDs.bare e3⟩
  | .lst ds, _, e => by
    simp only [RD] at e ⊢
    obtain ⟨a, xs, e1, e2, e3⟩ := e
    refine ⟨a, xs, e1, ?_, RDs.bare e3⟩
    rcases e2 with ⟨q, q2, q3⟩ | q
    · exact .inl ⟨q, q2, fun m => q3 (List.mem_cons_of_mem _ m)⟩
    · exact .inr q
theorem RDs.bare : ∀ {ds : List D} {xs : List V}, RDs K (p :: Z) h H ds xs → RDs K Z h H ds xs
  | [], _, e => e
  | d :: ds, _, e => by
    simp only [RDs] at e ⊢
    obtain ⟨y, ys, e1, e2, e3⟩ := e
    exact ⟨y, ys, e1, RD.bare e2, RDs.bare e3⟩
end
mutual
/-- the hidden list grows: no value knows of it -/
theorem RD.grow {xs ys : List V} (g : H p = some (.lst xs)) : ∀ {d : D} {v : V}, RD K (p :: Z) h H d v → RD K (p :: Z) h (upd H p (.lst ys)) d v
  | .non, _, e => e
  | .bl _, _, e => e
  | .int _, _, e => e
  | .str _, _, e => e
  | .ty _, _, e => e
  | .ref _, _, e => e
  | .tup ds, _, e => by
    simp only [RD] at e ⊢
    obtain ⟨a, zs, e1, e2, e3⟩ := e
    refine ⟨a, zs, e1, ?_, RDs.grow g e3⟩
    rcases e2 with q | q
    · refine .inl ?_
      rcases q with q | ⟨o, q⟩
      · exact .inl (by rw [upd_ne (ne_of q g (by intro z; cases z))]; exact q)
      · exact .inr ⟨o, by rw [upd_ne (ne_of q g (by intro z; cases z))]; exact q⟩
    · exact .inr q
  | .lst ds, _, e => by
    simp only [RD] at e ⊢
    obtain ⟨a, zs, e1, e2, e3⟩ := e
    refine ⟨a, zs, e1, ?_, RDs.grow g e3⟩
    rcases e2 with ⟨q, q2, q3⟩ | q
    · have ne : a ≠ p := fun z => q3 (by rw [z]; exact List.mem_cons_self)
      refine .inl ⟨?_, q2, q3⟩
      rcases q with q | ⟨o, q⟩
      · exact .inl (by rw [upd_ne ne]; exact q)
      · exact .inr ⟨o, by rw [upd_ne ne]; exact q⟩
    · exact .inr q
theorem RDs.grow {xs ys : List V} (g : H p = some (.lst xs)) : ∀ {ds : List D} {us : List V}, RDs K (p :: Z) h H ds us → RDs K (p :: Z) h (upd H p (.lst ys)) ds us
  | [], _, e => e
  | d :: ds, _, e => by
    simp only [RDs] at e ⊢
    obtain ⟨y, zs, e1, e2, e3⟩ := e
    exact ⟨y, zs, e1, RD.grow g e2, RDs.grow g e3⟩
end
mutual
/-- the hidden list becomes one that may change -/
theorem RD.thaw {es : List D} : ∀ {d : D} {v : V}, RD K (p :: Z) h H d v → RD K Z (h.set p es) H d v
  | .non, _, e => e
  | .bl _, _, e => e
  | .int _, _, e => e
  | .str _, _, e => e
  | .ty _, _, e => e
  | .ref _, _, e => e
  | .tup ds, _, e => by
    simp only [RD] at e ⊢
    obtain ⟨a, zs, e1, e2, e3⟩ := e
    exact ⟨a, zs, e1, e2, RDs.thaw e3⟩
  | .lst ds, _, e => by
    simp only [RD] at e ⊢
    obtain ⟨a, zs, e1, e2, e3⟩ := e
    refine ⟨a, zs, e1, ?_, RDs.thaw e3⟩
    rcases e2 with ⟨q, q2, q3⟩ | q
    · have ne : a ≠ p := fun z => q3 (by rw [z]; exact List.mem_cons_self)
      exact .inl ⟨q, by rw [AH.set_ne ne]; exact q2, fun m => q3 (List.mem_cons_of_mem _ m)⟩
    · exact .inr q
theorem RDs.thaw {es : List D} : ∀ {ds : List D} {us : List V}, RDs K (p :: Z) h H ds us → RDs K Z (h.set p es) H ds us
  | [], _, e => e
  | d :: ds, _, e => by
    simp only [RDs] at e ⊢
    obtain ⟨y, zs, e1, e2, e3⟩ := e
    exact ⟨y, zs, e1, RD.thaw e2, RDs.thaw e3⟩
end
theorem RH.grow {xs ys : List V} (R : RH K (p :: Z) h H) (g : H p = some (.lst xs)) : RH K (p :: Z) h (upd H p (.lst ys)) := by
  have hp : h p = none := (R.zk p List.mem_cons_self).2
  refine ⟨fun a ds e => ?_, fun a m => ⟨fun z => ?_, (R.zk a m).2⟩⟩
  · obtain ⟨us, e1, r⟩ := R.at_ a ds e
    have ne : a ≠ p := fun z => by rw [z, hp] at e; cases e
    exact ⟨us, by rw [upd_ne ne]; exact e1, RDs.grow g r⟩
  · by_cases ne : a = p
    · subst ne; rw [upd_same] at z; cases z
    · rw [upd_ne ne] at z; exact (R.zk a m).1 z
theorem RH.unhide (R : RH K (p :: Z) h H) : RH K Z h H :=
  ⟨fun a ds e => let ⟨us, e1, r⟩ := R.at_ a ds e; ⟨us, e1, RDs.bare r⟩, fun a m => R.zk a (List.mem_cons_of_mem _ m)⟩
end
theorem wipe_get {vs : List Nat} {σ : L2.St} : ∀ {i : Nat}, i ∈ vs → (wipe σ vs)[i]? = none ∨ (wipe σ vs)[i]? = some none := by
  induction vs with
  | nil => intro i h; cases h
  | cons v vs ih =>
    intro i h
    unfold wipe
    rw [List.getElem?_set]
    by_cases e : v = i
    · rw [if_pos e]
      split
      · exact .inr rfl
      · exact .inl rfl
    · rw [if_neg e]
      rcases List.mem_cons.mp h with z | z
      · exact absurd z.symm e
      · exact ih z
theorem wipe_none_set {vs : List Nat} {σ : L2.St} {i : Nat} (h : i ∈ vs) : (wipe σ vs).set i none = wipe σ vs := by
  refine List.ext_getElem? fun j => ?_
  rw [List.getElem?_set]
  by_cases e : i = j
  · subst e
    rw [if_pos rfl]
    rcases wipe_get (σ := σ) h with z | z
    · rw [if_neg (by have := List.getElem?_eq_none_iff.mp z; omega), z]
    · rw [if_pos (List.getElem?_eq_some_iff.mp z).1, z]
  · rw [if_neg e]
theorem wipe_wipe_of {σ : L2.St} {vs : List Nat} : ∀ ws : List Nat, (∀ w ∈ ws, w ∈ vs) → wipe (wipe σ vs) ws = wipe σ vs
  | [], _ => rfl
  | w :: ws, h => by
    show (wipe (wipe σ vs) ws).set w none = wipe σ vs
    rw [wipe_wipe_of ws fun x hx => h x (List.mem_cons_of_mem _ hx)]
    exact wipe_none_set (h w List.mem_cons_self)
theorem wipe_wipe {σ : L2.St} {vs : List Nat} : wipe (wipe σ vs) vs = wipe σ vs := wipe_wipe_of vs fun _ h => h
theorem RS.laid {K : PySem.W.Frag} {Z : List Addr} {h : AH} {H : Hp} {p : Addr} {o : HO} {σa : ASt} {σ : L2.St} (n : NL h H) (np : H p = none) (rs : RS K Z h H σa σ) : RS K (p :: Z) h (upd H p o) σa σ := ⟨rs.1, fun i d e =>
  let ⟨v, e1, r⟩ := rs.2 i d e
  ⟨v, e1, RD.keepN n (Kp.laid np) (RD.hide (New.one np) r)⟩⟩
theorem RS.bare {K : PySem.W.Frag} {Z : List Addr} {h : AH} {H : Hp} {p : Addr} {σa : ASt} {σ : L2.St} (rs : RS K (p :: Z) h H σa σ) : RS K Z h H σa σ := ⟨rs.1, fun i d e =>
  let ⟨v, e1, r⟩ := rs.2 i d e
  ⟨v, e1, RD.bare r⟩⟩
theorem lc_w {m : Bool} {vs : List Nat} {ti : ATI} {g : ATG} {tt : ATE} (mg : MonG g) (mt : MonE tt) (me : MonE te) (mi : MonI ti) : ∀ σ H Q, lftE X.K (aLc m ti g tt te vs) σ H Q →
    tLc (lftI X.K ti) (lftV X.K vs g) (lftT X.K (aTst tt)) (lftE X.K te) vs σ H Q := by
  rintro σ H Q ⟨Z, σa, h, rs, R, q⟩
  refine ⟨Z, σa, h, rs, R, mi _ _ _ _ (fun src h1 ⟨zz, q1⟩ => ?_) q⟩
  intro J H1 R1 k1 feed p np
  have hp0 : h1 p = none := R1.fresh np
  have rs1 : RS X.K (p :: Z) h1 (upd H1 p (.lst [])) σa σ := (rs.keep R k1).laid R1.nl np
  have Rl : RH X.K (p :: Z) h1 (upd H1 p (.lst [])) := by
    refine ⟨fun a ds e => ?_, fun a mm => ?_⟩
    · obtain ⟨us, e1, r⟩ := R1.at_ a ds e
      exact ⟨us, by rw [upd_ne (ne_of_none e1 np)]; exact e1, RDs.keepN R1.nl (Kp.laid np) (RDs.hide (New.one np) r)⟩
    · rcases List.mem_cons.mp mm with z | z
      · subst z
        exact ⟨(by rw [upd_same]; exact fun q => (nomatch q)), hp0⟩
      · exact (R1.laid np).zk a z
  let Qe : List D → AH → Prop := fun acc h2 => newL m acc h2 (EndE X.K Z h H Q)
  refine ⟨fun i mm H' => mm = src.ds.length - i ∧ i ≤ src.ds.length ∧ ∃ (h' : AH) (accD : List D) (acc : List V), RH X.K (p :: Z) h' H' ∧ RS X.K (p :: Z) h' H' σa σ ∧ Kp h1 H1 h' H' ∧ H' p = some (.lst acc) ∧ RDs X.K (p :: Z) h' H' accD acc ∧ accD.length ≤ i ∧
      lcD (lcStep g tt te vs σa) src.ok (src.ds.drop i) accD h' Qe, ⟨_, rfl, Nat.zero_le _, h1, [], [], Rl, rs1, Kp.laid np, upd_same, rfl, Nat.le_refl _, q1⟩, ?_⟩
  rintro i mm H2 ⟨rfl, hi', h2, accD, acc, R2, rs2, k2, g2, racc, lacc, q2⟩
  have n2 : h2 p = none := (R2.zk p List.mem_cons_self).2
  by_cases hlt : i < src.ds.length
  · have ed : src.ds.drop i = src.ds[i] :: src.ds.drop (i + 1) := List.drop_eq_getElem_cons hlt
    rw [ed] at q2
    obtain ⟨oks, q3⟩ := q2
    obtain ⟨go, yl⟩ := (feed (p :: Z) i h2 H2 (New.one np) R2 k2 oks).1 src.ds[i] (List.getElem?_eq_getElem hlt)
    let N : Hp → Prop := fun H' => ∃ (h' : AH) (accD : List D) (acc : List V), RH X.K (p :: Z) h' H' ∧ RS X.K (p :: Z) h' H' σa σ ∧ Kp h1 H1 h' H' ∧ H' p = some (.lst acc) ∧ RDs X.K (p :: Z) h' H' accD acc ∧ accD.length ≤ i + 1 ∧
      lcD (lcStep g tt te vs σa) src.ok (src.ds.drop (i + 1)) accD h' Qe
    refine .inr ⟨go, N, fun H' ⟨h', aD, a, b1, b2, b3, b4, b5, b6, b7⟩ => ⟨src.ds.length - (i + 1), by omega, rfl, hlt, h', aD, a, b1, b2, b3, b4, b5, b6, b7⟩, fun x H' y => ?_⟩
    obtain ⟨rd, R3, k3⟩ := yl x H' y
    have rs3 := rs2.keep R2 k3
    refine ⟨p :: Z, src.ds[i], wipeA σa vs, h2, rd, wipeA_rs rs3 _, R3, mg _ _ _ _ _ (fun σ4 h4 q4 => ?_) (lcStep_eq.mp q3)⟩
    intro σ5 H5 w5 rs5 R5 k5
    refine ⟨w5.trans wipe_wipe, p :: Z, σ4, h4, rs5, R5, mt _ _ _ _ (fun b h6 ⟨k, e6, q6⟩ => ?_) q4⟩
    refine ⟨k, e6, fun H6 R6 k6 => ?_⟩
    have k26 := (k3.trans k5).trans k6
    have g6 : H6 p = some (.lst acc) := (k26 p n2 _ g2).1
    have r6 : RDs X.K (p :: Z) h6 H6 accD acc := RDs.keep R2 k26 racc
    have rs6 : RS X.K (p :: Z) h6 H6 σa σ := rs2.keep R2 k26
    have k16 := k2.trans k26
    cases k with
    | true =>
      refine ⟨p :: Z, σ4, h6, rs5.keep R5 k6, R6, me _ _ _ _ (fun y h7 q7 => ?_) q6⟩
      intro yv H7 ry R7 k7
      have n6 : h6 p = none := (R6.zk p List.mem_cons_self).2
      have g7 : H7 p = some (.lst acc) := (k7 p n6 _ g6).1
      have n7 : h7 p = none := (R7.zk p List.mem_cons_self).2
      have r7 : RDs X.K (p :: Z) h7 H7 accD acc := RDs.keep R6 k7 r6
      refine ⟨acc, g7, by rw [← r7.length]; omega, h7, accD ++ [y], acc ++ [yv], R7.grow g7, ?_, ?_, upd_same, RDs.grow g7 (r7.append (RDs.one ry)), by simp; omega, q7⟩
      · exact ⟨rs6.1, fun j d e => let ⟨v, e1, r⟩ := (rs6.keep R6 k7).2 j d e; ⟨v, e1, RD.grow g7 r⟩⟩
      · intro a na o ea
        have ne : a ≠ p := ne_of_none ea np
        rw [upd_ne ne]
        exact (k16.trans k7) a na o ea
    | false => exact ⟨h6, accD, acc, R6, rs6, k16, g6, r6, by omega, q6⟩
  · have e0 : i = src.ds.length := by omega
    subst e0
    rw [List.drop_length] at q2
    obtain ⟨oks, q3⟩ := q2
    refine .inl ⟨(feed (p :: Z) _ h2 H2 (New.one np) R2 k2 oks).2 (Nat.le_refl _), ?_⟩
    have Ru := R2.unhide
    have pz : p ∉ Z := fun mz => (R1.zk p mz).1 np
    cases m with
    | false => exact (q3 : EndE X.K Z h H Q (.lst accD) h2) (.ref p) H2 ⟨p, acc, rfl, .inl ⟨.inl g2, n2, pz⟩, RDs.bare racc⟩ Ru (k1.trans k2)
    | true =>
      have q4 : EndE X.K Z h H Q (.ref p) (h2.set p accD) := q3 p n2
      refine q4 (.ref p) H2 rfl ?_ ?_
      · have kn : Kp h2 H2 h2 H2 := Kp.refl
        refine ⟨fun a ds e => ?_, fun a mz => ⟨(Ru.zk a mz).1, by rw [AH.set_ne (fun z : a = p => pz (by rw [← z]; exact mz))]; exact (Ru.zk a mz).2⟩⟩
        by_cases z : a = p
        · subst z
          rw [AH.set_same] at e
          cases e
          exact ⟨acc, g2, RDs.thaw racc⟩
        · rw [AH.set_ne z] at e
          obtain ⟨us, e1, r⟩ := R2.at_ a ds e
          exact ⟨us, e1, RDs.thaw r⟩
      · intro a na o ea
        have ne : a ≠ p := by
          intro z
          subst z
          have := (k1 a na o ea).1
          rw [np] at this
          cases this
        have := (k1.trans k2) a na o ea
        exact ⟨this.1, by rw [AH.set_ne ne]; exact this.2⟩
theorem ae_lc {m : Bool} {own : List (Str × Nat)} {scope : Scope} {ti : ATI} {g : ATG} {tt : ATE} {ifs : List Expr} (hc : X.calm = true) (hN : X.N.Nodup) (hi : AI X tg e2 ti) (ok : BlkOk X.N X.env.scope scope own) (mg : MonG g) (mt : MonE tt) (me : MonE te)
    (hg : ∀ (s : Shared) (H : Hp) (C : Addr) (cl : List (Str × Addr)) (fp : List Addr), AV (X.blk s H scope (compEnvC scope cl C X.env) fp) (own.map (·.2)) tg g)
    (ht : ∀ (s : Shared) (H : Hp) (C : Addr) (cl : List (Str × Addr)) (fp : List Addr), PTs (X.blk s H scope (compEnvC scope cl C X.env) fp) ifs (lftT X.K (aTst tt)))
    (he : ∀ (s : Shared) (H : Hp) (C : Addr) (cl : List (Str × Addr)) (fp : List Addr), AE (X.blk s H scope (compEnvC scope cl C X.env) fp) e te) (hs : ∀ x, foldedSetIterable e2 X.env x = pure x) :
    AE X (.ListComp e [⟨tg, e2, ifs, 0⟩] scope pos) (aLc m ti g tt te (own.map (·.2))) := 
  ⟨fun σ h Q Q' w q => hi.mon _ _ _ _ (fun src h1 ⟨z, q1⟩ => ⟨z, lcD_mono mg mt me (fun acc h2 q2 => newL_mono w q2) _ _ _ q1⟩) q,
    pe_weak (pe_lc (te := lftE X.K te) (g := lftV X.K (own.map (·.2)) g) hc hN hi.run ok (fun s H C cl fp => (hg s H C cl fp).run) ht (fun s H C cl fp => (he s H C cl fp).run) hs) (lc_w mg mt me hi.mon)⟩
end
end WF

open PySem L2
set_option Elab.async false
set_option linter.all false
set_option maxRecDepth 100000
set_option maxHeartbeats 1000000
/-! # part 6: defs that are called where no guard is laid; methods, slices, chains, parallel stores -/
namespace WF
open PySem PySem.Spec PyProof.Rows L2
/-- a def keeps its promise wherever no repr is under way -/
structure FnG (P : Program) (w : World) (K : PySem.W.Frag) (mg : Str → Option Value) (base : Heap) (k : Nat) (f : Addr) (fd : FuncData) (ps : List Str) (sp : Sp) : Prop where
  len : ∀ vs H Q E, sp vs H Q E → vs.length = ps.length
  run : ∀ (A : Around) (outer : List Env) (s : Shared) (H : Hp) (args : Args) (us : List Value) (vs : List V) (Q : VK), A.guards = some [] → Room k A → Env0 P w K mg base A outer s H →
    BindsTo s fd args (ps.zip us) → Vals vs us → sp vs H Q E0 → codeAny (model P w) A (.call (.ref f) args) (CR CX0 outer P w H s Q E0) s
theorem FnG.mono {P : Program} {w : World} {K : PySem.W.Frag} {mg : Str → Option Value} {base : Heap} {j k : Nat} {f : Addr} {fd : FuncData} {ps : List Str} {sp : Sp} (F : FnG P w K mg base j f fd ps sp) (h : j ≤ k) : FnG P w K mg base k f fd ps sp :=
  ⟨F.len, fun A outer s H args us vs Q g r => F.run A outer s H args us vs Q g (r.mono h)⟩
section
variable {P : Program} {w : World} {K : PySem.W.Frag} {mg : Str → Option Value} {base : Heap}
/-- by its body -/
theorem fnG_of {N ps : List Str} {k : Nat} {sp : Sp} {x qual : Str} {params : Arguments} {body : List Stmt} {scope : Scope} {f : Addr} {fd : FuncData} (F : FunD K x qual params body scope [] [] f fd) (S : FnScope N ps scope)
    (len : ∀ vs H Q E, sp vs H Q E → vs.length = ps.length)
    (hb : ∀ (cdv : Value) (A : Around) (outer : List Env) (s : Shared) (H : Hp) (vs : List V) (Q : VK), A.guards = some [] → Room k (A.deeper (envOfC qual scope s.heap.objs.size f cdv)) → sp vs H Q E0 →
      ∃ t, PSs (cxOf CX0 P w K mg base N qual scope f cdv A outer s H E0).nox body t ∧ t { nx := fun _ H' => Q .non H', rt := Q } (start N vs) H) : FnG P w K mg base (k + 1) f fd ps sp := by
  obtain ⟨oc, od, dV, kV, doc, pm, an, cdv, ct, osl, rfl, lk, hcd, _, _⟩ := F.ex
  refine ⟨len, fun A outer s H args us vs Q hG hr e0 bnd rv hsp => ?_⟩
  have lv := len _ _ _ _ hsp
  have kin : K.In s.heap := e0.mod.kin.keeps fun b o e => (e0.bs b o e).1
  have nolim : s.heap.NoLimit := e0.mod.nolimit.keeps fun b o e => (e0.bs b o e).1
  have kinds : ∀ y ∈ ps.zip us, scope.names.lookup y.1 = some .local ∨ (scope.names.lookup y.1 = some .cell ∧ ((cellsFrom (s.heap.objs.size + 1) scope.names []).lookup y.1).isSome = true) := by
    rintro ⟨n, v⟩ hy
    rcases S.par n (List.of_mem_zip hy).1 with q | q
    · exact .inl q
    · exact .inr ⟨q, PySem.W.cellsFrom_some _ _ _ (.inl q)⟩
  have rec0 := PySem.W.codeRec_of kin hcd
  refine codeAny_call_function hr.depth (kin _ _ lk) rfl S.co S.gen rfl rec0 (bnd _ _ _ _ ?_)
  refine wpAny_newFunctionEnv_cells S.kind kinds fun env he s1 hx => ?_
  subst he
  refine ⟨nolim.keeps hx.toInCall.keep, codeAny_func ?_⟩
  obtain ⟨t, ht, hq⟩ := hb cdv A outer s H vs Q hG (hr.deeper _) hsp
  have I0 : Inv (cxOf CX0 P w K mg base N qual scope f cdv A outer s H E0) [] (start N vs) H s1 := inv_start S hr.hd e0 lv rv hx
  refine wpAny_mono (ht.nox.run [] s1 (start N vs) H _ I0 hq) (fun fl s' hs => ?_) fun e s' hs => hs
  cases fl with
  | ret u =>
    obtain ⟨v, σ', H', J, rv', q⟩ := hs
    exact ⟨v, H', J.os, J.bare, J.base, J.hok, rv', q⟩
  | next =>
    obtain ⟨σ', H', J, q⟩ := hs
    exact ⟨V.non, H', J.os, J.bare, J.base, J.hok, rfl, q⟩
  | brk =>
    obtain ⟨_, _, _, q⟩ := hs
    exact q.elim
  | cont =>
    obtain ⟨_, _, _, q⟩ := hs
    exact q.elim
end
section
variable {X : Cx} {k : Nat} {f : Addr} {fd : FuncData} {ps : List Str} {sp : Sp} {x : Str} {p pos : Pos} {e : Expr} {es : List Expr} {t : TA}
theorem runG {pins : List (Addr × Obj)} {σ : L2.St} {H : Hp} {s : Shared} {Q : VK} {args : Args} {us : List Value} {vs : List V} (F : FnG X.prog X.w X.K X.mg X.base k f fd ps sp) (hG : X.A.guards = some []) (hr : Room k X.A)
    (I : Inv X pins σ H s) (hb : BindsTo s fd args (ps.zip us)) (r : Vals vs us) (h : sp vs H Q E0) : wpAny (model X.prog X.w) X.A (call (.ref f) args.pos args.kw) (EP X pins σ Q) X.xe s := by
  refine wpAny_call (codeAny_mono (F.run X.A X.stack s H args us vs Q hG hr I.env0 hb r h) fun r s' hq => ?_)
  cases r with
  | error e => exact False.elim hq
  | ok fl =>
    cases fl with
    | ret u => exact I.after hq
    | next => exact False.elim hq
    | brk => exact False.elim hq
    | cont => exact False.elim hq
theorem pe_callG (F : FnG X.prog X.w X.K X.mg X.base k f fd ps sp) (hG : X.A.guards = some []) (hr : Room k X.A) (hg : Gl X x) (hm : X.mg x = some (.ref f)) (hk : PySem.W.keepIn X.K (.ref f) = true) (hb : Binds X.K fd ps [])
    (ha : PA X (e :: es) t) (hdb : (x == ("__debug__" : Str)) = false) (he : starEach (e :: es) X.env = (false, eval e X.env) :: starEach es X.env) (hpl : (backTo pos (starEach es X.env)).any (·.1) = false) :
    PE X (.Call (.Name x p) (e :: es) [] pos) (fun σ H Q => t σ H fun vs H1 => sp vs H1 Q E0) := by
  refine ⟨fun pins s σ H Q I h => wpAny_Call_Name_kw (ld_glob I hg hm ?_ hdb)⟩
  refine PySem.W.callWith_K (h₀ := X.base) I.ok.mod.kin hk (thn (ha.run pos pins s σ H _ I h) fun us s1 ⟨vs, H1, I1, r, q⟩ => ⟨I1.kIn, ?_⟩) he hpl
  have l := F.len _ _ _ _ q
  have l2 := r.length
  have b := hb s1 us I1.kIn (by rw [List.append_nil]; omega)
  rw [List.append_nil] at b
  exact runG (args := ⟨us, []⟩) F hG hr I1 b r q
theorem pe_callG0 (F : FnG X.prog X.w X.K X.mg X.base k f fd ps sp) (hG : X.A.guards = some []) (hr : Room k X.A) (hg : Gl X x) (hm : X.mg x = some (.ref f)) (hk : PySem.W.keepIn X.K (.ref f) = true) (hb : Binds X.K fd ps [])
    (hdb : (x == ("__debug__" : Str)) = false) : PE X (.Call (.Name x p) [] [] pos) (fun σ H Q => sp [] H Q E0) := by
  refine ⟨fun pins s σ H Q I h => wpAny_Call_Name_kw (ld_glob I hg hm (PySem.W.callWith_K0 I.kIn hk ?_) hdb)⟩
  have l := F.len _ _ _ _ h
  have b := hb s [] I.kIn (by simpa using l)
  exact runG (args := ⟨[], []⟩) F hG hr I b .nil h
/-- f(e, .., k = v, ..) -/
theorem pe_callGK {kws : List Keyword} {ks : List Str} {tk : TA} {g : List Value → List Value → List Value} {gV : List V → List V → List V} {n1 n2 : Nat} (F : FnG X.prog X.w X.K X.mg X.base k f fd ps sp) (hG : X.A.guards = some []) (hr : Room k X.A) (hg : Gl X x) (hm : X.mg x = some (.ref f)) (hk : PySem.W.keepIn X.K (.ref f) = true)
    (hto : ∀ (s : Shared) (us ws : List Value), us.length = n1 → ws.length = n2 → X.K.In s.heap → (g us ws).length = ps.length → BindsTo s fd ⟨us, ks.zip ws⟩ (ps.zip (g us ws)))
    (hrel : ∀ {vs : List V} {us : List Value} {zs : List V} {ws : List Value}, Vals vs us → Vals zs ws → Vals (gV vs zs) (g us ws))
    (ha : PA X (e :: es) t) (hkw : PK X kws tk) (hall : (backToKw pos (keywordEach kws X.env)).all (·.1.isSome) = true) (hks : (backToKw pos (keywordEach kws X.env)).filterMap (·.1) = ks)
    (hdb : (x == ("__debug__" : Str)) = false) (he : starEach (e :: es) X.env = (false, eval e X.env) :: starEach es X.env)
    (hpl : ((backTo pos (starEach (e :: es) X.env)).any (·.1) || (backToKw pos (keywordEach kws X.env)).any (·.1.isNone)) = false) :
    PE X (.Call (.Name x p) (e :: es) kws pos) (fun σ H Q => t σ H fun vs H1 => tk σ H1 fun zs H2 => vs.length = n1 ∧ zs.length = n2 ∧ sp (gV vs zs) H2 Q E0) := by
  refine ⟨fun pins s σ H Q I h => wpAny_Call_Name_kw (ld_glob I hg hm ?_ hdb)⟩
  refine PySem.W.callWith_KW (h₀ := X.base) I.ok.mod.kin hk hall (thn (ha.run pos pins s σ H _ I h) fun us s1 ⟨vs, H1, I1, r, q⟩ => ?_) hpl he
  refine thn (hkw.run pos pins s1 σ H1 _ I1 q) fun ws s2 ⟨zs, H2, I2, rz, l1, l2, q2⟩ => ⟨I2.kIn, ?_⟩
  rw [hks]
  have r2 := hrel r rz
  have l := F.len _ _ _ _ q2
  have l3 := r2.length
  exact runG (args := ⟨us, ks.zip ws⟩) F hG hr I2 (hto s2 us ws (by rw [← r.length]; exact l1) (by rw [← rz.length]; exact l2) I2.kIn (by omega)) r2 q2
theorem pe_callGK0 {kws : List Keyword} {ks : List Str} {tk : TA} {g : List Value → List Value → List Value} {gV : List V → List V → List V} {n2 : Nat} (F : FnG X.prog X.w X.K X.mg X.base k f fd ps sp) (hG : X.A.guards = some []) (hr : Room k X.A) (hg : Gl X x) (hm : X.mg x = some (.ref f)) (hk : PySem.W.keepIn X.K (.ref f) = true)
    (hto : ∀ (s : Shared) (us ws : List Value), us.length = 0 → ws.length = n2 → X.K.In s.heap → (g us ws).length = ps.length → BindsTo s fd ⟨us, ks.zip ws⟩ (ps.zip (g us ws)))
    (hrel : ∀ {vs : List V} {us : List Value} {zs : List V} {ws : List Value}, Vals vs us → Vals zs ws → Vals (gV vs zs) (g us ws))
    (hkw : PK X kws tk) (hall : (backToKw pos (keywordEach kws X.env)).all (·.1.isSome) = true) (hks : (backToKw pos (keywordEach kws X.env)).filterMap (·.1) = ks)
    (hdb : (x == ("__debug__" : Str)) = false)
    (hpl : ((backTo pos (starEach [] X.env)).any (·.1) || (backToKw pos (keywordEach kws X.env)).any (·.1.isNone)) = false) :
    PE X (.Call (.Name x p) [] kws pos) (fun σ H Q => tk σ H fun zs H2 => zs.length = n2 ∧ sp (gV [] zs) H2 Q E0) := by
  refine ⟨fun pins s σ H Q I h => wpAny_Call_Name_kw (ld_glob I hg hm ?_ hdb)⟩
  refine PySem.W.callWith_KW0 (h₀ := X.base) I.ok.mod.kin hk hall (thn (hkw.run pos pins s σ H _ I h) fun ws s2 ⟨zs, H2, I2, rz, l2, q2⟩ => ⟨I2.kIn, ?_⟩) hpl
  rw [hks]
  have r2 := hrel (vs := []) (us := []) .nil rz
  have l := F.len _ _ _ _ q2
  have l3 := r2.length
  exact runG (args := ⟨[], ks.zip ws⟩) F hG hr I2 (hto s2 [] ws rfl (by rw [← rz.length]; exact l2) I2.kIn (by omega)) r2 q2
end
/-! ## the calls over data -/
/-- a def's promise n arguments, by data -/
def aFn (n : Nat) (sp : ASp) (t : ATA) : ATE := fun σ h Q => t σ h fun ds h1 => ds.length = n ∧ sp ds h1 Q noX
def MonSp (sp : ASp) : Prop := ∀ ds h Q Q', (∀ d h', Q d h' → Q' d h') → sp ds h Q noX → sp ds h Q' noX
section
variable {X : Cx} {k n : Nat} {f : Addr} {fd : FuncData} {ps : List Str} {sp : ASp} {x : Str} {p pos : Pos} {e : Expr} {es : List Expr} {t : ATA}
theorem ae_fn (ms : MonSp sp) (F : FnG X.prog X.w X.K X.mg X.base k f fd ps (lftSp X.K n sp)) (hG : X.A.guards = some []) (hr : Room k X.A) (hg : Gl X x) (hm : X.mg x = some (.ref f)) (hk : PySem.W.keepIn X.K (.ref f) = true) (hb : Binds X.K fd ps [])
    (ha : AA X (e :: es) t) (hdb : (x == ("__debug__" : Str)) = false) (he : starEach (e :: es) X.env = (false, eval e X.env) :: starEach es X.env) (hpl : (backTo pos (starEach es X.env)).any (·.1) = false) :
    AE X (.Call (.Name x p) (e :: es) [] pos) (aFn n sp t) := by
  refine ⟨fun σ h Q Q' w q => ha.mon _ _ _ _ (fun ds h1 ⟨l, q1⟩ => ⟨l, ms _ _ _ _ w q1⟩) q, pe_weak (pe_callG F hG hr hg hm hk hb ha.run hdb he hpl) ?_⟩
  rintro σ H Q ⟨Z, σa, h, rs, R, q⟩
  refine ⟨Z, σa, h, rs, R, ha.mon _ _ _ _ (fun ds h1 ⟨l, q1⟩ => ?_) q⟩
  intro vs H1 r1 R1 k1
  exact ⟨Z, ds, h1, l, r1, R1, ms _ _ _ _ (fun _ _ e => e.mono k1) q1⟩
theorem ae_fn0 (ms : MonSp sp) (F : FnG X.prog X.w X.K X.mg X.base k f fd ps (lftSp X.K n sp)) (hG : X.A.guards = some []) (hr : Room k X.A) (hg : Gl X x) (hm : X.mg x = some (.ref f)) (hk : PySem.W.keepIn X.K (.ref f) = true) (hb : Binds X.K fd ps [])
    (hdb : (x == ("__debug__" : Str)) = false) : AE X (.Call (.Name x p) [] [] pos) (aFn n sp aNil) := by
  refine ⟨fun σ h Q Q' w ⟨l, q1⟩ => ⟨l, ms _ _ _ _ w q1⟩, pe_weak (pe_callG0 F hG hr hg hm hk hb hdb) ?_⟩
  rintro σ H Q ⟨Z, σa, h, rs, R, l, q⟩
  exact ⟨Z, [], h, l, rfl, R, q⟩
/-! keywords -/
@[simp] def perm {α : Type} (pm : List Nat) (l : List α) : List α := pm.filterMap (l[·]?)
theorem perm_vals {vs : List V} {us : List Value} (r : Vals vs us) : ∀ pm : List Nat, Vals (perm pm vs) (perm pm us)
  | [] => .nil
  | i :: pm => by
    unfold perm
    rw [List.filterMap_cons, List.filterMap_cons]
    cases q : vs[i]? with
    | none =>
      rw [r.none_of q]
      exact perm_vals r pm
    | some v =>
      obtain ⟨u, e1, r1⟩ := r.get q
      rw [e1]
      exact .cons r1 (perm_vals r pm)
theorem perm_rds {K : PySem.W.Frag} {Z : List Addr} {h : AH} {H : Hp} {ds : List D} {vs : List V} (r : RDs K Z h H ds vs) : ∀ pm : List Nat, RDs K Z h H (perm pm ds) (perm pm vs)
  | [] => rfl
  | i :: pm => by
    unfold perm
    rw [List.filterMap_cons, List.filterMap_cons]
    cases q : ds[i]? with
    | none =>
      have : vs[i]? = none := by
        have l := r.length
        rw [List.getElem?_eq_none_iff] at q ⊢
        omega
      rw [this]
      exact perm_rds r pm
    | some v =>
      obtain ⟨u, e1, r1⟩ := r.get q
      rw [e1]
      exact ⟨u, _, rfl, r1, perm_rds r pm⟩
structure AK (X : Cx) (kws : List Keyword) (t : ATA) : Prop where
  mon : MonA t
  run : PK X kws (lftA X.K t)
theorem pk_weak {kws : List Keyword} {t t' : TA} (h : PK X kws t) (w : ∀ σ H Q, t' σ H Q → t σ H Q) : PK X kws t' := ⟨fun pos pins s σ H Q I q => h.run pos pins s σ H Q I (w σ H Q q)⟩
theorem ak_nil : AK X [] aNil := by
  refine ⟨fun σ h Q Q' w q => w _ _ q, pk_weak pk_nil ?_⟩
  rintro σ H Q ⟨Z, σa, h, rs, R, q⟩
  exact q [] H rfl R Kp.refl
theorem ak_cons {te : ATE} {kws : List Keyword} {nm : Option Str} {kpos : Pos} (ha : AE X e te) (hr : AK X kws t) : AK X (⟨nm, e, kpos⟩ :: kws) (aCons te t) := by
  refine ⟨fun σ h Q Q' w q => ha.mon _ _ _ _ (fun d h1 q1 => hr.mon _ _ _ _ (fun ds h2 q2 => w _ _ q2) q1) q, pk_weak (pk_cons ha.run hr.run) ?_⟩
  rintro σ H Q ⟨Z, σa, h, rs, R, q⟩
  refine ⟨Z, σa, h, rs, R, ha.mon _ _ _ _ (fun d h1 q1 => ?_) q⟩
  intro v H1 r1 R1 k1
  refine ⟨Z, σa, h1, rs.keep R k1, R1, hr.mon _ _ _ _ (fun ds h2 q2 => ?_) q1⟩
  intro vs H2 r2 R2 k2
  exact q2 (v :: vs) H2 ⟨v, vs, rfl, RD.keep R1 k2 r1, r2⟩ R2 (k1.trans k2)
def aFnK (n n1 n2 : Nat) (pm : List Nat) (sp : ASp) (t tk : ATA) : ATE := fun σ h Q => t σ h fun ds h1 => tk σ h1 fun es h2 => ds.length = n1 ∧ es.length = n2 ∧ (perm pm (ds ++ es)).length = n ∧ sp (perm pm (ds ++ es)) h2 Q noX
theorem ae_fnK {kws : List Keyword} {ks : List Str} {tk : ATA} {pm : List Nat} {n1 n2 : Nat} (ms : MonSp sp) (F : FnG X.prog X.w X.K X.mg X.base k f fd ps (lftSp X.K n sp)) (hG : X.A.guards = some []) (hr : Room k X.A) (hg : Gl X x) (hm : X.mg x = some (.ref f)) (hk : PySem.W.keepIn X.K (.ref f) = true)
    (hb : ∀ (s : Shared) (us ws : List Value), us.length = n1 → ws.length = n2 → X.K.In s.heap → (perm pm (us ++ ws)).length = ps.length → BindsTo s fd ⟨us, ks.zip ws⟩ (ps.zip (perm pm (us ++ ws))))
    (ha : AA X (e :: es) t) (hkw : AK X kws tk) (hall : (backToKw pos (keywordEach kws X.env)).all (·.1.isSome) = true) (hks : (backToKw pos (keywordEach kws X.env)).filterMap (·.1) = ks)
    (hdb : (x == ("__debug__" : Str)) = false) (he : starEach (e :: es) X.env = (false, eval e X.env) :: starEach es X.env)
    (hpl : ((backTo pos (starEach (e :: es) X.env)).any (·.1) || (backToKw pos (keywordEach kws X.env)).any (·.1.isNone)) = false) :
    AE X (.Call (.Name x p) (e :: es) kws pos) (aFnK n n1 n2 pm sp t tk) := by
  refine ⟨fun σ h Q Q' w q => ha.mon _ _ _ _ (fun ds h1 q1 => hkw.mon _ _ _ _ (fun es h2 ⟨l1, l2, l, q2⟩ => ⟨l1, l2, l, ms _ _ _ _ w q2⟩) q1) q,
    pe_weak (pe_callGK (g := fun us ws => perm pm (us ++ ws)) (gV := fun us ws => perm pm (us ++ ws)) F hG hr hg hm hk hb (fun r rz => perm_vals (r.append rz) pm) ha.run hkw.run hall hks hdb he hpl) ?_⟩
  rintro σ H Q ⟨Z, σa, h, rs, R, q⟩
  refine ⟨Z, σa, h, rs, R, ha.mon _ _ _ _ (fun ds h1 q1 => ?_) q⟩
  intro vs H1 r1 R1 k1
  refine ⟨Z, σa, h1, rs.keep R k1, R1, hkw.mon _ _ _ _ (fun es h2 ⟨l1, l2, l, q2⟩ => ?_) q1⟩
  intro zs H2 r2 R2 k2
  exact ⟨by rw [← r1.length]; exact l1, by rw [← r2.length]; exact l2, Z, _, h2, l, perm_rds ((RDs.keep R1 k2 r1).append r2) pm, R2, ms _ _ _ _ (fun _ _ e => e.mono (k1.trans k2)) q2⟩
theorem ae_fnK0 {kws : List Keyword} {ks : List Str} {tk : ATA} {pm : List Nat} {n2 : Nat} (ms : MonSp sp) (F : FnG X.prog X.w X.K X.mg X.base k f fd ps (lftSp X.K n sp)) (hG : X.A.guards = some []) (hr : Room k X.A) (hg : Gl X x) (hm : X.mg x = some (.ref f)) (hk : PySem.W.keepIn X.K (.ref f) = true)
    (hb : ∀ (s : Shared) (us ws : List Value), us.length = 0 → ws.length = n2 → X.K.In s.heap → (perm pm (us ++ ws)).length = ps.length → BindsTo s fd ⟨us, ks.zip ws⟩ (ps.zip (perm pm (us ++ ws))))
    (hkw : AK X kws tk) (hall : (backToKw pos (keywordEach kws X.env)).all (·.1.isSome) = true) (hks : (backToKw pos (keywordEach kws X.env)).filterMap (·.1) = ks)
    (hdb : (x == ("__debug__" : Str)) = false)
    (hpl : ((backTo pos (starEach [] X.env)).any (·.1) || (backToKw pos (keywordEach kws X.env)).any (·.1.isNone)) = false) :
    AE X (.Call (.Name x p) [] kws pos) (aFnK n 0 n2 pm sp aNil tk) := by
  refine ⟨fun σ h Q Q' w q => hkw.mon _ _ _ _ (fun es h2 ⟨l1, l2, l, q2⟩ => ⟨l1, l2, l, ms _ _ _ _ w q2⟩) q,
    pe_weak (pe_callGK0 (g := fun us ws => perm pm (us ++ ws)) (gV := fun us ws => perm pm (us ++ ws)) F hG hr hg hm hk hb (fun r rz => perm_vals (r.append rz) pm) hkw.run hall hks hdb hpl) ?_⟩
  rintro σ H Q ⟨Z, σa, h, rs, R, q⟩
  refine ⟨Z, σa, h, rs, R, hkw.mon _ _ _ _ (fun es h2 ⟨l1, l2, l, q2⟩ => ?_) q⟩
  intro zs H2 r2 R2 k2
  exact ⟨by rw [← r2.length]; exact l2, Z, _, h2, l, perm_rds r2 pm, R2, ms _ _ _ _ (fun _ _ e => e.mono k2) q2⟩
end
/-! ## methods of lists -/
section
variable {X : Cx} {o e e1 e2 : Expr} {es : List Expr} {to te t1 t2 : ATE} {ta : ATA} {pos apos cpos : Pos}
abbrev AMt := D → List D → AH → AQ → Prop
structure AMe (X : Cx) (id : String) (r : AMt) : Prop where
  mon : ∀ x xs h Q Q', (∀ d h', Q d h' → Q' d h') → r x xs h Q → r x xs h Q'
  run : ∀ Z x xs h H vx vs Q, RD X.K Z h H x vx → RDs X.K Z h H xs vs → RH X.K Z h H → r x xs h (EndE X.K Z h H Q) → ∃ r0, MtR X id r0 ∧ r0 vx vs H Q
theorem mtr_any {id : String} : MtR X id (fun x xs H Q => ∃ r0, MtR X id r0 ∧ r0 x xs H Q) := fun pins s σ H x xs v us Q I rx rs ⟨r0, o, q⟩ => o pins s σ H x xs v us Q I rx rs q
/-- the receiver is a list -/
def okRecv (T : String) (h : AH) : D → Prop
  | .lst _ => T = "list"
  | .ref a => T = "list" ∧ h a ≠ none
  | _ => False
def aMet (T : String) (r : AMt) (to : ATE) (ta : ATA) : ATE := fun σ h Q => to σ h fun x h1 => okRecv T h1 x ∧ ta σ h1 fun xs h2 => r x xs h2 Q
theorem tyV_of {K : PySem.W.Frag} {Z : List Addr} {h : AH} {H : Hp} {x : D} {v : V} {T : String} (R : RH K Z h H) (r : RD K Z h H x v) (ok : okRecv T h x) : tyV K T v H := by
  cases x with
  | lst ds =>
    have e : T = "list" := ok
    subst e
    simp only [RD] at r
    obtain ⟨a, xs, rfl, hs, _⟩ := r
    exact .inl ⟨rfl, xs, hs.sq⟩
  | ref a =>
    obtain ⟨e, n⟩ := ok
    subst e
    cases r
    cases q : h a with
    | none => exact absurd q n
    | some ds =>
      obtain ⟨xs, e1, _⟩ := R.at_ a ds q
      exact .inl ⟨rfl, xs, .inl (.inl e1)⟩
  | _ => exact ok.elim
theorem ae_met {name : Str} {T id : String} {r : AMt} (pa : PlainAttrs T) (slot : Slot T name id) (hty : typeOf (.builtin id) = pure (.type "method_descriptor")) (hm : AMe X id r) (ho : AE X o to) (ha : AA X (e :: es) ta)
    (hbase : attributeBase o name X.env (eval o X.env) = eval o X.env)
    (hfew : ((backTo cpos (starEach (e :: es) X.env)).all (fun x => !x.1) && (backToKw cpos (keywordEach [] X.env)).all (fun x => x.1.isSome)
      && decide ((e :: es).length + ([] : List Keyword).length + (if ([] : List Keyword).isEmpty then 0 else 1) < 30)) = true)
    (hline : (apos.endLine == cpos.line) = true) (hs : starEach (e :: es) X.env = (false, eval e X.env) :: starEach es X.env) (hplain : (backTo cpos (starEach es X.env)).any (·.1) = false) :
    AE X (.Call (.Attribute o name apos) (e :: es) [] cpos) (aMet T r to ta) := by
  refine ⟨fun σ h Q Q' w q => ho.mon _ _ _ _ (fun d h1 ⟨k, q1⟩ => ⟨k, ha.mon _ _ _ _ (fun ds h2 q2 => hm.mon _ _ _ _ _ w q2) q1⟩) q, pe_weak (pe_bm pa slot hty mtr_any ho.run ha.run hbase hfew hline hs hplain) ?_⟩
  rintro σ H Q ⟨Z, σa, h, rs, R, q⟩
  refine ⟨Z, σa, h, rs, R, ho.mon _ _ _ _ (fun d h1 ⟨k, q1⟩ => ?_) q⟩
  intro v H1 r1 R1 k1
  refine ⟨tyV_of R1 r1 k, Z, σa, h1, rs.keep R k1, R1, ha.mon _ _ _ _ (fun ds h2 q2 => ?_) q1⟩
  intro vs H2 r2 R2 k2
  exact hm.run Z d ds h2 H2 v vs Q (RD.keep R1 k2 r1) r2 R2 (hm.mon _ _ _ _ _ (fun _ _ e => e.mono (k1.trans k2)) q2)
theorem ae_met0 {name : Str} {T id : String} {r : AMt} (pa : PlainAttrs T) (slot : Slot T name id) (hty : typeOf (.builtin id) = pure (.type "method_descriptor")) (hm : AMe X id r) (ho : AE X o to)
    (hbase : attributeBase o name X.env (eval o X.env) = eval o X.env) (hline : (apos.endLine == cpos.line) = true) :
    AE X (.Call (.Attribute o name apos) [] [] cpos) (aMet T r to aNil) := by
  refine ⟨fun σ h Q Q' w q => ho.mon _ _ _ _ (fun d h1 ⟨k, q1⟩ => ⟨k, hm.mon _ _ _ _ _ w q1⟩) q, pe_weak (pe_bm0 pa slot hty mtr_any ho.run hbase hline) ?_⟩
  rintro σ H Q ⟨Z, σa, h, rs, R, q⟩
  refine ⟨Z, σa, h, rs, R, ho.mon _ _ _ _ (fun d h1 ⟨k, q1⟩ => ?_) q⟩
  intro v H1 r1 R1 k1
  exact ⟨tyV_of R1 r1 k, hm.run Z d [] h1 H1 v [] Q r1 rfl R1 (hm.mon _ _ _ _ _ (fun _ _ e => e.mono k1) q1)⟩
def mAppend : AMt := fun x xs h Q => ∃ a ds y, x = .ref a ∧ xs = [y] ∧ h a = some ds ∧ ds.length < sizeLine ∧ Q .non (h.set a (ds ++ [y]))
def mPop : AMt := fun x xs h Q => ∃ a ds y, x = .ref a ∧ xs = [] ∧ h a = some ds ∧ ds[ds.length - 1]? = some y ∧ Q y (h.set a ds.dropLast)
def mPopAt : AMt := fun x xs h Q => ∃ a ds i k y, x = .ref a ∧ xs = [.int i] ∧ h a = some ds ∧ (-(2 ^ 63) ≤ i ∧ i < 2 ^ 63) ∧ seqIndex? i ds.length = some k ∧ ds[k]? = some y ∧ Q y (h.set a (ds.eraseIdx k))
theorem RDs.dropLast {K : PySem.W.Frag} {Z : List Addr} {h : AH} {H : Hp} {ds : List D} {xs : List V} (r : RDs K Z h H ds xs) : RDs K Z h H ds.dropLast xs.dropLast := by
  rw [List.dropLast_eq_take, List.dropLast_eq_take, r.length]
  exact r.take _
theorem m_append : AMe X "list.append" mAppend := by
  refine ⟨fun x xs h Q Q' w ⟨a, ds, y, e1, e2, e3, l, q⟩ => ⟨a, ds, y, e1, e2, e3, l, w _ _ q⟩, fun Z x xs h H vx vs Q rx rs R ⟨a, ds, y, e1, e2, e3, l, q⟩ => ?_⟩
  subst e1 e2
  cases rx
  obtain ⟨v, rfl, rv⟩ := rs.one_of
  obtain ⟨us, g, r⟩ := R.at_ a ds e3
  have ne : h a ≠ none := by rw [e3]; exact fun z => (nomatch z)
  exact ⟨_, mt_append, a, us, v, rfl, rfl, g, by rw [← r.length]; exact l, q .non _ rfl (R.put (.inl ne) (r.append (RDs.one rv))) (Kp.put (.inl ne))⟩
theorem m_pop : AMe X "list.pop" mPop := by
  refine ⟨fun x xs h Q Q' w ⟨a, ds, y, e1, e2, e3, l, q⟩ => ⟨a, ds, y, e1, e2, e3, l, w _ _ q⟩, fun Z x xs h H vx vs Q rx rs R ⟨a, ds, y, e1, e2, e3, l, q⟩ => ?_⟩
  subst e1 e2
  cases rx
  cases (show vs = [] from rs)
  obtain ⟨us, g, r⟩ := R.at_ a ds e3
  have ne : h a ≠ none := by rw [e3]; exact fun z => (nomatch z)
  obtain ⟨v, e4, rv⟩ := r.get l
  have kp : Kp h H (h.set a ds.dropLast) (upd H a (.lst us.dropLast)) := Kp.put (.inl ne)
  exact ⟨_, mt_pop, a, us, v, rfl, rfl, g, by rw [← r.length]; exact e4, q v _ (RD.keep R kp rv) (R.put (.inl ne) r.dropLast) kp⟩
theorem m_popAt : AMe X "list.pop" mPopAt := by
  refine ⟨fun x xs h Q Q' w ⟨a, ds, i, k, y, e1, e2, e3, b, s, l, q⟩ => ⟨a, ds, i, k, y, e1, e2, e3, b, s, l, w _ _ q⟩, fun Z x xs h H vx vs Q rx rs R ⟨a, ds, i, k, y, e1, e2, e3, ⟨b1, b2⟩, s, l, q⟩ => ?_⟩
  subst e1 e2
  cases rx
  obtain ⟨v0, rfl, rv0⟩ := rs.one_of
  cases rv0
  obtain ⟨us, g, r⟩ := R.at_ a ds e3
  have ne : h a ≠ none := by rw [e3]; exact fun z => (nomatch z)
  obtain ⟨v, e4, rv⟩ := r.get l
  have kp : Kp h H (h.set a (ds.eraseIdx k)) (upd H a (.lst (us.eraseIdx k))) := Kp.put (.inl ne)
  exact ⟨_, mt_popAt, a, us, i, k, v, rfl, rfl, g, b1, b2, by rw [← r.length]; exact s, e4, q v _ (RD.keep R kp rv) (R.put (.inl ne) (r.eraseIdx k)) kp⟩
/-! ## slices -/
def cutG {α : Type} (xs : List α) (lo hi : Option Int) : List α := (xs.drop (HT.sIx xs.length 0 lo)).take (HT.sIx xs.length xs.length hi - HT.sIx xs.length 0 lo)
theorem RDs.cut {K : PySem.W.Frag} {Z : List Addr} {h : AH} {H : Hp} {ds : List D} {xs : List V} (r : RDs K Z h H ds xs) (lo hi : Option Int) : RDs K Z h H (cutG ds lo hi) (cutV xs lo hi) := by
  unfold cutG cutV
  rw [r.length]
  exact (r.drop _).take _
def sCut (m : Bool) (x : D) (lo hi : Option Int) (h : AH) (Q : AQ) : Prop := match x with
  | .tup ds => Q (.tup (cutG ds lo hi)) h
  | .lst ds => newL m (cutG ds lo hi) h Q
  | .ref a => ∃ ds, h a = some ds ∧ newL m (cutG ds lo hi) h Q
  | _ => False
abbrev ATO := ASt → AH → (Option Int → AH → Prop) → Prop
def oNo : ATO := fun _ h Q => Q none h
def oPt (t : ATE) : ATO := fun σ h Q => t σ h fun d h1 => ∃ i, d = .int i ∧ Q (some i) h1
structure AO (X : Cx) (e : Option Expr) (t : ATO) : Prop where
  mon : ∀ σ h Q Q', (∀ o h', Q o h' → Q' o h') → t σ h Q → t σ h Q'
  run : PO X e (fun σ H Q => ∃ Z σa h, RS X.K Z h H σa σ ∧ RH X.K Z h H ∧ t σa h fun o h' => ∀ H', RH X.K Z h' H' → Kp h H h' H' → Q o H')
theorem ao_no : AO X none oNo := by
  refine ⟨fun σ h Q Q' w q => w _ _ q, ⟨fun pins s σ H Q I hw => po_none.run pins s σ H Q I ?_⟩⟩
  obtain ⟨Z, σa, h, rs, R, q⟩ := hw
  exact (q : ∀ H', RH X.K Z h H' → Kp h H h H' → Q none H') H R Kp.refl
theorem ao_pt (he : AE X e te) : AO X (some e) (oPt te) := by
  refine ⟨fun σ h Q Q' w q => he.mon _ _ _ _ (fun d h1 ⟨i, e, q1⟩ => ⟨i, e, w _ _ q1⟩) q, ⟨fun pins s σ H Q I hw => (po_some he.run).run pins s σ H Q I ?_⟩⟩
  obtain ⟨Z, σa, h, rs, R, q⟩ := hw
  refine ⟨Z, σa, h, rs, R, he.mon _ _ _ _ (fun d h1 ⟨i, e, q1⟩ => ?_) q⟩
  intro v H1 r1 R1 k1
  subst e
  cases r1
  exact ⟨i, rfl, q1 H1 R1 k1⟩
def aCut (m : Bool) (te : ATE) (tl th : ATO) : ATE := fun σ h Q => te σ h fun x h1 => tl σ h1 fun l h2 => th σ h2 fun u h3 => sCut m x l u h3 Q
theorem slr_any : SlR X (fun x lo hi H Q => ∃ r0, SlR X r0 ∧ r0 x lo hi H Q) := fun pins s σ H x v vl vu lo hi sl Q I rx hs pl pu ⟨r0, o, q⟩ => o pins s σ H x v vl vu lo hi sl Q I rx hs pl pu q
theorem scut_mono {m : Bool} {x : D} {lo hi : Option Int} {h : AH} {Q Q' : AQ} (w : ∀ d h', Q d h' → Q' d h') (q : sCut m x lo hi h Q) : sCut m x lo hi h Q' := by
  cases x with
  | tup ds => exact w _ _ q
  | lst ds => exact newL_mono w q
  | ref a =>
    obtain ⟨ds, e, q⟩ := q
    exact ⟨ds, e, newL_mono w q⟩
  | _ => exact q
theorem ae_cut {m : Bool} {lo hi : Option Expr} {tl th : ATO} {p2 : Pos} (he : AE X e te) (hl : AO X lo tl) (hh : AO X hi th) : AE X (.Subscript e (.Slice lo hi none p2) pos) (aCut m te tl th) := by
  refine ⟨fun σ h Q Q' w q => he.mon _ _ _ _ (fun x h1 q1 => hl.mon _ _ _ _ (fun l h2 q2 => hh.mon _ _ _ _ (fun u h3 q3 => scut_mono w q3) q2) q1) q, pe_weak (pe_slice slr_any he.run hl.run hh.run) ?_⟩
  rintro σ H Q ⟨Z, σa, h, rs, R, q⟩
  refine ⟨Z, σa, h, rs, R, he.mon _ _ _ _ (fun x h1 q1 => ?_) q⟩
  intro v H1 r1 R1 k1
  refine ⟨Z, σa, h1, rs.keep R k1, R1, hl.mon _ _ _ _ (fun l h2 q2 => ?_) q1⟩
  intro H2 R2 k2
  have k12 := k1.trans k2
  refine ⟨Z, σa, h2, rs.keep R k12, R2, hh.mon _ _ _ _ (fun u h3 q3 => ?_) q2⟩
  intro H3 R3 k3
  have k13 := k12.trans k3
  have r3 := RD.keep R1 (k2.trans k3) r1
  cases x with
  | tup ds =>
    simp only [RD] at r3
    obtain ⟨a, xs, rfl, hs, r⟩ := r3
    refine ⟨_, sl_tupA, a, xs, rfl, hs, fun e => ?_, fun _ p n => EndE.tup (EndE.mono k13 q3) (r.cut l u) R3 n⟩
    have e2 : cutG ds l u = ds := by
      unfold cutG
      rw [r.length, e.1, e.2, List.drop_zero, Nat.sub_zero, ← r.length, List.take_length]
    have q4 : EndE X.K Z h H Q (.tup (cutG ds l u)) h3 := q3
    rw [e2] at q4
    exact q4 _ _ ⟨a, xs, rfl, hs, r⟩ R3 k13
  | lst ds =>
    simp only [RD] at r3
    obtain ⟨a, xs, rfl, hs, r⟩ := r3
    exact ⟨_, sl_list, a, xs, rfl, hs.sq, fun p n => EndE.new (newL_mono (fun _ _ e => e.mono k13) q3) (r.cut l u) R3 n⟩
  | ref b =>
    obtain ⟨ds, e, q3⟩ := q3
    obtain ⟨a, xs, rfl, hs, r⟩ := seqL_ok R3 r3 (show seqL h3 (.ref b) = some ds from e)
    exact ⟨_, sl_list, a, xs, rfl, hs, fun p n => EndE.new (newL_mono (fun _ _ e => e.mono k13) q3) (r.cut l u) R3 n⟩
  | _ => exact q3.elim
def aRev (m : Bool) (te : ATE) : ATE := fun σ h Q => te σ h fun x h1 => ∃ ds, seqL h1 x = some ds ∧ newL m ds.reverse h1 Q
theorem ae_rev {m : Bool} {k : Nat} {p1 p2 p3 : Pos} (he : AE X e te) : AE X (.Subscript e (.Slice none none (some (.UnaryOp .USub (.Constant (.int 1) k p1) p2)) p3) pos) (aRev m te) := by
  refine ⟨fun σ h Q Q' w q => he.mon _ _ _ _ (fun x h1 ⟨ds, e, q1⟩ => ⟨ds, e, newL_mono w q1⟩) q, pe_weak (pe_revL he.run) ?_⟩
  rintro σ H Q ⟨Z, σa, h, rs, R, q⟩
  refine ⟨Z, σa, h, rs, R, he.mon _ _ _ _ (fun x h1 ⟨ds, e, q1⟩ => ?_) q⟩
  intro v H1 r1 R1 k1
  obtain ⟨a, xs, rfl, hs, r⟩ := seqL_ok R1 r1 e
  exact ⟨a, xs, rfl, hs, fun p n => EndE.new (newL_mono (fun _ _ e => e.mono k1) q1) r.reverse R1 n⟩
/-! ## a <= b <= c -/
def aChn (r r' : AR2) (ta tb tc : ATE) : ATE := fun σ h Q => ta σ h fun x h1 => tb σ h1 fun y h2 => r x y h2 fun z h3 => ∃ k, z = .bl k ∧ if k = true then tc σ h3 fun w h4 => r' y w h4 Q else Q (.bl false) h3
variable {a b c : Expr} {ta' tb tc : ATE}
theorem achn_mon {r r' : AR2} (mr : MonR2 r) (mr' : MonR2 r') (ha : MonE ta') (hb : MonE tb) (hc : MonE tc) : MonE (aChn r r' ta' tb tc) := fun σ h Q Q' w q =>
  ha _ _ _ _ (fun x h1 q1 => hb _ _ _ _ (fun y h2 q2 => mr _ _ _ _ _ (fun z h3 ⟨k, e, q3⟩ => ⟨k, e, by
    cases k with
    | true => exact hc _ _ _ _ (fun u h4 q4 => mr' _ _ _ _ _ w q4) q3
    | false => exact w _ _ q3⟩) q2) q1) q
theorem achn_w {op op' : CmpOp} {r r' : AR2} (ho : AOp X (compareOp op) r) (ho' : AOp X (compareOp op') r') (ma : MonE ta') (mb : MonE tb) (mc : MonE tc) : ∀ σ H Q, lftE X.K (aChn r r' ta' tb tc) σ H Q →
    tChain (fun x y H Q => ∃ r0, OpR X (compareOp op) r0 ∧ r0 x y H Q) (fun x y H Q => ∃ r0, OpR X (compareOp op') r0 ∧ r0 x y H Q) (lftE X.K ta') (lftE X.K tb) (lftE X.K tc) σ H Q := by
  rintro σ H Q ⟨Z, σa, h, rs, R, q⟩
  refine ⟨Z, σa, h, rs, R, ma _ _ _ _ (fun x h1 q1 => ?_) q⟩
  intro v H1 r1 R1 k1
  refine ⟨Z, σa, h1, rs.keep R k1, R1, mb _ _ _ _ (fun y h2 q2 => ?_) q1⟩
  intro u H2 r2 R2 k2
  refine ho.run Z x y h2 H2 v u _ (RD.keep R1 k2 r1) r2 R2 (ho.mon _ _ _ _ _ (fun z h3 ⟨k, e, q3⟩ => ?_) q2)
  subst e
  intro z H3 rz R3 k3
  cases rz
  have k13 := (k1.trans k2).trans k3
  refine ⟨k, rfl, ?_⟩
  cases k with
  | true =>
    refine ⟨Z, σa, h3, rs.keep R k13, R3, mc _ _ _ _ (fun w h4 q4 => ?_) q3⟩
    intro wv H4 r4 R4 k4
    exact ho'.run Z y w h4 H4 u wv Q (RD.keep R2 (k3.trans k4) r2) r4 R4 (ho'.mon _ _ _ _ _ (fun _ _ e => e.mono (k13.trans k4)) q4)
  | false => exact (q3 : EndE X.K Z h H Q (.bl false) h3) (.bl false) H3 rfl R3 k13
theorem ae_chn {op op' : CmpOp} {r r' : AR2} (ho : AOp X (compareOp op) r) (ho' : AOp X (compareOp op') r') (ha : AE X a ta') (hb : AE X b tb) (hc : AE X c tc) (hm : lastMarks [op, op'] [b, c] = false) : AE X (.Compare a [op, op'] [b, c] pos) (aChn r r' ta' tb tc) :=
  ⟨achn_mon ho.mon ho'.mon ha.mon hb.mon hc.mon, pe_weak (pe_chain opr_any opr_any ha.run hb.run hc.run hm) (achn_w ho ho' ha.mon hb.mon hc.mon)⟩
theorem at_chn {op op' : CmpOp} {r r' : AR2} (ho : AOp X (compareOp op) r) (ho' : AOp X (compareOp op') r') (ha : AE X a ta') (hb : AE X b tb) (hc : AE X c tc) (hm : lastMarks [op, op'] [b, c] = false) : AT X (.Compare a [op, op'] [b, c] pos) (aTst (aChn r r' ta' tb tc)) := by
  refine ⟨atst_mon (achn_mon ho.mon ho'.mon ha.mon hb.mon hc.mon), pt_weak (pt_chain opr_any opr_any ha.run hb.run hc.run hm) ?_⟩
  rintro σ H Q ⟨Z, σa, h, rs, R, q⟩
  refine achn_w ho ho' ha.mon hb.mon hc.mon σ H _ ⟨Z, σa, h, rs, R, achn_mon ho.mon ho'.mon ha.mon hb.mon hc.mon _ _ _ _ (fun d h1 ⟨k, e1, q1⟩ => ?_) q⟩
  intro v H1 r1 R1 k1
  subst e1
  exact ⟨k, r1, q1 H1 R1 k1⟩
/-! ## a, b = x, y -/
def sPar2 (i j : Nat) (ta : ATA) : ATS := fun E σ h => ta σ h fun ds h1 => ∃ v w, ds = [v, w] ∧ E.nx ((σ.set i (some v)).set j (some w)) h1
def sPar3 (i j l : Nat) (ta : ATA) : ATS := fun E σ h => ta σ h fun ds h1 => ∃ u v w, ds = [u, v, w] ∧ E.nx (((σ.set i (some u)).set j (some v)).set l (some w)) h1
theorem as_par2 {i j : Nat} {x y : Str} {tA : ATA} {px py pt : Pos} {kt k2 pt2} (hc : X.calm = true) (hN : X.N.Nodup) (hi : X.N[i]? = some x) (hj : X.N[j]? = some y) (hij : i ≠ j)
    (hx : X.env.scope.names.lookup x = some .local) (hy : X.env.scope.names.lookup y = some .local) (ha : AA X [a, b] tA)
    (hw : swappedStores [.Tuple [.Name x px, .Name y py] kt pt] (.Tuple [a, b] k2 pt2) X.env = pure (some [x, y]))
    (hs : swapsWithSole [.Tuple [.Name x px, .Name y py] kt pt] (.Tuple [a, b] k2 pt2) pos.line X.env = pure false) :
    AS X (.Assign [.Tuple [.Name x px, .Name y py] kt pt] (.Tuple [a, b] k2 pt2) pos) (sPar2 i j tA) := by
  refine ⟨fun D D' σ h l q => ha.mon _ _ _ _ (fun ds h1 ⟨v, w, e, q1⟩ => ⟨v, w, e, l.nx _ _ q1⟩) q, ps_weak (ps_par hc hN hi hj hij hx hy ha.run hw hs) ?_⟩
  rintro D σ H ⟨Z, σa, h, rs, R, q⟩
  refine ⟨Z, σa, h, rs, R, ha.mon _ _ _ _ (fun ds h1 ⟨v, w, e, q1⟩ => ?_) q⟩
  intro vs H1 r1 R1 k1
  subst e
  obtain ⟨v', w', rfl, rv, rw'⟩ := r1.two_of
  exact ⟨v', w', rfl, (q1 : EndS X.K Z h H D.nx _ h1) _ H1 (((rs.keep R k1).put rv).put rw') R1 k1⟩
theorem as_par3 {i j l : Nat} {x y z : Str} {tA : ATA} {px py pz pt : Pos} {kt k2 pt2} (hc : X.calm = true) (hN : X.N.Nodup) (hi : X.N[i]? = some x) (hj : X.N[j]? = some y) (hl : X.N[l]? = some z) (hij : i ≠ j) (hil : i ≠ l) (hjl : j ≠ l)
    (hx : X.env.scope.names.lookup x = some .local) (hy : X.env.scope.names.lookup y = some .local) (hz : X.env.scope.names.lookup z = some .local) (ha : AA X [a, b, c] tA)
    (hw : swappedStores [.Tuple [.Name x px, .Name y py, .Name z pz] kt pt] (.Tuple [a, b, c] k2 pt2) X.env = pure (some [x, y, z]))
    (hs : swapsWithSole [.Tuple [.Name x px, .Name y py, .Name z pz] kt pt] (.Tuple [a, b, c] k2 pt2) pos.line X.env = pure false) :
    AS X (.Assign [.Tuple [.Name x px, .Name y py, .Name z pz] kt pt] (.Tuple [a, b, c] k2 pt2) pos) (sPar3 i j l tA) := by
  refine ⟨fun D D' σ h l q => ha.mon _ _ _ _ (fun ds h1 ⟨u, v, w, e, q1⟩ => ⟨u, v, w, e, l.nx _ _ q1⟩) q, ps_weak (ps_par3 hc hN hi hj hl hij hil hjl hx hy hz ha.run hw hs) ?_⟩
  rintro D σ H ⟨Z, σa, h, rs, R, q⟩
  refine ⟨Z, σa, h, rs, R, ha.mon _ _ _ _ (fun ds h1 ⟨u, v, w, e, q1⟩ => ?_) q⟩
  intro vs H1 r1 R1 k1
  subst e
  simp only [RDs] at r1
  obtain ⟨u', ys, rfl, ru, v', zs, rfl, rv, w', ws, rfl, rw', rfl⟩ := r1
  exact ⟨u', v', w', rfl, (q1 : EndS X.K Z h H D.nx _ h1) _ H1 ((((rs.keep R k1).put ru).put rv).put rw') R1 k1⟩
/-! ## name = a comprehension, on one line -/
theorem as_setLc {m : Bool} {i : Nat} {y : Str} {py spos : Pos} {tg : Expr} {own : List (Str × Nat)} {scope : Scope} {ti : ATI} {g : ATG} {tt : ATE} {ifs : List Expr} (hc : X.calm = true) (hN : X.N.Nodup) (hy : X.N[i]? = some y) (hyl : X.env.scope.names.lookup y = some .local)
    (hsw : swapsWith (.ListComp e [⟨tg, e2, ifs, 0⟩] scope pos) (some (.Name y py)) spos.line X.env = pure true) (hi : AI X tg e2 ti) (ok : BlkOk X.N X.env.scope scope own) (mg : MonG g) (mt : MonE tt) (me : MonE te)
    (hg : ∀ (s : Shared) (H : Hp) (C : Addr) (cl : List (Str × Addr)) (fp : List Addr), AV (X.blk s H scope (compEnvC scope cl C X.env) fp) (own.map (·.2)) tg g)
    (ht : ∀ (s : Shared) (H : Hp) (C : Addr) (cl : List (Str × Addr)) (fp : List Addr), PTs (X.blk s H scope (compEnvC scope cl C X.env) fp) ifs (lftT X.K (aTst tt)))
    (he : ∀ (s : Shared) (H : Hp) (C : Addr) (cl : List (Str × Addr)) (fp : List Addr), AE (X.blk s H scope (compEnvC scope cl C X.env) fp) e te) (hs : ∀ x, foldedSetIterable e2 X.env x = pure x) :
    AS X (.Assign [.Name y py] (.ListComp e [⟨tg, e2, ifs, 0⟩] scope pos) spos) (sAsg (aLc m ti g tt te (own.map (·.2))) (gN i)) := by
  have A : AE X (.ListComp e [⟨tg, e2, ifs, 0⟩] scope pos) (aLc m ti g tt te (own.map (·.2))) := ae_lc hc hN hi ok mg mt me hg ht he hs
  refine ⟨sasg_mon A.mon fun d σ h Q Q' w q => w _ _ q, ps_weak (ps_setLc (te := lftE X.K te) (g := lftV X.K (own.map (·.2)) g) hc hN hy hyl hsw hi.run ok (fun s H C cl fp => (hg s H C cl fp).run) ht (fun s H C cl fp => (he s H C cl fp).run) hs) ?_⟩
  rintro D σ H ⟨Z, σa, h, rs, R, q⟩
  refine lc_w mg mt me hi.mon σ H _ ⟨Z, σa, h, rs, R, A.mon _ _ _ _ (fun d h1 q1 => ?_) q⟩
  intro v H1 r1 R1 k1
  exact (q1 : EndS X.K Z h H D.nx (σa.set i (some d)) h1) _ H1 ((rs.keep R k1).put r1) R1 k1
end
end WF

open PySem L2
set_option Elab.async false
set_option linter.all false
set_option maxRecDepth 100000
set_option maxHeartbeats 1000000
/-! # part 7: repr -/
namespace WF
open PySem PySem.Spec PyProof.Rows L2
mutual
/-- not fewer signs than repr writes -/
def rsz : PyData → Nat
  | .none => 4
  | .bool _ => 5
  | .int _ => 1921
  | .str x => (reprText x).length
  | .list xs => rszAll xs + 4
  | .tuple xs => rszAll xs + 4
  | .dict _ => 2 ^ 30
def rszAll : List PyData → Nat
  | [] => 0
  | x :: xs => rsz x + 2 + rszAll xs
end
theorem piled_shown : ∀ xs : List PyData, (∀ x ∈ xs, x.showable = true → x.hasDict = false → x.shown.length ≤ rsz x) → PyData.showableAll xs = true → PyData.hasDictAll xs = false → piled (PyData.shownAll xs) ≤ rszAll xs
  | [], _, _, _ => by simp [PyData.shownAll, piled, rszAll]
  | x :: xs, h, q, n => by
    simp only [PyData.showableAll, Bool.and_eq_true] at q
    simp only [PyData.hasDictAll, Bool.or_eq_false_iff] at n
    have h1 := h x List.mem_cons_self q.1 n.1
    have h2 := piled_shown xs (fun y hy => h y (List.mem_cons_of_mem _ hy)) q.2 n.2
    simp only [PyData.shownAll, piled_cons, rszAll]
    omega
theorem listText_le (ts : List Str) : (listText ts).length ≤ piled ts + 2 := by
  cases ts with
  | nil => decide +kernel
  | cons t r =>
    have h := textFrom_length_pos r 1 (("[" : Str) ++ (if (0 : Nat) > 0 then ", " else "" : String) ++ t) (Nat.succ_pos 0)
    have e : (listText (t :: r)).length = (textFrom 1 (("[" : Str) ++ (if (0 : Nat) > 0 then ", " else "" : String) ++ t) r).length + 1 := by
      show (textFrom 0 "[" (t :: r) ++ ("]" : Str)).length = _
      rw [strLen_append]
      rfl
    rw [e, h, strLen_append, strLen_append]
    have e1 : (("[" : String) : Str).length = 1 := by decide +kernel
    have e2 : ((if (0 : Nat) > 0 then ", " else "" : String) : Str).length = 0 := by decide +kernel
    rw [e1, e2]
    rw [piled_cons]
    omega
theorem tupleText_le (ts : List Str) : (tupleText ts).length ≤ piled ts + 4 := by
  unfold tupleText
  rw [strLen_append, strLen_append]
  have e1 : (("(" : String) : Str).length = 1 := by decide +kernel
  have e2 : ((if (ts.length == 1) = true then ",)" else ")" : String) : Str).length ≤ 2 := by
    cases ts.length == 1 <;> decide +kernel
  have e3 : (Str.join ", " ts).length ≤ piled ts := by
    cases ts with
    | nil => decide +kernel
    | cons t r =>
      have := join_length_add (t :: r) (by simp)
      omega
  omega
theorem shown_le : ∀ d : PyData, d.showable = true → d.hasDict = false → d.shown.length ≤ rsz d := by
  intro d
  induction h : sizeOf d using Nat.strongRecOn generalizing d with
  | _ n ih =>
    intro hs hn
    cases d with
    | none => decide +kernel
    | bool b => cases b <;> decide +kernel
    | int i =>
      have z := PySem.int_text_length_le (a := i) (k := 1920) (by decide) (of_decide_eq_true hs)
      simp only [PyData.shown, rsz]
      rw [PySem.ofString_length]
      omega
    | str x => exact Nat.le_refl _
    | list xs =>
      simp only [PyData.shown, rsz]
      have := listText_le (PyData.shownAll xs)
      have h2 := piled_shown xs (fun x hx => ih (sizeOf x) (by subst h; have := List.sizeOf_lt_of_mem hx; simp; omega) x rfl) hs hn
      omega
    | tuple xs =>
      simp only [PyData.shown, rsz]
      have := tupleText_le (PyData.shownAll xs)
      have h2 := piled_shown xs (fun x hx => ih (sizeOf x) (by subst h; have := List.sizeOf_lt_of_mem hx; simp; omega) x rfl) hs hn
      omega
    | dict kvs => cases hn
mutual
theorem pd0_nodict : ∀ {d : D} {p : PyData}, pd0 d = some p → p.hasDict = false
  | .non, _, e => by cases e; rfl
  | .bl _, _, e => by cases e; rfl
  | .int _, _, e => by cases e; rfl
  | .str _, _, e => by cases e; rfl
  | .tup ds, _, e => by
    simp only [pd0, Option.map_eq_some_iff] at e
    obtain ⟨ps, e1, rfl⟩ := e
    exact pds_nodict e1
  | .lst ds, _, e => by
    simp only [pd0, Option.map_eq_some_iff] at e
    obtain ⟨ps, e1, rfl⟩ := e
    exact pds_nodict e1
  | .ref _, _, e => by cases e
  | .ty _, _, e => by cases e
theorem pds_nodict : ∀ {ds : List D} {ps : List PyData}, pds ds = some ps → PyData.hasDictAll ps = false
  | [], _, e => by cases e; rfl
  | d :: ds, _, e => by
    simp only [pds, Option.bind_eq_some_iff, Option.map_eq_some_iff] at e
    obtain ⟨p, e1, ps, e2, rfl⟩ := e
    simp only [PyData.hasDictAll, pd0_nodict e1, pds_nodict e2, Bool.or_false]
end
theorem pd_nodict {h : AH} {d : D} {p : PyData} (e : pd h d = some p) : p.hasDict = false := by
  cases d with
  | ref a =>
    simp only [pd, Option.bind_eq_some_iff, Option.map_eq_some_iff] at e
    obtain ⟨ds, _, ps, e2, rfl⟩ := e
    exact pds_nodict e2
  | _ => exact pd0_nodict e
/-- what repr takes -/
def ROk (p : PyData) : Prop := p.showable = true ∧ p.depth ≤ 64 ∧ rsz p ≤ 16777216
def nRepr : ARn := fun xs h Q => match xs with
  | [x] => ∃ p, pd h x = some p ∧ ROk p ∧ Q (.str p.shown) h
  | _ => False
section
variable {X : Cx}
theorem cr_repr (hG : X.A.guards = some []) (hu : X.A.units + 70 < cLine) : CallR X (.builtin "repr") (fun xs H Q => ∃ x p, xs = [x] ∧ Dp X.K H x p ∧ p.hasDict = false ∧ ROk p ∧ Q (.str p.shown) H) := by
  intro pins s σ H xs us Q I r h
  obtain ⟨x, p, rfl, d, nd, ⟨h1, h2, h3⟩, q⟩ := h
  obtain ⟨u, rfl, rx⟩ := vals1 r
  have hs : p.shown.length ≤ sizeLine := by
    have := shown_le p h1 nd
    rw [sizeLine_eq]
    omega
  have fin : ∀ (h' : Heap) (t : Tok) (tk : Nat), (∀ b o, s.heap.get? b = some o → h'.get? b = some o) → EP X pins σ Q (.str p.shown t) { s with heap := h', toks := tk } := fun h' t tk k => ⟨.str p.shown, H, I.kept k, ⟨t, rfl⟩, q⟩
  obtain ⟨as, rd⟩ := d.reads I p x u rx
  cases x with
  | ref a =>
    cases rx
    exact repr_of_reads' rd h1 (PySem.PyData.noDict_hsm nd) hG (by omega) (fun b o e => e) (fun h' u tk k => fin h' u tk k) hs
  | non =>
    cases d
    cases rx
    exact PySem.P.repr_of_none (fin s.heap _ _ fun b o e => e)
  | bl b =>
    cases d
    cases rx
    exact PySem.P.repr_of_bool (by cases b <;> exact fin s.heap _ _ fun b o e => e)
  | int i =>
    cases d
    obtain ⟨t, rfl⟩ := rx
    exact PySem.P.repr_of_int (of_decide_eq_true h1) (fin s.heap _ _ fun b o e => e)
  | str y =>
    cases d
    obtain ⟨t, rfl⟩ := rx
    exact PySem.P.repr_of_str (fin s.heap _ _ fun b o e => e) hs
  | _ => cases d
theorem b_repr (hG : X.A.guards = some []) (hu : X.A.units + 70 < cLine) : ACall X (.builtin "repr") nRepr := by
  refine ⟨fun x h Q Q' w q => ?_, fun Z xs h H vs Q rx R q => ?_⟩
  · unfold nRepr at q ⊢
    split <;> simp only at q
    obtain ⟨p, e, r, q⟩ := q
    exact ⟨p, e, r, w _ _ q⟩
  · unfold nRepr at q
    split at q
    · obtain ⟨p, e, ok, q⟩ := q
      obtain ⟨v, rfl, r1⟩ := rx.one_of
      exact ⟨_, cr_repr hG hu, v, p, rfl, pd_ok R r1 e, pd_nodict e, ok, EndE.fin q rfl R⟩
    · exact q.elim
end
end WF

open PySem L2
set_option Elab.async false
set_option linter.all false
set_option maxRecDepth 100000
set_option maxHeartbeats 1000000
/-! # part 7b: enumerate and zip over lists and tuples -/
namespace WF
open PySem PySem.Spec PyProof.Rows L2
/-- a list (true) or a tuple -/
def SqK (K : PySem.W.Frag) (H : Hp) (κ : Bool) (a : Addr) (xs : List V) : Prop := match κ with
  | true => SqL K H a xs
  | false => SqT K H a xs
def ItAt (κ : Bool) (h : Heap) (it a : Addr) (i : Nat) : Prop := match κ with
  | true => h.IsListIter it a i
  | false => h.IsTupleIter it a i
def SeqH (κ : Bool) (h : Heap) (a : Addr) (its : Array Value) : Prop := match κ with
  | true => h.IsList a its
  | false => h.IsTuple a its
def itObj (κ : Bool) (a : Addr) : Obj := match κ with
  | true => { cls := .type "list_iterator", data := .fields #[.ref a, .int 0 0] }
  | false => { cls := .type "tuple_iterator", data := .fields #[.ref a, .int 0 0] }
theorem drawsK {prog : Program} {w : World} {A : Around} (hh : A.handled = none) (κ : Bool) (it a : Addr) (hne : a ≠ it) (its : Array Value) : Draws prog w A it [it, a] its.size (fun i v => its[i]? = some v) (fun i h => ItAt κ h it a i ∧ SeqH κ h a its) := by
  cases κ with
  | true => exact Draws.list hh it a hne its
  | false => exact Draws.tuple hh it a hne its
/-- at the end already -/
theorem drawsEnd {prog : Program} {w : World} {A : Around} (hh : A.handled = none) (κ : Bool) (it a : Addr) (i : Nat) (its : Array Value) (hi : its.size ≤ i) : Draws prog w A it [it, a] i (fun _ _ => True) (fun j h => ItAt κ h it a j ∧ SeqH κ h a its ∧ j = i) where
  live := fun j h st => by
    cases κ with
    | true => exact let ⟨o, ho, _⟩ := st.1; ⟨o, ho⟩
    | false => exact let ⟨o, ho, _⟩ := st.1; ⟨o, ho⟩
  frame := fun j h h' st hk => by
    cases κ with
    | true => exact ⟨Heap.IsListIter.at st.1 fun o e => hk it (by simp) o e, Heap.IsList.at st.2.1 fun o e => hk a (by simp) o e, st.2.2⟩
    | false => exact ⟨Heap.IsTupleIter.at st.1 fun o e => hk it (by simp) o e, Heap.IsTuple.at st.2.1 fun o e => hk a (by simp) o e, st.2.2⟩
  item := fun j s Q E hj st hQ => absurd st.2.2 (Nat.ne_of_lt hj)
  done := fun s Q E st hE => by
    cases κ with
    | true => exact wpAny_nextOf_list_end hh st.1 st.2.1 (by simp; exact hi) hE
    | false => exact wpAny_nextOf_tuple_end hh st.1 st.2.1 (by simp; exact hi) hE
theorem beginsK (κ : Bool) (a : Addr) (its : Array Value) : Begins (.ref a) (itObj κ a) (fun h => SeqH κ h a its) := by
  cases κ with
  | true => exact begins_list a its
  | false => exact begins_tuple a its
theorem ItAt.begin {κ : Bool} {h : Heap} {it a : Addr} (e : h.get? it = some (itObj κ a)) : ItAt κ h it a 0 := by
  cases κ with
  | true => exact ⟨_, e, rfl, rfl⟩
  | false => exact ⟨_, e, rfl, rfl⟩
theorem ItAt.ex {κ : Bool} {h : Heap} {it a : Addr} {i : Nat} (x : ItAt κ h it a i) : ∃ o, h.get? it = some o ∧ (o.cls = .type "list_iterator" ∨ o.cls = .type "tuple_iterator") ∧ ∀ v, o.data ≠ .cell v := by
  cases κ with
  | true =>
    obtain ⟨o, e, c, d⟩ := x
    exact ⟨o, e, .inl c, fun v q => by rw [d] at q; cases q⟩
  | false =>
    obtain ⟨o, e, c, d⟩ := x
    exact ⟨o, e, .inr c, fun v q => by rw [d] at q; cases q⟩
theorem ItAt.keep {κ : Bool} {h h' : Heap} {it a : Addr} {i : Nat} (x : ItAt κ h it a i) (k : ∀ o, h.get? it = some o → h'.get? it = some o) : ItAt κ h' it a i := by
  cases κ with
  | true => exact Heap.IsListIter.at x k
  | false => exact Heap.IsTupleIter.at x k
theorem SeqH.ex {κ : Bool} {h : Heap} {a : Addr} {its : Array Value} (x : SeqH κ h a its) : ∃ o, h.get? a = some o ∧ (o.cls = .type "list" ∨ o.cls = .type "tuple") := by
  cases κ with
  | true =>
    obtain ⟨o, e, c, _⟩ := x
    exact ⟨o, e, .inl c⟩
  | false =>
    obtain ⟨o, e, c, _⟩ := x
    exact ⟨o, e, .inr c⟩
theorem SeqH.ne_it {κ κ' : Bool} {h : Heap} {a it b : Addr} {i : Nat} {its : Array Value} (x : SeqH κ h a its) (y : ItAt κ' h it b i) : a ≠ it := by
  rintro rfl
  obtain ⟨o, e, c⟩ := x.ex
  obtain ⟨o', e', c', _⟩ := y.ex
  rw [e] at e'
  cases e'
  rcases c with c | c <;> rcases c' with c' | c' <;> rw [c] at c' <;> exact absurd (Value.type.inj c') (by decide)
theorem SeqH.ne_cls {κ : Bool} {h : Heap} {a e : Addr} {its : Array Value} {o : Obj} (x : SeqH κ h a its) (g : h.get? e = some o) (n1 : o.cls ≠ .type "list") (n2 : o.cls ≠ .type "tuple") : a ≠ e := by
  rintro rfl
  obtain ⟨o', e', c⟩ := x.ex
  rw [g] at e'
  cases e'
  rcases c with c | c
  · exact n1 c
  · exact n2 c
section
variable {X : Cx} {pins : List (Addr × Obj)} {σ : L2.St} {H : Hp} {s : Shared}
theorem inv_seq {κ : Bool} {a : Addr} {xs : List V} (I : Inv X pins σ H s) (h : SqK X.K H κ a xs) : ∃ its : List Value, Vals xs its ∧ SeqH κ s.heap a its.toArray := by
  cases κ with
  | true =>
    obtain ⟨its, r, p, _⟩ := I.list h
    exact ⟨its, r, p.isList⟩
  | false =>
    obtain ⟨its, r, p, _⟩ := I.tuple h
    exact ⟨its, r, p⟩
theorem inv_seq_inj {κ : Bool} {a : Addr} {xs ys : List V} (I : Inv X pins σ H s) (h : SqK X.K H κ a xs) (h' : SqK X.K H κ a ys) : xs = ys := by
  cases κ with
  | true => exact I.list_inj h h'
  | false => exact I.tuple_inj h h'
end
/-! ## enumerate -/
def IteK (K : PySem.W.Frag) (κ : Bool) (a : Addr) : It :=
  ⟨fun i H => ∃ (xs : List V) (x : V), SqK K H κ a xs ∧ xs[i]? = some x, fun i H v H' => ∃ T x, v = .ref T ∧ H T = none ∧ H' = upd H T (.tup [.int (i : Nat), x]) ∧ ∀ xs, SqK K H κ a xs → xs[i]? = some x, fun i H => ∃ xs : List V, SqK K H κ a xs ∧ xs.length ≤ i⟩
theorem turn_enumK {P : Program} {w : World} {K : PySem.W.Frag} {elts : List Expr} {kk : Nat} {tpos : Pos} (κ : Bool) (a e it : Addr) :
    Turn P w K (.Tuple elts kk tpos) (IteK K κ a) [e, it] e (fun i h => (∃ old, IsEnum h e it ((i : Nat) : Int) old) ∧ ItAt κ h it a i ∧ e ≠ it) where
  mem := by simp
  obj := fun i h st b hb => by
    obtain ⟨⟨old, he⟩, hi, _⟩ := st
    have e' : b = e ∨ b = it := by simpa using hb
    rcases e' with z | z
    · rw [z]; exact ⟨_, he, fun v q => nomatch q⟩
    · rw [z]
      obtain ⟨o, ho, _, hd⟩ := hi.ex
      exact ⟨o, ho, hd⟩
  keep := fun i h h' st k => let ⟨⟨old, he⟩, hi, hne⟩ := st; ⟨⟨old, k e (by simp) _ he⟩, hi.keep fun o q => k it (by simp) o q, hne⟩
  item := by
    intro X hP hw hK hc i pins s σ H E I hf st hg
    subst hP hw hK
    obtain ⟨⟨old, he⟩, hit, hne⟩ := st
    obtain ⟨xs, x, hq, hx⟩ := hg
    obtain ⟨its, rv, p⟩ := inv_seq I hq
    obtain ⟨u, hu, ru⟩ := rv.get hx
    have hel : e < s.heap.objs.size := Heap.lt_size he
    have hil : it < s.heap.objs.size := by obtain ⟨_, q, _⟩ := hit.ex; exact Heap.lt_size q
    have hai : a ≠ it := p.ne_it hit
    have hae : a ≠ e := p.ne_cls he (by show Value.type "enumerate" ≠ _; intro z; exact absurd (Value.type.inj z) (by decide)) (by show Value.type "enumerate" ≠ _; intro z; exact absurd (Value.type.inj z) (by decide))
    have G := GoesN.enumFrom (prog := X.prog) (w := X.w) (A := X.A) (elts := elts) (x1 := kk) (pos := tpos) 0 (drawsK (A := X.A.in1) (I.ok.hd hc) κ it a hai its.toArray) e hne (by simp; exact ⟨hne, fun z => hae z.symm⟩) (by simp)
    have hi : i < its.toArray.size := by
      have := (List.getElem?_eq_some_iff.mp hu).1
      simpa using this
    refine G.goes i s (fun v s2 => ∃ x H', Inv X pins σ H' s2 ∧ RelV x v ∧ (IteK X.K κ a).yld i H x H' ∧ ((∃ old, IsEnum s2.heap e it (((i + 1 : Nat) : Nat) : Int) old) ∧ ItAt κ s2.heap it a (i + 1) ∧ e ≠ it) ∧ ∀ b ∈ [e, it], H' b = none) E hi ⟨⟨old, by rw [Int.zero_add]; exact he⟩, hit, p⟩ ?_
    rintro v h' tk ⟨T, t, y, rfl, hT, hy, hTup⟩ ⟨⟨old', he'⟩, hit', p'⟩ hk _
    have ey : y = u := by
      have h1 : its.toArray[i]? = its[i]? := by simp
      rw [h1, hu] at hy
      exact (Option.some.inj hy).symm
    subst ey
    rw [Int.zero_add] at hTup he'
    have new : ObjOk X.prog X.w (upd H T (.tup [.int (i : Nat), x])) h' T (.tup [.int (i : Nat), x]) :=
      ⟨by show 2 ≤ sizeLine; decide, [.int i t, y], .cons ⟨_, rfl⟩ (.cons ru .nil), hTup⟩
    have I1 : Inv X pins σ (upd H T (.tup [.int (i : Nat), x])) { s with heap := h', toks := tk } :=
      I.turnedNew (ch := [e, it]) (fun b ob hb q => hk b ob hb q) hf hT new
    refine ⟨.ref T, _, I1, rfl, ⟨T, x, rfl, I.hok.fresh hT, rfl, fun ys hy => by rw [inv_seq_inj I hy hq]; exact hx⟩, ⟨⟨old', he'⟩, hit', hne⟩, fun b hb => ?_⟩
    have hb' : b < s.heap.objs.size := by
      have e' : b = e ∨ b = it := by simpa using hb
      rcases e' with z | z
      · rw [z]; exact hel
      · rw [z]; exact hil
    rw [upd_ne (Nat.ne_of_lt (Nat.lt_of_lt_of_le hb' hT))]
    exact (hf b hb).1
  done := by
    intro X hP hw hK hc i pins s σ H E I hf st hg
    subst hP hw hK
    obtain ⟨⟨old, he⟩, hit, hne⟩ := st
    obtain ⟨xs, hq, hx⟩ := hg
    obtain ⟨its, rv, p⟩ := inv_seq I hq
    have hai : a ≠ it := p.ne_it hit
    have hae : a ≠ e := p.ne_cls he (by show Value.type "enumerate" ≠ _; intro z; exact absurd (Value.type.inj z) (by decide)) (by show Value.type "enumerate" ≠ _; intro z; exact absurd (Value.type.inj z) (by decide))
    have hl := rv.length
    have G := GoesN.enumFrom (prog := X.prog) (w := X.w) (A := X.A) (elts := elts) (x1 := kk) (pos := tpos) 0 (drawsEnd (A := X.A.in1) (I.ok.hd hc) κ it a i its.toArray (by simp; omega)) e hne (by simp; exact ⟨hne, fun z => hae z.symm⟩) (by simp)
    refine G.stops s (fun s1 => Inv X pins σ H s1) E ⟨⟨old, by rw [Int.zero_add]; exact he⟩, hit, p, rfl⟩ fun h' tk hk _ => ?_
    exact I.turnedL (fun b o hb q => hk b o hb q) hf
  self := fun A i s Q E st h => let ⟨⟨_, he⟩, _⟩ := st; wpAny_pyIter_enum he h
def iEnumK (K : PySem.W.Frag) (ta : TA) : TI := fun σ H R => ta σ H fun vs H1 => ∃ κ a xs, vs = [.ref a] ∧ SqK K H1 κ a xs ∧ R (IteK K κ a) H1
/-- enumerate(v) of one argument begins -/
theorem meets_enumerate_new1 {v : Value} {o : Obj} {H : Heap → Prop} (B : Begins v o H) :
    Meets (Builtin.«enumerate.__new__» ⟨[.type "enumerate", v], []⟩) (fun _ R s => H s.heap ∧
      R (.ok (.ret (.ref (s.heap.push o).objs.size))) { s with heap := (s.heap.push o).push { cls := .type "enumerate", data := .fields #[.none, .bool false, .ref s.heap.objs.size, rawInt 0, .none, .none] } }) :=
  .of_wp fun prog w A R s h => by
    obtain ⟨hp, g, d, tk, os⟩ := s; obtain ⟨h1, h⟩ := h
    have hsub := sub_enumerate
    have q1 : ∀ {A' : Around} {E : Value → Shared → Prop} {Q : Value → Shared → Prop}, Q (.ref hp.objs.size) ⟨hp.push o, g, d, tk, os⟩ → wpAny (model prog w) A' (pyIter v) Q E ⟨hp, g, d, tk, os⟩ :=
      fun q => B.iter prog w _ _ ⟨hp, g, d, tk, os⟩ _ h1 q
    wp_walk using q1
    refine wpAny_stack_any fun st => wpAny_pure ?_
    split
    · rename_i c _ _ _ _ _
      cases (c == Value.type "enumerate")
      · wp_walk using q1
        exact ⟨_, rfl, h⟩
      · wp_walk using q1
        exact ⟨_, rfl, h⟩
    · wp_walk using q1
      exact ⟨_, rfl, h⟩
theorem enum_begins1 {prog : Program} {w : World} {A : Around} {E : Value → Shared → Prop} {s : Shared} {v : Value} {o : Obj} {H : Heap → Prop} {Q : Value → Shared → Prop} (B : Begins v o H) (h1 : H s.heap)
    (h : ∀ h', IsEnum h' (s.heap.objs.size + 1) s.heap.objs.size 0 .none → h'.get? s.heap.objs.size = some o → (∀ b o, s.heap.get? b = some o → h'.get? b = some o) → Q (.ref (s.heap.objs.size + 1)) { s with heap := h' }) :
    wpAny (model prog w) A (call (.type "enumerate") [v]) Q E s := by
  refine callType_new F.called_enumerate (by decide) (F.typeCall_enumerate_1 _) (F.newCall_enumerate_1 _) (fun obj => F.args_object_init_2 obj _) F.entry_enumerate_new (meets_enumerate_new1 B) ⟨h1, ?_⟩
  have hz : (s.heap.push o).objs.size = s.heap.objs.size + 1 := Heap.size_push ..
  show _ ∧ _
  rw [hz]
  have he : IsEnum ((s.heap.push o).push { cls := .type "enumerate", data := .fields #[.none, .bool false, .ref s.heap.objs.size, rawInt 0, .none, .none] }) (s.heap.objs.size + 1) s.heap.objs.size 0 .none := by
    have := Heap.get?_push_size (s.heap.push o) (o := { cls := .type "enumerate", data := .fields #[.none, .bool false, .ref s.heap.objs.size, rawInt 0, .none, .none] }) rfl
    rw [hz] at this; exact this
  exact ⟨⟨_, he, rfl⟩, h _ he (Heap.get?_push_of_some _ (Heap.get?_push_size _ B.free)) fun b o x => Heap.get?_push_of_some _ (Heap.get?_push_of_some _ x)⟩
theorem pi_enumK {X : Cx} {e : Expr} {ta : TA} {p pos tpos : Pos} {elts : List Expr} {kk : Nat} (hg : Gl X "enumerate") (hm : X.mg "enumerate" = none) (ha : PA X [e] ta) (hs : starEach [e] X.env = [(false, eval e X.env)]) :
    PI X (.Tuple elts kk tpos) (.Call (.Name "enumerate" p) [e] [] pos) (iEnumK X.K ta) := by
  refine ⟨fun pins s σ H R I h => ?_⟩
  refine Call_ (ld_blt I hg hm boot_enumerate (PyProof.Rows.callWith_type1 (thn (ha.run pos pins s σ H _ I h) fun us s1 ⟨vs, H1, I1, r1, q1⟩ => ?_) hs rfl))
  obtain ⟨κ, a, xs, ex, hq, q⟩ := q1
  subst ex
  cases r1 with
  | cons r rr =>
    cases rr
    cases r
    obtain ⟨its, rv, p'⟩ := inv_seq I1 hq
    refine enum_begins1 (beginsK κ a its.toArray) p' fun h' he hit hk => wpAny_pyIter_enum he ?_
    have I2 : Inv X pins σ H1 { s1 with heap := h' } := I1.kept (t' := s1.toks) hk
    refine ⟨s1.heap.objs.size + 1, [s1.heap.objs.size + 1, s1.heap.objs.size], _, _, H1, rfl, I2, turn_enumK κ a (s1.heap.objs.size + 1) s1.heap.objs.size, ⟨⟨.none, he⟩, .begin hit, Nat.succ_ne_self _⟩, fun b hb => ?_, q⟩
    have e' : b = s1.heap.objs.size + 1 ∨ b = s1.heap.objs.size := by simpa using hb
    have hle : s1.heap.objs.size ≤ b := by
      rcases e' with z | z
      · rw [z]; exact Nat.le_add_right _ _
      · rw [z]; exact Nat.le_refl _
    exact I1.fpOk hle (I1.hok.fresh hle)
/-! ## zip -/
def ItzK (K : PySem.W.Frag) (κ μ : Bool) (a b : Addr) : It :=
  ⟨fun i H => ∃ (xs ys : List V) (x y : V), SqK K H κ a xs ∧ SqK K H μ b ys ∧ xs[i]? = some x ∧ ys[i]? = some y,
    fun i H v H' => ∃ T x y, v = .ref T ∧ H T = none ∧ H' = upd H T (.tup [x, y]) ∧ (∀ xs, SqK K H κ a xs → xs[i]? = some x) ∧ ∀ ys, SqK K H μ b ys → ys[i]? = some y,
    fun i H => ∃ xs ys : List V, SqK K H κ a xs ∧ SqK K H μ b ys ∧ (xs.length ≤ i ∨ ys.length ≤ i)⟩
theorem drawsAny {prog : Program} {w : World} {A : Around} (hh : A.handled = none) (κ : Bool) (it a : Addr) (hne : a ≠ it) (i : Nat) (its : Array Value) : ∃ n P St, Draws prog w A it [it, a] n P St ∧ i ≤ n ∧ (its.size ≤ i → n = i) ∧ ∀ h, ItAt κ h it a i → SeqH κ h a its → St i h := by
  by_cases c : its.size ≤ i
  · exact ⟨_, _, _, drawsEnd hh κ it a i its c, Nat.le_refl _, fun _ => rfl, fun h x y => ⟨x, y, rfl⟩⟩
  · exact ⟨_, _, _, drawsK hh κ it a hne its, by omega, fun z => absurd z c, fun h x y => ⟨x, y⟩⟩
theorem sep_of {z TI TO i1 i2 a b : Addr} (D : ZipApart z TI TO i1 i2 a b) : ZipSep2 z TI TO i1 i2 [i1, a] [i2, b] where
  TIz := D.TIz
  TOz := D.TOz
  TITO := D.TITO
  TIi1 := D.TIi1
  mem1 := by simp
  zf1 := by simp; exact ⟨fun e => D.i1z e.symm, fun e => D.l1z e.symm⟩
  Tf1 := by simp; exact ⟨D.TOi1, fun e => D.l1TO e.symm⟩
  TIi2 := D.TIi2
  mem2 := by simp
  zf2 := by simp; exact ⟨fun e => D.i2z e.symm, fun e => D.l2z e.symm⟩
  Tf2 := by simp; exact ⟨D.TOi2, fun e => D.l2TO e.symm⟩
  sep1_2 := by simp; exact ⟨D.i12, fun e => D.l2i1 e.symm⟩
  sep2_1 := by simp; exact ⟨fun e => D.i12 e.symm, fun e => D.l1i2 e.symm⟩
theorem turn_zipK {P : Program} {w : World} {K : PySem.W.Frag} {elts : List Expr} {kk : Nat} {tpos : Pos} {κ μ : Bool} {a b z TI TO i1 i2 : Addr} (D : ZipApart z TI TO i1 i2 a b) :
    Turn P w K (.Tuple elts kk tpos) (ItzK K κ μ a b) [z, TI, TO, i1, i2] z (fun i h => IsZip h z TI TO .none ∧ IsTupOf2 h TI (.ref i1) (.ref i2) ∧ (∃ x y, IsTupOf2 h TO x y) ∧ ItAt κ h i1 a i ∧ ItAt μ h i2 b i) where
  mem := by simp
  obj := fun i h st c hc => by
    obtain ⟨hz, hTI, ⟨x, y, hTO⟩, h1, h2⟩ := st
    obtain ⟨o1, e1, _, d1⟩ := h1.ex
    obtain ⟨o2, e2, _, d2⟩ := h2.ex
    have e' : c = z ∨ c = TI ∨ c = TO ∨ c = i1 ∨ c = i2 := by simpa using hc
    rcases e' with q | q | q | q | q
    · rw [q]; exact ⟨_, hz, fun v q => nomatch q⟩
    · rw [q]; exact ⟨_, hTI, fun v q => nomatch q⟩
    · rw [q]; exact ⟨_, hTO, fun v q => nomatch q⟩
    · rw [q]; exact ⟨o1, e1, d1⟩
    · rw [q]; exact ⟨o2, e2, d2⟩
  keep := fun i h h' st k => by
    obtain ⟨hz, hTI, ⟨x, y, hTO⟩, h1, h2⟩ := st
    exact ⟨k z (by simp) _ hz, k TI (by simp) _ hTI, ⟨x, y, k TO (by simp) _ hTO⟩, h1.keep fun o q => k i1 (by simp) o q, h2.keep fun o q => k i2 (by simp) o q⟩
  item := by
    intro X hP hw hK hc i pins s σ H E I hf st hg
    subst hP hw hK
    obtain ⟨hz, hTI, hTO, h1, h2⟩ := st
    obtain ⟨xs, ys, x, y, hqx, hqy, hx, hy⟩ := hg
    obtain ⟨its, rv, p⟩ := inv_seq I hqx
    obtain ⟨its2, rv2, p2⟩ := inv_seq I hqy
    obtain ⟨u, hu, ru⟩ := rv.get hx
    obtain ⟨u2, hu2, ru2⟩ := rv2.get hy
    have G := GoesN.zip2 (prog := X.prog) (w := X.w) (A := X.A) (elts := elts) (x1 := kk) (pos := tpos) (sep_of D) (drawsK (A := X.A.in1) (I.ok.hd hc) κ i1 a D.l1i1 its.toArray) (drawsK (A := X.A.in1) (I.ok.hd hc) μ i2 b D.l2i2 its2.toArray)
    have hi1 : i < its.toArray.size := by simpa using (List.getElem?_eq_some_iff.mp hu).1
    have hi2 : i < its2.toArray.size := by simpa using (List.getElem?_eq_some_iff.mp hu2).1
    refine G.goes i s (fun v s2 => ∃ x H', Inv X pins σ H' s2 ∧ RelV x v ∧ (ItzK X.K κ μ a b).yld i H x H' ∧ (IsZip s2.heap z TI TO .none ∧ IsTupOf2 s2.heap TI (.ref i1) (.ref i2) ∧ (∃ x y, IsTupOf2 s2.heap TO x y) ∧ ItAt κ s2.heap i1 a (i + 1) ∧ ItAt μ s2.heap i2 b (i + 1)) ∧ ∀ c ∈ [z, TI, TO, i1, i2], H' c = none) E (by omega) ⟨hz, hTI, hTO, ⟨h1, p⟩, ⟨h2, p2⟩⟩ ?_
    rintro v h' tk ⟨T, v1, v2, rfl, hT, e1, e2, hTup⟩ ⟨hz', hTI', hTO', ⟨h1', p'⟩, ⟨h2', p2'⟩⟩ hk _
    have ev : v1 = u := by
      have h1 : its.toArray[i]? = its[i]? := by simp
      rw [h1, hu] at e1
      exact (Option.some.inj e1).symm
    have ev2 : v2 = u2 := by
      have h1 : its2.toArray[i]? = its2[i]? := by simp
      rw [h1, hu2] at e2
      exact (Option.some.inj e2).symm
    subst ev ev2
    have new : ObjOk X.prog X.w (upd H T (.tup [x, y])) h' T (.tup [x, y]) :=
      ⟨by show 2 ≤ sizeLine; decide, [v1, v2], .cons ru (.cons ru2 .nil), hTup⟩
    have I1 : Inv X pins σ (upd H T (.tup [x, y])) { s with heap := h', toks := tk } :=
      I.turnedNew (ch := [z, TI, TO, i1, i2]) (fun c o hb q => hk c o (fun m => hb (by
        have e' : c = z ∨ c = TO ∨ c = i1 ∨ c = i2 := by simpa using m
        rcases e' with q | q | q | q <;> simp [q])) q) hf hT new
    refine ⟨.ref T, _, I1, rfl, ⟨T, x, y, rfl, I.hok.fresh hT, rfl, fun l hl => by rw [inv_seq_inj I hl hqx]; exact hx, fun l hl => by rw [inv_seq_inj I hl hqy]; exact hy⟩, ⟨hz', hTI', hTO', h1', h2'⟩, fun c hcm => ?_⟩
    have hlt : c < s.heap.objs.size := by
      obtain ⟨x0, y0, hTO⟩ := hTO
      have e' : c = z ∨ c = TI ∨ c = TO ∨ c = i1 ∨ c = i2 := by simpa using hcm
      rcases e' with q | q | q | q | q
      · rw [q]; exact Heap.lt_size hz
      · rw [q]; exact Heap.lt_size hTI
      · rw [q]; exact Heap.lt_size hTO
      · rw [q]; obtain ⟨_, e1, _⟩ := h1.ex; exact Heap.lt_size e1
      · rw [q]; obtain ⟨_, e2, _⟩ := h2.ex; exact Heap.lt_size e2
    rw [upd_ne (Nat.ne_of_lt (Nat.lt_of_lt_of_le hlt hT))]
    exact (hf c hcm).1
  done := by
    intro X hP hw hK hc i pins s σ H E I hf st hg
    subst hP hw hK
    obtain ⟨hz, hTI, hTO, h1, h2⟩ := st
    obtain ⟨xs, ys, hqx, hqy, hend⟩ := hg
    obtain ⟨its, rv, p⟩ := inv_seq I hqx
    obtain ⟨its2, rv2, p2⟩ := inv_seq I hqy
    have l1 := rv.length
    have l2 := rv2.length
    obtain ⟨n1, P1, S1, D1, le1, end1, ok1⟩ := drawsAny (prog := X.prog) (w := X.w) (A := X.A.in1) (I.ok.hd hc) κ i1 a D.l1i1 i its.toArray
    obtain ⟨n2, P2, S2, D2, le2, end2, ok2⟩ := drawsAny (prog := X.prog) (w := X.w) (A := X.A.in1) (I.ok.hd hc) μ i2 b D.l2i2 i its2.toArray
    have G := GoesN.zip2 (prog := X.prog) (w := X.w) (A := X.A) (elts := elts) (x1 := kk) (pos := tpos) (sep_of D) D1 D2
    have em : min n1 n2 = i := by
      simp only [List.size_toArray] at end1 end2
      rcases hend with q | q
      · have := end1 (by omega); omega
      · have := end2 (by omega); omega
    refine G.stops s (fun s1 => Inv X pins σ H s1) E (by rw [em]; exact ⟨hz, hTI, hTO, ok1 _ h1 p, ok2 _ h2 p2⟩) fun h' tk hk _ => ?_
    exact I.turnedL (ch := [z, TI, TO, i1, i2]) (fun c o hb q => hk c o (fun m => hb (by
        have e' : c = z ∨ c = TO ∨ c = i1 ∨ c = i2 := by simpa using m
        rcases e' with q | q | q | q <;> simp [q])) q) hf
  self := fun A i s Q E st h => wpAny_pyIter_zip st.1 h
def iZipK (K : PySem.W.Frag) (ta : TA) : TI := fun σ H R => ta σ H fun vs H1 => ∃ κ μ a b xs ys, vs = [.ref a, .ref b] ∧ SqK K H1 κ a xs ∧ SqK K H1 μ b ys ∧ R (ItzK K κ μ a b) H1
theorem pi_zipK {X : Cx} {e e2 : Expr} {ta : TA} {p pos tpos : Pos} {elts : List Expr} {kk : Nat} (hg : Gl X "zip") (hm : X.mg "zip" = none) (ha : PA X [e, e2] ta)
    (hs : starEach [e, e2] X.env = (false, eval e X.env) :: starEach [e2] X.env) (hpl : (backTo pos (starEach [e2] X.env)).any (·.1) = false) :
    PI X (.Tuple elts kk tpos) (.Call (.Name "zip" p) [e, e2] [] pos) (iZipK X.K ta) := by
  refine ⟨fun pins s σ H R I h => ?_⟩
  refine Call_ (ld_blt I hg hm PyProof.Rows.boot_zip (PyProof.Rows.callWith_type1 (thn (ha.run pos pins s σ H _ I h) fun us s1 ⟨vs, H1, I1, r1, q1⟩ => ?_) hs hpl))
  obtain ⟨κ, μ, a, b, xs, ys, ex, hqx, hqy, q⟩ := q1
  subst ex
  cases r1 with
  | cons r rr =>
    cases rr with
    | cons r' rr =>
      cases rr
      cases r
      cases r'
      have fresh5 : ∀ c, c ∈ [s1.heap.objs.size + 4, s1.heap.objs.size + 2, s1.heap.objs.size + 3, s1.heap.objs.size, s1.heap.objs.size + 1] → FpOk X pins H1 c := fun c hcm => by
        have e' : c = s1.heap.objs.size + 4 ∨ c = s1.heap.objs.size + 2 ∨ c = s1.heap.objs.size + 3 ∨ c = s1.heap.objs.size ∨ c = s1.heap.objs.size + 1 := by simpa using hcm
        have hle : s1.heap.objs.size ≤ c := by
          rcases e' with z | z | z | z | z
          · rw [z]; exact Nat.le_add_right _ _
          · rw [z]; exact Nat.le_add_right _ _
          · rw [z]; exact Nat.le_add_right _ _
          · rw [z]; exact Nat.le_refl _
          · rw [z]; exact Nat.le_add_right _ _
        exact I1.fpOk hle (I1.hok.fresh hle)
      obtain ⟨its, rv, p1⟩ := inv_seq I1 hqx
      obtain ⟨its2, rv2, p2⟩ := inv_seq I1 hqy
      obtain ⟨o1, ho1, _⟩ := p1.ex
      obtain ⟨o2, ho2, _⟩ := p2.ex
      refine zip_begins2 (beginsK κ a its.toArray) (beginsK μ b its2.toArray) p1 p2 fun h' hz hTI hTO h1 h2 hsz hk => wpAny_pyIter_zip hz ?_
      have I2 : Inv X pins σ H1 { s1 with heap := h' } := I1.kept (t' := s1.toks) hk
      exact ⟨s1.heap.objs.size + 4, [s1.heap.objs.size + 4, s1.heap.objs.size + 2, s1.heap.objs.size + 3, s1.heap.objs.size, s1.heap.objs.size + 1], _, _, H1, rfl, I2, turn_zipK (PySem.W.ktu_apart s1.heap.objs.size a b (Heap.lt_size ho1) (Heap.lt_size ho2)), ⟨hz, hTI, ⟨_, _, hTO⟩, .begin h1, .begin h2⟩, fresh5, q⟩
/-! ## as sources -/
def okOf : D → List D → AH → Prop
  | .ref a, ds, h => h a = some ds
  | _, _, _ => True
def Stays (K : PySem.W.Frag) (Z : List Addr) (h0 : AH) (H0 : Hp) (ok : AH → Prop) (κ : Bool) (a : Addr) (ds : List D) : Prop :=
  ∀ (Z' : List Addr) (h : AH) (H : Hp), New Z H0 Z' → RH K Z' h H → Kp h0 H0 h H → ok h → ∃ xs, SqK K H κ a xs ∧ RDs K Z' h H ds xs
theorem stays_of {K : PySem.W.Frag} {Z : List Addr} {h0 : AH} {H0 : Hp} (R0 : RH K Z h0 H0) {d : D} {v : V} {ds : List D} (r : RD K Z h0 H0 d v) (e : seqA h0 d = some ds) :
    ∃ κ a, v = .ref a ∧ Stays K Z h0 H0 (okOf d ds) κ a ds ∧ okOf d ds h0 := by
  cases d with
  | tup es =>
    cases e
    simp only [RD] at r
    obtain ⟨a, xs, rfl, hs, r⟩ := r
    exact ⟨false, a, rfl, fun Z' h H nz R k _ => ⟨xs, SqT.keep R0.nl k hs, RDs.keepN R0.nl k (RDs.hide nz r)⟩, trivial⟩
  | lst es =>
    cases e
    simp only [RD] at r
    obtain ⟨a, xs, rfl, hs, r⟩ := r
    exact ⟨true, a, rfl, fun Z' h H nz R k _ => ⟨xs, (hs.keep k).sq, RDs.keepN R0.nl k (RDs.hide nz r)⟩, trivial⟩
  | ref b =>
    cases r
    refine ⟨true, b, rfl, fun Z' h H nz R k ok => ?_, e⟩
    obtain ⟨xs, e1, r⟩ := R.at_ b ds ok
    exact ⟨xs, .inl (.inl e1), r⟩
  | _ => cases e
theorem New.refl {Z : List Addr} {H : Hp} : New Z H Z := fun _ m => .inl m
theorem Stays.now {K : PySem.W.Frag} {Z : List Addr} {h0 : AH} {H0 : Hp} {ok : AH → Prop} {κ : Bool} {a : Addr} {ds : List D} (s : Stays K Z h0 H0 ok κ a ds) (R0 : RH K Z h0 H0) (o : ok h0) : ∃ xs, SqK K H0 κ a xs := by
  obtain ⟨xs, e, _⟩ := s Z h0 H0 New.refl R0 Kp.refl o
  exact ⟨xs, e⟩
@[simp] def enumD : Int → List D → List D
  | _, [] => []
  | k, d :: ds => .tup [.int k, d] :: enumD (k + 1) ds
theorem enumD_get : ∀ (ds : List D) (k : Int) (i : Nat), (enumD k ds)[i]? = ds[i]?.map fun d => .tup [.int (k + (i : Nat)), d]
  | [], _, _ => rfl
  | d :: ds, k, 0 => by simp [enumD]
  | d :: ds, k, i + 1 => by
    simp only [enumD, List.getElem?_cons_succ]
    rw [enumD_get ds (k + 1) i]
    have : k + 1 + (i : Int) = k + ((i + 1 : Nat) : Int) := by omega
    rw [this]
theorem enumD_len : ∀ (ds : List D) (k : Int), (enumD k ds).length = ds.length
  | [], _ => rfl
  | d :: ds, k => congrArg (· + 1) (enumD_len ds (k + 1))
abbrev zipD (xs ys : List D) : List D := List.zipWith (fun x y => D.tup [x, y]) xs ys
theorem feeds_enum {K : PySem.W.Frag} {Z : List Addr} {h0 : AH} {H0 : Hp} {ok : AH → Prop} {κ : Bool} {a : Addr} {ds : List D} (st : Stays K Z h0 H0 ok κ a ds) : Feeds K Z h0 H0 ⟨enumD 0 ds, ok⟩ (IteK K κ a) := by
  intro Z' i h H nz R k o
  obtain ⟨xs, hs, r⟩ := st Z' h H nz R k o
  refine ⟨fun d e => ?_, fun l => ⟨xs, hs, by rw [← r.length, ← enumD_len ds 0]; exact l⟩⟩
  simp only [enumD_get] at e
  cases q : ds[i]? with
  | none => rw [q] at e; cases e
  | some d0 =>
    rw [q] at e
    cases e
    obtain ⟨x, ex, rx⟩ := r.get q
    refine ⟨⟨xs, x, hs, ex⟩, ?_⟩
    rintro y H' ⟨T, x', rfl, nT, rfl, e2⟩
    have := e2 xs hs
    rw [ex] at this
    cases this
    rw [Int.zero_add]
    exact ⟨⟨T, _, rfl, .inl (.inl upd_same), ⟨_, _, rfl, rfl, _, _, rfl, RD.keep R (Kp.laid nT) rx, rfl⟩⟩, R.laid nT, Kp.laid nT⟩
theorem feeds_zip {K : PySem.W.Frag} {Z : List Addr} {h0 : AH} {H0 : Hp} {ok ok' : AH → Prop} {κ μ : Bool} {a b : Addr} {ds es : List D} (st : Stays K Z h0 H0 ok κ a ds) (st' : Stays K Z h0 H0 ok' μ b es) : Feeds K Z h0 H0 ⟨zipD ds es, fun h => ok h ∧ ok' h⟩ (ItzK K κ μ a b) := by
  intro Z' i h H nz R k ⟨o, o'⟩
  obtain ⟨xs, hs, r⟩ := st Z' h H nz R k o
  obtain ⟨ys, hs', r'⟩ := st' Z' h H nz R k o'
  have l1 := r.length
  have l2 := r'.length
  refine ⟨fun d e => ?_, fun l => ⟨xs, ys, hs, hs', by simp only [List.length_zipWith] at l; omega⟩⟩
  simp only [List.getElem?_zipWith] at e
  cases q : ds[i]? with
  | none => rw [q] at e; cases e
  | some d0 =>
    rw [q] at e
    cases q' : es[i]? with
    | none => rw [q'] at e; cases e
    | some d1 =>
      rw [q'] at e
      cases e
      obtain ⟨x, ex, rx⟩ := r.get q
      obtain ⟨y, ey, ry⟩ := r'.get q'
      refine ⟨⟨xs, ys, x, y, hs, hs', ex, ey⟩, ?_⟩
      rintro v H' ⟨T, x', y', rfl, nT, rfl, e2, e3⟩
      have := e2 xs hs
      rw [ex] at this
      cases this
      have := e3 ys hs'
      rw [ey] at this
      cases this
      exact ⟨⟨T, _, rfl, .inl (.inl upd_same), ⟨_, _, rfl, RD.keep R (Kp.laid nT) rx, _, _, rfl, RD.keep R (Kp.laid nT) ry, rfl⟩⟩, R.laid nT, Kp.laid nT⟩
def aEnum (ta : ATA) : ATI := fun σ h Q => ta σ h fun xs h1 => ∃ d ds, xs = [d] ∧ seqA h1 d = some ds ∧ Q ⟨enumD 0 ds, okOf d ds⟩ h1
def aZip (ta : ATA) : ATI := fun σ h Q => ta σ h fun xs h1 => ∃ x y ds es, xs = [x, y] ∧ seqA h1 x = some ds ∧ seqA h1 y = some es ∧ Q ⟨zipD ds es, fun h => okOf x ds h ∧ okOf y es h⟩ h1
section
variable {X : Cx} {e e2 : Expr} {ta : ATA} {p pos tpos : Pos} {elts : List Expr} {kk : Nat}
theorem ai_enum (hg : Gl X "enumerate") (hm : X.mg "enumerate" = none) (ha : AA X [e] ta) (hs : starEach [e] X.env = [(false, eval e X.env)]) : AI X (.Tuple elts kk tpos) (.Call (.Name "enumerate" p) [e] [] pos) (aEnum ta) := by
  refine ⟨fun σ h Q Q' w q => ha.mon _ _ _ _ (fun xs h1 ⟨d, ds, e1, e2, q1⟩ => ⟨d, ds, e1, e2, w _ _ q1⟩) q, pi_weak (pi_enumK hg hm ha.run hs) ?_⟩
  rintro σ H R0 ⟨Z, σa, h, rs, R, q⟩
  refine ⟨Z, σa, h, rs, R, ha.mon _ _ _ _ (fun xs h1 ⟨d, ds, e1, e2, q1⟩ => ?_) q⟩
  intro vs H1 r1 R1 k1
  subst e1
  obtain ⟨v, rfl, r⟩ := r1.one_of
  obtain ⟨κ, a, rfl, st, o⟩ := stays_of R1 r e2
  obtain ⟨ys, hy⟩ := st.now R1 o
  exact ⟨κ, a, ys, rfl, hy, (q1 : EndI X.K Z h H R0 _ h1) _ H1 R1 k1 (feeds_enum st)⟩
theorem ai_zip (hg : Gl X "zip") (hm : X.mg "zip" = none) (ha : AA X [e, e2] ta) (hs : starEach [e, e2] X.env = (false, eval e X.env) :: starEach [e2] X.env) (hpl : (backTo pos (starEach [e2] X.env)).any (·.1) = false) : AI X (.Tuple elts kk tpos) (.Call (.Name "zip" p) [e, e2] [] pos) (aZip ta) := by
  refine ⟨fun σ h Q Q' w q => ha.mon _ _ _ _ (fun xs h1 ⟨x, y, ds, es, e1, e2, e3, q1⟩ => ⟨x, y, ds, es, e1, e2, e3, w _ _ q1⟩) q, pi_weak (pi_zipK hg hm ha.run hs hpl) ?_⟩
  rintro σ H R0 ⟨Z, σa, h, rs, R, q⟩
  refine ⟨Z, σa, h, rs, R, ha.mon _ _ _ _ (fun xs h1 ⟨x, y, ds, es, e1, e2, e3, q1⟩ => ?_) q⟩
  intro vs H1 r1 R1 k1
  subst e1
  obtain ⟨v, u, rfl, r, r'⟩ := r1.two_of
  obtain ⟨κ, a, rfl, st, o⟩ := stays_of R1 r e2
  obtain ⟨μ, b, rfl, st', o'⟩ := stays_of R1 r' e3
  obtain ⟨ys, hy⟩ := st.now R1 o
  obtain ⟨zs, hz⟩ := st'.now R1 o'
  exact ⟨κ, μ, a, b, ys, zs, rfl, hy, hz, (q1 : EndI X.K Z h H R0 _ h1) _ H1 R1 k1 (feeds_zip st st')⟩
end
end WF

open PySem L2
set_option Elab.async false
set_option linter.all false
set_option maxRecDepth 100000
set_option maxHeartbeats 1000000
/-! # part 7c: equality of data, in, count, index, more methods, lcm -/
namespace WF
open PySem PySem.Spec PyProof.Rows L2
noncomputable instance : DecidableEq D := fun _ _ => Classical.propDecidable _
/-! ## equality by data -/
mutual
/-- truth values as numbers -/
@[simp] def nrm : D → D
  | .bl b => .int (if b then 1 else 0)
  | .tup ds => .tup (nrms ds)
  | .lst ds => .lst (nrms ds)
  | .non => .non
  | .int i => .int i
  | .str s => .str s
  | .ref a => .ref a
  | .ty n => .ty n
@[simp] def nrms : List D → List D
  | [] => []
  | d :: ds => nrm d :: nrms ds
end
mutual
@[simp] def okD : D → Bool
  | .ref _ => false
  | .ty _ => false
  | .tup ds => okDs ds
  | .lst ds => okDs ds
  | .str x => PyData.strOk x
  | _ => true
@[simp] def okDs : List D → Bool
  | [] => true
  | d :: ds => okD d && okDs ds
end
mutual
@[simp] def depD : D → Nat
  | .tup ds => depDs ds + 1
  | .lst ds => depDs ds + 1
  | _ => 0
@[simp] def depDs : List D → Nat
  | [] => 0
  | d :: ds => max (depD d) (depDs ds)
end
mutual
theorem okD_pd : ∀ {d : D}, okD d = true → ∃ p, pd0 d = some p ∧ p.canLay0 = true ∧ p.depth = depD d
  | .non, _ => ⟨_, rfl, by simp [PyData.canLay0], by simp [PyData.depth]⟩
  | .bl _, _ => ⟨_, rfl, by simp [PyData.canLay0], by simp [PyData.depth]⟩
  | .int _, _ => ⟨_, rfl, by simp [PyData.canLay0], by simp [PyData.depth]⟩
  | .str x, h => ⟨_, rfl, by simpa [PyData.canLay0] using h, by simp [PyData.depth]⟩
  | .tup ds, h => by
    obtain ⟨ps, e, c, l⟩ := okDs_pd (show okDs ds = true from h)
    exact ⟨.tuple ps, by simp [pd0, e], by simpa [PyData.canLay0] using c, by simp [PyData.depth, l]⟩
  | .lst ds, h => by
    obtain ⟨ps, e, c, l⟩ := okDs_pd (show okDs ds = true from h)
    exact ⟨.list ps, by simp [pd0, e], by simpa [PyData.canLay0] using c, by simp [PyData.depth, l]⟩
  | .ref _, h => by cases h
  | .ty _, h => by cases h
theorem okDs_pd : ∀ {ds : List D}, okDs ds = true → ∃ ps, pds ds = some ps ∧ PyData.canLayAll0 ps = true ∧ PyData.depthAll ps = depDs ds
  | [], _ => ⟨[], rfl, by simp [PyData.canLayAll0], by simp [PyData.depthAll]⟩
  | d :: ds, h => by
    obtain ⟨h1, h2⟩ := Bool.and_eq_true_iff.mp (show (okD d && okDs ds) = true from h)
    obtain ⟨p, e, c, l⟩ := okD_pd h1
    obtain ⟨ps, e', c', l'⟩ := okDs_pd h2
    exact ⟨p :: ps, by simp [pds, e, e'], by simp [PyData.canLayAll0, c, c'], by simp [PyData.depthAll, l, l']⟩
end
theorem nrms_inj {ds es : List D} (d e : D) : (nrm d :: nrms ds = nrm e :: nrms es) ↔ nrm d = nrm e ∧ nrms ds = nrms es := by simp
theorem ite01 (a b : Bool) : (a == b) = decide (D.int (if a = true then 1 else 0) = D.int (if b = true then 1 else 0)) := by cases a <;> cases b <;> simp
mutual
theorem eqv_nrm : ∀ {x y : D} {p q : PyData}, pd0 x = some p → pd0 y = some q → PyData.eqv p q = decide (nrm x = nrm y)
  | .non, y, p, q, hp, hq => by
    cases y <;> simp only [pd0, Option.some.injEq, Option.map_eq_some_iff, reduceCtorEq] at hp hq
    all_goals first
      | (subst hp; subst hq; simp [PyData.eqv, Bool.beq_eq_decide_eq]; done)
      | (subst hp; obtain ⟨qs, _, rfl⟩ := hq; simp [PyData.eqv]; done)
  | .bl a, y, p, q, hp, hq => by
    cases y <;> simp only [pd0, Option.some.injEq, Option.map_eq_some_iff, reduceCtorEq] at hp hq
    all_goals first
      | (subst hp; subst hq; simp only [PyData.eqv, nrm]; exact ite01 _ _)
      | (subst hp; subst hq; simp [PyData.eqv, Bool.beq_eq_decide_eq]; done)
      | (subst hp; obtain ⟨qs, _, rfl⟩ := hq; simp [PyData.eqv]; done)
  | .int a, y, p, q, hp, hq => by
    cases y <;> simp only [pd0, Option.some.injEq, Option.map_eq_some_iff, reduceCtorEq] at hp hq
    all_goals first
      | (subst hp; subst hq; simp [PyData.eqv, Bool.beq_eq_decide_eq]; done)
      | (subst hp; obtain ⟨qs, _, rfl⟩ := hq; simp [PyData.eqv]; done)
  | .str a, y, p, q, hp, hq => by
    cases y <;> simp only [pd0, Option.some.injEq, Option.map_eq_some_iff, reduceCtorEq] at hp hq
    all_goals first
      | (subst hp; subst hq; simp [PyData.eqv, Bool.beq_eq_decide_eq]; done)
      | (subst hp; obtain ⟨qs, _, rfl⟩ := hq; simp [PyData.eqv]; done)
  | .ref a, y, p, q, hp, hq => by cases hp
  | .ty a, y, p, q, hp, hq => by cases hp
  | .tup ds, y, p, q, hp, hq => by
    simp only [pd0, Option.map_eq_some_iff] at hp
    obtain ⟨ps, h1, rfl⟩ := hp
    cases y <;> simp only [pd0, Option.some.injEq, Option.map_eq_some_iff, reduceCtorEq] at hq
    all_goals first
      | (subst hq; simp [PyData.eqv]; done)
      | (obtain ⟨qs, h2, rfl⟩ := hq; simp only [PyData.eqv, eqvs_nrm h1 h2, nrm, D.tup.injEq]; done)
      | (obtain ⟨qs, h2, rfl⟩ := hq; simp [PyData.eqv]; done)
  | .lst ds, y, p, q, hp, hq => by
    simp only [pd0, Option.map_eq_some_iff] at hp
    obtain ⟨ps, h1, rfl⟩ := hp
    cases y <;> simp only [pd0, Option.some.injEq, Option.map_eq_some_iff, reduceCtorEq] at hq
    all_goals first
      | (subst hq; simp [PyData.eqv]; done)
      | (obtain ⟨qs, h2, rfl⟩ := hq; simp only [PyData.eqv, eqvs_nrm h1 h2, nrm, D.lst.injEq]; done)
      | (obtain ⟨qs, h2, rfl⟩ := hq; simp [PyData.eqv]; done)
theorem eqvs_nrm : ∀ {ds es : List D} {ps qs : List PyData}, pds ds = some ps → pds es = some qs → PyData.eqvAll ps qs = decide (nrms ds = nrms es)
  | [], [], _, _, h1, h2 => by cases h1; cases h2; simp [PyData.eqvAll]
  | [], e :: es, _, _, h1, h2 => by
    cases h1
    simp only [pds, Option.bind_eq_some_iff, Option.map_eq_some_iff] at h2
    obtain ⟨q, _, qs, _, rfl⟩ := h2
    simp [PyData.eqvAll]
  | d :: ds, [], _, _, h1, h2 => by
    cases h2
    simp only [pds, Option.bind_eq_some_iff, Option.map_eq_some_iff] at h1
    obtain ⟨q, _, qs, _, rfl⟩ := h1
    simp [PyData.eqvAll]
  | d :: ds, e :: es, _, _, h1, h2 => by
    simp only [pds, Option.bind_eq_some_iff, Option.map_eq_some_iff] at h1 h2
    obtain ⟨p, hp, ps, hps, rfl⟩ := h1
    obtain ⟨q, hq, qs, hqs, rfl⟩ := h2
    rw [PyData.eqvAll, eqv_nrm hp hq, eqvs_nrm hps hqs]
    simp
end
end WF

open PySem L2
set_option Elab.async false
set_option linter.all false
set_option maxRecDepth 100000
set_option maxHeartbeats 1000000
namespace WF
open PySem PySem.Spec PyProof.Rows L2 RT
section
variable {prog : Program} {w : World} {A : Around} {E : Value → Shared → Prop} {s : Shared}
theorem list_init_rev {R : Result → Shared → Prop} {it l S : Addr} {items : Array Value} (hh : A.handled = none) (hit : s.heap.IsRevIter it l ((items.size : Int) - 1)) (hl : s.heap.IsList l items) (hne : l ≠ it) (hn : items.size ≤ sizeLine)
    (hSi : S ≠ it) (hSl : S ≠ l) (hS : s.heap.get? S = some { cls := .type "list", data := .seq #[] })
    (hR : ∀ (h' : Heap) (tk : Nat) (acc : Array Value) (c' : Nat), (∀ b o, b ≠ it → b ≠ S → s.heap.get? b = some o → h'.get? b = some o) → h'.get? S = some { cls := .type "list", dict := none, data := .seq acc c', slots := #[] } → ItemsOf (fun i v => items[items.size - 1 - i]? = some v) acc items.size → R (.ok (.ret .none)) { s with heap := h', toks := tk }) :
    wpAny (model prog w) A.in1 (Builtin.«list.__init__» ⟨[.ref S, .ref it], []⟩)
      (fun fin s' => match fin with | .done f => R (.ok f) s' | .again c' => c'.quiet = true ∧ codeAny (model prog w) A c' R s') (fun e s' => R (.error e) s') s := by
  have W := (Walks.listRev (prog := prog) (w := w) (A := A.in1) hh it l hne items).toS
  have hSf : S ∉ [it, l] := by simp only [List.mem_cons, List.not_mem_nil, or_false, not_or]; exact ⟨hSi, hSl⟩
  show wpAny _ A.in1 (do let old ← Builtin.List.listItems (.ref S); Builtin.List.listUpdate (.ref S) (fun _ => #[]); letGo old.toList.reverse; Builtin.List.listExtendWith (.ref S) (.ref it) .none) _ _ s
  refine wpAny_bind ?_
  unfold Builtin.List.listItems
  refine wpAny_bind (wpAny_seqItems hS rfl (wpAny_pure ?_))
  show wpAny _ A.in1 (updateSeq S (fun _ => #[]) >>= fun _ => letGo (#[] : Array Value).toList.reverse >>= fun _ => Builtin.List.listExtendWith (.ref S) (.ref it) .none) _ _ s
  refine wpAny_bind (wpAny_updateSeq hS rfl ?_)
  have hS₂ := Heap.get?_update_self (Obj.mapSeq (fun _ => (#[] : Array Value))) hS rfl
  have oth : ∀ b o, b ≠ S → s.heap.get? b = some o → (s.heap.update S (Obj.mapSeq (fun _ => (#[] : Array Value)))).get? b = some o :=
    fun b o hb e => (Heap.get?_update_other _ _ (Ne.symm hb)).trans e
  refine wpAny_bind (wpAny_letGo ?_)
  generalize hg : s.heap.update S (Obj.mapSeq (fun _ => (#[] : Array Value))) = h1 at *
  have hit1 : h1.IsRevIter it l ((items.size : Int) - 1) := hit.at fun o e => oth it o (Ne.symm hSi) e
  have hl1 : h1.IsList l items := hl.at fun o e => oth l o (Ne.symm hSl) e
  have hT : ({ s with heap := h1 } : Shared).TypeIs (.ref it) "list_reverseiterator" := Heap.IsRevIter.typeIs (s := { s with heap := h1 }) hit1
  have h2 : Builtin.List.listSameRef (.ref S) (.ref it) = false := by simp [Builtin.List.listSameRef, hSi]
  unfold Builtin.List.listExtendWith
  refine wpAny_bind (wpAny_typeOf hT ?_)
  rw [if_neg (by rw [h2]; decide)]
  refine wpAny_bind (wpAny_pyIter_revIter (s := { s with heap := h1 }) hit1 ?_)
  refine wpAny_bind (wpAny_holding ?_)
  unfold Builtin.List.listLengthHint
  refine wpAny_bind (wpAny_specialOf hT nolen_lri ?_)
  show wpAny _ A.in1 (specialOf (Value.ref it) (Str.ofString "__length_hint__") >>= _) _ _ _
  refine wpAny_bind (wpAny_specialOf hT hint_lri ?_)
  generalize hid : ("list_reverseiterator.__length_hint__" : String) = id0
  wp_delta
  rw [show splitId id0 = some ("list_reverseiterator", "__length_hint__") from by subst hid; decide +kernel]
  subst hid
  refine wpAny_bind (wpAny_isInstance (b := true) hT (by rw [isSubtype_type]; kernel_rfl) ?_)
  refine wpAny_pure ?_
  rw [if_neg (by decide)]
  have e0 : ((items.size : Nat) : Int) - 1 - ((0 : Nat) : Int) = (items.size : Int) - 1 := by omega
  refine wpAny_pure ⟨plainId_quiet F.plain_extend_loop _, codeAny_extend_loopS W hn _ hSf _ items.size 0 _ _ _ rfl (Nat.zero_le _) ⟨Nat.zero_le _, by rw [e0]; exact hit1, hl1⟩ hS₂ (ItemsOf.nil _) fun s' acc' c' hm hS' hacc => ?_⟩
  rw [Moved.eq_with hm]
  refine hR s'.heap s'.toks acc' c' (fun b o hb hb2 e => hm.heap b o (fun hmem => ?_) (oth b o hb2 e)) hS' hacc
  rcases List.mem_cons.mp hmem with e' | hmem
  · exact hb2 e'
  · exact hb (List.mem_singleton.mp hmem)
theorem call_list_rev {it l : Addr} {items : Array Value} {Q : Value → Shared → Prop} (hh : A.handled = none) (hit : s.heap.IsRevIter it l ((items.size : Int) - 1)) (hl : s.heap.IsList l items) (hne : l ≠ it) (hn : items.size ≤ sizeLine)
    (hQ : ∀ (h' : Heap) (tk : Nat) (acc : Array Value) (c' : Nat), (∀ b o, b ≠ it → s.heap.get? b = some o → h'.get? b = some o) → h'.get? s.heap.objs.size = some { cls := .type "list", dict := none, data := .seq acc c', slots := #[] } → ItemsOf (fun i v => items[items.size - 1 - i]? = some v) acc items.size →
      Q (.ref s.heap.objs.size) { s with heap := h', toks := tk }) :
    wpAny (model prog w) A (call (.type "list") [.ref it]) Q E s := by
  obtain ⟨oi, hoi, _⟩ := id hit
  obtain ⟨ol, hol, _⟩ := id hl
  refine callType_codes (Q₁ := fun obj s₁ => obj = .ref s.heap.objs.size ∧ s₁ = { s with heap := s.heap.push { cls := .type "list", data := .seq #[] } }) F.called_list (F.typeCall_list_1 _) F.entry_list_init
    (code_list_new _ ⟨rfl, rfl⟩) fun obj s₁ h₁ => ?_
  obtain ⟨rfl, rfl⟩ := h₁
  have hS : (s.heap.push { cls := .type "list", data := .seq #[] }).get? s.heap.objs.size = some { cls := .type "list", data := .seq #[] } := Heap.get?_push_size _ rfl
  refine ⟨⟨_, hS, rfl⟩, F.args_list_init_2 _ _, list_init_rev (A := A.in1) hh (hit.at fun o e => Heap.get?_push_of_some _ e) (hl.push _) hne hn (Nat.ne_of_gt (Heap.lt_size hoi)) (Nat.ne_of_gt (Heap.lt_size hol)) hS fun h' tk acc c' k hS' hacc => ?_⟩
  exact ⟨rfl, hQ h' tk acc c' (fun b o hb e => k b o hb (Nat.ne_of_lt (Heap.lt_size e)) (Heap.get?_push_of_some _ e)) hS' hacc⟩
end
/-- list(reversed(x)), tuple(reversed(x)), x a list -/
def tLstRev (K : PySem.W.Frag) (te : TE) : TE := fun σ H Q => te σ H fun v H1 => ∃ (a : Addr) (xs : List V), v = .ref a ∧ SqL K H1 a xs ∧ ∀ q, H1 q = none → Q (.ref q) (upd H1 q (.lst xs.reverse))
section
variable {X : Cx}
theorem pe_lstRev {e : Expr} {te : TE} {p p2 pos pos2 : Pos} (hc : X.calm = true) (hg : Gl X "list") (hm : X.mg "list" = none) (hg2 : Gl X "reversed") (hm2 : X.mg "reversed" = none) (he : PE X e te)
    (hs : starEach [e] X.env = (false, eval e X.env) :: starEach [] X.env)
    (hs2 : starEach [.Call (.Name "reversed" p2) [e] [] pos2] X.env = (false, eval (.Call (.Name "reversed" p2) [e] [] pos2) X.env) :: starEach [] X.env := by rfl) :
    PE X (.Call (.Name "list" p) [.Call (.Name "reversed" p2) [e] [] pos2] [] pos) (tLstRev X.K te) := by
  refine ⟨fun pins s σ H Q I h => ?_⟩
  refine Call_ (ld_blt I hg hm (show bootBuiltins ("list" : Str) = some (.type "list") by decide +kernel) (PyProof.Rows.callWith_type1 (args_cons (Call_ (ld_blt I hg2 hm2 PyProof.Rows.boot_reversed (PyProof.Rows.callWith_type1 (args_cons (thn (he.run pins s σ H _ I h) fun u s1 ⟨v, H1, I1, r1, q1⟩ => args_nil ?_) hs) hs rfl))) hs2) hs2 rfl))
  obtain ⟨a, xs, ev, hq, q⟩ := q1
  subst ev
  obtain rfl : u = Value.ref a := r1
  obtain ⟨its, rv, p', hz⟩ := I1.list hq
  refine call_reversed_list p'.isList (args_nil ?_)
  have k0 : ∀ b o, s1.heap.get? b = some o → (s1.heap.push (revObj a ((its.toArray.size : Int) - 1))).get? b = some o := fun b o e => Heap.get?_push_of_some _ e
  have I2 : Inv X pins σ H1 { s1 with heap := s1.heap.push (revObj a ((its.toArray.size : Int) - 1)) } := I1.kept (t' := s1.toks) k0
  have F0 := I1.fpOk (H' := H1) (b := s1.heap.objs.size) (Nat.le_refl _) (I1.hok.fresh (Nat.le_refl _))
  have hl := p'.isList
  obtain ⟨ol, hol, _⟩ := id hl
  have hne : a ≠ s1.heap.objs.size := Nat.ne_of_lt (Heap.lt_size hol)
  have hn : its.toArray.size ≤ sizeLine := by rw [List.size_toArray, ← rv.length]; exact hz
  have hsz : (s1.heap.push (revObj a ((its.toArray.size : Int) - 1))).objs.size = s1.heap.objs.size + 1 := Heap.size_push ..
  refine call_list_rev (s := { s1 with heap := s1.heap.push (revObj a ((its.toArray.size : Int) - 1)) }) (I1.ok.hd hc) ⟨_, Heap.get?_push_size _ rfl, rfl, rfl⟩ (hl.push _) hne hn fun h' tk acc c' hk hS' hi => ?_
  have new : ObjOk X.prog X.w (upd H1 (s1.heap.push (revObj a ((its.toArray.size : Int) - 1))).objs.size (.lst xs.reverse)) h' (s1.heap.push (revObj a ((its.toArray.size : Int) - 1))).objs.size (.lst xs.reverse) :=
    ⟨by rw [List.length_reverse]; exact hz, acc.toList, c', vals_rev rv hi, by rw [Array.toArray_toList]; exact hS'⟩
  have I3 : Inv X pins σ (upd H1 (s1.heap.push (revObj a ((its.toArray.size : Int) - 1))).objs.size (.lst xs.reverse)) { s1 with heap := h', toks := tk } :=
    I2.turnedNew (ch := [s1.heap.objs.size]) (fun b o hb e => hk b o (fun z => hb (by simp [z])) e) (fun b hb => by
      rcases List.mem_singleton.mp hb with rfl
      exact F0) (Nat.le_refl _) new
  exact ⟨.ref _, _, I3, rfl, q _ (I2.hok.fresh (Nat.le_refl _))⟩
end
/-! ## the same over data -/
def aRvd (m lst : Bool) (te : ATE) : ATE := fun σ h Q => te σ h fun x h1 => ∃ ds, seqL h1 x = some ds ∧ match lst with
  | true => newL m ds.reverse h1 Q
  | false => Q (.tup ds.reverse) h1
section
variable {X : Cx} {e : Expr} {te : ATE} {p p2 pos pos2 : Pos}
theorem rvd_mon {m lst : Bool} (he : MonE te) : MonE (aRvd m lst te) := fun σ h Q Q' w q => he _ _ _ _ (fun x h1 ⟨ds, e1, q1⟩ => ⟨ds, e1, by
  cases lst with
  | true => exact newL_mono w q1
  | false => exact w _ _ q1⟩) q
theorem ae_lstRev {m : Bool} (hc : X.calm = true) (hg : Gl X "list") (hm : X.mg "list" = none) (hg2 : Gl X "reversed") (hm2 : X.mg "reversed" = none) (he : AE X e te) (hs : starEach [e] X.env = (false, eval e X.env) :: starEach [] X.env) :
    AE X (.Call (.Name "list" p) [.Call (.Name "reversed" p2) [e] [] pos2] [] pos) (aRvd m true te) := by
  refine ⟨rvd_mon he.mon, pe_weak (pe_lstRev hc hg hm hg2 hm2 he.run hs) ?_⟩
  rintro σ H Q ⟨Z, σa, h, rs, R, q⟩
  refine ⟨Z, σa, h, rs, R, he.mon _ _ _ _ (fun x h1 ⟨ds, e1, q1⟩ => ?_) q⟩
  intro v H1 r1 R1 k1
  obtain ⟨a, xs, rfl, hs, r⟩ := seqL_ok R1 r1 e1
  exact ⟨a, xs, rfl, hs, fun p n => EndE.new (newL_mono (fun d h' e => e.mono k1) q1) r.reverse R1 n⟩
theorem ae_tupRev {m : Bool} (hc : X.calm = true) (hg : Gl X "tuple") (hm : X.mg "tuple" = none) (hg2 : Gl X "reversed") (hm2 : X.mg "reversed" = none) (he : AE X e te) (hs : starEach [e] X.env = (false, eval e X.env) :: starEach [] X.env) :
    AE X (.Call (.Name "tuple" p) [.Call (.Name "reversed" p2) [e] [] pos2] [] pos) (aRvd m false te) := by
  refine ⟨rvd_mon he.mon, pe_weak (pe_tupRev hc hg hm hg2 hm2 he.run hs) ?_⟩
  rintro σ H Q ⟨Z, σa, h, rs, R, q⟩
  refine ⟨Z, σa, h, rs, R, he.mon _ _ _ _ (fun x h1 ⟨ds, e1, q1⟩ => ?_) q⟩
  intro v H1 r1 R1 k1
  obtain ⟨a, xs, rfl, hs, r⟩ := seqL_ok R1 r1 e1
  exact ⟨a, xs, rfl, hs, fun p n => EndE.tup (EndE.mono k1 q1) r.reverse R1 n⟩
end
end WF

open PySem L2
set_option Elab.async false
set_option linter.all false
set_option maxRecDepth 100000
set_option maxHeartbeats 1000000
/-! # part 7e: lcm, in, count, index, insert, extend -/
namespace WF
open PySem PySem.Spec PyProof.Rows L2
section
variable {X : Cx}
/-! ## lcm -/
def LcmOk (i j : Int) : Prop := i.natAbs.log2 < 13000 ∧ j.natAbs.log2 < 13000
theorem log_lt {n k : Nat} (h : n.log2 < k) : n < 2 ^ k := by
  by_cases z : n = 0
  · subst z; exact Nat.two_pow_pos k
  · exact (Nat.log2_lt z).mp h
theorem cr_lcm : CallR X (.builtin "math.lcm") (fun vs H Q => ∃ a b : Int, vs = [.int a, .int b] ∧ LcmOk a b ∧ Q (.int ((Nat.lcm a.natAbs b.natAbs : Nat) : Int)) H) := by
  intro pins s σ H vs us Q I r h
  obtain ⟨a, b, rfl, ⟨h1, h2⟩, q⟩ := h
  obtain ⟨t, u, rfl⟩ := Vals.int2 r
  have l1 := log_lt h1
  have l2 := log_lt h2
  have big : 1 < 2 ^ 13000 := Nat.one_lt_two_pow (by decide)
  have m1 : (max 1 a.natAbs).log2 < 13000 := by
    by_cases z : a.natAbs = 0
    · rw [z]; decide
    · exact (Nat.log2_lt (by omega)).mpr (by omega)
  have m2 : (max a.natAbs b.natAbs).log2 < 13000 := by
    by_cases z : max a.natAbs b.natAbs = 0
    · rw [z]; decide
    · exact (Nat.log2_lt z).mpr (by omega)
  have e1 : Nat.lcm 1 a.natAbs = a.natAbs := Nat.lcm_one_left _
  have hsz : ((((Nat.lcm 1 a.natAbs).lcm b.natAbs : Nat) : Int)).natAbs.log2 < bitsLine := by
    rw [e1, Int.natAbs_natCast]
    by_cases z : a.natAbs.lcm b.natAbs = 0
    · rw [z]; decide
    · refine Nat.lt_of_lt_of_le ((Nat.log2_lt z).mpr (?_ : _ < 2 ^ 26000)) (by decide)
      have : a.natAbs.lcm b.natAbs ≤ a.natAbs * b.natAbs := by
        unfold Nat.lcm
        exact Nat.div_le_self _ _
      refine Nat.lt_of_le_of_lt this ?_
      rw [show (26000 : Nat) = 13000 + 13000 from rfl, Nat.pow_add]
      exact Nat.mul_lt_mul'' l1 l2
  refine call_function_meets PySem.W.MGF.kind_lcm PySem.W.MGF.plain_lcm PySem.W.MGF.entry_lcm (PySem.W.MGF.args_lcm _ _) (PySem.W.mg_run_lcm a t b u (by omega) (by omega) hsz).meets ?_
  rw [e1]
  exact ⟨.int _, H, I.tok _, ⟨_, rfl⟩, q⟩
def nLcm : ARn := fun xs h Q => match xs with
  | [.int i, .int j] => LcmOk i j ∧ Q (.int ((Nat.lcm i.natAbs j.natAbs : Nat) : Int)) h
  | _ => False
theorem b_lcm : ACall X (.builtin "math.lcm") nLcm := by
  refine ⟨fun xs h Q Q' w q => ?_, fun Z xs h H vs Q rs R q => ?_⟩
  · unfold nLcm at q ⊢
    split at q
    · exact ⟨q.1, w _ _ q.2⟩
    · exact q.elim
  · unfold nLcm at q
    split at q
    · rename_i i j
      obtain ⟨v, u, rfl, ra, rb⟩ := rs.two_of
      cases ra
      cases rb
      exact ⟨_, cr_lcm, i, j, rfl, q.1, EndE.fin q.2 rfl R⟩
    · exact q.elim
/-! ## in -/
/-- x is one of ds -/
noncomputable def inD (x : D) (ds : List D) : Bool := ds.any fun z => decide (nrm z = nrm x)
def OkIn (x : D) (ds : List D) : Prop := okD x = true ∧ okDs ds = true ∧ depD x ≤ 60 ∧ depDs ds ≤ 60
def sIn (neg : Bool) : AR2 := fun x y h Q => ∃ ds, seqA h y = some ds ∧ OkIn x ds ∧ Q (.bl (if neg then !inD x ds else inD x ds)) h
theorem any_inD {x : D} {p : PyData} (hx : pd0 x = some p) : ∀ {ds : List D} {ps : List PyData}, pds ds = some ps → (ps.any fun z => PyData.eqv z p) = inD x ds
  | [], _, h => by cases h; rfl
  | d :: ds, _, h => by
    simp only [pds, Option.bind_eq_some_iff, Option.map_eq_some_iff] at h
    obtain ⟨q, hq, qs, hqs, rfl⟩ := h
    simp only [inD, List.any_cons]
    rw [eqv_nrm hq hx, any_inD hx hqs]
    rfl
theorem op_inDT (hu : X.A.units + 65 < cLine) : OpR X (compareOp .In) (fun x y H Q => ∃ d ds, Dp X.K H x d ∧ Dp X.K H y (.tuple ds) ∧ SeqAt.shaped d = true ∧ SeqAt.shaped (.list ds) = true ∧ Q (.bl (ds.any fun z => PyData.eqv z d)) H) := by
  intro pins s σ H x y v u Q I rx ry h
  obtain ⟨d, ds, hd, he, sd, se, q⟩ := h
  obtain ⟨as, r1⟩ := Dp.reads I d x v hd rx
  obtain ⟨bs, r2⟩ := Dp.reads I (.tuple ds) y u he ry
  exact SeqAt.in_tuple_reads r2 r1 (SeqAt.canLay_of_shaped se) (SeqAt.canLay_of_shaped sd) (room_in_shaped sd hu) ⟨.bl _, H, I, rfl, q⟩
theorem op_notInDT (hu : X.A.units + 65 < cLine) : OpR X (compareOp .NotIn) (fun x y H Q => ∃ d ds, Dp X.K H x d ∧ Dp X.K H y (.tuple ds) ∧ SeqAt.shaped d = true ∧ SeqAt.shaped (.list ds) = true ∧ Q (.bl (!ds.any fun z => PyData.eqv z d)) H) := by
  intro pins s σ H x y v u Q I rx ry h
  obtain ⟨d, ds, hd, he, sd, se, q⟩ := h
  obtain ⟨as, r1⟩ := Dp.reads I d x v hd rx
  obtain ⟨bs, r2⟩ := Dp.reads I (.tuple ds) y u he ry
  exact SeqAt.notIn_tuple_reads r2 r1 (SeqAt.canLay_of_shaped se) (SeqAt.canLay_of_shaped sd) (room_in_shaped sd hu) ⟨.bl _, H, I, rfl, q⟩
theorem shaped_of {x : D} {p : PyData} (c : p.canLay0 = true) (l : p.depth ≤ 60) : SeqAt.shaped p = true := by
  unfold SeqAt.shaped
  rw [c, Bool.true_and]
  exact decide_eq_true (by omega)
theorem shaped_lst {ps : List PyData} (c : PyData.canLayAll0 ps = true) (l : PyData.depthAll ps ≤ 60) : SeqAt.shaped (.list ps) = true := by
  unfold SeqAt.shaped
  simp only [PyData.canLay0, PyData.depth, c, Bool.true_and, decide_eq_true_eq]
  exact decide_eq_true (by omega)
/-- a seq's data -/
theorem seq_dp {K : PySem.W.Frag} {Z : List Addr} {h : AH} {H : Hp} (R : RH K Z h H) {y : D} {v : V} {ds : List D} {ps : List PyData} (r : RD K Z h H y v) (e : seqA h y = some ds) (q : pds ds = some ps) : Dp K H v (.list ps) ∨ Dp K H v (.tuple ps) := by
  obtain ⟨a, xs, rfl, hs, r⟩ := seqA_ok R r e
  rcases hs with hs | hs
  · exact .inl (.lst hs (pds_ok R r q))
  · exact .inr (.tup hs (pds_ok R r q))
theorem o_in (hu : X.A.units + 65 < cLine) : AOp X (compareOp .In) (sIn false) := by
  refine ⟨fun x y h Q Q' w ⟨ds, e, o, q⟩ => ⟨ds, e, o, w _ _ q⟩, fun Z x y h H vx vy Q rx ry R ⟨ds, e, ⟨o1, o2, d1, d2⟩, q⟩ => ?_⟩
  obtain ⟨p, hp, cp, dp⟩ := okD_pd o1
  obtain ⟨ps, hps, cps, dps⟩ := okDs_pd o2
  have q' := EndE.fin (show EndE X.K Z h H Q (.bl (inD x ds)) h from q) rfl R
  rw [← any_inD hp hps] at q'
  rcases seq_dp R ry e hps with s | s
  · exact ⟨_, op_inD hu, p, ps, pd0_ok R rx hp, s, shaped_of (x := x) cp (by omega), shaped_lst cps (by omega), q'⟩
  · exact ⟨_, op_inDT hu, p, ps, pd0_ok R rx hp, s, shaped_of (x := x) cp (by omega), shaped_lst cps (by omega), q'⟩
theorem o_notIn (hu : X.A.units + 65 < cLine) : AOp X (compareOp .NotIn) (sIn true) := by
  refine ⟨fun x y h Q Q' w ⟨ds, e, o, q⟩ => ⟨ds, e, o, w _ _ q⟩, fun Z x y h H vx vy Q rx ry R ⟨ds, e, ⟨o1, o2, d1, d2⟩, q⟩ => ?_⟩
  obtain ⟨p, hp, cp, dp⟩ := okD_pd o1
  obtain ⟨ps, hps, cps, dps⟩ := okDs_pd o2
  have q' := EndE.fin (show EndE X.K Z h H Q (.bl (!inD x ds)) h from q) rfl R
  rw [← any_inD hp hps] at q'
  rcases seq_dp R ry e hps with s | s
  · exact ⟨_, op_notInD hu, p, ps, pd0_ok R rx hp, s, shaped_of (x := x) cp (by omega), shaped_lst cps (by omega), q'⟩
  · exact ⟨_, op_notInDT hu, p, ps, pd0_ok R rx hp, s, shaped_of (x := x) cp (by omega), shaped_lst cps (by omega), q'⟩
end
/-! ## methods -/
section
variable {X : Cx}
noncomputable def countD (x : D) (ds : List D) : Nat := ds.countP fun z => decide (nrm z = nrm x)
theorem count_countD {x : D} {p : PyData} (hx : pd0 x = some p) : ∀ {ds : List D} {ps : List PyData}, pds ds = some ps → (ps.countP fun z => PyData.eqv z p) = countD x ds
  | [], _, h => by cases h; rfl
  | d :: ds, _, h => by
    simp only [pds, Option.bind_eq_some_iff, Option.map_eq_some_iff] at h
    obtain ⟨q, hq, qs, hqs, rfl⟩ := h
    have := count_countD hx hqs
    simp only [countD, List.countP_cons] at this ⊢
    rw [eqv_nrm hq hx, this]
/-- data of a list, as the machine reads it -/
theorem list_reads {pins : List (Addr × Obj)} {σ : L2.St} {H : Hp} {s : Shared} {K : PySem.W.Frag} {Z : List Addr} {h : AH} (I : Inv X pins σ H s) (hK : K = X.K) (R : RH X.K Z h H) {x : D} {a : Addr} {ds : List D} {ps : List PyData} (r : RD X.K Z h H x (.ref a)) (e : seqL h x = some ds) (q : pds ds = some ps) :
    ∃ (its : List Value) (as : List Addr) (xs : List V), SqL X.K H a xs ∧ Vals xs its ∧ PlainL s.heap a its.toArray ∧ ReadsAll s.heap its.toArray.toList ps as := by
  obtain ⟨b, xs, e1, hs, r1⟩ := seqL_ok R r e
  cases e1
  obtain ⟨its, rv, pl, hz⟩ := I.list hs
  obtain ⟨as, h4⟩ := Dp.readsAll I ps xs its (pds_ok R r1 q) rv
  exact ⟨its, as, xs, hs, rv, pl, by simpa using h4⟩
/-- l.count(x) -/
def mCount : AMt := fun x xs h Q => ∃ ds y, seqL h x = some ds ∧ xs = [y] ∧ OkIn y ds ∧ Q (.int (countD y ds)) h
theorem m_count (hu : X.A.units + 65 < cLine) : AMe X "list.count" mCount := by
  refine ⟨fun x xs h Q Q' w ⟨ds, y, e1, e2, o, q⟩ => ⟨ds, y, e1, e2, o, w _ _ q⟩, fun Z x xs h H vx vs Q rx rs R ⟨ds, y, e1, e2, ⟨o1, o2, d1, d2⟩, q⟩ => ?_⟩
  subst e2
  obtain ⟨p, hp, cp, dp⟩ := okD_pd o1
  obtain ⟨ps, hps, cps, dps⟩ := okDs_pd o2
  obtain ⟨v0, rfl, rv0⟩ := rs.one_of
  have q' := EndE.fin q rfl R
  obtain ⟨a, _, rfl, _, _⟩ := seqL_ok R rx e1
  refine ⟨fun x' xs' H' Q' => H' = H ∧ x' = .ref a ∧ xs' = [v0] ∧ Q' (.int (countD y ds)) H, ?_, rfl, rfl, rfl, q'⟩
  intro pins s σ H' x' xs' v us Q' I r1 r2 hh
  obtain ⟨rfl, rfl, rfl, q2⟩ := hh
  cases r1
  obtain ⟨u, rfl, ru⟩ := vals1 r2
  obtain ⟨its, as, zs, _, _, ⟨⟨cls, dd, data, sl⟩, n, ho, hc, hdn, hdt⟩, h4⟩ := list_reads (K := X.K) I rfl R rx e1 hps
  simp only at hc hdn hdt
  subst hc hdn hdt
  obtain ⟨bs, r1⟩ := Dp.reads I p v0 u (pd0_ok R rv0 hp) ru
  have hroom : X.A.units + 1 + min (PyData.depthAll ps) p.depth < cLine := room_in_shaped (shaped_of (x := y) cp (by omega)) hu
  refine call_meets PySem.F.slot_list_count ⟨_, ho, rfl⟩ PySem.F.entry_list_count (PySem.F.args_list_count_2 _ _) (SeqAt.list_countAt a its.toArray n _ sl u _) ⟨ho, SeqAt.items_eqAt h4 r1 cps cp hroom, ?_⟩
  have e : its.toArray.toList.countP (fun z => PyData.eqv (SeqAt.readOf s.heap z) p) = countD y ds := by
    rw [← count_countD hp hps, ← SeqAt.readsAll_map ps _ _ cps h4, List.countP_map]
    rfl
  rw [e]
  exact ⟨.int _, H', I.tok _, ⟨_, rfl⟩, q2⟩
/-- l.index(x), x in l -/
noncomputable def indexD (x : D) (ds : List D) : Option Nat := ds.findIdx? fun z => decide (nrm z = nrm x)
def mIndex : AMt := fun x xs h Q => ∃ ds y j, seqL h x = some ds ∧ xs = [y] ∧ OkIn y ds ∧ indexD y ds = some j ∧ Q (.int (j : Nat)) h
theorem pds_get : ∀ {ds : List D} {ps : List PyData} {j : Nat} {d : D}, pds ds = some ps → ds[j]? = some d → ∃ p, ps[j]? = some p ∧ pd0 d = some p
  | [], _, j, d, h, e => by simp at e
  | d0 :: ds, _, 0, d, h, e => by
    simp only [pds, Option.bind_eq_some_iff, Option.map_eq_some_iff] at h
    obtain ⟨q, hq, qs, hqs, rfl⟩ := h
    simp at e
    subst e
    exact ⟨q, rfl, hq⟩
  | d0 :: ds, _, j + 1, d, h, e => by
    simp only [pds, Option.bind_eq_some_iff, Option.map_eq_some_iff] at h
    obtain ⟨q, hq, qs, hqs, rfl⟩ := h
    simpa using pds_get hqs (by simpa using e)
theorem pds_len : ∀ {ds : List D} {ps : List PyData}, pds ds = some ps → ps.length = ds.length
  | [], _, h => by cases h; rfl
  | d0 :: ds, _, h => by
    simp only [pds, Option.bind_eq_some_iff, Option.map_eq_some_iff] at h
    obtain ⟨q, hq, qs, hqs, rfl⟩ := h
    simp [pds_len hqs]
theorem m_index (hu : X.A.units + 65 < cLine) : AMe X "list.index" mIndex := by
  refine ⟨fun x xs h Q Q' w ⟨ds, y, j, e1, e2, o, ej, q⟩ => ⟨ds, y, j, e1, e2, o, ej, w _ _ q⟩, fun Z x xs h H vx vs Q rx rs R ⟨ds, y, j, e1, e2, ⟨o1, o2, d1, d2⟩, ej, q⟩ => ?_⟩
  subst e2
  obtain ⟨p, hp, cp, dp⟩ := okD_pd o1
  obtain ⟨ps, hps, cps, dps⟩ := okDs_pd o2
  obtain ⟨v0, rfl, rv0⟩ := rs.one_of
  have q' := EndE.fin q rfl R
  obtain ⟨a, xs, rfl, hsl, rr⟩ := seqL_ok R rx e1
  obtain ⟨hj, hit, hno⟩ := List.findIdx?_eq_some_iff_getElem.mp ej
  obtain ⟨z, hz, hz2⟩ := pds_get hps (List.getElem?_eq_getElem hj)
  refine ⟨_, mt_indexD hu, a, v0, p, ps, j, z, rfl, rfl, .lst hsl (pds_ok R rr hps), pd0_ok R rv0 hp, shaped_lst cps (by omega), shaped_of (x := y) cp (by omega), hz, ?_, fun m z' hm hz' => ?_, q'⟩
  · rw [eqv_nrm hz2 hp]
    exact hit
  · have hl := pds_len hps
    have hm' : m < ds.length := by omega
    obtain ⟨z2, e3, e4⟩ := pds_get hps (List.getElem?_eq_getElem hm')
    rw [e3] at hz'
    cases hz'
    rw [eqv_nrm e4 hp]
    simpa using hno m hm
/-- l.insert(i, x) -/
def mInsert : AMt := fun x xs h Q => ∃ a ds i y, x = .ref a ∧ xs = [.int i, y] ∧ h a = some ds ∧ ds.length < sizeLine ∧ (0 ≤ i ∧ i < 2 ^ 63) ∧ Q .non (h.set a (ds.take i.toNat ++ [y] ++ ds.drop i.toNat))
theorem m_insert : AMe X "list.insert" mInsert := by
  refine ⟨fun x xs h Q Q' w ⟨a, ds, i, y, e1, e2, e3, l, b, q⟩ => ⟨a, ds, i, y, e1, e2, e3, l, b, w _ _ q⟩, fun Z x xs h H vx vs Q rx rs R ⟨a, ds, i, y, e1, e2, e3, l, ⟨b1, b2⟩, q⟩ => ?_⟩
  subst e1 e2
  cases rx
  obtain ⟨v0, v1, rfl, rv0, rv1⟩ := rs.two_of
  cases rv0
  obtain ⟨us, g, r⟩ := R.at_ a ds e3
  have ne : h a ≠ none := by rw [e3]; exact fun z => (nomatch z)
  have kp : Kp h H (h.set a (ds.take i.toNat ++ [y] ++ ds.drop i.toNat)) (upd H a (.lst (us.take i.toNat ++ [v1] ++ us.drop i.toNat))) := Kp.put (.inl ne)
  exact ⟨_, mt_insert, a, us, i, v1, rfl, rfl, g, by rw [← r.length]; exact l, b1, b2, q .non _ rfl (R.put (.inl ne) (((r.take _).append (RDs.one rv1)).append (r.drop _))) kp⟩
end
end WF

open PySem L2
set_option Elab.async false
set_option linter.all false
set_option maxRecDepth 100000
set_option maxHeartbeats 2000000
/-! # part 7f: sorted of tuples of whole numbers, of sets of them -/
namespace WF
open PySem PySem.Spec PyProof.Rows L2 SrtO
def lexR : List Int → List Int → Bool
  | [], [] => false
  | [], _ :: _ => true
  | _ :: _, [] => false
  | x :: xs, y :: ys => if x = y then lexR xs ys else decide (x < y)
def lexF (fin : Bool) : List Int → List Int → Bool
  | x :: xs, y :: ys => if x = y then lexF fin xs ys else decide (x < y)
  | _, _ => fin
theorem lexF_nil {fin : Bool} : ∀ xs : List Int, lexF fin xs [] = fin
  | [] => rfl
  | _ :: _ => rfl
theorem lexF_eq : ∀ {xs ys : List Int} {fin : Bool}, fin = decide (xs.length < ys.length) → lexF fin xs ys = lexR xs ys
  | [], [], _, h => by subst h; rfl
  | [], _ :: _, _, h => by subst h; simp [lexF, lexR]
  | _ :: _, [], _, h => by subst h; simp [lexF, lexR]
  | x :: xs, y :: ys, fin, h => by
    unfold lexF lexR
    rw [lexF_eq (xs := xs) (ys := ys) (by rw [h]; simp)]
theorem lexR_asym : ∀ {xs ys : List Int}, lexR xs ys = true → lexR ys xs = false
  | [], [], h => by cases h
  | [], _ :: _, h => rfl
  | _ :: _, [], h => by cases h
  | x :: xs, y :: ys, h => by
    unfold lexR at h ⊢
    by_cases e : x = y
    · rw [if_pos e] at h
      rw [if_pos e.symm]
      exact lexR_asym h
    · rw [if_neg e] at h
      rw [if_neg (fun z => e z.symm)]
      simp at h ⊢
      omega
theorem lexR_tr : ∀ {xs ys zs : List Int}, lexR xs ys = false → lexR ys zs = false → lexR xs zs = false
  | [], [], zs, _, h => h
  | [], _ :: _, _, h, _ => by cases h
  | _ :: _, ys, [], _, _ => rfl
  | x :: xs, [], _ :: _, _, h => by cases h
  | x :: xs, y :: ys, z :: zs, h1, h2 => by
    unfold lexR at h1 h2 ⊢
    by_cases e : x = y
    · subst e
      rw [if_pos rfl] at h1
      by_cases e2 : x = z
      · subst e2
        rw [if_pos rfl] at h2 ⊢
        exact lexR_tr h1 h2
      · rw [if_neg e2] at h2 ⊢
        exact h2
    · rw [if_neg e] at h1
      simp at h1
      by_cases e2 : y = z
      · subst e2
        rw [if_neg e]
        simp
        omega
      · rw [if_neg e2] at h2
        simp at h2
        rw [if_neg (by omega)]
        simp
        omega
/-- just one order: neither before the other, then the same -/
theorem lexR_eq : ∀ {xs ys : List Int}, lexR xs ys = false → lexR ys xs = false → xs = ys
  | [], [], _, _ => rfl
  | [], _ :: _, h, _ => by cases h
  | _ :: _, [], _, h => by cases h
  | x :: xs, y :: ys, h1, h2 => by
    unfold lexR at h1 h2
    by_cases e : x = y
    · subst e
      rw [if_pos rfl] at h1 h2
      rw [lexR_eq h1 h2]
    · rw [if_neg e] at h1
      rw [if_neg (fun z => e z.symm)] at h2
      simp at h1 h2
      omega
theorem swo_lexR {α : Type} (k : α → List Int) : Swo fun v u => lexR (k v) (k u) := ⟨fun _ _ h => lexR_asym h, fun _ _ _ h1 h2 => lexR_tr h2 h1⟩
section
variable {prog : Program} {w : World} {A : Around} {E : Value → Shared → Prop} {s : Shared}
theorem lex_run : ∀ {us vs : List Value} {ns ms : List Int} {fin : Bool} (i : Nat), IntsAre us ns → IntsAre vs ms → PySem.W.KatLex prog w A true fin (fun r s' => s' = s ∧ r = lexF fin ns ms) (us.zip vs) i s
  | [], vs, _, ms, fin, i, .nil, _ => by
    rw [List.zip_nil_left]
    exact PySem.W.kat_nil ⟨rfl, by unfold lexF; rfl⟩
  | _ :: _, [], _, _, fin, i, _, .nil => by
    rw [List.zip_nil_right]
    exact PySem.W.kat_nil ⟨rfl, (lexF_nil _).symm⟩
  | _ :: us, _ :: vs, _, _, fin, i, .cons x t h1 (ns := ns), .cons y u h2 (ns := ms) => by
    rw [List.zip_cons_cons]
    refine PySem.W.kat_cons (SeqAt.EqAt.int_int x t y u prog w _ _ ?_)
    refine PySem.W.kat_go (fun e1 => ?_) (fun e1 => ?_)
    · have ex : x = y := by simpa using e1
      have ih := lex_run (fin := fin) (i + 1) h1 h2
      refine PySem.W.kat_yes ?_
      have : lexF fin (x :: ns) (y :: ms) = lexF fin ns ms := by
        conv => lhs; unfold lexF
        rw [if_pos ex]
      rw [this]
      exact ih
    · have ex : ¬ x = y := by simpa using e1
      have e3 : lexF fin (x :: ns) (y :: ms) = decide (x < y) := by
        conv => lhs; unfold lexF
        rw [if_neg ex]
      rw [e3]
      refine PySem.W.kat_no ?_
      cases i with
      | zero => exact oneLt_int ⟨rfl, rfl⟩
      | succ i =>
        have : (true && (i + 1 == 0)) = false := by simp
        rw [this]
        exact PySem.W.kat_one _ _ (PyProof.Rows.lt_int ⟨rfl, rfl⟩)
theorem tup_cmp {vs : List Value} {k : Value → List Int} (hp : ∀ v ∈ vs, TS.TupInts s.heap v (k v)) : Cmp prog w A s (tuples' true) (fun p => p.1 ∈ vs) (lt2 fun v u => lexR (k v) (k u)) := by
  intro p q hm hm'
  obtain ⟨a, xs, e, ⟨o, ho, hc, n, hd⟩, i1⟩ := hp _ hm
  obtain ⟨a', xs', e', ⟨o', ho', hc', n', hd'⟩, i2⟩ := hp _ hm'
  show wpAny (model prog w) A (keyLt' (tuples' true) p.1 q.1) (fun r s' => s' = s ∧ r = lexR (k p.1) (k q.1)) (fun _ _ => False) s
  generalize k p.1 = ns at *
  generalize k q.1 = ms at *
  rw [e, e']
  refine PySem.W.kat_lt ho hd ho' hd' ?_
  have l1 : xs.size = ns.length := by rw [← i1.length]; simp
  have l2 : xs'.size = ms.length := by rw [← i2.length]; simp
  have r := lex_run (prog := prog) (w := w) (A := A) (s := s) (fin := decide (xs.size < xs'.size)) 0 i1 i2
  rw [lexF_eq (by rw [l1, l2])] at r
  exact r
theorem tups_firsts {h : Heap} {k : Value → List Int} : ∀ vs : List Value, (∀ v ∈ vs, TS.TupInts h v (k v) ∧ k v ≠ []) → ∃ fs, PySem.W.KatTups h vs fs ∧ fs.length = vs.length ∧ ∀ f, f ∈ fs → ∃ n t, f = Value.int n t
  | [], _ => ⟨[], PySem.W.KatTups.nil, rfl, fun f hf => by simp at hf⟩
  | v :: vs, x => by
    obtain ⟨fs, kk, hl, hi⟩ := tups_firsts vs fun u hu => x u (List.mem_cons_of_mem _ hu)
    obtain ⟨⟨a, xs, rfl, ⟨o, ho, hc, n, hdt⟩, i⟩, ne⟩ := x v (List.mem_cons_self ..)
    generalize k (.ref a) = ns at i ne
    cases q : xs.toList with
    | nil =>
      rw [q] at i
      cases i
      exact absurd rfl ne
    | cons y ys =>
      rw [q] at i
      cases i with
      | cons m t i2 =>
        refine ⟨.int m t :: fs, PySem.W.KatTups.cons ho hc hdt (by rw [← Array.getElem?_toList, q]; rfl) kk, by simp [hl], fun f hf => ?_⟩
        rcases List.mem_cons.mp hf with z | z
        · exact ⟨m, t, z⟩
        · exact hi f z
theorem tups_sortableO {a : Addr} {vs : List Value} {k : Value → List Int} (h0 : 0 < vs.length) (hp : ∀ v ∈ vs, TS.TupInts s.heap v (k v) ∧ k v ≠ []) (ha : ∀ o, s.heap.get? a = some o → o.cls ≠ .type "tuple") : SortableO prog w A s a vs fun v u => lexR (k v) (k u) := by
  intro h' keep
  have hp' : ∀ v ∈ vs, TS.TupInts h' v (k v) ∧ k v ≠ [] := fun v hm => ⟨(hp v hm).1.keeps fun b o e c => keep b o (fun z => by subst z; exact ha o e c) e, (hp v hm).2⟩
  obtain ⟨fs, h1, h2, h3⟩ := tups_firsts vs hp'
  refine ⟨tuples' true, fun Q E hq => ?_, tup_cmp fun v hm => (hp' v hm).1⟩
  refine PySem.W.kat_kind (T := .type "int") h1 (by omega) (fun f hm => ?_) (by rfl) ?_
  · obtain ⟨x, t, rfl⟩ := h3 f hm
    exact PySem.W.Looks.now
  · have e : (Value.type "int" != Value.type "tuple") = true := by first | decide +kernel | rfl | decide
    rw [e]
    exact hq
/-- sorted(l) of tuples of whole numbers -/
theorem sorted_tupsO {l : Addr} {vs : List Value} {k : Value → List Int} {Q : Value → Shared → Prop} (hl : s.heap.IsList l vs.toArray) (hz : vs.length ≤ sizeLine) (hp : ∀ v ∈ vs, TS.TupInts s.heap v (k v) ∧ k v ≠ [])
    (h : ∀ (h' : Heap) (d : Addr) (out : List Value), Srtd (fun v u => lexR (k v) (k u)) out → Stb (fun v u => lexR (k v) (k u)) out vs → (∀ b o, s.heap.get? b = some o → h'.get? b = some o) → s.heap.objs.size ≤ d → (∃ n, h'.get? d = some (seqObj "list" out.toArray n)) → Q (.ref d) { s with heap := h' }) :
    wpAny (model prog w) A (call (.builtin "sorted") [.ref l]) Q E s := by
  refine sorted_ord (swo_lexR k) hl hz (fun h2 h₁ a ha kk => ?_) fun out hs hb => ?_
  · refine tups_sortableO (s := { s with heap := h₁ }) (by omega) (fun v hm => ⟨(hp v hm).1.keeps fun b o e _ => (kk b o e).2, (hp v hm).2⟩) fun o e => ?_
    have e' : some o = some (seqObj "list" vs.toArray 0) := e.symm.trans ha
    cases e'
    intro c
    exact absurd (Value.type.inj c) (by decide)
  · exact h _ _ out hs hb (fun b o e => sortedAll_old e) (Nat.le_succ _) (sortedAll_at s.heap vs out.toArray)
end
end WF

open PySem L2
set_option Elab.async false
set_option linter.all false
set_option maxRecDepth 100000
set_option maxHeartbeats 2000000
/-! # part 7g: set comprehensions, with any way to say what a set holds -/
namespace WF
open PySem PySem.Spec PyProof.Rows L2 SrtO PpSet
/-- a way to speak of sets: the object by its state, what may be added -/
structure SetWay (τ : Type) (P : Program) (w : World) (K : PySem.W.Frag) where
  ob : Addr → τ → HO
  empty : τ
  /-- y may be added in H; the state is then one of N -/
  may : V → τ → Hp → (τ → Prop) → Prop
  fresh : ∀ (H : Hp) (h : Heap), ObjOk P w H (h.push { cls := .type "set", dict := none, data := .set #[] 0 (.fresh 0 0 (!w.params.followText "set-order")) }) h.objs.size (ob h.objs.size empty)
  add : ∀ (Y : Cx), Y.prog = P → Y.w = w → Y.K = K → Y.calm = true → Y.A.units + 64 < cLine → ∀ (pins : List (Addr × Obj)) (σ : L2.St) (H : Hp) (s : Shared) (D : Addr) (t : τ) (y : V) (u : Value) (N : τ → Prop) (E : Value → Shared → Prop) (Q : Value → Shared → Prop),
    Inv Y pins σ H s → H D = some (ob D t) → RelV y u → may y t H N → (∀ s' t', N t' → Inv Y pins σ (upd H D (ob D t')) s' → Q .none s') → wpAny (model P w) Y.A (call (.builtin "set.add") [.ref D, u]) Q E s
section
variable {X : Cx} {τ : Type} (W : SetWay τ X.prog X.w X.K)
/-- {elt for target in iter if ..}: what is asked -/
def tScW (wi : TI) (g : TG) (tt : TT) (te : TE) (vs : List Nat) : TE := fun σ H Q => wi σ H fun J H1 => ∀ D, H1 D = none → ∃ J0 : Nat → Nat → Hp → Prop, (∃ m, J0 0 m (upd H1 D (W.ob D W.empty))) ∧ ∀ i m H, J0 i m H →
  (J.stop i H ∧ Q (.ref D) H) ∨ (J.go i H ∧ ∃ N : Hp → Prop, (∀ H', N H' → ∃ m', m' < m ∧ J0 (i + 1) m' H') ∧ ∀ x H', J.yld i H x H' → g x (wipe σ vs) H' fun σ2 H2 => wipe σ2 vs = wipe σ vs ∧ tt σ2 H2 fun b H3 =>
    if b = true then te σ2 H3 fun y H4 => ∃ t, H4 D = some (W.ob D t) ∧ W.may y t H4 (fun t' => N (upd H4 D (W.ob D t'))) else N H3)
theorem scW_core {pins : List (Addr × Obj)} {s : Shared} {σ : L2.St} {H : Hp} {Q : VK} {elt tg iter : Expr} {ifs : List Expr} {scope : Scope} {own : List (PySem.Str × Nat)} {pos pos' : Pos} {wi : TI} {g : TG} {tt : TT} {te : TE} {Qf : Value → Shared → Prop}
    (hc : X.calm = true) (hu : X.A.units + 64 < cLine) (hN : X.N.Nodup) (I : Inv X pins σ H s) (hi : PI X tg iter wi) (ok : BlkOk X.N X.env.scope scope own)
    (hg : ∀ (s : Shared) (H : Hp) (C : Addr) (cl : List (PySem.Str × Addr)) (fp : List Addr), PG (X.blk s H scope (compEnvC scope cl C X.env) fp) tg g) (ht : ∀ (s : Shared) (H : Hp) (C : Addr) (cl : List (PySem.Str × Addr)) (fp : List Addr), PTs (X.blk s H scope (compEnvC scope cl C X.env) fp) ifs tt)
    (he : ∀ (s : Shared) (H : Hp) (C : Addr) (cl : List (PySem.Str × Addr)) (fp : List Addr), PE (X.blk s H scope (compEnvC scope cl C X.env) fp) elt te) (hs : ∀ x, foldedSetIterable iter X.env x = pure x)
    (h : tScW W wi g tt te (own.map (·.2)) σ H Q)
    (hend : ∀ D C s' m H', Inv X pins σ H' s' → Q (.ref D) H' → s'.heap.Ns C m → FpOk X pins H' C → compPost (model X.prog X.w) X.A X.xe none Qf (.ref D) C (.ok .next) s') :
    wpAny (model X.prog X.w) X.A (comprehension (.SetComp elt [⟨tg, iter, ifs, 0⟩] scope pos) scope X.env pos' (newSet (.type "set")) false (eval iter X.env)) Qf X.xe s := by
  -- the names that the block takes from outside have their cells
  have cells : ∀ y ∈ scope.names, y.2 = .free → ∃ c, X.env.cells.lookup y.1 = some c := by
    intro y hy e
    cases ok.free y hy e with
    | inl k => exact I.ok.has _ (.inl k)
    | inr k => exact I.ok.has _ (.inr k)
  refine wpAny_comprehension_free (use := none) rfl hs (closure_ok cells) ok.kind (fun y hy e => by rw [ok.uniq y hy, e]) ?_
  refine thn (hi.run pins s σ H _ I h) fun xv s1 hx => thn hx ?_
  rintro itv s2 ⟨it, fp, tn, J, Ha, rfl, Ia, T, sta, fa, q⟩
  refine newSet_ok (newEnv_comp ?_)
  generalize eD : s2.heap.objs.size = D
  obtain ⟨J0, ⟨m0, j0⟩, turn⟩ := q D (Ia.hok.fresh (Nat.le_of_eq eD))
  -- the set is there
  have Ib : Inv X pins σ (upd Ha D (W.ob D W.empty)) { s2 with heap := s2.heap.push { cls := .type "set", dict := none, data := .set #[] 0 (.fresh 0 0 (!X.w.params.followText "set-order")) } } := by
    refine Ia.laid (t' := s2.toks) (fun b o e => Heap.get?_push_of_some _ e) (Nat.le_of_eq eD) ?_
    subst eD
    exact W.fresh _ _
  generalize eb : ({ s2 with heap := s2.heap.push { cls := .type "set", dict := none, data := .set #[] 0 (.fresh 0 0 (!X.w.params.followText "set-order")) } } : Shared) = sb at Ib ⊢
  have hb : sb.heap = s2.heap.push { cls := .type "set", dict := none, data := .set #[] 0 (.fresh 0 0 (!X.w.params.followText "set-order")) } := by subst eb; rfl
  have low : ∀ b ∈ fp, b < s2.heap.objs.size := fun b m => by
    obtain ⟨o, e, _⟩ := T.obj 0 _ sta b m
    exact Heap.lt_size e
  have fb : ∀ b ∈ fp, FpOk X pins (upd Ha D (W.ob D W.empty)) b ∧ b < sb.heap.objs.size := fun b m => by
    have l := low b m
    have n := fa b m
    constructor
    · refine ⟨?_, n.2⟩
      rw [upd_ne (by rw [← eD]; exact Nat.ne_of_lt l : b ≠ D)]
      exact n.1
    · rw [hb, Heap.size_push]
      exact Nat.lt_succ_of_lt l
  have stb : tn 0 sb.heap := T.keep _ _ _ sta fun b _ o e => by rw [hb]; exact Heap.get?_push_of_some _ e
  have Ic := block_start Ib ok hN fb
  generalize eH : upd Ha D (W.ob D W.empty) = Hb at *
  generalize ecl : cellsFrom (sb.heap.objs.size + 1) scope.names (cloFrom X.env.cells scope.names []) = cl at *
  have pg := hg sb Hb sb.heap.objs.size cl fp
  have pt := ht sb Hb sb.heap.objs.size cl fp
  have pe := he sb Hb sb.heap.objs.size cl fp
  have cL : (compEnvC scope cl sb.heap.objs.size X.env).locals = sb.heap.objs.size := rfl
  show codeAny _ _ (.compStart (.SetComp elt [⟨tg, iter, ifs, 0⟩] scope pos) 0 (.ref it) (.ref D) (compEnvC scope cl sb.heap.objs.size X.env)) (compPost (model X.prog X.w) X.A X.xe none Qf (.ref D) sb.heap.objs.size) { sb with heap := pushCells (sb.heap.push { cls := .type "dict", data := .dict #[] }) scope.names }
  generalize ee : compEnvC scope cl sb.heap.objs.size X.env = ce at *
  generalize ec : ({ sb with heap := pushCells (sb.heap.push { cls := .type "dict", data := .dict #[] }) scope.names } : Shared) = sc at *
  have stc : tn 0 sc.heap := T.keep _ _ _ stb fun b _ o e => by subst ec; exact pushCells_keeps _ _ _ _ (Heap.get?_push_of_some _ e)
  -- the iterator's own cells, within the block
  have stay : ∀ {σ' : L2.St} {H' : Hp} {s' : Shared}, Inv (X.blk sb Hb scope ce fp) [] σ' H' s' → (∀ b ∈ fp, H' b = none) → ∀ b ∈ fp, FpOk (X.blk sb Hb scope ce fp) [] H' b := by
    intro σ' H' s' I' n b m
    refine ⟨n b m, (I'.ok.exf b m).1, I'.ok.exfs b m, .inl m, fun x c e => (I'.ok.exf b m).2 x c e, fun p hp => ?_⟩
    have hp : p ∈ ([] : List (Addr × Obj)) ++ [] := hp
    simp at hp
  have loop : codeAny (model X.prog X.w) X.A (.compLoop (.SetComp elt [⟨tg, iter, ifs, 0⟩] scope pos) 0 (.ref it) (.ref D) ce) (compPost (model X.prog X.w) X.A X.xe none Qf (.ref D) sb.heap.objs.size) sc := by
    refine compLoopS_any (fun n s' => ∃ i H', Inv (X.blk sb Hb scope ce fp) [] (wipe σ (own.map (·.2))) H' s' ∧ tn i s'.heap ∧ (∀ b ∈ fp, H' b = none) ∧ J0 i n H') ?_ m0 ⟨0, Hb, Ic, stc, fun b m => (fb b m).1.1, j0⟩
    rintro n s5 ⟨i, H5, I5, st5, n5, j5⟩
    rcases turn i n H5 j5 with ⟨stop, fin⟩ | ⟨go, N, less, step⟩
    · -- no item is left: back outside
      refine thnF (T.done (X.blk sb Hb scope ce fp) rfl rfl rfl hc i [] s5 _ H5 (fun _ _ => False) I5 (stay I5 n5) st5 stop) ?_
      rintro r s6 ⟨rfl, I6⟩
      have I7 : Inv X pins σ H5 s6 := Ib.call' (ch := fp) I6.os I6.base I6.hok I6.bare fun b m => ⟨(fb b m).1.2.2.2.1, (fb b m).1.2.1, (fb b m).1.2.2.2.2.1, (fb b m).1.2.2.2.2.2⟩
      have nC : H5 sb.heap.objs.size = none := by
        have z : H5 ce.locals = none := I6.free
        rwa [cL] at z
      obtain ⟨mm, hn, _⟩ := I6.loc
      have hn : s6.heap.Ns ce.locals mm := hn
      rw [cL] at hn
      exact hend D sb.heap.objs.size s6 mm H5 I7 fin hn (Ib.fpOk (Nat.le_refl _) nC)
    · -- a turn
      refine thnF (T.item (X.blk sb Hb scope ce fp) rfl rfl rfl hc i [] s5 _ H5 (fun _ _ => False) I5 (stay I5 n5) st5 go) ?_
      rintro r s6 ⟨u, rfl, h6⟩
      refine thnF h6 fun _ s7 ⟨x, H7, I7, r7, y7, st7, n7⟩ => ?_
      have Ip := I7.pinned (stay I7 n7) (T.obj _ _ st7)
      refine thnF (pg.run _ s7 _ H7 x u _ Ip r7 (step x H7 y7)) fun _ s8 ⟨σ8, H8, I8, hw8, q8⟩ => ?_
      refine thnF (pt.run _ s8 σ8 H8 _ I8 q8) fun b s9 ⟨H9, I9, q9⟩ => ?_
      have next : ∀ {s' : Shared} {H' : Hp}, Inv (X.blk sb Hb scope ce fp) ([] ++ pinsAt fp s7.heap) σ8 H' s' → N H' →
          ∃ m, m < n ∧ ∃ i H', Inv (X.blk sb Hb scope ce fp) [] (wipe σ (own.map (·.2))) H' s' ∧ tn i s'.heap ∧ (∀ b ∈ fp, H' b = none) ∧ J0 i m H' := by
        intro s' H' I' nx
        obtain ⟨m', lt, j'⟩ := less H' nx
        have pin : ∀ b ∈ fp, ∀ o, s7.heap.get? b = some o → s'.heap.get? b = some o ∧ H' b = none := fun b m o e => by
          have z := I'.pin (b, o) (List.mem_append_right _ (List.mem_append_right _ (mem_pinsAt m e)))
          exact ⟨z.1, z.2.1⟩
        have same : (wipe σ (own.map (·.2))).length = σ8.length := by rw [← hw8, wipe_length]
        refine ⟨m', lt, i + 1, H', (I'.unpinned (pins := [])).weak same ?_, T.keep _ _ _ st7 fun b m o e => (pin b m o e).1, fun b m => ?_, j'⟩
        · intro j v e
          rw [← hw8] at e
          exact (wipe_some e).1
        · obtain ⟨o, e, _⟩ := T.obj _ _ st7 b m
          exact (pin b m o e).2
      cases b with
      | false => exact next I9 (by simpa using q9)
      | true =>
        simp only [if_true] at q9 ⊢
        refine thnF (pe.run _ s9 σ8 H9 _ I9 q9) fun z s10 ⟨yv, H10, I10, r10, t, hD, hm⟩ => ?_
        exact W.add (X.blk sb Hb scope ce fp) rfl rfl rfl hc hu _ _ _ _ D t yv z _ _ _ I10 hD r10 hm fun s11 t' nt I11 => next I11 nt
  exact codeAny_compStart_set loop (T.self X.A 0 _ _ _ stc loop)
theorem pe_scW {elt tg iter : Expr} {ifs : List Expr} {scope : Scope} {own : List (PySem.Str × Nat)} {pos : Pos} {wi : TI} {g : TG} {tt : TT} {te : TE} (hc : X.calm = true) (hu : X.A.units + 64 < cLine) (hN : X.N.Nodup) (hi : PI X tg iter wi) (ok : BlkOk X.N X.env.scope scope own)
    (hg : ∀ (s : Shared) (H : Hp) (C : Addr) (cl : List (PySem.Str × Addr)) (fp : List Addr), PG (X.blk s H scope (compEnvC scope cl C X.env) fp) tg g) (ht : ∀ (s : Shared) (H : Hp) (C : Addr) (cl : List (PySem.Str × Addr)) (fp : List Addr), PTs (X.blk s H scope (compEnvC scope cl C X.env) fp) ifs tt)
    (he : ∀ (s : Shared) (H : Hp) (C : Addr) (cl : List (PySem.Str × Addr)) (fp : List Addr), PE (X.blk s H scope (compEnvC scope cl C X.env) fp) elt te) (hs : ∀ x, foldedSetIterable iter X.env x = pure x) :
    PE X (.SetComp elt [⟨tg, iter, ifs, 0⟩] scope pos) (tScW W wi g tt te (own.map (·.2))) := by
  refine ⟨fun pins s σ H Q I h => ?_⟩
  rw [eval_SetComp]
  refine scW_core W hc hu hN I hi ok hg ht he hs h ?_
  rintro D C s' m H' I' q hn ⟨f0, f1, f2, f3, f4, f5⟩
  exact ⟨m, hn, fun h'' sb => ⟨.ref D, H', I'.turned (t' := s'.toks) (fun b o hb e => (sb.2 b hb).trans e) f0 f1 f3 f4 f5, rfl, q⟩⟩
end
end WF

open PySem L2
set_option Elab.async false
set_option linter.all false
set_option maxRecDepth 100000
set_option maxHeartbeats 2000000
/-! # part 7h: sets of tuples of whole numbers; sorted of them, and of lists of tuples -/
namespace WF
open PySem PySem.Spec PyProof.Rows L2 SrtO PpSet
section
variable {P : Program} {w : World} {A : Around} {E : Value → Shared → Prop} {s : Shared} {a : Addr} {L : List (Addr × List Int)} {es : Array (Int × Value)} {ep : Nat} {t : SetTable}
/-- found.add(a tuple) -/
theorem setT_add (R : SetTR P w s.heap a L es ep t) {x : Addr} {k : List Int} (hx : IsT P w s.heap k x) (hu : A.units + 2 < cLine) (few : L.length + 1 < 64) {Q : Value → Shared → Prop}
    (hQ : ∀ h' tk L' es' ep' t', Heap.SameBut a s.heap h' → SetTR P w h' a L' es' ep' t' → (k ∈ L.map (·.2) → L' = L) → (k ∉ L.map (·.2) → L'.Perm ((x, k) :: L)) → Q .none { s with heap := h', toks := tk }) :
    wpAny (model P w) A (call (.builtin "set.add") [.ref a, .ref x]) Q E s := by
  obtain ⟨o, ho, hex, hd⟩ := R.ob
  refine wpAny_call_entry F.slot_set_add ⟨o, ho, hex.1⟩ F.entry_set_add ?_ (F.args_set_add_2 _ _)
  unfold Builtin.«set.add» Builtin.Frozenset.oneOther
  simp only [List.isEmpty_nil, bind_assoc]
  unfold Builtin.Frozenset.addrOf setAdd
  refine wpAny_bind (wpAny_pure ?_)
  try dsimp only
  refine wpAny_bind (wpAny_pure ?_)
  try dsimp only
  refine wpAny_bind (wpAny_holding (wpAny_bind (wpAny_pyHash_tuple (show A.in1.units < cLine from by show A.units + 1 < cLine; omega) hx ?_)))
  refine add_at (s := { s with toks := s.toks + (k.length + 1) }) R hx (show A.in1.units < cLine from by show A.units + 1 < cLine; omega) few fun b h' L' es' ep' t' sb R' c1 c2 => ?_
  show wpAny _ _ (ret Value.none) _ _ _
  exact wpAny_pure ⟨_, rfl, hQ h' _ L' es' ep' t' sb R' c1 c2⟩
end
/-- sets of tuples of whole numbers, fewer than 64 -/
def wayT (P : Program) (w : World) (K : PySem.W.Frag) : SetWay (List (Addr × List Int)) P w K where
  ob := SetTO P w
  empty := []
  may := fun y L H N => ∃ t k, y = .ref t ∧ SqT K H t (k.map V.int) ∧ (∀ p ∈ L, SqT K H p.1 (p.2.map V.int)) ∧ L.length + 1 < 64 ∧ ∀ L', (k ∈ L.map (·.2) → L' = L) → (k ∉ L.map (·.2) → L'.Perm ((t, k) :: L)) → N L'
  fresh := fun H h => setTO_new (setTR_fresh (Heap.get?_push_size _ rfl)).t0
  add := by
    intro Y hP hw hK hc hu pins σ H s D L y u N E Q I hD ry hm fin
    subst hP hw hK
    obtain ⟨x, k, rfl, hx, hL, few, hN⟩ := hm
    cases ry
    have R0 : SetT0 Y.prog Y.w s.heap D L := (I.hok D _ hD).1
    obtain ⟨es, ep, t, R⟩ := R0.full fun p hp => I.isT (hL p hp)
    refine setT_add R (I.isT hx) (by omega) few fun h' tk L' es' ep' t' sb R' c1 c2 => ?_
    obtain ⟨o, ho, _⟩ := R'.ob
    refine fin _ L' (hN L' c1 c2) (I.write (e := D) (t' := tk) (by rw [hD]; trivial) (.inl rfl) (fun b u hb hu => (sb.2 b hb).trans hu) ⟨o, ho⟩ (setTO_new R'.t0))
/-! ## sorted of a list of tuples -/
/-- which ints a value's tuple holds -/
def nsAt (X : Cx) (H : Hp) (v : Value) (ns : List Int) : Prop := ∃ t, v = .ref t ∧ SqT X.K H t (ns.map V.int)
open Classical in
noncomputable def nsOf (X : Cx) (H : Hp) (v : Value) : List Int := if h : ∃ ns, nsAt X H v ns then choose h else []
section
variable {X : Cx} {pins : List (Addr × Obj)} {σ : L2.St} {H : Hp} {s : Shared}
theorem nsAt_inj (I : Inv X pins σ H s) {v : Value} {ns ms : List Int} (h : nsAt X H v ns) (h' : nsAt X H v ms) : ns = ms := by
  obtain ⟨t, rfl, e1⟩ := h
  obtain ⟨t', e, e2⟩ := h'
  cases e
  have e := I.tuple_inj e1 e2
  have inj : ∀ (xs ys : List Int), xs.map V.int = ys.map V.int → xs = ys := by
    intro xs
    induction xs with
    | nil => intro ys h; cases ys with | nil => rfl | cons _ _ => cases h
    | cons x xs ih =>
      intro ys h
      cases ys with
      | nil => cases h
      | cons y ys =>
        rw [List.map_cons, List.map_cons] at h
        injection h with h1 h2
        cases h1
        rw [ih ys h2]
  exact inj _ _ e
theorem nsOf_eq (I : Inv X pins σ H s) {v : Value} {ns : List Int} (h : nsAt X H v ns) : nsOf X H v = ns := by
  unfold nsOf
  have ex : ∃ ns, nsAt X H v ns := ⟨ns, h⟩
  rw [dif_pos ex]
  exact nsAt_inj I (Classical.choose_spec ex) h
theorem nsAt.raw (I : Inv X pins σ H s) {v : Value} {ns : List Int} (h : nsAt X H v ns) : TS.TupInts s.heap v ns := by
  obtain ⟨t, rfl, e⟩ := h
  exact tupI_raw I e
/-- rows: values and what they hold -/
def Rows1 (K : PySem.W.Frag) (H : Hp) (L : List (Addr × List Int)) : Prop := ∀ q ∈ L, SqT K H q.1 (q.2.map V.int) ∧ q.2 ≠ []
/-- L' is L in the order of the rows -/
def Ord1 (L' L : List (Addr × List Int)) : Prop := L'.Perm L ∧ L'.Pairwise fun p q => lexR q.2 p.2 = false
/-- what the machine has sorted -/
theorem ord_of (I : Inv X pins σ H s) {L : List (Addr × List Int)} (hL : Rows1 X.K H L) {vs out : List Value} (hv : vs.Perm (L.map fun q => Value.ref q.1)) (hs : Srtd (fun v u => lexR (nsOf X H v) (nsOf X H u)) out) (hp : out.Perm vs) :
    ∃ L', Ord1 L' L ∧ out = L'.map fun q => Value.ref q.1 := by
  have pm := hp.trans hv
  have key : ∀ q ∈ L, nsOf X H (Value.ref q.1) = q.2 := fun q m => nsOf_eq I ⟨q.1, rfl, (hL q m).1⟩
  have all : ∀ vs : List Value, (∀ v ∈ vs, ∃ q ∈ L, v = Value.ref q.1) → ∃ L1 : List (Addr × List Int), vs = L1.map (fun q => Value.ref q.1) ∧ L1 = vs.map (fun v => ((match v with | .ref a => a | _ => 0), nsOf X H v)) ∧ ∀ q ∈ L1, q ∈ L := by
    intro vs
    induction vs with
    | nil => intro _; exact ⟨[], rfl, rfl, fun q m => by cases m⟩
    | cons v vs ih =>
      intro h
      obtain ⟨q, hq, e⟩ := h v List.mem_cons_self
      obtain ⟨L1, e1, e2, e3⟩ := ih fun u m => h u (List.mem_cons_of_mem _ m)
      refine ⟨q :: L1, by rw [List.map_cons, e, e1], ?_, fun r m => ?_⟩
      · rw [List.map_cons, e, ← e2]
        show q :: L1 = (q.1, nsOf X H (Value.ref q.1)) :: L1
        rw [key q hq]
      · rcases List.mem_cons.mp m with z | z
        · rw [z]; exact hq
        · exact e3 r z
  obtain ⟨L', e1, e2, e3⟩ := all out fun v m => by
    obtain ⟨q, hq, e⟩ := List.mem_map.mp (pm.mem_iff.mp m)
    exact ⟨q, hq, e.symm⟩
  refine ⟨L', ⟨?_, ?_⟩, e1⟩
  · have p2 := pm.map fun v => ((match v with | .ref a => a | _ => 0 : Addr), nsOf X H v)
    rw [← e2, List.map_map] at p2
    refine p2.trans (List.Perm.of_eq ?_)
    have : L.map ((fun v => ((match v with | .ref a => a | _ => 0 : Addr), nsOf X H v)) ∘ fun q => Value.ref q.1) = L.map id := List.map_congr_left fun q m => by
      show (q.1, nsOf X H (Value.ref q.1)) = q
      rw [key q m]
    rw [this, List.map_id]
  · unfold Srtd at hs
    rw [e1, List.pairwise_map] at hs
    refine List.Pairwise.imp_of_mem (fun {p q} hp hq h => ?_) hs
    have h : lexR (nsOf X H (Value.ref q.1)) (nsOf X H (Value.ref p.1)) = false := h
    rw [key q (e3 q hq), key p (e3 p hp)] at h
    exact h
/-- sorted(xs), xs a list of tuples of whole numbers -/
def rSortL (K : PySem.W.Frag) : List V → Hp → VK → Prop := fun vs H Q => ∃ (a : Addr) (L : List (Addr × List Int)), vs = [V.ref a] ∧ SqL K H a (L.map fun q => V.ref q.1) ∧ Rows1 K H L ∧
  ∀ L' p, Ord1 L' L → H p = none → Q (.ref p) (upd H p (.lst (L'.map fun q => V.ref q.1)))
theorem cr_sortL : CallR X (.builtin "sorted") (rSortL X.K) := by
  intro pins s σ H vs us Q I r h
  obtain ⟨a, L, rfl, hs, hL, q⟩ := h
  obtain ⟨its, rv, hl, hz⟩ := I.list hs
  have ei := refs_of_vals rv
  obtain ⟨u, rfl, ru⟩ := vals1 r
  obtain rfl : u = Value.ref a := ru
  refine sorted_tupsO (k := nsOf X H) hl.isList (by rw [← rv.length]; exact hz) (fun v hv => ?_) fun h' d out h1 h2 kp hd hn => ?_
  · rw [ei] at hv
    obtain ⟨q, m, rfl⟩ := List.mem_map.mp hv
    have n : nsAt X H (Value.ref q.1) q.2 := ⟨q.1, rfl, (hL q m).1⟩
    rw [nsOf_eq I n]
    exact ⟨n.raw I, (hL q m).2⟩
  · obtain ⟨L', o, rfl⟩ := ord_of I hL (List.Perm.of_eq ei) h1 h2.perm
    obtain ⟨n, hn⟩ := hn
    refine ⟨.ref d, upd H d (.lst (L'.map fun q => V.ref q.1)), I.laid (t' := s.toks) kp hd ⟨?_, L'.map fun q => Value.ref q.1, n, vals_of_refs L', hn⟩, rfl, q L' d o (I.hok.fresh hd)⟩
    rw [List.length_map, o.1.length_eq, ← List.length_map (f := fun q : Addr × List Int => V.ref q.1)]
    exact hz
/-- sorted(s), s a set of tuples of whole numbers -/
def rSortS (K : PySem.W.Frag) (P : Program) (w : World) : List V → Hp → VK → Prop := fun vs H Q => ∃ (a : Addr) (L : List (Addr × List Int)), vs = [V.ref a] ∧ H a = some (SetTO P w a L) ∧ Rows1 K H L ∧
  ∀ L' p, Ord1 L' L → (L'.map (·.2)).Nodup → H p = none → Q (.ref p) (upd H p (.lst (L'.map fun q => V.ref q.1)))
theorem cr_sortS (hc : X.calm = true) : CallR X (.builtin "sorted") (rSortS X.K X.prog X.w) := by
  intro pins s σ H vs us Q I r h
  obtain ⟨a, L, rfl, ha, hL, q⟩ := h
  have R0 : SetT0 X.prog X.w s.heap a L := (I.hok a _ ha).1
  obtain ⟨es, ep, t, R⟩ := R0.full fun p hp => I.isT (hL p hp).1
  rw [Vals.ref1 r]
  obtain ⟨o, ho, hex, hd⟩ := R.ob
  have hsz := R.size
  have hfew := R.few
  have hes : es.toList.map (·.2) = L.map fun q => Value.ref q.1 := by
    rw [R.rows]
    unfold rowsOf
    rw [List.map_map] <;> rfl
  refine Calls.call_function_entry kind_sorted plain_sorted entry_sorted (args_sorted1 _) ?_
  unfold Builtin.«sorted»
  refine wpAny_bind (m := checkCount "sorted" 1 1 _) (wpAny_pure ?_)
  refine wpAny_bind (collect_set (A := X.A.in1) (I.ok.hd hc) ⟨o, ho, hex.1, hd⟩ R.fits (by unfold scanBound; omega) R.tab.ris R.led fun s1 vs k1 hz g1 o1 pm => ?_)
  rw [hes] at pm
  have hvl : vs.length ≤ sizeLine := by
    rw [pm.length_eq, List.length_map, sizeLine_eq]
    omega
  refine wpAny_bind (wpAny_newList ?_ hvl)
  have hoL : (s1.heap.push (seqObj "list" vs.toArray 0)).get? s1.heap.objs.size = some (seqObj "list" vs.toArray 0) := Heap.get?_push_size _ rfl
  have raw : ∀ v ∈ vs, TS.TupInts s.heap v (nsOf X H v) ∧ nsOf X H v ≠ [] := fun v m => by
    obtain ⟨q, hq, rfl⟩ := List.mem_map.mp (pm.mem_iff.mp m)
    have n : nsAt X H (Value.ref q.1) q.2 := ⟨q.1, rfl, (hL q hq).1⟩
    rw [nsOf_eq I n]
    exact ⟨n.raw I, (hL q hq).2⟩
  refine wpAny_bind (wpAny_holding (wpAny_call_entry slot_list_sort ⟨_, hoL, rfl⟩ entry_list_sort (list_sort_ord (s := { s1 with heap := s1.heap.push (seqObj "list" vs.toArray 0) }) (swo_lexR (nsOf X H)) hoL hvl (fun h2 => ?_) fun out hs hb => ⟨_, rfl, ?_⟩) (args_list_sort _)))
  · refine tups_sortableO (s := { s1 with heap := s1.heap.push (seqObj "list" vs.toArray 0) }) (by omega) (fun v m => ⟨(raw v m).1.keeps fun b u e _ => Heap.get?_push_of_some _ (k1 b u e), (raw v m).2⟩) fun o e => ?_
    rw [hoL] at e
    cases e
    intro c
    exact absurd (Value.type.inj c) (by decide)
  · obtain ⟨L', od, rfl⟩ := ord_of I hL pm hs hb.perm
    obtain ⟨c, hc'⟩ := sortedHeap_at (vs := vs) (out := (L'.map fun q => Value.ref q.1).toArray) hoL
    have keep : ∀ b u, s.heap.get? b = some u → (sortedHeap (s1.heap.push (seqObj "list" vs.toArray 0)) s1.heap.objs.size vs (L'.map fun q => Value.ref q.1).toArray).get? b = some u := fun b u e => by
      have q := k1 b u e
      have lt := Heap.lt_size q
      rw [sortedHeap_old (Nat.ne_of_lt lt) (by rw [size_push']; exact Nat.lt_succ_of_lt lt)]
      exact Heap.get?_push_of_some _ q
    have hn : H s1.heap.objs.size = none := I.hok.fresh hz
    have hlen : (L'.map fun q => V.ref q.1).length ≤ sizeLine := by
      rw [List.length_map, od.1.length_eq, sizeLine_eq]
      omega
    have J : Inv X pins σ (upd H s1.heap.objs.size (.lst (L'.map fun q => V.ref q.1))) { s with heap := sortedHeap (s1.heap.push (seqObj "list" vs.toArray 0)) s1.heap.objs.size vs (L'.map fun q => Value.ref q.1).toArray, gens := s1.gens, drawn := s1.drawn, toks := s1.toks } :=
      I.call (ch := []) (Un.laid keep hz hn) (I.hok.laid keep hz ⟨hlen, L'.map fun q => Value.ref q.1, c, vals_of_refs L', hc'⟩) (by rw [g1]; exact I.bare) (fun _ z => nomatch z)
    refine wpAny_pure ⟨_, rfl, ?_⟩
    have es : ({ s1 with heap := sortedHeap (s1.heap.push (seqObj "list" vs.toArray 0)) s1.heap.objs.size vs (L'.map fun q => Value.ref q.1).toArray } : Shared) = { s with heap := sortedHeap (s1.heap.push (seqObj "list" vs.toArray 0)) s1.heap.objs.size vs (L'.map fun q => Value.ref q.1).toArray, gens := s1.gens, drawn := s1.drawn, toks := s1.toks } := by
      cases s1
      cases s
      cases o1
      rfl
    exact ⟨.ref s1.heap.objs.size, _, es ▸ J, rfl, q L' _ od ((od.1.map (·.2)).nodup_iff.mpr R.nd) hn⟩
end
end WF

open PySem L2
set_option Elab.async false
set_option linter.all false
set_option maxRecDepth 100000
set_option maxHeartbeats 2000000
/-! # part 7i: sorted over data -/
namespace WF
open PySem PySem.Spec PyProof.Rows L2 SrtO PpSet
abbrev tupI (ns : List Int) : D := .tup (ns.map D.int)
def sortL (l : List (List Int)) : List (List Int) := l.mergeSort fun a b => !lexR b a
abbrev LexS (l : List (List Int)) : Prop := l.Pairwise fun p q => lexR q p = false
theorem sortL_perm (l : List (List Int)) : (sortL l).Perm l := List.mergeSort_perm _ _
theorem sortL_sorted (l : List (List Int)) : LexS (sortL l) := by
  have h := List.pairwise_mergeSort (le := fun a b : List Int => !lexR b a) (fun a b c h1 h2 => by
    simp only [Bool.not_eq_true'] at h1 h2 ⊢
    exact lexR_tr h2 h1) (fun a b => by
    cases q : lexR b a with
    | false => rfl
    | true => simp [lexR_asym q]) l
  exact h.imp fun h => by simpa using h
theorem lexS_uniq : ∀ {l m : List (List Int)}, l.Perm m → LexS l → LexS m → l = m
  | [], m, p, _, _ => (List.Perm.eq_nil p.symm).symm
  | x :: l, [], p, _, _ => absurd p.length_eq (by simp)
  | x :: l, y :: m, p, hl, hm => by
    have h1 : lexR x y = false := by
      rcases List.mem_cons.mp (p.mem_iff.mp (List.mem_cons_self (a := x) (l := l))) with e | hx
      · rw [e]
        cases q : lexR y y with
        | false => rfl
        | true => exact absurd (lexR_asym q) (by rw [q]; decide)
      · exact (List.pairwise_cons.mp hm).1 x hx
    have h2 : lexR y x = false := by
      rcases List.mem_cons.mp (p.mem_iff.mpr (List.mem_cons_self (a := y) (l := m))) with e | hy
      · rw [e]
        cases q : lexR x x with
        | false => rfl
        | true => exact absurd (lexR_asym q) (by rw [q]; decide)
      · exact (List.pairwise_cons.mp hl).1 y hy
    have e := lexR_eq h1 h2
    subst e
    rw [lexS_uniq p.cons_inv (List.pairwise_cons.mp hl).2 (List.pairwise_cons.mp hm).2]
theorem sortL_of {l m : List (List Int)} (p : l.Perm m) (s : LexS l) : l = sortL m := lexS_uniq (p.trans (sortL_perm m).symm) s (sortL_sorted m)
section
variable {K : PySem.W.Frag} {Z : List Addr} {h : AH} {H : Hp}
theorem rds_rows : ∀ {nss : List (List Int)} {xs : List V}, RDs K Z h H (nss.map tupI) xs → ∃ L : List (Addr × List Int), xs = L.map (fun q => V.ref q.1) ∧ L.map (·.2) = nss ∧ ∀ q ∈ L, SqT K H q.1 (q.2.map V.int)
  | [], _, r => by
    simp only [List.map_nil, RDs] at r
    subst r
    exact ⟨[], rfl, rfl, fun q m => by cases m⟩
  | ns :: nss, _, r => by
    simp only [List.map_cons, RDs, RD] at r
    obtain ⟨y, ys, rfl, ⟨a, vs, rfl, hs, rv⟩, r2⟩ := r
    obtain ⟨L, rfl, e, hL⟩ := rds_rows r2
    have := rv.ints
    subst this
    refine ⟨(a, ns) :: L, rfl, by rw [List.map_cons, e], fun q m => ?_⟩
    rcases List.mem_cons.mp m with z | z
    · rw [z]; exact hs
    · exact hL q z
theorem rows_rds : ∀ {L : List (Addr × List Int)}, (∀ q ∈ L, SqT K H q.1 (q.2.map V.int)) → RDs K Z h H ((L.map (·.2)).map tupI) (L.map fun q => V.ref q.1)
  | [], _ => rfl
  | q :: L, hL => ⟨_, _, rfl, ⟨q.1, _, rfl, hL q List.mem_cons_self, rds_ints _⟩, rows_rds fun r m => hL r (List.mem_cons_of_mem _ m)⟩
theorem Ord1.sorted {L' L : List (Addr × List Int)} (o : Ord1 L' L) : L'.map (·.2) = sortL (L.map (·.2)) := sortL_of (o.1.map _) (List.pairwise_map.mpr o.2)
end
def nSorted (m : Bool) : ARn := fun xs h Q => ∃ x nss, xs = [x] ∧ seqL h x = some (nss.map tupI) ∧ (∀ ns ∈ nss, ns ≠ []) ∧ newL m ((sortL nss).map tupI) h Q
section
variable {X : Cx}
theorem b_sorted {m : Bool} : ACall X (.builtin "sorted") (nSorted m) := by
  refine ⟨fun xs h Q Q' w ⟨x, nss, e1, e2, ne, q⟩ => ⟨x, nss, e1, e2, ne, newL_mono w q⟩, fun Z xs h H vs Q rs R ⟨x, nss, e1, e2, ne, q⟩ => ?_⟩
  subst e1
  obtain ⟨v, rfl, r⟩ := rs.one_of
  obtain ⟨a, us, rfl, hs, ru⟩ := seqL_ok R r e2
  obtain ⟨L, rfl, rfl, hL⟩ := rds_rows ru
  refine ⟨_, cr_sortL, a, L, rfl, hs, fun q hq => ⟨hL q hq, ne _ (List.mem_map.mpr ⟨q, hq, rfl⟩)⟩, fun L' p o np => ?_⟩
  have r' := rows_rds (K := X.K) (Z := Z) (h := h) (H := H) (L := L') fun q hq => hL q (o.1.mem_iff.mp hq)
  rw [o.sorted] at r'
  exact EndE.new q r' R np
end
/-! ## sorted({.. for .. in ..}) -/
/-- each once -/
def nubL : List (List Int) → List (List Int)
  | [] => []
  | x :: xs => if x ∈ xs then nubL xs else x :: nubL xs
theorem nubL_mem : ∀ {l : List (List Int)} {x : List Int}, x ∈ nubL l ↔ x ∈ l
  | [], x => Iff.rfl
  | y :: l, x => by
    unfold nubL
    split
    · rename_i m
      rw [nubL_mem, List.mem_cons]
      constructor
      · exact .inr
      · rintro (e | e)
        · rw [e]; exact m
        · exact e
    · rw [List.mem_cons, List.mem_cons, nubL_mem]
theorem nubL_nodup : ∀ (l : List (List Int)), (nubL l).Nodup
  | [] => List.nodup_nil
  | y :: l => by
    unfold nubL
    split
    · exact nubL_nodup l
    · rename_i m
      exact List.nodup_cons.mpr ⟨fun z => m (nubL_mem.mp z), nubL_nodup l⟩
/-- .. that is a tuple of whole numbers -/
def tInt (te : ATE) : ATE := fun σ h Q => te σ h fun d h1 => (∃ ns : List Int, d = tupI ns ∧ ns ≠ []) ∧ Q d h1
theorem tInt_mon {te : ATE} (me : MonE te) : MonE (tInt te) := fun σ h Q Q' w q => me _ _ _ _ (fun d h1 ⟨a, b⟩ => ⟨a, w _ _ b⟩) q
def aSrtC (m : Bool) (ti : ATI) (g : ATG) (tt te : ATE) (vs : List Nat) : ATE := fun σ h Q => ti σ h fun src h1 => src.ds.length < 64 ∧ lcD (lcStep g tt (tInt te) vs σ) src.ok src.ds [] h1 fun acc h2 => ∃ nss : List (List Int), acc = nss.map tupI ∧ newL m ((sortL (nubL nss)).map tupI) h2 Q
section
variable {K : PySem.W.Frag} {Z : List Addr} {h : AH} {H : Hp} {D0 : Addr} {o : HO}
/-- an object that is no list and no tuple -/
def NoSeq (H : Hp) (D0 : Addr) : Prop := (∀ xs, ¬ Rd H D0 (.lst xs)) ∧ ∀ xs, ¬ Rd H D0 (.tup xs)
mutual
theorem RD.alter (n : NoSeq H D0) : ∀ {d : D} {v : V}, RD K Z h H d v → RD K Z h (upd H D0 o) d v
  | .non, _, e => e
  | .bl _, _, e => e
  | .int _, _, e => e
  | .str _, _, e => e
  | .ref _, _, e => e
  | .ty _, _, e => e
  | .tup ds, _, e => by
    simp only [RD] at e ⊢
    obtain ⟨a, xs, e1, e2, e3⟩ := e
    refine ⟨a, xs, e1, ?_, RDs.alter n e3⟩
    rcases e2 with e2 | e2
    · have ne : a ≠ D0 := fun z => by subst z; exact n.2 xs e2
      rcases e2 with e2 | ⟨u, e2⟩
      · exact .inl (.inl (by rw [upd_ne ne]; exact e2))
      · exact .inl (.inr ⟨u, by rw [upd_ne ne]; exact e2⟩)
    · exact .inr e2
  | .lst ds, _, e => by
    simp only [RD] at e ⊢
    obtain ⟨a, xs, e1, e2, e3⟩ := e
    refine ⟨a, xs, e1, ?_, RDs.alter n e3⟩
    rcases e2 with ⟨e2, e4⟩ | e2
    · have ne : a ≠ D0 := fun z => by subst z; exact n.1 xs e2
      refine .inl ⟨?_, e4⟩
      rcases e2 with e2 | ⟨u, e2⟩
      · exact .inl (by rw [upd_ne ne]; exact e2)
      · exact .inr ⟨u, by rw [upd_ne ne]; exact e2⟩
    · exact .inr e2
theorem RDs.alter (n : NoSeq H D0) : ∀ {ds : List D} {xs : List V}, RDs K Z h H ds xs → RDs K Z h (upd H D0 o) ds xs
  | [], _, e => e
  | d :: ds, _, e => by
    simp only [RDs] at e ⊢
    obtain ⟨y, ys, e1, e2, e3⟩ := e
    exact ⟨y, ys, e1, RD.alter n e2, RDs.alter n e3⟩
end
theorem RH.alter (n : NoSeq H D0) (R : RH K Z h H) : RH K Z h (upd H D0 o) := by
  refine ⟨fun a ds e => ?_, fun a m => ⟨fun e => ?_, (R.zk a m).2⟩⟩
  · obtain ⟨xs, e1, r⟩ := R.at_ a ds e
    have ne : a ≠ D0 := fun z => by subst z; exact n.1 xs (.inl e1)
    exact ⟨xs, by rw [upd_ne ne]; exact e1, RDs.alter n r⟩
  · by_cases z : a = D0
    · subst z
      rw [upd_same] at e
      cases e
    · rw [upd_ne z] at e
      exact (R.zk a m).1 e
theorem RS.alter (n : NoSeq H D0) {σa : ASt} {σ : L2.St} (rs : RS K Z h H σa σ) : RS K Z h (upd H D0 o) σa σ := ⟨rs.1, fun i d e =>
  let ⟨v, e1, r⟩ := rs.2 i d e
  ⟨v, e1, RD.alter n r⟩⟩
theorem noSeq_ext {φ : Heap → Prop} (e : H D0 = some (.ext φ)) : NoSeq H D0 := by
  constructor
  · rintro xs (q | ⟨u, q⟩) <;> rw [e] at q <;> cases q
  · rintro xs (q | ⟨u, q⟩) <;> rw [e] at q <;> cases q
end
/-- the set's rows so far, for what was added -/
def SetRows (L : List (Addr × List Int)) (nss : List (List Int)) : Prop := (L.map (·.2)).Nodup ∧ (∀ ns, ns ∈ L.map (·.2) ↔ ns ∈ nss) ∧ L.length ≤ nss.length
theorem SetRows.add {L L' : List (Addr × List Int)} {nss : List (List Int)} {t : Addr} {k : List Int} (s : SetRows L nss) (h1 : k ∈ L.map (·.2) → L' = L) (h2 : k ∉ L.map (·.2) → L'.Perm ((t, k) :: L)) : SetRows L' (nss ++ [k]) := by
  obtain ⟨nd, mem, len⟩ := s
  by_cases c : k ∈ L.map (·.2)
  · rw [h1 c]
    refine ⟨nd, fun ns => ?_, by simp; omega⟩
    rw [mem, List.mem_append, List.mem_singleton]
    constructor
    · exact .inl
    · rintro (z | z)
      · exact z
      · rw [z]; exact (mem k).mp c
  · have p := h2 c
    refine ⟨?_, fun ns => ?_, ?_⟩
    · have := (p.map (·.2)).nodup_iff.mpr (show (((t, k) :: L).map (·.2)).Nodup from List.nodup_cons.mpr ⟨c, nd⟩)
      exact this
    · rw [(p.map (·.2)).mem_iff, List.map_cons, List.mem_cons, List.mem_append, List.mem_singleton, mem]
      exact or_comm
    · rw [p.length_eq]
      simp
      exact len
theorem SetRows.dups {L : List (Addr × List Int)} {nss : List (List Int)} (s : SetRows L nss) : (L.map (·.2)).Perm (nubL nss) := (List.perm_ext_iff_of_nodup s.1 (nubL_nodup _)).mpr fun ns => by rw [s.2.1, nubL_mem]
theorem ints_inj : ∀ {xs ys : List Int}, xs.map D.int = ys.map D.int → xs = ys
  | [], [], _ => rfl
  | [], _ :: _, h => by cases h
  | _ :: _, [], h => by cases h
  | x :: xs, y :: ys, h => by
    simp only [List.map_cons, List.cons.injEq, D.int.injEq] at h
    rw [h.1, ints_inj h.2]
theorem tups_inj : ∀ {xs ys : List (List Int)}, xs.map tupI = ys.map tupI → xs = ys
  | [], [], _ => rfl
  | [], _ :: _, h => by cases h
  | _ :: _, [], h => by cases h
  | x :: xs, y :: ys, h => by
    simp only [List.map_cons, List.cons.injEq, D.tup.injEq] at h
    rw [ints_inj h.1, tups_inj h.2]
theorem SqT.alter {K : PySem.W.Frag} {H : Hp} {D0 a : Addr} {o : HO} {xs : List V} (n : NoSeq H D0) (s : SqT K H a xs) : SqT K (upd H D0 o) a xs := by
  rcases s with s | s
  · have ne : a ≠ D0 := fun z => by subst z; exact n.2 xs s
    rcases s with s | ⟨u, s⟩
    · exact .inl (.inl (by rw [upd_ne ne]; exact s))
    · exact .inl (.inr ⟨u, by rw [upd_ne ne]; exact s⟩)
  · exact .inr s
section
variable {X : Cx} {e e2 tg : Expr} {te : ATE} {pos p : Pos}
theorem srtC_w {m : Bool} {vs : List Nat} {ti : ATI} {g : ATG} {tt : ATE} (mg : MonG g) (mt : MonE tt) (me : MonE te) (mi : MonI ti) : ∀ σ H Q, lftE X.K (aSrtC m ti g tt te vs) σ H Q →
    tCB (rSortS X.K X.prog X.w) (tCons (tScW (wayT X.prog X.w X.K) (lftI X.K ti) (lftV X.K vs g) (lftT X.K (aTst tt)) (lftE X.K te) vs) tNil) σ H Q := by
  rintro σ H Q ⟨Z, σa, h, rs, R, q⟩
  refine ⟨Z, σa, h, rs, R, mi _ _ _ _ (fun src h1 ⟨z64, q1⟩ => ?_) q⟩
  intro J H1 R1 k1 feed D nD
  have hD0 : h1 D = none := R1.fresh nD
  have ns0 : NoSeq H1 D := by
    constructor
    · rintro xs (z | ⟨_, z⟩) <;> rw [nD] at z <;> cases z
    · rintro xs (z | ⟨_, z⟩) <;> rw [nD] at z <;> cases z
  have Rl : RH X.K (D :: Z) h1 (upd H1 D (SetTO X.prog X.w D [])) := by
    refine ⟨fun a ds e => ?_, fun a mm => ?_⟩
    · obtain ⟨us, e1, r⟩ := R1.at_ a ds e
      exact ⟨us, by rw [upd_ne (ne_of_none e1 nD)]; exact e1, RDs.alter ns0 (RDs.hide (New.one nD) r)⟩
    · rcases List.mem_cons.mp mm with z | z
      · subst z
        exact ⟨(by rw [upd_same]; exact fun q => (nomatch q)), hD0⟩
      · exact (R1.laid nD).zk a z
  have rs1 : RS X.K (D :: Z) h1 (upd H1 D (SetTO X.prog X.w D [])) σa σ := (rs.keep R k1).laid R1.nl nD
  let Qe : List WF.D → AH → Prop := fun acc h2 => ∃ nss : List (List Int), acc = nss.map tupI ∧ newL m ((sortL (nubL nss)).map tupI) h2 (EndE X.K Z h H Q)
  let st := lcStep g tt (tInt te) vs σa
  refine ⟨fun i mm H' => mm = src.ds.length - i ∧ i ≤ src.ds.length ∧ ∃ (h' : AH) (nss : List (List Int)) (L : List (Addr × List Int)), RH X.K (D :: Z) h' H' ∧ RS X.K (D :: Z) h' H' σa σ ∧ Kp h1 H1 h' H' ∧ H' D = some (SetTO X.prog X.w D L) ∧ (∀ q ∈ L, SqT X.K H' q.1 (q.2.map V.int)) ∧ SetRows L nss ∧ (∀ ns ∈ nss, ns ≠ []) ∧ nss.length ≤ i ∧
      lcD st src.ok (src.ds.drop i) (nss.map tupI) h' Qe, ⟨_, rfl, Nat.zero_le _, h1, [], [], Rl, rs1, Kp.laid nD, upd_same, (fun q m => by cases m), ⟨List.nodup_nil, fun ns => Iff.rfl, Nat.le_refl _⟩, (fun q m => by cases m), Nat.le_refl _, q1⟩, ?_⟩
  rintro i mm H2 ⟨rfl, hi', h2, nss, L, R2, rs2, k2, g2, rows, sr, nee, len, q2⟩
  have n2 : h2 D = none := (R2.zk D List.mem_cons_self).2
  by_cases hlt : i < src.ds.length
  · have ed : src.ds.drop i = src.ds[i] :: src.ds.drop (i + 1) := List.drop_eq_getElem_cons hlt
    rw [ed] at q2
    obtain ⟨oks, q3⟩ := q2
    obtain ⟨go, yl⟩ := (feed (D :: Z) i h2 H2 (New.one nD) R2 k2 oks).1 src.ds[i] (List.getElem?_eq_getElem hlt)
    let N : Hp → Prop := fun H' => ∃ (h' : AH) (nss : List (List Int)) (L : List (Addr × List Int)), RH X.K (D :: Z) h' H' ∧ RS X.K (D :: Z) h' H' σa σ ∧ Kp h1 H1 h' H' ∧ H' D = some (SetTO X.prog X.w D L) ∧ (∀ q ∈ L, SqT X.K H' q.1 (q.2.map V.int)) ∧ SetRows L nss ∧ (∀ ns ∈ nss, ns ≠ []) ∧ nss.length ≤ i + 1 ∧
      lcD st src.ok (src.ds.drop (i + 1)) (nss.map tupI) h' Qe
    refine .inr ⟨go, N, fun H' ⟨h', a1, a2, b1, b2, b3, b4, b5, b6, b7, b8, b9⟩ => ⟨src.ds.length - (i + 1), by omega, rfl, hlt, h', a1, a2, b1, b2, b3, b4, b5, b6, b7, b8, b9⟩, fun x H' y => ?_⟩
    obtain ⟨rd, R3, k3⟩ := yl x H' y
    have rs3 := rs2.keep R2 k3
    refine ⟨D :: Z, src.ds[i], wipeA σa vs, h2, rd, wipeA_rs rs3 _, R3, mg _ _ _ _ _ (fun σ4 h4 q4 => ?_) (lcStep_eq.mp q3)⟩
    intro σ5 H5 w5 rs5 R5 k5
    refine ⟨w5.trans wipe_wipe, D :: Z, σ4, h4, rs5, R5, mt _ _ _ _ (fun b h6 ⟨k, e6, q6⟩ => ?_) q4⟩
    refine ⟨k, e6, fun H6 R6 k6 => ?_⟩
    have k26 := (k3.trans k5).trans k6
    have g6 : H6 D = some (SetTO X.prog X.w D L) := (k26 D n2 _ g2).1
    have rs6 : RS X.K (D :: Z) h6 H6 σa σ := rs2.keep R2 k26
    have rows6 : ∀ q ∈ L, SqT X.K H6 q.1 (q.2.map V.int) := fun q m => SqT.keep R2.nl k26 (rows q m)
    have k16 := k2.trans k26
    cases k with
    | true =>
      refine ⟨D :: Z, σ4, h6, rs5.keep R5 k6, R6, me _ _ _ _ (fun y h7 ⟨⟨k, ey, nk⟩, q7⟩ => ?_) q6⟩
      intro yv H7 ry R7 k7
      subst ey
      have n6 : h6 D = none := (R6.zk D List.mem_cons_self).2
      have g7 : H7 D = some (SetTO X.prog X.w D L) := (k7 D n6 _ g6).1
      have rows7 : ∀ q ∈ L, SqT X.K H7 q.1 (q.2.map V.int) := fun q m => SqT.keep R6.nl k7 (rows6 q m)
      simp only [RD] at ry
      obtain ⟨t, us, rfl, ht, ru⟩ := ry
      have := ru.ints
      subst this
      have nq := noSeq_ext g7
      have lenL := sr.2.2
      refine ⟨L, g7, t, k, rfl, ht, rows7, by omega, fun L' c1 c2 => ?_⟩
      refine ⟨h7, nss ++ [k], L', R7.alter nq, (rs6.keep R6 k7).alter nq, ?_, upd_same, fun q mq => SqT.alter nq ?_, sr.add c1 c2, fun ns mn => ?_, by simp; omega, ?_⟩
      · intro a na o ea
        have ne : a ≠ D := ne_of_none ea nD
        rw [upd_ne ne]
        exact (k16.trans k7) a na o ea
      · by_cases c : k ∈ L.map (·.2)
        · rw [c1 c] at mq
          exact rows7 q mq
        · rcases List.mem_cons.mp ((c2 c).mem_iff.mp mq) with z | z
          · rw [z]; exact ht
          · exact rows7 q z
      · rcases List.mem_append.mp mn with z | z
        · exact nee ns z
        · rw [List.mem_singleton.mp z]; exact nk
      · rw [List.map_append]
        exact q7
    | false => exact ⟨h6, nss, L, R6, rs6, k16, g6, rows6, sr, nee, by omega, q6⟩
  · have e0 : i = src.ds.length := by omega
    subst e0
    rw [List.drop_length] at q2
    obtain ⟨oks, nss', en, q3⟩ := q2
    have := tups_inj en
    subst this
    refine .inl ⟨(feed (D :: Z) _ h2 H2 (New.one nD) R2 k2 oks).2 (Nat.le_refl _), ?_⟩
    have ne : ∀ ns ∈ L.map (·.2), ns ≠ [] := fun ns mn => nee ns ((sr.2.1 ns).mp mn)
    refine ⟨D, L, rfl, g2, fun q mq => ⟨rows q mq, ne _ (List.mem_map.mpr ⟨q, mq, rfl⟩)⟩, fun L' p o nd np => ?_⟩
    have Ru := R2.unhide
    have r' := rows_rds (K := X.K) (Z := Z) (h := h2) (H := H2) (L := L') fun q hq => rows q (o.1.mem_iff.mp hq)
    have es : L'.map (·.2) = sortL (nubL nss) := sortL_of ((o.1.map _).trans sr.dups) (List.pairwise_map.mpr o.2)
    rw [es] at r'
    exact EndE.new (newL_mono (fun d h' e => e.mono (k1.trans k2)) q3) r' Ru np
/-- sorted({e for tg in e2 if ..}) -/
theorem ae_srtC {m : Bool} {own : List (Str × Nat)} {scope : Scope} {ti : ATI} {g : ATG} {tt : ATE} {ifs : List Expr} {spos : Pos} (hc : X.calm = true) (hu : X.A.units + 64 < cLine) (hN : X.N.Nodup) (hgl : Gl X "sorted") (hm : X.mg "sorted" = none) (hi : AI X tg e2 ti) (ok : BlkOk X.N X.env.scope scope own) (mg : MonG g) (mt : MonE tt) (me : MonE te)
    (hg : ∀ (s : Shared) (H : Hp) (C : Addr) (cl : List (Str × Addr)) (fp : List Addr), AV (X.blk s H scope (compEnvC scope cl C X.env) fp) (own.map (·.2)) tg g)
    (ht : ∀ (s : Shared) (H : Hp) (C : Addr) (cl : List (Str × Addr)) (fp : List Addr), PTs (X.blk s H scope (compEnvC scope cl C X.env) fp) ifs (lftT X.K (aTst tt)))
    (he : ∀ (s : Shared) (H : Hp) (C : Addr) (cl : List (Str × Addr)) (fp : List Addr), AE (X.blk s H scope (compEnvC scope cl C X.env) fp) e te) (hs : ∀ x, foldedSetIterable e2 X.env x = pure x) :
    AE X (.Call (.Name "sorted" p) [.SetComp e [⟨tg, e2, ifs, 0⟩] scope spos] [] pos) (aSrtC m ti g tt te (own.map (·.2))) := by
  refine ⟨fun σ h Q Q' w q => hi.mon _ _ _ _ (fun src h1 ⟨z, q1⟩ => ⟨z, lcD_mono mg mt (tInt_mon me) (fun acc h2 ⟨nss, e, q2⟩ => ⟨nss, e, newL_mono w q2⟩) _ _ _ q1⟩) q, pe_weak ?_ (srtC_w mg mt me hi.mon)⟩
  exact pe_callB (cr_sortS hc) hgl hm (by decide +kernel) (pa_cons (pe_scW (wayT X.prog X.w X.K) (te := lftE X.K te) (g := lftV X.K (own.map (·.2)) g) hc hu hN hi.run ok (fun s H C cl fp => (hg s H C cl fp).run) ht (fun s H C cl fp => (he s H C cl fp).run) hs) pa_nil rfl) (by decide) (by decide +kernel) rfl rfl
end
/-! ## sorted(set(xs)) -/
def aSrtSet (m : Bool) (te : ATE) : ATE := fun σ h Q => te σ h fun x h1 => ∃ nss : List (List Int), seqL h1 x = some (nss.map tupI) ∧ nss.length < 64 ∧ (∀ ns ∈ nss, ns ≠ []) ∧ newL m ((sortL (nubL nss)).map tupI) h1 Q
theorem srtSet_w {X : Cx} {m : Bool} {te : ATE} (me : MonE te) : ∀ σ H Q, lftE X.K (aSrtSet m te) σ H Q → tCB (rSortS X.K X.prog X.w) (tCons (tCB (rSetOfT X.K X.prog X.w) (tCons (lftE X.K te) tNil)) tNil) σ H Q := by
  rintro σ H Q ⟨Z, σa, h, rs, R, q⟩
  refine ⟨Z, σa, h, rs, R, me _ _ _ _ (fun x h1 ⟨nss, e1, few, ne, q1⟩ => ?_) q⟩
  intro v H1 r1 R1 k1
  obtain ⟨a, us, rfl, hs, ru⟩ := seqL_ok R1 r1 e1
  obtain ⟨ks, rfl, rfl, hL⟩ := rds_rows ru
  refine ⟨a, ks, rfl, hs, hL, by rw [List.length_map] at few; exact few, fun D L nD s1 s2 => ?_⟩
  have ns0 : NoSeq H1 D := by
    constructor
    · rintro xs (z | ⟨_, z⟩) <;> rw [nD] at z <;> cases z
    · rintro xs (z | ⟨_, z⟩) <;> rw [nD] at z <;> cases z
  refine ⟨D, L, rfl, upd_same, fun q mq => ⟨SqT.alter ns0 (hL q (s1 q mq)), ne _ (List.mem_map.mpr ⟨q, s1 q mq, rfl⟩)⟩, fun L' p o nd np => ?_⟩
  have R2 : RH X.K Z h1 (upd H1 D (SetTO X.prog X.w D L)) := R1.laid nD
  have k2 : Kp h1 H1 h1 (upd H1 D (SetTO X.prog X.w D L)) := Kp.laid nD
  have r' := rows_rds (K := X.K) (Z := Z) (h := h1) (H := upd H1 D (SetTO X.prog X.w D L)) (L := L') fun q hq => SqT.alter ns0 (hL q (s1 q (o.1.mem_iff.mp hq)))
  have pm : (L.map (·.2)).Perm (nubL (ks.map (·.2))) := (List.perm_ext_iff_of_nodup ((o.1.map (·.2)).nodup_iff.mp nd) (nubL_nodup _)).mpr fun ns => by
    rw [nubL_mem]
    constructor
    · intro mm
      obtain ⟨q, mq, rfl⟩ := List.mem_map.mp mm
      exact List.mem_map.mpr ⟨q, s1 q mq, rfl⟩
    · intro mm
      obtain ⟨q, mq, rfl⟩ := List.mem_map.mp mm
      exact s2 q mq
  have es : L'.map (·.2) = sortL (nubL (ks.map (·.2))) := sortL_of ((o.1.map _).trans pm) (List.pairwise_map.mpr o.2)
  rw [es] at r'
  exact EndE.new (newL_mono (fun d h' e => e.mono (k1.trans k2)) q1) r' R2 np
theorem ae_srtSet {X : Cx} {e : Expr} {te : ATE} {pos p p2 pos2 : Pos} {m : Bool} (hc : X.calm = true) (hu : X.A.units + 64 < cLine) (hg : Gl X "sorted") (hm : X.mg "sorted" = none) (hg2 : Gl X "set") (hm2 : X.mg "set" = none) (he : AE X e te) (hs : starEach [e] X.env = (false, eval e X.env) :: starEach [] X.env) :
    AE X (.Call (.Name "sorted" p) [.Call (.Name "set" p2) [e] [] pos2] [] pos) (aSrtSet m te) := by
  refine ⟨fun σ h Q Q' w q => he.mon _ _ _ _ (fun x h1 ⟨nss, e1, few, ne, q1⟩ => ⟨nss, e1, few, ne, newL_mono w q1⟩) q, pe_weak ?_ (srtSet_w he.mon)⟩
  exact pe_callB (cr_sortS hc) hg hm (by decide +kernel) (pa_cons (pe_callTy (cr_setOfT hc hu) hg2 hm2 (by decide +kernel) (pa_cons he.run pa_nil hs) (by decide) (by decide +kernel) hs rfl) pa_nil rfl) (by decide) (by decide +kernel) rfl rfl
end WF

open PySem L2
set_option Elab.async false
set_option linter.all false
set_option maxRecDepth 100000
set_option maxHeartbeats 1000000
/-! # part 8: the core syntax, what it means, and the check that it is the text -/
namespace WF
open PySem PySem.Spec PyProof.Rows L2
/-! ## syntax -/
inductive BI where
  | len | tuple | list (m : Bool) | abs | int | divmod | all | any | sum | min | max | isi | repr | sorted (m : Bool)
/-- functions of math -/
inductive MF where
  | gcd | lcm
  deriving DecidableEq
/-- a module's constant -/
inductive GV where
  | c (c : Const) | t1 (l : List Const) | t2 (l : List (List Const))
  deriving DecidableEq
inductive MT where
  | append | pop | popAt | count | index | insert
mutual
inductive CE where
  | cst (c : Const)
  | var (i : Nat)
  | glo (x : Str) (g : GV)
  | ty (n : String)
  | bin (op : Operator) (m : Bool) (a b : CE)
  | neg (a : CE)
  | nt (a : CE)
  | cmp (op : CmpOp) (a b : CE)
  | chn (o1 o2 : CmpOp) (a b c : CE)
  | con (op : BoolOp) (es : CA)
  | ife (c a b : CE)
  | tup (es : CA)
  | lst (m : Bool) (es : CA)
  | idx (a i : CE)
  | cut (m : Bool) (a : CE) (lo hi : CO)
  | rev (m : Bool) (a : CE)
  | rep (m : Bool) (es : CA) (b : CE)
  | fn (k : Nat) (es : CA)
  | fnK (k : Nat) (es : CA) (ks : List Str) (ws : CA) (pm : List Nat)
  | bi (b : BI) (es : CA)
  | mf (f : MF) (es : CA)
  | inn (neg : Bool) (a b : CE)
  | rvd (m lst : Bool) (a : CE)
  | srtS (m : Bool) (a : CE)
  | srtC (m : Bool) (p : CP) (it : CI) (e : CE) (own : List (Str × Nat))
  | met (t : MT) (i : Nat) (es : CA)
  | lc (m : Bool) (p : CP) (it : CI) (tt : CA) (e : CE) (own : List (Str × Nat))
inductive CA where
  | nil | cons (e : CE) (r : CA)
inductive CO where
  | no | pt (e : CE)
inductive CP where
  | nm (i : Nat) | tp (ps : CPs) | sb (o i : CE)
inductive CPs where
  | nil | cons (p : CP) (r : CPs)
inductive CI where
  | seq (e : CE) | rng (es : CA) | enm (e : CE) | zp (a b : CE)
end
mutual
inductive CS where
  | asg (p : CP) (e : CE)
  | par2 (i j : Nat) (es : CA)
  | par3 (i j l : Nat) (es : CA)
  | ret (e : CE) | retN
  | expr (e : CE)
  | ife (c : CE) (a b : CSs)
  | for_ (p : CP) (it : CI) (b : CSs)
  | whl (c : CE) (b : CSs)
  | brk | cnt | pas | nev
  | aug (i : Nat) (e : CE)
inductive CSs where
  | nil | cons (s : CS) (r : CSs) | frz (i : Nat) (r : CSs)
end
/-! ## meaning -/
@[simp] def cD : Const → D
  | .none => .non
  | .bool b => .bl b
  | .int i => .int i
  | .str s => .str s
  | _ => .non
@[simp] def gD : GV → D
  | .c c => cD c
  | .t1 l => .tup (l.map cD)
  | .t2 l => .tup (l.map fun m => .tup (m.map cD))
def opS (m : Bool) : Operator → AR2
  | .Add => sAdd m
  | .Sub => sSub
  | .Mult => sMul
  | .FloorDiv => sDiv
  | .Mod => sMod
  | .Pow => sPow
  | _ => fun _ _ _ _ => False
def cmpS : CmpOp → AR2
  | .Eq => sEq false
  | .NotEq => sEq true
  | .Lt => sRel fun i j => decide (i < j)
  | .LtE => sRel fun i j => decide (i ≤ j)
  | .Gt => sRel fun i j => decide (j < i)
  | .GtE => sRel fun i j => decide (j ≤ i)
  | .Is => sIs false
  | .IsNot => sIs true
  | _ => fun _ _ _ _ => False
def biS : BI → ARn
  | .len => nLen
  | .tuple => nTuple
  | .list m => nList m
  | .abs => nAbs
  | .int => nInt
  | .divmod => nDivmod
  | .all => nAll
  | .any => nAny
  | .sum => nSum
  | .min => nMin
  | .max => nMax
  | .isi => nIsi
  | .repr => nRepr
  | .sorted m => nSorted m
def mfS : MF → ARn
  | .gcd => nGcd
  | .lcm => nLcm
def mtS : MT → AMt
  | .append => mAppend
  | .pop => mPop
  | .popAt => mPopAt
  | .count => mCount
  | .index => mIndex
  | .insert => mInsert
/-- a promise, closed upwards -/
def up (sp : ASp) : ASp := fun ds h Q _ => ∃ Q0 : AQ, (∀ d h', Q0 d h' → Q d h') ∧ sp ds h Q0 noX
theorem up_of {sp : ASp} {ds : List D} {h : AH} {Q : AQ} (q : sp ds h Q noX) : up sp ds h Q noX := ⟨Q, fun _ _ z => z, q⟩
theorem up_mono (sp : ASp) : MonSp (up sp) := fun ds h Q Q' w ⟨Q0, w0, q⟩ => ⟨Q0, fun d h' z => w _ _ (w0 d h' z), q⟩
/-- the promises of the defs, by number: how many arguments, what -/
abbrev Gam := Nat → Nat × ASp
def lenA : CA → Nat
  | .nil => 0
  | .cons _ r => lenA r + 1
@[simp] def lenPs : CPs → Nat
  | .nil => 0
  | .cons _ r => lenPs r + 1
def aTrue : ATE := aC (.bl true)
section
variable (Γ : Gam)
mutual
def aE : CE → ATE
  | .cst c => aC (cD c)
  | .var i => aVar i
  | .glo _ g => aC (gD g)
  | .ty n => aC (.ty n)
  | .bin op m a b => aOp (opS m op) (aE a) (aE b)
  | .neg a => aUn sNeg (aE a)
  | .nt a => aNot (aE a)
  | .cmp op a b => aOp (cmpS op) (aE a) (aE b)
  | .chn o1 o2 a b c => aChn (cmpS o1) (cmpS o2) (aE a) (aE b) (aE c)
  | .con op es => aCon op es
  | .ife c a b => aIf (aE c) (aE a) (aE b)
  | .tup es => aTup (aA es)
  | .lst m es => aLst m (aA es)
  | .idx a i => aOp sIx (aE a) (aE i)
  | .cut m a lo hi => aCut m (aE a) (aO lo) (aO hi)
  | .rev m a => aRev m (aE a)
  | .rep m es b => aOp (sRep m) (aLst true (aA es)) (aE b)
  | .fn k es => aFn (Γ k).1 (up (Γ k).2) (aA es)
  | .fnK k es _ ws pm => aFnK (Γ k).1 (lenA es) (lenA ws) pm (up (Γ k).2) (aA es) (aA ws)
  | .bi b es => aCall (biS b) (aA es)
  | .mf f es => aCall (mfS f) (aA es)
  | .inn neg a b => aOp (sIn neg) (aE a) (aE b)
  | .rvd m lst a => aRvd m lst (aE a)
  | .srtS m a => aSrtSet m (aE a)
  | .srtC m p it e own => aSrtC m (aI it) (aP p) aTrue (aE e) (own.map (·.2))
  | .met t i es => aMet "list" (mtS t) (aVar i) (aA es)
  | .lc m p it tt e own => aLc m (aI it) (aP p) (match tt with | .nil => aTrue | .cons c _ => aE c) (aE e) (own.map (·.2))
def aCon (op : BoolOp) : CA → ATE
  | .nil => fun _ _ _ => False
  | .cons e .nil => aE e
  | .cons e r => match op with
    | .And => aAnd (aE e) (aCon op r)
    | .Or => aOr (aE e) (aCon op r)
def aA : CA → ATA
  | .nil => aNil
  | .cons e r => aCons (aE e) (aA r)
def aO : CO → ATO
  | .no => oNo
  | .pt e => oPt (aE e)
def aP : CP → ATG
  | .nm i => gN i
  | .tp ps => gT (aPs ps) (lenPs ps)
  | .sb o i => gS (aE o) (aE i)
def aPs : CPs → ATGs
  | .nil => gsNil
  | .cons p r => gsCons (aP p) (aPs r)
def aI : CI → ATI
  | .seq e => aSeq (aE e)
  | .rng es => match es with
    | .cons e .nil => aRng1 (aCons (aE e) aNil)
    | .cons a (.cons b .nil) => aRng2 (aCons (aE a) (aCons (aE b) aNil))
    | _ => fun _ _ _ => False
  | .enm e => aEnum (aCons (aE e) aNil)
  | .zp a b => aZip (aCons (aE a) (aCons (aE b) aNil))
end
mutual
def aS : CS → ATS
  | .asg p e => sAsg (aE Γ e) (aP Γ p)
  | .par2 i j es => sPar2 i j (aA Γ es)
  | .par3 i j l es => sPar3 i j l (aA Γ es)
  | .ret e => sRet (aE Γ e)
  | .retN => sRetN
  | .expr e => sDrop (aE Γ e)
  | .ife c a b => sIf (aE Γ c) (aSs a) (aSs b)
  | .for_ p it b => sFor (aI Γ it) (aP Γ p) (aSs b)
  | .whl c b => sWhile (aE Γ c) (aSs b)
  | .brk => sBrk
  | .cnt => sCnt
  | .pas => sNext
  | .nev => sNever
  | .aug i e => sAug i (aE Γ e)
def aSs : CSs → ATS
  | .nil => sNext
  | .cons s r => sSeq (aS s) (aSs r)
  | .frz i r => sFrz i (aSs r)
end
end
end WF

open PySem L2
set_option Elab.async false
set_option linter.all false
set_option maxRecDepth 100000
set_option maxHeartbeats 1000000
/-! # part 9: the check -/
namespace WF
open PySem PySem.Spec PyProof.Rows L2
/-! ## taking syntax apart -/
def plainE : Expr → Bool
  | .Constant .. => true
  | .Name .. => true
  | .BinOp .. => true
  | .UnaryOp .. => true
  | .Compare .. => true
  | .BoolOp .. => true
  | .IfExp .. => true
  | .Tuple .. => true
  | .List .. => true
  | .Subscript .. => true
  | .Call .. => true
  | .ListComp .. => true
  | _ => false
def dConst : Expr → Option Const
  | .Constant c _ _ => some c
  | _ => none
def dName : Expr → Option Str
  | .Name x _ => some x
  | _ => none
def dBin : Expr → Option (Expr × Operator × Expr)
  | .BinOp a op b _ => some (a, op, b)
  | _ => none
def dUn : Expr → Option (UnaryOp × Expr)
  | .UnaryOp op a _ => some (op, a)
  | _ => none
def dCmp : Expr → Option (Expr × List CmpOp × List Expr)
  | .Compare a ops bs _ => some (a, ops, bs)
  | _ => none
def dBool : Expr → Option (BoolOp × List Expr)
  | .BoolOp op es _ => some (op, es)
  | _ => none
def dIf : Expr → Option (Expr × Expr × Expr)
  | .IfExp c a b _ => some (c, a, b)
  | _ => none
def dTup : Expr → Option (List Expr)
  | .Tuple es _ _ => some es
  | _ => none
def dList : Expr → Option (List Expr)
  | .List es _ => some es
  | _ => none
def dSub : Expr → Option (Expr × Expr)
  | .Subscript a i _ => some (a, i)
  | _ => none
def dSlice : Expr → Option (Option Expr × Option Expr × Option Expr)
  | .Slice a b c _ => some (a, b, c)
  | _ => none
def dCall : Expr → Option (Expr × List Expr × List Keyword × Pos)
  | .Call f es ks p => some (f, es, ks, p)
  | _ => none
def dAttr : Expr → Option (Expr × Str × Pos)
  | .Attribute o a p => some (o, a, p)
  | _ => none
def dLc : Expr → Option (Expr × List Comprehension × Scope × Pos)
  | .ListComp e gs sc p => some (e, gs, sc, p)
  | _ => none
def dSc : Expr → Option (Expr × List Comprehension × Scope × Pos)
  | .SetComp e gs sc p => some (e, gs, sc, p)
  | _ => none
def isTupE : Expr → Bool
  | .Tuple .. => true
  | _ => false
theorem dSc_ok {e : Expr} {r} (h : dSc e = some r) : e = .SetComp r.1 r.2.1 r.2.2.1 r.2.2.2 := by cases e <;> simp_all [dSc]; subst h; simp
theorem isTupE_ok {e : Expr} (h : isTupE e = true) : ∃ es k p, e = .Tuple es k p := by cases e <;> simp_all [isTupE]
theorem dConst_ok {e : Expr} {c : Const} (h : dConst e = some c) : ∃ k p, e = .Constant c k p := by cases e <;> simp_all [dConst]
theorem dName_ok {e : Expr} {x : Str} (h : dName e = some x) : ∃ p, e = .Name x p := by cases e <;> simp_all [dName]
theorem dBin_ok {e : Expr} {r} (h : dBin e = some r) : ∃ p, e = .BinOp r.1 r.2.1 r.2.2 p := by cases e <;> simp_all [dBin]; subst h; simp
theorem dUn_ok {e : Expr} {r} (h : dUn e = some r) : ∃ p, e = .UnaryOp r.1 r.2 p := by cases e <;> simp_all [dUn]; subst h; simp
theorem dCmp_ok {e : Expr} {r} (h : dCmp e = some r) : ∃ p, e = .Compare r.1 r.2.1 r.2.2 p := by cases e <;> simp_all [dCmp]; subst h; simp
theorem dBool_ok {e : Expr} {r} (h : dBool e = some r) : ∃ p, e = .BoolOp r.1 r.2 p := by cases e <;> simp_all [dBool]; subst h; simp
theorem dIf_ok {e : Expr} {r} (h : dIf e = some r) : ∃ p, e = .IfExp r.1 r.2.1 r.2.2 p := by cases e <;> simp_all [dIf]; subst h; simp
theorem dTup_ok {e : Expr} {r} (h : dTup e = some r) : ∃ k p, e = .Tuple r k p := by cases e <;> simp_all [dTup]
theorem dList_ok {e : Expr} {r} (h : dList e = some r) : ∃ p, e = .List r p := by cases e <;> simp_all [dList]
theorem dSub_ok {e : Expr} {r} (h : dSub e = some r) : ∃ p, e = .Subscript r.1 r.2 p := by cases e <;> simp_all [dSub]; subst h; simp
theorem dSlice_ok {e : Expr} {r} (h : dSlice e = some r) : ∃ p, e = .Slice r.1 r.2.1 r.2.2 p := by cases e <;> simp_all [dSlice]; subst h; simp
theorem dCall_ok {e : Expr} {r} (h : dCall e = some r) : e = .Call r.1 r.2.1 r.2.2.1 r.2.2.2 := by cases e <;> simp_all [dCall]; subst h; simp
theorem dAttr_ok {e : Expr} {r} (h : dAttr e = some r) : e = .Attribute r.1 r.2.1 r.2.2 := by cases e <;> simp_all [dAttr]; subst h; simp
theorem dLc_ok {e : Expr} {r} (h : dLc e = some r) : e = .ListComp r.1 r.2.1 r.2.2.1 r.2.2.2 := by cases e <;> simp_all [dLc]; subst h; simp
/-! ## the static surroundings -/
structure CC where
  N : List Str
  sc : Scope
  st : Str → Bool
  i : Nat
  nm : List Str
  kw : List (Nat × Nat × List Str × List Nat)
  gl : List (Str × GV)
  mfs : List MF
def CC.kind (cc : CC) (x : Str) : Option NameKind := cc.sc.names.lookup x
def okName (x : Str) : Bool := !(x == ("__debug__" : Str)) && !(x == ("__classdict__" : Str)) && !decide (x = ("__name__" : Str))
/-- a name of the def, read -/
def CC.rd (cc : CC) (i : Nat) (x : Str) : Bool := okName x && decide (cc.N[i]? = some x) && match cc.kind x with
  | some .local => true
  | some .cell => true
  | some .free => true
  | _ => false
/-- .. stored -/
def CC.wr (cc : CC) (i : Nat) (x : Str) : Bool := decide (cc.N[i]? = some x) && match cc.kind x with
  | some .local => true
  | some .cell => cc.st x
  | _ => false
def CC.loc (cc : CC) (x : Str) : Bool := match cc.kind x with
  | some .local => true
  | _ => false
def CC.glob (cc : CC) (x : Str) : Bool := okName x && match cc.kind x with
  | some .globalImplicit => true
  | _ => false
/-! ## built-ins by name -/
def BI.nm : BI → Str
  | .len => "len"
  | .tuple => "tuple"
  | .list _ => "list"
  | .abs => "abs"
  | .int => "int"
  | .divmod => "divmod"
  | .all => "all"
  | .any => "any"
  | .sum => "sum"
  | .min => "min"
  | .max => "max"
  | .isi => "isinstance"
  | .repr => "repr"
  | .sorted _ => "sorted"
def MF.nm : MF → Str
  | .gcd => "gcd"
  | .lcm => "lcm"
def MF.id : MF → String
  | .gcd => "math.gcd"
  | .lcm => "math.lcm"
def builtinNames : List Str := ["len", "tuple", "list", "abs", "int", "divmod", "all", "any", "sum", "min", "max", "isinstance", "repr", "range", "bool", "str", "dict", "sorted", "set", "reversed", "enumerate", "zip"]
def tyNames : List String := ["int", "bool", "tuple", "list", "str", "dict"]
def MT.nm : MT → Str
  | .append => "append"
  | .pop => "pop"
  | .popAt => "pop"
  | .count => "count"
  | .index => "index"
  | .insert => "insert"
def opOk : Operator → Bool
  | .Add => true
  | .Sub => true
  | .Mult => true
  | .FloorDiv => true
  | .Mod => true
  | .Pow => true
  | _ => false
def cmpOk : CmpOp → Bool
  | .In => false
  | .NotIn => false
  | _ => true
def constOk : Const → Bool
  | .none => true
  | .bool _ => true
  | .int _ => true
  | .str _ => true
  | _ => false
/-- a local name of the line ln -/
def locAt (sc : Scope) (ln : Nat) : Expr → Option Str
  | .Name x p => if sc.names.lookup x == some .local && p.line == ln then some x else none
  | _ => none
def isStar : Expr → Bool
  | .Starred .. => true
  | _ => false
def swLine (ts : List Expr) : Nat := (ts.head?.map fun t => t.pos.line).getD 0
/-- how the targets ts take the values vs: some none: one after another; some names: by the swap; none: not told -/
def swN (sc : Scope) (ts vs : List Expr) : Option (Option (List Str)) :=
  let xs := ts.filterMap (locAt sc (swLine ts))
  match (ts.length == 2 || ts.length == 3) && vs.length == ts.length && !vs.any isStar && xs.length == ts.length && xs.eraseDups.length == xs.length && !vs.all (foldedForSure 8), vs.all (constantsAlone 8) with
  | false, _ => some none
  | true, false => some (some xs)
  | true, true => none
theorem swN_ok {env : Env} {ts vs : List Expr} {k k2 : Nat} {p p2 : Pos} {r : Option (List Str)} (hk : env.scope.kind = .function) (h : swN env.scope ts vs = some r) : swappedStores [.Tuple ts k p] (.Tuple vs k2 p2) env = pure r := by
  have hb : (env.blockKind != .function) = false := by unfold Env.blockKind; rw [hk]; rfl
  have e1 : ∀ f : Expr → Bool, (∀ e, f e = isStar e) → vs.any f = vs.any isStar := fun f hf => by rw [funext hf]
  have e2 : ∀ f : Expr → Option Str, (∀ e, f e = locAt env.scope (swLine ts) e) → ts.filterMap f = ts.filterMap (locAt env.scope (swLine ts)) := fun f hf => by rw [funext hf]
  unfold swN at h
  unfold swappedStores
  simp only [hb, Bool.or_false]
  rw [e1 _ fun e => by cases e <;> rfl, e2 _ fun e => by cases e <;> rfl]
  generalize ts.filterMap (locAt env.scope (swLine ts)) = xs at *
  cases c1 : (ts.length == 2 || ts.length == 3) <;> cases c2 : vs.length == ts.length <;> cases c3 : vs.any isStar <;> cases c4 : xs.length == ts.length <;> cases c5 : xs.eraseDups.length == xs.length <;> cases c6 : vs.all (foldedForSure 8) <;>
    cases c7 : vs.all (constantsAlone 8) <;> simp_all [bne]
/-! ## the check itself -/
def isNilL {α : Type} : List α → Bool
  | [] => true
  | _ => false
mutual
def chE (cc : CC) : CE → Expr → Bool
  | .cst c, e => constOk c && decide (dConst e = some c)
  | .var i, e => match dName e with
    | some x => cc.rd i x
    | none => false
  | .glo x g, e => match dName e with
    | some y => decide (x = y) && cc.glob y && decide (cc.gl.lookup y = some g)
    | none => false
  | .ty n, e => match dName e with
    | some y => decide (y = (n : Str)) && cc.glob y && decide (n ∈ tyNames)
    | none => false
  | .bin op _ a b, e => match dBin e with
    | some (x, op', y) => opOk op && decide (op = op') && chE cc a x && chE cc b y
    | none => false
  | .neg a, e => match dUn e with
    | some (.USub, x) => chE cc a x
    | _ => false
  | .nt a, e => match dUn e with
    | some (.Not, x) => chE cc a x
    | _ => false
  | .cmp op a b, e => match dCmp e with
    | some (x, [op'], [y]) => cmpOk op && decide (op = op') && chE cc a x && chE cc b y
    | _ => false
  | .chn o1 o2 a b c, e => match dCmp e with
    | some (x, [p1, p2], [y, z]) => cmpOk o1 && cmpOk o2 && decide (o1 = p1) && decide (o2 = p2) && chE cc a x && chE cc b y && chE cc c z
    | _ => false
  | .con op es, e => match dBool e with
    | some (op', xs) => decide (op = op') && chC cc es xs
    | _ => false
  | .ife c a b, e => match dIf e with
    | some (x, y, z) => chE cc c x && chE cc a y && chE cc b z
    | _ => false
  | .tup es, e => match dTup e with
    | some xs => chA cc es xs
    | _ => false
  | .lst _ es, e => match dList e with
    | some xs => chA cc es xs
    | _ => false
  | .idx a i, e => match dSub e with
    | some (x, y) => plainE y && chE cc a x && chE cc i y
    | _ => false
  | .cut _ a lo hi, e => match dSub e with
    | some (x, y) => (match dSlice y with
      | some (l, u, none) => chE cc a x && chO cc lo l && chO cc hi u
      | _ => false)
    | _ => false
  | .rev _ a, e => match dSub e with
    | some (x, y) => (match dSlice y with
      | some (none, none, some z) => (match dUn z with
        | some (.USub, w) => decide (dConst w = some (.int 1)) && chE cc a x
        | _ => false)
      | _ => false)
    | _ => false
  | .rep _ es b, e => match dBin e with
    | some (x, .Mult, y) => (match dList x with
      | some xs => chA cc es xs && chE cc b y
      | none => false)
    | _ => false
  | .fn k es, e => match dCall e with
    | some (f, xs, [], _) => (match dName f with
      | some y => decide (k < cc.i) && decide (cc.nm[k]? = some y) && cc.glob y && chA cc es xs
      | none => false)
    | _ => false
  | .fnK k es ks ws pm, e => match dCall e with
    | some (f, xs, kws, _) => (match dName f with
      | some y => decide (k < cc.i) && decide (cc.nm[k]? = some y) && cc.glob y && decide ((k, xs.length, ks, pm) ∈ cc.kw) && chA cc es xs && chK cc ws kws ks && !isNilL kws
      | none => false)
    | _ => false
  | .bi b es, e => match dCall e with
    | some (f, x :: xs, [], _) => (match dName f with
      | some y => decide (y = b.nm) && cc.glob y && chA cc es (x :: xs)
      | none => false)
    | _ => false
  | .mf m es, e => match dCall e with
    | some (f, x :: xs, [], _) => (match dName f with
      | some y => decide (y = m.nm) && decide (m ∈ cc.mfs) && cc.glob y && chA cc es (x :: xs)
      | none => false)
    | _ => false
  | .inn neg a b, e => match dCmp e with
    | some (x, [op'], [y]) => decide (op' = (if neg then .NotIn else .In)) && !behindInMarks op' y && chE cc a x && chE cc b y
    | _ => false
  | .rvd _ lst a, e => match dCall e with
    | some (f, [x], [], _) => (match dName f, dCall x with
      | some y, some (f2, [z], [], _) => (match dName f2 with
        | some y2 => decide (y = (if lst then "list" else "tuple" : Str)) && decide (y2 = ("reversed" : Str)) && cc.glob y && cc.glob y2 && plainE z && chE cc a z
        | none => false)
      | _, _ => false)
    | _ => false
  | .srtS _ a, e => match dCall e with
    | some (f, [x], [], _) => (match dName f, dCall x with
      | some y, some (f2, [z], [], _) => (match dName f2 with
        | some y2 => decide (y = ("sorted" : Str)) && decide (y2 = ("set" : Str)) && cc.glob y && cc.glob y2 && plainE z && chE cc a z
        | none => false)
      | _, _ => false)
    | _ => false
  | .srtC _ p it el own, e => match dCall e with
    | some (f, [x], [], _) => (match dName f, dSc x with
      | some y, some (x2, [⟨tg, iter, ifs, 0⟩], scope, _) =>
        let cb : CC := { cc with sc := relS scope cc.sc, st := fun y => scope.names.lookup y == some .cell }
        decide (y = ("sorted" : Str)) && cc.glob y && plainE iter && blkC cc.N cc.sc scope own && chP cb (own.map (·.2)) p tg && chI cc it tg iter && chE cb el x2 && isNilL ifs
      | _, _ => false)
    | _ => false
  | .met t i es, e => match dCall e with
    | some (f, xs, [], cp) => (match dAttr f with
      | some (o, a, ap) => decide (a = t.nm) && (ap.endLine == cp.line) && decide (xs.length < 20) && (match t with | .append => decide (xs.length = 1) | .pop => decide (xs.length = 0) | .popAt => decide (xs.length = 1) | .count => decide (xs.length = 1) | .index => decide (xs.length = 1) | .insert => decide (xs.length = 2)) && (match dName o with
        | some x => cc.rd i x && chA cc es xs
        | none => false)
      | none => false)
    | _ => false
  | .lc _ p it tt el own, e => match dLc e with
    | some (x, [⟨tg, iter, ifs, 0⟩], scope, _) =>
      let cb : CC := { cc with sc := relS scope cc.sc, st := fun y => scope.names.lookup y == some .cell }
      plainE iter && blkC cc.N cc.sc scope own && chP cb (own.map (·.2)) p tg && chI cc it tg iter && chE cb el x && (match tt with
        | .nil => isNilL ifs
        | .cons c _ => (match ifs with
          | [y] => chE cb c y
          | _ => false))
    | _ => false
def chC (cc : CC) : CA → List Expr → Bool
  | .nil, _ => false
  | .cons e .nil, xs => match xs with
    | [x] => chE cc e x
    | _ => false
  | .cons e (.cons e2 r), xs => match xs with
    | x :: y :: ys => chE cc e x && chC cc (.cons e2 r) (y :: ys)
    | _ => false
def chA (cc : CC) : CA → List Expr → Bool
  | .nil, xs => isNilL xs
  | .cons e r, xs => match xs with
    | x :: ys => plainE x && chE cc e x && chA cc r ys
    | [] => false
def chK (cc : CC) : CA → List Keyword → List Str → Bool
  | .nil, xs, ks => isNilL xs && isNilL ks
  | .cons e r, xs, ks => match xs, ks with
    | ⟨nm, x, _⟩ :: ys, k :: kt => decide (nm = some k) && chE cc e x && chK cc r ys kt
    | _, _ => false
def chO (cc : CC) : CO → Option Expr → Bool
  | .no, o => match o with
    | none => true
    | some _ => false
  | .pt e, o => match o with
    | some x => chE cc e x
    | none => false
/-- a target; vs: the slots that it may store (of a comprehension), or any -/
def chP (cc : CC) (vs : List Nat) : CP → Expr → Bool
  | .nm i, e => match dName e with
    | some x => cc.wr i x && decide (i ∈ vs)
    | none => false
  | .tp ps, e => match dTup e with
    | some es => chPs cc vs ps es
    | none => false
  | .sb o i, e => false
def chPs (cc : CC) (vs : List Nat) : CPs → List Expr → Bool
  | .nil, es => isNilL es
  | .cons p r, es => match es with
    | x :: ys => (match x with | .Starred .. => false | _ => true) && chP cc vs p x && chPs cc vs r ys
    | [] => false
def chI (cc : CC) : CI → Expr → Expr → Bool
  | .seq e, _, x => chE cc e x
  | .enm e, tg, x => match dCall x with
    | some (f, [x1], [], _) => (match dName f with
      | some y => decide (y = ("enumerate" : Str)) && cc.glob y && isTupE tg && plainE x1 && chE cc e x1
      | none => false)
    | _ => false
  | .zp a b, tg, x => match dCall x with
    | some (f, [x1, x2], [], _) => (match dName f with
      | some y => decide (y = ("zip" : Str)) && cc.glob y && isTupE tg && plainE x1 && plainE x2 && chE cc a x1 && chE cc b x2
      | none => false)
    | _ => false
  | .rng es, _, x => match dCall x with
    | some (f, xs, [], _) => (match dName f with
      | some y => decide (y = ("range" : Str)) && cc.glob y && (match es with
        | .cons a .nil => (match xs with | [x1] => plainE x1 && chE cc a x1 | _ => false)
        | .cons a (.cons b .nil) => (match xs with | [x1, x2] => plainE x1 && plainE x2 && chE cc a x1 && chE cc b x2 | _ => false)
        | _ => false)
      | none => false)
    | _ => false
end
end WF

open PySem L2
set_option Elab.async false
set_option linter.all false
set_option maxRecDepth 100000
set_option maxHeartbeats 2000000
/-! # part 10: what is checked means what it says: expressions -/
namespace WF
open PySem PySem.Spec PyProof.Rows L2
/-- a def of the program, by what the top has left and what it promises -/
structure Callee (P : Program) (w : World) (K : PySem.W.Frag) (mg : Str → Option Value) (base : Heap) (x : Str) (lv n : Nat) (sp : ASp) (kw : List (Nat × List Str × List Nat)) : Prop where
  ok : ∃ (f : Addr) (fd : FuncData) (ps : List Str), mg x = some (.ref f) ∧ PySem.W.keepIn K (.ref f) = true ∧ Binds K fd ps [] ∧ FnG P w K mg base lv f fd ps (lftSp K n (up sp)) ∧
    ∀ q ∈ kw, ∀ (s : Shared) (us ws : List Value), us.length = q.1 → ws.length = q.2.1.length → K.In s.heap → (perm q.2.2 (us ++ ws)).length = ps.length → BindsTo s fd ⟨us, q.2.1.zip ws⟩ (ps.zip (perm q.2.2 (us ++ ws)))
/-- the surroundings: what the module's names stand for -/
structure Facts (Γ : Gam) (P : Program) (w : World) (K : PySem.W.Frag) (mg : Str → Option Value) (base : Heap) (nm : List Str) (kw : List (Nat × Nat × List Str × List Nat)) (gl : List (Str × GV)) (mfs : List MF) (i : Nat) : Prop where
  free : ∀ x ∈ builtinNames, mg x = none
  mf : ∀ f ∈ mfs, mg f.nm = some (.builtin f.id)
  gl : ∀ x g, gl.lookup x = some g → ∃ u v, mg x = some u ∧ RelV v u ∧ ∀ Z h H, RD K Z h H (gD g) v
  fn : ∀ k x, k < i → nm[k]? = some x → Callee P w K mg base x (k + 1) (Γ k).1 (Γ k).2 ((kw.filter fun q => q.1 == k).map (·.2))
structure Cg (P : Program) (w : World) (K : PySem.W.Frag) (mg : Str → Option Value) (base : Heap) (cc : CC) (X : Cx) : Prop where
  P : X.prog = P
  w : X.w = w
  K : X.K = K
  mg : X.mg = mg
  base : X.base = base
  N : X.N = cc.N
  nd : X.N.Nodup
  sc : X.env.scope = cc.sc
  kd : X.env.scope.kind = .function
  fn : ∀ x, cc.st x = true → X.fn x = true
  calm : X.calm = true
  xe : X.xe = fun _ _ => False
  room : Room cc.i X.A
  g : X.A.guards = some []
theorem okName_ok {x : Str} (h : okName x = true) : (x == ("__debug__" : Str)) = false ∧ (x == ("__classdict__" : Str)) = false ∧ x ≠ "__name__" := by
  simp only [okName, Bool.and_eq_true, Bool.not_eq_true', decide_eq_false_iff_not] at h
  exact ⟨h.1.1, h.1.2, h.2⟩
theorem plain_star {e : Expr} (h : plainE e = true) (es : List Expr) (env : Env) : starEach (e :: es) env = (false, eval e env) :: starEach es env := by
  cases e <;> first | rfl | (exact absurd h Bool.false_ne_true)
theorem plain_ix {e : Expr} (h : plainE e = true) : PlainIx e := by
  intro o i
  cases e <;> first | rfl | (exact absurd h Bool.false_ne_true)
theorem plain_fold {e : Expr} (h : plainE e = true) (env : Env) (x : Value) : foldedSetIterable e env x = pure x := by
  cases e <;> first | rfl | (exact absurd h Bool.false_ne_true)
section
variable {Γ : Gam} {P : Program} {w : World} {K : PySem.W.Frag} {mg : Str → Option Value} {base : Heap} {cc : CC} {X : Cx}
theorem CC.rd_ok {i : Nat} {x : Str} (G : Cg P w K mg base cc X) (h : cc.rd i x = true) : X.N[i]? = some x ∧ Vis X.env.scope x ∧ (x == ("__debug__" : Str)) = false ∧ (x == ("__classdict__" : Str)) = false := by
  unfold CC.rd at h
  rw [Bool.and_eq_true, Bool.and_eq_true, decide_eq_true_eq] at h
  obtain ⟨⟨h1, h2⟩, h3⟩ := h
  obtain ⟨a, b, _⟩ := okName_ok h1
  refine ⟨by rw [G.N]; exact h2, ?_, a, b⟩
  unfold Vis
  rw [G.sc]
  unfold CC.kind at h3
  split at h3
  · rename_i e; exact .inl e
  · rename_i e; exact .inr (.inl e)
  · rename_i e; exact .inr (.inr e)
  · cases h3
theorem CC.wr_ok {i : Nat} {x : Str} (G : Cg P w K mg base cc X) (h : cc.wr i x = true) : X.N[i]? = some x ∧ L2.Loc X.env.scope x ∧ (X.fn x = true ∨ X.env.scope.names.lookup x = some .local) := by
  unfold CC.wr at h
  rw [Bool.and_eq_true, decide_eq_true_eq] at h
  obtain ⟨h2, h3⟩ := h
  refine ⟨by rw [G.N]; exact h2, ?_⟩
  unfold L2.Loc
  rw [G.sc]
  unfold CC.kind at h3
  split at h3
  · rename_i e; exact ⟨.inl e, .inr e⟩
  · rename_i e; exact ⟨.inr e, .inl (G.fn x h3)⟩
  · cases h3
theorem CC.glob_ok {x : Str} (G : Cg P w K mg base cc X) (h : cc.glob x = true) : Gl X x ∧ (x == ("__debug__" : Str)) = false ∧ x ≠ "__name__" := by
  unfold CC.glob at h
  rw [Bool.and_eq_true] at h
  obtain ⟨h1, h3⟩ := h
  obtain ⟨a, _, c⟩ := okName_ok h1
  refine ⟨?_, a, c⟩
  unfold Gl Env.kindOf
  rw [G.sc]
  unfold CC.kind at h3
  split at h3
  · rename_i e; exact e
  · cases h3
theorem isNil_ok {α : Type} {l : List α} (h : isNilL l = true) : l = [] := by cases l <;> simp_all [isNilL]
theorem chA_plain : ∀ {ca : CA} {es : List Expr}, chA cc ca es = true → ∀ e ∈ es, plainE e = true
  | .nil, es, h, e, m => by
    simp only [chA] at h
    rw [isNil_ok h] at m
    cases m
  | .cons c r, [], h, e, m => by cases m
  | .cons c r, x :: ys, h, e, m => by
    simp only [chA, Bool.and_eq_true] at h
    rcases List.mem_cons.mp m with z | z
    · subst z; exact h.1.1
    · exact chA_plain h.2 e z
theorem star_any : ∀ {es : List Expr} (pos : Pos) (env : Env), (∀ e ∈ es, plainE e = true) → (backTo pos (starEach es env)).any (·.1) = false
  | [], _, _, _ => rfl
  | e :: es, pos, env, h => by
    rw [plain_star (h e List.mem_cons_self)]
    unfold backTo
    rw [List.map_cons, List.any_cons]
    exact star_any pos env fun x m => h x (List.mem_cons_of_mem _ m)
theorem star_all : ∀ {es : List Expr} (pos : Pos) (env : Env), (∀ e ∈ es, plainE e = true) → (backTo pos (starEach es env)).all (fun x => !x.1) = true
  | [], _, _, _ => rfl
  | e :: es, pos, env, h => by
    rw [plain_star (h e List.mem_cons_self)]
    unfold backTo
    rw [List.map_cons, List.all_cons]
    exact star_all pos env fun x m => h x (List.mem_cons_of_mem _ m)
theorem o_op {op : Operator} {m : Bool} (h : opOk op = true) : AOp X (binaryOp op) (opS m op) := by
  cases op <;> first | exact o_add | exact o_sub | exact o_mul | exact o_div | exact o_mod | exact o_pow | (exact absurd h Bool.false_ne_true)
theorem o_cmp {op : CmpOp} (hu : X.A.units + 64 < cLine) (h : cmpOk op = true) : AOp X (compareOp op) (cmpS op) := by
  cases op <;> first | exact o_eq hu | exact o_ne hu | exact o_rel op_lt | exact o_rel op_le | exact o_rel op_gt | exact o_rel op_ge | exact o_is | exact o_isnot | (exact absurd h Bool.false_ne_true)
theorem cmp_mark {op : CmpOp} (h : cmpOk op = true) (b : Expr) : behindInMarks op b = false := by
  refine nobehind b (fun e => ?_) (fun e => ?_) <;> subst e <;> exact absurd h Bool.false_ne_true
theorem rd_c {Z : List Addr} {h : AH} {H : Hp} {c : Const} (ok : constOk c = true) : ∃ v, RD K Z h H (cD c) v ∧ (∀ k pos, PE X (.Constant c k pos) (tC v)) ∧ ∀ Z h H, RD K Z h H (cD c) v := by
  cases c with
  | none => exact ⟨.non, rfl, fun _ _ => pe_non, fun _ _ _ => rfl⟩
  | bool b => exact ⟨.bl b, rfl, fun _ _ => pe_bl, fun _ _ _ => rfl⟩
  | int i => exact ⟨.int i, rfl, fun _ _ => pe_int, fun _ _ _ => rfl⟩
  | str s => exact ⟨.str s, rfl, fun _ _ => pe_str, fun _ _ _ => rfl⟩
  | _ => exact absurd ok Bool.false_ne_true
theorem ae_bi {b : BI} {x : Expr} {xs : List Expr} {p pos : Pos} {t : ATA} (G : Cg P w K mg base cc X) (F : ∀ x ∈ builtinNames, mg x = none) (hg : cc.glob b.nm = true) (ha : AA X (x :: xs) t) (hp : ∀ e ∈ x :: xs, plainE e = true) :
    AE X (.Call (.Name b.nm p) (x :: xs) [] pos) (aCall (biS b) t) := by
  obtain ⟨g1, g2, g3⟩ := CC.glob_ok G hg
  have st := plain_star (hp x List.mem_cons_self) xs X.env
  have an := star_any pos X.env fun e m => hp e (List.mem_cons_of_mem _ m)
  have u64 := G.room.units
  cases b with
  | len => exact ae_callB b_len g1 (by rw [G.mg]; exact F _ (by decide +kernel)) (by decide +kernel) ha g3 g2 st an
  | tuple => exact ae_callTy b_tuple g1 (by rw [G.mg]; exact F _ (by decide +kernel)) (by decide +kernel) ha g3 g2 st an
  | list m => exact ae_callTy b_list g1 (by rw [G.mg]; exact F _ (by show ("list" : Str) ∈ _; decide +kernel)) (by show bootBuiltins ("list" : Str) = _; decide +kernel) ha g3 g2 st an
  | abs => exact ae_callB b_abs g1 (by rw [G.mg]; exact F _ (by decide +kernel)) (by decide +kernel) ha g3 g2 st an
  | int => exact ae_callTy b_int g1 (by rw [G.mg]; exact F _ (by decide +kernel)) (by decide +kernel) ha g3 g2 st an
  | divmod => exact ae_callB b_divmod g1 (by rw [G.mg]; exact F _ (by decide +kernel)) (by decide +kernel) ha g3 g2 st an
  | all => exact ae_callB (b_all G.calm) g1 (by rw [G.mg]; exact F _ (by decide +kernel)) (by decide +kernel) ha g3 g2 st an
  | any => exact ae_callB (b_any G.calm) g1 (by rw [G.mg]; exact F _ (by decide +kernel)) (by decide +kernel) ha g3 g2 st an
  | sum => exact ae_callB (b_sum G.calm) g1 (by rw [G.mg]; exact F _ (by decide +kernel)) (by decide +kernel) ha g3 g2 st an
  | min => exact ae_callB (b_min G.calm) g1 (by rw [G.mg]; exact F _ (by decide +kernel)) (by decide +kernel) ha g3 g2 st an
  | max => exact ae_callB (b_max G.calm) g1 (by rw [G.mg]; exact F _ (by decide +kernel)) (by decide +kernel) ha g3 g2 st an
  | isi => exact ae_callB b_isi g1 (by rw [G.mg]; exact F _ (by decide +kernel)) (by decide +kernel) ha g3 g2 st an
  | sorted m => exact ae_callB b_sorted g1 (by rw [G.mg]; exact F _ (by show ("sorted" : Str) ∈ _; decide +kernel)) (by show bootBuiltins ("sorted" : Str) = _; decide +kernel) ha g3 g2 st an
  | repr => exact ae_callB (b_repr G.g (by have := G.room.un; omega)) g1 (by rw [G.mg]; exact F _ (by decide +kernel)) (by decide +kernel) ha g3 g2 st an
theorem ae_mt {t : MT} {i : Nat} {x : Str} {xs : List Expr} {p ap cp : Pos} {ta : ATA} (G : Cg P w K mg base cc X) (hr : cc.rd i x = true) (hl : (ap.endLine == cp.line) = true) (h20 : xs.length < 20)
    (hn : (match t with | .append => decide (xs.length = 1) | .pop => decide (xs.length = 0) | .popAt => decide (xs.length = 1) | .count => decide (xs.length = 1) | .index => decide (xs.length = 1) | .insert => decide (xs.length = 2)) = true) (ha : AA X xs ta) (hta : xs = [] → ta = aNil) (hp : ∀ e ∈ xs, plainE e = true) :
    AE X (.Call (.Attribute (.Name x p) t.nm ap) xs [] cp) (aMet "list" (mtS t) (aVar i) ta) := by
  obtain ⟨h1, h2, h3, h4⟩ := CC.rd_ok G hr
  have hv : AE X (.Name x p) (aVar i) := ae_var h1 h2 h3 h4
  have few : ∀ {e : Expr} {es : List Expr}, xs = e :: es → ((backTo cp (starEach (e :: es) X.env)).all (fun x => !x.1) && (backToKw cp (keywordEach [] X.env)).all (fun x => x.1.isSome)
      && decide ((e :: es).length + ([] : List Keyword).length + (if ([] : List Keyword).isEmpty then 0 else 1) < 30)) = true := fun {e es} q => by
    rw [star_all cp X.env (by rw [← q]; exact hp)]
    have : (e :: es).length < 20 := by rw [← q]; exact h20
    simp only [Bool.true_and, Bool.and_eq_true, decide_eq_true_eq]
    exact ⟨rfl, by simp at this ⊢; omega⟩
  cases t with
  | count =>
    cases xs with
    | nil => cases hn
    | cons e es => exact ae_met PySem.F.plainAttrs_list PySem.F.slot_list_count PySem.F.type_list_count (m_count (by have := G.room.un; omega)) hv ha rfl (few rfl) hl (plain_star (hp e List.mem_cons_self) es X.env) (star_any cp X.env fun e m => hp e (List.mem_cons_of_mem _ m))
  | index =>
    cases xs with
    | nil => cases hn
    | cons e es => exact ae_met PySem.F.plainAttrs_list PySem.F.slot_list_index PySem.F.type_list_index (m_index (by have := G.room.un; omega)) hv ha rfl (few rfl) hl (plain_star (hp e List.mem_cons_self) es X.env) (star_any cp X.env fun e m => hp e (List.mem_cons_of_mem _ m))
  | insert =>
    cases xs with
    | nil => cases hn
    | cons e es => exact ae_met PySem.F.plainAttrs_list PySem.F.slot_list_insert PySem.F.type_list_insert m_insert hv ha rfl (few rfl) hl (plain_star (hp e List.mem_cons_self) es X.env) (star_any cp X.env fun e m => hp e (List.mem_cons_of_mem _ m))
  | append =>
    cases xs with
    | nil => cases hn
    | cons e es => exact ae_met PySem.F.plainAttrs_list PySem.F.slot_list_append PySem.F.type_list_append m_append hv ha rfl (few rfl) hl (plain_star (hp e List.mem_cons_self) es X.env) (star_any cp X.env fun e m => hp e (List.mem_cons_of_mem _ m))
  | pop =>
    cases xs with
    | nil =>
      rw [hta rfl]
      exact ae_met0 PySem.F.plainAttrs_list PySem.F.slot_list_pop PySem.F.type_list_pop m_pop hv rfl hl
    | cons e es => simp at hn
  | popAt =>
    cases xs with
    | nil => cases hn
    | cons e es => exact ae_met PySem.F.plainAttrs_list PySem.F.slot_list_pop PySem.F.type_list_pop m_popAt hv ha rfl (few rfl) hl (plain_star (hp e List.mem_cons_self) es X.env) (star_any cp X.env fun e m => hp e (List.mem_cons_of_mem _ m))
theorem at_ife {c a b : Expr} {tc ta tb : ATE} {pos : Pos} (hc : AT X c (aTst tc)) (ha : AT X a (aTst ta)) (hb : AT X b (aTst tb)) (mc : MonE tc) (ma : MonE ta) (mb : MonE tb) : AT X (.IfExp c a b pos) (aTst (aIf tc ta tb)) := by
  refine ⟨atst_mon (aif_mon mc ma mb), ⟨?_⟩⟩
  intro pins s σ H Q I hq
  obtain ⟨Z, σa, h, rs, R, q⟩ := hq
  have step : lftT X.K (aTst tc) σ H (fun k H1 => if k = true then lftT X.K (aTst ta) σ H1 Q else lftT X.K (aTst tb) σ H1 Q) := by
    refine ⟨Z, σa, h, rs, R, mc _ _ _ _ ?_ q⟩
    rintro d h1 ⟨k, e1, q1⟩
    subst e1
    refine ⟨k, rfl, ?_⟩
    intro H1 R1 k1
    cases k with
    | true =>
      refine ⟨Z, σa, h1, rs.keep R k1, R1, ma _ _ _ _ ?_ q1⟩
      rintro d2 h2 ⟨k2, e2, q2⟩
      exact ⟨k2, e2, q2.mono k1⟩
    | false =>
      refine ⟨Z, σa, h1, rs.keep R k1, R1, mb _ _ _ _ ?_ q1⟩
      rintro d2 h2 ⟨k2, e2, q2⟩
      exact ⟨k2, e2, q2.mono k1⟩
  show wpAny _ _ (do if ← isTrue c X.env (eval c X.env) then isTrue a X.env (eval a X.env) else isTrue b X.env (eval b X.env)) _ _ s
  refine wpAny_bind (thn (hc.run.run pins s σ H _ I step) ?_)
  rintro k s1 ⟨H1, I1, q1⟩
  cases k with
  | true => exact ha.run.run pins s1 σ H1 Q I1 q1
  | false => exact hb.run.run pins s1 σ H1 Q I1 q1
end
end WF

open PySem L2
set_option Elab.async false
set_option linter.all false
set_option maxRecDepth 100000
set_option maxHeartbeats 2000000
/-! # part 11: what is checked means what it says: expressions -/
namespace WF
open PySem PySem.Spec PyProof.Rows L2
section
variable {Γ : Gam} {P : Program} {w : World} {K : PySem.W.Frag} {mg : Str → Option Value} {base : Heap}
/-- the block of a comprehension -/
def CC.blk (cc : CC) (scope : Scope) : CC := { cc with sc := relS scope cc.sc, st := fun y => scope.names.lookup y == some .cell }
theorem Cg.blk {cc : CC} {X : Cx} {scope : Scope} {own : List (Str × Nat)} (G : Cg P w K mg base cc X) (ok : BlkOk X.N X.env.scope scope own) (s : Shared) (H : Hp) (C : Addr) (cl : List (Str × Addr)) (fp : List Addr) :
    Cg P w K mg base (cc.blk scope) (X.blk s H scope (compEnvC scope cl C X.env) fp) :=
  ⟨G.P, G.w, G.K, G.mg, G.base, G.N, G.nd, (by show relS scope X.env.scope = relS scope cc.sc; rw [G.sc]), ok.kind, fun x e => e, G.calm, rfl, G.room, G.g⟩
theorem nostar_assign {e : Expr} (h : (match e with | .Starred .. => false | _ => true) = true) (es : List Expr) (env : Env) : assignEach (e :: es) env = (false, assign e env) :: assignEach es env := by
  cases e <;> first | rfl | (exact absurd h Bool.false_ne_true)
theorem andL {a b : Bool} (h : (a && b) = true) : a = true := (Bool.and_eq_true a b ▸ h).1
theorem andR {a b : Bool} (h : (a && b) = true) : b = true := (Bool.and_eq_true a b ▸ h).2
abbrev FactsC (Γ : Gam) (P : Program) (w : World) (K : PySem.W.Frag) (mg : Str → Option Value) (base : Heap) (cc : CC) : Prop := Facts Γ P w K mg base cc.nm cc.kw cc.gl cc.mfs cc.i
def OkE (Γ : Gam) (X : Cx) (e : Expr) (ce : CE) : Prop := AE X e (aE Γ ce) ∧ AT X e (aTst (aE Γ ce))
def OkC (Γ : Gam) (X : Cx) (op : BoolOp) (xs : List Expr) (es : CA) : Prop := ∀ pos, AE X (.BoolOp op xs pos) (aCon Γ op es) ∧ AW X (.BoolOp op xs pos) (aTst (aCon Γ op es))
theorem OkE.val {X : Cx} {e : Expr} {ce : CE} (a : AE X e (aE Γ ce)) (he : ∀ whole, isTrue e X.env whole = (do let v ← whole; standAt e.pos; holding [v] (truthy v))) : OkE Γ X e ce := ⟨a, at_val a he⟩
theorem ok_name_cst {X : Cx} {x : Str} {p : Pos} {d : D} {v : V} {ce : CE} (hp : PE X (.Name x p) (tC v)) (hr : ∀ Z h H, RD X.K Z h H d v) (e : aE Γ ce = aC d) : OkE Γ X (.Name x p) ce := by
  refine OkE.val ?_ fun _ => rfl
  rw [e]
  exact ae_cst hp hr
theorem tyNames_blt : ∀ n ∈ tyNames, bootBuiltins (n : Str) = some (.type n) := by decide +kernel
theorem tyNames_free : ∀ n ∈ tyNames, (n : Str) ∈ builtinNames := by decide +kernel
theorem backTo_any {pos : Pos} {env : Env} {es : List Expr} (h : ∀ e ∈ es, plainE e = true) : (backTo pos (starEach es env)).any (·.1) = false := star_any pos env h
theorem kw_step {pos : Pos} {env : Env} {nm : Option Str} {x : Expr} {kp : Pos} {ys : List Keyword} : ∃ t, backToKw pos (keywordEach (⟨nm, x, kp⟩ :: ys) env) = (nm, t) :: backToKw pos (keywordEach ys env) := ⟨_, rfl⟩
theorem kw_ok {pos : Pos} {env : Env} : ∀ {cc : CC} {ca : CA} {kws : List Keyword} {ks : List Str}, chK cc ca kws ks = true →
    (backToKw pos (keywordEach kws env)).all (·.1.isSome) = true ∧ (backToKw pos (keywordEach kws env)).filterMap (·.1) = ks ∧ (backToKw pos (keywordEach kws env)).any (·.1.isNone) = false
  | cc, .nil, kws, ks, h => by
    simp only [chK] at h
    have h1 := isNil_ok (andL h)
    have h2 := isNil_ok (andR h)
    subst h1 h2
    exact ⟨rfl, rfl, rfl⟩
  | cc, .cons e r, [], ks, h => by simp [chK] at h
  | cc, .cons e r, _ :: _, [], h => by simp [chK] at h
  | cc, .cons e r, ⟨nm, x, kp⟩ :: ys, k :: kt, h => by
    simp only [chK] at h
    have h1 := of_decide_eq_true (andL (andL h))
    obtain ⟨a, b, c⟩ := kw_ok (andR h) (pos := pos) (env := env)
    subst h1
    obtain ⟨t, e⟩ := kw_step (pos := pos) (env := env) (nm := some k) (x := x) (kp := kp) (ys := ys)
    rw [e]
    exact ⟨a, congrArg (k :: ·) b, c⟩
theorem chA_len {cc : CC} : ∀ {ca : CA} {es : List Expr}, chA cc ca es = true → es.length = lenA ca
  | .nil, es, h => by
    simp only [chA] at h
    rw [isNil_ok h]
    rfl
  | .cons e r, [], h => by simp [chA] at h
  | .cons e r, x :: ys, h => by
    simp only [chA] at h
    exact congrArg (· + 1) (chA_len (andR h))
theorem chK_len {cc : CC} : ∀ {ca : CA} {kws : List Keyword} {ks : List Str}, chK cc ca kws ks = true → ks.length = lenA ca
  | .nil, kws, ks, h => by
    simp only [chK] at h
    rw [isNil_ok (andR h)]
    rfl
  | .cons e r, [], ks, h => by simp [chK] at h
  | .cons e r, _ :: _, [], h => by simp [chK] at h
  | .cons e r, ⟨nm, x, kp⟩ :: ys, k :: kt, h => by
    simp only [chK] at h
    exact congrArg (· + 1) (chK_len (andR h))
theorem chPs_len {cc : CC} {vs : List Nat} {env : Env} : ∀ {ps : CPs} {es : List Expr}, chPs cc vs ps es = true → (assignEach es env).length = lenPs ps ∧ (assignEach es env).findIdx? (·.1) = none
  | .nil, es, h => by
    simp only [chPs] at h
    rw [isNil_ok h]
    exact ⟨rfl, rfl⟩
  | .cons p r, [], h => by simp [chPs] at h
  | .cons p r, x :: ys, h => by
    simp only [chPs] at h
    obtain ⟨a, b⟩ := chPs_len (env := env) (andR h)
    rw [nostar_assign (andL (andL h))]
    exact ⟨congrArg (· + 1) a, by rw [List.findIdx?_cons, b]; rfl⟩
/-- all that a comprehension's rules ask -/
structure LcOk (X : Cx) (x tg iter : Expr) (ifs : List Expr) (scope : Scope) (own : List (Str × Nat)) (ti : ATI) (g : ATG) (tt te : ATE) : Prop where
  hi : AI X tg iter ti
  ok : BlkOk X.N X.env.scope scope own
  mg : MonG g
  mt : MonE tt
  me : MonE te
  hg : ∀ (s : Shared) (H : Hp) (C : Addr) (cl : List (Str × Addr)) (fp : List Addr), AV (X.blk s H scope (compEnvC scope cl C X.env) fp) (own.map (·.2)) tg g
  ht : ∀ (s : Shared) (H : Hp) (C : Addr) (cl : List (Str × Addr)) (fp : List Addr), PTs (X.blk s H scope (compEnvC scope cl C X.env) fp) ifs (lftT X.K (aTst tt))
  he : ∀ (s : Shared) (H : Hp) (C : Addr) (cl : List (Str × Addr)) (fp : List Addr), AE (X.blk s H scope (compEnvC scope cl C X.env) fp) x te
  hs : ∀ v, foldedSetIterable iter X.env v = pure v
theorem pts_true {X : Cx} : PTs X [] (lftT X.K (aTst aTrue)) := by
  refine ⟨fun pins s σ H Q I h => pts_nil.run pins s σ H Q I ?_⟩
  obtain ⟨Z, σa, h, rs, R, k, e, q⟩ := h
  cases e
  exact q H R Kp.refl
abbrev inBlk (P : Program) (w : World) (K : PySem.W.Frag) (mg : Str → Option Value) (base : Heap) (cb : CC) (Xb : Cx) : Prop := Cg P w K mg base cb Xb
theorem lcPack {cc : CC} {X : Cx} {x tg iter : Expr} {ifs : List Expr} {scope : Scope} {own : List (Str × Nat)} {ti : ATI} {g : ATG} {tt te : ATE} (G : Cg P w K mg base cc X) (hp : plainE iter = true) (hb : blkC cc.N cc.sc scope own = true)
    (hi : AI X tg iter ti)
    (hg : ∀ Xb, Cg P w K mg base (cc.blk scope) Xb → AV Xb (own.map (·.2)) tg g) (ht : ∀ Xb, Cg P w K mg base (cc.blk scope) Xb → PTs Xb ifs (lftT Xb.K (aTst tt)) ∧ MonE tt) (he : ∀ Xb, Cg P w K mg base (cc.blk scope) Xb → AE Xb x te) :
    LcOk X x tg iter ifs scope own ti g tt te := by
  have ok : BlkOk X.N X.env.scope scope own := by
    rw [G.N, G.sc]
    exact blkOk_by hb
  have G0 := G.blk ok X.s_0 X.H_0 0 [] []
  exact ⟨hi, ok, (hg _ G0).mon, (ht _ G0).2, (he _ G0).mon, fun s H C cl fp => hg _ (G.blk ok s H C cl fp), fun s H C cl fp => (ht _ (G.blk ok s H C cl fp)).1, fun s H C cl fp => he _ (G.blk ok s H C cl fp), plain_fold hp X.env⟩
theorem LcOk.ae {m : Bool} {X : Cx} {x tg iter : Expr} {ifs : List Expr} {scope : Scope} {own : List (Str × Nat)} {ti : ATI} {g : ATG} {tt te : ATE} {pos : Pos} (L : LcOk X x tg iter ifs scope own ti g tt te) (hc : X.calm = true) (hN : X.N.Nodup) :
    AE X (.ListComp x [⟨tg, iter, ifs, 0⟩] scope pos) (aLc m ti g tt te (own.map (·.2))) := ae_lc hc hN L.hi L.ok L.mg L.mt L.me L.hg L.ht L.he L.hs
mutual
theorem chE_ok : ∀ (ce : CE) (cc : CC) (X : Cx) (e : Expr), Cg P w K mg base cc X → FactsC Γ P w K mg base cc → chE cc ce e = true → OkE Γ X e ce
  | .cst c, cc, X, e, G, F, h => by
    unfold chE at h
    obtain ⟨k, p, rfl⟩ := dConst_ok (of_decide_eq_true (andR h))
    obtain ⟨v, _, hp, hr⟩ := rd_c (K := X.K) (X := X) (Z := []) (h := fun _ => none) (H := fun _ => none) (andL h)
    exact OkE.val (ae_cst (hp k p) hr) fun _ => rfl
  | .var i, cc, X, e, G, F, h => by
    unfold chE at h
    split at h
    · rename_i x q
      obtain ⟨p, rfl⟩ := dName_ok q
      obtain ⟨h1, h2, h3, h4⟩ := CC.rd_ok G h
      exact OkE.val (ae_var h1 h2 h3 h4) fun _ => rfl
    · cases h
  | .glo x g, cc, X, e, G, F, h => by
    unfold chE at h
    split at h
    · rename_i y q
      obtain ⟨p, rfl⟩ := dName_ok q
      obtain ⟨g1, g2, g3⟩ := CC.glob_ok G (andR (andL h))
      obtain ⟨u, v, m1, m2, m3⟩ := F.gl y g (of_decide_eq_true (andR h))
      exact ok_name_cst (pe_glob g1 (by rw [G.mg]; exact m1) m2 g2) (by rw [G.K]; exact m3) rfl
    · cases h
  | .ty n, cc, X, e, G, F, h => by
    unfold chE at h
    split at h
    · rename_i y q
      obtain ⟨p, rfl⟩ := dName_ok q
      obtain ⟨g1, g2, g3⟩ := CC.glob_ok G (andR (andL h))
      have m := of_decide_eq_true (andR h)
      have e := of_decide_eq_true (andL (andL h))
      subst e
      exact ok_name_cst (d := .ty n) (v := .ty n) (pe_bltn g1 (by rw [G.mg]; exact F.free _ (tyNames_free n m)) (tyNames_blt n m) rfl g3 g2) (fun _ _ _ => rfl) rfl
    · cases h
  | .bin op m a b, cc, X, e, G, F, h => by
    unfold chE at h
    split at h
    · rename_i x op' y q
      obtain ⟨p, rfl⟩ := dBin_ok q
      have e := of_decide_eq_true (andR (andL (andL h)))
      subst e
      exact OkE.val (ae_bin (o_op (andL (andL (andL h)))) (chE_ok a cc X x G F (andR (andL h))).1 (chE_ok b cc X y G F (andR h)).1) fun _ => rfl
    · cases h
  | .neg a, cc, X, e, G, F, h => by
    unfold chE at h
    split at h
    · rename_i x q
      obtain ⟨p, rfl⟩ := dUn_ok q
      exact OkE.val (ae_un u_neg (chE_ok a cc X x G F h).1) fun _ => rfl
    · cases h
  | .nt a, cc, X, e, G, F, h => by
    unfold chE at h
    split at h
    · rename_i x q
      obtain ⟨p, rfl⟩ := dUn_ok q
      have A := chE_ok a cc X x G F h
      exact ⟨ae_not A.1, at_not A.2 A.1.mon⟩
    · cases h
  | .cmp op a b, cc, X, e, G, F, h => by
    unfold chE at h
    split at h
    · rename_i x op' y q
      obtain ⟨p, rfl⟩ := dCmp_ok q
      have e := of_decide_eq_true (andR (andL (andL h)))
      subst e
      have c := andL (andL (andL h))
      have u64 := G.room.units
      have A := (chE_ok a cc X x G F (andR (andL h))).1
      have B := (chE_ok b cc X y G F (andR h)).1
      exact ⟨ae_cmp (o_cmp u64 c) A B (cmp_mark c y), at_cmp (o_cmp u64 c) A B (cmp_mark c y)⟩
    · cases h
  | .chn o1 o2 a b c, cc, X, e, G, F, h => by
    unfold chE at h
    split at h
    · rename_i x p1 p2 y z q
      obtain ⟨p, rfl⟩ := dCmp_ok q
      have hc := chE_ok c cc X z G F (andR h)
      replace h := andL h
      have hb := chE_ok b cc X y G F (andR h)
      replace h := andL h
      have ha := chE_ok a cc X x G F (andR h)
      replace h := andL h
      have e2 := of_decide_eq_true (andR h)
      replace h := andL h
      have e1 := of_decide_eq_true (andR h)
      subst e1 e2
      have c1 := andL (andL h)
      have c2 := andR (andL h)
      have u64 := G.room.units
      exact ⟨ae_chn (o_cmp u64 c1) (o_cmp u64 c2) ha.1 hb.1 hc.1 (cmp_mark c2 z), at_chn (o_cmp u64 c1) (o_cmp u64 c2) ha.1 hb.1 hc.1 (cmp_mark c2 z)⟩
    · cases h
  | .con op es, cc, X, e, G, F, h => by
    unfold chE at h
    split at h
    · rename_i op' xs q
      obtain ⟨p, rfl⟩ := dBool_ok q
      have e := of_decide_eq_true (andL h)
      subst e
      have A := chC_ok es cc X op xs G F (andR h) p
      exact ⟨A.1, ⟨A.2.mon, A.2.run.pt⟩⟩
    · cases h
  | .ife c a b, cc, X, e, G, F, h => by
    unfold chE at h
    split at h
    · rename_i x y z q
      obtain ⟨p, rfl⟩ := dIf_ok q
      have hb := chE_ok b cc X z G F (andR h)
      have ha := chE_ok a cc X y G F (andR (andL h))
      have hc := chE_ok c cc X x G F (andL (andL h))
      exact ⟨ae_if hc.2 hc.1.mon ha.1 hb.1, at_ife hc.2 ha.2 hb.2 hc.1.mon ha.1.mon hb.1.mon⟩
    · cases h
  | .tup es, cc, X, e, G, F, h => by
    unfold chE at h
    split at h
    · rename_i xs q
      obtain ⟨k, p, rfl⟩ := dTup_ok q
      exact OkE.val (ae_tup (chA_ok es cc X xs G F h)) fun _ => rfl
    · cases h
  | .lst m es, cc, X, e, G, F, h => by
    unfold chE at h
    split at h
    · rename_i xs q
      obtain ⟨p, rfl⟩ := dList_ok q
      exact OkE.val (ae_lst (chA_ok es cc X xs G F h)) fun _ => rfl
    · cases h
  | .idx a i, cc, X, e, G, F, h => by
    unfold chE at h
    split at h
    · rename_i x y q
      obtain ⟨p, rfl⟩ := dSub_ok q
      exact OkE.val (ae_ix o_ix (chE_ok a cc X x G F (andR (andL h))).1 (chE_ok i cc X y G F (andR h)).1 (plain_ix (andL (andL h)))) fun _ => rfl
    · cases h
  | .cut m a lo hi, cc, X, e, G, F, h => by
    unfold chE at h
    split at h
    · rename_i x y q
      obtain ⟨p, rfl⟩ := dSub_ok q
      split at h
      · rename_i l u q2
        obtain ⟨p2, e2⟩ := dSlice_ok q2
        subst e2
        exact OkE.val (ae_cut (chE_ok a cc X x G F (andL (andL h))).1 (chO_ok lo cc X l G F (andR (andL h))) (chO_ok hi cc X u G F (andR h))) fun _ => rfl
      · cases h
    · cases h
  | .rep m es b, cc, X, e, G, F, h => by
    unfold chE at h
    split at h
    · rename_i x y q
      obtain ⟨p, rfl⟩ := dBin_ok q
      split at h
      · rename_i xs q2
        obtain ⟨p2, rfl⟩ := dList_ok q2
        exact OkE.val (ae_bin o_rep (ae_lst (chA_ok es cc X xs G F (andL h))) (chE_ok b cc X y G F (andR h)).1) fun _ => rfl
      · cases h
    · cases h
  | .rev m a, cc, X, e, G, F, h => by
    unfold chE at h
    split at h
    · rename_i x y q
      obtain ⟨p, rfl⟩ := dSub_ok q
      split at h
      · rename_i z q2
        obtain ⟨p2, e2⟩ := dSlice_ok q2
        subst e2
        split at h
        · rename_i ww q3
          obtain ⟨p3, e3⟩ := dUn_ok q3
          dsimp only at e3
          subst e3
          obtain ⟨k4, p4, e4⟩ := dConst_ok (of_decide_eq_true (andL h))
          subst e4
          exact OkE.val (ae_rev (chE_ok a cc X x G F (andR h)).1) fun _ => rfl
        · cases h
      · cases h
    · cases h
  | .fn k es, cc, X, e, G, F, h => by
    unfold chE at h
    split at h
    · rename_i f xs p q
      have e := dCall_ok q
      subst e
      split at h
      · rename_i y q2
        obtain ⟨p2, e2⟩ := dName_ok q2
        subst e2
        obtain ⟨g1, g2, g3⟩ := CC.glob_ok G (andR (andL h))
        have hA := andR h
        replace h := andL (andL h)
        obtain ⟨f, fd, ps, c1, c2, c3, c4, _⟩ := (F.fn k y (of_decide_eq_true (andL h)) (of_decide_eq_true (andR h))).ok
        have ha := chA_ok es cc X xs G F hA
        have lt : k + 1 ≤ cc.i := of_decide_eq_true (andL h)
        have FG : FnG X.prog X.w X.K X.mg X.base cc.i f fd ps (lftSp X.K (Γ k).1 (up (Γ k).2)) := by rw [G.P, G.w, G.K, G.mg, G.base]; exact c4.mono lt
        cases xs with
        | nil =>
          cases es with
          | nil => exact OkE.val (ae_fn0 (up_mono _) FG G.g G.room g1 (by rw [G.mg]; exact c1) (by rw [G.K]; exact c2) (by rw [G.K]; exact c3) g2) fun _ => rfl
          | cons _ _ => simp [chA] at hA
        | cons x1 xr =>
          have pl := chA_plain hA
          exact OkE.val (ae_fn (up_mono _) FG G.g G.room g1 (by rw [G.mg]; exact c1) (by rw [G.K]; exact c2) (by rw [G.K]; exact c3) ha g2 (plain_star (pl x1 List.mem_cons_self) xr X.env) (star_any _ _ fun e m => pl e (List.mem_cons_of_mem _ m))) fun _ => rfl
      · cases h
    · cases h
  | .fnK k es ks ws pm, cc, X, e, G, F, h => by
    unfold chE at h
    split at h
    · rename_i f xs kws p q
      have e := dCall_ok q
      subst e
      split at h
      · rename_i y q2
        obtain ⟨p2, e2⟩ := dName_ok q2
        subst e2
        replace h := andL h
        have hK := andR h
        replace h := andL h
        have hA := andR h
        replace h := andL h
        have hm := of_decide_eq_true (andR h)
        obtain ⟨g1, g2, g3⟩ := CC.glob_ok G (andR (andL h))
        replace h := andL (andL h)
        obtain ⟨f, fd, ps, c1, c2, c3, c4, c5⟩ := (F.fn k y (of_decide_eq_true (andL h)) (of_decide_eq_true (andR h))).ok
        have ha := chA_ok es cc X xs G F hA
        have hk := chK_ok ws cc X kws ks G F hK
        have lt : k + 1 ≤ cc.i := of_decide_eq_true (andL h)
        have FG : FnG X.prog X.w X.K X.mg X.base cc.i f fd ps (lftSp X.K (Γ k).1 (up (Γ k).2)) := by rw [G.P, G.w, G.K, G.mg, G.base]; exact c4.mono lt
        have pl := chA_plain hA
        obtain ⟨k1, k2, k3⟩ := kw_ok hK (pos := p) (env := X.env)
        have mem : (xs.length, ks, pm) ∈ (cc.kw.filter fun q => q.1 == k).map (·.2) := List.mem_map.mpr ⟨_, List.mem_filter.mpr ⟨hm, by simp⟩, rfl⟩
        have bnd : ∀ (s : Shared) (us vs : List Value), us.length = lenA es → vs.length = lenA ws → X.K.In s.heap → (perm pm (us ++ vs)).length = ps.length → BindsTo s fd ⟨us, ks.zip vs⟩ (ps.zip (perm pm (us ++ vs))) := by
          intro s us vs l1 l2 ki l
          rw [G.K] at ki
          exact c5 _ mem s us vs (by rw [l1, chA_len hA]) (by rw [l2, chK_len hK]) ki l
        cases xs with
        | nil =>
          cases es with
          | nil => exact OkE.val (ae_fnK0 (n2 := lenA ws) (up_mono _) FG G.g G.room g1 (by rw [G.mg]; exact c1) (by rw [G.K]; exact c2) bnd hk k1 k2 g2 (by rw [Bool.or_eq_false_iff]; exact ⟨rfl, k3⟩)) fun _ => rfl
          | cons _ _ => simp [chA] at hA
        | cons x xs =>
          refine OkE.val (ae_fnK (n1 := lenA es) (n2 := lenA ws) (up_mono _) FG G.g G.room g1 (by rw [G.mg]; exact c1) (by rw [G.K]; exact c2) bnd ha hk k1 k2 g2 (plain_star (pl x List.mem_cons_self) xs X.env) ?_) fun _ => rfl
          rw [Bool.or_eq_false_iff]
          exact ⟨star_any _ _ pl, k3⟩
      · cases h
    · cases h
  | .bi b es, cc, X, e, G, F, h => by
    unfold chE at h
    split at h
    · rename_i f x xs p q
      have e := dCall_ok q
      subst e
      split at h
      · rename_i y q2
        obtain ⟨p2, e2⟩ := dName_ok q2
        subst e2
        have e := of_decide_eq_true (andL (andL h))
        subst e
        exact OkE.val (ae_bi G F.free (andR (andL h)) (chA_ok es cc X (x :: xs) G F (andR h)) (chA_plain (andR h))) fun _ => rfl
      · cases h
    · cases h
  | .mf m es, cc, X, e, G, F, h => by
    unfold chE at h
    split at h
    · rename_i f x xs p q
      have e := dCall_ok q
      subst e
      split at h
      · rename_i y q2
        obtain ⟨p2, e2⟩ := dName_ok q2
        subst e2
        have pl := chA_plain (andR h)
        have ha := chA_ok es cc X (x :: xs) G F (andR h)
        replace h := andL h
        obtain ⟨g1, g2, g3⟩ := CC.glob_ok G (andR h)
        have e := of_decide_eq_true (andL (andL h))
        subst e
        have hm := F.mf m (of_decide_eq_true (andR (andL h)))
        cases m with
        | gcd => exact OkE.val (ae_callFun b_gcd g1 (by rw [G.mg]; exact hm) ha g2 (plain_star (pl x List.mem_cons_self) xs X.env) (star_any _ _ fun e m => pl e (List.mem_cons_of_mem _ m))) fun _ => rfl
        | lcm => exact OkE.val (ae_callFun b_lcm g1 (by rw [G.mg]; exact hm) ha g2 (plain_star (pl x List.mem_cons_self) xs X.env) (star_any _ _ fun e m => pl e (List.mem_cons_of_mem _ m))) fun _ => rfl
      · cases h
    · cases h
  | .inn neg a b, cc, X, e, G, F, h => by
    unfold chE at h
    split at h
    · rename_i x op' y q
      obtain ⟨p, rfl⟩ := dCmp_ok q
      have hm : behindInMarks op' y = false := by simpa using andR (andL (andL h))
      have e := of_decide_eq_true (andL (andL (andL h)))
      have A := (chE_ok a cc X x G F (andR (andL h))).1
      have B := (chE_ok b cc X y G F (andR h)).1
      have u65 : X.A.units + 65 < cLine := by have := G.room.un; omega
      cases neg with
      | true =>
        have e : op' = .NotIn := e
        subst e
        exact ⟨ae_cmp (o_notIn u65) A B hm, at_cmp (o_notIn u65) A B hm⟩
      | false =>
        have e : op' = .In := e
        subst e
        exact ⟨ae_cmp (o_in u65) A B hm, at_cmp (o_in u65) A B hm⟩
    · cases h
  | .rvd m lst a, cc, X, e, G, F, h => by
    unfold chE at h
    split at h
    · rename_i f x p q
      have e := dCall_ok q
      dsimp only at e
      subst e
      split at h
      · rename_i y f2 z p2 q1 q2
        obtain ⟨p1, e1⟩ := dName_ok q1
        subst e1
        have e2 := dCall_ok q2
        dsimp only at e2
        subst e2
        split at h
        · rename_i y2 q3
          obtain ⟨p3, e3⟩ := dName_ok q3
          subst e3
          have A := (chE_ok a cc X z G F (andR h)).1
          replace h := andL h
          have pz := andR h
          replace h := andL h
          obtain ⟨g1, _, _⟩ := CC.glob_ok G (andR h)
          replace h := andL h
          obtain ⟨g2, _, _⟩ := CC.glob_ok G (andR h)
          have e4 := of_decide_eq_true (andR (andL h))
          have e5 := of_decide_eq_true (andL (andL h))
          subst e4
          cases lst with
          | true =>
            have e5 : y = ("list" : Str) := e5
            subst e5
            exact OkE.val (ae_lstRev G.calm g2 (by rw [G.mg]; exact F.free _ (by decide +kernel)) g1 (by rw [G.mg]; exact F.free _ (by decide +kernel)) A (plain_star pz [] X.env)) fun _ => rfl
          | false =>
            have e5 : y = ("tuple" : Str) := e5
            subst e5
            exact OkE.val (ae_tupRev G.calm g2 (by rw [G.mg]; exact F.free _ (by decide +kernel)) g1 (by rw [G.mg]; exact F.free _ (by decide +kernel)) A (plain_star pz [] X.env)) fun _ => rfl
        · cases h
      · cases h
    · cases h
  | .srtS m a, cc, X, e, G, F, h => by
    unfold chE at h
    split at h
    · rename_i f x p q
      have e := dCall_ok q
      dsimp only at e
      subst e
      split at h
      · rename_i y f2 z p2 q1 q2
        obtain ⟨p1, e1⟩ := dName_ok q1
        subst e1
        have e2 := dCall_ok q2
        dsimp only at e2
        subst e2
        split at h
        · rename_i y2 q3
          obtain ⟨p3, e3⟩ := dName_ok q3
          subst e3
          have A := (chE_ok a cc X z G F (andR h)).1
          replace h := andL h
          have pz := andR h
          replace h := andL h
          obtain ⟨g1, _, _⟩ := CC.glob_ok G (andR h)
          replace h := andL h
          obtain ⟨g2, _, _⟩ := CC.glob_ok G (andR h)
          have e4 := of_decide_eq_true (andR (andL h))
          have e5 := of_decide_eq_true (andL (andL h))
          subst e4 e5
          exact OkE.val (ae_srtSet G.calm G.room.units g2 (by rw [G.mg]; exact F.free _ (by decide +kernel)) g1 (by rw [G.mg]; exact F.free _ (by decide +kernel)) A (plain_star pz [] X.env)) fun _ => rfl
        · cases h
      · cases h
    · cases h
  | .srtC m p it el own, cc, X, e, G, F, h => by
    unfold chE at h
    split at h
    · rename_i f x pos q
      have e := dCall_ok q
      dsimp only at e
      subst e
      split at h
      · rename_i y x2 tg iter ifs scope p2 q1 q2
        obtain ⟨p1, e1⟩ := dName_ok q1
        subst e1
        have e2 := dSc_ok q2
        dsimp only at e2
        subst e2
        replace h : (decide (y = ("sorted" : Str)) && cc.glob y && plainE iter && blkC cc.N cc.sc scope own && chP (cc.blk scope) (own.map (·.2)) p tg && chI cc it tg iter && chE (cc.blk scope) el x2 && isNilL ifs) = true := h
        have hn := isNil_ok (andR h)
        replace h := andL h
        have hE := andR h
        replace h := andL h
        have hI := andR h
        replace h := andL h
        have hP := andR h
        replace h := andL h
        have hB := andR h
        replace h := andL h
        have hp := andR h
        replace h := andL h
        obtain ⟨g1, _, _⟩ := CC.glob_ok G (andR h)
        have e5 := of_decide_eq_true (andL h)
        subst e5 hn
        have L : LcOk X x2 tg iter [] scope own (aI Γ it) (aP Γ p) aTrue (aE Γ el) := lcPack G hp hB (chI_ok it cc X tg iter G F hI) (fun Xb Gb => chP_ok p (cc.blk scope) Xb _ tg Gb F hP) (fun Xb Gb => ⟨pts_true, fun σ h Q Q' w q => w _ _ q⟩) (fun Xb Gb => (chE_ok el (cc.blk scope) Xb x2 Gb F hE).1)
        exact OkE.val (ae_srtC G.calm G.room.units G.nd g1 (by rw [G.mg]; exact F.free _ (by decide +kernel)) L.hi L.ok L.mg L.mt L.me L.hg L.ht L.he L.hs) fun _ => rfl
      · cases h
    · cases h
  | .met t i es, cc, X, e, G, F, h => by
    unfold chE at h
    split at h
    · rename_i f xs cp q
      have e := dCall_ok q
      subst e
      split at h
      · rename_i o a ap q2
        have e2 := dAttr_ok q2
        subst e2
        have h5 := andR h
        replace h := andL h
        have h4 := andR h
        replace h := andL h
        have h3 := of_decide_eq_true (andR h)
        replace h := andL h
        have h2 := andR h
        have e := of_decide_eq_true (andL h)
        subst e
        split at h5
        · rename_i x q3
          obtain ⟨p3, e3⟩ := dName_ok q3
          subst e3
          have hA := andR h5
          refine OkE.val (ae_mt G (andL h5) h2 h3 h4 (chA_ok es cc X xs G F hA) (fun e => ?_) (chA_plain hA)) fun _ => rfl
          subst e
          cases es with
          | nil => rfl
          | cons _ _ => simp [chA] at hA
        · cases h5
      · cases h
    · cases h
  | .lc m p it .nil el own, cc, X, e, G, F, h => by
    unfold chE at h
    split at h
    · rename_i x tg iter ifs scope pos q
      have e := dLc_ok q
      dsimp only at e
      subst e
      replace h : (plainE iter && blkC cc.N cc.sc scope own && chP (cc.blk scope) (own.map (·.2)) p tg && chI cc it tg iter && chE (cc.blk scope) el x && isNilL ifs) = true := h
      have hn := isNil_ok (andR h)
      replace h := andL h
      have hE := andR h
      replace h := andL h
      have hI := andR h
      replace h := andL h
      have hP := andR h
      subst hn
      exact OkE.val (LcOk.ae (m := m) (lcPack G (andL (andL h)) (andR (andL h)) (chI_ok it cc X tg iter G F hI) (fun Xb Gb => chP_ok p (cc.blk scope) Xb _ tg Gb F hP) (fun Xb Gb => ⟨pts_true, fun σ h Q Q' w q => w _ _ q⟩) (fun Xb Gb => (chE_ok el (cc.blk scope) Xb x Gb F hE).1)) G.calm G.nd) fun _ => rfl
    · cases h
  | .lc m p it (.cons c r) el own, cc, X, e, G, F, h => by
    unfold chE at h
    split at h
    · rename_i x tg iter ifs scope pos q
      have e := dLc_ok q
      dsimp only at e
      subst e
      have hT := andR h
      replace h : (plainE iter && blkC cc.N cc.sc scope own && chP (cc.blk scope) (own.map (·.2)) p tg && chI cc it tg iter && chE (cc.blk scope) el x) = true := andL h
      have hE := andR h
      replace h := andL h
      have hI := andR h
      replace h := andL h
      have hP := andR h
      dsimp only at hT
      split at hT
      · rename_i y
        exact OkE.val (LcOk.ae (m := m) (lcPack G (andL (andL h)) (andR (andL h)) (chI_ok it cc X tg iter G F hI) (fun Xb Gb => chP_ok p (cc.blk scope) Xb _ tg Gb F hP) (fun Xb Gb => ⟨pts_one (chE_ok c (cc.blk scope) Xb y Gb F hT).2.run, (chE_ok c (cc.blk scope) Xb y Gb F hT).1.mon⟩) (fun Xb Gb => (chE_ok el (cc.blk scope) Xb x Gb F hE).1)) G.calm G.nd) fun _ => rfl
      · cases hT
    · cases h
theorem chC_ok : ∀ (es : CA) (cc : CC) (X : Cx) (op : BoolOp) (xs : List Expr), Cg P w K mg base cc X → FactsC Γ P w K mg base cc → chC cc es xs = true → OkC Γ X op xs es
  | .nil, cc, X, op, xs, G, F, h => by simp [chC] at h
  | .cons e .nil, cc, X, op, xs, G, F, h => by
    unfold chC at h
    split at h
    · rename_i x
      have A := chE_ok e cc X x G F h
      intro pos
      cases op with
      | And => exact ⟨ae_one A.1, aw_and1 A.2⟩
      | Or => exact ⟨ae_one A.1, aw_or1 A.2⟩
    · cases h
  | .cons e (.cons e2 r), cc, X, op, xs, G, F, h => by
    unfold chC at h
    split at h
    · rename_i x y ys
      have A := chE_ok e cc X x G F (andL h)
      have B := chC_ok (.cons e2 r) cc X op (y :: ys) G F (andR h)
      intro pos
      have B := B pos
      cases op with
      | And => exact ⟨ae_and A.1 B.1, aw_and A.2 B.2 A.1.mon B.1.mon⟩
      | Or => exact ⟨ae_or A.1 B.1, aw_or A.2 B.2 A.1.mon B.1.mon⟩
    · cases h
theorem chA_ok : ∀ (es : CA) (cc : CC) (X : Cx) (xs : List Expr), Cg P w K mg base cc X → FactsC Γ P w K mg base cc → chA cc es xs = true → AA X xs (aA Γ es)
  | .nil, cc, X, xs, G, F, h => by
    unfold chA at h
    rw [isNil_ok h]
    exact aa_nil
  | .cons e r, cc, X, xs, G, F, h => by
    unfold chA at h
    split at h
    · rename_i x ys
      exact aa_cons (chE_ok e cc X x G F (andR (andL h))).1 (chA_ok r cc X ys G F (andR h)) (plain_star (andL (andL h)) ys X.env)
    · cases h
theorem chK_ok : ∀ (es : CA) (cc : CC) (X : Cx) (xs : List Keyword) (ks : List Str), Cg P w K mg base cc X → FactsC Γ P w K mg base cc → chK cc es xs ks = true → AK X xs (aA Γ es)
  | .nil, cc, X, xs, ks, G, F, h => by
    unfold chK at h
    rw [isNil_ok (andL h)]
    exact ak_nil
  | .cons e r, cc, X, [], ks, G, F, h => by simp [chK] at h
  | .cons e r, cc, X, _ :: _, [], G, F, h => by simp [chK] at h
  | .cons e r, cc, X, ⟨nm, x, kp⟩ :: ys, k :: kt, G, F, h => by
    simp only [chK] at h
    exact ak_cons (chE_ok e cc X x G F (andR (andL h))).1 (chK_ok r cc X ys kt G F (andR h))
theorem chO_ok : ∀ (co : CO) (cc : CC) (X : Cx) (o : Option Expr), Cg P w K mg base cc X → FactsC Γ P w K mg base cc → chO cc co o = true → AO X o (aO Γ co)
  | .no, cc, X, o, G, F, h => by
    unfold chO at h
    cases o with
    | none => exact ao_no
    | some _ => cases h
  | .pt e, cc, X, o, G, F, h => by
    unfold chO at h
    cases o with
    | none => cases h
    | some x => exact ao_pt (chE_ok e cc X x G F h).1
theorem chP_ok : ∀ (p : CP) (cc : CC) (X : Cx) (vs : List Nat) (e : Expr), Cg P w K mg base cc X → FactsC Γ P w K mg base cc → chP cc vs p e = true → AV X vs e (aP Γ p)
  | .nm i, cc, X, vs, e, G, F, h => by
    unfold chP at h
    split at h
    · rename_i x q
      obtain ⟨p, rfl⟩ := dName_ok q
      obtain ⟨h1, h2, h3⟩ := CC.wr_ok G (andL h)
      exact av_name G.nd h1 h2 h3 (of_decide_eq_true (andR h))
    · cases h
  | .tp ps, cc, X, vs, e, G, F, h => by
    unfold chP at h
    split at h
    · rename_i es q
      obtain ⟨k, p, rfl⟩ := dTup_ok q
      obtain ⟨a, b⟩ := chPs_len (env := X.env) h
      exact av_tup G.calm (chPs_ok ps cc X vs es G F h) a b
    · cases h
  | .sb o i, cc, X, vs, e, G, F, h => by
    unfold chP at h
    cases h
theorem chPs_ok : ∀ (ps : CPs) (cc : CC) (X : Cx) (vs : List Nat) (es : List Expr), Cg P w K mg base cc X → FactsC Γ P w K mg base cc → chPs cc vs ps es = true → AVs X vs es (aPs Γ ps)
  | .nil, cc, X, vs, es, G, F, h => by
    unfold chPs at h
    rw [isNil_ok h]
    exact avs_nil
  | .cons p r, cc, X, vs, es, G, F, h => by
    unfold chPs at h
    split at h
    · rename_i x ys
      exact avs_cons (chP_ok p cc X vs x G F (andR (andL h))) (chPs_ok r cc X vs ys G F (andR h)) (by rw [nostar_assign (andL (andL h))]; rfl)
    · cases h
theorem chI_ok : ∀ (it : CI) (cc : CC) (X : Cx) (tg e : Expr), Cg P w K mg base cc X → FactsC Γ P w K mg base cc → chI cc it tg e = true → AI X tg e (aI Γ it)
  | .seq a, cc, X, tg, e, G, F, h => by
    unfold chI at h
    exact ai_seq (chE_ok a cc X e G F h).1
  | .enm a, cc, X, tg, e, G, F, h => by
    unfold chI at h
    split at h
    · rename_i f x1 p q
      have e := dCall_ok q
      dsimp only at e
      subst e
      split at h
      · rename_i y q2
        obtain ⟨p2, e2⟩ := dName_ok q2
        subst e2
        have A := (chE_ok a cc X x1 G F (andR h)).1
        replace h := andL h
        have px := andR h
        replace h := andL h
        obtain ⟨es, k, p3, rfl⟩ := isTupE_ok (andR h)
        replace h := andL h
        obtain ⟨g1, _, _⟩ := CC.glob_ok G (andR h)
        have e := of_decide_eq_true (andL h)
        subst e
        exact ai_enum g1 (by rw [G.mg]; exact F.free _ (by decide +kernel)) (aa_cons A aa_nil (plain_star px [] X.env)) (plain_star px [] X.env)
      · cases h
    · cases h
  | .zp a b, cc, X, tg, e, G, F, h => by
    unfold chI at h
    split at h
    · rename_i f x1 x2 p q
      have e := dCall_ok q
      dsimp only at e
      subst e
      split at h
      · rename_i y q2
        obtain ⟨p2, e2⟩ := dName_ok q2
        subst e2
        have B := (chE_ok b cc X x2 G F (andR h)).1
        replace h := andL h
        have A := (chE_ok a cc X x1 G F (andR h)).1
        replace h := andL h
        have px2 := andR h
        replace h := andL h
        have px1 := andR h
        replace h := andL h
        obtain ⟨es, k, p3, rfl⟩ := isTupE_ok (andR h)
        replace h := andL h
        obtain ⟨g1, _, _⟩ := CC.glob_ok G (andR h)
        have e := of_decide_eq_true (andL h)
        subst e
        exact ai_zip g1 (by rw [G.mg]; exact F.free _ (by decide +kernel)) (aa_cons A (aa_cons B aa_nil (plain_star px2 [] X.env)) (plain_star px1 [x2] X.env)) (plain_star px1 [x2] X.env) (star_any _ _ fun e m => by
          rcases List.mem_singleton.mp m with rfl
          exact px2)
      · cases h
    · cases h
  | .rng .nil, cc, X, tg, e, G, F, h => by
    unfold chI at h
    split at h
    · split at h
      · simp at h
      · cases h
    · cases h
  | .rng (.cons a .nil), cc, X, tg, e, G, F, h => by
    unfold chI at h
    split at h
    · rename_i f xs p q
      have e := dCall_ok q
      subst e
      split at h
      · rename_i y q2
        obtain ⟨p2, e2⟩ := dName_ok q2
        subst e2
        have e := of_decide_eq_true (andL (andL h))
        subst e
        obtain ⟨g1, g2, g3⟩ := CC.glob_ok G (andR (andL h))
        replace h := andR h
        dsimp only at h
        split at h
        · rename_i x1
          exact ai_rng1 g1 (by rw [G.mg]; exact F.free _ (by decide +kernel)) (aa_cons (chE_ok a cc X x1 G F (andR h)).1 aa_nil (plain_star (andL h) [] X.env)) (plain_star (andL h) [] X.env)
        · cases h
      · cases h
    · cases h
  | .rng (.cons a (.cons b .nil)), cc, X, tg, e, G, F, h => by
    unfold chI at h
    split at h
    · rename_i f xs p q
      have e := dCall_ok q
      subst e
      split at h
      · rename_i y q2
        obtain ⟨p2, e2⟩ := dName_ok q2
        subst e2
        have e := of_decide_eq_true (andL (andL h))
        subst e
        obtain ⟨g1, g2, g3⟩ := CC.glob_ok G (andR (andL h))
        replace h := andR h
        dsimp only at h
        split at h
        · rename_i x1 x2
          have p2 := andR (andL (andL h))
          have p1 := andL (andL (andL h))
          exact ai_rng2 g1 (by rw [G.mg]; exact F.free _ (by decide +kernel)) (aa_cons (chE_ok a cc X x1 G F (andR (andL h))).1 (aa_cons (chE_ok b cc X x2 G F (andR h)).1 aa_nil (plain_star p2 [] X.env)) (plain_star p1 [x2] X.env)) (by rw [plain_star p1, plain_star p2]; rfl) (plain_star p2 [] X.env)
        · cases h
      · cases h
    · cases h
  | .rng (.cons a (.cons b (.cons c r))), cc, X, tg, e, G, F, h => by
    unfold chI at h
    split at h
    · split at h
      · simp at h
      · cases h
    · cases h
end
end
end WF

open PySem L2
set_option Elab.async false
set_option linter.all false
set_option maxRecDepth 100000
set_option maxHeartbeats 2000000
/-! # part 12: statements -/
namespace WF
open PySem PySem.Spec PyProof.Rows L2
/-! ## the check -/
mutual
def chG (cc : CC) : CP → Expr → Bool
  | .nm i, e => match dName e with
    | some x => cc.wr i x
    | none => false
  | .tp ps, e => match dTup e with
    | some es => chGs cc ps es
    | none => false
  | .sb o i, e => match dSub e with
    | some (x, y) => plainE y && chE cc o x && chE cc i y
    | none => false
def chGs (cc : CC) : CPs → List Expr → Bool
  | .nil, es => isNilL es
  | .cons p r, es => match es with
    | x :: ys => (match x with | .Starred .. => false | _ => true) && chG cc p x && chGs cc r ys
    | [] => false
end
/-- does the store of a comprehension go by the swap -/
def lcSw (sc scope : Scope) (y : Str) (py pos : Pos) : Bool := sc.names.lookup y == some .local && py.line == pos.line && !(scope.names.any fun (n, k) => n == y && (k == .local || k == .cell))
/-- the stores of an assignment: none by the swap, but a comprehension's under a name -/
def chSw (cc : CC) (tg v : Expr) : Bool := plainE v && (match v with
  | .ListComp x gs scope pos => (match tg with
    | .Name y py => if lcSw cc.sc scope y py pos then true else true
    | _ => true)
  | .Tuple vs _ _ => (match tg with
    | .Tuple ts _ _ => (match swN cc.sc ts vs with | some none => true | _ => false)
    | .Name .. => true
    | .Subscript .. => true
    | _ => false)
  | _ => true)
mutual
def chS (cc : CC) : CS → Stmt → Bool
  | .asg p e, s => match s with
    | .Assign [tg] v _ => chG cc p tg && chE cc e v && chSw cc tg v
    | _ => false
  | .par2 i j es, s => match s with
    | .Assign [.Tuple [.Name x px, .Name y py] _ _] (.Tuple [a, b] _ _) _ => decide (cc.N[i]? = some x) && decide (cc.N[j]? = some y) && decide (i ≠ j) && cc.loc x && cc.loc y && chA cc es [a, b] &&
      decide (swN cc.sc [.Name x px, .Name y py] [a, b] = some (some [x, y]))
    | _ => false
  | .par3 i j l es, s => match s with
    | .Assign [.Tuple [.Name x px, .Name y py, .Name z pz] _ _] (.Tuple [a, b, c] _ _) _ => decide (cc.N[i]? = some x) && decide (cc.N[j]? = some y) && decide (cc.N[l]? = some z) && decide (i ≠ j) && decide (i ≠ l) && decide (j ≠ l) && cc.loc x && cc.loc y && cc.loc z &&
      chA cc es [a, b, c] && decide (swN cc.sc [.Name x px, .Name y py, .Name z pz] [a, b, c] = some (some [x, y, z]))
    | _ => false
  | .ret e, s => match s with
    | .Return (some v) _ => chE cc e v
    | _ => false
  | .retN, s => match s with
    | .Return none _ => true
    | _ => false
  | .expr e, s => match s with
    | .Expr v _ => plainE v && (match dLc v with | none => true | some _ => false) && chE cc e v
    | _ => false
  | .ife c a b, s => match s with
    | .If x y z _ => chE cc c x && chSs cc a y && chSs cc b z
    | _ => false
  | .for_ p it b, s => match s with
    | .For tg e y [] _ => plainE e && chG cc p tg && chI cc it tg e && chSs cc b y
    | _ => false
  | .whl c b, s => match s with
    | .While x y [] _ => chE cc c x && chSs cc b y
    | _ => false
  | .brk, s => match s with
    | .Break _ => true
    | _ => false
  | .cnt, s => match s with
    | .Continue _ => true
    | _ => false
  | .pas, s => match s with
    | .Pass _ => true
    | _ => false
  | .nev, _ => true
  | .aug i e, s => match s with
    | .AugAssign (.Name x _) .Add v _ => cc.wr i x && chE cc e v
    | _ => false
def chSs (cc : CC) : CSs → List Stmt → Bool
  | .nil, ss => isNilL ss
  | .cons s r, ss => match ss with
    | x :: xs => chS cc s x && chSs cc r xs
    | [] => false
  | .frz _ r, ss => chSs cc r ss
end
/-! ## it is sound -/
section
variable {Γ : Gam} {P : Program} {w : World} {K : PySem.W.Frag} {mg : Str → Option Value} {base : Heap}
theorem plain_assign {o i : Expr} {pos : Pos} {env : Env} (h : plainE i = true) : ∀ v, assign (.Subscript o i pos) env v = (do
      let ov ← holding [v] (eval o env)
      let iv ← holding [v, ov] (eval i env)
      standAt pos
      holding [v, ov, iv] (setItem ov iv v)
      release [v, ov, iv] []) := by
  intro v
  cases i <;> first | rfl | (exact absurd h Bool.false_ne_true)
theorem chGs_len {cc : CC} {env : Env} : ∀ {ps : CPs} {es : List Expr}, chGs cc ps es = true → (assignEach es env).length = lenPs ps ∧ (assignEach es env).findIdx? (·.1) = none
  | .nil, es, h => by
    simp only [chGs] at h
    rw [isNil_ok h]
    exact ⟨rfl, rfl⟩
  | .cons p r, [], h => by simp [chGs] at h
  | .cons p r, x :: ys, h => by
    simp only [chGs] at h
    obtain ⟨a, b⟩ := chGs_len (env := env) (andR h)
    rw [nostar_assign (andL (andL h))]
    exact ⟨congrArg (· + 1) a, by rw [List.findIdx?_cons, b]; rfl⟩
mutual
theorem chG_ok : ∀ (p : CP) (cc : CC) (X : Cx) (e : Expr), Cg P w K mg base cc X → FactsC Γ P w K mg base cc → chG cc p e = true → AG X e (aP Γ p)
  | .nm i, cc, X, e, G, F, h => by
    unfold chG at h
    split at h
    · rename_i x q
      obtain ⟨p, rfl⟩ := dName_ok q
      obtain ⟨h1, h2, h3⟩ := CC.wr_ok G h
      exact ag_name G.nd h1 h2 h3
    · cases h
  | .tp ps, cc, X, e, G, F, h => by
    unfold chG at h
    split at h
    · rename_i es q
      obtain ⟨k, p, rfl⟩ := dTup_ok q
      obtain ⟨a, b⟩ := chGs_len (env := X.env) h
      exact ag_tup G.calm (chGs_ok ps cc X es G F h) a b
    · cases h
  | .sb o i, cc, X, e, G, F, h => by
    unfold chG at h
    split at h
    · rename_i x y q
      obtain ⟨p, rfl⟩ := dSub_ok q
      exact ag_sub (chE_ok o cc X x G F (andR (andL h))).1 (chE_ok i cc X y G F (andR h)).1 (plain_assign (andL (andL h)))
    · cases h
theorem chGs_ok : ∀ (ps : CPs) (cc : CC) (X : Cx) (es : List Expr), Cg P w K mg base cc X → FactsC Γ P w K mg base cc → chGs cc ps es = true → AGs X es (aPs Γ ps)
  | .nil, cc, X, es, G, F, h => by
    unfold chGs at h
    rw [isNil_ok h]
    exact ags_nil
  | .cons p r, cc, X, es, G, F, h => by
    unfold chGs at h
    split at h
    · rename_i x ys
      exact ags_cons (chG_ok p cc X x G F (andR (andL h))) (chGs_ok r cc X ys G F (andR h)) (by rw [nostar_assign (andL (andL h))]; rfl)
    · cases h
end
theorem nolc_sw {v : Expr} (h : (match dLc v with | none => true | some _ => false) = true) (h2 : plainE v = true) (t : Option Expr) (l : Nat) (env : Env) : swapsWith v t l env = pure false := by
  cases v <;> first | rfl | (exact absurd h2 Bool.false_ne_true) | (exact absurd h Bool.false_ne_true)
theorem lc_sw {elt : Expr} {gs : List Comprehension} {scope : Scope} {pos py : Pos} {y : Str} {l : Nat} {env : Env} (hk : env.scope.kind = .function) : swapsWith (.ListComp elt gs scope pos) (some (.Name y py)) l env = pure (lcSw env.scope scope y py pos) := by
  have hb : env.blockKind = .function := by unfold Env.blockKind; rw [hk]; rfl
  unfold swapsWith
  simp only [hb, Expr.pos]
  rfl
theorem chG_nostar {cc : CC} {p : CP} {e : Expr} : chG cc p e = true → (match e with | .Starred .. => false | _ => true) = true := by
  intro h
  cases e <;> first | rfl | (cases p <;> simp [chG, dName, dTup, dSub] at h)
theorem chLc_ok {m : Bool} {p : CP} {it : CI} {tt : CA} {el : CE} {own : List (Str × Nat)} {cc : CC} {X : Cx} {x : Expr} {gs : List Comprehension} {scope : Scope} {pos : Pos} (G : Cg P w K mg base cc X) (F : FactsC Γ P w K mg base cc)
    (h : chE cc (.lc m p it tt el own) (.ListComp x gs scope pos) = true) : ∃ tg iter ifs tt', gs = [⟨tg, iter, ifs, 0⟩] ∧ LcOk X x tg iter ifs scope own (aI Γ it) (aP Γ p) tt' (aE Γ el) ∧ aE Γ (.lc m p it tt el own) = aLc m (aI Γ it) (aP Γ p) tt' (aE Γ el) (own.map (·.2)) := by
  cases tt with
  | nil =>
    unfold chE at h
    split at h
    · rename_i x tg iter ifs scope pos q
      have e := dLc_ok q
      cases e
      replace h : (plainE iter && blkC cc.N cc.sc scope own && chP (cc.blk scope) (own.map (·.2)) p tg && chI cc it tg iter && chE (cc.blk scope) el x && isNilL ifs) = true := h
      have hn := isNil_ok (andR h)
      replace h := andL h
      have hE := andR h
      replace h := andL h
      have hI := andR h
      replace h := andL h
      have hP := andR h
      subst hn
      exact ⟨tg, iter, [], aTrue, rfl, lcPack G (andL (andL h)) (andR (andL h)) (chI_ok it cc X tg iter G F hI) (fun Xb Gb => chP_ok p (cc.blk scope) Xb _ tg Gb F hP) (fun Xb Gb => ⟨pts_true, fun σ h Q Q' w q => w _ _ q⟩) (fun Xb Gb => (chE_ok el (cc.blk scope) Xb x Gb F hE).1), rfl⟩
    · cases h
  | cons c r =>
    unfold chE at h
    split at h
    · rename_i x tg iter ifs scope pos q
      have e := dLc_ok q
      cases e
      have hT := andR h
      replace h : (plainE iter && blkC cc.N cc.sc scope own && chP (cc.blk scope) (own.map (·.2)) p tg && chI cc it tg iter && chE (cc.blk scope) el x) = true := andL h
      have hE := andR h
      replace h := andL h
      have hI := andR h
      replace h := andL h
      have hP := andR h
      dsimp only at hT
      split at hT
      · rename_i y
        exact ⟨tg, iter, [y], aE Γ c, rfl, lcPack G (andL (andL h)) (andR (andL h)) (chI_ok it cc X tg iter G F hI) (fun Xb Gb => chP_ok p (cc.blk scope) Xb _ tg Gb F hP) (fun Xb Gb => ⟨pts_one (chE_ok c (cc.blk scope) Xb y Gb F hT).2.run, (chE_ok c (cc.blk scope) Xb y Gb F hT).1.mon⟩) (fun Xb Gb => (chE_ok el (cc.blk scope) Xb x Gb F hE).1), rfl⟩
      · cases hT
    · cases h
theorem asg_ok {p : CP} {e : CE} {cc : CC} {X : Cx} {tg v : Expr} {pos : Pos} (G : Cg P w K mg base cc X) (F : FactsC Γ P w K mg base cc) (hg : chG cc p tg = true) (he : chE cc e v = true) (hs : chSw cc tg v = true) : AS X (.Assign [tg] v pos) (sAsg (aE Γ e) (aP Γ p)) := by
  have A := (chE_ok e cc X v G F he).1
  have B := chG_ok p cc X tg G F hg
  have one : (assignEach [tg] X.env).map (·.2) = [assign tg X.env] := by rw [nostar_assign (chG_nostar hg)]; rfl
  unfold chSw at hs
  have pl := andL hs
  have h2 := andR hs
  clear hs
  cases v with
  | ListComp x gs scope pos2 =>
    have nsw : swappedStores [tg] (.ListComp x gs scope pos2) X.env = pure none := by cases tg <;> rfl
    cases tg with
    | Name y py =>
      have sw := lc_sw (elt := x) (gs := gs) (scope := scope) (pos := pos2) (py := py) (y := y) (l := pos.line) G.kd
      cases b : lcSw X.env.scope scope y py pos2 with
      | false =>
        rw [b] at sw
        exact as_asg A B sw nsw one
      | true =>
        rw [b] at sw
        cases p with
        | nm i =>
          cases e with
          | lc m p2 it tt el own =>
            obtain ⟨tg, iter, ifs, tt', e1, L, e2⟩ := chLc_ok G F he
            subst e1
            rw [e2]
            have hw : cc.wr i y = true := hg
            obtain ⟨w1, _, _⟩ := CC.wr_ok G hw
            have hl : X.env.scope.names.lookup y = some .local := by
              unfold lcSw at b
              exact eq_of_beq (andL (andL b))
            exact as_setLc G.calm G.nd w1 hl sw L.hi L.ok L.mg L.mt L.me L.hg L.ht L.he L.hs
          | _ => simp [chE, dConst, dName, dBin, dUn, dCmp, dBool, dIf, dTup, dList, dSub, dSlice, dCall] at he
        | _ => simp [chG, dTup, dSub] at hg
    | _ => exact as_asg A B rfl nsw one
  | Tuple vs k p2 =>
    have sw : swapsWithSole [tg] (.Tuple vs k p2) pos.line X.env = pure false := rfl
    refine as_asg A B sw ?_ one
    cases tg with
    | Tuple ts k3 p3 =>
      dsimp only at h2
      split at h2
      · rename_i q
        rw [← G.sc] at q
        exact swN_ok G.kd q
      · cases h2
    | Name _ _ => rfl
    | Subscript _ _ _ => rfl
    | _ => exact absurd h2 Bool.false_ne_true
  | _ => first | exact absurd pl Bool.false_ne_true | exact as_asg A B rfl (by cases tg <;> rfl) one
theorem drop_env {env : Env} : True := trivial
mutual
theorem chS_ok : ∀ (c : CS) (cc : CC) (X : Cx) (s : Stmt), Cg P w K mg base cc X → FactsC Γ P w K mg base cc → chS cc c s = true → AS X s (aS Γ c)
  | .asg p e, cc, X, s, G, F, h => by
    unfold chS at h
    split at h
    · exact asg_ok G F (andL (andL h)) (andR (andL h)) (andR h)
    · cases h
  | .par2 i j es, cc, X, s, G, F, h => by
    unfold chS at h
    split at h
    · rename_i x px y py kt pt a b k2 p2 pos
      have e7 := of_decide_eq_true (andR h)
      replace h := andL h
      have hA := chA_ok es cc X [a, b] G F (andR h)
      replace h := andL h
      have hy := andR h
      replace h := andL h
      have hx := andR h
      replace h := andL h
      have hij := of_decide_eq_true (andR h)
      replace h := andL h
      have loc : ∀ {z : Str}, cc.loc z = true → X.env.scope.names.lookup z = some .local := fun {z} q => by
        rw [G.sc]
        unfold CC.loc CC.kind at q
        split at q
        · assumption
        · cases q
      rw [← G.sc] at e7
      exact as_par2 G.calm G.nd (by rw [G.N]; exact of_decide_eq_true (andL h)) (by rw [G.N]; exact of_decide_eq_true (andR h)) hij (loc hx) (loc hy) hA (swN_ok G.kd e7) rfl
    · cases h
  | .par3 i j l es, cc, X, s, G, F, h => by
    unfold chS at h
    split at h
    · rename_i x px y py z pz kt pt a b c k2 p2 pos
      have e7 := of_decide_eq_true (andR h)
      replace h := andL h
      have hA := chA_ok es cc X [a, b, c] G F (andR h)
      replace h := andL h
      have hz := andR h
      replace h := andL h
      have hy := andR h
      replace h := andL h
      have hx := andR h
      replace h := andL h
      have hjl := of_decide_eq_true (andR h)
      replace h := andL h
      have hil := of_decide_eq_true (andR h)
      replace h := andL h
      have hij := of_decide_eq_true (andR h)
      replace h := andL h
      have loc : ∀ {z : Str}, cc.loc z = true → X.env.scope.names.lookup z = some .local := fun {z} q => by
        rw [G.sc]
        unfold CC.loc CC.kind at q
        split at q
        · assumption
        · cases q
      rw [← G.sc] at e7
      exact as_par3 G.calm G.nd (by rw [G.N]; exact of_decide_eq_true (andL (andL h))) (by rw [G.N]; exact of_decide_eq_true (andR (andL h))) (by rw [G.N]; exact of_decide_eq_true (andR h)) hij hil hjl (loc hx) (loc hy) (loc hz) hA (swN_ok G.kd e7) rfl
    · cases h
  | .ret e, cc, X, s, G, F, h => by
    unfold chS at h
    split at h
    · exact as_ret (chE_ok e cc X _ G F h).1
    · cases h
  | .retN, cc, X, s, G, F, h => by
    unfold chS at h
    split at h
    · exact as_retN
    · cases h
  | .expr e, cc, X, s, G, F, h => by
    unfold chS at h
    split at h
    · exact as_expr (chE_ok e cc X _ G F (andR h)).1 (nolc_sw (andR (andL h)) (andL (andL h)) _ _ _)
    · cases h
  | .ife c a b, cc, X, s, G, F, h => by
    unfold chS at h
    split at h
    · have C := chE_ok c cc X _ G F (andL (andL h))
      exact as_if C.2 C.1.mon (chSs_ok a cc X _ G F (andR (andL h))) (chSs_ok b cc X _ G F (andR h))
    · cases h
  | .for_ p it b, cc, X, s, G, F, h => by
    unfold chS at h
    split at h
    · exact as_for (by rw [G.xe]; exact PassesOwn.never) G.calm (chI_ok it cc X _ _ G F (andR (andL h))) (chG_ok p cc X _ G F (andR (andL (andL h)))) (chSs_ok b cc X _ G F (andR h)) (plain_fold (andL (andL (andL h))) X.env)
    · cases h
  | .whl c b, cc, X, s, G, F, h => by
    unfold chS at h
    split at h
    · have C := chE_ok c cc X _ G F (andL h)
      exact as_while (by rw [G.xe]; exact PassesOwn.never) C.2 C.1.mon (chSs_ok b cc X _ G F (andR h))
    · cases h
  | .brk, cc, X, s, G, F, h => by
    unfold chS at h
    split at h
    · exact as_brk
    · cases h
  | .cnt, cc, X, s, G, F, h => by
    unfold chS at h
    split at h
    · exact as_cnt
    · cases h
  | .pas, cc, X, s, G, F, h => by
    unfold chS at h
    split at h
    · exact as_pass
    · cases h
  | .nev, cc, X, s, G, F, h => as_never
  | .aug i e, cc, X, s, G, F, h => by
    unfold chS at h
    split at h
    · obtain ⟨h1, h2, h3⟩ := CC.wr_ok G (andL h)
      exact as_aug G.nd h1 h2 (chE_ok e cc X _ G F (andR h)).1 h3
    · cases h
theorem chSs_ok : ∀ (c : CSs) (cc : CC) (X : Cx) (s : List Stmt), Cg P w K mg base cc X → FactsC Γ P w K mg base cc → chSs cc c s = true → ASs X s (aSs Γ c)
  | .nil, cc, X, ss, G, F, h => by
    unfold chSs at h
    rw [isNil_ok h]
    exact ass_nil
  | .cons c r, cc, X, ss, G, F, h => by
    unfold chSs at h
    split at h
    · exact ass_cons (chS_ok c cc X _ G F (andL h)) (chSs_ok r cc X _ G F (andR h))
    · cases h
  | .frz i r, cc, X, ss, G, F, h => by
    unfold chSs at h
    exact ass_frz (chSs_ok r cc X ss G F h)
end
end
end WF

open PySem L2
set_option Elab.async false
set_option linter.all false
set_option maxRecDepth 100000
set_option maxHeartbeats 2000000
/-! # part 13: defs, the law's entry, the head's facts -/
namespace WF
open PySem PySem.Spec PyProof.Rows L2
/-- the slots at a def's entry -/
@[simp] def ini (n : Nat) (ds : List D) : ASt := ds.map some ++ List.replicate (n - ds.length) none
theorem rs_ini {K : PySem.W.Frag} {Z : List Addr} {h : AH} {H : Hp} {N : List Str} {ds : List D} {vs : List V} (r : RDs K Z h H ds vs) : RS K Z h H (ini N.length ds) (L2.start N vs) := by
  have l := r.length
  unfold ini L2.start
  refine ⟨by simp [l], fun i d e => ?_⟩
  rw [List.getElem?_append] at e
  split at e
  · rename_i hi
    rw [List.getElem?_map] at e
    cases q : ds[i]? with
    | none =>
      rw [q] at e
      cases e
    | some d0 =>
      rw [q] at e
      cases e
      obtain ⟨v, e1, rv⟩ := r.get q
      refine ⟨v, ?_, rv⟩
      rw [List.getElem?_append_left (by simpa [← l] using hi), List.getElem?_map, e1]
      rfl
  · rw [List.getElem?_replicate] at e
    split at e <;> cases e
section
variable {Γ : Gam} {P : Program} {w : World} {K : PySem.W.Frag} {mg : Str → Option Value} {base : Heap}
abbrev KwT : Type := List (Nat × Nat × List Str × List Nat)
/-- a def's static surroundings -/
def ccOf (N : List Str) (scope : Scope) (i : Nat) (nm : List Str) (kw : KwT) (gl : List (Str × GV)) (mfs : List MF) : CC := ⟨N, scope, fun _ => true, i, nm, kw, gl, mfs⟩
theorem fnG_def {N ps nm : List Str} {kw : KwT} {gl : List (Str × GV)} {gcd : List MF} {i : Nat} {x : Str} {params : Arguments} {body : List Stmt} {scope : Scope} {f : Addr} {fd : FuncData} {cs : CSs} (F : FunD K x x params body scope [] [] f fd) (S : FnScope N ps scope)
    (C : Facts Γ P w K mg base nm kw gl gcd i) (hc : chSs (ccOf N scope i nm kw gl gcd) cs body = true) (hl : ps.length = (Γ i).1)
    (hv : ∀ ds h Q, (Γ i).2 ds h Q noX → aSs Γ cs { nx := fun _ h' => Q .non h', rt := Q } (ini N.length ds) h) : FnG P w K mg base (i + 1) f fd ps (lftSp K (Γ i).1 (up (Γ i).2)) := by
  refine fnG_of F S (fun vs H Q E h => ?_) fun cdv A outer s H vs Q hG hr h => ?_
  · obtain ⟨Z, ds, h, l, r, _⟩ := h
    rw [← r.length, l, hl]
  · obtain ⟨Z, ds, h, l, r, R, Q0, w0, q⟩ := h
    have G : Cg P w K mg base (ccOf N scope i nm kw gl gcd) (cxOf CX0 P w K mg base N x scope f cdv A outer s H E0).nox := ⟨rfl, rfl, rfl, rfl, rfl, rfl, S.nd, rfl, S.kind, fun _ _ => rfl, rfl, rfl, hr, hG⟩
    have A0 := chSs_ok cs _ _ body G (show FactsC Γ P w K mg base (ccOf N scope i nm kw gl gcd) from C) hc
    refine ⟨_, A0.run, Z, ini N.length ds, h, rs_ini r, R, A0.mon _ _ _ _ ?_ (hv ds h Q0 q)⟩
    exact ⟨fun σ h' e => fun σ' H' rs R k => w0 _ _ e .non H' rfl R k, fun d h' e => w0 _ _ e, fun _ _ e => e.elim, fun _ _ e => e.elim⟩
theorem FunD.kwB {x qual : Str} {params : Arguments} {body : List Stmt} {scope : Scope} {f : Addr} {fd : FuncData} {ps ks : List Str} {pm : List Nat} {n1 : Nat} (F : FunD K x qual params body scope [] [] f fd)
    (h : ∀ (kV doc pm' : Value) (an : Option Addr) (cdv ct : Value) (us ws : List Value), us.length = n1 → ws.length = ks.length → bindArgs (PySem.W.fnOf x qual params body scope .none kV doc pm' an cdv ct) ⟨us, ks.zip ws⟩ = pure (ps.zip (perm pm (us ++ ws)))) :
    ∀ (s : Shared) (us ws : List Value), us.length = n1 → ws.length = ks.length → K.In s.heap → (perm pm (us ++ ws)).length = ps.length → BindsTo s fd ⟨us, ks.zip ws⟩ (ps.zip (perm pm (us ++ ws))) := by
  obtain ⟨oc, od, dV, kV, doc, pm', an, cdv, ct, osl, rfl, lk, hcd, hD, hK⟩ := F.ex
  rcases hD with ⟨_, rfl⟩ | ⟨e, _⟩
  · exact fun s us ws l1 l2 _ _ => .of_eq (h kV doc pm' an cdv ct us ws l1 l2)
  · exact absurd rfl e
end
/-! ## the module's constants -/
def cB : Const → Value → Bool
  | .none, .none => true
  | .bool b, .bool c => b == c
  | .int i, .int j _ => decide (i = j)
  | .str x, .str y _ => decide (x = y)
  | _, _ => false
def cV : Const → V
  | .none => .non
  | .bool b => .bl b
  | .int i => .int i
  | .str x => .str x
  | _ => .non
theorem cB_ok {K : PySem.W.Frag} {Z : List Addr} {h : AH} {H : Hp} {c : Const} {u : Value} (e : cB c u = true) : RelV (cV c) u ∧ RD K Z h H (cD c) (cV c) := by
  cases c with
  | none => cases u with
    | none => exact ⟨rfl, rfl⟩
    | _ => cases e
  | bool b => cases u with
    | bool c =>
      have q : b = c := eq_of_beq (show (b == c) = true from e)
      subst q
      exact ⟨rfl, rfl⟩
    | _ => cases e
  | int i => cases u with
    | int j t =>
      have q : i = j := of_decide_eq_true e
      subst q
      exact ⟨⟨t, rfl⟩, rfl⟩
    | _ => cases e
  | str x => cases u with
    | str y t =>
      have q : x = y := of_decide_eq_true e
      subst q
      exact ⟨⟨t, rfl⟩, rfl⟩
    | _ => cases e
  | _ => cases u <;> cases e
def csB : List Const → List Value → Bool
  | [], [] => true
  | c :: cs, u :: us => cB c u && csB cs us
  | _, _ => false
theorem csB_ok {K : PySem.W.Frag} {Z : List Addr} {h : AH} {H : Hp} : ∀ {cs : List Const} {us : List Value}, csB cs us = true → Vals (cs.map cV) us ∧ RDs K Z h H (cs.map cD) (cs.map cV)
  | [], [], _ => ⟨.nil, rfl⟩
  | [], _ :: _, e => by cases e
  | _ :: _, [], e => by cases e
  | c :: cs, u :: us, e => by
    obtain ⟨a, b⟩ := cB_ok (K := K) (Z := Z) (h := h) (H := H) (andL (show (cB c u && csB cs us) = true from e))
    obtain ⟨a2, b2⟩ := csB_ok (andR (show (cB c u && csB cs us) = true from e))
    exact ⟨.cons a a2, cV c, cs.map cV, rfl, b, b2⟩
/-- the tuple at a -/
def tupAt (K : PySem.W.Frag) (a : Addr) : Option (List Value) := match K.lookup a with
  | some ⟨.type c, _, .seq its _, _⟩ => if c = "tuple" ∧ its.size ≤ sizeLine then some its.toList else none
  | _ => none
theorem tupAt_ok {K : PySem.W.Frag} {a : Addr} {us : List Value} {vs : List V} {H : Hp} (e : tupAt K a = some us) (r : Vals vs us) : SqT K H a vs := by
  unfold tupAt at e
  split at e
  · rename_i c d its n sl q
    split at e
    · rename_i hh
      cases e
      exact .inr ⟨_, its, n, q, congrArg Value.type hh.1, rfl, hh.2, r⟩
    · cases e
  · cases e
def refOf : Value → Option Addr
  | .ref a => some a
  | _ => none
def t2B (K : PySem.W.Frag) : List (List Const) → List Value → Bool
  | [], [] => true
  | c :: cs, u :: us => (match refOf u with
    | some a => (match tupAt K a with | some ws => csB c ws | none => false)
    | none => false) && t2B K cs us
  | _, _ => false
theorem t2B_ok {K : PySem.W.Frag} : ∀ {cs : List (List Const)} {us : List Value}, t2B K cs us = true → ∃ vs, Vals vs us ∧ ∀ Z h H, RDs K Z h H (cs.map fun m => .tup (m.map cD)) vs
  | [], [], _ => ⟨[], .nil, fun _ _ _ => rfl⟩
  | [], _ :: _, e => by cases e
  | _ :: _, [], e => by cases e
  | c :: cs, u :: us, e => by
    unfold t2B at e
    obtain ⟨vs, a2, b2⟩ := t2B_ok (andR e)
    have e1 := andL e
    cases u with
    | ref a =>
      have e1 : (match tupAt K a with | some ws => csB c ws | none => false) = true := e1
      cases q : tupAt K a with
      | none => rw [q] at e1; cases e1
      | some ws =>
        rw [q] at e1
        exact ⟨.ref a :: vs, .cons rfl a2, fun Z h H => ⟨.ref a, vs, rfl, ⟨a, c.map cV, rfl, tupAt_ok q (csB_ok (K := K) (Z := Z) (h := h) (H := H) e1).1, (csB_ok e1).2⟩, b2 Z h H⟩⟩
    | _ => cases e1
/-- the module's name x stands for g -/
def glB (K : PySem.W.Frag) (x : Str) (g : GV) : Bool := match PySem.W.nsIn K mainGlobals x with
  | some (some u) => (match g with
    | .c c => cB c u
    | .t1 l => (match refOf u with
      | some a => (match tupAt K a with | some ws => csB l ws | none => false)
      | none => false)
    | .t2 l => (match refOf u with
      | some a => (match tupAt K a with | some ws => t2B K l ws | none => false)
      | none => false))
  | _ => false
theorem glB_ok {K : PySem.W.Frag} {h : Heap} {mg : Str → Option Value} (X : K.In h) (G : h.Ns mainGlobals mg) {x : Str} {g : GV} (e : glB K x g = true) : ∃ u v, mg x = some u ∧ RelV v u ∧ ∀ Z h H, RD K Z h H (gD g) v := by
  unfold glB at e
  split at e
  · rename_i u q
    have m := PySem.W.mg_of X G q
    cases g with
    | c c => exact ⟨u, cV c, m, (cB_ok (K := K) (Z := []) (h := fun _ => none) (H := fun _ => none) e).1, fun Z h H => (cB_ok e).2⟩
    | t1 l =>
      cases u with
      | ref a =>
        have e : (match tupAt K a with | some ws => csB l ws | none => false) = true := e
        cases q : tupAt K a with
        | none => rw [q] at e; cases e
        | some ws =>
          rw [q] at e
          exact ⟨.ref a, .ref a, m, rfl, fun Z h H => ⟨a, l.map cV, rfl, tupAt_ok q (csB_ok (K := K) (Z := Z) (h := h) (H := H) e).1, (csB_ok e).2⟩⟩
      | _ => cases e
    | t2 l =>
      cases u with
      | ref a =>
        have e : (match tupAt K a with | some ws => t2B K l ws | none => false) = true := e
        cases q : tupAt K a with
        | none => rw [q] at e; cases e
        | some ws =>
          rw [q] at e
          obtain ⟨vs, r, rr⟩ := t2B_ok e
          exact ⟨.ref a, .ref a, m, rfl, fun Z h H => ⟨a, vs, rfl, tupAt_ok q r, rr Z h H⟩⟩
      | _ => cases e
  · cases e
/-! ## the head's Hook, with the constants -/
def exB (K : PySem.W.Frag) (gl : List (Str × GV)) (gc : List MF) : Bool := (gl.all fun q => glB K q.1 q.2) && (gc.all fun f => He.eqO (PySem.W.nsIn K mainGlobals f.nm) (some (some (.builtin f.id))))
def obsW (fa : List He.Fa) (fn : List He.DefD) (gl : List (Str × GV)) (gc : List MF) (K : PySem.W.Frag) : He.AlD := ((He.obsD fa fn K).1 && exB K gl gc, (He.obsD fa fn K).2)
def obsWG (n : Nat) (fa : List He.Fa) (fn : List He.DefD) (gl : List (Str × GV)) (gc : List MF) (g : Addr → Option Obj) : He.AlD := obsW fa fn gl gc (He.frG g (He.asD g n))
def SaysW (fa : List He.Fa) (fn : List He.DefD) (gl : List (Str × GV)) (gc : List MF) (K : PySem.W.Frag) : Prop := obsW fa fn gl gc K = He.valD fn
def hookW (n : Nat) (fa : List He.Fa) (fn : List He.DefD) (gl : List (Str × GV)) (gc : List MF) : PySem.W.Hook where
  α := He.AlD
  obs := fun s => obsWG n fa fn gl gc s.heap.get?
  val := fun _ => He.valD fn
  says := fun _ h => ∃ K : PySem.W.Frag, K.In h ∧ SaysW fa fn gl gc K
  of := fun _ _ e => ⟨_, He.frG_in, e⟩
  keeps := fun _ _ _ ⟨K, hK, c⟩ k => ⟨K, PySem.W.Frag.In.keeps hK k, c⟩
theorem obsWG_eq {n : Nat} {fa : List He.Fa} {fn : List He.DefD} {gl : List (Str × GV)} {gc : List MF} {g : Addr → Option Obj} {s : Shared} (h : ∀ a, g a = s.heap.get? a) : obsWG n fa fn gl gc g = (hookW n fa fn gl gc).obs s := by
  have e : g = s.heap.get? := funext h
  rw [e] <;> rfl
section
variable {fa : List He.Fa} {fn : List He.DefD} {gl : List (Str × GV)} {gc : List MF} {K : PySem.W.Frag}
theorem SaysW.d (c : SaysW fa fn gl gc K) : He.SaysD fa fn K := by
  have c1 : ((He.obsD fa fn K).1 && exB K gl gc) = true := congrArg Prod.fst (show obsW fa fn gl gc K = He.valD fn from c)
  have c2 := congrArg Prod.snd (show obsW fa fn gl gc K = He.valD fn from c)
  exact Prod.ext (andL c1) c2
theorem SaysW.ex (c : SaysW fa fn gl gc K) : exB K gl gc = true := andR (show ((He.obsD fa fn K).1 && exB K gl gc) = true from congrArg Prod.fst (show obsW fa fn gl gc K = He.valD fn from c))
end
/-! ## the law's entry -/
/-- H tracks the script at a, as an object that no one changes, or nothing at all (then the script is one of the module's own) -/
structure Tracks (P : Program) (w : World) (K : PySem.W.Frag) (H : Hp) (hp : Heap) (a : Addr) (xs : List V) : Prop where
  seq : SqL K H a xs
  hok : HOk P w H hp
  one : ∀ b u, H b = some u → b = a ∧ K.lookup a = none ∧ ∃ o, u = .frz o (.lst xs)
section
variable {P : Program} {w : World} {K : PySem.W.Frag} {H : Hp} {hp : Heap} {a : Addr} {xs : List V} {its : Array Value}
/-- what is no list is not hidden -/
theorem Tracks.free (t : Tracks P w K H hp a xs) (ha : hp.get? a = some { cls := .type "list", data := .seq its }) {b : Addr} {o : Obj} (e : hp.get? b = some o) (n : (∃ es ep, o.data = .dict es ep) ∨ K.lookup b = some o) : H b = none := by
  cases q : H b with
  | none => rfl
  | some u =>
    obtain ⟨rfl, k, _⟩ := t.one b u q
    rcases n with ⟨es, ep, d⟩ | n
    · rw [ha] at e
      cases e
      cases d
    · rw [k] at n
      cases n
theorem Tracks.ns (t : Tracks P w K H hp a xs) (ha : hp.get? a = some { cls := .type "list", data := .seq its }) {b : Addr} {m : Str → Option Value} (h : hp.Ns b m) : (hidT hp H).Ns b m := by
  obtain ⟨o, es, ep, e, d, r⟩ := h
  exact ⟨o, es, ep, hidT_get e (t.free ha e (.inl ⟨es, ep, d⟩)), d, r⟩
theorem Tracks.kin (t : Tracks P w K H hp a xs) (ha : hp.get? a = some { cls := .type "list", data := .seq its }) (h : K.In hp) : K.In (hidT hp H) := fun b o e => hidT_get (h b o e) (t.free ha (h b o e) (.inr e))
/-- a script in the state can be tracked -/
theorem tracks_some {us : List Value} {ns : List Int} (KX : K.In hp) (ha : hp.get? a = some { cls := .type "list", data := .seq us.toArray }) (hi : IntsAre us ns) (hl : ns.length ≤ sizeLine) : ∃ H, Tracks P w K H hp a (ns.map V.int) := by
  have rv := vals_ints hi
  cases q : K.lookup a with
  | some o =>
    have := (KX a o q).symm.trans ha
    cases this
    refine ⟨fun _ => none, ⟨.inr ⟨_, us.toArray, _, q, rfl, rfl, rfl, ?_, by simpa using rv⟩, fun b u z => (nomatch (z : (none : Option HO) = some u)), fun b u z => (nomatch (z : (none : Option HO) = some u))⟩⟩
    simpa [hi.length] using hl
  | none =>
    let F : HO := .frz { cls := .type "list", data := .seq us.toArray } (.lst (ns.map V.int))
    have at_ : ∀ b u, (if b = a then some F else none) = some u → b = a ∧ u = F := fun b u z => by
      split at z
      · cases z
        exact ⟨by assumption, rfl⟩
      · cases z
    refine ⟨fun b => if b = a then some F else none, ⟨.inl (.inr ⟨_, if_pos rfl⟩), fun b u z => ?_, fun b u z => ?_⟩⟩
    · obtain ⟨rfl, rfl⟩ := at_ b u z
      exact ⟨ha, by simpa using hl, us, _, rv, ha⟩
    · obtain ⟨rfl, rfl⟩ := at_ b u z
      exact ⟨rfl, q, _, rfl⟩
end
/-- the law's def, called by the claim on its script: its promise makes the row -/
theorem law_entry {P : Program} {w : World} {K : PySem.W.Frag} {mg mb : Str → Option Value} {k : Nat} {fa a : Addr} {fd : FuncData} {x : Str} {sp : Sp} {s : Shared} {us : List Value} {ns : List Int} (KX : K.In s.heap)
    (g : s.heap.Ns mainGlobals mg) (b : s.heap.Ns builtinsNs mb ∧ ∀ x : Str, x ≠ "__name__" → mb x = bootBuiltins x) (nl : s.heap.NoLimit) (ng : s.gens = #[]) (ha : s.heap.get? a = some { cls := .type "list", data := .seq us.toArray })
    (hi : IntsAre us ns) (hl : ns.length ≤ sizeLine) (hr : Room k callerA) (F : ∀ base : Heap, FnG P w K mg base k fa fd [x] sp) (hb : ∀ (s : Shared) (u : Value), BindsTo s fd ⟨[u], []⟩ [(x, u)])
    (hsp : ∀ H : Hp, SqL K H a (ns.map V.int) → sp [.ref a] H (fun v _ => v = .bl true) E0) :
    codeAny (model P w) callerA (.call (.ref fa) ⟨[.ref a], []⟩) (fun r s' => r = .ok (.ret (.bool true)) ∧ OldK s.heap s'.heap ∧ s'.os = s.os ∧ AllBare s'.gens) s := by
  obtain ⟨H, t⟩ := tracks_some (P := P) (w := w) KX ha hi hl
  have md : Mod K mg (hidT s.heap H) := ⟨t.kin ha KX, t.ns ha g, ⟨mb, t.ns ha b.1, b.2⟩, nl.elim fun mc z => ⟨mc, t.ns ha z.1, z.2⟩⟩
  have env : Env0 P w K mg (hidT s.heap H) callerA [] s H := by
    refine ⟨rfl, md, fun _ _ z => of_hidT z, ?_, trivial, ?_, t.hok, AllBare.of_eq ng⟩
    · exact Nat.le_of_eq (hidT_size s.heap H)
    · intro c hc
      cases hc
  refine codeAny_mono ((F _).run callerA [] s H ⟨[.ref a], []⟩ [.ref a] [.ref a] _ rfl hr env (hb s (.ref a)) (.cons rfl .nil) (hsp H t.seq)) ?_
  intro r s' h
  match r, h with
  | .ok (.ret u), ⟨v, H', os, bare, un, hok2, rv, qv⟩ =>
    have qv : v = .bl true := qv
    subst qv
    cases (rv : u = Value.bool true)
    refine ⟨rfl, OldK.of_keep ?_, os, bare⟩
    intro c o e
    cases q : H c with
    | none => exact un.keep c o e q (fun z => nomatch z) (fun z => nomatch z)
    | some y =>
      obtain ⟨rfl, _, ob, rfl⟩ := t.one c y q
      have before := (t.hok c _ q).1
      have after := (hok2 c _ (un.frzs c ob _ q)).1
      rw [before] at e
      cases e
      exact after
end WF

open PySem L2
set_option Elab.async false
set_option linter.all false
set_option maxRecDepth 100000
set_option maxHeartbeats 2000000
/-! # part 14: a whole law -/
namespace WF
open PySem PySem.Spec PyProof.Rows L2
/-- the def at the head of a row -/
def dd (x : Str) (st : Stmt) : He.DefD := ⟨(x, none), x, x, defArgs st, defBody st, defScope st, [], []⟩
def AllOf {α : Type} (p : α → Prop) : List α → Prop
  | [] => True
  | x :: xs => p x ∧ AllOf p xs
theorem AllOf.get {α : Type} {p : α → Prop} : ∀ {l : List α}, AllOf p l → ∀ x ∈ l, p x
  | [], _, x, m => by cases m
  | y :: ys, h, x, m => by
    rcases List.mem_cons.mp m with e | e
    · rw [e]; exact h.1
    · exact AllOf.get h.2 x e
/-- all that is asked of the i-th def -/
structure DefC (Γ : Gam) (nm : List Str) (kw : KwT) (gl : List (Str × GV)) (gc : List MF) (i : Nat) (x : Str) (st : Stmt) : Prop where
  ex : ∃ (N ps : List Str) (cs : CSs), FnScope N ps (defScope st) ∧ ps.length = (Γ i).1 ∧ chSs (ccOf N (defScope st) i nm kw gl gc) cs (defBody st) = true ∧
    (∀ ds h Q, (Γ i).2 ds h Q noX → aSs Γ cs { nx := fun _ h' => Q .non h', rt := Q } (ini N.length ds) h) ∧
    (∀ (kV doc pm : Value) (an : Option Addr) (cdv ct : Value) (us : List Value), us.length = ps.length → bindArgs (PySem.W.fnOf x x (defArgs st) (defBody st) (defScope st) .none kV doc pm an cdv ct) ⟨us, []⟩ = pure (ps.zip us)) ∧
    AllOf (fun q : Nat × Nat × List Str × List Nat => ∀ (kV doc pm : Value) (an : Option Addr) (cdv ct : Value) (us ws : List Value), us.length = q.2.1 → ws.length = q.2.2.1.length → bindArgs (PySem.W.fnOf x x (defArgs st) (defBody st) (defScope st) .none kV doc pm an cdv ct) ⟨us, q.2.2.1.zip ws⟩ = pure (ps.zip (perm q.2.2.2 (us ++ ws)))) (kw.filter fun q => q.1 == i)
section
variable {Γ : Gam} {P : Program} {w : World} {K : PySem.W.Frag} {mg : Str → Option Value} {base : Heap} {nm : List Str} {kw : KwT} {gl : List (Str × GV)} {gc : List MF}
theorem DefC.fnG {i : Nat} {x : Str} {st : Stmt} (D : DefC Γ nm kw gl gc i x st) (C : Facts Γ P w K mg base nm kw gl gc i) {f : Addr} {fd : FuncData} (F : FunD K x x (defArgs st) (defBody st) (defScope st) [] [] f fd) :
    ∃ ps : List Str, ps.length = (Γ i).1 ∧ FnG P w K mg base (i + 1) f fd ps (lftSp K (Γ i).1 (up (Γ i).2)) ∧ Binds K fd ps [] ∧ (∀ (s : Shared) (us : List Value), us.length = ps.length → BindsTo s fd ⟨us, []⟩ (ps.zip us)) ∧
      ∀ q ∈ (kw.filter fun q => q.1 == i).map (·.2), ∀ (s : Shared) (us ws : List Value), us.length = q.1 → ws.length = q.2.1.length → K.In s.heap → (perm q.2.2 (us ++ ws)).length = ps.length → BindsTo s fd ⟨us, q.2.1.zip ws⟩ (ps.zip (perm q.2.2 (us ++ ws))) := by
  obtain ⟨N, ps, cs, S, l, c, v, b, k⟩ := D.ex
  refine ⟨ps, l, fnG_def F S C c l v, FunD.bindsN F b, FunD.bindsA F b, ?_⟩
  rintro q hq
  obtain ⟨q0, hq0, rfl⟩ := List.mem_map.mp hq
  exact FunD.kwB F (k.get q0 hq0)
/-- the facts grow def by def -/
theorem facts_at {fn : List (Str × Stmt)} {fa : List He.Fa} (X : ∃ h : Heap, K.In h ∧ h.Ns mainGlobals mg) (c : SaysW fa (fn.map fun q => dd q.1 q.2) gl gc K) (hn : nm = fn.map (·.1)) (hg : ∀ x ∈ nm, He.Fa.glo x ∈ fa) (hf : ∀ x ∈ builtinNames, He.Fa.free x ∈ fa)
    (D : ∀ i x st, fn[i]? = some (x, st) → DefC Γ nm kw gl gc i x st) : ∀ i, i ≤ fn.length → Facts Γ P w K mg base nm kw gl gc i := by
  obtain ⟨h, KX, G⟩ := X
  have fact : ∀ f ∈ fa, f.ok K = true := fun f m => by
    obtain ⟨j, hj, e⟩ := List.mem_iff_getElem.mp m
    exact c.d.fact j (by rw [← e]; exact List.getElem?_eq_getElem hj)
  have ex := c.ex
  unfold exB at ex
  have b1 : ∀ x ∈ builtinNames, mg x = none := fun x m => He.free_ok KX G (fact _ (hf x m))
  have b2 : ∀ f ∈ gc, mg f.nm = some (.builtin f.id) := fun f m => PySem.W.mg_of KX G (He.eqO_ok (List.all_eq_true.mp (andR ex) f m))
  have b3 : ∀ x g, gl.lookup x = some g → ∃ u v, mg x = some u ∧ RelV v u ∧ ∀ Z h H, RD K Z h H (gD g) v := fun x g e => glB_ok KX G (List.all_eq_true.mp (andL ex) (x, g) (PySem.mem_of_lookup e))
  intro i
  induction i with
  | zero => exact fun _ => ⟨b1, b2, b3, fun k x lt => absurd lt (Nat.not_lt_zero _)⟩
  | succ i ih =>
    intro le
    have C := ih (by omega)
    refine ⟨b1, b2, b3, fun k x lt e => ?_⟩
    by_cases z : k < i
    · exact C.fn k x z e
    · have ek : k = i := by omega
      subst ek
      rw [hn, List.getElem?_map] at e
      cases q : fn[k]? with
      | none => rw [q] at e; cases e
      | some p =>
        obtain ⟨y, st⟩ := p
        rw [q] at e
        cases e
        obtain ⟨fd, F⟩ := c.d.def_ k (d := dd y st) (by rw [List.getElem?_map, q]; rfl)
        have m : mg y = some (.ref (He.ga K y)) := He.glo_ok KX G (fact _ (hg y (by rw [hn]; exact List.mem_map.mpr ⟨_, List.mem_of_getElem? q, rfl⟩)))
        obtain ⟨ps, l, f1, f2, _, f3⟩ := (D k y st q).fnG C F
        exact ⟨⟨_, fd, ps, m, F.kp, f2, f1, f3⟩⟩
end
/-- the promise of a law -/
def spLaw (n : Nat) : ASp := fun ds h Q _ => ∃ ns : List Int, ns.length ≤ n ∧ ds = [.lst (ns.map D.int)] ∧ ∀ h', Q (.bl true) h'
theorem walk_ofW {l : PySem.W.OpenLaw} {n : Nat} {q : Program} {loose : List Str} {XP : (Str → Option Value) → Heap → Prop} {d : DefRec} {Γ : Gam} {nm : List Str} {kw : KwT} {gl : List (Str × GV)} {gc : List MF} {fn : List (Str × Stmt)} {fa : List He.Fa} {k : Nat} {st : Stmt} {x : Str} {ix : Nat}
    (hn : l.most = some n) (hn2 : n ≤ sizeLine) (hdf : d.params.defaults = []) (hr : Room (k + 1) callerA) (hx : d.name = x) (hk : fn[k]? = some (x, st)) (hsp : Γ k = (1, spLaw n))
    (hnm : nm = fn.map (·.1)) (hg : ∀ x ∈ nm, He.Fa.glo x ∈ fa) (hf : ∀ x ∈ builtinNames, He.Fa.free x ∈ fa) (DC : ∀ i x st, fn[i]? = some (x, st) → DefC Γ nm kw gl gc i x st) :
    PySem.W.WalkO q loose XP (fun w h => (hookW ix fa (fn.map fun q => dd q.1 q.2) gl gc).says w h) l.row.toRowW d [] (fun f vs => PySem.call f vs) := by
  refine Att.attach_call hn hdf fun w s₀ s₁ mg mb fad o pm cd doc a vs ns G Y ho hd hcd hmg hobj hints hlen hgn => ?_
  obtain ⟨K, KX, c⟩ := Y
  obtain ⟨fd, F⟩ := c.d.def_ k (d := dd x st) (by rw [List.getElem?_map, hk]; rfl)
  have C : ∀ base : Heap, Facts Γ l.prog w K mg base nm kw gl gc k := fun base => facts_at ⟨_, KX, G.T.g⟩ c hnm hg hf DC k (Nat.le_of_lt (List.getElem?_eq_some_iff.mp hk).1)
  have mm : mg x = some (.ref (He.ga K x)) := by
    have m : He.Fa.glo x ∈ fa := hg x (by rw [hnm]; exact List.mem_map.mpr ⟨_, List.mem_of_getElem? hk, rfl⟩)
    obtain ⟨j, hj, e⟩ := List.mem_iff_getElem.mp m
    exact He.glo_ok KX G.T.g (c.d.fact j (by rw [← e]; exact List.getElem?_eq_getElem hj))
  rw [hx, mm] at hmg
  cases hmg
  obtain ⟨N, ps, cs, S, lp, ch, v, b, kk⟩ := (DC k x st hk).ex
  rw [hsp] at lp
  obtain ⟨p, rfl⟩ : ∃ p, ps = [p] := by
    match ps, lp with
    | [p], _ => exact ⟨p, rfl⟩
  have fg : ∀ base : Heap, FnG l.prog w K mg base (k + 1) (He.ga K x) fd [p] (lftSp K (Γ k).1 (up (Γ k).2)) := fun base => fnG_def F S (C base) ch (by rw [hsp]; rfl) v
  refine law_entry KX G.T.g ⟨G.T.b, G.T.builtins⟩ G.T.nolimit hgn hobj hints (Nat.le_trans hlen hn2) hr fg (fun s u => FunD.bindsA F b s [u] rfl) fun H hS => ?_
  rw [hsp]
  have sl : SL K [] (fun _ => none) H a (ns.map V.int) := by
    rcases hS with z | z
    · exact .inl ⟨z, rfl, by simp⟩
    · exact .inr (.inr z)
  have rd : RDs K [] (fun _ => none) H [D.lst (ns.map D.int)] [.ref a] := RDs.one ⟨a, ns.map V.int, rfl, sl, rds_ints ns⟩
  have rh : RH K [] (fun _ => none) H := ⟨fun a ds e => (by cases e), fun a m => absurd m (by simp)⟩
  refine ⟨[], [D.lst (ns.map D.int)], fun _ => none, rfl, rd, rh, fun d _ => d = .bl true, fun d h' e v H' r _ _ => ?_, ns, hlen, rfl, fun _ => rfl⟩
  subst e
  exact r
end WF

open PySem L2
set_option Elab.async false
set_option linter.all false
set_option maxRecDepth 100000
set_option maxHeartbeats 2000000
/-! # part 15: what has no part in the heap, as a plain function -/
namespace WF
open PySem PySem.Spec PyProof.Rows L2
abbrev PF := List D → Option D
@[simp] def noF : PF := fun _ => none
instance {i j : Int} : Decidable (MulOk i j) := inferInstanceAs (Decidable (_ < _))
instance {j : Int} : Decidable (DivOk j) := inferInstanceAs (Decidable (_ ∧ _))
instance {p : PyData} : Decidable (ROk p) := inferInstanceAs (Decidable (_ ∧ _ ∧ _))
@[simp] def seqE : D → Option (List D)
  | .tup ds => some ds
  | .lst ds => some ds
  | _ => none
@[simp] def lstE : D → Option (List D)
  | .lst ds => some ds
  | _ => none
@[simp] def intE : D → Option Int
  | .int i => some i
  | _ => none
@[simp] def blE : D → Option Bool
  | .bl b => some b
  | _ => none
@[simp] def intsE : List D → Option (List Int)
  | [] => some []
  | d :: ds => (intE d).bind fun i => (intsE ds).map fun r => i :: r
@[simp] def blsE : List D → Option (List Bool)
  | [] => some []
  | d :: ds => (blE d).bind fun i => (blsE ds).map fun r => i :: r
@[simp] def addE : D → D → Option D
  | .int i, .int j => some (.int (i + j))
  | .str a, .str b => if a.length + b.length ≤ sizeLine then some (.str (a ++ b)) else none
  | .tup xs, .tup ys => if xs.length + ys.length ≤ sizeLine then some (.tup (xs ++ ys)) else none
  | .lst xs, .lst ys => if xs.length + ys.length ≤ sizeLine then some (.lst (xs ++ ys)) else none
  | _, _ => none
@[simp] def subE : D → D → Option D
  | .int i, .int j => some (.int (i - j))
  | .bl a, .bl b => some (.int ((if a then 1 else 0) - (if b then 1 else 0)))
  | _, _ => none
@[simp] def mulE : D → D → Option D
  | .int i, .int j => if MulOk i j then some (.int (i * j)) else none
  | _, _ => none
@[simp] def divE : D → D → Option D
  | .int i, .int j => if DivOk j then some (.int (i / j)) else none
  | _, _ => none
@[simp] def modE : D → D → Option D
  | .int i, .int j => if 0 < j then some (.int (i % j)) else none
  | _, _ => none
@[simp] def powE : D → D → Option D
  | .int i, .int j => if 0 ≤ j ∧ j ≤ 1000000 ∧ i.natAbs < 2 ^ 64 then some (.int (i ^ j.toNat)) else none
  | _, _ => none
@[simp] def opE (m : Bool) : Operator → D → D → Option D
  | .Add => fun x y => match m with
    | false => addE x y
    | true => none
  | .Sub => subE
  | .Mult => mulE
  | .FloorDiv => divE
  | .Mod => modE
  | .Pow => powE
  | _ => fun _ _ => none
@[simp] def relE (p : Int → Int → Bool) : D → D → Option D
  | .int i, .int j => some (.bl (p i j))
  | _, _ => none
def eqP (p q : PyData) : Option Bool := if SeqAt.shaped p = true ∧ SeqAt.shaped q = true then some (PyData.eqv p q) else none
def eqD (neg : Bool) (x y : D) : Option D := (pd0 x).bind fun p => (pd0 y).bind fun q => (eqP p q).map fun b => .bl (if neg then !b else b)
def eqE (neg : Bool) (x y : D) : Option D := match x, y with
  | .str a, .str b => some (.bl (if neg then !decide (a = b) else decide (a = b)))
  | x, y => eqD neg x y
@[simp] def isE (neg : Bool) : D → D → Option D
  | x, .non => some (.bl (if neg then !isNon x else isNon x))
  | .bl a, .bl b => some (.bl (if neg then !(decide (a = b)) else decide (a = b)))
  | _, _ => none
@[simp] def cmpE : CmpOp → D → D → Option D
  | .Eq => eqE false
  | .NotEq => eqE true
  | .Lt => relE fun i j => decide (i < j)
  | .LtE => relE fun i j => decide (i ≤ j)
  | .Gt => relE fun i j => decide (j < i)
  | .GtE => relE fun i j => decide (j ≤ i)
  | .Is => isE false
  | .IsNot => isE true
  | _ => fun _ _ => none
@[simp] def negE : D → Option D
  | .int i => some (.int (-i))
  | _ => none
@[simp] def ixE : D → D → Option D
  | x, .int i => (seqE x).bind fun ds => atI ds i
  | _, _ => none
@[simp] def okTyE : D → Bool
  | .ref _ => false
  | .ty _ => false
  | _ => true
def reprE (x : D) : Option D := (pd0 x).bind fun p => if ROk p then some (.str p.shown) else none
/-- tuples of whole numbers -/
@[simp] def rowE : D → Option (List Int)
  | .tup ds => (intsE ds).bind fun ns => if ns = [] then none else some ns
  | _ => none
@[simp] def rowsE : List D → Option (List (List Int))
  | [] => some []
  | d :: ds => (rowE d).bind fun ns => (rowsE ds).map fun r => ns :: r
@[simp] def biE : BI → List D → Option D
  | .len, [x] => (seqE x).map fun ds => .int ds.length
  | .tuple, [x] => (seqE x).map .tup
  | .list false, [x] => (seqE x).map .lst
  | .abs, [.int i] => some (.int i.natAbs)
  | .int, [.int i] => some (.int i)
  | .int, [.bl b] => some (.int (if b then 1 else 0))
  | .divmod, [.int i, .int j] => if 0 < j ∧ j < 1073741824 then some (.tup [.int (i / j), .int (i % j)]) else none
  | .all, [x] => (lstE x).bind fun ds => (blsE ds).map fun bs => .bl (bs.all id)
  | .any, [x] => (lstE x).bind fun ds => (blsE ds).map fun bs => .bl (bs.any id)
  | .sum, [x] => (lstE x).bind fun ds => (intsE ds).map fun ns => .int ns.sum
  | .min, [.int i, .int j] => some (.int (if j < i then j else i))
  | .min, [.int a, .int b, .int c, .int d] => some (.int (min a (min b (min c d))))
  | .max, [.int i, .int j] => some (.int (if j > i then j else i))
  | .isi, [x, .ty T] => if okTyE x = true ∧ T ∈ ["int", "bool", "tuple", "list", "str", "dict"] then some (.bl (isaB (tyN x) T)) else none
  | .repr, [x] => reprE x
  | .min, [x] => (lstE x).bind fun ds => (intsE ds).bind fun ns => ns.min?.map .int
  | .max, [x] => (lstE x).bind fun ds => (intsE ds).bind fun ns => ns.max?.map .int
  | .sorted false, [x] => (lstE x).bind fun ds => (rowsE ds).map fun nss => .lst ((sortL nss).map tupI)
  | _, _ => none
@[simp] def gcdE : List D → Option D
  | [.int i, .int j] => some (.int ((Nat.gcd i.natAbs j.natAbs : Nat) : Int))
  | _ => none
instance {i j : Int} : Decidable (LcmOk i j) := inferInstanceAs (Decidable (_ ∧ _))
instance {x : D} {ds : List D} : Decidable (OkIn x ds) := inferInstanceAs (Decidable (_ ∧ _ ∧ _ ∧ _))
@[simp] def lcmE : List D → Option D
  | [.int i, .int j] => if LcmOk i j then some (.int ((Nat.lcm i.natAbs j.natAbs : Nat) : Int)) else none
  | _ => none
@[simp] def mfE : MF → List D → Option D
  | .gcd => gcdE
  | .lcm => lcmE
noncomputable def innE (neg : Bool) (x y : D) : Option D := (seqE y).bind fun ds => if OkIn x ds then some (.bl (if neg then !inD x ds else inD x ds)) else none
@[simp] def rvdE (m lst : Bool) (x : D) : Option D := (lstE x).bind fun ds => match lst with
  | true => if m = true then none else some (.lst ds.reverse)
  | false => some (.tup ds.reverse)
@[simp] def srtSE (m : Bool) (x : D) : Option D := (lstE x).bind fun ds => (rowsE ds).bind fun nss => if m = false ∧ nss.length < 64 then some (.lst ((sortL (nubL nss)).map tupI)) else none
@[simp] def cutE (m : Bool) (x : D) (lo hi : Option Int) : Option D := match x with
  | .tup ds => some (.tup (cutG ds lo hi))
  | .lst ds => if m = true then none else some (.lst (cutG ds lo hi))
  | _ => none
@[simp] def evLc (step : D → Option (Option D)) : List D → Option (List D)
  | [] => some []
  | d :: ds => (step d).bind fun o => (evLc step ds).map fun r => match o with
    | some y => y :: r
    | none => r
mutual
@[simp] def evP : CP → D → ASt → Option ASt
  | .nm i, d, σ => some (σ.set i (some d))
  | .tp ps, d, σ => (seqE d).bind fun ds => if ds.length = lenPs ps then evPs ps ds σ else none
  | .sb _ _, _, _ => none
@[simp] def evPs : CPs → List D → ASt → Option ASt
  | .nil, ds, σ => match ds with
    | [] => some σ
    | _ :: _ => none
  | .cons p r, ds, σ => match ds with
    | d :: ds => (evP p d σ).bind fun σ' => evPs r ds σ'
    | [] => none
end
section
variable (Φ : Nat → PF)
mutual
noncomputable def ev (σ : ASt) : CE → Option D
  | .cst c => some (cD c)
  | .var i => (σ[i]?).bind id
  | .glo _ g => some (gD g)
  | .ty n => some (.ty n)
  | .bin op m a b => (ev σ a).bind fun x => (ev σ b).bind fun y => opE m op x y
  | .neg a => (ev σ a).bind negE
  | .nt a => (ev σ a).bind fun x => (blE x).map fun b => .bl (!b)
  | .cmp op a b => (ev σ a).bind fun x => (ev σ b).bind fun y => cmpE op x y
  | .chn o1 o2 a b c => (ev σ a).bind fun x => (ev σ b).bind fun y => (cmpE o1 x y).bind fun z => (blE z).bind fun k => if k = true then (ev σ c).bind fun w => cmpE o2 y w else some (.bl false)
  | .con op es => evCon σ op es
  | .ife c a b => (ev σ c).bind fun x => (blE x).bind fun k => if k = true then ev σ a else ev σ b
  | .tup es => (evA σ es).bind fun ds => if ds.length ≤ sizeLine then some (.tup ds) else none
  | .lst m es => (evA σ es).bind fun ds => if ds.length ≤ sizeLine ∧ m = false then some (.lst ds) else none
  | .idx a i => (ev σ a).bind fun x => (ev σ i).bind fun y => ixE x y
  | .cut m a lo hi => (ev σ a).bind fun x => (evO σ lo).bind fun l => (evO σ hi).bind fun u => cutE m x l u
  | .rep m es b => (evA σ es).bind fun ds => (ev σ b).bind fun y => (intE y).bind fun k => if m = false ∧ ds.length ≤ sizeLine ∧ 0 ≤ k ∧ k < 1000000000 ∧ ds.length * k.toNat ≤ sizeLine then some (.lst (List.replicate k.toNat ds).flatten) else none
  | .rev m a => (ev σ a).bind fun x => (lstE x).bind fun ds => if m = true then none else some (.lst ds.reverse)
  | .fn k es => (evA σ es).bind (Φ k)
  | .fnK k es _ ws pm => (evA σ es).bind fun ds => (evA σ ws).bind fun us => Φ k (perm pm (ds ++ us))
  | .bi b es => (evA σ es).bind (biE b)
  | .mf f es => (evA σ es).bind (mfE f)
  | .inn neg a b => (ev σ a).bind fun x => (ev σ b).bind fun y => innE neg x y
  | .rvd m lst a => (ev σ a).bind (rvdE m lst)
  | .srtS m a => (ev σ a).bind (srtSE m)
  | .srtC m p it e own => if m = true then none else (evI σ it).bind fun ds => if ds.length < 64 then
      (evLc (fun d => (evP p d (wipeA σ (own.map (·.2)))).bind fun σ2 => (ev σ2 e).bind fun y => (rowE y).map fun ns => some (tupI ns)) ds).bind fun es => (rowsE es).map fun nss => .lst ((sortL (nubL nss)).map tupI) else none
  | .met _ _ _ => none
  | .lc m p it tt e own => if m = true then none else (evI σ it).bind fun ds => if ds.length ≤ sizeLine then
      (evLc (fun d => (evP p d (wipeA σ (own.map (·.2)))).bind fun σ2 => (match tt with
        | .nil => some true
        | .cons c _ => (ev σ2 c).bind blE).bind fun k => if k = true then (ev σ2 e).map some else some none) ds).map .lst else none
@[simp] noncomputable def evCon (σ : ASt) (op : BoolOp) : CA → Option D
  | .nil => none
  | .cons e .nil => ev σ e
  | .cons e r => (ev σ e).bind fun x => (blE x).bind fun k => match op with
    | .And => if k = true then evCon σ op r else some (.bl false)
    | .Or => if k = true then some (.bl true) else evCon σ op r
@[simp] noncomputable def evA (σ : ASt) : CA → Option (List D)
  | .nil => some []
  | .cons e r => (ev σ e).bind fun x => (evA σ r).map fun xs => x :: xs
@[simp] noncomputable def evO (σ : ASt) : CO → Option (Option Int)
  | .no => some none
  | .pt e => (ev σ e).bind fun x => (intE x).map some
@[simp] noncomputable def evI (σ : ASt) : CI → Option (List D)
  | .seq e => (ev σ e).bind seqE
  | .enm e => (ev σ e).bind fun x => (seqE x).map (enumD 0)
  | .zp a b => (ev σ a).bind fun x => (seqE x).bind fun ds => (ev σ b).bind fun y => (seqE y).map (zipD ds)
  | .rng es => match es with
    | .cons e .nil => (ev σ e).bind fun x => (intE x).bind fun j => if -(2 ^ 62) ≤ j ∧ j < 2 ^ 62 then some (rngD 0 j.toNat) else none
    | .cons a (.cons b .nil) => (ev σ a).bind fun x => (intE x).bind fun i => (ev σ b).bind fun y => (intE y).bind fun j => if -(2 ^ 62) ≤ i ∧ i < 2 ^ 62 ∧ -(2 ^ 62) ≤ j ∧ j < 2 ^ 62 then some (rngD i (j - i).toNat) else none
    | _ => none
end
end
/-! ## statements -/
inductive Res where
  | nx (σ : ASt) | rt (d : D) | bk (σ : ASt) | ct (σ : ASt)
@[simp] def evFor (step : D → ASt → Option Res) : List D → ASt → Option Res
  | [], σ => some (.nx σ)
  | d :: ds, σ => (step d σ).bind fun r => match r with
    | .nx σ' => evFor step ds σ'
    | .ct σ' => evFor step ds σ'
    | .bk σ' => some (.nx σ')
    | .rt d => some (.rt d)
/-- a while loop, n turns at most -/
def evWh (test : ASt → Option Bool) (body : ASt → Option Res) : Nat → ASt → Option Res
  | 0, _ => none
  | n + 1, σ => (test σ).bind fun k => if k = true then (body σ).bind fun r => match r with
      | .nx σ' => evWh test body n σ'
      | .ct σ' => evWh test body n σ'
      | .bk σ' => some (.nx σ')
      | .rt d => some (.rt d)
    else some (.nx σ)
open Classical in
/-- .. as long as it takes -/
noncomputable def evWhile (test : ASt → Option Bool) (body : ASt → Option Res) (σ : ASt) : Option Res := if h : ∃ n r, evWh test body n σ = some r then some (choose (choose_spec h)) else none
theorem evWh_mono {test : ASt → Option Bool} {body : ASt → Option Res} : ∀ {n m : Nat} {σ : ASt} {r : Res}, n ≤ m → evWh test body n σ = some r → evWh test body m σ = some r
  | 0, _, _, _, _, h => by cases h
  | n + 1, 0, _, _, l, _ => by omega
  | n + 1, m + 1, σ, r, l, h => by
    unfold evWh at h ⊢
    cases q : test σ with
    | none => rw [q] at h; cases h
    | some k =>
      rw [q] at h
      simp only [Option.bind_some] at h ⊢
      cases k with
      | false => exact h
      | true =>
        simp only [if_true] at h ⊢
        cases q2 : body σ with
        | none => rw [q2] at h; cases h
        | some r2 =>
          rw [q2] at h
          simp only [Option.bind_some] at h ⊢
          cases r2 with
          | nx σ' => exact evWh_mono (by omega) h
          | ct σ' => exact evWh_mono (by omega) h
          | bk σ' => exact h
          | rt d => exact h
theorem evWhile_of {test : ASt → Option Bool} {body : ASt → Option Res} {n : Nat} {σ : ASt} {r : Res} (h : evWh test body n σ = some r) : evWhile test body σ = some r := by
  have ex : ∃ n r, evWh test body n σ = some r := ⟨n, r, h⟩
  unfold evWhile
  rw [dif_pos ex]
  have s := Classical.choose_spec (Classical.choose_spec ex)
  have a := evWh_mono (Nat.le_max_left n (Classical.choose ex)) h
  have b := evWh_mono (Nat.le_max_right n (Classical.choose ex)) s
  exact b.symm.trans a
theorem evWhile_ex {test : ASt → Option Bool} {body : ASt → Option Res} {σ : ASt} {r : Res} (h : evWhile test body σ = some r) : ∃ n, evWh test body n σ = some r := by
  unfold evWhile at h
  split at h
  · rename_i ex
    cases h
    exact ⟨_, Classical.choose_spec (Classical.choose_spec ex)⟩
  · cases h
noncomputable def tst (Φ : Nat → PF) (c : CE) : ASt → Option Bool := fun σ => (ev Φ σ c).bind blE
def stp (p : CP) (f : ASt → Option Res) : D → ASt → Option Res := fun d σ => (evP p d σ).bind f
theorem tst_def (Φ : Nat → PF) (c : CE) (σ : ASt) : tst Φ c σ = (ev Φ σ c).bind blE := rfl
@[simp] theorem stp_def (p : CP) (f : ASt → Option Res) (d : D) (σ : ASt) : stp p f d σ = (evP p d σ).bind f := rfl
section
variable (Φ : Nat → PF)
mutual
noncomputable def evS : CS → ASt → Option Res
  | .asg p e, σ => (ev Φ σ e).bind fun d => (evP p d σ).map .nx
  | .par2 i j es, σ => (evA Φ σ es).bind fun ds => match ds with
    | [v, w] => some (.nx ((σ.set i (some v)).set j (some w)))
    | _ => none
  | .par3 i j l es, σ => (evA Φ σ es).bind fun ds => match ds with
    | [u, v, w] => some (.nx (((σ.set i (some u)).set j (some v)).set l (some w)))
    | _ => none
  | .ret e, σ => (ev Φ σ e).map .rt
  | .retN, σ => some (.rt .non)
  | .expr e, σ => (ev Φ σ e).map fun _ => .nx σ
  | .ife c a b, σ => (ev Φ σ c).bind fun x => (blE x).bind fun k => if k = true then evSs a σ else evSs b σ
  | .for_ p it b, σ => (evI Φ σ it).bind fun ds => evFor (stp p (evSs b)) ds σ
  | .whl c b, σ => evWhile (tst Φ c) (evSs b) σ
  | .brk, σ => some (.bk σ)
  | .cnt, σ => some (.ct σ)
  | .pas, σ => some (.nx σ)
  | .nev, _ => none
  | .aug i e, σ => ((σ[i]?).bind id).bind fun x => (intE x).bind fun a => (ev Φ σ e).bind fun y => (intE y).map fun b => .nx (σ.set i (some (.int (a + b))))
@[simp] noncomputable def evSs : CSs → ASt → Option Res
  | .nil, σ => some (.nx σ)
  | .cons s r, σ => (evS s σ).bind fun z => match z with
    | .nx σ' => evSs r σ'
    | .rt d => some (.rt d)
    | .bk σ' => some (.bk σ')
    | .ct σ' => some (.ct σ')
  | .frz _ _, _ => none
end
/-- a def as a function; n: its slots -/
@[simp] noncomputable def evDef (n k : Nat) (c : CSs) : PF := fun ds => @ite _ (ds.length = k) (Classical.propDecidable _) ((evSs Φ c (ini n ds)).bind fun r => match r with
  | .rt d => some d
  | .nx _ => some .non
  | _ => none) none
end
end WF

open PySem L2
set_option Elab.async false
set_option linter.all false
set_option maxRecDepth 100000
set_option maxHeartbeats 2000000
/-! # part 16: .. it is what the text means -/
namespace WF
open PySem PySem.Spec PyProof.Rows L2
theorem bnd {α β : Type} {x : Option α} {f : α → Option β} {b : β} (h : x.bind f = some b) : ∃ a, x = some a ∧ f a = some b := Option.bind_eq_some_iff.mp h
theorem mpd {α β : Type} {x : Option α} {f : α → β} {b : β} (h : x.map f = some b) : ∃ a, x = some a ∧ f a = b := Option.map_eq_some_iff.mp h
theorem iteS {α : Type} {c : Prop} [Decidable c] {x : Option α} {b : α} (h : (if c then x else none) = some b) : c ∧ x = some b := by
  split at h
  · exact ⟨by assumption, h⟩
  · cases h
theorem iteP {α : Type} {c : Prop} {i : Decidable c} {x : Option α} {b : α} (h : @ite _ c i x none = some b) : c ∧ x = some b := by
  by_cases z : c
  · rw [if_pos z] at h; exact ⟨z, h⟩
  · rw [if_neg z] at h; cases h
theorem seqE_ok {x : D} {ds : List D} {h : AH} (e : seqE x = some ds) : seqA h x = some ds := by cases x <;> simp_all [seqE, seqA]
theorem lstE_ok {x : D} {ds : List D} {h : AH} (e : lstE x = some ds) : seqL h x = some ds := by cases x <;> simp_all [lstE, seqL]
theorem lstE_eq {x : D} {ds : List D} (e : lstE x = some ds) : x = .lst ds := by cases x <;> simp_all [lstE]
theorem intE_ok {x : D} {i : Int} (e : intE x = some i) : x = .int i := by cases x <;> simp_all [intE]
theorem blE_ok {x : D} {b : Bool} (e : blE x = some b) : x = .bl b := by cases x <;> simp_all [blE]
theorem intsE_ok : ∀ {ds : List D} {ns : List Int}, intsE ds = some ns → ds = ns.map D.int
  | [], _, e => by cases e; rfl
  | d :: ds, ns, e => by
    obtain ⟨i, e1, e⟩ := bnd e
    obtain ⟨r, e2, e3⟩ := mpd e
    subst e3
    rw [intE_ok e1, intsE_ok e2]
    rfl
theorem blsE_ok : ∀ {ds : List D} {ns : List Bool}, blsE ds = some ns → ds = ns.map D.bl
  | [], _, e => by cases e; rfl
  | d :: ds, ns, e => by
    obtain ⟨i, e1, e⟩ := bnd e
    obtain ⟨r, e2, e3⟩ := mpd e
    subst e3
    rw [blE_ok e1, blsE_ok e2]
    rfl
theorem pd_of {x : D} {p : PyData} {h : AH} (e : pd0 x = some p) : pd h x = some p := by
  cases x with
  | ref a => simp [pd0] at e
  | _ => exact e
theorem opE_ok {m : Bool} {op : Operator} {x y d : D} (e : opE m op x y = some d) {h : AH} {Q : AQ} (q : Q d h) : opS m op x y h Q := by
  cases op with
  | Add =>
    cases m with
    | true => cases e
    | false =>
      simp only [opE] at e
      show sAdd false x y h Q
      unfold addE at e
      split at e
      · cases e; exact q
      · obtain ⟨c, e⟩ := iteS e
        cases e; exact ⟨c, q⟩
      · obtain ⟨c, e⟩ := iteS e
        cases e; exact ⟨c, q⟩
      · obtain ⟨c, e⟩ := iteS e
        cases e; exact ⟨_, _, rfl, rfl, c, q⟩
      · cases e
  | Sub =>
    simp only [opE] at e
    unfold subE at e
    split at e <;> cases e <;> exact q
  | Mult =>
    simp only [opE] at e
    unfold mulE at e
    split at e
    · obtain ⟨c, e⟩ := iteS e
      cases e; exact ⟨c, q⟩
    · cases e
  | FloorDiv =>
    simp only [opE] at e
    unfold divE at e
    split at e
    · obtain ⟨c, e⟩ := iteS e
      cases e; exact ⟨c, q⟩
    · cases e
  | Mod =>
    simp only [opE] at e
    unfold modE at e
    split at e
    · obtain ⟨c, e⟩ := iteS e
      cases e; exact ⟨c, q⟩
    · cases e
  | Pow =>
    simp only [opE] at e
    unfold powE at e
    split at e
    · obtain ⟨c, e⟩ := iteS e
      cases e; exact ⟨c, q⟩
    · cases e
  | _ => cases e
theorem relE_ok {p : Int → Int → Bool} {x y d : D} (e : relE p x y = some d) {h : AH} {Q : AQ} (q : Q d h) : sRel p x y h Q := by
  unfold relE at e
  split at e
  · cases e; exact q
  · cases e
theorem eqD_ok {n : Bool} {x y d : D} (e : eqD n x y = some d) {h : AH} {Q : AQ} (q : Q d h) : sEq n x y h Q := by
  obtain ⟨p, e1, e⟩ := bnd e
  obtain ⟨p2, e2, e⟩ := bnd e
  obtain ⟨b, e3, e⟩ := mpd e
  obtain ⟨c, e3⟩ := iteS e3
  cases e3
  subst e
  exact .inr ⟨p, p2, pd_of e1, pd_of e2, c.1, c.2, q⟩
theorem eqE_ok {n : Bool} {x y d : D} (e : eqE n x y = some d) {h : AH} {Q : AQ} (q : Q d h) : sEq n x y h Q := by
  unfold eqE at e
  split at e
  · cases e
    exact .inl ⟨_, _, rfl, rfl, q⟩
  · exact eqD_ok e q
theorem isE_ok {n : Bool} {x y d : D} (e : isE n x y = some d) {h : AH} {Q : AQ} (q : Q d h) : sIs n x y h Q := by
  unfold isE at e
  split at e
  · cases e; exact q
  · cases e; exact q
  · cases e
theorem cmpE_ok {op : CmpOp} {x y d : D} (e : cmpE op x y = some d) {h : AH} {Q : AQ} (q : Q d h) : cmpS op x y h Q := by
  cases op with
  | Eq => exact eqE_ok e q
  | NotEq => exact eqE_ok e q
  | Lt => exact relE_ok e q
  | LtE => exact relE_ok e q
  | Gt => exact relE_ok e q
  | GtE => exact relE_ok e q
  | Is => exact isE_ok e q
  | IsNot => exact isE_ok e q
  | _ => cases e
theorem ixE_ok {x y d : D} (e : ixE x y = some d) {h : AH} {Q : AQ} (q : Q d h) : sIx x y h Q := by
  unfold ixE at e
  split at e
  · obtain ⟨ds, e1, e2⟩ := bnd e
    exact ⟨ds, d, seqE_ok e1, e2, q⟩
  · cases e
theorem rowE_ok {d : D} {ns : List Int} (e : rowE d = some ns) : d = tupI ns ∧ ns ≠ [] := by
  unfold rowE at e
  split at e
  · obtain ⟨ns', e1, e⟩ := bnd e
    split at e
    · cases e
    · cases e
      exact ⟨by rw [intsE_ok e1], by assumption⟩
  · cases e
theorem rowsE_ok : ∀ {ds : List D} {nss : List (List Int)}, rowsE ds = some nss → ds = nss.map tupI ∧ ∀ ns ∈ nss, ns ≠ []
  | [], _, e => by cases e; exact ⟨rfl, fun _ m => by cases m⟩
  | d :: ds, _, e => by
    obtain ⟨ns, e1, e⟩ := bnd e
    obtain ⟨r, e2, e3⟩ := mpd e
    subst e3
    obtain ⟨a, b⟩ := rowE_ok e1
    obtain ⟨c, f⟩ := rowsE_ok e2
    refine ⟨by rw [a, c]; rfl, fun x m => ?_⟩
    rcases List.mem_cons.mp m with z | z
    · rw [z]; exact b
    · exact f x z
theorem biE_ok {b : BI} {xs : List D} {d : D} (e : biE b xs = some d) {h : AH} {Q : AQ} (q : Q d h) : biS b xs h Q := by
  unfold biE at e
  split at e
  · obtain ⟨ds, e1, e2⟩ := mpd e
    subst e2
    exact ⟨ds, seqE_ok e1, q⟩
  · obtain ⟨ds, e1, e2⟩ := mpd e
    subst e2
    exact ⟨ds, seqE_ok e1, q⟩
  · obtain ⟨ds, e1, e2⟩ := mpd e
    subst e2
    exact ⟨ds, seqE_ok e1, q⟩
  · cases e; exact q
  · cases e; exact q
  · cases e; exact q
  · obtain ⟨c, e⟩ := iteS e
    cases e; exact ⟨c, q⟩
  · obtain ⟨ds, e1, e2⟩ := bnd e
    obtain ⟨bs, e3, e4⟩ := mpd e2
    subst e4
    exact ⟨bs, by rw [lstE_ok e1, blsE_ok e3], q⟩
  · obtain ⟨ds, e1, e2⟩ := bnd e
    obtain ⟨bs, e3, e4⟩ := mpd e2
    subst e4
    exact ⟨bs, by rw [lstE_ok e1, blsE_ok e3], q⟩
  · obtain ⟨ds, e1, e2⟩ := bnd e
    obtain ⟨bs, e3, e4⟩ := mpd e2
    subst e4
    exact ⟨bs, by rw [lstE_ok e1, intsE_ok e3], q⟩
  · cases e; exact q
  · cases e
    intro m h1 h2
    simp only [List.mem_cons, List.not_mem_nil, or_false, forall_eq_or_imp, forall_eq] at h1 h2
    rename_i a b c d
    have : m = min a (min b (min c d)) := by omega
    rw [this]
    exact q
  · cases e; exact q
  · rename_i x T
    obtain ⟨c, e⟩ := iteS e
    cases e
    refine ⟨?_, c.2, q⟩
    have c1 := c.1
    cases x <;> first | trivial | (cases c1)
  · obtain ⟨p, e1, e⟩ := bnd e
    obtain ⟨c, e⟩ := iteS e
    cases e
    exact ⟨p, pd_of e1, c, q⟩
  · rename_i x
    obtain ⟨ds, e1, e⟩ := bnd e
    obtain ⟨ns, e2, e⟩ := bnd e
    obtain ⟨m, e3, e⟩ := mpd e
    subst e
    obtain ⟨hm, hle⟩ := List.min?_eq_some_iff.mp e3
    have hx := lstE_eq e1
    subst hx
    refine ⟨ns, by rw [lstE_ok e1, intsE_ok e2], List.length_pos_of_mem hm, fun m' h1 h2 => ?_⟩
    have : m' = m := Int.le_antisymm (h2 m hm) (hle m' h1)
    rw [this]
    exact q
  · rename_i x
    obtain ⟨ds, e1, e⟩ := bnd e
    obtain ⟨ns, e2, e⟩ := bnd e
    obtain ⟨m, e3, e⟩ := mpd e
    subst e
    obtain ⟨hm, hle⟩ := List.max?_eq_some_iff.mp e3
    have hx := lstE_eq e1
    subst hx
    refine ⟨ns, by rw [lstE_ok e1, intsE_ok e2], List.length_pos_of_mem hm, fun m' h1 h2 => ?_⟩
    have : m' = m := Int.le_antisymm (hle m' h1) (h2 m hm)
    rw [this]
    exact q
  · obtain ⟨ds, e1, e⟩ := bnd e
    obtain ⟨nss, e2, e⟩ := mpd e
    subst e
    obtain ⟨e3, e4⟩ := rowsE_ok e2
    exact ⟨_, nss, rfl, by rw [lstE_ok e1, e3], e4, q⟩
  · cases e
theorem gcdE_ok {xs : List D} {d : D} (e : gcdE xs = some d) {h : AH} {Q : AQ} (q : Q d h) : nGcd xs h Q := by
  unfold gcdE at e
  split at e
  · cases e; exact q
  · cases e
theorem mfE_ok {f : MF} {xs : List D} {d : D} (e : mfE f xs = some d) {h : AH} {Q : AQ} (q : Q d h) : mfS f xs h Q := by
  cases f with
  | gcd => exact gcdE_ok e q
  | lcm =>
    have e : lcmE xs = some d := e
    unfold lcmE at e
    split at e
    · obtain ⟨c, e⟩ := iteS e
      cases e
      exact ⟨c, q⟩
    · cases e
theorem okOf_seq {x : D} {ds : List D} (e : seqE x = some ds) : okOf x ds = fun _ => True := by
  cases x <;> first | rfl | (cases e; done)
mutual
theorem evP_ok : ∀ (p : CP) (d : D) (σ σ' : ASt), evP p d σ = some σ' → ∀ {Γ : Gam} (h : AH) (Q : ASt → AH → Prop), Q σ' h → aP Γ p d σ h Q
  | .nm i, d, σ, σ', e, Γ, h, Q, q => by
    unfold evP at e
    cases e
    exact q
  | .tp ps, d, σ, σ', e, Γ, h, Q, q => by
    unfold evP at e
    obtain ⟨ds, e0, e⟩ := bnd e
    obtain ⟨c, e⟩ := iteS e
    exact ⟨ds, seqE_ok e0, c, evPs_ok ps ds σ σ' e h Q q⟩
  | .sb _ _, d, σ, σ', e, Γ, h, Q, q => by
    unfold evP at e
    cases e
theorem evPs_ok : ∀ (p : CPs) (d : List D) (σ σ' : ASt), evPs p d σ = some σ' → ∀ {Γ : Gam} (h : AH) (Q : ASt → AH → Prop), Q σ' h → aPs Γ p d σ h Q
  | .nil, ds, σ, σ', e, Γ, h, Q, q => by
    unfold evPs at e
    split at e
    · cases e
      exact ⟨rfl, q⟩
    · cases e
  | .cons p r, ds, σ, σ', e, Γ, h, Q, q => by
    unfold evPs at e
    split at e
    · rename_i d ds
      obtain ⟨σ1, e1, e2⟩ := bnd e
      exact ⟨d, ds, rfl, evP_ok p d σ σ1 e1 h _ (evPs_ok r ds σ1 σ' e2 h Q q)⟩
    · cases e
end
/-- the plain defs keep their promises -/
def PhiOk (Γ : Gam) (Φ : Nat → PF) : Prop := ∀ k ds d, Φ k ds = some d → ds.length = (Γ k).1 ∧ ∀ (h : AH) (Q : AQ), Q d h → (Γ k).2 ds h Q noX
theorem evLc_len {step : D → Option (Option D)} : ∀ {ds r : List D}, evLc step ds = some r → r.length ≤ ds.length
  | [], _, e => by cases e; exact Nat.le_refl _
  | d :: ds, _, e => by
    obtain ⟨o, e1, e⟩ := bnd e
    obtain ⟨r, e2, e3⟩ := mpd e
    subst e3
    have := evLc_len e2
    cases o with
    | none => simp; omega
    | some y => simp; omega
theorem evLc_ok {step : D → Option (Option D)} {st : D → AH → (Option D → AH → Prop) → Prop} (hs : ∀ d o, step d = some o → ∀ (h : AH) (Q : Option D → AH → Prop), Q o h → st d h Q) {ok : AH → Prop} (hok : ∀ h, ok h) : ∀ {ds r : List D}, evLc step ds = some r → ∀ (acc : List D) (h : AH) (Q : List D → AH → Prop), Q (acc ++ r) h → lcD st ok ds acc h Q
  | [], _, e, acc, h, Q, q => by
    cases e
    rw [List.append_nil] at q
    exact ⟨hok h, q⟩
  | d :: ds, _, e, acc, h, Q, q => by
    obtain ⟨o, e1, e⟩ := bnd e
    obtain ⟨r, e2, e3⟩ := mpd e
    subst e3
    refine ⟨hok h, hs d o e1 h _ ?_⟩
    cases o with
    | none => exact evLc_ok hs hok e2 acc h Q q
    | some y => exact evLc_ok hs hok e2 (acc ++ [y]) h Q (by rw [List.append_assoc]; exact q)
section
variable {Γ : Gam} {Φ : Nat → PF}
mutual
theorem ev_ok (G : PhiOk Γ Φ) : ∀ (c : CE) (σ : ASt) (d : D), ev Φ σ c = some d → ∀ (h : AH) (Q : AQ), Q d h → aE Γ c σ h Q
  | .cst c, σ, d, e, h, Q, q => by
    unfold ev at e
    cases e
    exact q
  | .var i, σ, d, e, h, Q, q => by
    unfold ev at e
    obtain ⟨o, e1, e2⟩ := bnd e
    subst e2
    exact ⟨d, e1, q⟩
  | .glo _ g, σ, d, e, h, Q, q => by
    unfold ev at e
    cases e
    exact q
  | .ty n, σ, d, e, h, Q, q => by
    unfold ev at e
    cases e
    exact q
  | .bin op m a b, σ, d, e, h, Q, q => by
    unfold ev at e
    obtain ⟨x, e1, e⟩ := bnd e
    obtain ⟨y, e2, e⟩ := bnd e
    exact ev_ok G a σ x e1 h _ (ev_ok G b σ y e2 h _ (opE_ok e q))
  | .neg a, σ, d, e, h, Q, q => by
    unfold ev at e
    obtain ⟨x, e1, e⟩ := bnd e
    refine ev_ok G a σ x e1 h _ ?_
    unfold negE at e
    split at e
    · cases e; exact q
    · cases e
  | .nt a, σ, d, e, h, Q, q => by
    unfold ev at e
    obtain ⟨x, e1, e⟩ := bnd e
    obtain ⟨b, e2, e⟩ := mpd e
    subst e
    exact ev_ok G a σ x e1 h _ ⟨b, blE_ok e2, q⟩
  | .cmp op a b, σ, d, e, h, Q, q => by
    unfold ev at e
    obtain ⟨x, e1, e⟩ := bnd e
    obtain ⟨y, e2, e⟩ := bnd e
    exact ev_ok G a σ x e1 h _ (ev_ok G b σ y e2 h _ (cmpE_ok e q))
  | .chn o1 o2 a b c, σ, d, e, h, Q, q => by
    unfold ev at e
    obtain ⟨x, e1, e⟩ := bnd e
    obtain ⟨y, e2, e⟩ := bnd e
    obtain ⟨z, e3, e⟩ := bnd e
    obtain ⟨k, e4, e⟩ := bnd e
    refine ev_ok G a σ x e1 h _ (ev_ok G b σ y e2 h _ (cmpE_ok e3 ⟨k, blE_ok e4, ?_⟩))
    cases k with
    | true =>
      obtain ⟨w, e5, e⟩ := bnd e
      exact ev_ok G c σ w e5 h _ (cmpE_ok e q)
    | false =>
      cases e
      exact q
  | .con op es, σ, d, e, h, Q, q => by
    unfold ev at e
    exact evCon_ok G op es σ d e h Q q
  | .ife c a b, σ, d, e, h, Q, q => by
    unfold ev at e
    obtain ⟨x, e1, e⟩ := bnd e
    obtain ⟨k, e2, e⟩ := bnd e
    refine ev_ok G c σ x e1 h _ ⟨k, blE_ok e2, ?_⟩
    cases k with
    | true => exact ev_ok G a σ d e h Q q
    | false => exact ev_ok G b σ d e h Q q
  | .tup es, σ, d, e, h, Q, q => by
    unfold ev at e
    obtain ⟨ds, e1, e⟩ := bnd e
    obtain ⟨c, e⟩ := iteS e
    cases e
    exact evA_ok G es σ ds e1 h _ ⟨c, q⟩
  | .lst m es, σ, d, e, h, Q, q => by
    unfold ev at e
    obtain ⟨ds, e1, e⟩ := bnd e
    obtain ⟨⟨c, c2⟩, e⟩ := iteS e
    cases e
    subst c2
    exact evA_ok G es σ ds e1 h _ ⟨c, q⟩
  | .idx a i, σ, d, e, h, Q, q => by
    unfold ev at e
    obtain ⟨x, e1, e⟩ := bnd e
    obtain ⟨y, e2, e⟩ := bnd e
    exact ev_ok G a σ x e1 h _ (ev_ok G i σ y e2 h _ (ixE_ok e q))
  | .cut m a lo hi, σ, d, e, h, Q, q => by
    unfold ev at e
    obtain ⟨x, e1, e⟩ := bnd e
    obtain ⟨l, e2, e⟩ := bnd e
    obtain ⟨u, e3, e⟩ := bnd e
    refine ev_ok G a σ x e1 h _ (evO_ok G lo σ l e2 h _ (evO_ok G hi σ u e3 h _ ?_))
    unfold cutE at e
    split at e
    · cases e; exact q
    · split at e
      · cases e
      · rename_i hm
        cases e
        simp only [Bool.not_eq_true] at hm
        subst hm
        exact q
    · cases e
  | .rep m es b, σ, d, e, h, Q, q => by
    unfold ev at e
    obtain ⟨ds, e1, e⟩ := bnd e
    obtain ⟨y, e2, e⟩ := bnd e
    obtain ⟨k, e3, e⟩ := bnd e
    obtain ⟨⟨c1, c2, c3, c4, c5⟩, e⟩ := iteS e
    cases e
    subst c1
    cases y <;> cases e3
    refine evA_ok G es σ ds e1 h _ ⟨c2, fun p hp => ?_⟩
    refine ev_ok G b σ _ e2 _ _ ?_
    refine ⟨ds, AH.set_same, c3, c4, c5, ?_⟩
    rw [AH.set_del hp]
    exact q
  | .rev m a, σ, d, e, h, Q, q => by
    unfold ev at e
    obtain ⟨x, e1, e⟩ := bnd e
    obtain ⟨ds, e2, e⟩ := bnd e
    split at e
    · cases e
    · rename_i hm
      cases e
      simp only [Bool.not_eq_true] at hm
      subst hm
      exact ev_ok G a σ x e1 h _ ⟨ds, lstE_ok e2, q⟩
  | .fn k es, σ, d, e, h, Q, q => by
    unfold ev at e
    obtain ⟨ds, e1, e⟩ := bnd e
    obtain ⟨l, pr⟩ := G k ds d e
    exact evA_ok G es σ ds e1 h _ ⟨l, Q, fun _ _ z => z, pr h Q q⟩
  | .fnK k es _ ws pm, σ, d, e, h, Q, q => by
    unfold ev at e
    obtain ⟨ds, e1, e⟩ := bnd e
    obtain ⟨us, e2, e⟩ := bnd e
    obtain ⟨l, pr⟩ := G k _ d e
    exact evA_ok G es σ ds e1 h _ (evA_ok G ws σ us e2 h _ ⟨evA_len e1, evA_len e2, l, Q, fun _ _ z => z, pr h Q q⟩)
  | .bi b es, σ, d, e, h, Q, q => by
    unfold ev at e
    obtain ⟨ds, e1, e⟩ := bnd e
    exact evA_ok G es σ ds e1 h _ (biE_ok e q)
  | .mf f es, σ, d, e, h, Q, q => by
    unfold ev at e
    obtain ⟨ds, e1, e⟩ := bnd e
    exact evA_ok G es σ ds e1 h _ (mfE_ok e q)
  | .inn neg a b, σ, d, e, h, Q, q => by
    unfold ev at e
    obtain ⟨x, e1, e⟩ := bnd e
    obtain ⟨y, e2, e⟩ := bnd e
    obtain ⟨ds, e3, e⟩ := bnd e
    obtain ⟨c, e⟩ := iteS e
    cases e
    exact ev_ok G a σ x e1 h _ (ev_ok G b σ y e2 h _ ⟨ds, seqE_ok e3, c, q⟩)
  | .rvd m lst a, σ, d, e, h, Q, q => by
    unfold ev at e
    obtain ⟨x, e1, e⟩ := bnd e
    refine ev_ok G a σ x e1 h _ ?_
    unfold rvdE at e
    obtain ⟨ds, e2, e⟩ := bnd e
    refine ⟨ds, lstE_ok e2, ?_⟩
    cases lst with
    | true =>
      cases m with
      | true => cases e
      | false => cases e; exact q
    | false => cases e; exact q
  | .srtS m a, σ, d, e, h, Q, q => by
    unfold ev at e
    obtain ⟨x, e1, e⟩ := bnd e
    unfold srtSE at e
    obtain ⟨ds, e2, e⟩ := bnd e
    obtain ⟨nss, e3, e⟩ := bnd e
    obtain ⟨⟨c1, c2⟩, e⟩ := iteS e
    cases e
    subst c1
    obtain ⟨e4, e5⟩ := rowsE_ok e3
    exact ev_ok G a σ x e1 h _ ⟨nss, by rw [lstE_ok e2, e4], c2, e5, q⟩
  | .srtC m p it el own, σ, d, e, h, Q, q => by
    unfold ev at e
    split at e
    · cases e
    · rename_i hm
      simp only [Bool.not_eq_true] at hm
      subst hm
      obtain ⟨ds, e1, e⟩ := bnd e
      obtain ⟨c, e⟩ := iteS e
      obtain ⟨r, e2, e⟩ := bnd e
      obtain ⟨nss, e3, e⟩ := mpd e
      subst e
      refine evI_ok G it σ ds e1 h _ ⟨c, evLc_ok (fun d o e => ?_) (fun _ => trivial) e2 [] h _ ?_⟩
      · intro h Q q
        obtain ⟨σ2, e1, e⟩ := bnd e
        obtain ⟨y, e3, e⟩ := bnd e
        obtain ⟨ns, e4, e⟩ := mpd e
        subst e
        obtain ⟨e5, e6⟩ := rowE_ok e4
        refine evP_ok p d _ σ2 e1 h _ ⟨true, rfl, ?_⟩
        refine ev_ok G el σ2 y e3 h _ ⟨⟨ns, e5, e6⟩, ?_⟩
        rw [e5]
        exact q
      · rw [List.nil_append]
        exact ⟨nss, (rowsE_ok e3).1, q⟩
  | .met _ _ _, σ, d, e, h, Q, q => by
    unfold ev at e
    cases e
  | .lc m p it .nil el own, σ, d, e, h, Q, q => by
    unfold ev at e
    split at e
    · cases e
    · rename_i hm
      simp only [Bool.not_eq_true] at hm
      subst hm
      obtain ⟨ds, e1, e⟩ := bnd e
      obtain ⟨c, e⟩ := iteS e
      obtain ⟨r, e2, e⟩ := mpd e
      subst e
      refine evI_ok G it σ ds e1 h _ ⟨c, evLc_ok (fun d o e => ?_) (fun _ => trivial) e2 [] h _ ?_⟩
      · intro h Q q
        obtain ⟨σ2, e1, e⟩ := bnd e
        obtain ⟨k, e2, e⟩ := bnd e
        cases e2
        simp only [if_true] at e
        obtain ⟨y, e3, e⟩ := mpd e
        subst e
        refine evP_ok p d _ σ2 e1 h _ ⟨true, rfl, ?_⟩
        exact ev_ok G el σ2 y e3 h _ q
      · rw [List.nil_append]
        exact q
  | .lc m p it (.cons c _) el own, σ, d, e, h, Q, q => by
    unfold ev at e
    split at e
    · cases e
    · rename_i hm
      simp only [Bool.not_eq_true] at hm
      subst hm
      obtain ⟨ds, e1, e⟩ := bnd e
      obtain ⟨c0, e⟩ := iteS e
      obtain ⟨r, e2, e⟩ := mpd e
      subst e
      refine evI_ok G it σ ds e1 h _ ⟨c0, evLc_ok (fun d o e => ?_) (fun _ => trivial) e2 [] h _ ?_⟩
      · intro h Q q
        obtain ⟨σ2, e1, e⟩ := bnd e
        obtain ⟨k, e2, e⟩ := bnd e
        obtain ⟨x, e2, e4⟩ := bnd e2
        refine evP_ok p d _ σ2 e1 h _ (ev_ok G c σ2 x e2 h _ ⟨k, blE_ok e4, ?_⟩)
        cases k with
        | true =>
          simp only [if_true] at e
          obtain ⟨y, e3, e⟩ := mpd e
          subst e
          exact ev_ok G el σ2 y e3 h _ q
        | false =>
          cases e
          exact q
      · rw [List.nil_append]
        exact q
theorem evCon_ok (G : PhiOk Γ Φ) (op : BoolOp) : ∀ (c : CA) (σ : ASt) (d : D), evCon Φ σ op c = some d → ∀ (h : AH) (Q : AQ), Q d h → aCon Γ op c σ h Q
  | .nil, σ, d, e, h, Q, q => by
    unfold evCon at e
    cases e
  | .cons c .nil, σ, d, e, h, Q, q => by
    unfold evCon at e
    exact ev_ok G c σ d e h Q q
  | .cons c (.cons c2 r), σ, d, e, h, Q, q => by
    unfold evCon at e
    obtain ⟨x, e1, e⟩ := bnd e
    obtain ⟨k, e2, e⟩ := bnd e
    cases op with
    | And =>
      refine ev_ok G c σ x e1 h _ ⟨k, blE_ok e2, ?_⟩
      cases k with
      | true => exact evCon_ok G .And (.cons c2 r) σ d e h Q q
      | false => cases e; exact q
    | Or =>
      refine ev_ok G c σ x e1 h _ ⟨k, blE_ok e2, ?_⟩
      cases k with
      | true => cases e; exact q
      | false => exact evCon_ok G .Or (.cons c2 r) σ d e h Q q
theorem evA_ok (G : PhiOk Γ Φ) : ∀ (c : CA) (σ : ASt) (ds : List D), evA Φ σ c = some ds → ∀ (h : AH) (Q : List D → AH → Prop), Q ds h → aA Γ c σ h Q
  | .nil, σ, d, e, h, Q, q => by
    unfold evA at e
    cases e
    exact q
  | .cons c r, σ, d, e, h, Q, q => by
    unfold evA at e
    obtain ⟨x, e1, e⟩ := bnd e
    obtain ⟨xs, e2, e⟩ := mpd e
    subst e
    exact ev_ok G c σ x e1 h _ (evA_ok G r σ xs e2 h _ q)
theorem evA_len : ∀ {c : CA} {σ : ASt} {ds : List D}, evA Φ σ c = some ds → ds.length = lenA c
  | .nil, σ, d, e => by
    unfold evA at e
    cases e
    rfl
  | .cons c r, σ, d, e => by
    unfold evA at e
    obtain ⟨x, e1, e⟩ := bnd e
    obtain ⟨xs, e2, e⟩ := mpd e
    subst e
    exact congrArg (· + 1) (evA_len e2)
theorem evO_ok (G : PhiOk Γ Φ) : ∀ (c : CO) (σ : ASt) (o : Option Int), evO Φ σ c = some o → ∀ (h : AH) (Q : Option Int → AH → Prop), Q o h → aO Γ c σ h Q
  | .no, σ, d, e, h, Q, q => by
    unfold evO at e
    cases e
    exact q
  | .pt c, σ, d, e, h, Q, q => by
    unfold evO at e
    obtain ⟨x, e1, e⟩ := bnd e
    obtain ⟨i, e2, e⟩ := mpd e
    subst e
    exact ev_ok G c σ x e1 h _ ⟨i, intE_ok e2, q⟩
theorem evI_ok (G : PhiOk Γ Φ) : ∀ (c : CI) (σ : ASt) (ds : List D), evI Φ σ c = some ds → ∀ (h : AH) (Q : Src → AH → Prop), Q ⟨ds, fun _ => True⟩ h → aI Γ c σ h Q
  | .seq c, σ, ds, e, h, Q, q => by
    unfold evI at e
    obtain ⟨x, e1, e⟩ := bnd e
    refine ev_ok G c σ x e1 h _ ?_
    cases x <;> simp_all [seqE]
  | .enm c, σ, ds, e, h, Q, q => by
    unfold evI at e
    obtain ⟨x, e1, e⟩ := bnd e
    obtain ⟨es, e2, e⟩ := mpd e
    subst e
    refine ev_ok G c σ x e1 h _ ⟨x, es, rfl, seqE_ok e2, ?_⟩
    rw [okOf_seq e2]
    exact q
  | .zp a b, σ, ds, e, h, Q, q => by
    unfold evI at e
    obtain ⟨x, e1, e⟩ := bnd e
    obtain ⟨xs, e2, e⟩ := bnd e
    obtain ⟨y, e3, e⟩ := bnd e
    obtain ⟨ys, e4, e⟩ := mpd e
    subst e
    refine ev_ok G a σ x e1 h _ (ev_ok G b σ y e3 h _ ⟨x, y, xs, ys, rfl, seqE_ok e2, seqE_ok e4, ?_⟩)
    rw [okOf_seq e2, okOf_seq e4]
    simpa using q
  | .rng .nil, σ, ds, e, h, Q, q => by
    unfold evI at e
    cases e
  | .rng (.cons a .nil), σ, ds, e, h, Q, q => by
    unfold evI at e
    obtain ⟨x, e1, e⟩ := bnd e
    obtain ⟨j, e2, e⟩ := bnd e
    obtain ⟨c, e⟩ := iteS e
    cases e
    exact ev_ok G a σ x e1 h _ ⟨j, by rw [intE_ok e2], c, q⟩
  | .rng (.cons a (.cons b .nil)), σ, ds, e, h, Q, q => by
    unfold evI at e
    obtain ⟨x, e1, e⟩ := bnd e
    obtain ⟨i, e2, e⟩ := bnd e
    obtain ⟨y, e3, e⟩ := bnd e
    obtain ⟨j, e4, e⟩ := bnd e
    obtain ⟨c, e⟩ := iteS e
    cases e
    exact ev_ok G a σ x e1 h _ (ev_ok G b σ y e3 h _ ⟨i, j, by rw [intE_ok e2, intE_ok e4], c, q⟩)
  | .rng (.cons a (.cons b (.cons c r))), σ, ds, e, h, Q, q => by
    unfold evI at e
    cases e
end
/-! ## statements -/
def fin : Res → AEnds → AH → Prop
  | .nx σ, E, h => E.nx σ h
  | .rt d, E, h => E.rt d h
  | .bk σ, E, h => E.bk σ h
  | .ct σ, E, h => E.ct σ h
theorem evFor_ok {step : D → ASt → Option Res} {st : D → AEnds → ASt → AH → Prop} (hs : ∀ d σ r, step d σ = some r → ∀ (E : AEnds) (h : AH), fin r E h → st d E σ h) {ok : AH → Prop} (hok : ∀ h, ok h) : ∀ {ds : List D} {σ : ASt} {r : Res}, evFor step ds σ = some r → ∀ (E : AEnds) (h : AH), fin r E h → loopD st ok E ds σ h
  | [], σ, r, e, E, h, q => by
    cases e
    exact ⟨hok h, q⟩
  | d :: ds, σ, r, e, E, h, q => by
    unfold evFor at e
    obtain ⟨r1, e1, e⟩ := bnd e
    refine ⟨hok h, hs d σ r1 e1 _ h ?_⟩
    cases r1 with
    | nx σ' => exact evFor_ok hs hok e E h q
    | ct σ' => exact evFor_ok hs hok e E h q
    | bk σ' => cases e; exact q
    | rt d => cases e; exact q
mutual
theorem evS_ok (G : PhiOk Γ Φ) : ∀ (c : CS) (σ : ASt) (r : Res), evS Φ c σ = some r → ∀ (E : AEnds) (h : AH), fin r E h → aS Γ c E σ h
  | .asg p c, σ, r, e, E, h, q => by
    unfold evS at e
    obtain ⟨d, e1, e⟩ := bnd e
    obtain ⟨σ', e2, e⟩ := mpd e
    subst e
    exact ev_ok G c σ d e1 h _ (evP_ok p d σ σ' e2 h _ q)
  | .par2 i j es, σ, r, e, E, h, q => by
    unfold evS at e
    obtain ⟨ds, e1, e⟩ := bnd e
    refine evA_ok G es σ ds e1 h _ ?_
    split at e
    · cases e
      exact ⟨_, _, rfl, q⟩
    · cases e
  | .par3 i j l es, σ, r, e, E, h, q => by
    unfold evS at e
    obtain ⟨ds, e1, e⟩ := bnd e
    refine evA_ok G es σ ds e1 h _ ?_
    split at e
    · cases e
      exact ⟨_, _, _, rfl, q⟩
    · cases e
  | .ret c, σ, r, e, E, h, q => by
    unfold evS at e
    obtain ⟨d, e1, e⟩ := mpd e
    subst e
    exact ev_ok G c σ d e1 h _ q
  | .retN, σ, r, e, E, h, q => by
    unfold evS at e
    cases e
    exact q
  | .expr c, σ, r, e, E, h, q => by
    unfold evS at e
    obtain ⟨d, e1, e⟩ := mpd e
    subst e
    exact ev_ok G c σ d e1 h _ q
  | .ife c a b, σ, r, e, E, h, q => by
    unfold evS at e
    obtain ⟨x, e1, e⟩ := bnd e
    obtain ⟨k, e2, e⟩ := bnd e
    refine ev_ok G c σ x e1 h _ ⟨k, blE_ok e2, ?_⟩
    cases k with
    | true => exact evSs_ok G a σ r e E h q
    | false => exact evSs_ok G b σ r e E h q
  | .for_ p it b, σ, r, e, E, h, q => by
    unfold evS at e
    obtain ⟨ds, e1, e⟩ := bnd e
    refine evI_ok G it σ ds e1 h _ (evFor_ok (fun d σ r e E h q => ?_) (fun _ => trivial) e E h q)
    obtain ⟨σ', e2, e⟩ := bnd (show (evP p d σ).bind (evSs Φ b) = some r from e)
    exact evP_ok p d σ σ' e2 h _ (evSs_ok G b σ' r e E h q)
  | .whl c b, σ, r, e, E, h, q => by
    unfold evS at e
    obtain ⟨n, e⟩ := evWhile_ex e
    refine ⟨fun m σ' h' => h' = h ∧ evWh (tst Φ c) (evSs Φ b) m σ' = some r, ⟨n, rfl, e⟩, ?_⟩
    rintro m σ' h' ⟨rfl, e⟩
    cases m with
    | zero => cases e
    | succ m =>
      unfold evWh at e
      obtain ⟨k, e1, e⟩ := bnd e
      obtain ⟨x, e1, e2⟩ := bnd (show (ev Φ σ' c).bind blE = some k from e1)
      refine ev_ok G c σ' x e1 h' _ ⟨k, blE_ok e2, ?_⟩
      cases k with
      | false => cases e; exact q
      | true =>
        simp only [if_true] at e ⊢
        obtain ⟨r1, e3, e⟩ := bnd e
        refine evSs_ok G b σ' r1 e3 _ h' ?_
        cases r1 with
        | nx σ2 => exact ⟨m, Nat.lt_succ_self m, rfl, e⟩
        | ct σ2 => exact ⟨m, Nat.lt_succ_self m, rfl, e⟩
        | bk σ2 => cases e; exact q
        | rt d => cases e; exact q
  | .brk, σ, r, e, E, h, q => by
    unfold evS at e
    cases e
    exact q
  | .cnt, σ, r, e, E, h, q => by
    unfold evS at e
    cases e
    exact q
  | .pas, σ, r, e, E, h, q => by
    unfold evS at e
    cases e
    exact q
  | .nev, σ, r, e, E, h, q => by
    unfold evS at e
    cases e
  | .aug i c, σ, r, e, E, h, q => by
    unfold evS at e
    obtain ⟨x, e1, e⟩ := bnd e
    obtain ⟨a, e2, e⟩ := bnd e
    obtain ⟨y, e3, e⟩ := bnd e
    obtain ⟨b, e4, e⟩ := mpd e
    subst e
    obtain ⟨o, e1, e5⟩ := bnd e1
    subst e5
    rw [intE_ok e2] at e1
    exact ⟨a, e1, ev_ok G c σ y e3 h _ ⟨b, intE_ok e4, q⟩⟩
theorem evSs_ok (G : PhiOk Γ Φ) : ∀ (c : CSs) (σ : ASt) (r : Res), evSs Φ c σ = some r → ∀ (E : AEnds) (h : AH), fin r E h → aSs Γ c E σ h
  | .nil, σ, r, e, E, h, q => by
    unfold evSs at e
    cases e
    exact q
  | .cons c r0, σ, r, e, E, h, q => by
    unfold evSs at e
    obtain ⟨r1, e1, e⟩ := bnd e
    refine evS_ok G c σ r1 e1 _ h ?_
    cases r1 with
    | nx σ' => exact evSs_ok G r0 σ' r e E h q
    | rt d => cases e; exact q
    | bk σ' => cases e; exact q
    | ct σ' => cases e; exact q
  | .frz _ _, σ, r, e, E, h, q => by
    unfold evSs at e
    cases e
end
/-- the promise of a plain def -/
def spF (f : PF) : ASp := fun ds h Q _ => ∃ d, f ds = some d ∧ Q d h
theorem vcF (G : PhiOk Γ Φ) {n k : Nat} {c : CSs} : ∀ ds h Q, spF (evDef Φ n k c) ds h Q noX → aSs Γ c { nx := fun _ h' => Q .non h', rt := Q } (ini n ds) h := by
  rintro ds h Q ⟨d, e, q⟩
  unfold evDef at e
  obtain ⟨_, e⟩ := iteP e
  obtain ⟨r, e1, e⟩ := bnd e
  refine evSs_ok G c _ r e1 _ h ?_
  cases r with
  | nx σ => cases e; exact q
  | rt d => cases e; exact q
  | bk σ => cases e
  | ct σ => cases e
theorem phi_nil : PhiOk Γ (fun _ => noF) := fun k ds d e => by cases e
/-- one def more -/
@[simp] def phiUp (Φ : Nat → PF) (k : Nat) (f : PF) : Nat → PF := fun i => if i = k then f else Φ i
theorem phi_up (G : PhiOk Γ Φ) {k n j : Nat} {c : CSs} {Φ' : Nat → PF} (e : Γ k = (j, spF (evDef Φ' n j c))) : PhiOk Γ (phiUp Φ k (evDef Φ' n j c)) := by
  intro i ds d q
  unfold phiUp at q
  split at q
  · rename_i z
    subst z
    rw [e]
    refine ⟨?_, fun h Q z => ⟨d, q, z⟩⟩
    unfold evDef at q
    exact (iteP q).1
  · exact G i ds d q
end
/-! ## small readings for simp -/
section
variable {Φ : Nat → PF} {σ : ASt}
@[simp] theorem ev_cst {c} : ev Φ σ (.cst c) = some (cD c) := by rw [ev]
@[simp] theorem ev_var {i} : ev Φ σ (.var i) = (σ[i]?).bind id := by rw [ev]
@[simp] theorem ev_glo {x g} : ev Φ σ (.glo x g) = some (gD g) := by rw [ev]
@[simp] theorem ev_ty {n} : ev Φ σ (.ty n) = some (.ty n) := by rw [ev]
@[simp] theorem ev_bin {op m a b} : ev Φ σ (.bin op m a b) = (ev Φ σ a).bind fun x => (ev Φ σ b).bind fun y => opE m op x y := by rw [ev]
@[simp] theorem ev_neg {a} : ev Φ σ (.neg a) = (ev Φ σ a).bind negE := by rw [ev]
@[simp] theorem ev_nt {a} : ev Φ σ (.nt a) = (ev Φ σ a).bind fun x => (blE x).map fun b => .bl (!b) := by rw [ev]
@[simp] theorem ev_cmp {op a b} : ev Φ σ (.cmp op a b) = (ev Φ σ a).bind fun x => (ev Φ σ b).bind fun y => cmpE op x y := by rw [ev]
@[simp] theorem ev_chn {o1 o2 a b c} : ev Φ σ (.chn o1 o2 a b c) = (ev Φ σ a).bind fun x => (ev Φ σ b).bind fun y => (cmpE o1 x y).bind fun z => (blE z).bind fun k => if k = true then (ev Φ σ c).bind fun w => cmpE o2 y w else some (.bl false) := by rw [ev]
@[simp] theorem ev_con {op es} : ev Φ σ (.con op es) = evCon Φ σ op es := by rw [ev]
@[simp] theorem ev_ife {c a b} : ev Φ σ (.ife c a b) = (ev Φ σ c).bind fun x => (blE x).bind fun k => if k = true then ev Φ σ a else ev Φ σ b := by rw [ev]
@[simp] theorem ev_tup {es} : ev Φ σ (.tup es) = (evA Φ σ es).bind fun ds => if ds.length ≤ PySem.sizeLine then some (.tup ds) else none := by rw [ev]
@[simp] theorem ev_lst {m es} : ev Φ σ (.lst m es) = (evA Φ σ es).bind fun ds => if ds.length ≤ PySem.sizeLine ∧ m = false then some (.lst ds) else none := by rw [ev]
@[simp] theorem ev_idx {a i} : ev Φ σ (.idx a i) = (ev Φ σ a).bind fun x => (ev Φ σ i).bind fun y => ixE x y := by rw [ev]
@[simp] theorem ev_cut {m a lo hi} : ev Φ σ (.cut m a lo hi) = (ev Φ σ a).bind fun x => (evO Φ σ lo).bind fun l => (evO Φ σ hi).bind fun u => cutE m x l u := by rw [ev]
@[simp] theorem ev_rev {m a} : ev Φ σ (.rev m a) = (ev Φ σ a).bind fun x => (lstE x).bind fun ds => if m = true then none else some (.lst ds.reverse) := by rw [ev]
@[simp] theorem ev_rep {m es b} : ev Φ σ (.rep m es b) = (evA Φ σ es).bind fun ds => (ev Φ σ b).bind fun y => (intE y).bind fun k => if m = false ∧ ds.length ≤ PySem.sizeLine ∧ 0 ≤ k ∧ k < 1000000000 ∧ ds.length * k.toNat ≤ PySem.sizeLine then some (.lst (List.replicate k.toNat ds).flatten) else none := by rw [ev]
@[simp] theorem ev_fn {k es} : ev Φ σ (.fn k es) = (evA Φ σ es).bind (Φ k) := by rw [ev]
@[simp] theorem ev_fnK {k es ks ws pm} : ev Φ σ (.fnK k es ks ws pm) = (evA Φ σ es).bind fun ds => (evA Φ σ ws).bind fun us => Φ k (perm pm (ds ++ us)) := by rw [ev]
@[simp] theorem ev_bi {b es} : ev Φ σ (.bi b es) = (evA Φ σ es).bind (biE b) := by rw [ev]
@[simp] theorem ev_mf {f es} : ev Φ σ (.mf f es) = (evA Φ σ es).bind (mfE f) := by rw [ev]
@[simp] theorem ev_inn {n a b} : ev Φ σ (.inn n a b) = (ev Φ σ a).bind fun x => (ev Φ σ b).bind fun y => innE n x y := by rw [ev]
@[simp] theorem ev_rvd {m l a} : ev Φ σ (.rvd m l a) = (ev Φ σ a).bind (rvdE m l) := by rw [ev]
@[simp] theorem ev_srtS {m a} : ev Φ σ (.srtS m a) = (ev Φ σ a).bind (srtSE m) := by rw [ev]
/-- a comprehension's test -/
noncomputable def ttE (Φ : Nat → PF) (tt : CA) (σ : ASt) : Option Bool := match tt with
  | .nil => some true
  | .cons c _ => (ev Φ σ c).bind blE
@[simp] theorem ttE_nil : ttE Φ .nil σ = some true := rfl
@[simp] theorem ttE_cons {c r} : ttE Φ (.cons c r) σ = (ev Φ σ c).bind blE := rfl
/-- the items of a comprehension -/
noncomputable def lcE (Φ : Nat → PF) (p : CP) (tt : CA) (e : CE) (σ : ASt) (ds : List D) : Option (List D) := evLc (fun d => (evP p d σ).bind fun σ2 => (ttE Φ tt σ2).bind fun k => if k = true then (ev Φ σ2 e).map some else some none) ds
@[simp] theorem lcE_nil {p tt e} : lcE Φ p tt e σ [] = some [] := rfl
@[simp] theorem lcE_cons {p tt e d ds} : lcE Φ p tt e σ (d :: ds) = ((evP p d σ).bind fun σ2 => (ttE Φ tt σ2).bind fun k => if k = true then (ev Φ σ2 e).map some else some none).bind fun o => (lcE Φ p tt e σ ds).map fun r => match o with
    | some y => y :: r
    | none => r := by
  show evLc _ (d :: ds) = _
  rw [evLc]
  congr 1
  funext o
  cases o <;> rfl
@[simp] theorem ev_lc {m p it tt e own} : ev Φ σ (.lc m p it tt e own) = if m = true then none else (evI Φ σ it).bind fun ds => if ds.length ≤ PySem.sizeLine then (lcE Φ p tt e (wipeA σ (own.map (·.2))) ds).map .lst else none := by
  rw [ev]
  rfl
/-- the rows of a set comprehension -/
noncomputable def scE (Φ : Nat → PF) (p : CP) (e : CE) (σ : ASt) (ds : List D) : Option (List D) := evLc (fun d => (evP p d σ).bind fun σ2 => (ev Φ σ2 e).bind fun y => (rowE y).map fun ns => some (tupI ns)) ds
@[simp] theorem ev_srtC {m p it e own} : ev Φ σ (.srtC m p it e own) = if m = true then none else (evI Φ σ it).bind fun ds => if ds.length < 64 then (scE Φ p e (wipeA σ (own.map (·.2))) ds).bind fun es => (rowsE es).map fun nss => .lst ((sortL (nubL nss)).map tupI) else none := by
  rw [ev]
  rfl
theorem intsE_map : ∀ (ns : List Int), intsE (ns.map D.int) = some ns
  | [] => rfl
  | n :: ns => by simp [intsE_map ns]
theorem rowE_tupI {ns : List Int} (h : ns ≠ []) : rowE (tupI ns) = some ns := by simp [intsE_map, h]
theorem rowsE_map : ∀ {nss : List (List Int)}, (∀ ns ∈ nss, ns ≠ []) → rowsE (nss.map tupI) = some nss
  | [], _ => rfl
  | ns :: nss, h => by
    have h1 := h ns List.mem_cons_self
    simp [intsE_map, h1, rowsE_map fun x m => h x (List.mem_cons_of_mem _ m)]
theorem scE_map {p : CP} {e : CE} {f : D → List Int} : ∀ {ds : List D}, (∀ d ∈ ds, ∃ σ2, evP p d σ = some σ2 ∧ ev Φ σ2 e = some (tupI (f d)) ∧ f d ≠ []) → scE Φ p e σ ds = some ((ds.map f).map tupI)
  | [], _ => rfl
  | d :: ds, h => by
    obtain ⟨σ2, h1, h2, h3⟩ := h d List.mem_cons_self
    have ih := scE_map fun x m => h x (List.mem_cons_of_mem _ m)
    unfold scE at ih ⊢
    rw [evLc, h1, Option.bind_some, h2, Option.bind_some, rowE_tupI h3, Option.map_some, Option.bind_some, ih]
    rfl
/-- a comprehension without a test: a map -/
theorem lcE_map {p : CP} {e : CE} {f : D → D} : ∀ {ds : List D}, (∀ d ∈ ds, ∃ σ2, evP p d σ = some σ2 ∧ ev Φ σ2 e = some (f d)) → lcE Φ p .nil e σ ds = some (ds.map f)
  | [], _ => rfl
  | d :: ds, h => by
    obtain ⟨σ2, h1, h2⟩ := h d List.mem_cons_self
    rw [lcE_cons, lcE_map fun x m => h x (List.mem_cons_of_mem _ m)]
    simp [h1, h2]
/-- .. of a test -/
theorem lcE_filter {p : CP} {c e : CE} {r : CA} {f : D → D} {t : D → Bool} : ∀ {ds : List D}, (∀ d ∈ ds, ∃ σ2, evP p d σ = some σ2 ∧ ev Φ σ2 c = some (.bl (t d)) ∧ (t d = true → ev Φ σ2 e = some (f d))) → lcE Φ p (.cons c r) e σ ds = some ((ds.filter t).map f)
  | [], _ => rfl
  | d :: ds, h => by
    obtain ⟨σ2, h1, h2, h3⟩ := h d List.mem_cons_self
    rw [lcE_cons, lcE_filter (c := c) (r := r) fun x m => h x (List.mem_cons_of_mem _ m)]
    cases q : t d with
    | true => simp [h1, h2, h3 q, q]
    | false => simp [h1, h2, q]
/-- loops -/
noncomputable def whE (Φ : Nat → PF) (c : CE) (b : CSs) (σ : ASt) : Option Res := evWhile (tst Φ c) (evSs Φ b) σ
noncomputable def forE (Φ : Nat → PF) (p : CP) (b : CSs) (ds : List D) (σ : ASt) : Option Res := evFor (stp p (evSs Φ b)) ds σ
@[simp] theorem forE_nil {p b} : forE Φ p b [] σ = some (.nx σ) := rfl
@[simp] theorem forE_cons {p b d ds} : forE Φ p b (d :: ds) σ = ((evP p d σ).bind (evSs Φ b)).bind fun r => match r with
    | .nx σ' => forE Φ p b ds σ'
    | .ct σ' => forE Φ p b ds σ'
    | .bk σ' => some (.nx σ')
    | .rt d => some (.rt d) := rfl
@[simp] theorem evS_asg {p e} : evS Φ (.asg p e) σ = (ev Φ σ e).bind fun d => (evP p d σ).map .nx := by rw [evS]
@[simp] theorem evS_par2 {i j es} : evS Φ (.par2 i j es) σ = (evA Φ σ es).bind fun ds => match ds with
    | [v, w] => some (.nx ((σ.set i (some v)).set j (some w)))
    | _ => none := by rw [evS] <;> rfl
@[simp] theorem evS_par3 {i j l es} : evS Φ (.par3 i j l es) σ = (evA Φ σ es).bind fun ds => match ds with
    | [u, v, w] => some (.nx (((σ.set i (some u)).set j (some v)).set l (some w)))
    | _ => none := by rw [evS] <;> rfl
@[simp] theorem evS_ret {e} : evS Φ (.ret e) σ = (ev Φ σ e).map .rt := by rw [evS]
@[simp] theorem evS_retN : evS Φ .retN σ = some (.rt .non) := by rw [evS]
@[simp] theorem evS_expr {e} : evS Φ (.expr e) σ = (ev Φ σ e).map fun _ => .nx σ := by rw [evS]
@[simp] theorem evS_ife {c a b} : evS Φ (.ife c a b) σ = (ev Φ σ c).bind fun x => (blE x).bind fun k => if k = true then evSs Φ a σ else evSs Φ b σ := by rw [evS]
@[simp] theorem evS_for {p it b} : evS Φ (.for_ p it b) σ = (evI Φ σ it).bind fun ds => forE Φ p b ds σ := by rw [evS] <;> rfl
@[simp] theorem evS_whl {c b} : evS Φ (.whl c b) σ = whE Φ c b σ := by rw [evS] <;> rfl
@[simp] theorem evS_brk : evS Φ .brk σ = some (.bk σ) := by rw [evS]
@[simp] theorem evS_cnt : evS Φ .cnt σ = some (.ct σ) := by rw [evS]
@[simp] theorem evS_pas : evS Φ .pas σ = some (.nx σ) := by rw [evS]
@[simp] theorem evS_nev : evS Φ .nev σ = none := by rw [evS]
@[simp] theorem evS_aug {i e} : evS Φ (.aug i e) σ = ((σ[i]?).bind id).bind fun x => (intE x).bind fun a => (ev Φ σ e).bind fun y => (intE y).map fun b => .nx (σ.set i (some (.int (a + b)))) := by rw [evS]
theorem whE_of {c : CE} {b : CSs} {n : Nat} {σ : ASt} {r : Res} (h : evWh (tst Φ c) (evSs Φ b) n σ = some r) : whE Φ c b σ = some r := evWhile_of h
end
@[simp] theorem atI_def {α : Type} (xs : List α) (i : Int) : atI xs i = (ixN xs.length i).bind fun j => xs[j]? := rfl
@[simp] theorem ixN_def (n : Nat) (i : Int) : ixN n i = if 0 ≤ i then (if i < n then some i.toNat else none) else if -(n : Int) ≤ i then some (i + n).toNat else none := rfl
@[simp] theorem sizeLine_def : PySem.sizeLine = 16777216 := rfl
@[simp] theorem eqE_str (n : Bool) (a b : Str) : eqE n (.str a) (.str b) = some (.bl (if n then !decide (a = b) else decide (a = b))) := rfl
@[simp] theorem eqE_int (n : Bool) (a b : Int) : eqE n (.int a) (.int b) = some (.bl (if n then !decide (a = b) else decide (a = b))) := by
  simp [eqE, eqD, pd0, eqP, SeqAt.shaped, PyData.eqv, PyData.canLay0, PyData.depth]
  rfl
@[simp] theorem eqE_tup2 (n : Bool) (a b c d : Int) : eqE n (.tup [.int a, .int b]) (.tup [.int c, .int d]) = some (.bl (if n then !decide (a = c ∧ b = d) else decide (a = c ∧ b = d))) := by
  simp [eqE, eqD, pd0, pds, eqP, SeqAt.shaped, PyData.eqv, PyData.eqvAll, PyData.canLay0, PyData.canLayAll0, PyData.depth, PyData.depthAll]
  rfl
@[simp] theorem eqE_tup3 (n : Bool) (a b e c d f : Int) : eqE n (.tup [.int a, .int b, .int e]) (.tup [.int c, .int d, .int f]) = some (.bl (if n then !decide (a = c ∧ b = d ∧ e = f) else decide (a = c ∧ b = d ∧ e = f))) := by
  simp [eqE, eqD, pd0, pds, eqP, SeqAt.shaped, PyData.eqv, PyData.eqvAll, PyData.canLay0, PyData.canLayAll0, PyData.depth, PyData.depthAll]
  rfl
/-! ## what repr may be asked of -/
def Shw (d : D) (k e : Nat) : Prop := ∃ p, pd0 d = some p ∧ p.showable = true ∧ p.depth ≤ e ∧ rsz p ≤ k
/-- the text -/
def rp (d : D) : Str := match pd0 d with
  | some p => p.shown
  | none => ""
theorem repr_eq {d : D} {k e : Nat} (h : Shw d k e) (hk : k ≤ 16777216) (he : e ≤ 64) : reprE d = some (.str (rp d)) := by
  obtain ⟨p, h1, h2, h3, h4⟩ := h
  have ok : ROk p := ⟨h2, by omega, by omega⟩
  simp [reprE, rp, h1, ok]
theorem Shw.int {i : Int} (h : i.natAbs.log2 < 1920) : Shw (.int i) 1921 1 := ⟨.int i, rfl, by simpa [PyData.showable] using h, by simp [PyData.depth], Nat.le_refl _⟩
theorem Shw.non : Shw .non 4 1 := ⟨.none, rfl, rfl, by simp [PyData.depth], Nat.le_refl _⟩
theorem Shw.bl {b : Bool} : Shw (.bl b) 5 1 := ⟨.bool b, rfl, rfl, by simp [PyData.depth], Nat.le_refl _⟩
theorem Shws : ∀ {ds : List D} {k e : Nat}, (∀ d ∈ ds, Shw d k e) → ∃ ps, pds ds = some ps ∧ PyData.showableAll ps = true ∧ PyData.depthAll ps ≤ e ∧ rszAll ps ≤ ds.length * (k + 2)
  | [], k, e, h => ⟨[], rfl, rfl, by simp [PyData.depthAll], by simp [rszAll]⟩
  | d :: ds, k, e, h => by
    obtain ⟨p, h1, h2, h3, h4⟩ := h d List.mem_cons_self
    obtain ⟨ps, g1, g2, g3, g4⟩ := Shws fun x m => h x (List.mem_cons_of_mem _ m)
    refine ⟨p :: ps, by simp [pds, h1, g1], by simp [PyData.showableAll, h2, g2], by simp [PyData.depthAll]; omega, ?_⟩
    simp only [rszAll, List.length_cons, Nat.succ_mul]
    omega
theorem Shw.tup {ds : List D} {k e : Nat} (h : ∀ d ∈ ds, Shw d k e) : Shw (.tup ds) (ds.length * (k + 2) + 4) (e + 1) := by
  obtain ⟨ps, g1, g2, g3, g4⟩ := Shws h
  exact ⟨.tuple ps, by simp [pd0, g1], by simpa [PyData.showable] using g2, by simp [PyData.depth]; omega, by simp [rsz]; omega⟩
theorem Shw.lst {ds : List D} {k e : Nat} (h : ∀ d ∈ ds, Shw d k e) : Shw (.lst ds) (ds.length * (k + 2) + 4) (e + 1) := by
  obtain ⟨ps, g1, g2, g3, g4⟩ := Shws h
  exact ⟨.list ps, by simp [pd0, g1], by simpa [PyData.showable] using g2, by simp [PyData.depth]; omega, by simp [rsz]; omega⟩
theorem Shw.mono {d : D} {k e k' e' : Nat} (h : Shw d k e) (a : k ≤ k') (b : e ≤ e') : Shw d k' e' := by
  obtain ⟨p, h1, h2, h3, h4⟩ := h
  exact ⟨p, h1, h2, by omega, by omega⟩
end WF

open PySem L2
set_option Elab.async false
set_option linter.all false
set_option maxRecDepth 100000
set_option maxHeartbeats 1000000
/-! # the plain law, part 1: bounds, lowest terms, points and fractions as rational numbers -/
namespace WV
open PySem PySem.Spec PyProof.Rows L2 WF
/-! ## bounds -/
def B (n : Nat) (x : Int) : Prop := x.natAbs < 2 ^ n
theorem B.mono {n m : Nat} {x : Int} (h : B n x) (l : n ≤ m) : B m x := Nat.lt_of_lt_of_le h (Nat.pow_le_pow_right (by decide) l)
theorem B.neg {n : Nat} {x : Int} (h : B n x) : B n (-x) := by unfold B at *; omega
theorem B.mul {n m : Nat} {x y : Int} (h : B n x) (h' : B m y) : B (n + m) (x * y) := by
  unfold B at *
  rw [Int.natAbs_mul, Nat.pow_add]
  exact Nat.mul_lt_mul'' h h'
theorem B.add {n : Nat} {x y : Int} (h : B n x) (h' : B n y) : B (n + 1) (x + y) := by
  unfold B at *
  rw [Nat.pow_succ]
  omega
theorem B.sub {n : Nat} {x y : Int} (h : B n x) (h' : B n y) : B (n + 1) (x - y) := by
  unfold B at *
  rw [Nat.pow_succ]
  omega
theorem B.log {n : Nat} {x : Int} (h : B n x) : x.natAbs.log2 ≤ n := by
  unfold B at h
  by_cases z : x.natAbs = 0
  · rw [z]; exact Nat.zero_le _
  · exact Nat.le_of_lt ((Nat.log2_lt z).mpr h)
theorem B.mulOk {n m : Nat} {x y : Int} (h : B n x) (h' : B m y) (l : n + m < 1000000) : WF.MulOk x y := by
  have a := h.log
  have b := h'.log
  unfold WF.MulOk
  omega
theorem B.divOk {n : Nat} {x : Int} (h : B n x) (p : 0 < x) (l : n < 9000) : WF.DivOk x := by
  have a := h.log
  exact ⟨p, by omega⟩
theorem B.nat {n k : Nat} (h : k < 2 ^ n) : B n (k : Int) := by unfold B; simpa using h
theorem B.div {n : Nat} {x g : Int} (h : B n x) (p : 0 < g) (d : g ∣ x) : B n (x / g) := by
  obtain ⟨k, rfl⟩ := d
  rw [Int.mul_ediv_cancel_left k (by omega)]
  unfold B at *
  rw [Int.natAbs_mul] at h
  have : 1 ≤ g.natAbs := by omega
  exact Nat.lt_of_le_of_lt (Nat.le_mul_of_pos_left _ this) h
/-! ## lowest terms -/
def G2 (a b : Int) : Nat := Nat.gcd a.natAbs b.natAbs
def G3 (a b c : Int) : Nat := Nat.gcd (Nat.gcd a.natAbs b.natAbs) c.natAbs
theorem g3_d1 (a b c : Int) : (G3 a b c : Int) ∣ a := Int.ofNat_dvd_left.mpr (Nat.dvd_trans (Nat.gcd_dvd_left _ _) (Nat.gcd_dvd_left _ _))
theorem g3_d2 (a b c : Int) : (G3 a b c : Int) ∣ b := Int.ofNat_dvd_left.mpr (Nat.dvd_trans (Nat.gcd_dvd_left _ _) (Nat.gcd_dvd_right _ _))
theorem g3_d3 (a b c : Int) : (G3 a b c : Int) ∣ c := Int.ofNat_dvd_left.mpr (Nat.gcd_dvd_right _ _)
theorem g2_d1 (a b : Int) : (G2 a b : Int) ∣ a := Int.ofNat_dvd_left.mpr (Nat.gcd_dvd_left _ _)
theorem g2_d2 (a b : Int) : (G2 a b : Int) ∣ b := Int.ofNat_dvd_left.mpr (Nat.gcd_dvd_right _ _)
theorem g3_pos {a b c : Int} (h : a ≠ 0 ∨ b ≠ 0 ∨ c ≠ 0) : 0 < G3 a b c := by
  unfold G3
  rcases h with h | h | h
  · exact Nat.gcd_pos_of_pos_left _ (Nat.gcd_pos_of_pos_left _ (by omega))
  · exact Nat.gcd_pos_of_pos_left _ (Nat.gcd_pos_of_pos_right _ (by omega))
  · exact Nat.gcd_pos_of_pos_right _ (by omega)
theorem g2_pos {a b : Int} (h : a ≠ 0 ∨ b ≠ 0) : 0 < G2 a b := by
  unfold G2
  rcases h with h | h
  · exact Nat.gcd_pos_of_pos_left _ (by omega)
  · exact Nat.gcd_pos_of_pos_right _ (by omega)
theorem g3_mul (k a b c : Int) : G3 (k * a) (k * b) (k * c) = k.natAbs * G3 a b c := by
  unfold G3
  rw [Int.natAbs_mul, Int.natAbs_mul, Int.natAbs_mul, Nat.gcd_mul_left, Nat.gcd_mul_left]
theorem g2_mul (k a b : Int) : G2 (k * a) (k * b) = k.natAbs * G2 a b := by
  unfold G2
  rw [Int.natAbs_mul, Int.natAbs_mul, Nat.gcd_mul_left]
theorem g3_le {a b c : Int} {n : Nat} (h : 0 < c) (bc : B n c) : B n (G3 a b c) := by
  refine B.nat ?_
  have : G3 a b c ≤ c.natAbs := Nat.le_of_dvd (by omega) (Nat.gcd_dvd_right _ _)
  unfold B at bc
  omega
/-- a, b, c divided by their greatest divisor -/
theorem low3 {a b c : Int} (h : a ≠ 0 ∨ b ≠ 0 ∨ c ≠ 0) : ∃ x y w : Int, a = G3 a b c * x ∧ b = G3 a b c * y ∧ c = G3 a b c * w ∧ G3 x y w = 1 ∧ a / G3 a b c = x ∧ b / G3 a b c = y ∧ c / G3 a b c = w := by
  obtain ⟨x, hx⟩ := g3_d1 a b c
  obtain ⟨y, hy⟩ := g3_d2 a b c
  obtain ⟨w, hw⟩ := g3_d3 a b c
  have gp := g3_pos h
  generalize hg : G3 a b c = g at *
  have gp' : (g : Int) ≠ 0 := by omega
  refine ⟨x, y, w, hx, hy, hw, ?_, by rw [hx]; exact Int.mul_ediv_cancel_left x gp', by rw [hy]; exact Int.mul_ediv_cancel_left y gp', by rw [hw]; exact Int.mul_ediv_cancel_left w gp'⟩
  rw [hx, hy, hw, g3_mul] at hg
  simp only [Int.natAbs_natCast] at hg
  have : g * G3 x y w = g * 1 := by omega
  exact Nat.eq_of_mul_eq_mul_left gp this
theorem low2 {a b : Int} (h : a ≠ 0 ∨ b ≠ 0) : ∃ x y : Int, a = G2 a b * x ∧ b = G2 a b * y ∧ G2 x y = 1 ∧ a / G2 a b = x ∧ b / G2 a b = y := by
  obtain ⟨x, hx⟩ := g2_d1 a b
  obtain ⟨y, hy⟩ := g2_d2 a b
  have gp := g2_pos h
  generalize hg : G2 a b = g at *
  have gp' : (g : Int) ≠ 0 := by omega
  refine ⟨x, y, hx, hy, ?_, by rw [hx]; exact Int.mul_ediv_cancel_left x gp', by rw [hy]; exact Int.mul_ediv_cancel_left y gp'⟩
  rw [hx, hy, g2_mul] at hg
  simp only [Int.natAbs_natCast] at hg
  have : g * G2 x y = g * 1 := by omega
  exact Nat.eq_of_mul_eq_mul_left gp this
/-- proportional and both lowest: the same -/
theorem uniq3 {j k x y w x' y' w' : Int} (hj : 0 < j) (hk : 0 < k) (e1 : j * x = k * x') (e2 : j * y = k * y') (e3 : j * w = k * w') (l : G3 x y w = 1) (l' : G3 x' y' w' = 1) : x = x' ∧ y = y' ∧ w = w' := by
  have g : G3 (j * x) (j * y) (j * w) = G3 (k * x') (k * y') (k * w') := by rw [e1, e2, e3]
  rw [g3_mul, g3_mul, l, l'] at g
  have : j = k := by omega
  subst this
  have c := fun {u v : Int} (e : j * u = j * v) => Int.eq_of_mul_eq_mul_left (by omega : j ≠ 0) e
  exact ⟨c e1, c e2, c e3⟩
theorem uniq2 {j k x y x' y' : Int} (hj : 0 < j) (hk : 0 < k) (e1 : j * x = k * x') (e2 : j * y = k * y') (l : G2 x y = 1) (l' : G2 x' y' = 1) : x = x' ∧ y = y' := by
  have g : G2 (j * x) (j * y) = G2 (k * x') (k * y') := by rw [e1, e2]
  rw [g2_mul, g2_mul, l, l'] at g
  have : j = k := by omega
  subst this
  have c := fun {u v : Int} (e : j * u = j * v) => Int.eq_of_mul_eq_mul_left (by omega : j ≠ 0) e
  exact ⟨c e1, c e2⟩
/-! ## shapes -/
abbrev V2 (a b : Int) : D := .tup [.int a, .int b]
abbrev V3 (a b c : Int) : D := .tup [.int a, .int b, .int c]
/-- a point: lowest, of a denominator above 0 -/
structure Vc (n : Nat) (x y w : Int) : Prop where
  pos : 0 < w
  lo : G3 x y w = 1
  bx : B n x
  by_ : B n y
  bw : B n w
structure Fc (n : Nat) (a b : Int) : Prop where
  pos : 0 < b
  lo : G2 a b = 1
  ba : B n a
  bb : B n b
/-- d is the point (p, q) -/
def IsV (n : Nat) (p q : Rat) (d : D) : Prop := ∃ x y w : Int, d = V3 x y w ∧ Vc n x y w ∧ (x : Rat) = p * w ∧ (y : Rat) = q * w
def IsF (n : Nat) (r : Rat) (d : D) : Prop := ∃ a b : Int, d = V2 a b ∧ Fc n a b ∧ (a : Rat) = r * b
theorem ratne {w : Int} (h : 0 < w) : (w : Rat) ≠ 0 := by
  have := Rat.intCast_pos.mpr h
  grind
theorem ratpos {w : Int} (h : 0 < w) : 0 < (w : Rat) := Rat.intCast_pos.mpr h
theorem IsV.uniq {n m : Nat} {p q : Rat} {d e : D} (h : IsV n p q d) (h' : IsV m p q e) : d = e := by
  obtain ⟨x, y, w, rfl, v, h1, h2⟩ := h
  obtain ⟨x', y', w', rfl, v', h1', h2'⟩ := h'
  have a1 : (w' : Rat) * x = w * x' := by rw [h1, h1']; grind
  have a2 : (w' : Rat) * y = w * y' := by rw [h2, h2']; grind
  have b1 : w' * x = w * x' := by exact_mod_cast a1
  have b2 : w' * y = w * y' := by exact_mod_cast a2
  obtain ⟨rfl, rfl, rfl⟩ := uniq3 v'.pos v.pos b1 b2 (by rw [Int.mul_comm]) v.lo v'.lo
  rfl
theorem IsF.uniq {n m : Nat} {r : Rat} {d e : D} (h : IsF n r d) (h' : IsF m r e) : d = e := by
  obtain ⟨x, w, rfl, v, h1⟩ := h
  obtain ⟨x', w', rfl, v', h1'⟩ := h'
  have a1 : (w' : Rat) * x = w * x' := by rw [h1, h1']; grind
  have b1 : w' * x = w * x' := by exact_mod_cast a1
  obtain ⟨rfl, rfl⟩ := uniq2 v'.pos v.pos b1 (by rw [Int.mul_comm]) v.lo v'.lo
  rfl
theorem IsV.mono {n m : Nat} {p q : Rat} {d : D} (h : IsV n p q d) (l : n ≤ m) : IsV m p q d := by
  obtain ⟨x, y, w, rfl, v, h1, h2⟩ := h
  exact ⟨x, y, w, rfl, ⟨v.pos, v.lo, v.bx.mono l, v.by_.mono l, v.bw.mono l⟩, h1, h2⟩
theorem IsF.mono {n m : Nat} {r : Rat} {d : D} (h : IsF n r d) (l : n ≤ m) : IsF m r d := by
  obtain ⟨x, w, rfl, v, h1⟩ := h
  exact ⟨x, w, rfl, ⟨v.pos, v.lo, v.ba.mono l, v.bb.mono l⟩, h1⟩
theorem canc {a c g x w p : Rat} (h : g ≠ 0) (e1 : a = g * x) (e3 : c = g * w) (hp : a = p * c) : x = p * w := by
  have : g * x = g * (p * w) := by grind
  grind
theorem castm {a g x : Int} (e : a = g * x) : (a : Rat) = (g : Rat) * (x : Rat) := by rw [e]; exact Rat.intCast_mul g x
/-- from any a, b, c over their divisor -/
theorem isV_low {n : Nat} {a b c : Int} {p q : Rat} (hc : 0 < c) (ba : B n a) (bb : B n b) (bc : B n c) (hp : (a : Rat) = p * c) (hq : (b : Rat) = q * c) : IsV n p q (V3 (a / G3 a b c) (b / G3 a b c) (c / G3 a b c)) := by
  obtain ⟨x, y, w, e1, e2, e3, lo, d1, d2, d3⟩ := low3 (a := a) (b := b) (c := c) (.inr (.inr (by omega)))
  have gp : 0 < G3 a b c := g3_pos (.inr (.inr (by omega)))
  have gp' : (0 : Int) < G3 a b c := by omega
  have B1 := ba.div gp' (g3_d1 a b c)
  have B2 := bb.div gp' (g3_d2 a b c)
  have B3 := bc.div gp' (g3_d3 a b c)
  clear gp
  generalize ((G3 a b c : Nat) : Int) = g at *
  rw [d1] at B1
  rw [d2] at B2
  rw [d3] at B3
  have wp : 0 < w := by
    rcases Int.lt_trichotomy w 0 with z | z | z
    · have := Int.mul_neg_of_pos_of_neg gp' z; omega
    · subst z; simp at e3; omega
    · exact z
  exact ⟨x, y, w, by rw [d1, d2, d3], ⟨wp, lo, B1, B2, B3⟩, canc (ratne gp') (castm e1) (castm e3) hp, canc (ratne gp') (castm e2) (castm e3) hq⟩
theorem isF_low {n : Nat} {a c : Int} {p : Rat} (hc : 0 < c) (ba : B n a) (bc : B n c) (hp : (a : Rat) = p * c) : IsF n p (V2 (a / G2 a c) (c / G2 a c)) := by
  obtain ⟨x, w, e1, e3, lo, d1, d3⟩ := low2 (a := a) (b := c) (.inr (by omega))
  have gp : 0 < G2 a c := g2_pos (.inr (by omega))
  have gp' : (0 : Int) < G2 a c := by omega
  have B1 := ba.div gp' (g2_d1 a c)
  have B3 := bc.div gp' (g2_d2 a c)
  clear gp
  generalize ((G2 a c : Nat) : Int) = g at *
  rw [d1] at B1
  rw [d3] at B3
  have wp : 0 < w := by
    rcases Int.lt_trichotomy w 0 with z | z | z
    · have := Int.mul_neg_of_pos_of_neg gp' z; omega
    · subst z; simp at e3; omega
    · exact z
  exact ⟨x, w, by rw [d1, d3], ⟨wp, lo, B1, B3⟩, canc (ratne gp') (castm e1) (castm e3) hp⟩
/-- a direction -/
def IsD (d : D) : Prop := ∃ a b : Int, d = V2 a b ∧ G2 a b = 1 ∧ B 30 a ∧ B 30 b
/-! ## Euclid's loop -/
theorem euclid (test : ASt → Option Bool) (body : ASt → Option Res) (mk : Nat → Nat → ASt) (ht : ∀ a b, test (mk a b) = some (decide (0 < b))) (hb : ∀ a b, 0 < b → body (mk a b) = some (.nx (mk b (a % b)))) :
    ∀ n a b, b ≤ n → evWh test body (n + 1) (mk a b) = some (.nx (mk (Nat.gcd a b) 0))
  | n, a, b, h => by
    unfold evWh
    rw [ht]
    by_cases z : 0 < b
    · simp only [z, decide_true, Option.bind_some, if_true, hb a b z]
      cases n with
      | zero => omega
      | succ n =>
        rw [euclid test body mk ht hb n b (a % b) (by have := Nat.mod_lt a z; omega)]
        have e : Nat.gcd b (a % b) = Nat.gcd a b := by rw [Nat.gcd_comm a b, Nat.gcd_rec b a, Nat.gcd_comm]
        rw [e]
    · have : b = 0 := by omega
      subst this
      simp
theorem forE_inv {Φ : Nat → PF} {p : CP} {b : CSs} {I : ASt → Prop} : ∀ {ds : List D} {σ : ASt}, (∀ d ∈ ds, ∀ σ, I σ → ∃ σ', ((evP p d σ).bind (evSs Φ b)) = some (.nx σ') ∧ I σ') → I σ → ∃ σ', forE Φ p b ds σ = some (.nx σ') ∧ I σ'
  | [], σ, _, i => ⟨σ, rfl, i⟩
  | d :: ds, σ, h, i => by
    obtain ⟨σ1, e1, i1⟩ := h d List.mem_cons_self σ i
    obtain ⟨σ2, e2, i2⟩ := forE_inv (ds := ds) (fun x m => h x (List.mem_cons_of_mem _ m)) i1
    exact ⟨σ2, by rw [forE_cons, e1]; exact e2, i2⟩
theorem atI_mem {xs : List D} {r : Int} (h0 : 0 ≤ r) (h1 : r < xs.length) : ∃ d, atI xs r = some d ∧ d ∈ xs := by
  have l : r.toNat < xs.length := by omega
  refine ⟨xs[r.toNat], ?_, List.getElem_mem l⟩
  simp [h0, h1, List.getElem?_eq_getElem l]
theorem cut_mem {α : Type} {xs : List α} {lo hi : Option Int} {x : α} (h : x ∈ cutG xs lo hi) : x ∈ xs := List.mem_of_mem_drop (List.mem_of_mem_take h)
theorem mulLt {x y : Int} (h : x.natAbs < 2 ^ 100) (h' : y.natAbs < 2 ^ 100) : WF.MulOk x y := B.mulOk (n := 100) (m := 100) h h' (by decide)
/-! ## repr of small things -/
theorem shw_v3 {a b c : Int} {n : Nat} (ba : B n a) (bb : B n b) (bc : B n c) (l : n ≤ 1900) : Shw (V3 a b c) 5773 2 := by
  refine (Shw.tup (k := 1921) (e := 1) fun d m => ?_).mono (by simp) (by simp)
  simp only [List.mem_cons, List.not_mem_nil, or_false] at m
  rcases m with rfl | rfl | rfl
  · exact Shw.int (by have := ba.log; omega)
  · exact Shw.int (by have := bb.log; omega)
  · exact Shw.int (by have := bc.log; omega)
theorem shw_v2 {a b : Int} {n : Nat} (ba : B n a) (bb : B n b) (l : n ≤ 1900) : Shw (V2 a b) 5773 2 := by
  refine (Shw.tup (k := 1921) (e := 1) fun d m => ?_).mono (by simp) (by simp)
  simp only [List.mem_cons, List.not_mem_nil, or_false] at m
  rcases m with rfl | rfl
  · exact Shw.int (by have := ba.log; omega)
  · exact Shw.int (by have := bb.log; omega)
theorem shw_f {n : Nat} {p : Rat} {d : D} (h : IsF n p d) (l : n ≤ 1900) : Shw d 5773 2 := by
  obtain ⟨x, w, rfl, v, _⟩ := h
  exact shw_v2 v.ba v.bb l
theorem shw_v {n : Nat} {p q : Rat} {d : D} (h : IsV n p q d) (l : n ≤ 1900) : Shw d 5773 2 := by
  obtain ⟨x, y, w, rfl, v, _, _⟩ := h
  exact shw_v3 v.bx v.by_ v.bw l
theorem shw_i {n : Nat} {x : Int} (h : B n x) (l : n ≤ 1900) : Shw (.int x) 5773 2 := (Shw.int (by have := h.log; omega)).mono (by decide) (by decide)
theorem shw_1 {d : D} (h : Shw d 5773 2) : reprE d = some (.str (rp d)) := repr_eq h (by decide) (by decide)
theorem IsF.eqv {n m : Nat} {p p' : Rat} {d e : D} (h : IsF n p d) (h' : IsF m p' e) (e1 : p = p') : d = e := by
  subst e1
  exact IsF.uniq h h'
theorem IsV.eqv {n m : Nat} {p q p' q' : Rat} {d e : D} (h : IsV n p q d) (h' : IsV m p' q' e) (e1 : p = p') (e2 : q = q') : d = e := by
  subst e1 e2
  exact IsV.uniq h h'
end WV

open PySem L2
set_option Elab.async false
set_option linter.all false
set_option maxRecDepth 100000
set_option maxHeartbeats 2000000
/-! # part 17: the meanings grow with what is wanted; readings for simp; loops by what holds between turns -/
namespace WF
open PySem PySem.Spec PyProof.Rows L2
/-! ## monotone -/
theorem mon_op {m : Bool} {op : Operator} : MonR2 (opS m op) := by
  intro x y h Q Q' w q
  cases op <;> simp only [opS] at q ⊢
  case Add =>
    unfold sAdd at q ⊢
    split <;> rename_i e1 e2 <;> simp only at q
    · exact w _ _ q
    · exact ⟨q.1, w _ _ q.2⟩
    · exact ⟨q.1, w _ _ q.2⟩
    · obtain ⟨xs, ys, h1, h2, h3, q⟩ := q
      exact ⟨xs, ys, h1, h2, h3, newL_mono w q⟩
  case Sub => unfold sSub at q ⊢; split at q <;> first | exact w _ _ q | exact q.elim
  case Mult => unfold sMul at q ⊢; split at q <;> first | exact ⟨q.1, w _ _ q.2⟩ | exact q.elim
  case FloorDiv => unfold sDiv at q ⊢; split at q <;> first | exact ⟨q.1, w _ _ q.2⟩ | exact q.elim
  case Mod => unfold sMod at q ⊢; split at q <;> first | exact ⟨q.1, w _ _ q.2⟩ | exact q.elim
  case Pow => unfold sPow at q ⊢; split at q <;> first | exact ⟨q.1, w _ _ q.2⟩ | exact q.elim
theorem mon_rel {p : Int → Int → Bool} : MonR2 (sRel p) := by
  intro x y h Q Q' w q
  unfold sRel at q ⊢
  split at q <;> first | exact w _ _ q | exact q.elim
theorem mon_eq {n : Bool} : MonR2 (sEq n) := by
  intro x y h Q Q' w q
  rcases q with ⟨a, b, e1, e2, q⟩ | ⟨a, b, e1, e2, e3, e4, q⟩
  · exact .inl ⟨a, b, e1, e2, w _ _ q⟩
  · exact .inr ⟨a, b, e1, e2, e3, e4, w _ _ q⟩
theorem mon_is {n : Bool} : MonR2 (sIs n) := by
  intro x y h Q Q' w q
  unfold sIs at q ⊢
  split at q
  · exact w _ _ q
  · split at q <;> first | exact w _ _ q | exact q.elim
  · exact q.elim
theorem mon_cmp {op : CmpOp} : MonR2 (cmpS op) := by
  cases op <;> simp only [cmpS] <;> first | exact mon_eq | exact mon_rel | exact mon_is | (intro x y h Q Q' w q; exact q)
theorem mon_neg : MonR1 sNeg := by
  intro x h Q Q' w q
  unfold sNeg at q ⊢
  split at q <;> first | exact w _ _ q | exact q.elim
theorem mon_ix : MonR2 sIx := by
  intro x y h Q Q' w q
  unfold sIx at q ⊢
  split at q
  · obtain ⟨ds, d, e1, e2, q⟩ := q
    exact ⟨ds, d, e1, e2, w _ _ q⟩
  · exact q.elim
theorem mon_bi {b : BI} : MonRn (biS b) := by
  intro xs h Q Q' w q
  cases b <;> simp only [biS] at q ⊢
  case len => unfold nLen at q ⊢; split at q <;> first | exact (let ⟨ds, e, q⟩ := q; ⟨ds, e, w _ _ q⟩) | exact q.elim
  case tuple => unfold nTuple at q ⊢; split at q <;> first | exact (let ⟨ds, e, q⟩ := q; ⟨ds, e, w _ _ q⟩) | exact q.elim
  case list m => unfold nList at q ⊢; split at q <;> first | exact (let ⟨ds, e, q⟩ := q; ⟨ds, e, newL_mono w q⟩) | exact q.elim
  case abs => unfold nAbs at q ⊢; split at q <;> first | exact w _ _ q | exact q.elim
  case int => unfold nInt at q ⊢; split at q <;> first | exact w _ _ q | exact q.elim
  case divmod => unfold nDivmod at q ⊢; split at q <;> first | exact ⟨q.1, w _ _ q.2⟩ | exact q.elim
  case all => unfold nAll at q ⊢; split at q <;> first | exact (let ⟨ds, e, q⟩ := q; ⟨ds, e, w _ _ q⟩) | exact q.elim
  case any => unfold nAny at q ⊢; split at q <;> first | exact (let ⟨ds, e, q⟩ := q; ⟨ds, e, w _ _ q⟩) | exact q.elim
  case sum => unfold nSum at q ⊢; split at q <;> first | exact (let ⟨ds, e, q⟩ := q; ⟨ds, e, w _ _ q⟩) | exact q.elim
  case min =>
    unfold nMin at q ⊢
    split at q
    · exact w _ _ q
    · obtain ⟨ns, e, l, q⟩ := q
      exact ⟨ns, e, l, fun m h1 h2 => w _ _ (q m h1 h2)⟩
    · exact fun m h1 h2 => w _ _ (q m h1 h2)
    · exact q.elim
  case max =>
    unfold nMax at q ⊢
    split at q
    · exact w _ _ q
    · obtain ⟨ns, e, l, q⟩ := q
      exact ⟨ns, e, l, fun m h1 h2 => w _ _ (q m h1 h2)⟩
    · exact q.elim
  case isi => unfold nIsi at q ⊢; split at q <;> first | exact (let ⟨a, b, q⟩ := q; ⟨a, b, w _ _ q⟩) | exact q.elim
  case repr => unfold nRepr at q ⊢; split at q <;> first | exact (let ⟨p, e, o, q⟩ := q; ⟨p, e, o, w _ _ q⟩) | exact q.elim
  case sorted m =>
    obtain ⟨x, nss, e1, e2, ne, q⟩ := q
    exact ⟨x, nss, e1, e2, ne, newL_mono w q⟩
theorem mon_mf {f : MF} : MonRn (mfS f) := by
  intro xs h Q Q' w q
  cases f <;> simp only [mfS] at q ⊢
  · unfold nGcd at q ⊢; split at q <;> first | exact w _ _ q | exact q.elim
  · unfold nLcm at q ⊢; split at q <;> first | exact ⟨q.1, w _ _ q.2⟩ | exact q.elim
theorem mon_mt {t : MT} : ∀ x xs h (Q Q' : AQ), (∀ d h', Q d h' → Q' d h') → mtS t x xs h Q → mtS t x xs h Q' := by
  intro x xs h Q Q' w q
  cases t <;> simp only [mtS] at q ⊢
  · obtain ⟨a, ds, y, e1, e2, e3, e4, q⟩ := q; exact ⟨a, ds, y, e1, e2, e3, e4, w _ _ q⟩
  · obtain ⟨a, ds, y, e1, e2, e3, e4, q⟩ := q; exact ⟨a, ds, y, e1, e2, e3, e4, w _ _ q⟩
  · obtain ⟨a, ds, i, k, y, e1, e2, e3, e4, e5, e6, q⟩ := q; exact ⟨a, ds, i, k, y, e1, e2, e3, e4, e5, e6, w _ _ q⟩
  · obtain ⟨ds, y, e1, e2, e3, q⟩ := q; exact ⟨ds, y, e1, e2, e3, w _ _ q⟩
  · obtain ⟨ds, y, j, e1, e2, e3, e4, q⟩ := q; exact ⟨ds, y, j, e1, e2, e3, e4, w _ _ q⟩
  · obtain ⟨a, ds, i, y, e1, e2, e3, e4, e5, q⟩ := q; exact ⟨a, ds, i, y, e1, e2, e3, e4, e5, w _ _ q⟩
theorem mon_true : MonE aTrue := fun σ h Q Q' w q => w _ _ q
section
variable {Γ : Gam}
mutual
theorem mon_E : ∀ (c : CE), MonE (aE Γ c)
  | .cst c => fun σ h Q Q' w q => w _ _ q
  | .var i => fun σ h Q Q' w ⟨d, e, q⟩ => ⟨d, e, w _ _ q⟩
  | .glo _ g => fun σ h Q Q' w q => w _ _ q
  | .ty n => fun σ h Q Q' w q => w _ _ q
  | .bin op m a b => aop_mon mon_op (mon_E a) (mon_E b)
  | .neg a => fun σ h Q Q' w q => mon_E a _ _ _ _ (fun d h1 q1 => mon_neg _ _ _ _ w q1) q
  | .nt a => anot_mon (mon_E a)
  | .cmp op a b => aop_mon mon_cmp (mon_E a) (mon_E b)
  | .chn o1 o2 a b c => achn_mon mon_cmp mon_cmp (mon_E a) (mon_E b) (mon_E c)
  | .con op es => mon_Con op es
  | .ife c a b => aif_mon (mon_E c) (mon_E a) (mon_E b)
  | .tup es => fun σ h Q Q' w q => mon_A es _ _ _ _ (fun ds h1 ⟨z, q1⟩ => ⟨z, w _ _ q1⟩) q
  | .lst m es => fun σ h Q Q' w q => mon_A es _ _ _ _ (fun ds h1 ⟨z, q1⟩ => ⟨z, newL_mono w q1⟩) q
  | .idx a i => aop_mon mon_ix (mon_E a) (mon_E i)
  | .cut m a lo hi => fun σ h Q Q' w q => mon_E a _ _ _ _ (fun x h1 q1 => mon_O lo _ _ _ _ (fun l h2 q2 => mon_O hi _ _ _ _ (fun u h3 q3 => scut_mono w q3) q2) q1) q
  | .rev m a => fun σ h Q Q' w q => mon_E a _ _ _ _ (fun x h1 ⟨ds, e, q1⟩ => ⟨ds, e, newL_mono w q1⟩) q
  | .rep m es b => aop_mon mon_rep (fun σ h Q Q' w q => mon_A es _ _ _ _ (fun ds h1 ⟨z, q1⟩ => ⟨z, newL_mono w q1⟩) q) (mon_E b)
  | .fn k es => fun σ h Q Q' w q => mon_A es _ _ _ _ (fun ds h1 ⟨l, q1⟩ => ⟨l, up_mono _ _ _ _ _ w q1⟩) q
  | .fnK k es ks ws pm => fun σ h Q Q' w q => mon_A es _ _ _ _ (fun ds h1 q1 => mon_A ws _ _ _ _ (fun us h2 ⟨l1, l2, l3, q2⟩ => ⟨l1, l2, l3, up_mono _ _ _ _ _ w q2⟩) q1) q
  | .bi b es => acall_mon mon_bi (mon_A es)
  | .mf f es => acall_mon mon_mf (mon_A es)
  | .inn n a b => aop_mon (fun x y h Q Q' w ⟨ds, e, o, q⟩ => ⟨ds, e, o, w _ _ q⟩) (mon_E a) (mon_E b)
  | .rvd m lst a => rvd_mon (mon_E a)
  | .srtS m a => fun σ h Q Q' w q => mon_E a _ _ _ _ (fun x h1 ⟨nss, e1, few, ne, q1⟩ => ⟨nss, e1, few, ne, newL_mono w q1⟩) q
  | .srtC m p it e own => fun σ h Q Q' w q => mon_I it _ _ _ _ (fun src h1 ⟨z, q1⟩ => ⟨z, lcD_mono (mon_P p) mon_true (tInt_mon (mon_E e)) (fun acc h2 ⟨nss, e, q2⟩ => ⟨nss, e, newL_mono w q2⟩) _ _ _ q1⟩) q
  | .met t i es => fun σ h Q Q' w ⟨d, e, ok, q⟩ => ⟨d, e, ok, mon_A es _ _ _ _ (fun ds h2 q2 => mon_mt _ _ _ _ _ w q2) q⟩
  | .lc m p it .nil e own => fun σ h Q Q' w q => mon_I it _ _ _ _ (fun src h1 ⟨z, q1⟩ => ⟨z, lcD_mono (mon_P p) mon_true (mon_E e) (fun acc h2 q2 => newL_mono w q2) _ _ _ q1⟩) q
  | .lc m p it (.cons c r) e own => fun σ h Q Q' w q => mon_I it _ _ _ _ (fun src h1 ⟨z, q1⟩ => ⟨z, lcD_mono (mon_P p) (mon_E c) (mon_E e) (fun acc h2 q2 => newL_mono w q2) _ _ _ q1⟩) q
theorem mon_Con (op : BoolOp) : ∀ (es : CA), MonE (aCon Γ op es)
  | .nil => fun σ h Q Q' w q => q
  | .cons e .nil => mon_E e
  | .cons e (.cons e2 r) => by
    cases op with
    | And => exact aand_mon (mon_E e) (mon_Con .And (.cons e2 r))
    | Or => exact aor_mon (mon_E e) (mon_Con .Or (.cons e2 r))
theorem mon_A : ∀ (es : CA), MonA (aA Γ es)
  | .nil => fun σ h Q Q' w q => w _ _ q
  | .cons e r => fun σ h Q Q' w q => mon_E e _ _ _ _ (fun d h1 q1 => mon_A r _ _ _ _ (fun ds h2 q2 => w _ _ q2) q1) q
theorem mon_O : ∀ (o : CO) σ h (Q Q' : Option Int → AH → Prop), (∀ d h', Q d h' → Q' d h') → aO Γ o σ h Q → aO Γ o σ h Q'
  | .no => fun σ h Q Q' w q => w _ _ q
  | .pt e => fun σ h Q Q' w q => mon_E e _ _ _ _ (fun d h1 ⟨i, e, q1⟩ => ⟨i, e, w _ _ q1⟩) q
theorem mon_P : ∀ (p : CP), MonG (aP Γ p)
  | .nm i => fun d σ h Q Q' w q => w _ _ q
  | .tp ps => fun d σ h Q Q' w ⟨ds, e, l, q⟩ => ⟨ds, e, l, mon_Ps ps _ _ _ _ _ w q⟩
  | .sb o i => fun d σ h Q Q' w q => mon_E o _ _ _ _ (fun x h1 q1 => mon_E i _ _ _ _ (fun y h2 ⟨a, k, j, ds, e1, e2, e3, e4, q2⟩ => ⟨a, k, j, ds, e1, e2, e3, e4, w _ _ q2⟩) q1) q
theorem mon_Ps : ∀ (ps : CPs), MonGs (aPs Γ ps)
  | .nil => fun ds σ h Q Q' w q => ⟨q.1, w _ _ q.2⟩
  | .cons p r => fun ds σ h Q Q' w ⟨d0, r0, e, q⟩ => ⟨d0, r0, e, mon_P p _ _ _ _ _ (fun σ1 h1 q1 => mon_Ps r _ _ _ _ _ w q1) q⟩
theorem mon_I : ∀ (it : CI), MonI (aI Γ it)
  | .seq e => fun σ h Q Q' w q => mon_E e _ _ _ _ (fun d h1 q1 => by
    cases d with
    | tup ds => exact w _ _ q1
    | lst ds => exact w _ _ q1
    | ref a =>
      obtain ⟨ds, e1, q1⟩ := q1
      exact ⟨ds, e1, w _ _ q1⟩
    | _ => exact q1) q
  | .enm e => fun σ h Q Q' w q => mon_E e _ _ _ _ (fun d h1 ⟨x, ds, e1, e2, q1⟩ => ⟨x, ds, e1, e2, w _ _ q1⟩) q
  | .zp a b => fun σ h Q Q' w q => mon_E a _ _ _ _ (fun d h1 q1 => mon_E b _ _ _ _ (fun d2 h2 ⟨x, y, ds, es, e1, e2, e3, q2⟩ => ⟨x, y, ds, es, e1, e2, e3, w _ _ q2⟩) q1) q
  | .rng .nil => fun σ h Q Q' w q => q.elim
  | .rng (.cons a .nil) => fun σ h Q Q' w q => mon_E a _ _ _ _ (fun d h1 ⟨j, e, b, q1⟩ => ⟨j, e, b, w _ _ q1⟩) q
  | .rng (.cons a (.cons b .nil)) => fun σ h Q Q' w q => mon_E a _ _ _ _ (fun d h1 q1 => mon_E b _ _ _ _ (fun d2 h2 ⟨i, j, e, bb, q2⟩ => ⟨i, j, e, bb, w _ _ q2⟩) q1) q
  | .rng (.cons a (.cons b (.cons c r))) => fun σ h Q Q' w q => q.elim
end
mutual
theorem mon_S : ∀ (c : CS), MonS (aS Γ c)
  | .asg p e => sasg_mon (mon_E e) (mon_P p)
  | .par2 i j es => fun D D' σ h l q => mon_A es _ _ _ _ (fun ds h1 ⟨v, w, e, q1⟩ => ⟨v, w, e, l.nx _ _ q1⟩) q
  | .par3 i j k es => fun D D' σ h l q => mon_A es _ _ _ _ (fun ds h1 ⟨u, v, w, e, q1⟩ => ⟨u, v, w, e, l.nx _ _ q1⟩) q
  | .ret e => fun D D' σ h l q => mon_E e _ _ _ _ l.rt q
  | .retN => fun D D' σ h l q => l.rt _ _ q
  | .expr e => fun D D' σ h l q => mon_E e _ _ _ _ (fun _ h1 q1 => l.nx _ _ q1) q
  | .ife c a b => fun D D' σ h l q => mon_E c _ _ _ _ (fun d h1 ⟨k, e, q1⟩ => ⟨k, e, by
    cases k with
    | true => exact mon_Ss a _ _ _ _ l q1
    | false => exact mon_Ss b _ _ _ _ l q1⟩) q
  | .for_ p it b => fun D D' σ h l q => mon_I it _ _ _ _ (fun src h1 q1 => loopD_mono (mon_P p) (mon_Ss b) l _ _ _ q1) q
  | .whl c b => fun D D' σ h l ⟨W, w0, ws⟩ => ⟨W, w0, fun m σ h w => mon_E c _ _ _ _ (fun d h1 ⟨k, e, q1⟩ => ⟨k, e, by
    cases k with
    | true => exact mon_Ss b { D with nx := fun σ' h' => ∃ m', m' < m ∧ W m' σ' h', ct := fun σ' h' => ∃ m', m' < m ∧ W m' σ' h', bk := D.nx } _ _ _ ⟨fun _ _ z => z, l.rt, l.nx, fun _ _ z => z⟩ q1
    | false => exact l.nx _ _ q1⟩) (ws m σ h w)⟩
  | .brk => fun D D' σ h l q => l.bk _ _ q
  | .cnt => fun D D' σ h l q => l.ct _ _ q
  | .pas => fun D D' σ h l q => l.nx _ _ q
  | .nev => fun D D' σ h l q => q
  | .aug i e => fun D D' σ h l ⟨a, ea, q⟩ => ⟨a, ea, mon_E e _ _ _ _ (fun d h1 ⟨b, e2, q1⟩ => ⟨b, e2, l.nx _ _ q1⟩) q⟩
theorem mon_Ss : ∀ (c : CSs), MonS (aSs Γ c)
  | .nil => fun D D' σ h l q => l.nx _ _ q
  | .cons s r => fun D D' σ h l q => mon_S s { D with nx := fun σ' h' => aSs Γ r D σ' h' } { D' with nx := fun σ' h' => aSs Γ r D' σ' h' } _ _ ⟨fun σ' h' q' => mon_Ss r D D' _ _ l q', l.rt, l.bk, l.ct⟩ q
  | .frz i r => fun D D' σ h l ⟨a, ds, e1, e2, q⟩ => ⟨a, ds, e1, e2, mon_Ss r _ _ _ _ l q⟩
end
end
/-! ## loops -/
section
variable {Γ : Gam}
/-- for: I says what holds when the items of the first list are done -/
theorem loop_inv {p : CP} {b : CSs} {ok : AH → Prop} {E : AEnds} (I : List D → ASt → AH → Prop) {ds : List D} (hok : ∀ pre σ h, I pre σ h → ok h)
    (hs : ∀ pre d post σ h, ds = pre ++ d :: post → I pre σ h → aP Γ p d σ h fun σ2 h2 => aSs Γ b { nx := I (pre ++ [d]), rt := E.rt, bk := E.nx, ct := I (pre ++ [d]) } σ2 h2) (hd : ∀ σ h, I ds σ h → E.nx σ h) :
    ∀ (post pre : List D), ds = pre ++ post → ∀ σ h, I pre σ h → loopD (fun d E' σ' h' => aP Γ p d σ' h' fun σ2 h2 => aSs Γ b E' σ2 h2) ok E post σ h
  | [], pre, e, σ, h, i => by
    rw [List.append_nil] at e
    subst e
    exact ⟨hok _ _ _ i, hd _ _ i⟩
  | d :: post, pre, e, σ, h, i => by
    have next : ∀ σ h, I (pre ++ [d]) σ h → loopD (fun d E' σ' h' => aP Γ p d σ' h' fun σ2 h2 => aSs Γ b E' σ2 h2) ok E post σ h := fun σ h i => loop_inv I hok hs hd post (pre ++ [d]) (by rw [e]; simp) σ h i
    refine ⟨hok _ _ _ i, mon_P p _ _ _ _ _ (fun σ2 h2 q => mon_Ss b { nx := I (pre ++ [d]), rt := E.rt, bk := E.nx, ct := I (pre ++ [d]) } _ _ _ ⟨next, fun _ _ z => z, fun _ _ z => z, next⟩ q) (hs pre d post σ h e i)⟩
/-- for, the source walked to its end from the start -/
theorem for_inv {p : CP} {b : CSs} {src : Src} {E : AEnds} {σ : ASt} {h : AH} (I : List D → ASt → AH → Prop) (h0 : I [] σ h) (hok : ∀ pre σ h, I pre σ h → src.ok h)
    (hs : ∀ pre d post σ h, src.ds = pre ++ d :: post → I pre σ h → aP Γ p d σ h fun σ2 h2 => aSs Γ b { nx := I (pre ++ [d]), rt := E.rt, bk := E.nx, ct := I (pre ++ [d]) } σ2 h2) (hd : ∀ σ h, I src.ds σ h → E.nx σ h) :
    loopD (fun d E' σ' h' => aP Γ p d σ' h' fun σ2 h2 => aSs Γ b E' σ2 h2) src.ok E src.ds σ h := loop_inv I hok hs hd src.ds [] rfl σ h h0
/-- comprehension: I says what holds when the items of the first list are done, and what is made -/
theorem comp_inv {p : CP} {tt e : ATE} {vs : List Nat} {ok : AH → Prop} {σ : ASt} {Qf : List D → AH → Prop} (me : MonE e) (mt : MonE tt) (I : List D → List D → AH → Prop) {ds : List D} (hok : ∀ pre acc h, I pre acc h → ok h)
    (hs : ∀ pre d post acc h, ds = pre ++ d :: post → I pre acc h → aP Γ p d (wipeA σ vs) h fun σ2 h2 => tt σ2 h2 fun b h3 => ∃ k, b = .bl k ∧ if k = true then e σ2 h3 fun y h4 => I (pre ++ [d]) (acc ++ [y]) h4 else I (pre ++ [d]) acc h3) (hd : ∀ acc h, I ds acc h → Qf acc h) :
    ∀ (post pre acc : List D), ds = pre ++ post → ∀ h, I pre acc h → lcD (lcStep (aP Γ p) tt e vs σ) ok post acc h Qf
  | [], pre, acc, eq, h, i => by
    rw [List.append_nil] at eq
    subst eq
    exact ⟨hok _ _ _ i, hd _ _ i⟩
  | d :: post, pre, acc, eq, h, i => by
    refine ⟨hok _ _ _ i, mon_P p _ _ _ _ _ (fun σ2 h2 q => mt _ _ _ _ (fun b h3 ⟨k, e3, q3⟩ => ⟨k, e3, ?_⟩) q) (hs pre d post acc h eq i)⟩
    cases k with
    | true => exact me _ _ _ _ (fun y h4 q4 => comp_inv me mt I hok hs hd post (pre ++ [d]) (acc ++ [y]) (by rw [eq]; simp) h4 q4) q3
    | false => exact comp_inv me mt I hok hs hd post (pre ++ [d]) acc (by rw [eq]; simp) h3 q3
/-! ## readings for simp -/
variable {σ : ASt} {h : AH} {Q : AQ} {E : AEnds}
@[simp] theorem wp_var {i : Nat} : aE Γ (.var i) σ h Q ↔ ∃ d, σ[i]? = some (some d) ∧ Q d h := Iff.rfl
@[simp] theorem wp_cst {c : Const} : aE Γ (.cst c) σ h Q ↔ Q (cD c) h := Iff.rfl
@[simp] theorem wp_glo {x : Str} {g : GV} : aE Γ (.glo x g) σ h Q ↔ Q (gD g) h := Iff.rfl
@[simp] theorem wp_ty {n : String} : aE Γ (.ty n) σ h Q ↔ Q (.ty n) h := Iff.rfl
@[simp] theorem wp_bin {op : Operator} {m : Bool} {a b : CE} : aE Γ (.bin op m a b) σ h Q ↔ aE Γ a σ h fun x h1 => aE Γ b σ h1 fun y h2 => opS m op x y h2 Q := Iff.rfl
@[simp] theorem wp_neg {a : CE} : aE Γ (.neg a) σ h Q ↔ aE Γ a σ h fun x h1 => sNeg x h1 Q := Iff.rfl
@[simp] theorem wp_nt {a : CE} : aE Γ (.nt a) σ h Q ↔ aE Γ a σ h fun d h1 => ∃ k, d = .bl k ∧ Q (.bl (!k)) h1 := Iff.rfl
@[simp] theorem wp_cmp {op : CmpOp} {a b : CE} : aE Γ (.cmp op a b) σ h Q ↔ aE Γ a σ h fun x h1 => aE Γ b σ h1 fun y h2 => cmpS op x y h2 Q := Iff.rfl
@[simp] theorem wp_con {op : BoolOp} {es : CA} : aE Γ (.con op es) σ h Q ↔ aCon Γ op es σ h Q := Iff.rfl
@[simp] theorem wp_con1 {op : BoolOp} {e : CE} : aCon Γ op (.cons e .nil) σ h Q ↔ aE Γ e σ h Q := Iff.rfl
@[simp] theorem wp_and {e e2 : CE} {r : CA} : aCon Γ .And (.cons e (.cons e2 r)) σ h Q ↔ aE Γ e σ h fun d h1 => ∃ k, d = .bl k ∧ if k = true then aCon Γ .And (.cons e2 r) σ h1 Q else Q (.bl false) h1 := Iff.rfl
@[simp] theorem wp_or {e e2 : CE} {r : CA} : aCon Γ .Or (.cons e (.cons e2 r)) σ h Q ↔ aE Γ e σ h fun d h1 => ∃ k, d = .bl k ∧ if k = true then Q (.bl true) h1 else aCon Γ .Or (.cons e2 r) σ h1 Q := Iff.rfl
@[simp] theorem wp_ife {c a b : CE} : aE Γ (.ife c a b) σ h Q ↔ aE Γ c σ h fun d h1 => ∃ k, d = .bl k ∧ if k = true then aE Γ a σ h1 Q else aE Γ b σ h1 Q := Iff.rfl
@[simp] theorem wp_tup {es : CA} : aE Γ (.tup es) σ h Q ↔ aA Γ es σ h fun ds h1 => ds.length ≤ PySem.sizeLine ∧ Q (.tup ds) h1 := Iff.rfl
@[simp] theorem wp_lst {m : Bool} {es : CA} : aE Γ (.lst m es) σ h Q ↔ aA Γ es σ h fun ds h1 => ds.length ≤ PySem.sizeLine ∧ newL m ds h1 Q := Iff.rfl
@[simp] theorem wp_idx {a i : CE} : aE Γ (.idx a i) σ h Q ↔ aE Γ a σ h fun x h1 => aE Γ i σ h1 fun y h2 => sIx x y h2 Q := Iff.rfl
@[simp] theorem wp_fn {k : Nat} {es : CA} : aE Γ (.fn k es) σ h Q ↔ aA Γ es σ h fun ds h1 => ds.length = (Γ k).1 ∧ up (Γ k).2 ds h1 Q noX := Iff.rfl
@[simp] theorem wp_bi {b : BI} {es : CA} : aE Γ (.bi b es) σ h Q ↔ aA Γ es σ h fun ds h1 => biS b ds h1 Q := Iff.rfl
@[simp] theorem wp_mf {f : MF} {es : CA} : aE Γ (.mf f es) σ h Q ↔ aA Γ es σ h fun ds h1 => mfS f ds h1 Q := Iff.rfl
@[simp] theorem wp_inn {n : Bool} {a b : CE} : aE Γ (.inn n a b) σ h Q ↔ aE Γ a σ h fun x h1 => aE Γ b σ h1 fun y h2 => sIn n x y h2 Q := Iff.rfl
@[simp] theorem wp_met {t : MT} {i : Nat} {es : CA} : aE Γ (.met t i es) σ h Q ↔ ∃ d, σ[i]? = some (some d) ∧ okRecv "list" h d ∧ aA Γ es σ h fun ds h1 => mtS t d ds h1 Q := Iff.rfl
@[simp] theorem wp_cut {m : Bool} {a : CE} {lo hi : CO} : aE Γ (.cut m a lo hi) σ h Q ↔ aE Γ a σ h fun x h1 => aO Γ lo σ h1 fun l h2 => aO Γ hi σ h2 fun u h3 => sCut m x l u h3 Q := Iff.rfl
@[simp] theorem wp_rev {m : Bool} {a : CE} : aE Γ (.rev m a) σ h Q ↔ aE Γ a σ h fun x h1 => ∃ ds, seqL h1 x = some ds ∧ newL m ds.reverse h1 Q := Iff.rfl
@[simp] theorem wp_rep {m : Bool} {es : CA} {b : CE} : aE Γ (.rep m es b) σ h Q ↔ aA Γ es σ h fun ds h1 => ds.length ≤ PySem.sizeLine ∧ newL true ds h1 fun x h2 => aE Γ b σ h2 fun y h3 => sRep m x y h3 Q := Iff.rfl
@[simp] theorem wp_no {Q : Option Int → AH → Prop} : aO Γ .no σ h Q ↔ Q none h := Iff.rfl
@[simp] theorem wp_pt {e : CE} {Q : Option Int → AH → Prop} : aO Γ (.pt e) σ h Q ↔ aE Γ e σ h fun d h1 => ∃ i, d = .int i ∧ Q (some i) h1 := Iff.rfl
@[simp] theorem wp_nil {Q : List D → AH → Prop} : aA Γ .nil σ h Q ↔ Q [] h := Iff.rfl
@[simp] theorem wp_cons {e : CE} {r : CA} {Q : List D → AH → Prop} : aA Γ (.cons e r) σ h Q ↔ aE Γ e σ h fun d h1 => aA Γ r σ h1 fun ds h2 => Q (d :: ds) h2 := Iff.rfl
@[simp] theorem wp_nm {i : Nat} {d : D} {Q : ASt → AH → Prop} : aP Γ (.nm i) d σ h Q ↔ Q (σ.set i (some d)) h := Iff.rfl
@[simp] theorem wp_tp {ps : CPs} {d : D} {Q : ASt → AH → Prop} : aP Γ (.tp ps) d σ h Q ↔ ∃ ds, seqA h d = some ds ∧ ds.length = lenPs ps ∧ aPs Γ ps ds σ h Q := Iff.rfl
@[simp] theorem wp_sb {o i : CE} {d : D} {Q : ASt → AH → Prop} : aP Γ (.sb o i) d σ h Q ↔ aE Γ o σ h fun x h1 => aE Γ i σ h1 fun k h2 => ∃ a j n ds, x = .ref a ∧ k = .int j ∧ h2 a = some ds ∧ ixN ds.length j = some n ∧ Q σ (h2.set a (ds.set n d)) := Iff.rfl
@[simp] theorem wp_pn {ds : List D} {Q : ASt → AH → Prop} : aPs Γ .nil ds σ h Q ↔ ds = [] ∧ Q σ h := Iff.rfl
@[simp] theorem wp_pc {p : CP} {r : CPs} {d : D} {ds : List D} {Q : ASt → AH → Prop} : aPs Γ (.cons p r) (d :: ds) σ h Q ↔ aP Γ p d σ h fun σ' h' => aPs Γ r ds σ' h' Q := by
  show (∃ d0 r0, d :: ds = d0 :: r0 ∧ _) ↔ _
  constructor
  · rintro ⟨d0, r0, e, q⟩
    cases e
    exact q
  · exact fun q => ⟨d, ds, rfl, q⟩
@[simp] theorem wp_sn : aSs Γ .nil E σ h ↔ E.nx σ h := Iff.rfl
@[simp] theorem wp_sc {s : CS} {r : CSs} : aSs Γ (.cons s r) E σ h ↔ aS Γ s { E with nx := fun σ' h' => aSs Γ r E σ' h' } σ h := Iff.rfl
@[simp] theorem wp_fz {i : Nat} {r : CSs} : aSs Γ (.frz i r) E σ h ↔ ∃ a ds, σ[i]? = some (some (.ref a)) ∧ h a = some ds ∧ aSs Γ r E (σ.set i (some (.lst ds))) (h.del a) := Iff.rfl
@[simp] theorem wp_asg {p : CP} {e : CE} : aS Γ (.asg p e) E σ h ↔ aE Γ e σ h fun d h1 => aP Γ p d σ h1 E.nx := Iff.rfl
@[simp] theorem wp_par2 {i j : Nat} {es : CA} : aS Γ (.par2 i j es) E σ h ↔ aA Γ es σ h fun ds h1 => ∃ v w, ds = [v, w] ∧ E.nx ((σ.set i (some v)).set j (some w)) h1 := Iff.rfl
@[simp] theorem wp_par3 {i j k : Nat} {es : CA} : aS Γ (.par3 i j k es) E σ h ↔ aA Γ es σ h fun ds h1 => ∃ u v w, ds = [u, v, w] ∧ E.nx (((σ.set i (some u)).set j (some v)).set k (some w)) h1 := Iff.rfl
@[simp] theorem wp_ret {e : CE} : aS Γ (.ret e) E σ h ↔ aE Γ e σ h E.rt := Iff.rfl
@[simp] theorem wp_retN : aS Γ .retN E σ h ↔ E.rt .non h := Iff.rfl
@[simp] theorem wp_expr {e : CE} : aS Γ (.expr e) E σ h ↔ aE Γ e σ h fun _ h1 => E.nx σ h1 := Iff.rfl
@[simp] theorem wp_if {c : CE} {a b : CSs} : aS Γ (.ife c a b) E σ h ↔ aE Γ c σ h fun d h1 => ∃ k, d = .bl k ∧ if k = true then aSs Γ a E σ h1 else aSs Γ b E σ h1 := Iff.rfl
@[simp] theorem wp_brk : aS Γ .brk E σ h ↔ E.bk σ h := Iff.rfl
@[simp] theorem wp_cnt : aS Γ .cnt E σ h ↔ E.ct σ h := Iff.rfl
@[simp] theorem wp_pas : aS Γ .pas E σ h ↔ E.nx σ h := Iff.rfl
@[simp] theorem wp_nev : aS Γ .nev E σ h ↔ False := Iff.rfl
@[simp] theorem wp_aug {i : Nat} {e : CE} : aS Γ (.aug i e) E σ h ↔ ∃ a, σ[i]? = some (some (.int a)) ∧ aE Γ e σ h fun d h1 => ∃ b, d = .int b ∧ E.nx (σ.set i (some (.int (a + b)))) h1 := Iff.rfl
theorem wp_for {p : CP} {it : CI} {b : CSs} : aS Γ (.for_ p it b) E σ h ↔ aI Γ it σ h fun src h1 => loopD (fun d E' σ' h' => aP Γ p d σ' h' fun σ2 h2 => aSs Γ b E' σ2 h2) src.ok E src.ds σ h1 := Iff.rfl
theorem wp_lc0 {m : Bool} {p : CP} {it : CI} {e : CE} {own : List (Str × Nat)} : aE Γ (.lc m p it .nil e own) σ h Q ↔ aI Γ it σ h fun src h1 => src.ds.length ≤ PySem.sizeLine ∧ lcD (lcStep (aP Γ p) aTrue (aE Γ e) (own.map (·.2)) σ) src.ok src.ds [] h1 fun acc h2 => newL m acc h2 Q := Iff.rfl
theorem wp_lc1 {m : Bool} {p : CP} {it : CI} {c e : CE} {r : CA} {own : List (Str × Nat)} : aE Γ (.lc m p it (.cons c r) e own) σ h Q ↔ aI Γ it σ h fun src h1 => src.ds.length ≤ PySem.sizeLine ∧ lcD (lcStep (aP Γ p) (aE Γ c) (aE Γ e) (own.map (·.2)) σ) src.ok src.ds [] h1 fun acc h2 => newL m acc h2 Q := Iff.rfl
@[simp] theorem wi_seq {e : CE} {R : Src → AH → Prop} : aI Γ (.seq e) σ h R ↔ aE Γ e σ h fun d h1 => match d with
  | .tup ds => R ⟨ds, fun _ => True⟩ h1
  | .lst ds => R ⟨ds, fun _ => True⟩ h1
  | .ref a => ∃ ds, h1 a = some ds ∧ R ⟨ds, fun h => h a = some ds⟩ h1
  | _ => False := Iff.rfl
@[simp] theorem wi_rng1 {e : CE} {R : Src → AH → Prop} : aI Γ (.rng (.cons e .nil)) σ h R ↔ aE Γ e σ h fun d h1 => ∃ j : Int, [d] = [D.int j] ∧ (-(2 ^ 62) ≤ j ∧ j < 2 ^ 62) ∧ R ⟨rngD 0 j.toNat, fun _ => True⟩ h1 := Iff.rfl
@[simp] theorem wi_rng2 {a b : CE} {R : Src → AH → Prop} : aI Γ (.rng (.cons a (.cons b .nil))) σ h R ↔ aE Γ a σ h fun d h1 => aE Γ b σ h1 fun d2 h2 => ∃ i j : Int, [d, d2] = [D.int i, D.int j] ∧ (-(2 ^ 62) ≤ i ∧ i < 2 ^ 62 ∧ -(2 ^ 62) ≤ j ∧ j < 2 ^ 62) ∧ R ⟨rngD i (j - i).toNat, fun _ => True⟩ h2 := Iff.rfl
@[simp] theorem wi_enm {e : CE} {R : Src → AH → Prop} : aI Γ (.enm e) σ h R ↔ aE Γ e σ h fun d h1 => ∃ ds, seqA h1 d = some ds ∧ R ⟨enumD 0 ds, okOf d ds⟩ h1 := by
  show (aE Γ e σ h fun d h1 => ∃ x ds, [d] = [x] ∧ _) ↔ _
  constructor
  · exact fun q => mon_E e _ _ _ _ (fun d h1 ⟨x, ds, e1, e2, q1⟩ => by cases e1; exact ⟨ds, e2, q1⟩) q
  · exact fun q => mon_E e _ _ _ _ (fun d h1 ⟨ds, e2, q1⟩ => ⟨d, ds, rfl, e2, q1⟩) q
@[simp] theorem wi_zp {a b : CE} {R : Src → AH → Prop} : aI Γ (.zp a b) σ h R ↔ aE Γ a σ h fun x h1 => aE Γ b σ h1 fun y h2 => ∃ ds es, seqA h2 x = some ds ∧ seqA h2 y = some es ∧ R ⟨zipD ds es, fun h => okOf x ds h ∧ okOf y es h⟩ h2 := by
  show (aE Γ a σ h fun d h1 => aE Γ b σ h1 fun d2 h2 => ∃ x y ds es, [d, d2] = [x, y] ∧ _) ↔ _
  constructor
  · exact fun q => mon_E a _ _ _ _ (fun d h1 q1 => mon_E b _ _ _ _ (fun d2 h2 ⟨x, y, ds, es, e1, e2, e3, q2⟩ => by cases e1; exact ⟨ds, es, e2, e3, q2⟩) q1) q
  · exact fun q => mon_E a _ _ _ _ (fun d h1 q1 => mon_E b _ _ _ _ (fun d2 h2 ⟨ds, es, e2, e3, q2⟩ => ⟨d, d2, ds, es, rfl, e2, e3, q2⟩) q1) q
/-! operators -/
@[simp] theorem ws_add {m : Bool} {i j : Int} : opS m .Add (.int i) (.int j) h Q ↔ Q (.int (i + j)) h := Iff.rfl
@[simp] theorem ws_addL {m : Bool} {xs ys : List D} : opS m .Add (.lst xs) (.lst ys) h Q ↔ xs.length + ys.length ≤ PySem.sizeLine ∧ newL m (xs ++ ys) h Q := by
  show (∃ a b, some xs = some a ∧ some ys = some b ∧ _) ↔ _
  simp
@[simp] theorem ws_addT {m : Bool} {xs ys : List D} : opS m .Add (.tup xs) (.tup ys) h Q ↔ xs.length + ys.length ≤ PySem.sizeLine ∧ Q (.tup (xs ++ ys)) h := Iff.rfl
@[simp] theorem ws_sub {m : Bool} {i j : Int} : opS m .Sub (.int i) (.int j) h Q ↔ Q (.int (i - j)) h := Iff.rfl
@[simp] theorem ws_mul {m : Bool} {i j : Int} : opS m .Mult (.int i) (.int j) h Q ↔ MulOk i j ∧ Q (.int (i * j)) h := Iff.rfl
@[simp] theorem ws_div {m : Bool} {i j : Int} : opS m .FloorDiv (.int i) (.int j) h Q ↔ DivOk j ∧ Q (.int (i / j)) h := Iff.rfl
@[simp] theorem ws_mod {m : Bool} {i j : Int} : opS m .Mod (.int i) (.int j) h Q ↔ 0 < j ∧ Q (.int (i % j)) h := Iff.rfl
@[simp] theorem ws_pow {m : Bool} {i j : Int} : opS m .Pow (.int i) (.int j) h Q ↔ (0 ≤ j ∧ j ≤ 1000000 ∧ i.natAbs < 2 ^ 64) ∧ Q (.int (i ^ j.toNat)) h := Iff.rfl
@[simp] theorem ws_neg {i : Int} : sNeg (.int i) h Q ↔ Q (.int (-i)) h := Iff.rfl
@[simp] theorem ws_lt {i j : Int} : cmpS .Lt (.int i) (.int j) h Q ↔ Q (.bl (decide (i < j))) h := Iff.rfl
@[simp] theorem ws_le {i j : Int} : cmpS .LtE (.int i) (.int j) h Q ↔ Q (.bl (decide (i ≤ j))) h := Iff.rfl
@[simp] theorem ws_gt {i j : Int} : cmpS .Gt (.int i) (.int j) h Q ↔ Q (.bl (decide (j < i))) h := Iff.rfl
@[simp] theorem ws_ge {i j : Int} : cmpS .GtE (.int i) (.int j) h Q ↔ Q (.bl (decide (j ≤ i))) h := Iff.rfl
@[simp] theorem ws_isN {x : D} : cmpS .Is x .non h Q ↔ Q (.bl (isNon x)) h := Iff.rfl
@[simp] theorem ws_isntN {x : D} : cmpS .IsNot x .non h Q ↔ Q (.bl (!isNon x)) h := Iff.rfl
@[simp] theorem ws_ix {x : D} {i : Int} : sIx x (.int i) h Q ↔ ∃ ds d, seqA h x = some ds ∧ atI ds i = some d ∧ Q d h := Iff.rfl
@[simp] theorem wq_t {ds : List D} : seqA h (.tup ds) = some ds := rfl
@[simp] theorem wq_l {ds : List D} : seqA h (.lst ds) = some ds := rfl
@[simp] theorem wq_r {a : Addr} : seqA h (.ref a) = h a := rfl
@[simp] theorem wl_l {ds : List D} : seqL h (.lst ds) = some ds := rfl
@[simp] theorem wl_r {a : Addr} : seqL h (.ref a) = h a := rfl
@[simp] theorem wn_t {ds : List D} : newL true ds h Q ↔ ∀ p, h p = none → Q (.ref p) (h.set p ds) := Iff.rfl
@[simp] theorem wn_f {ds : List D} : newL false ds h Q ↔ Q (.lst ds) h := Iff.rfl
@[simp] theorem wb_len {x : D} : biS .len [x] h Q ↔ ∃ ds, seqA h x = some ds ∧ Q (.int ds.length) h := Iff.rfl
@[simp] theorem wb_tuple {x : D} : biS .tuple [x] h Q ↔ ∃ ds, seqA h x = some ds ∧ Q (.tup ds) h := Iff.rfl
@[simp] theorem wb_list {m : Bool} {x : D} : biS (.list m) [x] h Q ↔ ∃ ds, seqA h x = some ds ∧ newL m ds h Q := Iff.rfl
@[simp] theorem wb_abs {i : Int} : biS .abs [.int i] h Q ↔ Q (.int i.natAbs) h := Iff.rfl
@[simp] theorem wb_int {i : Int} : biS .int [.int i] h Q ↔ Q (.int i) h := Iff.rfl
@[simp] theorem wb_dm {i j : Int} : biS .divmod [.int i, .int j] h Q ↔ (0 < j ∧ j < 1073741824) ∧ Q (.tup [.int (i / j), .int (i % j)]) h := Iff.rfl
@[simp] theorem wb_min {i j : Int} : biS .min [.int i, .int j] h Q ↔ Q (.int (if j < i then j else i)) h := Iff.rfl
@[simp] theorem wb_max {i j : Int} : biS .max [.int i, .int j] h Q ↔ Q (.int (if j > i then j else i)) h := Iff.rfl
@[simp] theorem wm_app {a : Addr} {y : D} : mtS .append (.ref a) [y] h Q ↔ ∃ ds, h a = some ds ∧ ds.length < PySem.sizeLine ∧ Q .non (h.set a (ds ++ [y])) := by
  show (∃ b ds z, D.ref a = .ref b ∧ [y] = [z] ∧ _) ↔ _
  constructor
  · rintro ⟨b, ds, z, e1, e2, e3, l, q⟩
    cases e1
    cases e2
    exact ⟨ds, e3, l, q⟩
  · rintro ⟨ds, e3, l, q⟩
    exact ⟨a, ds, y, rfl, rfl, e3, l, q⟩
@[simp] theorem wm_pop {a : Addr} : mtS .pop (.ref a) [] h Q ↔ ∃ ds y, h a = some ds ∧ ds[ds.length - 1]? = some y ∧ Q y (h.set a ds.dropLast) := by
  show (∃ b ds z, D.ref a = .ref b ∧ _ ∧ _) ↔ _
  constructor
  · rintro ⟨b, ds, z, e1, _, e3, l, q⟩
    cases e1
    exact ⟨ds, z, e3, l, q⟩
  · rintro ⟨ds, z, e3, l, q⟩
    exact ⟨a, ds, z, rfl, rfl, e3, l, q⟩
@[simp] theorem wr_ref {a : Addr} : okRecv "list" h (.ref a) ↔ h a ≠ none := by
  show ("list" = "list" ∧ _) ↔ _
  simp
@[simp] theorem wr_lst {ds : List D} : okRecv "list" h (.lst ds) ↔ True := by
  show ("list" = "list") ↔ _
  simp
@[simp] theorem set_at {a : Addr} {ds : List D} : h.set a ds a = some ds := AH.set_same
@[simp] theorem set_set' {a : Addr} {ds es : List D} : (h.set a ds).set a es = h.set a es := AH.set_set
theorem up_F {f : PF} {ds : List D} {Q : AQ} : up (spF f) ds h Q noX ↔ ∃ d, f ds = some d ∧ Q d h := by
  constructor
  · rintro ⟨Q0, w, d, e, q⟩
    exact ⟨d, e, w _ _ q⟩
  · rintro ⟨d, e, q⟩
    exact ⟨Q, fun _ _ z => z, d, e, q⟩
/-- a plain expression, evaluated -/
theorem wp_ev {Φ : Nat → PF} (G : PhiOk Γ Φ) {c : CE} {d : D} (e : ev Φ σ c = some d) (q : Q d h) : aE Γ c σ h Q := ev_ok G c σ d e h Q q
end
end WF

set_option Elab.async false
set_option linter.all false
set_option maxHeartbeats 1000000
/-! # points of the plane over the rationals; chains of corners -/
namespace WP
structure Pt where
  x : Rat
  y : Rat
deriving DecidableEq
theorem Pt.ext' {a b : Pt} (h : a.x = b.x) (h' : a.y = b.y) : a = b := by cases a; cases b; simp_all
/-- cross product -/
def cr (u v : Pt) : Rat := u.x * v.y - u.y * v.x
def sb (a b : Pt) : Pt := ⟨b.x - a.x, b.y - a.y⟩
/-- twice the area of the way a, b, c: above 0 for a left turn -/
def det (a b c : Pt) : Rat := (b.x - a.x) * (c.y - a.y) - (b.y - a.y) * (c.x - a.x)
/-- ahead of nought in the order of pairs -/
def lp (u : Pt) : Prop := 0 < u.x ∨ (u.x = 0 ∧ 0 < u.y)
def lt (a b : Pt) : Prop := a.x < b.x ∨ (a.x = b.x ∧ a.y < b.y)
instance {a b : Pt} : Decidable (lt a b) := by unfold lt; exact inferInstance
theorem mp {a b : Rat} (h : 0 < a) (h' : 0 < b) : 0 < a * b := Rat.mul_pos h h'
theorem mn {a b : Rat} (h : 0 ≤ a) (h' : 0 ≤ b) : 0 ≤ a * b := Rat.mul_nonneg h h'
theorem pm {a b : Rat} (h : 0 < a * b) (h' : 0 < b) : 0 < a := by
  rcases Rat.le_total (a := a) (b := 0) with z | z
  · have := mn (a := -a) (b := b) (by grind) (by grind)
    grind
  · rcases Rat.le_iff_lt_or_eq.mp z with z | z
    · exact z
    · subst z; simp at h
theorem nm {a b : Rat} (h : 0 ≤ a * b) (h' : 0 < b) : 0 ≤ a := by
  rcases Rat.le_total (a := a) (b := 0) with z | z
  · rcases Rat.le_iff_lt_or_eq.mp z with z | z
    · have := mp (a := -a) (b := b) (by grind) h'
      grind
    · grind
  · exact z
theorem zm {a b : Rat} (h : a * b = 0) (h' : b ≠ 0) : a = 0 := by
  have : a * b * b⁻¹ = 0 := by rw [h]; grind
  grind
theorem t1 {u v w : Pt} (hu : lp u) (hv : lp v) (hw : lp w) (h1 : 0 ≤ cr u v) (h2 : 0 < cr v w) : 0 < cr u w := by
  have e : cr u w * v.x = cr u v * w.x + cr v w * u.x := by unfold cr; grind
  rcases hv with hv | ⟨hv, hv'⟩
  · have w0 : 0 ≤ w.x := by rcases hw with z | z <;> grind
    have k := mn h1 w0
    rcases hu with hu | ⟨hu, hu'⟩
    · have k' := mp h2 hu
      exact pm (b := v.x) (by grind) hv
    · have := mp hu' hv
      unfold cr at h1
      rw [hu] at h1
      grind
  · have w0 : 0 ≤ w.x := by rcases hw with z | z <;> grind
    have := mn (a := v.y) (b := w.x) (by grind) w0
    unfold cr at h2
    rw [hv] at h2
    grind
theorem t2 {u v w : Pt} (hu : lp u) (hv : lp v) (hw : lp w) (h1 : 0 < cr u v) (h2 : 0 ≤ cr v w) : 0 < cr u w := by
  have e : cr u w * v.x = cr u v * w.x + cr v w * u.x := by unfold cr; grind
  have u0 : 0 ≤ u.x := by rcases hu with z | z <;> grind
  rcases hv with hv | ⟨hv, hv'⟩
  · have k := mn h2 u0
    rcases hw with hw | ⟨hw, hw'⟩
    · have k' := mp h1 hw
      exact pm (b := v.x) (by grind) hv
    · have q : 0 < u.x := by
        rcases hu with z | ⟨z, z'⟩
        · exact z
        · have := mp z' hv
          unfold cr at h1
          rw [z] at h1
          grind
      have := mp q hw'
      unfold cr
      rw [hw]
      grind
  · have w0 : w.x = 0 := by
      rcases hw with z | z
      · have := mp hv' z
        unfold cr at h2
        rw [hv] at h2
        grind
      · exact z.1
    have w1 : 0 < w.y := by rcases hw with z | z <;> grind
    have q : 0 < u.x := by
      have : 0 < u.x * v.y := by unfold cr at h1; rw [hv] at h1; grind
      exact pm this hv'
    have := mp q w1
    unfold cr
    rw [w0]
    grind
theorem t3 {u v w : Pt} (hu : lp u) (hv : lp v) (hw : lp w) (h1 : 0 ≤ cr u v) (h2 : 0 ≤ cr v w) : 0 ≤ cr u w := by
  have e : cr u w * v.x = cr u v * w.x + cr v w * u.x := by unfold cr; grind
  have u0 : 0 ≤ u.x := by rcases hu with z | z <;> grind
  have w0 : 0 ≤ w.x := by rcases hw with z | z <;> grind
  rcases hv with hv | ⟨hv, hv'⟩
  · have k := mn h2 u0
    have k' := mn h1 w0
    exact nm (b := v.x) (by grind) hv
  · have w0 : w.x = 0 := by
      rcases hw with z | z
      · have := mp hv' z
        unfold cr at h2
        rw [hv] at h2
        grind
      · exact z.1
    have w1 : 0 < w.y := by rcases hw with z | z <;> grind
    have := mn u0 (Rat.le_of_lt w1)
    unfold cr
    rw [w0]
    grind
theorem lp_sb {a b : Pt} : lt a b ↔ lp (sb a b) := by
  unfold lt lp sb
  constructor
  · rintro (h | ⟨h, h'⟩)
    · left; grind
    · right; constructor <;> grind
  · rintro (h | ⟨h, h'⟩)
    · left; grind
    · right; constructor <;> grind
theorem lt_trans {a b c : Pt} (h : lt a b) (h' : lt b c) : lt a c := by unfold lt at *; grind
theorem lt_irr {a : Pt} (h : lt a a) : False := by unfold lt at *; grind
theorem lt_asy {a b : Pt} (h : lt a b) (h' : lt b a) : False := lt_irr (lt_trans h h')
theorem lt_tri (a b : Pt) : lt a b ∨ a = b ∨ lt b a := by
  have h1 := @Rat.le_total a.x b.x
  have h2 := @Rat.le_total a.y b.y
  by_cases e : a.x = b.x
  · by_cases f : a.y = b.y
    · exact .inr (.inl (Pt.ext' e f))
    · unfold lt; grind
  · unfold lt; grind
theorem d_cr (a b c : Pt) : det a b c = cr (sb a b) (sb b c) := by unfold det cr sb; grind
theorem d_cr2 (a b c : Pt) : det a b c = cr (sb a b) (sb a c) := by unfold det cr sb; grind
theorem cr_add (a b c : Pt) (u : Pt) : cr (sb a c) u = cr (sb a b) u + cr (sb b c) u := by unfold cr sb; grind
theorem cr_add' (a b c : Pt) (u : Pt) : cr u (sb a c) = cr u (sb a b) + cr u (sb b c) := by unfold cr sb; grind
theorem det_rot (a b c : Pt) : det a b c = det b c a := by unfold det; grind
theorem det_swp (a b c : Pt) : det a b c = -det b a c := by unfold det; grind
theorem det_swp' (a b c : Pt) : det a b c = -det a c b := by unfold det; grind
theorem det_eq (a b : Pt) : det a b b = 0 := by unfold det; grind
theorem det_eq' (a b : Pt) : det a b a = 0 := by unfold det; grind
theorem det_eq'' (a b : Pt) : det a a b = 0 := by unfold det; grind
/-- four in ascending order -/
theorem d4 {a b c d : Pt} (h1 : lt a b) (h2 : lt b c) (h3 : lt c d) (e1 : 0 < det a b c) (e2 : 0 < det b c d) : 0 < det a b d ∧ 0 < det a c d := by
  rw [lp_sb] at h1 h2 h3
  rw [d_cr] at e1 e2
  have k := t1 h1 h2 h3 (Rat.le_of_lt e1) e2
  constructor
  · rw [d_cr, cr_add' b c d]
    grind
  · rw [d_cr, cr_add a b c]
    grind
/-! ## lists -/
abbrev PL := List Pt
/-- all threes of a list turn to the left -/
def Tri : PL → Prop
  | [] => True
  | a :: t => t.Pairwise (fun b c => 0 < det a b c) ∧ Tri t
/-- the same of a list told from behind -/
def TriR : PL → Prop
  | [] => True
  | c :: t => t.Pairwise (fun b a => 0 < det a b c) ∧ TriR t
/-- x is on the left of each edge of a chain told from behind -/
def EdR : PL → Pt → Prop
  | b :: a :: s, x => 0 ≤ det a b x ∧ EdR (a :: s) x
  | _, _ => True
def Ed : PL → Pt → Prop
  | a :: b :: s, x => 0 ≤ det a b x ∧ Ed (b :: s) x
  | _, _ => True
/-- descending -/
def Dsc (l : PL) : Prop := l.Pairwise fun b a => lt a b
def Asc (l : PL) : Prop := l.Pairwise fun a b => lt a b
instance (a b c : Pt) : Decidable (0 < det a b c) := inferInstanceAs (Decidable ((0 : Rat) < _))
/-- the stack (top first) behind one more point -/
def push : PL → Pt → PL
  | b :: a :: s, c => if 0 < det a b c then c :: b :: a :: s else push (a :: s) c
  | s, c => c :: s
theorem tri_push {a b c : Pt} {s : PL} (o : Dsc (b :: a :: s)) (l : lt b c) (t : TriR (b :: a :: s)) (h : 0 < det a b c) : TriR (c :: b :: a :: s) := by
  refine ⟨?_, t⟩
  have ob := List.pairwise_cons.mp o
  have oa := List.pairwise_cons.mp ob.2
  have first : ∀ x ∈ a :: s, 0 < det x b c := by
    intro x m
    rcases List.mem_cons.mp m with rfl | m
    · exact h
    · have e1 := (List.pairwise_cons.mp t.1).1 x m
      exact (d4 (oa.1 x m) (ob.1 a List.mem_cons_self) l e1 h).2
  refine List.pairwise_cons.mpr ⟨first, ?_⟩
  refine List.Pairwise.imp_of_mem (R := fun y x => lt x y ∧ 0 < det x y b) ?_ ?_
  · intro y x my mx ⟨l', d⟩
    exact (d4 l' (ob.1 y my) l d (first y my)).1
  · exact List.Pairwise.and ob.2 t.1
theorem edR_of_tri {c : Pt} : ∀ {s : PL}, s.Pairwise (fun b a => 0 < det a b c) → EdR s c
  | [], _ => trivial
  | [_], _ => trivial
  | b :: a :: s, h => ⟨Rat.le_of_lt ((List.pairwise_cons.mp h).1 a List.mem_cons_self), edR_of_tri (List.pairwise_cons.mp h).2⟩
theorem push_ok (R : PL) (c : Pt) : ∀ (s : PL), s ≠ [] → Dsc s → TriR s → (∀ x ∈ s, lt x c) → (∀ r ∈ R, lt r c) → (∀ r ∈ R, EdR s r) → (∀ r ∈ R, ∀ m, s.getLast? = some m → r = m ∨ lt m r) → (∀ r ∈ R, ∀ b, s.head? = some b → r = b ∨ lt r b ∨ 0 ≤ det b c r) →
    ∃ b s', push s c = c :: b :: s' ∧ (b :: s') <:+ s ∧ TriR (c :: b :: s') ∧ (∀ r ∈ R, EdR (c :: b :: s') r) ∧ EdR (c :: b :: s') c ∧ (b :: s').getLast? = s.getLast?
  | [], ne, _, _, _, _, _, _, _ => absurd rfl ne
  | [a], _, o, t, lc, lr, ed, bot, i3 => by
    refine ⟨a, [], rfl, List.suffix_refl _, ⟨List.pairwise_singleton _ _, t⟩, ?_, ⟨by rw [det_eq]; exact Rat.le_refl, trivial⟩, rfl⟩
    intro r m
    refine ⟨?_, trivial⟩
    rcases i3 r m a rfl with rfl | z | z
    · rw [det_eq']; exact Rat.le_refl
    · rcases bot r m a rfl with rfl | y
      · exact (lt_irr z).elim
      · exact (lt_asy z y).elim
    · exact z
  | b :: a :: s, _, o, t, lc, lr, ed, bot, i3 => by
    have ob := List.pairwise_cons.mp o
    have lab : lt a b := ob.1 a List.mem_cons_self
    have lbc := lc b List.mem_cons_self
    have lac := lt_trans lab lbc
    by_cases h : 0 < det a b c
    · have tt := tri_push o lbc t h
      refine ⟨b, a :: s, by simp [push, h], List.suffix_refl _, tt, ?_, ⟨by rw [det_eq]; exact Rat.le_refl, edR_of_tri tt.1⟩, rfl⟩
      intro r m
      refine ⟨?_, ed r m⟩
      rcases i3 r m b rfl with rfl | z | z
      · rw [det_eq']; exact Rat.le_refl
      · have e1 := (ed r m).1
        rw [lp_sb] at z lab lbc
        have e2 : 0 ≤ cr (sb r b) (sb a b) := by
          have : cr (sb r b) (sb a b) = det a b r := by unfold cr sb det; grind
          rw [this]; exact e1
        rw [d_cr] at h
        have := t1 z lab lbc e2 h
        have e3 : det b c r = cr (sb r b) (sb b c) := by unfold cr sb det; grind
        rw [e3]; exact Rat.le_of_lt this
      · exact z
    · have e0 : push (b :: a :: s) c = push (a :: s) c := by simp [push, h]
      obtain ⟨b', s', q1, q2, q3, q4, q5, q6⟩ := push_ok R c (a :: s) (by simp) ob.2 t.2 (fun x m => lc x (List.mem_cons_of_mem _ m)) lr (fun r m => (ed r m).2)
        (fun r m x e => bot r m x (by rw [← e]; rfl)) (by
          intro r m x e
          simp only [List.head?_cons, Option.some.injEq] at e
          subst e
          rcases lt_tri r a with z | z | z
          · exact .inr (.inl z)
          · exact .inl z
          · refine .inr (.inr ?_)
            have e1 := (ed r m).1
            rw [lp_sb] at z lab lac
            rw [d_cr2] at e1 h
            have h' : 0 ≤ cr (sb a c) (sb a b) := by
              have : cr (sb a c) (sb a b) = -cr (sb a b) (sb a c) := by unfold cr; grind
              rw [this]; grind
            rw [d_cr2]
            exact t3 lac lab z h' e1)
      refine ⟨b', s', by rw [e0, q1], q2.trans (List.suffix_cons _ _), q3, q4, q5, ?_⟩
      rw [q6]
      rfl
/-- the stack behind all of some rows -/
def stk (rows : PL) : PL := rows.foldl push []
/-- what holds of the stack behind ascending rows -/
structure Chn (R s : PL) : Prop where
  dsc : Dsc s
  tri : TriR s
  ed : ∀ r ∈ R, EdR s r
  sub : ∀ x ∈ s, x ∈ R
  bot : s.getLast? = R.head?
  top : s.head? = R.getLast?
theorem chn_all : ∀ (post pre s : PL), Asc (pre ++ post) → pre ≠ [] → Chn pre s → Chn (pre ++ post) (post.foldl push s)
  | [], pre, s, o, ne, c => by rw [List.append_nil]; exact c
  | c :: post, pre, s, o, ne, k => by
    have e : pre ++ c :: post = (pre ++ [c]) ++ post := by simp
    rw [e] at o ⊢
    have o1 : Asc (pre ++ [c]) := (List.pairwise_append.mp o).1
    have o2 := List.pairwise_append.mp o1
    have lr : ∀ r ∈ pre, lt r c := fun r m => o2.2.2 r m c List.mem_cons_self
    have sne : s ≠ [] := by
      intro z
      have := k.bot
      rw [z] at this
      cases pre with
      | nil => exact ne rfl
      | cons p q => simp at this
    obtain ⟨b, s', q1, q2, q3, q4, q5, q6⟩ := push_ok pre c s sne k.dsc k.tri (fun x m => lr x (k.sub x m)) lr k.ed (by
      intro r m x ex
      rw [k.bot] at ex
      cases pre with
      | nil => cases m
      | cons p q =>
        simp only [List.head?_cons, Option.some.injEq] at ex
        subst ex
        rcases List.mem_cons.mp m with rfl | m
        · exact .inl rfl
        · exact .inr ((List.pairwise_cons.mp o2.1).1 r m)) (by
      intro r m x ex
      rw [k.top] at ex
      obtain ⟨q, eq⟩ := List.getLast?_eq_some_iff.mp ex
      subst eq
      rcases List.mem_append.mp m with m | m
      · exact .inr (.inl ((List.pairwise_append.mp o2.1).2.2 r m x List.mem_cons_self))
      · rw [List.mem_singleton] at m
        exact .inl m)
    refine chn_all post (pre ++ [c]) (push s c) o (by simp) ?_
    rw [q1]
    have sub' : ∀ x ∈ b :: s', x ∈ pre := fun x m => k.sub x (q2.subset m)
    refine ⟨List.pairwise_cons.mpr ⟨fun x m => lr x (sub' x m), List.Pairwise.sublist q2.sublist k.dsc⟩, q3, ?_, ?_, ?_, ?_⟩
    · intro r m
      rcases List.mem_append.mp m with m | m
      · exact q4 r m
      · rw [List.mem_singleton] at m
        subst m
        exact q5
    · intro x m
      rcases List.mem_cons.mp m with rfl | m
      · simp
      · exact List.mem_append_left _ (sub' x m)
    · have : (c :: b :: s').getLast? = (b :: s').getLast? := by simp [List.getLast?_cons]
      rw [this, q6, k.bot]
      cases pre with
      | nil => exact absurd rfl ne
      | cons p q => rfl
    · simp
theorem stk_ok {r : Pt} {R : PL} (o : Asc (r :: R)) : Chn (r :: R) (stk (r :: R)) := by
  have : stk (r :: R) = R.foldl push [r] := rfl
  rw [this]
  refine chn_all R [r] [r] o (by simp) ⟨List.pairwise_singleton _ _, ⟨List.Pairwise.nil, trivial⟩, fun _ _ => trivial, fun _ m => m, rfl, rfl⟩
end WP

set_option Elab.async false
set_option linter.all false
set_option maxHeartbeats 1000000
/-! # corners in order; what they hold; one order of corners for what they hold -/
namespace WP
open List
def dot (n a : Pt) : Rat := n.x * a.x + n.y * a.y
def neg (a : Pt) : Pt := ⟨-a.x, -a.y⟩
theorem neg_neg (a : Pt) : neg (neg a) = a := by apply Pt.ext' <;> simp [neg]
theorem det_neg (a b c : Pt) : det (neg a) (neg b) (neg c) = det a b c := by unfold det neg; grind
theorem lt_neg {a b : Pt} : lt (neg a) (neg b) ↔ lt b a := by unfold lt neg; grind
/-- all threes turn to the left -/
def T3 (l : PL) : Prop := ∀ a b c, [a, b, c] <+ l → 0 < det a b c
theorem t3_of_triR : ∀ {s : PL}, TriR s → ∀ a b c, [c, b, a] <+ s → 0 < det a b c
  | [], _, a, b, c, h => by cases h
  | x :: s, t, a, b, c, h => by
    cases h with
    | cons _ h => exact t3_of_triR t.2 a b c h
    | cons_cons _ h => exact List.pairwise_iff_forall_sublist.mp t.1 h
theorem t3_rev {s : PL} (t : TriR s) : T3 s.reverse := fun a b c h => t3_of_triR t a b c (by have := h.reverse; simpa using this)
theorem T3.sub {l l' : PL} (t : T3 l) (h : l' <+ l) : T3 l' := fun a b c k => t a b c (k.trans h)
theorem T3.rot {a : Pt} {t : PL} (h : T3 (a :: t)) : T3 (t ++ [a]) := by
  intro x y z k
  obtain ⟨l1, l2, e, k1, k2⟩ := List.sublist_append_iff.mp k
  match l2, k2, e with
  | [], _, e =>
    rw [List.append_nil] at e
    subst e
    exact h x y z (k1.trans (List.sublist_cons_self _ _))
  | [w], k2, e =>
    have w2 : w = a := by have := k2.subset List.mem_cons_self; simpa using this
    match l1, e with
    | [p, q], e =>
      simp only [List.cons_append, List.nil_append, List.cons.injEq, and_true] at e
      obtain ⟨rfl, rfl, rfl⟩ := e
      subst w2
      have := h z x y (List.Sublist.cons_cons _ k1)
      rw [det_rot] at this
      exact this
    | [], e => simp at e
    | [_], e => simp at e
    | _ :: _ :: _ :: _, e => simp at e
  | w :: v :: r, k2, _ =>
    have := k2.length_le
    simp at this
theorem rot_ind {Ψ : PL → Prop} (h : ∀ a t, Ψ (a :: t) → Ψ (t ++ [a])) : ∀ A B, Ψ (A ++ B) → Ψ (B ++ A)
  | [], B, p => by simpa using p
  | a :: A, B, p => by
    have := rot_ind h A (B ++ [a]) (by have := h a (A ++ B) p; simpa using this)
    simpa using this
/-- the closed way -/
def EdC (l : PL) (x : Pt) : Prop := Ed (l ++ l.take 1) x
theorem ed_append {x u : Pt} : ∀ {A B : PL}, Ed (A ++ u :: B) x ↔ Ed (A ++ [u]) x ∧ Ed (u :: B) x
  | [], [] => by simp [Ed]
  | [], b :: B => by simp [Ed]
  | [a], B => by simp [Ed]
  | a :: b :: A, B => by
    have := ed_append (x := x) (u := u) (A := b :: A) (B := B)
    simp only [List.cons_append, Ed] at this ⊢
    rw [this]
    simp only [and_assoc]
theorem edC_rot {x : Pt} (a : Pt) (t : PL) (h : EdC (a :: t) x) : EdC (t ++ [a]) x := by
  match t, h with
  | [], h => exact h
  | b :: t, h =>
    have h1 : Ed (a :: b :: (t ++ [a])) x := by simpa [EdC] using h
    have h2 : 0 ≤ det a b x ∧ Ed (b :: (t ++ [a])) x := h1
    have : Ed ((b :: t) ++ a :: [b]) x := ed_append.mpr ⟨by simpa using h2.2, h2.1, trivial⟩
    simpa [EdC] using this
theorem ed_of {x : Pt} : ∀ {l : PL}, (∀ u v, [u, v] <+ l → 0 ≤ det u v x) → Ed l x
  | [], _ => trivial
  | [_], _ => trivial
  | a :: b :: l, h => ⟨h a b (by simp), ed_of fun u v k => h u v (k.trans (List.sublist_cons_self _ _))⟩
theorem edC_self {l : PL} (t : T3 l) {w : Pt} (m : w ∈ l) : EdC l w := by
  obtain ⟨A, B, rfl⟩ := List.append_of_mem m
  have t' : T3 (w :: B ++ A) := rot_ind (Ψ := T3) (fun _ _ => T3.rot) A (w :: B) t
  have e : ∀ {t : PL}, T3 (w :: t) → EdC (w :: t) w := by
    intro t h
    match t, h with
    | [], h => exact ⟨by rw [det_eq]; exact Rat.le_refl, trivial⟩
    | b :: t, h =>
      have h2 : Ed (b :: t) w := ed_of fun u v k => by
        have := h w u v (List.Sublist.cons_cons _ k)
        rw [det_rot] at this
        exact Rat.le_of_lt this
      show Ed (w :: b :: (t ++ [w])) w
      refine ⟨by rw [det_eq']; exact Rat.le_refl, ?_⟩
      obtain ⟨C, z, e⟩ : ∃ C z, b :: t = C ++ [z] := ⟨(b :: t).dropLast, (b :: t).getLast (by simp), (List.dropLast_concat_getLast (by simp)).symm⟩
      have e2 : b :: (t ++ [w]) = C ++ z :: [w] := by rw [← List.cons_append, e]; simp
      rw [e2]
      refine ed_append.mpr ⟨by rw [← e]; exact h2, by rw [det_eq]; exact Rat.le_refl, trivial⟩
  exact rot_ind (Ψ := fun l => EdC l w) (fun a t => edC_rot a t) (w :: B) A (e t')
theorem rne {a : Rat} (h : a ≠ 0) : a < 0 ∨ 0 < a := by
  rcases Rat.le_total (a := a) (b := 0) with z | z <;> grind
/-- what is nowhere farther out -/
def Le (A B : PL) : Prop := ∀ n : Pt, ∀ a ∈ A, ∃ b ∈ B, dot n a ≤ dot n b
theorem Le.refl (A : PL) : Le A A := fun n a m => ⟨a, m, Rat.le_refl⟩
theorem Le.trans {A B C : PL} (h : Le A B) (h' : Le B C) : Le A C := fun n a m => by
  obtain ⟨b, mb, l⟩ := h n a m
  obtain ⟨c, mc, l'⟩ := h' n b mb
  exact ⟨c, mc, Rat.le_trans l l'⟩
theorem Le.of_sub {A B : PL} (h : ∀ a ∈ A, a ∈ B) : Le A B := fun n a m => ⟨a, h a m, Rat.le_refl⟩
theorem le_iff {A B : PL} : Le A B ↔ ∀ a ∈ A, Le [a] B := by
  constructor
  · intro h a m n x mx
    rw [List.mem_singleton] at mx
    subst mx
    exact h n x m
  · intro h n a m
    exact h a m n a List.mem_cons_self
theorem maxd (n : Pt) : ∀ {l : PL}, l ≠ [] → ∃ p ∈ l, ∀ q ∈ l, dot n q ≤ dot n p
  | [], h => absurd rfl h
  | [a], _ => ⟨a, List.mem_cons_self, fun q m => by rw [List.mem_singleton] at m; subst m; exact Rat.le_refl⟩
  | a :: b :: l, _ => by
    obtain ⟨p, mp, h⟩ := maxd n (l := b :: l) (by simp)
    rcases Rat.le_total (a := dot n a) (b := dot n p) with z | z
    · refine ⟨p, List.mem_cons_of_mem _ mp, fun q m => ?_⟩
      rcases List.mem_cons.mp m with rfl | m
      · exact z
      · exact h q m
    · refine ⟨a, List.mem_cons_self, fun q m => ?_⟩
      rcases List.mem_cons.mp m with rfl | m
      · exact Rat.le_refl
      · exact Rat.le_trans (h q m) z
/-- corners in order -/
structure Can (l : PL) : Prop where
  ne : l ≠ []
  fst : ∀ m t, l = m :: t → ∀ q ∈ t, lt m q
  tri : T3 l
/-- held by corners in order -/
def In : PL → Pt → Prop
  | [], _ => False
  | [p], x => x = p
  | [p, q], x => det p q x = 0 ∧ (x = p ∨ lt p x) ∧ (x = q ∨ lt x q)
  | l, x => EdC l x
theorem in3 {l : PL} {x : Pt} (h : 3 ≤ l.length) : In l x ↔ EdC l x := by
  match l, h with
  | _ :: _ :: _ :: _, _ => rfl
def outer (u v : Pt) : Pt := ⟨v.y - u.y, -(v.x - u.x)⟩
theorem outer_dot (u v x : Pt) : dot (outer u v) x - dot (outer u v) u = -det u v x := by unfold dot outer det; grind
theorem le_of_edC {l : PL} (t : T3 l) (h3 : 3 ≤ l.length) {x : Pt} (h : EdC l x) : Le [x] l := by
  intro n a m
  rw [List.mem_singleton] at m
  subst m
  obtain ⟨p, mp, top⟩ := maxd n (l := l) (by intro e; rw [e] at h3; simp at h3)
  refine ⟨p, mp, ?_⟩
  obtain ⟨A, B, rfl⟩ := List.append_of_mem mp
  have t' : T3 (p :: B ++ A) := rot_ind (Ψ := T3) (fun _ _ => T3.rot) A (p :: B) t
  have e' : EdC (p :: B ++ A) a := rot_ind (Ψ := fun l => EdC l a) (fun a t => edC_rot a t) A (p :: B) h
  have top' : ∀ q ∈ B ++ A, dot n q ≤ dot n p := fun q mq => top q (by rcases List.mem_append.mp mq with z | z <;> simp [z])
  have l2 : 2 ≤ (B ++ A).length := by simp at h3 ⊢; omega
  rw [List.cons_append] at t' e'
  generalize B ++ A = r at *
  match r, l2 with
  | y :: y2 :: r, _ =>
    obtain ⟨C, z, e⟩ : ∃ C z, y2 :: r = C ++ [z] := ⟨(y2 :: r).dropLast, (y2 :: r).getLast (by simp), (List.dropLast_concat_getLast (by simp)).symm⟩
    have s1 : [p, y, z] <+ p :: y :: y2 :: r := by
      rw [e]
      exact List.Sublist.cons_cons _ (List.Sublist.cons_cons _ (List.sublist_append_right _ _))
    have d0 := t' p y z s1
    have e1 : Ed (p :: y :: ((y2 :: r) ++ [p])) a := e'
    have d1 : 0 ≤ det p y a := e1.1
    have e2 : Ed ((y :: C) ++ z :: [p]) a := by
      have := e1.2
      rw [e] at this
      simpa using this
    have d2 : 0 ≤ det z p a := (ed_append.mp e2).2.1
    have hy := top' y (by simp)
    have hz := top' z (by rw [e]; simp)
    have id : det p y z * (dot n p - dot n a) = det p y a * (dot n p - dot n z) + det z p a * (dot n p - dot n y) := by unfold det dot; grind
    have k1 := mn d1 (b := dot n p - dot n z) (by grind)
    have k2 := mn d2 (b := dot n p - dot n y) (by grind)
    have := nm (a := dot n p - dot n a) (b := det p y z) (by grind) d0
    grind
theorem ed_mono {x : Pt} {n : Pt} : True := trivial
theorem edC_of_le {l : PL} (t : T3 l) {x : Pt} (h : Le [x] l) : EdC l x := by
  have key : ∀ (w : PL), (∀ q ∈ l, Ed w q) → Ed w x := by
    intro w
    induction w with
    | nil => intro _; trivial
    | cons u w ih =>
      match w, ih with
      | [], _ => intro _; trivial
      | v :: w, ih =>
        intro k
        refine ⟨?_, ih fun q m => (k q m).2⟩
        obtain ⟨b, mb, le⟩ := h (outer u v) x List.mem_cons_self
        have := (k b mb).1
        have o1 := outer_dot u v x
        have o2 := outer_dot u v b
        grind
  exact key _ fun q m => edC_self t m
theorem le_one {p x : Pt} (h : Le [x] [p]) : x = p := by
  have f := fun n => h n x List.mem_cons_self
  have a1 := f ⟨1, 0⟩
  have a2 := f ⟨-1, 0⟩
  have a3 := f ⟨0, 1⟩
  have a4 := f ⟨0, -1⟩
  simp [dot] at a1 a2 a3 a4
  apply Pt.ext' <;> grind
theorem in_iff {l : PL} (c : Can l) {x : Pt} : In l x ↔ Le [x] l := by
  match l, c with
  | [], c => exact absurd rfl c.ne
  | [p], c =>
    constructor
    · rintro rfl
      exact Le.refl _
    · exact le_one
  | [p, q], c =>
    have pq : lt p q := c.fst p [q] rfl q List.mem_cons_self
    constructor
    · rintro ⟨d, h1, h2⟩ n a m
      rw [List.mem_singleton] at m
      subst m
      have hx : p.x ≤ a.x ∧ a.x ≤ q.x := by
        constructor
        · rcases h1 with rfl | z
          · exact Rat.le_refl
          · unfold lt at z; grind
        · rcases h2 with rfl | z
          · exact Rat.le_refl
          · unfold lt at z; grind
      rcases pq with l | ⟨e, l⟩
      · have i1 : (q.x - p.x) * (dot n a - dot n p) = (a.x - p.x) * (dot n q - dot n p) := by unfold det at d; unfold dot; grind
        have i2 : (q.x - p.x) * (dot n q - dot n a) = (q.x - a.x) * (dot n q - dot n p) := by unfold det at d; unfold dot; grind
        rcases Rat.le_total (a := dot n q) (b := dot n p) with z | z
        · refine ⟨p, by simp, ?_⟩
          have k := mn (a := a.x - p.x) (b := dot n p - dot n q) (by grind) (by grind)
          have := nm (a := dot n p - dot n a) (b := q.x - p.x) (by grind) (by grind)
          grind
        · refine ⟨q, by simp, ?_⟩
          have k := mn (a := q.x - a.x) (b := dot n q - dot n p) (by grind) (by grind)
          have := nm (a := dot n q - dot n a) (b := q.x - p.x) (by grind) (by grind)
          grind
      · have ex : a.x = p.x := by grind
        have hy : p.y ≤ a.y ∧ a.y ≤ q.y := by
          constructor
          · rcases h1 with rfl | z
            · exact Rat.le_refl
            · unfold lt at z; grind
          · rcases h2 with rfl | z
            · exact Rat.le_refl
            · unfold lt at z; grind
        rcases Rat.le_total (a := n.y) (b := 0) with z | z
        · refine ⟨p, by simp, ?_⟩
          have k := mn (a := a.y - p.y) (b := -n.y) (by grind) (by grind)
          unfold dot
          rw [ex]
          grind
        · refine ⟨q, by simp, ?_⟩
          have k := mn (a := q.y - a.y) (b := n.y) (by grind) (by grind)
          unfold dot
          rw [ex, ← e]
          grind
    · intro h
      have f : ∀ n, dot n x ≤ dot n p ∨ dot n x ≤ dot n q := by
        intro n
        obtain ⟨b, mb, z⟩ := h n x List.mem_cons_self
        simp only [List.mem_cons, List.not_mem_nil, or_false] at mb
        rcases mb with rfl | rfl
        · exact .inl z
        · exact .inr z
      have o1 := f (outer p q)
      have o2 := f (outer q p)
      have d : det p q x = 0 := by
        unfold dot outer at o1 o2
        unfold det
        grind
      have a1 := f ⟨1, 0⟩
      have a2 := f ⟨-1, 0⟩
      have a3 := f ⟨0, 1⟩
      have a4 := f ⟨0, -1⟩
      simp only [dot] at a1 a2 a3 a4
      refine ⟨d, ?_, ?_⟩
      · rcases lt_tri p x with z | z | z
        · exact .inr z
        · exact .inl z.symm
        · exfalso
          rcases pq with l | ⟨e, l⟩
          · rcases z with z | ⟨z, z'⟩
            · grind
            · have k := mp (a := q.x - p.x) (b := p.y - x.y) (by grind) (by grind)
              unfold det at d
              rw [z] at d
              grind
          · unfold lt at z
            grind
      · rcases lt_tri x q with z | z | z
        · exact .inr z
        · exact .inl z
        · exfalso
          rcases pq with l | ⟨e, l⟩
          · rcases z with z | ⟨z, z'⟩
            · grind
            · have k := mp (a := q.x - p.x) (b := x.y - q.y) (by grind) (by grind)
              unfold det at d
              rw [← z] at d
              grind
          · unfold lt at z
            grind
  | a :: b :: c' :: l, c =>
    rw [in3 (by simp)]
    exact ⟨le_of_edC c.tri (by simp), edC_of_le c.tri⟩
/-- a corner can be told from what is held: there is a way out of it -/
theorem exposed {l : PL} (c : Can l) {p : Pt} (m : p ∈ l) : ∃ n, (∀ q ∈ l, dot n q ≤ dot n p) ∧ ∀ t, Le [t] l → dot n p ≤ dot n t → t = p := by
  match l, c, m with
  | [q], c, m =>
    rw [List.mem_singleton] at m
    subst m
    exact ⟨⟨0, 0⟩, fun q mq => by rw [List.mem_singleton] at mq; subst mq; exact Rat.le_refl, fun t h _ => le_one h⟩
  | [u, v], c, m =>
    have uv : lt u v := c.fst u [v] rfl v List.mem_cons_self
    have main : ∀ p q : Pt, p ≠ q → (∀ t, Le [t] [u, v] → det p q t = 0) → [u, v] = [p, q] ∨ [u, v] = [q, p] → ∃ n, (∀ z ∈ [u, v], dot n z ≤ dot n p) ∧ ∀ t, Le [t] [u, v] → dot n p ≤ dot n t → t = p := by
      intro p q ne hd e
      have pos : 0 < (p.x - q.x) * (p.x - q.x) + (p.y - q.y) * (p.y - q.y) := by
        by_cases h : p.x = q.x
        · have h' : p.y - q.y ≠ 0 := by
            intro z
            exact ne (Pt.ext' h (by grind))
          have k2 : 0 < (p.y - q.y) * (p.y - q.y) := by
            rcases rne h' with z | z
            · have := mp (a := -(p.y - q.y)) (b := -(p.y - q.y)) (by grind) (by grind)
              grind
            · exact mp z z
          rw [h]
          grind
        · have h' : p.x - q.x ≠ 0 := by grind
          have k2 : 0 < (p.x - q.x) * (p.x - q.x) := by
            rcases rne h' with z | z
            · have := mp (a := -(p.x - q.x)) (b := -(p.x - q.x)) (by grind) (by grind)
              grind
            · exact mp z z
          have k1 : 0 ≤ (p.y - q.y) * (p.y - q.y) := by
            rcases Rat.le_total (a := p.y - q.y) (b := 0) with z | z
            · have := mn (a := -(p.y - q.y)) (b := -(p.y - q.y)) (by grind) (by grind)
              grind
            · exact mn z z
          grind
      have hp : ∀ z ∈ [u, v], dot ⟨p.x - q.x, p.y - q.y⟩ z ≤ dot ⟨p.x - q.x, p.y - q.y⟩ p := by
        intro z mz
        have : z = p ∨ z = q := by
          rcases e with e | e <;> (rw [e] at mz; simp at mz; grind)
        rcases this with rfl | rfl
        · exact Rat.le_refl
        · unfold dot
          grind
      refine ⟨⟨p.x - q.x, p.y - q.y⟩, hp, fun t h le => ?_⟩
      have d := hd t h
      obtain ⟨b, mb, l2⟩ := h ⟨p.x - q.x, p.y - q.y⟩ t List.mem_cons_self
      have l3 := Rat.le_trans l2 (hp b mb)
      have e0 : (p.x - q.x) * (t.x - p.x) + (p.y - q.y) * (t.y - p.y) = 0 := by unfold dot at le l3; grind
      have ex : (t.x - p.x) * ((p.x - q.x) * (p.x - q.x) + (p.y - q.y) * (p.y - q.y)) = 0 := by unfold det at d; grind
      have ey : (t.y - p.y) * ((p.x - q.x) * (p.x - q.x) + (p.y - q.y) * (p.y - q.y)) = 0 := by unfold det at d; grind
      have ne0 : ((p.x - q.x) * (p.x - q.x) + (p.y - q.y) * (p.y - q.y)) ≠ 0 := by grind
      have x0 := zm ex ne0
      have y0 := zm ey ne0
      apply Pt.ext' <;> grind
    have hd : ∀ t, Le [t] [u, v] → det u v t = 0 := fun t h => ((in_iff c).mpr h).1
    have nuv : u ≠ v := fun e => by rw [e] at uv; exact lt_irr uv
    simp only [List.mem_cons, List.not_mem_nil, or_false] at m
    rcases m with rfl | rfl
    · exact main p v nuv hd (.inl rfl)
    · exact main p u (Ne.symm nuv) (fun t h => by rw [det_swp, hd t h]; rfl) (.inr rfl)
  | u :: v :: w :: l, c, m =>
    have ll : 3 ≤ (u :: v :: w :: l).length := by simp
    have t := c.tri
    clear c
    generalize u :: v :: w :: l = L at *
    obtain ⟨A, B, rfl⟩ := List.append_of_mem m
    have t' : T3 (p :: B ++ A) := rot_ind (Ψ := T3) (fun _ _ => T3.rot) A (p :: B) t
    have e' : ∀ x, EdC (A ++ p :: B) x → EdC (p :: B ++ A) x := fun x => rot_ind (Ψ := fun l => EdC l x) (fun a t => edC_rot a t) A (p :: B)
    have l2 : 2 ≤ (B ++ A).length := by simp at ll ⊢; omega
    rw [List.cons_append] at t' e'
    generalize B ++ A = r at *
    match r, l2 with
    | y :: y2 :: r, _ =>
      obtain ⟨C, z, e⟩ : ∃ C z, y2 :: r = C ++ [z] := ⟨(y2 :: r).dropLast, (y2 :: r).getLast (by simp), (List.dropLast_concat_getLast (by simp)).symm⟩
      have s1 : [p, y, z] <+ p :: y :: y2 :: r := by
        rw [e]
        exact List.Sublist.cons_cons _ (List.Sublist.cons_cons _ (List.sublist_append_right _ _))
      have d0 := t' p y z s1
      have ed : ∀ x, EdC (A ++ p :: B) x → 0 ≤ det p y x ∧ 0 ≤ det z p x := by
        intro x h
        have e1 : Ed (p :: y :: ((y2 :: r) ++ [p])) x := e' x h
        have e2 : Ed ((y :: C) ++ z :: [p]) x := by
          have := e1.2
          rw [e] at this
          simpa using this
        exact ⟨e1.1, (ed_append.mp e2).2.1⟩
      have id : ∀ x, dot ⟨(outer p y).x + (outer z p).x, (outer p y).y + (outer z p).y⟩ p - dot ⟨(outer p y).x + (outer z p).x, (outer p y).y + (outer z p).y⟩ x = det p y x + det z p x := by
        intro x; unfold dot outer det; grind
      refine ⟨⟨(outer p y).x + (outer z p).x, (outer p y).y + (outer z p).y⟩, ?_, ?_⟩
      · intro q mq
        have k := ed q (edC_self t mq)
        have := id q
        grind
      · intro x h le
        have k := ed x (edC_of_le t h)
        have h2 := id x
        have z1 : det p y x = 0 := by grind
        have z2 : det z p x = 0 := by grind
        have ex : (x.x - p.x) * det p y z = 0 := by unfold det at *; grind
        have ey : (x.y - p.y) * det p y z = 0 := by unfold det at *; grind
        have x0 := zm ex (by grind)
        have y0 := zm ey (by grind)
        apply Pt.ext' <;> grind
theorem corner_mem {P Q : PL} (c : Can P) (h : Le P Q) (h' : Le Q P) {p : Pt} (m : p ∈ P) : p ∈ Q := by
  obtain ⟨n, _, u⟩ := exposed c m
  obtain ⟨t, mt, l⟩ := h n p m
  have := u t (le_iff.mp h' t mt) l
  subst this
  exact mt
theorem pw_uniq {α : Type} {R : α → α → Prop} (as : ∀ a b, R a b → R b a → False) : ∀ {l l' : List α}, l.Pairwise R → l'.Pairwise R → (∀ x, x ∈ l ↔ x ∈ l') → l = l'
  | [], [], _, _, _ => rfl
  | [], b :: l', _, _, h => by have := (h b).mpr List.mem_cons_self; cases this
  | a :: l, [], _, _, h => by have := (h a).mp List.mem_cons_self; cases this
  | a :: l, b :: l', p, q, h => by
    have p' := List.pairwise_cons.mp p
    have q' := List.pairwise_cons.mp q
    have ir : ∀ x, R x x → False := fun x r => as x x r r
    have e : a = b := by
      rcases List.mem_cons.mp ((h a).mp List.mem_cons_self) with z | z
      · exact z
      · rcases List.mem_cons.mp ((h b).mpr List.mem_cons_self) with y | y
        · exact y.symm
        · exact (as _ _ (q'.1 a z) (p'.1 b y)).elim
    subst e
    refine congrArg _ (pw_uniq as p'.2 q'.2 fun x => ?_)
    constructor
    · intro m
      rcases List.mem_cons.mp ((h x).mp (List.mem_cons_of_mem _ m)) with rfl | z
      · exact (ir _ (p'.1 _ m)).elim
      · exact z
    · intro m
      rcases List.mem_cons.mp ((h x).mpr (List.mem_cons_of_mem _ m)) with rfl | z
      · exact (ir _ (q'.1 _ m)).elim
      · exact z
/-- what is held settles the corners -/
theorem can_uniq {P Q : PL} (c : Can P) (d : Can Q) (h : Le P Q) (h' : Le Q P) : P = Q := by
  have mem : ∀ x, x ∈ P ↔ x ∈ Q := fun x => ⟨fun m => corner_mem c h h' m, fun m => corner_mem d h' h m⟩
  match P, Q, c, d, mem with
  | [], _, c, _, _ => exact absurd rfl c.ne
  | _, [], _, d, _ => exact absurd rfl d.ne
  | a :: P, b :: Q, c, d, mem =>
    have fa := c.fst a P rfl
    have fb := d.fst b Q rfl
    have e : a = b := by
      rcases List.mem_cons.mp ((mem a).mp List.mem_cons_self) with z | z
      · exact z
      · rcases List.mem_cons.mp ((mem b).mpr List.mem_cons_self) with y | y
        · exact y.symm
        · exact (lt_asy (fb a z) (fa b y)).elim
    subst e
    have pa : P.Pairwise (fun u v => 0 < det a u v) := List.pairwise_iff_forall_sublist.mpr fun k => c.tri _ _ _ (List.Sublist.cons_cons _ k)
    have pb : Q.Pairwise (fun u v => 0 < det a u v) := List.pairwise_iff_forall_sublist.mpr fun k => d.tri _ _ _ (List.Sublist.cons_cons _ k)
    refine congrArg _ (pw_uniq (fun u v h1 h2 => by rw [det_swp'] at h1; grind) pa pb fun x => ?_)
    constructor
    · intro m
      rcases List.mem_cons.mp ((mem x).mp (List.mem_cons_of_mem _ m)) with rfl | z
      · exact (lt_irr (fa _ m)).elim
      · exact z
    · intro m
      rcases List.mem_cons.mp ((mem x).mpr (List.mem_cons_of_mem _ m)) with rfl | z
      · exact (lt_irr (fb _ m)).elim
      · exact z
end WP

set_option Elab.async false
set_option linter.all false
set_option maxHeartbeats 1000000
/-! # the hull of rows -/
namespace WP
open List
theorem push_neg : ∀ (s : PL) (c : Pt), push (s.map neg) (neg c) = (push s c).map neg
  | [], c => rfl
  | [a], c => rfl
  | b :: a :: s, c => by
    have e : det (neg a) (neg b) (neg c) = det a b c := det_neg a b c
    simp only [List.map_cons, push, e]
    split
    · rfl
    · exact push_neg (a :: s) c
theorem foldl_neg : ∀ (l s : PL), (l.map neg).foldl push (s.map neg) = (l.foldl push s).map neg
  | [], s => rfl
  | c :: l, s => by
    simp only [List.map_cons, List.foldl_cons, push_neg]
    exact foldl_neg l (push s c)
theorem stk_neg (l : PL) : stk (l.map neg) = (stk l).map neg := foldl_neg l []
/-- the chain of some rows, in the order of the rows -/
def chn (R : PL) : PL := (stk R).reverse
def hul (R : PL) : PL := if R.length = 1 then R else (chn R).dropLast ++ (chn R.reverse).dropLast
theorem ed_rev {x : Pt} : ∀ {s : PL}, EdR s x → Ed s.reverse x
  | [], _ => trivial
  | [_], _ => trivial
  | b :: a :: s, h => by
    have := ed_rev (s := a :: s) h.2
    simp only [List.reverse_cons] at this ⊢
    rw [List.append_assoc, List.cons_append, List.nil_append]
    exact ed_append.mpr ⟨this, h.1, trivial⟩
structure Chf (R l : PL) : Prop where
  asc : Asc l
  tri : T3 l
  ed : ∀ r ∈ R, Ed l r
  sub : ∀ x ∈ l, x ∈ R
  hd : l.head? = R.head?
  last : l.getLast? = R.getLast?
theorem chn_ok {R : PL} (ne : R ≠ []) (o : Asc R) : Chf R (chn R) := by
  match R, ne, o with
  | r :: R, _, o =>
    have k := stk_ok o
    exact ⟨List.pairwise_reverse.mpr k.dsc, t3_rev k.tri, fun r m => ed_rev (k.ed r m), fun x m => k.sub x (List.mem_reverse.mp m), by rw [chn, List.head?_reverse]; exact k.bot, by rw [chn, List.getLast?_reverse]; exact k.top⟩
theorem ed_neg {x : Pt} : ∀ {l : PL}, Ed (l.map neg) (neg x) ↔ Ed l x
  | [] => Iff.rfl
  | [_] => Iff.rfl
  | a :: b :: l => by
    have := ed_neg (x := x) (l := b :: l)
    simp only [List.map_cons, Ed, det_neg] at this ⊢
    rw [this]
theorem T3.neg {l : PL} (t : T3 l) : T3 (l.map neg) := by
  intro a b c h
  have h' := h.map WP.neg
  simp only [List.map_cons, List.map_nil, List.map_map] at h'
  have e : l.map (WP.neg ∘ WP.neg) = l := by
    rw [show WP.neg ∘ WP.neg = id from funext fun a => neg_neg a]
    simp
  rw [e] at h'
  have := t _ _ _ h'
  rw [det_neg] at this
  exact this
theorem map_neg_neg (l : PL) : (l.map neg).map neg = l := by
  rw [List.map_map, show neg ∘ neg = id from funext fun a => neg_neg a]
  simp
/-- the upper side -/
structure Chb (R l : PL) : Prop where
  dsc : Dsc l
  tri : T3 l
  ed : ∀ r ∈ R, Ed l r
  sub : ∀ x ∈ l, x ∈ R
  hd : l.head? = R.getLast?
  last : l.getLast? = R.head?
theorem asc_neg {R : PL} (o : Asc R) : Asc (R.reverse.map neg) := by
  unfold Asc
  rw [List.pairwise_map, List.pairwise_reverse]
  exact o.imp fun h => lt_neg.mpr h
theorem chn_back {R : PL} (ne : R ≠ []) (o : Asc R) : Chb R (chn R.reverse) := by
  have k := chn_ok (R := R.reverse.map neg) (by simpa using ne) (asc_neg o)
  have e : chn R.reverse = (chn (R.reverse.map neg)).map neg := by
    unfold chn
    rw [stk_neg, ← List.map_reverse, map_neg_neg]
  have en : chn (R.reverse.map neg) = (chn R.reverse).map neg := by rw [e, map_neg_neg]
  rw [en] at k
  refine ⟨?_, ?_, ?_, ?_, ?_, ?_⟩
  · have := k.asc
    unfold Asc at this
    rw [List.pairwise_map] at this
    exact this.imp fun h => lt_neg.mp h
  · have := k.tri.neg
    rwa [map_neg_neg] at this
  · intro r m
    have := k.ed (neg r) (List.mem_map.mpr ⟨r, List.mem_reverse.mpr m, rfl⟩)
    exact ed_neg.mp this
  · intro x m
    have := k.sub (neg x) (List.mem_map.mpr ⟨x, m, rfl⟩)
    obtain ⟨y, my, ey⟩ := List.mem_map.mp this
    have : y = x := by rw [← neg_neg y, ey, neg_neg]
    subst this
    exact List.mem_reverse.mp my
  · have := k.hd
    rw [List.head?_map, List.head?_map, List.head?_reverse] at this
    have inj : ∀ {a b : Option Pt}, a.map neg = b.map neg → a = b := by
      intro a b h
      cases a with
      | none => cases b with
        | none => rfl
        | some b => simp at h
      | some a => cases b with
        | none => simp at h
        | some b =>
          simp only [Option.map_some, Option.some.injEq] at h
          rw [← neg_neg a, h, neg_neg]
    exact inj this
  · have := k.last
    rw [List.getLast?_map, List.getLast?_map, List.getLast?_reverse] at this
    have inj : ∀ {a b : Option Pt}, a.map neg = b.map neg → a = b := by
      intro a b h
      cases a with
      | none => cases b with
        | none => rfl
        | some b => simp at h
      | some a => cases b with
        | none => simp at h
        | some b =>
          simp only [Option.map_some, Option.some.injEq] at h
          rw [← neg_neg a, h, neg_neg]
    exact inj this
/-- two of the lower side and one above it -/
theorem cross_lo {m M : Pt} {A : PL} {a b c : Pt} (asc : Asc (m :: A ++ [M])) (t : T3 (m :: A ++ [M])) (s : [a, b] <+ m :: A) (h1 : lt m c) (h2 : lt c M) (h3 : 0 < det m M c) : 0 < det a b c := by
  have sab : lt a b := List.pairwise_iff_forall_sublist.mp asc (s.trans (List.sublist_append_left _ _))
  have mM : lt m M := lt_trans h1 h2
  have dm : 0 ≤ det a b m := by
    cases s with
    | cons _ s =>
      have := t m a b (List.Sublist.cons_cons _ (s.trans (List.sublist_append_left _ _)))
      rw [det_rot] at this
      exact Rat.le_of_lt this
    | cons_cons _ s => rw [det_eq']; exact Rat.le_refl
  have dM : 0 < det a b M := t a b M (List.Sublist.append s (List.Sublist.refl [M]))
  rw [lp_sb] at sab mM h1 h2
  have e1 : 0 < cr (sb m M) (sb m c) := by rw [← d_cr2]; exact h3
  have e2 : cr (sb c M) (sb m M) = cr (sb m M) (sb m c) := by unfold cr sb; grind
  rcases Rat.le_total (a := 0) (b := cr (sb a b) (sb m M)) with z | z
  · have k := t1 sab mM h1 z e1
    have e3 : det a b c = det a b m + cr (sb a b) (sb m c) := by unfold det cr sb; grind
    grind
  · have e4 : cr (sb m M) (sb a b) = -cr (sb a b) (sb m M) := by unfold cr; grind
    have k := t2 h2 mM sab (by rw [e2]; exact e1) (by rw [e4]; grind)
    have e3 : det a b c = det a b M + cr (sb c M) (sb a b) := by unfold det cr sb; grind
    grind
theorem sub_of_neg {a b : Pt} {l : PL} (s : [a, b] <+ l) : [neg a, neg b] <+ l.map neg := by simpa using s.map neg
theorem hul_ok {R : PL} (ne : R ≠ []) (o : Asc R) : Can (hul R) ∧ (∀ x ∈ hul R, x ∈ R) ∧ ∀ r ∈ R, In (hul R) r := by
  unfold hul
  split
  · rename_i h1
    match R, h1 with
    | [p], _ =>
      refine ⟨⟨by simp, fun m t e q mq => ?_, fun a b c h => ?_⟩, fun x m => m, fun r m => List.mem_singleton.mp m⟩
      · cases e; cases mq
      · have := h.length_le; simp at this
  · rename_i h1
    have L := chn_ok ne o
    have U := chn_back ne o
    obtain ⟨m, Rt, eR⟩ : ∃ m Rt, R = m :: Rt := by
      cases R with
      | nil => exact absurd rfl ne
      | cons a b => exact ⟨a, b, rfl⟩
    have ne2 : Rt ≠ [] := by
      intro z
      subst z
      rw [eR] at h1
      simp at h1
    obtain ⟨M, eM⟩ : ∃ M, Rt.getLast? = some M := by
      cases h : Rt.getLast? with
      | none => rw [List.getLast?_eq_none_iff] at h; exact absurd h ne2
      | some M => exact ⟨M, rfl⟩
    have hR : R.head? = some m := by rw [eR]; rfl
    have lR : R.getLast? = some M := by rw [eR, List.getLast?_cons, eM]; rfl
    have mM : lt m M := by
      rw [eR] at o
      exact (List.pairwise_cons.mp o).1 M (List.mem_of_getLast? eM)
    have nmM : m ≠ M := fun e => by rw [e] at mM; exact lt_irr mM
    have shape : ∀ {l : PL} {p q : Pt}, p ≠ q → l.head? = some p → l.getLast? = some q → ∃ A, l = p :: A ++ [q] := by
      intro l p q ne h1 h2
      match l, h1 with
      | [x], h1 =>
        simp at h1 h2
        exact absurd (h1.symm.trans h2) ne
      | x :: y :: l, h1 =>
        simp only [List.head?_cons, Option.some.injEq] at h1
        subst h1
        obtain ⟨A, e⟩ := List.getLast?_eq_some_iff.mp h2
        match A, e with
        | [], e => simp at e
        | a :: A, e =>
          simp only [List.cons_append, List.cons.injEq] at e
          exact ⟨A, by rw [e.2]; rfl⟩
    obtain ⟨A, eA⟩ := shape nmM (L.hd.trans hR) (L.last.trans lR)
    obtain ⟨C, eC⟩ := shape (Ne.symm nmM) (U.hd.trans lR) (U.last.trans hR)
    rw [eA] at L ⊢
    rw [eC] at U ⊢
    rw [show (m :: A ++ [M]).dropLast = m :: A from List.dropLast_concat, show (M :: C ++ [m]).dropLast = M :: C from List.dropLast_concat]
    have uasc : Asc ((neg M) :: C.map neg ++ [neg m]) := by
      have := U.dsc
      have e : (neg M) :: C.map neg ++ [neg m] = (M :: C ++ [m]).map neg := by simp
      rw [e]
      unfold Asc
      rw [List.pairwise_map]
      exact this.imp fun h => lt_neg.mpr h
    have utri : T3 ((neg M) :: C.map neg ++ [neg m]) := by
      have := U.tri.neg
      have e : (neg M) :: C.map neg ++ [neg m] = (M :: C ++ [m]).map neg := by simp
      rw [e]
      exact this
    have inL : ∀ x ∈ A, lt m x ∧ lt x M ∧ 0 < det m x M := by
      intro x mx
      have o1 := L.asc
      refine ⟨(List.pairwise_cons.mp o1).1 x (by simp [mx]), (List.pairwise_append.mp o1).2.2 x (by simp [mx]) M (by simp), L.tri m x M ?_⟩
      exact List.Sublist.append (List.Sublist.cons_cons _ (List.singleton_sublist.mpr mx)) (List.Sublist.refl [M])
    have inU : ∀ x ∈ C, lt x M ∧ lt m x ∧ 0 < det M x m := by
      intro x mx
      have o1 := U.dsc
      refine ⟨(List.pairwise_cons.mp o1).1 x (by simp [mx]), (List.pairwise_append.mp o1).2.2 x (by simp [mx]) m (by simp), U.tri M x m ?_⟩
      exact List.Sublist.append (List.Sublist.cons_cons _ (List.singleton_sublist.mpr mx)) (List.Sublist.refl [m])
    have tri : T3 (m :: A ++ M :: C) := by
      intro a b c s
      obtain ⟨l1, l2, e, k1, k2⟩ := List.sublist_append_iff.mp s
      match l1, k1, e with
      | [], _, e =>
        rw [List.nil_append] at e
        rw [← e] at k2
        exact U.tri a b c (k2.trans (List.sublist_append_left _ _))
      | [x], k1, e =>
        simp only [List.cons_append, List.nil_append, List.cons.injEq] at e
        obtain ⟨rfl, rfl⟩ := e
        rw [← det_rot, ← det_rot]
        rcases List.mem_cons.mp (k1.subset List.mem_cons_self) with rfl | ma
        · have := U.tri b c a (List.Sublist.append k2 (List.Sublist.refl [a]))
          rw [det_rot, det_rot]
          rw [det_rot, det_rot] at this
          exact this
        · have f := inL a ma
          have s' : [neg b, neg c] <+ neg M :: C.map neg := by simpa using k2.map neg
          have := cross_lo uasc utri s' (lt_neg.mpr f.2.1) (lt_neg.mpr f.1) (by rw [det_neg, det_rot]; exact f.2.2)
          rw [det_neg] at this
          rw [det_rot, det_rot, det_rot]
          exact this
      | [x, y], k1, e =>
        simp only [List.cons_append, List.nil_append, List.cons.injEq] at e
        obtain ⟨rfl, rfl, rfl⟩ := e
        rcases List.mem_cons.mp (k2.subset List.mem_cons_self) with rfl | mc
        · exact L.tri a b c (List.Sublist.append k1 (List.Sublist.refl [c]))
        · have f := inU c mc
          refine cross_lo L.asc L.tri k1 f.2.1 f.1 ?_
          have := f.2.2
          rw [← det_rot] at this
          exact this
      | [x, y, z], k1, e =>
        simp only [List.cons_append, List.nil_append, List.cons.injEq] at e
        obtain ⟨rfl, rfl, rfl, rfl⟩ := e
        exact L.tri a b c (k1.trans (List.sublist_append_left _ _))
      | _ :: _ :: _ :: _ :: _, _, e => simp at e
    have edc : ∀ r ∈ R, Ed (m :: A ++ M :: (C ++ [m])) r := fun r mr => ed_append.mpr ⟨L.ed r mr, U.ed r mr⟩
    refine ⟨⟨by simp, ?_, tri⟩, ?_, ?_⟩
    · intro m' t e q mq
      simp only [List.cons_append, List.cons.injEq] at e
      obtain ⟨rfl, rfl⟩ := e
      rcases List.mem_append.mp mq with z | z
      · exact (inL q z).1
      · rcases List.mem_cons.mp z with rfl | z
        · exact mM
        · exact (inU q z).2.1
    · intro x mx
      rcases List.mem_append.mp mx with z | z
      · exact L.sub x (List.mem_append_left _ z)
      · exact U.sub x (List.mem_append_left _ z)
    · intro r mr
      by_cases h3 : 3 ≤ (m :: A ++ M :: C).length
      · rw [in3 h3]
        have := edc r mr
        simpa [EdC] using this
      · have : A = [] ∧ C = [] := by
          cases A <;> cases C <;> simp at h3 ⊢
        obtain ⟨rfl, rfl⟩ := this
        have e1 := (L.ed r mr)
        have e2 := (U.ed r mr)
        have a1 : 0 ≤ det m M r := e1.1
        have a2 : 0 ≤ det M m r := e2.1
        refine ⟨by rw [det_swp] at a2; grind, ?_, ?_⟩
        · rw [eR] at mr o
          rcases List.mem_cons.mp mr with z | z
          · exact .inl z
          · exact .inr ((List.pairwise_cons.mp o).1 r z)
        · obtain ⟨q, eq⟩ := List.getLast?_eq_some_iff.mp lR
          rw [eq] at mr o
          rcases List.mem_append.mp mr with z | z
          · exact .inr ((List.pairwise_append.mp o).2.2 r z M (by simp))
          · exact .inl (List.mem_singleton.mp z)
/-- corners in order are the hull of any rows that hold them and that they hold -/
theorem hul_le {R : PL} (ne : R ≠ []) (o : Asc R) : Le R (hul R) ∧ Le (hul R) R := by
  obtain ⟨c, s, i⟩ := hul_ok ne o
  exact ⟨le_iff.mpr fun r m => (in_iff c).mp (i r m), Le.of_sub s⟩
theorem hul_eq {R P : PL} (ne : R ≠ []) (o : Asc R) (c : Can P) (h : Le R P) (h' : Le P R) : hul R = P := by
  obtain ⟨a, b⟩ := hul_le ne o
  exact can_uniq (hul_ok ne o).1 c (b.trans h) (h'.trans a)
end WP

open PySem L2
set_option Elab.async false
set_option linter.all false
set_option maxRecDepth 100000
set_option maxHeartbeats 1000000
/-! # points, sides and fractions as data -/
namespace WV
open PySem PySem.Spec PyProof.Rows L2 WF WP
/-- three whole numbers over their greatest divisor -/
def lowT (a b c : Int) : D := V3 (a / G3 a b c) (b / G3 a b c) (c / G3 a b c)
def low2T (a b : Int) : D := V2 (a / G2 a b) (b / G2 a b)
theorem posint {r : Rat} (h : 0 < r) : 0 < r.num := by
  have := Rat.num_nonneg.mpr (Rat.le_of_lt h)
  have z : r.num ≠ 0 := fun z => by rw [Rat.num_eq_zero] at z; rw [z] at h; exact absurd h (by decide)
  omega
/-- proportional ones have the same lowest terms -/
theorem lowT_scale {k : Int} (hk : 0 < k) (a b c : Int) : lowT (k * a) (k * b) (k * c) = lowT a b c := by
  unfold lowT
  rw [g3_mul]
  have e : ((k.natAbs * G3 a b c : Nat) : Int) = k * (G3 a b c : Int) := by rw [Int.natCast_mul]; congr 1; omega
  rw [e]
  simp only [Int.mul_ediv_mul_of_pos _ _ hk]
theorem low2T_scale {k : Int} (hk : 0 < k) (a b : Int) : low2T (k * a) (k * b) = low2T a b := by
  unfold low2T
  rw [g2_mul]
  have e : ((k.natAbs * G2 a b : Nat) : Int) = k * (G2 a b : Int) := by rw [Int.natCast_mul]; congr 1; omega
  rw [e]
  simp only [Int.mul_ediv_mul_of_pos _ _ hk]
theorem num_den (r : Rat) : (r.num : Rat) = r * (r.den : Int) := by
  have h := Rat.num_divInt_den r
  rw [Rat.divInt_eq_div] at h
  have hd : ((r.den : Int) : Rat) ≠ 0 := ratne (by have := r.den_pos; omega)
  have : r * ((r.den : Int) : Rat) = (r.num : Rat) / ((r.den : Int) : Rat) * ((r.den : Int) : Rat) := by rw [h]
  rw [this]
  grind
/-- lowest terms proportional to three fractions -/
def lowR (x y z : Rat) : D := lowT (x.num * (y.den * z.den)) (y.num * (x.den * z.den)) (z.num * (x.den * y.den))
def fD (r : Rat) : D := V2 r.num r.den
theorem prop_lowT {a b c a' b' c' : Int} {j k : Rat} (hj : 0 < j) (hk : 0 < k) (h1 : j * a = k * a') (h2 : j * b = k * b') (h3 : j * c = k * c') : lowT a b c = lowT a' b' c' := by
  have u : 0 < k.num * j.den := Int.mul_pos (posint hk) (by have := j.den_pos; omega)
  have v : 0 < j.num * k.den := Int.mul_pos (posint hj) (by have := k.den_pos; omega)
  have key : ∀ {s t : Int}, j * s = k * t → (j.num * k.den) * s = (k.num * j.den) * t := by
    intro s t h
    have e1 := num_den j
    have e2 := num_den k
    have : (((j.num * k.den) * s : Int) : Rat) = (((k.num * j.den) * t : Int) : Rat) := by
      push_cast
      push_cast at e1 e2
      rw [e1, e2]
      grind
    exact_mod_cast this
  rw [← lowT_scale v a b c, ← lowT_scale u a' b' c', key h1, key h2, key h3]
theorem low_eq {a b c : Int} {x y z l : Rat} (hl : 0 < l) (h1 : (a : Rat) = l * x) (h2 : (b : Rat) = l * y) (h3 : (c : Rat) = l * z) : lowT a b c = lowR x y z := by
  unfold lowR
  have e1 := num_den x
  have e2 := num_den y
  have e3 := num_den z
  have d1 : (0 : Rat) < (x.den : Int) := ratpos (by have := x.den_pos; omega)
  have d2 : (0 : Rat) < (y.den : Int) := ratpos (by have := y.den_pos; omega)
  have d3 : (0 : Rat) < (z.den : Int) := ratpos (by have := z.den_pos; omega)
  refine prop_lowT (j := (x.den : Int) * (y.den : Int) * (z.den : Int)) (k := l) (Rat.mul_pos (Rat.mul_pos d1 d2) d3) hl ?_ ?_ ?_
  · rw [h1]
    simp only [Rat.intCast_mul]
    rw [e1]
    grind
  · rw [h2]
    simp only [Rat.intCast_mul]
    rw [e2]
    grind
  · rw [h3]
    simp only [Rat.intCast_mul]
    rw [e3]
    grind
theorem lowR_scale {x y z l : Rat} (hl : 0 < l) : lowR (l * x) (l * y) (l * z) = lowR x y z := by
  unfold lowR
  have e1 := num_den x
  have e2 := num_den y
  have e3 := num_den z
  have f1 := num_den (l * x)
  have f2 := num_den (l * y)
  have f3 := num_den (l * z)
  have d1 : (0 : Rat) < (x.den : Int) := ratpos (by have := x.den_pos; omega)
  have d2 : (0 : Rat) < (y.den : Int) := ratpos (by have := y.den_pos; omega)
  have d3 : (0 : Rat) < (z.den : Int) := ratpos (by have := z.den_pos; omega)
  have g1 : (0 : Rat) < ((l * x).den : Int) := ratpos (by have := (l * x).den_pos; omega)
  have g2 : (0 : Rat) < ((l * y).den : Int) := ratpos (by have := (l * y).den_pos; omega)
  have g3 : (0 : Rat) < ((l * z).den : Int) := ratpos (by have := (l * z).den_pos; omega)
  refine prop_lowT (j := (x.den : Int) * (y.den : Int) * (z.den : Int)) (k := l * (((l * x).den : Int) * ((l * y).den : Int) * ((l * z).den : Int))) (Rat.mul_pos (Rat.mul_pos d1 d2) d3) (Rat.mul_pos hl (Rat.mul_pos (Rat.mul_pos g1 g2) g3)) ?_ ?_ ?_
  · simp only [Rat.intCast_mul]
    rw [e1, f1]
    grind
  · simp only [Rat.intCast_mul]
    rw [e2, f2]
    grind
  · simp only [Rat.intCast_mul]
    rw [e3, f3]
    grind
/-- a point as data -/
def vD (p : Pt) : D := lowR p.x p.y 1
/-- the half plane n . x <= c as data -/
def hD (n : Pt) (c : Rat) : D := lowR n.x n.y c
theorem lowT_one {a b c : Int} (h : G3 a b c = 1) : lowT a b c = V3 a b c := by
  unfold lowT
  rw [h]
  simp
/-- lowest terms of a size -/
structure BL (n : Nat) (x y z : Rat) : Prop where
  ex : ∃ (a b c : Int) (l : Rat), lowR x y z = V3 a b c ∧ G3 a b c = 1 ∧ B n a ∧ B n b ∧ B n c ∧ 0 < l ∧ (a : Rat) = l * x ∧ (b : Rat) = l * y ∧ (c : Rat) = l * z
theorem BL.mono {n m : Nat} {x y z : Rat} (h : BL n x y z) (l : n ≤ m) : BL m x y z := by
  obtain ⟨a, b, c, t, e, g, b1, b2, b3, r⟩ := h
  exact ⟨a, b, c, t, e, g, b1.mono l, b2.mono l, b3.mono l, r⟩
theorem mkBL {n : Nat} {a b c : Int} {x y z l : Rat} (ne : a ≠ 0 ∨ b ≠ 0 ∨ c ≠ 0) (ba : B n a) (bb : B n b) (bc : B n c) (hl : 0 < l) (h1 : (a : Rat) = l * x) (h2 : (b : Rat) = l * y) (h3 : (c : Rat) = l * z) : lowT a b c = lowR x y z ∧ BL n x y z := by
  have e := low_eq hl h1 h2 h3
  refine ⟨e, ?_⟩
  obtain ⟨p, q, r, e1, e2, e3, lo, d1, d2, d3⟩ := low3 ne
  have gp : (0 : Int) < G3 a b c := by have := g3_pos ne; omega
  have B1 := ba.div gp (g3_d1 a b c)
  have B2 := bb.div gp (g3_d2 a b c)
  have B3 := bc.div gp (g3_d3 a b c)
  rw [d1] at B1
  rw [d2] at B2
  rw [d3] at B3
  have gr := ratpos gp
  have sc : ∀ {u v : Int} {w : Rat}, u = (G3 a b c : Int) * v → (u : Rat) = l * w → (v : Rat) = (l / (G3 a b c : Int)) * w := by
    intro u v w h h'
    have : (u : Rat) = ((G3 a b c : Int) : Rat) * v := by rw [h]; push_cast; rfl
    have ne := ratne gp
    grind
  refine ⟨⟨p, q, r, l / (G3 a b c : Int), ?_, lo, B1, B2, B3, ?_, sc e1 h1, sc e2 h2, sc e3 h3⟩⟩
  · rw [← e]
    unfold lowT
    rw [d1, d2, d3]
  · refine Rat.not_le.mp fun t => ?_
    have k := mn (a := -(l / ((G3 a b c : Int) : Rat))) (b := ((G3 a b c : Int) : Rat)) (by grind) (Rat.le_of_lt gr)
    have ne := ratne gp
    have : l / ((G3 a b c : Int) : Rat) * ((G3 a b c : Int) : Rat) = l := by grind
    grind
/-- a point of a size -/
abbrev Bp (n : Nat) (p : Pt) : Prop := BL n p.x p.y 1
abbrev BH (n : Nat) (m : Pt) (c : Rat) : Prop := BL n m.x m.y c
theorem isV_iff {n : Nat} {p : Pt} {d : D} : IsV n p.x p.y d ↔ d = vD p ∧ Bp n p := by
  constructor
  · rintro ⟨x, y, w, rfl, v, h1, h2⟩
    have k := mkBL (n := n) (a := x) (b := y) (c := w) (x := p.x) (y := p.y) (z := 1) (l := w) (.inr (.inr (by have := v.pos; omega))) v.bx v.by_ v.bw (ratpos v.pos) (by rw [h1]; grind) (by rw [h2]; grind) (by grind)
    exact ⟨by rw [← lowT_one v.lo]; exact k.1, k.2⟩
  · rintro ⟨rfl, ⟨a, b, c, l, e, g, ba, bb, bc, hl, h1, h2, h3⟩⟩
    have h3' : (c : Rat) = l := by rw [h3]; grind
    refine ⟨a, b, c, e, ⟨?_, g, ba, bb, bc⟩, by rw [h1, h3']; grind, by rw [h2, h3']; grind⟩
    rw [← h3'] at hl
    exact_mod_cast hl
theorem Bp.v {n : Nat} {p : Pt} (h : Bp n p) : ∃ x y w : Int, vD p = V3 x y w ∧ Vc n x y w ∧ (x : Rat) = p.x * w ∧ (y : Rat) = p.y * w := isV_iff.mpr ⟨rfl, h⟩
/-- ints in the ratio of a point -/
theorem mkBp {n : Nat} {a b c : Int} {p : Pt} (hc : 0 < c) (ba : B n a) (bb : B n b) (bc : B n c) (h1 : (a : Rat) = p.x * c) (h2 : (b : Rat) = p.y * c) : lowT a b c = vD p ∧ Bp n p :=
  mkBL (l := c) (.inr (.inr (by omega))) ba bb bc (ratpos hc) (by rw [h1]; grind) (by rw [h2]; grind) (by grind)
abbrev Bf (n : Nat) (r : Rat) : Prop := B n r.num ∧ B n (r.den : Int)
theorem isF_iff {n : Nat} {r : Rat} {d : D} : IsF n r d ↔ d = fD r ∧ Bf n r := by
  have self : IsF ((r.num.natAbs.log2 + 1) + (r.den.log2 + 1)) r (fD r) := by
    have l : ∀ k : Nat, k < 2 ^ (k.log2 + 1) := fun k => Nat.lt_log2_self
    refine ⟨r.num, r.den, rfl, ⟨by have := r.den_pos; omega, ?_, ?_, ?_⟩, num_den r⟩
    · unfold G2
      have := r.reduced
      simpa [Nat.Coprime] using this
    · exact B.mono (n := r.num.natAbs.log2 + 1) (l _) (by omega)
    · exact B.mono (n := r.den.log2 + 1) (by unfold B; simpa using l r.den) (by omega)
  constructor
  · intro h
    have e := IsF.uniq h self
    refine ⟨e, ?_⟩
    subst e
    obtain ⟨a, b, e, v, _⟩ := h
    simp only [fD, D.tup.injEq, List.cons.injEq, D.int.injEq, and_true] at e
    obtain ⟨rfl, rfl⟩ := e
    exact ⟨v.ba, v.bb⟩
  · rintro ⟨rfl, h⟩
    obtain ⟨a, b, e, v, h1⟩ := self
    simp only [fD, D.tup.injEq, List.cons.injEq, D.int.injEq, and_true] at e
    obtain ⟨rfl, rfl⟩ := e
    exact ⟨_, _, rfl, ⟨v.pos, v.lo, h.1, h.2⟩, h1⟩
theorem fD_inj {r s : Rat} (h : fD r = fD s) : r = s := by
  simp only [fD, D.tup.injEq, List.cons.injEq, D.int.injEq, and_true] at h
  exact Rat.ext h.1 (by omega)
theorem vD_ex (p : Pt) : ∃ n, Bp n p := by
  have l : ∀ k : Int, B (k.natAbs.log2 + 1) k := fun k => Nat.lt_log2_self
  have e1 := num_den p.x
  have e2 := num_den p.y
  have d1 : (0 : Int) < p.x.den := by have := p.x.den_pos; omega
  have d2 : (0 : Int) < p.y.den := by have := p.y.den_pos; omega
  exact ⟨_, (mkBp (n := ((p.x.num * p.y.den).natAbs.log2 + 1) + ((p.y.num * p.x.den).natAbs.log2 + 1) + (((p.x.den : Int) * p.y.den).natAbs.log2 + 1)) (a := p.x.num * p.y.den) (b := p.y.num * p.x.den) (c := (p.x.den : Int) * p.y.den) (p := p) (Int.mul_pos d1 d2) ((l _).mono (by omega)) ((l _).mono (by omega)) ((l _).mono (by omega))
    (by simp only [Rat.intCast_mul]; rw [e1]; grind) (by simp only [Rat.intCast_mul]; rw [e2]; grind)).2⟩
theorem vD_inj {p q : Pt} (h : vD p = vD q) : p = q := by
  obtain ⟨n, hp⟩ := vD_ex p
  obtain ⟨m, hq⟩ := vD_ex q
  obtain ⟨x, y, w, e, v, h1, h2⟩ := hp.v
  obtain ⟨x', y', w', e', v', h1', h2'⟩ := hq.v
  rw [e, e'] at h
  simp only [D.tup.injEq, List.cons.injEq, D.int.injEq, and_true] at h
  obtain ⟨rfl, rfl, rfl⟩ := h
  have ne := ratne v.pos
  apply Pt.ext'
  · have : p.x * w = q.x * w := by rw [← h1, h1']
    grind
  · have : p.y * w = q.y * w := by rw [← h2, h2']
    grind
end WV

open PySem L2
set_option Elab.async false
set_option linter.all false
set_option maxRecDepth 100000
set_option maxHeartbeats 1000000
/-! # chains of rows as data; the hull of some points -/
namespace WV
open PySem PySem.Spec PyProof.Rows L2 WF WP
/-! ## any rows -/
section
variable {α : Type}
def pushG (left : α → α → α → Bool) : List α → α → List α
  | b :: a :: s, c => if left a b c = true then c :: b :: a :: s else pushG left (a :: s) c
  | s, c => c :: s
/-- the same where the same row twice is one -/
def pushD [DecidableEq α] (left : α → α → α → Bool) : List α → α → List α
  | b :: a :: s, c => if left a b c = true then c :: b :: a :: s else pushD left (a :: s) c
  | [a], c => if a = c then [a] else [c, a]
  | [], c => [c]
def chG (left : α → α → α → Bool) (l : List α) : List α := (l.foldl (pushG left) []).reverse
def chD [DecidableEq α] (left : α → α → α → Bool) (l : List α) : List α := (l.foldl (pushD left) []).reverse
variable {left : α → α → α → Bool} {f : α → Pt} {P : α → Prop}
theorem pushG_sub : ∀ {s : List α} {c x : α}, x ∈ pushG left s c → x = c ∨ x ∈ s
  | [], c, x, h => by simpa [pushG] using h
  | [a], c, x, h => by simpa [pushG] using h
  | b :: a :: s, c, x, h => by
    unfold pushG at h
    split at h
    · simpa using h
    · rcases pushG_sub h with h | h
      · exact .inl h
      · exact .inr (List.mem_cons_of_mem _ h)
theorem foldG_sub : ∀ {l s : List α} {x : α}, x ∈ l.foldl (pushG left) s → x ∈ l ∨ x ∈ s
  | [], s, x, h => .inr h
  | c :: l, s, x, h => by
    rcases foldG_sub (l := l) h with h | h
    · exact .inl (List.mem_cons_of_mem _ h)
    · rcases pushG_sub h with rfl | h
      · exact .inl List.mem_cons_self
      · exact .inr h
theorem chG_sub {l : List α} {x : α} (h : x ∈ chG left l) : x ∈ l := by
  rcases foldG_sub (List.mem_reverse.mp h) with h | h
  · exact h
  · cases h
theorem pushG_len : ∀ (s : List α) (c : α), (pushG left s c).length ≤ s.length + 1
  | [], c => by simp [pushG]
  | [a], c => by simp [pushG]
  | b :: a :: s, c => by
    unfold pushG
    split
    · simp
    · have := pushG_len (a :: s) c
      simp at this ⊢
      omega
theorem foldG_len : ∀ (l s : List α), (l.foldl (pushG left) s).length ≤ s.length + l.length
  | [], s => by simp
  | x :: l, s => by have := foldG_len l (pushG left s x); have := pushG_len (left := left) s x; simp; omega
theorem chG_len (l : List α) : (chG left l).length ≤ l.length := by
  have := foldG_len (left := left) l []
  simpa [chG] using this
theorem pushG_map (h : ∀ a b c, P a → P b → P c → left a b c = decide (0 < det (f a) (f b) (f c))) : ∀ {s : List α} {c : α}, P c → (∀ x ∈ s, P x) → (pushG left s c).map f = push (s.map f) (f c)
  | [], c, _, _ => rfl
  | [a], c, _, _ => rfl
  | b :: a :: s, c, pc, ps => by
    have e := h a b c (ps a (by simp)) (ps b (by simp)) pc
    simp only [pushG, push, List.map_cons, e, decide_eq_true_eq]
    split
    · rfl
    · exact pushG_map h (s := a :: s) pc fun x m => ps x (List.mem_cons_of_mem _ m)
theorem foldG_map (h : ∀ a b c, P a → P b → P c → left a b c = decide (0 < det (f a) (f b) (f c))) : ∀ {l s : List α}, (∀ x ∈ l, P x) → (∀ x ∈ s, P x) → (l.foldl (pushG left) s).map f = (l.map f).foldl push (s.map f)
  | [], s, _, _ => rfl
  | c :: l, s, pl, ps => by
    simp only [List.foldl_cons, List.map_cons]
    rw [foldG_map h (l := l) (s := pushG left s c) (fun x m => pl x (List.mem_cons_of_mem _ m)) (fun x m => by
      rcases pushG_sub m with rfl | m
      · exact pl x List.mem_cons_self
      · exact ps x m), pushG_map h (pl c List.mem_cons_self) ps]
theorem chG_map (h : ∀ a b c, P a → P b → P c → left a b c = decide (0 < det (f a) (f b) (f c))) {l : List α} (pl : ∀ x ∈ l, P x) : (chG left l).map f = chn (l.map f) := by
  unfold chG chn stk
  rw [List.map_reverse, foldG_map h pl (fun x m => by cases m)]
  rfl
end
/-! ## points twice -/
/-- like push, a point twice is one -/
def push2 : PL → Pt → PL
  | b :: a :: s, c => if 0 < det a b c then c :: b :: a :: s else push2 (a :: s) c
  | [a], c => if a = c then [a] else [c, a]
  | [], c => [c]
theorem push2_eq : ∀ {s : PL} {c : Pt}, c ∉ s → push2 s c = push s c
  | [], c, _ => rfl
  | [a], c, h => by
    have : a ≠ c := fun e => h (by simp [e])
    simp [push2, push, this]
  | b :: a :: s, c, h => by
    unfold push2 push
    rw [push2_eq (s := a :: s) (fun m => h (List.mem_cons_of_mem _ m))]
theorem push_idem : ∀ {s : PL} {c : Pt}, c ∉ s → push2 (push s c) c = push s c
  | [], c, _ => by simp [push, push2]
  | [a], c, h => by
    have : a ≠ c := fun e => h (by simp [e])
    have e : ¬ (0 < det a c c) := by rw [det_eq]; exact fun z => absurd z (by decide)
    simp [push, push2, e, this]
  | b :: a :: s, c, h => by
    unfold push
    split
    · rename_i z
      have e : ¬ (0 < det b c c) := by rw [det_eq]; exact fun z => absurd z (by decide)
      unfold push2
      rw [if_neg e]
      unfold push2
      rw [if_pos z]
    · exact push_idem (s := a :: s) fun m => h (List.mem_cons_of_mem _ m)
theorem push_sub' {s : PL} {c x : Pt} (h : x ∈ push s c) : x = c ∨ x ∈ s := by
  induction s with
  | nil => simpa [push] using h
  | cons b s ih =>
    match s, ih with
    | [], _ => simpa [push] using h
    | a :: s, ih =>
      unfold push at h
      split at h
      · simpa using h
      · rcases ih h with h | h
        · exact .inl h
        · exact .inr (List.mem_cons_of_mem _ h)
/-- neighbours alike are one -/
def dd : PL → PL
  | a :: b :: l => if a = b then dd (b :: l) else a :: dd (b :: l)
  | l => l
theorem dd_mem : ∀ {l : PL} {x : Pt}, x ∈ dd l ↔ x ∈ l
  | [], x => Iff.rfl
  | [a], x => Iff.rfl
  | a :: b :: l, x => by
    have ih := dd_mem (l := b :: l) (x := x)
    unfold dd
    split
    · rename_i e
      subst e
      rw [ih]
      simp
    · rw [List.mem_cons, ih, List.mem_cons (b := a)]
theorem dd_pw {R : Pt → Pt → Prop} : ∀ {l : PL}, l.Pairwise (fun a b => a = b ∨ R a b) → (∀ a b c, R a b → b = c ∨ R b c → R a c) → (dd l).Pairwise R
  | [], _, _ => List.Pairwise.nil
  | [a], _, _ => List.pairwise_singleton _ _
  | a :: b :: l, h, tr => by
    have h' := List.pairwise_cons.mp h
    unfold dd
    split
    · exact dd_pw h'.2 tr
    · rename_i ne
      refine List.pairwise_cons.mpr ⟨fun x m => ?_, dd_pw h'.2 tr⟩
      have m := dd_mem.mp m
      have ab : R a b := (h'.1 b List.mem_cons_self).resolve_left ne
      rcases List.mem_cons.mp m with rfl | m
      · exact ab
      · exact tr a b x ab ((List.pairwise_cons.mp h'.2).1 x m)
theorem fold_dd {R : Pt → Pt → Prop} (ir : ∀ a, ¬ R a a) (tr : ∀ a b c, R a b → b = c ∨ R b c → R a c) : ∀ (l : PL) (x : Pt) (s : PL), (x :: l).Pairwise (fun a b => a = b ∨ R a b) → (∀ y ∈ s, R y x) → x ∉ s → l.foldl push2 (push s x) = (dd (x :: l)).foldl push s
  | [], x, s, _, _, _ => rfl
  | c :: l, x, s, h, hs, nx => by
    have h' := List.pairwise_cons.mp h
    rw [List.foldl_cons]
    by_cases e : x = c
    · subst e
      rw [push_idem nx]
      have : dd (x :: x :: l) = dd (x :: l) := by simp [dd]
      rw [this]
      exact fold_dd ir tr l x s h'.2 hs nx
    · have xc : R x c := (h'.1 c List.mem_cons_self).resolve_left e
      have nc : c ∉ push s x := by
        intro m
        rcases push_sub' m with z | m
        · exact e z.symm
        · exact ir c (tr c x c (hs c m) (.inr xc))
      rw [push2_eq nc]
      have : dd (x :: c :: l) = x :: dd (c :: l) := by simp [dd, e]
      rw [this, List.foldl_cons]
      refine fold_dd ir tr l c (push s x) h'.2 (fun y m => ?_) nc
      rcases push_sub' m with rfl | m
      · exact xc
      · exact tr y x c (hs y m) (.inr xc)
theorem stk2 {R : Pt → Pt → Prop} (ir : ∀ a, ¬ R a a) (tr : ∀ a b c, R a b → b = c ∨ R b c → R a c) {l : PL} (h : l.Pairwise (fun a b => a = b ∨ R a b)) : l.foldl push2 [] = stk (dd l) := by
  cases l with
  | nil => rfl
  | cons x l => exact fold_dd ir tr l x [] h (fun y m => by cases m) (by simp)
section
variable {α : Type} [DecidableEq α] {left : α → α → α → Bool} {f : α → Pt} {P : α → Prop}
theorem pushD_sub : ∀ {s : List α} {c x : α}, x ∈ pushD left s c → x = c ∨ x ∈ s
  | [], c, x, h => by simpa [pushD] using h
  | [a], c, x, h => by
    unfold pushD at h
    split at h
    · exact .inr h
    · simpa using h
  | b :: a :: s, c, x, h => by
    unfold pushD at h
    split at h
    · simpa using h
    · rcases pushD_sub h with h | h
      · exact .inl h
      · exact .inr (List.mem_cons_of_mem _ h)
theorem pushD_len : ∀ (s : List α) (c : α), (pushD left s c).length ≤ s.length + 1
  | [], c => by simp [pushD]
  | [a], c => by unfold pushD; split <;> simp
  | b :: a :: s, c => by
    unfold pushD
    split
    · simp
    · have := pushD_len (a :: s) c
      simp at this ⊢
      omega
theorem foldD_len : ∀ (l s : List α), (l.foldl (pushD left) s).length ≤ s.length + l.length
  | [], s => by simp
  | x :: l, s => by have := foldD_len l (pushD left s x); have := pushD_len (left := left) s x; simp; omega
theorem chD_len (l : List α) : (chD left l).length ≤ l.length := by
  have := foldD_len (left := left) l []
  simpa [chD] using this
theorem pushD_map (inj : ∀ a b, P a → P b → f a = f b → a = b) (h : ∀ a b c, P a → P b → P c → left a b c = decide (0 < det (f a) (f b) (f c))) : ∀ {s : List α} {c : α}, P c → (∀ x ∈ s, P x) → (pushD left s c).map f = push2 (s.map f) (f c)
  | [], c, _, _ => rfl
  | [a], c, pc, ps => by
    simp only [pushD, push2, List.map_cons, List.map_nil]
    by_cases e : a = c
    · simp [e]
    · have : f a ≠ f c := fun z => e (inj a c (ps a (by simp)) pc z)
      simp [e, this]
  | b :: a :: s, c, pc, ps => by
    have e := h a b c (ps a (by simp)) (ps b (by simp)) pc
    simp only [pushD, push2, List.map_cons, e, decide_eq_true_eq]
    split
    · rfl
    · exact pushD_map inj h (s := a :: s) pc fun x m => ps x (List.mem_cons_of_mem _ m)
theorem foldD_map (inj : ∀ a b, P a → P b → f a = f b → a = b) (h : ∀ a b c, P a → P b → P c → left a b c = decide (0 < det (f a) (f b) (f c))) : ∀ {l s : List α}, (∀ x ∈ l, P x) → (∀ x ∈ s, P x) → (l.foldl (pushD left) s).map f = (l.map f).foldl push2 (s.map f)
  | [], s, _, _ => rfl
  | c :: l, s, pl, ps => by
    simp only [List.foldl_cons, List.map_cons]
    rw [foldD_map inj h (l := l) (s := pushD left s c) (fun x m => pl x (List.mem_cons_of_mem _ m)) (fun x m => by
      rcases pushD_sub m with rfl | m
      · exact pl x List.mem_cons_self
      · exact ps x m), pushD_map inj h (pl c List.mem_cons_self) ps]
theorem foldD_sub : ∀ {l s : List α} {x : α}, x ∈ l.foldl (pushD left) s → x ∈ l ∨ x ∈ s
  | [], s, x, h => .inr h
  | c :: l, s, x, h => by
    rcases foldD_sub (l := l) h with h | h
    · exact .inl (List.mem_cons_of_mem _ h)
    · rcases pushD_sub h with rfl | h
      · exact .inl List.mem_cons_self
      · exact .inr h
theorem chD_sub {l : List α} {x : α} (h : x ∈ chD left l) : x ∈ l := by
  rcases foldD_sub (List.mem_reverse.mp h) with h | h
  · exact h
  · cases h
theorem chD_map {R : Pt → Pt → Prop} (ir : ∀ a, ¬ R a a) (tr : ∀ a b c, R a b → b = c ∨ R b c → R a c) (inj : ∀ a b, P a → P b → f a = f b → a = b) (h : ∀ a b c, P a → P b → P c → left a b c = decide (0 < det (f a) (f b) (f c))) {l : List α} (pl : ∀ x ∈ l, P x) (o : (l.map f).Pairwise (fun a b => a = b ∨ R a b)) : (chD left l).map f = chn (dd (l.map f)) := by
  unfold chD chn
  rw [List.map_reverse, foldD_map inj h pl (fun x m => by cases m), List.map_nil, stk2 ir tr o]
end
/-! ## the hull of points in any order -/
theorem ins_ex (p : Pt) : ∀ {l : PL}, Asc l → ∃ l', Asc l' ∧ ∀ x, x ∈ l' ↔ x = p ∨ x ∈ l
  | [], _ => ⟨[p], List.pairwise_singleton _ _, fun x => by simp⟩
  | a :: l, h => by
    have h' := List.pairwise_cons.mp h
    rcases lt_tri p a with z | z | z
    · refine ⟨p :: a :: l, List.pairwise_cons.mpr ⟨fun x m => ?_, h⟩, fun x => by simp⟩
      rcases List.mem_cons.mp m with rfl | m
      · exact z
      · exact lt_trans z (h'.1 x m)
    · subst z
      exact ⟨p :: l, h, fun x => by simp⟩
    · obtain ⟨l', o, m⟩ := ins_ex p h'.2
      refine ⟨a :: l', List.pairwise_cons.mpr ⟨fun x mx => ?_, o⟩, fun x => by rw [List.mem_cons, m, List.mem_cons]; grind⟩
      rcases (m x).mp mx with rfl | mx
      · exact z
      · exact h'.1 x mx
theorem asc_ex : ∀ (l : PL), ∃ l', Asc l' ∧ ∀ x, x ∈ l' ↔ x ∈ l
  | [] => ⟨[], List.Pairwise.nil, fun x => Iff.rfl⟩
  | p :: l => by
    obtain ⟨l1, o1, m1⟩ := asc_ex l
    obtain ⟨l2, o2, m2⟩ := ins_ex p o1
    exact ⟨l2, o2, fun x => by rw [m2, m1, List.mem_cons]⟩
theorem hull_ex (ps : PL) (ne : ps ≠ []) : ∃ P, Can P ∧ (∀ x ∈ P, x ∈ ps) ∧ Le ps P := by
  obtain ⟨R, o, m⟩ := asc_ex ps
  have neR : R ≠ [] := by
    rintro rfl
    cases ps with
    | nil => exact ne rfl
    | cons a b => exact absurd ((m a).mpr List.mem_cons_self) (by simp)
  obtain ⟨c, s, i⟩ := hul_ok neR o
  exact ⟨hul R, c, fun x mx => (m x).mp (s x mx), le_iff.mpr fun a ma => (in_iff c).mp (i a ((m a).mpr ma))⟩
/-- the hull's corners in order -/
noncomputable def hullQ (ps : PL) : PL := by
  classical
  exact if h : ps = [] then [] else (hull_ex ps h).choose
theorem hullQ_ok {ps : PL} (ne : ps ≠ []) : Can (hullQ ps) ∧ (∀ x ∈ hullQ ps, x ∈ ps) ∧ Le ps (hullQ ps) := by
  unfold hullQ
  rw [dif_neg ne]
  exact (hull_ex ps ne).choose_spec
theorem hullQ_can {ps : PL} (ne : ps ≠ []) : Can (hullQ ps) := (hullQ_ok ne).1
theorem hullQ_sub {ps : PL} (ne : ps ≠ []) : ∀ x ∈ hullQ ps, x ∈ ps := (hullQ_ok ne).2.1
theorem hullQ_le {ps : PL} (ne : ps ≠ []) : Le ps (hullQ ps) := (hullQ_ok ne).2.2
theorem hullQ_le' {ps : PL} (ne : ps ≠ []) : Le (hullQ ps) ps := Le.of_sub (hullQ_sub ne)
theorem hullQ_eq {ps P : PL} (ne : ps ≠ []) (c : Can P) (h : Le ps P) (h' : Le P ps) : hullQ ps = P :=
  can_uniq (hullQ_can ne) c ((hullQ_le' ne).trans h) (h'.trans (hullQ_le ne))
theorem hullQ_self {P : PL} (c : Can P) : hullQ P = P := hullQ_eq c.ne c (Le.refl _) (Le.refl _)
theorem hullQ_same {ps qs : PL} (n1 : ps ≠ []) (n2 : qs ≠ []) (h : Le ps qs) (h' : Le qs ps) : hullQ ps = hullQ qs :=
  hullQ_eq n1 (hullQ_can n2) (h.trans (hullQ_le n2)) ((hullQ_le' n2).trans h')
theorem hul_hullQ {R ps : PL} (o : Asc R) (m : ∀ x, x ∈ R ↔ x ∈ ps) (ne : ps ≠ []) : hul R = hullQ ps := by
  have neR : R ≠ [] := by
    rintro rfl
    cases ps with
    | nil => exact ne rfl
    | cons a b => exact absurd ((m a).mpr List.mem_cons_self) (by simp)
  exact hul_eq neR o (hullQ_can ne) ((Le.of_sub fun x mx => (m x).mp mx).trans (hullQ_le ne)) ((hullQ_le' ne).trans (Le.of_sub fun x mx => (m x).mpr mx))
/-! ## rows of two numbers -/
def Row2 (n : Nat) (ns : List Int) : Prop := ∃ x y : Int, ns = [x, y] ∧ B n x ∧ B n y
def left2 : List Int → List Int → List Int → Bool
  | [a, b], [c, d], [e, f] => decide ((d - b) * (e - a) < (c - a) * (f - b))
  | _, _, _ => false
def toP (u : Int) : List Int → Pt
  | x :: y :: _ => ⟨x / u, y / u⟩
  | _ => ⟨0, 0⟩
theorem det_scale {a b c d e f u : Rat} (hu : 0 < u) : (d - b) * (e - a) < (c - a) * (f - b) ↔ 0 < det ⟨a / u, b / u⟩ ⟨c / u, d / u⟩ ⟨e / u, f / u⟩ := by
  have ne : u ≠ 0 := by grind
  have k : det ⟨a / u, b / u⟩ ⟨c / u, d / u⟩ ⟨e / u, f / u⟩ * (u * u) = (c - a) * (f - b) - (d - b) * (e - a) := by
    unfold det
    have e1 : ∀ x : Rat, x / u * u = x := fun x => by grind
    have := e1 a
    have := e1 b
    have := e1 c
    have := e1 d
    have := e1 e
    have := e1 f
    grind
  have uu := mp hu hu
  constructor
  · intro h
    exact pm (b := u * u) (by grind) uu
  · intro h
    have := mp h uu
    grind
theorem left2_det {n : Nat} {u : Int} (hu : 0 < u) : ∀ a b c, Row2 n a → Row2 n b → Row2 n c → left2 a b c = decide (0 < det (toP u a) (toP u b) (toP u c)) := by
  rintro _ _ _ ⟨a, b, rfl, _, _⟩ ⟨c, d, rfl, _, _⟩ ⟨e, f, rfl, _, _⟩
  unfold left2 toP
  rw [decide_eq_decide, ← det_scale (ratpos hu)]
  have : ((d : Rat) - b) * (e - a) < (c - a) * (f - b) ↔ (((d - b) * (e - a) : Int) : Rat) < (((c - a) * (f - b) : Int) : Rat) := by push_cast; rfl
  rw [this]
  exact Rat.intCast_lt_intCast.symm
end WV

open PySem L2
set_option Elab.async false
set_option linter.all false
set_option maxRecDepth 100000
set_option maxHeartbeats 1000000
/-! # sorted rows; chains as plain functions over data -/
namespace WV
open PySem PySem.Spec PyProof.Rows L2 WF WP
/-! ## order -/
theorem toP_lt {u : Int} (hu : 0 < u) {a b c d : Int} {r s : List Int} : lt (toP u (a :: b :: r)) (toP u (c :: d :: s)) ↔ a < c ∨ (a = c ∧ b < d) := by
  have k : ∀ x y : Int, (x : Rat) / u < (y : Rat) / u ↔ x < y := by
    intro x y
    have ur := ratpos hu
    have ne : (u : Rat) ≠ 0 := by grind
    have e1 : ∀ z : Rat, z / u * u = z := fun z => by grind
    rw [← Rat.intCast_lt_intCast]
    constructor
    · intro h
      have := mp (a := (y : Rat) / u - (x : Rat) / u) (b := u) (by grind) ur
      have := e1 x
      have := e1 y
      grind
    · intro h
      have := pm (a := (y : Rat) / u - (x : Rat) / u) (b := u) (by have := e1 x; have := e1 y; grind) ur
      grind
  have k2 : ∀ x y : Int, (x : Rat) / u = (y : Rat) / u ↔ x = y := by
    intro x y
    constructor
    · intro h
      have ur := ratpos hu
      have ne : (u : Rat) ≠ 0 := by grind
      have : (x : Rat) = y := by grind
      exact_mod_cast this
    · rintro rfl; rfl
  unfold lt toP
  rw [k, k2, k]
theorem toP_inj2 {n : Nat} {u : Int} (hu : 0 < u) : ∀ a b, Row2 n a → Row2 n b → toP u a = toP u b → a = b := by
  rintro _ _ ⟨a, b, rfl, _, _⟩ ⟨c, d, rfl, _, _⟩ e
  have n1 : ¬ lt (toP u [a, b]) (toP u [c, d]) := by rw [e]; exact lt_irr
  have n2 : ¬ lt (toP u [c, d]) (toP u [a, b]) := by rw [e]; exact lt_irr
  rw [toP_lt hu] at n1 n2
  have : a = c ∧ b = d := by omega
  rw [this.1, this.2]
theorem lexR_two {a b c d : Int} {r s : List Int} (h : lexR (c :: d :: s) (a :: b :: r) = false) : a < c ∨ (a = c ∧ (b < d ∨ b = d)) := by
  unfold lexR at h
  split at h
  · rename_i e
    subst e
    unfold lexR at h
    split at h
    · rename_i e; exact .inr ⟨rfl, .inr e.symm⟩
    · simp at h; omega
  · simp at h; omega
theorem rows_weak {u : Int} (hu : 0 < u) {l : List (List Int)} (two : ∀ ns ∈ l, ∃ x y r, ns = x :: y :: r) (o : LexS l) : (l.map (toP u)).Pairwise (fun a b => a = b ∨ lt a b) := by
  rw [List.pairwise_map]
  refine List.Pairwise.imp_of_mem ?_ o
  intro p q mp' mq h
  obtain ⟨a, b, r, rfl⟩ := two p mp'
  obtain ⟨c, d, s, rfl⟩ := two q mq
  rw [toP_lt hu]
  rcases lexR_two h with z | ⟨z, z' | z'⟩
  · exact .inr (.inl z)
  · exact .inr (.inr ⟨z, z'⟩)
  · subst z z'; exact .inl rfl
theorem rows_asc {n : Nat} {u : Int} (hu : 0 < u) {l : List (List Int)} (two : ∀ ns ∈ l, Row2 n ns) (o : LexS l) (nd : l.Nodup) : Asc (l.map (toP u)) := by
  have w := rows_weak hu (l := l) (fun ns m => by obtain ⟨x, y, e, _⟩ := two ns m; exact ⟨x, y, [], e⟩) o
  have nd' : (l.map (toP u)).Nodup := by
    unfold List.Nodup
    rw [List.pairwise_map]
    exact List.Pairwise.imp_of_mem (fun {p q} mp' mq ne e => ne (toP_inj2 hu p q (two p mp') (two q mq) e)) nd
  exact (List.Pairwise.and w nd').imp fun ⟨a, b⟩ => a.resolve_left b
theorem sortL_mem {l : List (List Int)} {x : List Int} : x ∈ sortL l ↔ x ∈ l := (sortL_perm l).mem_iff
/-- what the hull does with rows -/
def hulR (rows : List (List Int)) : List (List Int) := if rows.length = 1 then rows else (chG left2 rows).dropLast ++ (chG left2 rows.reverse).dropLast
theorem hulR_map {n : Nat} {u : Int} (hu : 0 < u) {l : List (List Int)} (two : ∀ ns ∈ l, Row2 n ns) : (hulR l).map (toP u) = hul (l.map (toP u)) := by
  unfold hulR hul
  rw [List.length_map]
  split
  · rfl
  · rw [List.map_append, List.map_dropLast, List.map_dropLast, chG_map (left2_det hu) two, chG_map (left2_det hu) (l := l.reverse) (fun ns m => two ns (List.mem_reverse.mp m)), List.map_reverse]
theorem hulR_sub {l : List (List Int)} {x : List Int} (h : x ∈ hulR l) : x ∈ l := by
  unfold hulR at h
  split at h
  · exact h
  · rcases List.mem_append.mp h with h | h
    · exact chG_sub ((List.dropLast_sublist _).subset h)
    · exact List.mem_reverse.mp (chG_sub ((List.dropLast_sublist _).subset h))
/-! ## rows of three -/
def Row3 (w : Int) (n : Nat) (ns : List Int) : Prop := ∃ x y : Int, ns = [x, y, w] ∧ B n x ∧ B n y
def left3 : List Int → List Int → List Int → Bool
  | [a, b, u], [c, d, v], [e, f, w] => decide (0 < a * (d * w - v * f) - b * (c * w - v * e) + u * (c * f - d * e))
  | _, _, _ => false
theorem left3_det {n : Nat} {u : Int} (hu : 0 < u) : ∀ a b c, Row3 u n a → Row3 u n b → Row3 u n c → left3 a b c = decide (0 < det (toP u a) (toP u b) (toP u c)) := by
  rintro _ _ _ ⟨a, b, rfl, _, _⟩ ⟨c, d, rfl, _, _⟩ ⟨e, f, rfl, _, _⟩
  unfold left3 toP
  rw [decide_eq_decide, ← det_scale (ratpos hu)]
  have : ((d : Rat) - b) * (e - a) < (c - a) * (f - b) ↔ (((d - b) * (e - a) : Int) : Rat) < (((c - a) * (f - b) : Int) : Rat) := by push_cast; rfl
  rw [this, Rat.intCast_lt_intCast]
  have e1 : a * (d * u - u * f) - b * (c * u - u * e) + u * (c * f - d * e) = ((c - a) * (f - b) - (d - b) * (e - a)) * u := by grind
  rw [e1]
  constructor
  · intro h
    have : 0 < (c - a) * (f - b) - (d - b) * (e - a) := Int.pos_of_mul_pos_left h hu |> fun z => z
    omega
  · intro h
    exact Int.mul_pos (by omega) hu
theorem toP_inj3 {n : Nat} {u w : Int} (hu : 0 < u) : ∀ a b, Row3 w n a → Row3 w n b → toP u a = toP u b → a = b := by
  rintro _ _ ⟨a, b, rfl, _, _⟩ ⟨c, d, rfl, _, _⟩ e
  have n1 : ¬ lt (toP u [a, b, w]) (toP u [c, d, w]) := by rw [e]; exact lt_irr
  have n2 : ¬ lt (toP u [c, d, w]) (toP u [a, b, w]) := by rw [e]; exact lt_irr
  rw [toP_lt hu] at n1 n2
  have : a = c ∧ b = d := by omega
  rw [this.1, this.2]
/-- what the law's hull does with sorted rows -/
def hulL (rows : List (List Int)) : List (List Int) := if 0 < ((chD left3 rows).dropLast ++ (chD left3 rows.reverse).dropLast).length then (chD left3 rows).dropLast ++ (chD left3 rows.reverse).dropLast else rows.take 1
theorem pw_rev {R : Pt → Pt → Prop} {l : PL} (h : l.Pairwise (fun a b => a = b ∨ R a b)) : l.reverse.Pairwise (fun a b => a = b ∨ R b a) := by
  rw [List.pairwise_reverse]
  exact h.imp fun z => by rcases z with rfl | z; exact .inl rfl; exact .inr z
theorem lt_tr' (a b c : Pt) (h : lt a b) (h' : b = c ∨ lt b c) : lt a c := by
  rcases h' with rfl | h'
  · exact h
  · exact lt_trans h h'
theorem gt_tr' (a b c : Pt) (h : lt b a) (h' : b = c ∨ lt c b) : lt c a := by
  rcases h' with rfl | h'
  · exact h
  · exact lt_trans h' h
theorem dd_rev {l : PL} (h : l.Pairwise (fun a b => a = b ∨ lt a b)) : dd l.reverse = (dd l).reverse := by
  have p1 : (dd l.reverse).Pairwise (fun a b => lt b a) := dd_pw (pw_rev h) gt_tr'
  have p2 : (dd l).reverse.Pairwise (fun a b => lt b a) := List.pairwise_reverse.mpr (dd_pw h lt_tr')
  exact pw_uniq (fun a b h1 h2 => lt_asy h1 h2) p1 p2 fun x => by rw [dd_mem, List.mem_reverse, List.mem_reverse, dd_mem]
theorem dd_head : ∀ {l : PL}, (dd l).head? = l.head?
  | [] => rfl
  | [a] => rfl
  | a :: b :: l => by
    unfold dd
    split
    · rename_i e
      rw [dd_head (l := b :: l), e]
      rfl
    · rfl
theorem hulL_map {n : Nat} {u : Int} (hu : 0 < u) {l : List (List Int)} (three : ∀ ns ∈ l, Row3 u n ns) (o : LexS l) : (hulL l).map (toP u) = hul (dd (l.map (toP u))) := by
  have w := rows_weak hu (l := l) (fun ns m => by obtain ⟨x, y, e, _⟩ := three ns m; exact ⟨x, y, [u], e⟩) o
  have e1 := chD_map (left := left3) (R := lt) (fun a => lt_irr) lt_tr' (toP_inj3 hu) (left3_det hu) three w
  have e2 := chD_map (left := left3) (R := fun a b => lt b a) (fun a => lt_irr) gt_tr' (toP_inj3 hu) (left3_det hu) (l := l.reverse) (fun ns m => three ns (List.mem_reverse.mp m)) (by rw [List.map_reverse]; exact pw_rev w)
  rw [List.map_reverse, dd_rev w] at e2
  have asc : Asc (dd (l.map (toP u))) := dd_pw w lt_tr'
  have found : ((chD left3 l).dropLast ++ (chD left3 l.reverse).dropLast).map (toP u) = (chn (dd (l.map (toP u)))).dropLast ++ (chn (dd (l.map (toP u))).reverse).dropLast := by
    rw [List.map_append, List.map_dropLast, List.map_dropLast, e1, e2]
  have len := congrArg List.length found
  rw [List.length_map] at len
  unfold hulL hul
  match hD : dd (l.map (toP u)), found, len, asc with
  | [], found, len, _ =>
    have : l = [] := by
      cases l with
      | nil => rfl
      | cons a b => exact absurd (dd_mem.mpr (List.mem_map.mpr ⟨a, List.mem_cons_self, rfl⟩)) (by rw [hD]; simp)
    subst this
    rfl
  | [p], found, len, _ =>
    have z : ((chD left3 l).dropLast ++ (chD left3 l.reverse).dropLast).length = 0 := by rw [len]; rfl
    rw [if_neg (by omega), if_pos (show [p].length = 1 from rfl)]
    have hh := dd_head (l := l.map (toP u))
    rw [hD] at hh
    cases l with
    | nil => simp at hh
    | cons a b =>
      simp only [List.map_cons, List.head?_cons, Option.some.injEq] at hh
      simp [hh]
  | p :: q :: r, found, len, asc =>
    have k := chn_ok (R := p :: q :: r) (by simp) asc
    have pos : 0 < ((chD left3 l).dropLast ++ (chD left3 l.reverse).dropLast).length := by
      rw [len, List.length_append, List.length_dropLast]
      have : 2 ≤ (chn (p :: q :: r)).length := by
        have h1 := k.hd
        have h2 := k.last
        have lq : ∃ M, (p :: q :: r).getLast? = some M ∧ lt p M := by
          cases hM : (q :: r).getLast? with
          | none => rw [List.getLast?_eq_none_iff] at hM; cases hM
          | some M => exact ⟨M, by rw [List.getLast?_cons, hM]; rfl, (List.pairwise_cons.mp asc).1 _ (List.mem_of_getLast? hM)⟩
        obtain ⟨M, eM, lM⟩ := lq
        rw [eM] at h2
        match hc : chn (p :: q :: r), h1, h2 with
        | [], h1, _ => simp at h1
        | [x], h1, h2 =>
          simp at h1 h2
          rw [← h2, h1] at lM
          exact (lt_irr lM).elim
        | _ :: _ :: _, _, _ => simp
      omega
    rw [if_pos pos, if_neg (by simp), found]
theorem hulL_sub {l : List (List Int)} {x : List Int} (h : x ∈ hulL l) : x ∈ l := by
  unfold hulL at h
  split at h
  · rcases List.mem_append.mp h with h | h
    · exact chD_sub ((List.dropLast_sublist _).subset h)
    · exact List.mem_reverse.mp (chD_sub ((List.dropLast_sublist _).subset h))
  · exact List.mem_of_mem_take h
/-! ## as plain functions -/
open Classical in
noncomputable def FM_chain : PF := fun ds => match ds with
  | [.lst es] => (rowsE es).bind fun nss => if nss.length ≤ 1000 ∧ ∀ ns ∈ nss, Row2 12000 ns then some (.lst ((chG left2 nss).map tupI)) else none
  | _ => none
open Classical in
noncomputable def FM_law_chain : PF := fun ds => match ds with
  | [.lst es] => (rowsE es).bind fun nss => if nss.length ≤ 1000 ∧ ∃ u, B 12000 u ∧ ∀ ns ∈ nss, Row3 u 12000 ns then some (.lst ((chD left3 nss).map tupI)) else none
  | _ => none
theorem phi_man {Γ : Gam} {Φ : Nat → PF} {f : PF} (G : PhiOk Γ Φ) {k j : Nat} (e : Γ k = (j, spF f)) (hl : ∀ ds d, f ds = some d → ds.length = j) : PhiOk Γ (phiUp Φ k f) := by
  intro i ds d q
  unfold phiUp at q
  split at q
  · rename_i z
    subst z
    rw [e]
    exact ⟨hl ds d q, fun h Q z => ⟨d, q, z⟩⟩
  · exact G i ds d q
theorem FM_chain_len : ∀ ds d, FM_chain ds = some d → ds.length = 1 := by
  intro ds d h
  unfold FM_chain at h
  split at h
  · rfl
  · cases h
theorem FM_law_chain_len : ∀ ds d, FM_law_chain ds = some d → ds.length = 1 := by
  intro ds d h
  unfold FM_law_chain at h
  split at h
  · rfl
  · cases h
theorem fm_chain {nss : List (List Int)} (l : nss.length ≤ 1000) (h : ∀ ns ∈ nss, Row2 12000 ns) : FM_chain [.lst (nss.map tupI)] = some (.lst ((chG left2 nss).map tupI)) := by
  unfold FM_chain
  simp only [rowsE_map (nss := nss) (fun ns m => by obtain ⟨x, y, e, _⟩ := h ns m; rw [e]; simp), Option.bind_some]
  rw [if_pos ⟨l, h⟩]
theorem fm_law_chain {nss : List (List Int)} {u : Int} (l : nss.length ≤ 1000) (hu : B 12000 u) (h : ∀ ns ∈ nss, Row3 u 12000 ns) : FM_law_chain [.lst (nss.map tupI)] = some (.lst ((chD left3 nss).map tupI)) := by
  unfold FM_law_chain
  simp only [rowsE_map (nss := nss) (fun ns m => by obtain ⟨x, y, e, _⟩ := h ns m; rw [e]; simp), Option.bind_some]
  rw [if_pos ⟨l, u, hu, h⟩]
end WV

open PySem L2
set_option Elab.async false
set_option linter.all false
set_option maxRecDepth 100000
set_option maxHeartbeats 1000000
/-! # sources of drawn numbers; defs that draw -/
namespace WV
open PySem PySem.Spec PyProof.Rows L2 WF WP
/-- a source's list: at most k draws so far -/
def SrL (k : Nat) (l : List D) : Prop := ∃ x y z : Int, l = [.int x, .int y, .int z] ∧ 0 ≤ x ∧ 0 ≤ y ∧ y < 2147483648 ∧ 0 ≤ z ∧ z ≤ k
theorem SrL.mono {k m : Nat} {l : List D} (h : SrL k l) (le : k ≤ m) : SrL m l := by
  obtain ⟨x, y, z, e, a, b, c, d, f⟩ := h
  exact ⟨x, y, z, e, a, b, c, d, by omega⟩
/-- a def that draws at most c numbers from its first argument and answers r with R: all else stays -/
def spD (c : Nat) (Pre : List D → Prop) (R : List D → D → Prop) : ASp := fun ds h Q _ => ∃ (k : Nat) (a : Addr) (l us : List D), k + c < 1000000 ∧ ds = .ref a :: us ∧ h a = some l ∧ SrL k l ∧ Pre us ∧ ∀ r l', R us r → SrL (k + c) l' → Q r (h.set a l')
theorem spD_use {c : Nat} {Pre : List D → Prop} {R : List D → D → Prop} {h : AH} {Q : AQ} {a : Addr} {us l : List D} {k : Nat} (ha : h a = some l) (hs : SrL k l) (hk : k + c < 1000000) (hp : Pre us) (q : ∀ r l', R us r → SrL (k + c) l' → Q r (h.set a l')) : up (spD c Pre R) (.ref a :: us) h Q noX :=
  up_of ⟨k, a, l, us, hk, rfl, ha, hs, hp, q⟩
theorem set_other {h : AH} {a b : Addr} {xs : List D} (n : b ≠ a) : h.set a xs b = h b := by
  unfold AH.set
  simp [n]
theorem ne_of_fresh {h : AH} {a p : Addr} {l : List D} (ha : h a = some l) (hp : h p = none) : p ≠ a := by
  intro e
  rw [e, ha] at hp
  cases hp
theorem set_del {h : AH} {p : Addr} {xs : List D} (hp : h p = none) : (h.set p xs).del p = h := by
  funext b
  unfold AH.set AH.del
  by_cases e : b = p
  · simp [e, hp]
  · simp [e]
theorem set_comm {h : AH} {a p : Addr} {xs ys : List D} (n : p ≠ a) : (h.set p xs).set a ys = (h.set a ys).set p xs := by
  funext b
  unfold AH.set
  by_cases e : b = a
  · subst e; simp [Ne.symm n]
  · simp [e]
theorem del_set {h : AH} {p : Addr} {xs : List D} : (h.set p xs).del p = h.del p := by
  funext b
  unfold AH.set AH.del
  by_cases e : b = p <;> simp [e]
theorem del_none {h : AH} {p : Addr} (hp : h p = none) : h.del p = h := by
  funext b
  unfold AH.del
  by_cases e : b = p <;> simp [e, hp]
end WV

open PySem L2
set_option Elab.async false
set_option linter.all false
set_option maxRecDepth 100000
set_option maxHeartbeats 1000000
/-! # equality of data without truth values; ends of lists -/
namespace WV
open PySem PySem.Spec PyProof.Rows L2 WF WP
mutual
@[simp] def purD : D → Bool
  | .int _ => true
  | .non => true
  | .tup ds => purDs ds
  | .lst ds => purDs ds
  | _ => false
@[simp] def purDs : List D → Bool
  | [] => true
  | d :: ds => purD d && purDs ds
end
mutual
theorem pur_nrm : ∀ {d : D}, purD d = true → nrm d = d
  | .int _, _ => rfl
  | .non, _ => rfl
  | .tup ds, h => by simp only [nrm, purs_nrm (show purDs ds = true from h)]
  | .lst ds, h => by simp only [nrm, purs_nrm (show purDs ds = true from h)]
  | .bl _, h => by cases h
  | .str _, h => by cases h
  | .ref _, h => by cases h
  | .ty _, h => by cases h
theorem purs_nrm : ∀ {ds : List D}, purDs ds = true → nrms ds = ds
  | [], _ => rfl
  | d :: ds, h => by
    obtain ⟨h1, h2⟩ := Bool.and_eq_true_iff.mp (show (purD d && purDs ds) = true from h)
    simp only [nrms, pur_nrm h1, purs_nrm h2]
end
mutual
theorem pur_ok : ∀ {d : D}, purD d = true → okD d = true
  | .int _, _ => rfl
  | .non, _ => rfl
  | .tup ds, h => purs_ok (show purDs ds = true from h)
  | .lst ds, h => purs_ok (show purDs ds = true from h)
  | .bl _, h => by cases h
  | .str _, h => by cases h
  | .ref _, h => by cases h
  | .ty _, h => by cases h
theorem purs_ok : ∀ {ds : List D}, purDs ds = true → okDs ds = true
  | [], _ => rfl
  | d :: ds, h => by
    obtain ⟨h1, h2⟩ := Bool.and_eq_true_iff.mp (show (purD d && purDs ds) = true from h)
    show (okD d && okDs ds) = true
    rw [pur_ok h1, purs_ok h2]
    rfl
end
theorem eqE_gen (n : Bool) {x y : D} (hx : okD x = true) (hy : okD y = true) (dx : depD x ≤ 50) (dy : depD y ≤ 50) (ns : ∀ a b, ¬ (x = .str a ∧ y = .str b)) : eqE n x y = some (.bl (if n then !decide (nrm x = nrm y) else decide (nrm x = nrm y))) := by
  obtain ⟨p, ep, cp, lp'⟩ := okD_pd hx
  obtain ⟨q, eq, cq, lq⟩ := okD_pd hy
  have s1 : SeqAt.shaped p = true := by simp only [SeqAt.shaped, cp]; simp; omega
  have s2 : SeqAt.shaped q = true := by simp only [SeqAt.shaped, cq]; simp; omega
  have e : eqE n x y = eqD n x y := by
    unfold eqE
    split
    · exact absurd ⟨rfl, rfl⟩ (ns _ _)
    · rfl
  rw [e]
  unfold eqD
  simp only [ep, eq, Option.bind_some, eqP, s1, s2, and_self, if_true, Option.map_some, eqv_nrm ep eq]
theorem eqE_pur (n : Bool) {x y : D} (hx : purD x = true) (hy : purD y = true) (dx : depD x ≤ 50) (dy : depD y ≤ 50) : eqE n x y = some (.bl (if n then !decide (x = y) else decide (x = y))) := by
  rw [eqE_gen n (pur_ok hx) (pur_ok hy) dx dy (fun a b ⟨h, _⟩ => by subst h; cases hx), pur_nrm hx, pur_nrm hy]
theorem wp_eqp {n : Bool} {x y : D} {h : AH} {Q : AQ} (hx : purD x = true) (hy : purD y = true) (dx : depD x ≤ 50) (dy : depD y ≤ 50) (q : Q (.bl (if n then !decide (x = y) else decide (x = y))) h) : sEq n x y h Q := eqE_ok (eqE_pur n hx hy dx dy) q
theorem wc_eq {x y : D} {h : AH} {Q : AQ} (hx : purD x = true) (hy : purD y = true) (dx : depD x ≤ 50) (dy : depD y ≤ 50) (q : Q (.bl (decide (x = y))) h) : cmpS .Eq x y h Q := eqE_ok (eqE_pur false hx hy dx dy) q
theorem wc_ne {x y : D} {h : AH} {Q : AQ} (hx : purD x = true) (hy : purD y = true) (dx : depD x ≤ 50) (dy : depD y ≤ 50) (q : Q (.bl (!decide (x = y))) h) : cmpS .NotEq x y h Q := eqE_ok (eqE_pur true hx hy dx dy) q
theorem purDs_ints : ∀ (ns : List Int), purDs (ns.map D.int) = true
  | [] => rfl
  | n :: ns => by simp [purDs_ints ns]
theorem depDs_ints : ∀ (ns : List Int), depDs (ns.map D.int) = 0
  | [] => rfl
  | n :: ns => by simp [depDs_ints ns]
theorem pur_tupI (ns : List Int) : purD (tupI ns) = true := purDs_ints ns
theorem dep_tupI (ns : List Int) : depD (tupI ns) = 1 := by show depDs _ + 1 = 1; rw [depDs_ints]
theorem pur_vD (p : Pt) : purD (vD p) = true := rfl
theorem dep_vD (p : Pt) : depD (vD p) = 1 := rfl
theorem pur_lowR (x y z : Rat) : purD (lowR x y z) = true := rfl
theorem dep_lowR (x y z : Rat) : depD (lowR x y z) = 1 := rfl
theorem purDs_map {α : Type} {f : α → D} (h : ∀ a, purD (f a) = true) : ∀ (l : List α), purDs (l.map f) = true
  | [] => rfl
  | a :: l => by simp [h, purDs_map h l]
theorem depDs_map {α : Type} {f : α → D} {k : Nat} (h : ∀ a, depD (f a) ≤ k) : ∀ (l : List α), depDs (l.map f) ≤ k
  | [] => Nat.zero_le _
  | a :: l => by have := h a; have := depDs_map h l; simp; omega
/-- polygons as data -/
abbrev pD (P : PL) : D := .tup (P.map vD)
theorem pur_pD (P : PL) : purD (pD P) = true := purDs_map pur_vD P
theorem dep_pD (P : PL) : depD (pD P) ≤ 2 := by have := depDs_map (f := vD) (k := 1) (fun a => Nat.le_of_eq (dep_vD a)) P; show depDs _ + 1 ≤ 2; omega
theorem pD_inj {P Q : PL} (h : pD P = pD Q) : P = Q := by
  simp only [pD, D.tup.injEq] at h
  exact (List.map_inj_right fun a b e => vD_inj e).mp h
/-! ## the ends of lists -/
theorem at_m1 {α : Type} {l : List α} {a : α} : atI (l ++ [a]) (-1) = some a := by
  simp only [atI_def, ixN_def, List.length_append, List.length_singleton]
  rw [if_neg (by omega), if_pos (by omega)]
  have : ((-1 : Int) + ((l.length + 1 : Nat) : Int)).toNat = l.length := by omega
  simp only [this, Option.bind_some]
  simp
theorem at_m2 {α : Type} {l : List α} {a b : α} : atI (l ++ [a, b]) (-2) = some a := by
  simp only [atI_def, ixN_def, List.length_append, List.length_cons, List.length_nil]
  rw [if_neg (by omega), if_pos (by omega)]
  have : ((-2 : Int) + ((l.length + (0 + 1 + 1) : Nat) : Int)).toNat = l.length := by omega
  simp only [this, Option.bind_some]
  simp
theorem at_m1' {α : Type} {l : List α} {a b : α} : atI (l ++ [a, b]) (-1) = some b := by
  have : l ++ [a, b] = (l ++ [a]) ++ [b] := by simp
  rw [this, at_m1]
end WV

open PySem L2
set_option Elab.async false
set_option linter.all false
set_option maxRecDepth 100000
set_option maxHeartbeats 1000000
/-! # comprehensions over mapped lists; slices; rows of points -/
namespace WV
open PySem PySem.Spec PyProof.Rows L2 WF WP
section
variable {Φ : Nat → PF} {σ : ASt} {α : Type}
theorem lcM {p : CP} {e : CE} {g f : α → D} : ∀ {l : List α}, (∀ a ∈ l, ∃ σ2, evP p (g a) σ = some σ2 ∧ ev Φ σ2 e = some (f a)) → lcE Φ p .nil e σ (l.map g) = some (l.map f)
  | [], _ => rfl
  | a :: l, h => by
    obtain ⟨σ2, h1, h2⟩ := h a List.mem_cons_self
    rw [List.map_cons, lcE_cons, lcM fun x m => h x (List.mem_cons_of_mem _ m)]
    simp [h1, h2]
theorem lcF {p : CP} {c e : CE} {r : CA} {g f : α → D} {t : α → Bool} : ∀ {l : List α}, (∀ a ∈ l, ∃ σ2, evP p (g a) σ = some σ2 ∧ ev Φ σ2 c = some (.bl (t a)) ∧ (t a = true → ev Φ σ2 e = some (f a))) → lcE Φ p (.cons c r) e σ (l.map g) = some ((l.filter t).map f)
  | [], _ => rfl
  | a :: l, h => by
    obtain ⟨σ2, h1, h2, h3⟩ := h a List.mem_cons_self
    rw [List.map_cons, lcE_cons, lcF (c := c) (r := r) fun x m => h x (List.mem_cons_of_mem _ m)]
    cases q : t a with
    | true => simp [h1, h2, h3 q, q]
    | false => simp [h1, h2, q]
theorem scM {p : CP} {e : CE} {g : α → D} {f : α → List Int} : ∀ {l : List α}, (∀ a ∈ l, ∃ σ2, evP p (g a) σ = some σ2 ∧ ev Φ σ2 e = some (tupI (f a)) ∧ f a ≠ []) → scE Φ p e σ (l.map g) = some ((l.map f).map tupI)
  | [], _ => rfl
  | a :: l, h => by
    obtain ⟨σ2, h1, h2, h3⟩ := h a List.mem_cons_self
    have ih := scM (l := l) fun x m => h x (List.mem_cons_of_mem _ m)
    unfold scE at ih ⊢
    rw [List.map_cons, evLc, h1, Option.bind_some, h2, Option.bind_some, rowE_tupI h3, Option.map_some, Option.bind_some, ih]
    rfl
/-- a loop over a mapped list, by what holds of the items done -/
theorem forM {p : CP} {b : CSs} {g : α → D} (I : List α → ASt → Prop) {l : List α} (hs : ∀ pre a post σ, l = pre ++ a :: post → I pre σ → ∃ σ', (evP p (g a) σ).bind (evSs Φ b) = some (.nx σ') ∧ I (pre ++ [a]) σ') : ∀ (post pre : List α) (σ : ASt), l = pre ++ post → I pre σ → ∃ σ', forE Φ p b (post.map g) σ = some (.nx σ') ∧ I l σ'
  | [], pre, σ, e, i => by
    rw [List.append_nil] at e
    subst e
    exact ⟨σ, rfl, i⟩
  | a :: post, pre, σ, e, i => by
    obtain ⟨σ1, e1, i1⟩ := hs pre a post σ e i
    obtain ⟨σ2, e2, i2⟩ := forM I hs post (pre ++ [a]) σ1 (by rw [e]; simp) i1
    exact ⟨σ2, by rw [List.map_cons, forE_cons, e1]; exact e2, i2⟩
theorem forM0 {p : CP} {b : CSs} {g : α → D} {l : List α} {σ : ASt} (I : List α → ASt → Prop) (h0 : I [] σ) (hs : ∀ pre a post σ, l = pre ++ a :: post → I pre σ → ∃ σ', (evP p (g a) σ).bind (evSs Φ b) = some (.nx σ') ∧ I (pre ++ [a]) σ') : ∃ σ', forE Φ p b (l.map g) σ = some (.nx σ') ∧ I l σ' :=
  forM I hs l [] σ rfl h0
end
section
variable {Φ : Nat → PF} {σ σ' : ASt} {s : CS} {r : CSs} {x : Option Res} {n k : Nat} {c : CSs} {ds : List D} {d : D}
theorem evDef_of (e : evSs Φ c (ini n ds) = some (.rt d)) (l : ds.length = k) : evDef Φ n k c ds = some d := by
  unfold evDef
  rw [if_pos l, e]
  rfl
theorem evDef_nx (e : evSs Φ c (ini n ds) = some (.nx σ)) (l : ds.length = k) : evDef Φ n k c ds = some .non := by
  unfold evDef
  rw [if_pos l, e]
  rfl
theorem run_nx (e : evS Φ s σ = some (.nx σ')) (h : evSs Φ r σ' = x) : evSs Φ (.cons s r) σ = x := by
  rw [← h]
  simp [evSs, e]
theorem run_rt (e : evS Φ s σ = some (.rt d)) : evSs Φ (.cons s r) σ = some (.rt d) := by
  simp [evSs, e]
end
theorem cut_last {α : Type} (xs : List α) : cutG xs none (some (-1)) = xs.dropLast := by
  unfold cutG
  cases h : xs.length with
  | zero => rw [List.length_eq_zero_iff.mp h]; rfl
  | succ n =>
    simp only [HT.sIx, h]
    rw [if_pos (by omega)]
    rw [List.dropLast_eq_take, h]
    simp
    congr 1
    omega
/-- denominators -/
def dn : D → Int
  | .tup [.int _, .int _, .int w] => w
  | _ => 1
theorem dn_pos (p : Pt) : 0 < dn (vD p) := by
  obtain ⟨n, h⟩ := vD_ex p
  obtain ⟨x, y, w, e, v, _⟩ := h.v
  rw [e]
  exact v.pos
theorem dn_B {n : Nat} {p : Pt} (h : Bp n p) : B n (dn (vD p)) := by
  obtain ⟨x, y, w, e, v, _⟩ := h.v
  rw [e]
  exact v.bw
def rowOf (u : Int) : D → List Int
  | .tup [.int x, .int y, .int w] => [x * (u / w), y * (u / w)]
  | _ => []
def rowOf3 (u : Int) : D → List Int
  | .tup [.int x, .int y, .int w] => [x * (u / w), y * (u / w), u]
  | _ => []
theorem divB {m : Nat} {u w : Int} (hu : B m u) (pu : 0 < u) (pw : 0 < w) : B m (u / w) := by
  have h1 : 0 ≤ u / w := Int.ediv_nonneg (by omega) (by omega)
  have h2 : u / w ≤ u := Int.ediv_le_self _ (by omega)
  unfold B at *
  omega
theorem rowOf_B {n m : Nat} {p : Pt} {u : Int} (h : Bp n p) (hu : B m u) (pu : 0 < u) : Row2 (n + m) (rowOf u (vD p)) := by
  obtain ⟨x, y, w, e, v, _⟩ := h.v
  rw [e]
  exact ⟨_, _, rfl, v.bx.mul (divB hu pu v.pos), v.by_.mul (divB hu pu v.pos)⟩
theorem rowOf3_B {n m : Nat} {p : Pt} {u : Int} (h : Bp n p) (hu : B m u) (pu : 0 < u) : Row3 u (n + m) (rowOf3 u (vD p)) := by
  obtain ⟨x, y, w, e, v, _⟩ := h.v
  rw [e]
  exact ⟨_, _, rfl, v.bx.mul (divB hu pu v.pos), v.by_.mul (divB hu pu v.pos)⟩
theorem frac {x u w : Int} {p : Rat} (hu : 0 < u) (hw : 0 < w) (d : w ∣ u) (h : (x : Rat) = p * w) : ((x * (u / w) : Int) : Rat) / u = p := by
  obtain ⟨k, rfl⟩ := d
  rw [Int.mul_ediv_cancel_left k (by omega)]
  push_cast
  rw [h]
  have a := ratne hw
  have : ((w * k : Int) : Rat) ≠ 0 := ratne hu
  push_cast at this
  grind
theorem rowOf_P {p : Pt} {u : Int} (pu : 0 < u) (d : dn (vD p) ∣ u) : toP u (rowOf u (vD p)) = p := by
  obtain ⟨n, h⟩ := vD_ex p
  obtain ⟨x, y, w, e, v, h1, h2⟩ := h.v
  rw [e] at d ⊢
  exact Pt.ext' (frac pu v.pos d h1) (frac pu v.pos d h2)
theorem rowOf3_P {p : Pt} {u : Int} (pu : 0 < u) (d : dn (vD p) ∣ u) : toP u (rowOf3 u (vD p)) = p := by
  obtain ⟨n, h⟩ := vD_ex p
  obtain ⟨x, y, w, e, v, h1, h2⟩ := h.v
  rw [e] at d ⊢
  exact Pt.ext' (frac pu v.pos d h1) (frac pu v.pos d h2)
abbrev lcmI (u w : Int) : Int := ((Nat.lcm u.natAbs w.natAbs : Nat) : Int)
theorem lcm_pos {u w : Int} (hu : 0 < u) (hw : 0 < w) : 0 < lcmI u w := by
  have := Nat.lcm_pos (m := u.natAbs) (n := w.natAbs) (by omega) (by omega)
  unfold lcmI
  omega
theorem lcm_d1 (u w : Int) : u ∣ lcmI u w := Int.natAbs_dvd_natAbs.mp (by simpa [lcmI] using Nat.dvd_lcm_left _ _)
theorem lcm_d2 (u w : Int) : w ∣ lcmI u w := Int.natAbs_dvd_natAbs.mp (by simpa [lcmI] using Nat.dvd_lcm_right _ _)
theorem lcm_B {n m : Nat} {u w : Int} (hu : 0 < u) (hw : 0 < w) (bu : B m u) (bw : B n w) : B (m + n) (lcmI u w) := by
  have l : Nat.lcm u.natAbs w.natAbs ≤ u.natAbs * w.natAbs := Nat.le_of_dvd (Nat.mul_pos (by omega) (by omega)) (Nat.lcm_dvd (Nat.dvd_mul_right _ _) (Nat.dvd_mul_left _ _))
  have := bu.mul bw
  unfold B at *
  rw [Int.natAbs_mul] at this
  unfold lcmI
  simp only [Int.natAbs_natCast]
  omega
theorem lcm_ok {n m : Nat} {u w : Int} (bu : B m u) (bw : B n w) (hm : m < 12900) (hn : n < 12900) : LcmOk u w := by
  have := bu.log
  have := bw.log
  exact ⟨by omega, by omega⟩
/-- the least common denominator, on and on -/
def under : PL → Int
  | [] => 1
  | p :: l => lcmI (under l) (dn (vD p))
theorem under_pos : ∀ (l : PL), 0 < under l
  | [] => by decide
  | p :: l => lcm_pos (under_pos l) (dn_pos p)
theorem under_dvd : ∀ {l : PL} {p : Pt}, p ∈ l → dn (vD p) ∣ under l
  | q :: l, p, m => by
    rcases List.mem_cons.mp m with rfl | m
    · exact lcm_d2 _ _
    · exact Int.dvd_trans (under_dvd m) (lcm_d1 _ _)
theorem under_B {n : Nat} : ∀ {l : PL}, (∀ p ∈ l, Bp n p) → B (1 + n * l.length) (under l)
  | [], _ => by unfold under B; simp
  | q :: l, h => by
    have := lcm_B (under_pos l) (dn_pos q) (under_B fun p m => h p (List.mem_cons_of_mem _ m)) (dn_B (h q List.mem_cons_self))
    refine this.mono ?_
    simp [Nat.mul_add]
    omega
/-- rows of some points and their hull -/
theorem rows_hull {ps : PL} {n : Nat} (ne : ps ≠ []) (bp : ∀ p ∈ ps, Bp n p) {u : Int} (pu : 0 < u) (bu : B (1 + n * ps.length) u) (du : ∀ p ∈ ps, dn (vD p) ∣ u) :
    ∃ R : List (List Int), R = sortL (nubL (ps.map fun p => rowOf u (vD p))) ∧ (∀ r ∈ R, Row2 (n + (1 + n * ps.length)) r) ∧ R.length ≤ ps.length ∧ (hulR R).map (toP u) = hullQ ps ∧ ∀ r ∈ hulR R, r ∈ R := by
  refine ⟨_, rfl, ?_, ?_, ?_, fun r m => hulR_sub m⟩
  · intro r m
    obtain ⟨p, mp', rfl⟩ := List.mem_map.mp (nubL_mem.mp (sortL_mem.mp m))
    exact rowOf_B (bp p mp') bu pu
  · have h1 := (sortL_perm (nubL (ps.map fun p => rowOf u (vD p)))).length_eq
    have h2 : (nubL (ps.map fun p => rowOf u (vD p))).length ≤ (ps.map fun p => rowOf u (vD p)).length := by
      have sub : ∀ l : List (List Int), (nubL l).length ≤ l.length := by
        intro l
        induction l with
        | nil => exact Nat.le_refl _
        | cons a l ih => unfold nubL; split <;> simp <;> omega
      exact sub _
    simp at h2
    omega
  · have two : ∀ r ∈ sortL (nubL (ps.map fun p => rowOf u (vD p))), Row2 (n + (1 + n * ps.length)) r := by
      intro r m
      obtain ⟨p, mp', rfl⟩ := List.mem_map.mp (nubL_mem.mp (sortL_mem.mp m))
      exact rowOf_B (bp p mp') bu pu
    rw [hulR_map pu two]
    refine hul_hullQ (rows_asc pu two (sortL_sorted _) ?_) ?_ ne
    · exact (sortL_perm _).nodup_iff.mpr (nubL_nodup _)
    · intro x
      constructor
      · intro m
        obtain ⟨r, mr, rfl⟩ := List.mem_map.mp m
        obtain ⟨p, mp', rfl⟩ := List.mem_map.mp (nubL_mem.mp (sortL_mem.mp mr))
        rw [rowOf_P pu (du p mp')]
        exact mp'
      · intro m
        exact List.mem_map.mpr ⟨_, sortL_mem.mpr (nubL_mem.mpr (List.mem_map.mpr ⟨x, m, rfl⟩)), rowOf_P pu (du x m)⟩
theorem rows_hullL {ps : PL} {n : Nat} (ne : ps ≠ []) (bp : ∀ p ∈ ps, Bp n p) {u : Int} (pu : 0 < u) (bu : B (1 + n * ps.length) u) (du : ∀ p ∈ ps, dn (vD p) ∣ u) :
    ∃ R : List (List Int), R = sortL (ps.map fun p => rowOf3 u (vD p)) ∧ (∀ r ∈ R, Row3 u (n + (1 + n * ps.length)) r) ∧ R.length = ps.length ∧ (hulL R).map (toP u) = hullQ ps ∧ ∀ r ∈ hulL R, r ∈ R := by
  have three : ∀ r ∈ sortL (ps.map fun p => rowOf3 u (vD p)), Row3 u (n + (1 + n * ps.length)) r := by
    intro r m
    obtain ⟨p, mp', rfl⟩ := List.mem_map.mp (sortL_mem.mp m)
    exact rowOf3_B (bp p mp') bu pu
  refine ⟨_, rfl, three, ?_, ?_, fun r m => hulL_sub m⟩
  · have h1 := (sortL_perm (ps.map fun p => rowOf3 u (vD p))).length_eq
    simpa using h1
  · rw [hulL_map pu three (sortL_sorted _)]
    have w := rows_weak pu (l := sortL (ps.map fun p => rowOf3 u (vD p))) (fun ns m => by obtain ⟨x, y, e, _⟩ := three ns m; exact ⟨x, y, [u], e⟩) (sortL_sorted _)
    refine hul_hullQ (dd_pw w lt_tr') ?_ ne
    intro x
    rw [dd_mem]
    constructor
    · intro m
      obtain ⟨r, mr, rfl⟩ := List.mem_map.mp m
      obtain ⟨p, mp', rfl⟩ := List.mem_map.mp (sortL_mem.mp mr)
      rw [rowOf3_P pu (du p mp')]
      exact mp'
    · intro m
      exact List.mem_map.mpr ⟨_, sortL_mem.mpr (List.mem_map.mpr ⟨x, m, rfl⟩), rowOf3_P pu (du x m)⟩
/-- a row back to a point -/
theorem row_back {n : Nat} {u : Int} (pu : 0 < u) (bu : B n u) {r : List Int} (h : Row2 n r) : ∃ x y : Int, r = [x, y] ∧ B n x ∧ B n y ∧ lowT x y u = vD (toP u r) ∧ Bp n (toP u r) := by
  obtain ⟨x, y, rfl, bx, by_⟩ := h
  have ur := ratne pu
  have k := mkBp (p := toP u [x, y]) pu bx by_ bu (by unfold toP; grind) (by unfold toP; grind)
  exact ⟨x, y, rfl, bx, by_, k.1, k.2⟩
theorem row_back3 {n : Nat} {u : Int} (pu : 0 < u) (bu : B n u) {r : List Int} (h : Row3 u n r) : ∃ x y : Int, r = [x, y, u] ∧ B n x ∧ B n y ∧ lowT x y u = vD (toP u r) ∧ Bp n (toP u r) := by
  obtain ⟨x, y, rfl, bx, by_⟩ := h
  have ur := ratne pu
  have k := mkBp (p := toP u [x, y, u]) pu bx by_ bu (by unfold toP; grind) (by unfold toP; grind)
  exact ⟨x, y, rfl, bx, by_, k.1, k.2⟩
end WV

open PySem L2
set_option Elab.async false
set_option linter.all false
set_option maxRecDepth 100000
set_option maxHeartbeats 1000000
/-! # edges, sides, supports -/
namespace WP
open List
def o0 : Pt := ⟨0, 0⟩
def ntp (l : PL) (i : Nat) : Pt := l.getD i o0
/-- the edges all round -/
def edg (l : PL) : List (Pt × Pt) := (List.range l.length).map fun i => (ntp l i, ntp l ((i + 1) % l.length))
theorem ntp_mem {l : PL} {i : Nat} (h : i < l.length) : ntp l i ∈ l := by
  unfold ntp
  rw [List.getD_eq_getElem?_getD, List.getElem?_eq_getElem h]
  exact List.getElem_mem h
theorem ntp_append_l {a b : PL} {i : Nat} (h : i < a.length) : ntp (a ++ b) i = ntp a i := by
  unfold ntp
  rw [List.getD_eq_getElem?_getD, List.getD_eq_getElem?_getD, List.getElem?_append_left h]
/-- a way's edges -/
theorem ed_iff {x : Pt} : ∀ {l : PL}, Ed l x ↔ ∀ i, i + 1 < l.length → 0 ≤ det (ntp l i) (ntp l (i + 1)) x
  | [] => by simp [Ed]
  | [a] => by simp [Ed]
  | a :: b :: l => by
    have ih := ed_iff (x := x) (l := b :: l)
    show (0 ≤ det a b x ∧ Ed (b :: l) x) ↔ _
    rw [ih]
    constructor
    · rintro ⟨h1, h2⟩ i hi
      cases i with
      | zero => exact h1
      | succ i => exact h2 i (by simpa using hi)
    · intro h
      exact ⟨h 0 (by simp), fun i hi => h (i + 1) (by simpa using hi)⟩
theorem edC_iff {x : Pt} {l : PL} : EdC l x ↔ ∀ e ∈ edg l, 0 ≤ det e.1 e.2 x := by
  unfold EdC edg
  rw [ed_iff]
  cases l with
  | nil => simp
  | cons a l =>
    have nx : ∀ i, i < (a :: l).length → ntp ((a :: l) ++ (a :: l).take 1) i = ntp (a :: l) i ∧ ntp ((a :: l) ++ (a :: l).take 1) (i + 1) = ntp (a :: l) ((i + 1) % (a :: l).length) := by
      intro i hi
      refine ⟨ntp_append_l hi, ?_⟩
      by_cases z : i + 1 < (a :: l).length
      · rw [ntp_append_l z, Nat.mod_eq_of_lt z]
      · have : i + 1 = (a :: l).length := by omega
        rw [this, Nat.mod_self]
        unfold ntp
        rw [List.getD_eq_getElem?_getD, List.getElem?_append_right (Nat.le_refl _)]
        simp
    constructor
    · intro h e m
      obtain ⟨i, hi, rfl⟩ := List.mem_map.mp m
      have hi := List.mem_range.mp hi
      have := h i (by simp at hi ⊢; omega)
      rw [(nx i hi).1, (nx i hi).2] at this
      exact this
    · intro h i hi
      have hi' : i < (a :: l).length := by simp at hi ⊢; omega
      have := h _ (List.mem_map.mpr ⟨i, List.mem_range.mpr hi', rfl⟩)
      rw [(nx i hi').1, (nx i hi').2]
      exact this
/-- edges go between corners that differ -/
theorem edg_ne {l : PL} (c : Can l) (h2 : 2 ≤ l.length) {e : Pt × Pt} (m : e ∈ edg l) : e.1 ≠ e.2 ∧ e.1 ∈ l ∧ e.2 ∈ l := by
  obtain ⟨i, hi, rfl⟩ := List.mem_map.mp m
  have hi := List.mem_range.mp hi
  have hj : (i + 1) % l.length < l.length := Nat.mod_lt _ (by omega)
  refine ⟨?_, ntp_mem hi, ntp_mem hj⟩
  have nd : l.Nodup := by
    match l, c, h2 with
    | a :: t, c, _ =>
      refine List.nodup_cons.mpr ⟨fun m => lt_irr (c.fst a t rfl a m), ?_⟩
      have : t.Pairwise (fun u v => 0 < det a u v) := List.pairwise_iff_forall_sublist.mpr fun k => c.tri _ _ _ (List.Sublist.cons_cons _ k)
      exact this.imp fun {u v} z e => by subst e; rw [det_eq] at z; exact absurd z (by decide)
  intro e
  have e' : ntp l i = ntp l ((i + 1) % l.length) := e
  unfold ntp at e'
  rw [List.getD_eq_getElem?_getD, List.getD_eq_getElem?_getD, List.getElem?_eq_getElem hi, List.getElem?_eq_getElem hj] at e'
  simp only [Option.getD_some] at e'
  have pw := List.pairwise_iff_getElem.mp nd
  by_cases z : i + 1 < l.length
  · have ej : (i + 1) % l.length = i + 1 := Nat.mod_eq_of_lt z
    exact pw i ((i + 1) % l.length) hi hj (by omega) e'
  · have ej : (i + 1) % l.length = 0 := by
      have : i + 1 = l.length := by omega
      rw [this, Nat.mod_self]
    exact pw ((i + 1) % l.length) i hj hi (by omega) e'.symm
/-- sides: a normal and how far -/
def sideQ (n p : Pt) : Pt × Rat := (n, dot n p)
def sidesQ : PL → List (Pt × Rat)
  | [p] => [sideQ ⟨1, 0⟩ p, sideQ ⟨0, 1⟩ p, sideQ ⟨-1, 0⟩ p, sideQ ⟨0, -1⟩ p]
  | [p, q] => [sideQ ⟨q.y - p.y, -(q.x - p.x)⟩ p, sideQ ⟨q.x - p.x, q.y - p.y⟩ q, sideQ ⟨-(q.y - p.y), q.x - p.x⟩ q, sideQ ⟨-(q.x - p.x), -(q.y - p.y)⟩ p]
  | l => (edg l).map fun e => sideQ (outer e.1 e.2) e.1
def Held (S : List (Pt × Rat)) (x : Pt) : Prop := ∀ s ∈ S, dot s.1 x ≤ s.2
theorem sidesQ3 {l : PL} (h : 3 ≤ l.length) : sidesQ l = (edg l).map fun e => sideQ (outer e.1 e.2) e.1 := by
  match l, h with
  | _ :: _ :: _ :: _, _ => rfl
theorem held3 {l : PL} {x : Pt} : Held ((edg l).map fun e => sideQ (outer e.1 e.2) e.1) x ↔ EdC l x := by
  rw [edC_iff]
  unfold Held
  constructor
  · intro h e m
    have := h _ (List.mem_map.mpr ⟨e, m, rfl⟩)
    have o := outer_dot e.1 e.2 x
    unfold sideQ at this
    grind
  · intro h s m
    obtain ⟨e, me, rfl⟩ := List.mem_map.mp m
    have := h e me
    have o := outer_dot e.1 e.2 x
    unfold sideQ
    grind
theorem held_in {l : PL} (c : Can l) {x : Pt} : Held (sidesQ l) x ↔ In l x := by
  match l, c with
  | [], c => exact absurd rfl c.ne
  | [p], c =>
    unfold Held sidesQ In sideQ dot
    simp
    constructor
    · rintro ⟨h1, h2, h3, h4⟩
      apply Pt.ext' <;> grind
    · rintro rfl
      exact ⟨Rat.le_refl, Rat.le_refl, Rat.le_refl, Rat.le_refl⟩
  | [p, q], c =>
    have pq : lt p q := c.fst p [q] rfl q List.mem_cons_self
    unfold Held sidesQ In sideQ dot
    simp only [List.mem_cons, List.not_mem_nil, or_false, forall_eq_or_imp, forall_eq]
    constructor
    · rintro ⟨h1, h2, h3, h4⟩
      have d : det p q x = 0 := by unfold det; grind
      refine ⟨d, ?_, ?_⟩
      · rcases lt_tri p x with z | z | z
        · exact .inr z
        · exact .inl z.symm
        · exfalso
          rcases pq with l | ⟨e, l⟩
          · have kx : 0 ≤ p.x - x.x := by unfold lt at z; grind
            have id : ((q.x - p.x) * (q.x - p.x) + (q.y - p.y) * (q.y - p.y)) * (p.x - x.x) = (q.x - p.x) * (-(q.x - p.x) * (x.x - p.x) + -(q.y - p.y) * (x.y - p.y)) := by unfold det at d; grind
            have k1 := mp (a := q.x - p.x) (b := q.x - p.x) (by grind) (by grind)
            have k2 : 0 ≤ (q.y - p.y) * (q.y - p.y) := by
              rcases Rat.le_total (a := q.y - p.y) (b := 0) with y | y
              · have := mn (a := -(q.y - p.y)) (b := -(q.y - p.y)) (by grind) (by grind); grind
              · exact mn y y
            rcases Rat.le_iff_lt_or_eq.mp kx with w | w
            · have k3 := mp (a := (q.x - p.x) * (q.x - p.x) + (q.y - p.y) * (q.y - p.y)) (b := p.x - x.x) (by grind) w
              have k4 := mn (a := q.x - p.x) (b := (q.x - p.x) * (x.x - p.x) + (q.y - p.y) * (x.y - p.y)) (by grind) (by grind)
              grind
            · have ex : x.x = p.x := by grind
              have y1 : x.y < p.y := by unfold lt at z; grind
              have k := mp (a := q.x - p.x) (b := p.y - x.y) (by grind) (by grind)
              unfold det at d
              rw [ex] at d
              grind
          · have ex : x.x = p.x := by
              have k : (q.y - p.y) * (x.x - p.x) = 0 := by unfold det at d; rw [e] at d; grind
              have := zm (a := x.x - p.x) (b := q.y - p.y) (by grind) (by grind)
              grind
            have y1 : x.y < p.y := by unfold lt at z; grind
            have k := mp (a := q.y - p.y) (b := p.y - x.y) (by grind) (by grind)
            rw [e] at h4
            grind
      · rcases lt_tri x q with z | z | z
        · exact .inr z
        · exact .inl z
        · exfalso
          rcases pq with l | ⟨e, l⟩
          · have kx : 0 ≤ x.x - q.x := by unfold lt at z; grind
            have id : ((q.x - p.x) * (q.x - p.x) + (q.y - p.y) * (q.y - p.y)) * (x.x - q.x) = (q.x - p.x) * ((q.x - p.x) * (x.x - q.x) + (q.y - p.y) * (x.y - q.y)) := by unfold det at d; grind
            have k1 := mp (a := q.x - p.x) (b := q.x - p.x) (by grind) (by grind)
            have k2 : 0 ≤ (q.y - p.y) * (q.y - p.y) := by
              rcases Rat.le_total (a := q.y - p.y) (b := 0) with y | y
              · have := mn (a := -(q.y - p.y)) (b := -(q.y - p.y)) (by grind) (by grind); grind
              · exact mn y y
            rcases Rat.le_iff_lt_or_eq.mp kx with w | w
            · have k3 := mp (a := (q.x - p.x) * (q.x - p.x) + (q.y - p.y) * (q.y - p.y)) (b := x.x - q.x) (by grind) w
              have k4 := mn (a := q.x - p.x) (b := -((q.x - p.x) * (x.x - q.x) + (q.y - p.y) * (x.y - q.y))) (by grind) (by grind)
              grind
            · have ex : x.x = q.x := by grind
              have y1 : q.y < x.y := by unfold lt at z; grind
              have k := mp (a := q.x - p.x) (b := x.y - q.y) (by grind) (by grind)
              unfold det at d
              rw [ex] at d
              grind
          · have ex : x.x = q.x := by
              have k : (q.y - p.y) * (x.x - p.x) = 0 := by unfold det at d; rw [e] at d; grind
              have := zm (a := x.x - p.x) (b := q.y - p.y) (by grind) (by grind)
              grind
            have y1 : q.y < x.y := by unfold lt at z; grind
            have k := mp (a := q.y - p.y) (b := x.y - q.y) (by grind) (by grind)
            rw [e] at h2
            grind
    · rintro ⟨d, h1, h2⟩
      have hx : p.x ≤ x.x ∧ x.x ≤ q.x := by
        constructor
        · rcases h1 with rfl | z
          · exact Rat.le_refl
          · unfold lt at z; grind
        · rcases h2 with rfl | z
          · exact Rat.le_refl
          · unfold lt at z; grind
      have n0 : 0 ≤ (q.x - p.x) * (q.x - p.x) + (q.y - p.y) * (q.y - p.y) := by
        have k2 : ∀ a : Rat, 0 ≤ a * a := fun a => by
          rcases Rat.le_total (a := a) (b := 0) with y | y
          · have := mn (a := -a) (b := -a) (by grind) (by grind); grind
          · exact mn y y
        have := k2 (q.x - p.x)
        have := k2 (q.y - p.y)
        grind
      have key : 0 ≤ (q.x - p.x) * (x.x - p.x) + (q.y - p.y) * (x.y - p.y) ∧ 0 ≤ (q.x - p.x) * (q.x - x.x) + (q.y - p.y) * (q.y - x.y) := by
        rcases pq with l | ⟨e, l⟩
        · have i1 : ((q.x - p.x) * (x.x - p.x) + (q.y - p.y) * (x.y - p.y)) * (q.x - p.x) = ((q.x - p.x) * (q.x - p.x) + (q.y - p.y) * (q.y - p.y)) * (x.x - p.x) := by unfold det at d; grind
          have i2 : ((q.x - p.x) * (q.x - x.x) + (q.y - p.y) * (q.y - x.y)) * (q.x - p.x) = ((q.x - p.x) * (q.x - p.x) + (q.y - p.y) * (q.y - p.y)) * (q.x - x.x) := by unfold det at d; grind
          have k1 := mn n0 (b := x.x - p.x) (by grind)
          have k2 := mn n0 (b := q.x - x.x) (by grind)
          exact ⟨nm (b := q.x - p.x) (by grind) (by grind), nm (b := q.x - p.x) (by grind) (by grind)⟩
        · have ex : x.x = p.x := by grind
          have hy : p.y ≤ x.y ∧ x.y ≤ q.y := by
            constructor
            · rcases h1 with rfl | z
              · exact Rat.le_refl
              · unfold lt at z; grind
            · rcases h2 with rfl | z
              · exact Rat.le_refl
              · unfold lt at z; grind
          have k1 := mn (a := q.y - p.y) (b := x.y - p.y) (by grind) (by grind)
          have k2 := mn (a := q.y - p.y) (b := q.y - x.y) (by grind) (by grind)
          rw [ex, ← e]
          grind
      unfold det at d
      refine ⟨?_, ?_, ?_, ?_⟩ <;> grind
  | a :: b :: c' :: l, c =>
    rw [in3 (by simp), sidesQ3 (by simp)]
    exact held3
/-! ## supports -/
theorem sup_ex (P : PL) (n : Pt) : ∃ r : Rat, P ≠ [] → (∃ p ∈ P, dot n p = r) ∧ ∀ p ∈ P, dot n p ≤ r := by
  by_cases h : P = []
  · exact ⟨0, fun z => absurd h z⟩
  · obtain ⟨p, m, t⟩ := maxd n h
    exact ⟨dot n p, fun _ => ⟨⟨p, m, rfl⟩, t⟩⟩
noncomputable def supQ (P : PL) (n : Pt) : Rat := (sup_ex P n).choose
theorem supQ_mem {P : PL} (h : P ≠ []) (n : Pt) : ∃ p ∈ P, dot n p = supQ P n := ((sup_ex P n).choose_spec h).1
theorem supQ_le {P : PL} {n p : Pt} (m : p ∈ P) : dot n p ≤ supQ P n := ((sup_ex P n).choose_spec (fun e => by rw [e] at m; cases m)).2 p m
theorem supQ_eq {P : PL} {n : Pt} {r : Rat} (h : ∃ p ∈ P, dot n p = r) (h' : ∀ p ∈ P, dot n p ≤ r) : supQ P n = r := by
  obtain ⟨p, m, rfl⟩ := h
  have ne : P ≠ [] := fun e => by rw [e] at m; cases m
  obtain ⟨q, mq, e⟩ := supQ_mem ne n
  have := supQ_le (n := n) m
  have := h' q mq
  grind
theorem le_sup {A B : PL} (ne : B ≠ []) : Le A B ↔ ∀ n, ∀ a ∈ A, dot n a ≤ supQ B n := by
  constructor
  · intro h n a m
    obtain ⟨b, mb, l⟩ := h n a m
    exact Rat.le_trans l (supQ_le mb)
  · intro h n a m
    obtain ⟨b, mb, e⟩ := supQ_mem ne n
    exact ⟨b, mb, by rw [e]; exact h n a m⟩
/-- at most two corners are farthest -/
theorem far_two {P : PL} (c : Can P) {n : Pt} (hn : n.x ≠ 0 ∨ n.y ≠ 0) {r : Rat} : (P.filter fun p => decide (dot n p = r)).length ≤ 2 := by
  refine Nat.le_of_not_lt fun h => ?_
  have sub : (P.filter fun p => decide (dot n p = r)) <+ P := List.filter_sublist
  match hf : P.filter (fun p => decide (dot n p = r)), h with
  | p :: q :: s :: l, _ =>
    have m : ∀ x ∈ [p, q, s], dot n x = r := by
      intro x mx
      have : x ∈ P.filter (fun p => decide (dot n p = r)) := by rw [hf]; simp at mx ⊢; grind
      simpa using (List.mem_filter.mp this).2
    have t := c.tri p q s ((by simp : [p, q, s] <+ p :: q :: s :: l).trans (by rw [← hf]; exact sub))
    have e1 := m p (by simp)
    have e2 := m q (by simp)
    have e3 := m s (by simp)
    unfold dot at e1 e2 e3
    have z : det p q s = 0 := by
      rcases hn with z | z
      · exact zm (b := n.x) (by unfold det; grind) z
      · exact zm (b := n.y) (by unfold det; grind) z
    rw [z] at t
    exact absurd t (by decide)
end WP

open PySem L2
set_option Elab.async false
set_option linter.all false
set_option maxRecDepth 100000
set_option maxHeartbeats 1000000
/-! # sides as data -/
namespace WV
open PySem PySem.Spec PyProof.Rows L2 WF WP
/-- a side as data -/
abbrev sD (s : Pt × Rat) : D := hD s.1 s.2
abbrev Bs (n : Nat) (s : Pt × Rat) : Prop := BH n s.1 s.2
theorem hD_scale {k : Rat} (hk : 0 < k) (n : Pt) (c : Rat) : hD ⟨k * n.x, k * n.y⟩ (k * c) = hD n c := lowR_scale hk
/-- a point's numbers -/
theorem pt_ints {n : Nat} {p : Pt} (h : Bp n p) : ∃ x y w : Int, vD p = V3 x y w ∧ 0 < w ∧ B n x ∧ B n y ∧ B n w ∧ (x : Rat) = p.x * w ∧ (y : Rat) = p.y * w ∧ G3 x y w = 1 := by
  obtain ⟨x, y, w, e, v, h1, h2⟩ := h.v
  exact ⟨x, y, w, e, v.pos, v.bx, v.by_, v.bw, h1, h2, v.lo⟩
/-- a side's numbers -/
theorem sd_ints {n : Nat} {m : Pt} {c : Rat} (h : BH n m c) : ∃ (a b k : Int) (l : Rat), hD m c = V3 a b k ∧ B n a ∧ B n b ∧ B n k ∧ 0 < l ∧ (a : Rat) = l * m.x ∧ (b : Rat) = l * m.y ∧ (k : Rat) = l * c ∧ G3 a b k = 1 := by
  obtain ⟨a, b, k, l, e, g, ba, bb, bk, hl, h1, h2, h3⟩ := h
  exact ⟨a, b, k, l, e, ba, bb, bk, hl, h1, h2, h3, g⟩
/-- side at a point with a normal of whole numbers -/
theorem mk_side {n m : Nat} {a b : Int} {p : Pt} {N : Pt} {k : Rat} (hab : a ≠ 0 ∨ b ≠ 0) (ba : B n a) (bb : B n b) (hp : Bp m p) (hk : 0 < k) (h1 : (a : Rat) = k * N.x) (h2 : (b : Rat) = k * N.y) {x y w : Int} (e : vD p = V3 x y w) :
    lowT (a * w) (b * w) (a * x + b * y) = hD N (dot N p) ∧ BH (n + m + 1) N (dot N p) := by
  obtain ⟨x', y', w', e', pw, bx, by_, bw, hx, hy, _⟩ := pt_ints hp
  rw [e] at e'
  simp only [D.tup.injEq, List.cons.injEq, D.int.injEq, and_true] at e'
  obtain ⟨rfl, rfl, rfl⟩ := e'
  have wr := ratpos pw
  refine mkBL (l := k * w) ?_ ((ba.mul bw).mono (by omega)) ((bb.mul bw).mono (by omega)) ((ba.mul bx).add (bb.mul by_)) (mp hk wr) (by push_cast; rw [h1]; grind) (by push_cast; rw [h2]; grind) (by push_cast; rw [h1, h2, hx, hy]; unfold dot; grind)
  rcases hab with z | z
  · exact .inl (Int.mul_ne_zero z (by omega))
  · exact .inr (.inl (Int.mul_ne_zero z (by omega)))
/-- what a side says of a point, in whole numbers -/
theorem side_value {n m : Nat} {N p : Pt} {c : Rat} (hs : BH n N c) (hp : Bp m p) {a b k x y w : Int} (es : hD N c = V3 a b k) (ep : vD p = V3 x y w) :
    (a * x + b * y - k * w ≤ 0 ↔ dot N p ≤ c) ∧ (a * x + b * y - k * w < 0 ↔ dot N p < c) ∧ B (n + m + 2) (a * x + b * y - k * w) := by
  obtain ⟨x', y', w', e', pw, bx, by_, bw, hx, hy, _⟩ := pt_ints hp
  rw [ep] at e'
  simp only [D.tup.injEq, List.cons.injEq, D.int.injEq, and_true] at e'
  obtain ⟨rfl, rfl, rfl⟩ := e'
  obtain ⟨a', b', k', l, e', ba, bb, bk, hl, h1, h2, h3, _⟩ := sd_ints hs
  rw [es] at e'
  simp only [D.tup.injEq, List.cons.injEq, D.int.injEq, and_true] at e'
  obtain ⟨rfl, rfl, rfl⟩ := e'
  have wr := ratpos pw
  have lw := mp hl wr
  have id : ((a * x + b * y - k * w : Int) : Rat) = (dot N p - c) * (l * w) := by push_cast; rw [h1, h2, h3, hx, hy]; unfold dot; grind
  refine ⟨?_, ?_, ((ba.mul bx).add (bb.mul by_)).sub ((bk.mul bw).mono (by omega))⟩
  · rw [← Rat.intCast_le_intCast, id]
    constructor
    · intro h
      have := nm (a := c - dot N p) (b := l * w) (by push_cast at h; grind) lw
      grind
    · intro h
      have := mn (a := c - dot N p) (b := l * w) (by grind) (Rat.le_of_lt lw)
      push_cast
      grind
  · rw [← Rat.intCast_lt_intCast, id]
    constructor
    · intro h
      have := pm (a := c - dot N p) (b := l * w) (by push_cast at h; grind) lw
      grind
    · intro h
      have := mp (a := c - dot N p) (b := l * w) (by grind) lw
      push_cast
      grind
/-- a step of whole numbers between two points -/
theorem step_ints {n m : Nat} {p q : Pt} (hp : Bp n p) (hq : Bp m q) {x y w x' y' w' : Int} (e : vD p = V3 x y w) (e' : vD q = V3 x' y' w') :
    ((x' * w - x * w' : Int) : Rat) = (w * w' : Rat) * (q.x - p.x) ∧ ((y' * w - y * w' : Int) : Rat) = (w * w' : Rat) * (q.y - p.y) ∧ B (n + m + 1) (x' * w - x * w') ∧ B (n + m + 1) (y' * w - y * w') ∧ (0 : Rat) < w * w' := by
  obtain ⟨x1, y1, w1, e1, pw, bx, by_, bw, hx, hy, _⟩ := pt_ints hp
  rw [e] at e1
  simp only [D.tup.injEq, List.cons.injEq, D.int.injEq, and_true] at e1
  obtain ⟨rfl, rfl, rfl⟩ := e1
  obtain ⟨x1, y1, w1, e1, pw', bx', by', bw', hx', hy', _⟩ := pt_ints hq
  rw [e'] at e1
  simp only [D.tup.injEq, List.cons.injEq, D.int.injEq, and_true] at e1
  obtain ⟨rfl, rfl, rfl⟩ := e1
  refine ⟨by push_cast; rw [hx, hx']; grind, by push_cast; rw [hy, hy']; grind, ((bx'.mul bw).mono (by omega)).sub ((bx.mul bw').mono (by omega)), ((by'.mul bw).mono (by omega)).sub ((by_.mul bw').mono (by omega)), mp (ratpos pw) (ratpos pw')⟩
theorem step_ne {p q : Pt} {k : Rat} {u v : Int} (ne : p ≠ q) (hk : 0 < k) (h1 : (u : Rat) = k * (q.x - p.x)) (h2 : (v : Rat) = k * (q.y - p.y)) : u ≠ 0 ∨ v ≠ 0 := by
  refine Classical.byContradiction fun h => ne ?_
  have hu : u = 0 := by omega
  have hv : v = 0 := by omega
  subst hu hv
  have e1 := zm (a := q.x - p.x) (b := k) (by push_cast at h1; grind) (by grind)
  have e2 := zm (a := q.y - p.y) (b := k) (by push_cast at h2; grind) (by grind)
  apply Pt.ext' <;> grind
theorem blsM {α : Type} {f : α → Bool} : ∀ (l : List α), blsE (l.map fun a => D.bl (f a)) = some (l.map f)
  | [] => rfl
  | a :: l => by simp [blsM l]
theorem intsM {α : Type} {f : α → Int} : ∀ (l : List α), intsE (l.map fun a => D.int (f a)) = some (l.map f)
  | [] => rfl
  | a :: l => by simp [intsM l]
theorem allM {α : Type} {f : α → Bool} (l : List α) : biE .all [.lst (l.map fun a => D.bl (f a))] = some (.bl (l.all f)) := by
  simp [blsM, Function.comp_def]
theorem at0 {α : Type} {a : α} {l : List α} : atI (a :: l) 0 = some a := by simp
theorem at1 {α : Type} {a b : α} {l : List α} : atI (a :: b :: l) 1 = some b := by
  have : (1 : Int) < ((b :: (a :: l)).length : Int) := by simp; omega
  simp only [atI_def, ixN_def, List.length_cons] at this ⊢
  rw [if_pos (by omega), if_pos (by omega)]
  rfl
theorem at2 {α : Type} {a b c : α} {l : List α} : atI (a :: b :: c :: l) 2 = some c := by
  simp only [atI_def, ixN_def, List.length_cons]
  rw [if_pos (by omega), if_pos (by omega)]
  rfl
theorem at3 {α : Type} {a b c d : α} {l : List α} : atI (a :: b :: c :: d :: l) 3 = some d := by
  simp only [atI_def, ixN_def, List.length_cons]
  rw [if_pos (by omega), if_pos (by omega)]
  rfl
/-- the places of a list, with the items -/
theorem enum_map {f : Pt → D} : ∀ (l : PL) (k : Nat), enumD k (l.map f) = (List.range l.length).map fun i => .tup [.int ((k + i : Nat) : Int), f (ntp l i)]
  | [], k => rfl
  | a :: l, k => by
    have ih := enum_map (f := f) l (k + 1)
    simp only [List.map_cons, enumD, List.length_cons, List.range_succ_eq_map, List.map_map]
    have e : ((k : Int) + 1) = ((k + 1 : Nat) : Int) := by omega
    rw [e, ih]
    congr 1
    refine List.map_congr_left fun i m => ?_
    simp only [Function.comp]
    congr 3
    omega
theorem at_ntp {f : Pt → D} {l : PL} {i : Nat} (h : i < l.length) : atI (l.map f) (i : Int) = some (f (ntp l i)) := by
  have h' : (i : Int) < (l.length : Int) := by omega
  simp only [atI_def, ixN_def, List.length_map]
  rw [if_pos (by omega), if_pos h']
  simp [ntp, List.getElem?_eq_getElem h]
theorem at_ntp' {f : Pt → D} {l : PL} {j : Int} (h0 : 0 ≤ j) (h : j < l.length) : atI (l.map f) j = some (f (ntp l j.toNat)) := by
  have := at_ntp (f := f) (l := l) (i := j.toNat) (by omega)
  rw [show ((j.toNat : Nat) : Int) = j by omega] at this
  exact this
end WV

open PySem L2
set_option Elab.async false
set_option linter.all false
set_option maxRecDepth 100000
set_option maxHeartbeats 1000000
/-! # loops that may answer early; scaled points; strict insides -/
namespace WV
open PySem PySem.Spec PyProof.Rows L2 WF WP
section
variable {Φ : Nat → PF} {α : Type}
theorem forR {p : CP} {b : CSs} {g : α → D} {t : α → Bool} {d : D} {I : ASt → Prop} : ∀ {l : List α} {σ : ASt}, (∀ a ∈ l, ∀ σ, I σ → if t a = true then (evP p (g a) σ).bind (evSs Φ b) = some (.rt d) else ∃ σ', (evP p (g a) σ).bind (evSs Φ b) = some (.nx σ') ∧ I σ') → I σ → if l.any t = true then forE Φ p b (l.map g) σ = some (.rt d) else ∃ σ', forE Φ p b (l.map g) σ = some (.nx σ') ∧ I σ'
  | [], σ, _, i => by simp; exact i
  | a :: l, σ, h, i => by
    have h1 := h a List.mem_cons_self σ i
    by_cases q : t a = true
    · rw [if_pos q] at h1
      have e : (a :: l).any t = true := by simp [q]
      rw [if_pos e, List.map_cons, forE_cons, h1]
      rfl
    · rw [if_neg q] at h1
      obtain ⟨σ1, e1, i1⟩ := h1
      have ih := forR (l := l) (σ := σ1) (fun x m => h x (List.mem_cons_of_mem _ m)) i1
      have e : (a :: l).any t = l.any t := by simp [q]
      rw [e, List.map_cons, forE_cons, e1]
      exact ih
end
theorem rngD0 (n : Nat) : rngD 0 n = (List.range n).map fun i : Nat => D.int (i : Int) := by
  unfold rngD
  refine List.map_congr_left fun i _ => ?_
  congr 1
  omega
theorem rd1 {Φ : Nat → PF} {σ : ASt} {e : WF.CE} : evI Φ σ (.rng (.cons e .nil)) = (ev Φ σ e).bind (fun x => (intE x).bind fun j => if -(2 ^ 62) ≤ j ∧ j < 2 ^ 62 then some (rngD 0 j.toNat) else none) := by
  rw [evI]
theorem rd2 {j : Int} (h : 0 ≤ j) (l : j < 1000000000) : (if -(2 ^ 62) ≤ j ∧ j < 2 ^ 62 then some (rngD 0 j.toNat) else none) = some (rngD 0 j.toNat) := by
  rw [if_pos ⟨by omega, by omega⟩]
theorem rd3 {x : Option D} {j : Int} (e : x = some (.int j)) (h : 0 ≤ j) (l : j < 1000000000) : x.bind (fun x => (intE x).bind fun j => if -(2 ^ 62) ≤ j ∧ j < 2 ^ 62 then some (rngD 0 j.toNat) else none) = some (rngD 0 j.toNat) := by
  subst e
  exact rd2 h l
theorem evI_rng {Φ : Nat → PF} {σ : ASt} {e : WF.CE} {n : Nat} (h : ev Φ σ e = some (.int (n : Int))) (l : n < 1000000000) : evI Φ σ (.rng (.cons e .nil)) = some ((List.range n).map fun i : Nat => D.int (i : Int)) := by
  rw [rd1, rd3 h (Int.natCast_nonneg n) (by omega), Int.toNat_natCast, rngD0]
@[simp] theorem evI_seq {Φ : Nat → PF} {σ : ASt} {e : WF.CE} : evI Φ σ (.seq e) = (ev Φ σ e).bind seqE := by rw [evI]
@[simp] theorem evI_enm {Φ : Nat → PF} {σ : ASt} {e : WF.CE} : evI Φ σ (.enm e) = (ev Φ σ e).bind fun x => (seqE x).map (enumD 0) := by rw [evI]
theorem min_pos {l : List Int} (ne : l ≠ []) : ∃ m, l.min? = some m ∧ (0 < m ↔ ∀ x ∈ l, 0 < x) ∧ (0 ≤ m ↔ ∀ x ∈ l, 0 ≤ x) ∧ m ∈ l := by
  cases h : l.min? with
  | none => rw [List.min?_eq_none_iff] at h; exact absurd h ne
  | some m =>
    obtain ⟨h1, h2⟩ := List.min?_eq_some_iff.mp h
    exact ⟨m, rfl, ⟨fun z x mx => by have := h2 x mx; omega, fun z => z m h1⟩, ⟨fun z x mx => by have := h2 x mx; omega, fun z => z m h1⟩, h1⟩
theorem max_neg {l : List Int} (ne : l ≠ []) : ∃ m, l.max? = some m ∧ (m < 0 ↔ ∀ x ∈ l, x < 0) ∧ (m ≤ 0 ↔ ∀ x ∈ l, x ≤ 0) ∧ m ∈ l := by
  cases h : l.max? with
  | none => rw [List.max?_eq_none_iff] at h; exact absurd h ne
  | some m =>
    obtain ⟨h1, h2⟩ := List.max?_eq_some_iff.mp h
    exact ⟨m, rfl, ⟨fun z x mx => by have := h2 x mx; omega, fun z => z m h1⟩, ⟨fun z x mx => by have := h2 x mx; omega, fun z => z m h1⟩, h1⟩
theorem mod_next {i n : Nat} (h : i < n) : ((i : Int) + 1) % (n : Int) = (((i + 1) % n : Nat) : Int) := by push_cast; rfl
/-- points of an evaluated triple turn: the sign of three points -/
theorem det_ints {n m k : Nat} {p q r : Pt} (hp : Bp n p) (hq : Bp m q) (hr : Bp k r) {a b u c d v e f w : Int} (e1 : vD p = V3 a b u) (e2 : vD q = V3 c d v) (e3 : vD r = V3 e f w) :
    ((a * (d * w - v * f) - b * (c * w - v * e) + u * (c * f - d * e) : Int) : Rat) = det p q r * (u * v * w : Rat) ∧ (0 : Rat) < u * v * w := by
  obtain ⟨x, y, z, h, pw, bx, by_, bw, hx, hy, _⟩ := pt_ints hp
  rw [e1] at h
  simp only [D.tup.injEq, List.cons.injEq, D.int.injEq, and_true] at h
  obtain ⟨rfl, rfl, rfl⟩ := h
  obtain ⟨x, y, z, h, pw', bx', by', bw', hx', hy', _⟩ := pt_ints hq
  rw [e2] at h
  simp only [D.tup.injEq, List.cons.injEq, D.int.injEq, and_true] at h
  obtain ⟨rfl, rfl, rfl⟩ := h
  obtain ⟨x, y, z, h, pw2, bx2, by2, bw2, hx2, hy2, _⟩ := pt_ints hr
  rw [e3] at h
  simp only [D.tup.injEq, List.cons.injEq, D.int.injEq, and_true] at h
  obtain ⟨rfl, rfl, rfl⟩ := h
  refine ⟨?_, mp (mp (ratpos pw) (ratpos pw')) (ratpos pw2)⟩
  push_cast
  rw [hx, hy, hx', hy', hx2, hy2]
  unfold det
  grind
theorem sign_of {i : Int} {d k : Rat} (h : (i : Rat) = d * k) (hk : 0 < k) : (i < 0 ↔ d < 0) ∧ (0 < i ↔ 0 < d) ∧ (i = 0 ↔ d = 0) := by
  have a1 : i < 0 ↔ d < 0 := by
    rw [← Rat.intCast_lt_intCast, h]
    constructor
    · intro z
      have := pm (a := -d) (b := k) (by push_cast at z; grind) hk
      grind
    · intro z
      have := mp (a := -d) (b := k) (by grind) hk
      push_cast
      grind
  have a2 : 0 < i ↔ 0 < d := by
    rw [← Rat.intCast_lt_intCast, h]
    constructor
    · intro z
      exact pm (b := k) (by push_cast at z; grind) hk
    · intro z
      have := mp z hk
      push_cast
      grind
  refine ⟨a1, a2, ?_⟩
  constructor
  · intro z
    have : ¬ d < 0 := by rw [← a1]; omega
    have : ¬ 0 < d := by rw [← a2]; omega
    grind
  · intro z
    have : ¬ i < 0 := by rw [a1, z]; decide
    have : ¬ 0 < i := by rw [a2, z]; decide
    omega
def addP (p q : Pt) : Pt := ⟨p.x + q.x, p.y + q.y⟩
def mulP (r : Rat) (p : Pt) : Pt := ⟨r * p.x, r * p.y⟩
def Strict (S : List (Pt × Rat)) (x : Pt) : Prop := ∀ s ∈ S, dot s.1 x < s.2
theorem strict_small {P : PL} {x : Pt} (ne : P ≠ []) (h : P.length ≤ 2) : ¬ Strict (sidesQ P) x := by
  intro s
  match P, ne, h with
  | [p], _, _ =>
    have a := s (sideQ ⟨1, 0⟩ p) (by simp [sidesQ])
    have b := s (sideQ ⟨-1, 0⟩ p) (by simp [sidesQ])
    unfold sideQ dot at a b
    grind
  | [p, q], _, _ =>
    have a := s (sideQ ⟨q.y - p.y, -(q.x - p.x)⟩ p) (by simp [sidesQ])
    have b := s (sideQ ⟨-(q.y - p.y), q.x - p.x⟩ q) (by simp [sidesQ])
    unfold sideQ dot at a b
    grind
  | _ :: _ :: _ :: _, _, h => simp at h
theorem strict3 {P : PL} {x : Pt} (h : 3 ≤ P.length) : Strict (sidesQ P) x ↔ ∀ e ∈ edg P, 0 < det e.1 e.2 x := by
  rw [sidesQ3 h]
  unfold Strict
  constructor
  · intro h e m
    have := h _ (List.mem_map.mpr ⟨e, m, rfl⟩)
    have o := outer_dot e.1 e.2 x
    unfold sideQ at this
    grind
  · intro h s m
    obtain ⟨e, me, rfl⟩ := List.mem_map.mp m
    have := h e me
    have o := outer_dot e.1 e.2 x
    unfold sideQ
    grind
end WV

open PySem L2
set_option Elab.async false
set_option linter.all false
set_option maxRecDepth 100000
set_option maxHeartbeats 1000000
/-! # what can be shown -/
namespace WV
open PySem PySem.Spec PyProof.Rows L2 WF WP
theorem shw_lowR {n : Nat} {x y z : Rat} (h : BL n x y z) (l : n ≤ 1900) : Shw (lowR x y z) 5773 2 := by
  obtain ⟨a, b, c, t, e, _, ba, bb, bc, _⟩ := h
  rw [e]
  exact shw_v3 ba bb bc l
theorem shw_vD {n : Nat} {p : Pt} (h : Bp n p) (l : n ≤ 1900) : Shw (vD p) 5773 2 := shw_lowR h l
theorem shw_fD {n : Nat} {r : Rat} (h : Bf n r) (l : n ≤ 1900) : Shw (fD r) 5773 2 := shw_v2 h.1 h.2 l
theorem shw_map {α : Type} {f : α → D} {l : List α} {k e m : Nat} (h : ∀ a ∈ l, Shw (f a) k e) (hm : l.length ≤ m) : Shw (.tup (l.map f)) (m * (k + 2) + 4) (e + 1) := by
  refine (Shw.tup (k := k) (e := e) fun d md => ?_).mono ?_ (Nat.le_refl _)
  · obtain ⟨a, ma, rfl⟩ := List.mem_map.mp md
    exact h a ma
  · rw [List.length_map]
    have := Nat.mul_le_mul_right (k + 2) hm
    omega
theorem shw_pD {n m : Nat} {P : PL} (h : ∀ p ∈ P, Bp n p) (l : n ≤ 1900) (hm : P.length ≤ m) : Shw (pD P) (m * 5775 + 4) 3 := shw_map (fun p mp' => shw_vD (h p mp') l) hm
theorem shw_2 {a b : D} {k e : Nat} (ha : Shw a k e) (hb : Shw b k e) : Shw (.lst [a, b]) (2 * (k + 2) + 4) (e + 1) := by
  refine (Shw.lst (k := k) (e := e) fun d md => ?_).mono (Nat.le_refl _) (Nat.le_refl _)
  simp only [List.mem_cons, List.not_mem_nil, or_false] at md
  rcases md with rfl | rfl
  · exact ha
  · exact hb
theorem shw_bls (a b : Bool) : Shw (.lst [.bl a, .bl b]) 20 2 := (shw_2 Shw.bl Shw.bl).mono (by decide) (by decide)
theorem eqE_bls (n : Bool) (a b c d : Bool) : eqE n (.lst [.bl a, .bl b]) (.lst [.bl c, .bl d]) = some (.bl (if n then !decide (a = c ∧ b = d) else decide (a = c ∧ b = d))) := by
  rw [eqE_gen n rfl rfl (by show (1 : Nat) ≤ 50; decide) (by show (1 : Nat) ≤ 50; decide) (fun _ _ h => by cases h.1)]
  have : decide (nrm (.lst [.bl a, .bl b]) = nrm (.lst [.bl c, .bl d])) = decide (a = c ∧ b = d) := by
    rw [decide_eq_decide]
    simp only [nrm, nrms, D.lst.injEq, List.cons.injEq, D.int.injEq, and_true]
    cases a <;> cases b <;> cases c <;> cases d <;> simp
  rw [this]
theorem repr_eqs {x y : D} {n : Bool} {k e k' e' : Nat} (hx : Shw x k e) (hk : k ≤ 16777216) (he : e ≤ 64) : ∃ s : Str, reprE x = some (.str s) := ⟨_, repr_eq hx hk he⟩
theorem sides_len {P : PL} (ne : P ≠ []) : (sidesQ P).length ≤ P.length + 4 ∧ sidesQ P ≠ [] := by
  match P, ne with
  | [_], _ => simp [sidesQ]
  | [_, _], _ => simp [sidesQ]
  | _ :: _ :: _ :: _, _ => simp [sidesQ, edg]
theorem outer_ne {p q : Pt} (h : p ≠ q) : (outer p q).x ≠ 0 ∨ (outer p q).y ≠ 0 := by
  unfold outer
  refine Classical.byContradiction fun z => h ?_
  apply Pt.ext' <;> grind
theorem sides_ne {P : PL} (c : Can P) {s : Pt × Rat} (m : s ∈ sidesQ P) : s.1.x ≠ 0 ∨ s.1.y ≠ 0 := by
  match P, c with
  | [], c => exact absurd rfl c.ne
  | [p], c =>
    simp only [sidesQ, List.mem_cons, List.not_mem_nil, or_false] at m
    rcases m with rfl | rfl | rfl | rfl <;> simp [sideQ] <;> decide
  | [p, q], c =>
    have ne : p ≠ q := fun e => by have := c.fst p [q] rfl q (by simp); rw [e] at this; exact lt_irr this
    have o := outer_ne ne
    unfold outer at o
    simp only [sidesQ, List.mem_cons, List.not_mem_nil, or_false] at m
    rcases m with rfl | rfl | rfl | rfl <;> simp only [sideQ] at o ⊢ <;> grind
  | p :: q :: r :: t, c =>
    have l3 : 3 ≤ (p :: q :: r :: t).length := by simp
    rw [sidesQ3 l3] at m
    obtain ⟨e, me, rfl⟩ := List.mem_map.mp m
    exact outer_ne (edg_ne c (by omega) me).1
theorem ev_lcf {Φ : Nat → PF} {σ : ASt} {m : Bool} {p : CP} {it : CI} {tt : CA} {e : WF.CE} {own : List (Str × Nat)} {ds r : List D} (hm : m = false) (hi : evI Φ σ it = some ds) (l : ds.length ≤ PySem.sizeLine) (h : lcE Φ p tt e (wipeA σ (own.map (·.2))) ds = some r) : ev Φ σ (.lc m p it tt e own) = some (.lst r) := by
  subst hm
  rw [ev_lc, if_neg (by decide), hi, Option.bind_some, if_pos l, h]
  rfl
theorem supQ_one (p n : Pt) : supQ [p] n = dot n p := supQ_eq ⟨p, by simp, rfl⟩ (fun q m => by rw [List.mem_singleton.mp m]; exact Rat.le_refl)
theorem supQ_scale {P : PL} (ne : P ≠ []) {k : Rat} (hk : 0 < k) (n : Pt) : supQ P ⟨k * n.x, k * n.y⟩ = k * supQ P n := by
  obtain ⟨p, m, e⟩ := supQ_mem ne n
  refine supQ_eq ⟨p, m, ?_⟩ fun q mq => ?_
  · rw [← e]; unfold dot; grind
  · have := supQ_le (n := n) mq
    have k2 := mn (a := k) (b := supQ P n - dot n q) (by grind) (by grind)
    unfold dot at *
    grind
theorem nodup_len {α : Type} [DecidableEq α] : ∀ {l m : List α}, l.Nodup → (∀ x ∈ l, x ∈ m) → l.length ≤ m.length
  | [], m, _, _ => Nat.zero_le _
  | a :: l, m, nd, h => by
    have nd' := List.nodup_cons.mp nd
    have ih := nodup_len (l := l) (m := m.erase a) nd'.2 fun x mx => by
      have : x ≠ a := fun e => nd'.1 (by rw [← e]; exact mx)
      exact (List.mem_erase_of_ne this).mpr (h x (List.mem_cons_of_mem _ mx))
    have ma := h a List.mem_cons_self
    rw [List.length_erase_of_mem ma] at ih
    have : 0 < m.length := List.length_pos_of_mem ma
    simp
    omega
theorem can_nodup {l : PL} (c : Can l) : l.Nodup := by
  match l, c with
  | [], _ => exact List.nodup_nil
  | a :: t, c =>
    refine List.nodup_cons.mpr ⟨fun m => lt_irr (c.fst a t rfl a m), ?_⟩
    have : t.Pairwise (fun u v => 0 < det a u v) := List.pairwise_iff_forall_sublist.mpr fun k => c.tri _ _ _ (List.Sublist.cons_cons _ k)
    exact this.imp fun {u v} z e => by subst e; rw [det_eq] at z; exact absurd z (by decide)
theorem hullQ_len {ps : PL} (ne : ps ≠ []) : (hullQ ps).length ≤ ps.length := nodup_len (can_nodup (hullQ_can ne)) (hullQ_sub ne)
end WV

open PySem L2
set_option Elab.async false
set_option linter.all false
set_option maxRecDepth 100000
set_option maxHeartbeats 1000000
/-! # small common things -/
namespace WV
open PySem PySem.Spec PyProof.Rows L2 WF WP
/-- three triples -/
def L3 : List Int → List Int → List Int → Int
  | [a, b, u], [c, d, v], [e, f, w] => a * (d * w - v * f) - b * (c * w - v * e) + u * (c * f - d * e)
  | _, _, _ => 0
theorem left3_same {u : Int} {a c : List Int} (ha : Row3 u 12000 a) (hc : Row3 u 12000 c) : left3 a c c = false := by
  obtain ⟨x, y, rfl, bx, by_⟩ := ha
  obtain ⟨x', y', rfl, bx', by'⟩ := hc
  unfold left3
  simp
  have : x * (y' * u - u * y') - y * (x' * u - u * x') + u * (x' * y' - y' * x') = 0 := by grind
  omega
/-- a polygon of a size that all functions take -/
structure Pg (P : PL) : Prop where
  can : Can P
  len : P.length < 64
  bd : ∃ n, (∀ p ∈ P, Bp n p) ∧ n * (P.length + 1) < 8900 ∧ n < 2000
theorem dot_ints {n m : Nat} {a b : Int} {p : Pt} (ba : B n a) (bb : B n b) (hp : Bp m p) {x y w : Int} (e : vD p = V3 x y w) : ((a * x + b * y : Int) : Rat) = dot ⟨a, b⟩ p * w ∧ B (n + m + 1) (a * x + b * y) := by
  obtain ⟨x', y', w', e', pw, bx, by_, bw, hx, hy, _⟩ := pt_ints hp
  rw [e] at e'
  simp only [D.tup.injEq, List.cons.injEq, D.int.injEq, and_true] at e'
  obtain ⟨rfl, rfl, rfl⟩ := e'
  exact ⟨by push_cast; rw [hx, hy]; unfold dot; grind, (ba.mul bx).add (bb.mul by_)⟩
theorem rat_lt_ints (r s : Rat) : (r.num * (s.den : Int) < s.num * (r.den : Int)) ↔ r < s := (Rat.lt_iff r s).symm
theorem eqE_fD (n : Bool) (r s : Rat) : eqE n (fD r) (fD s) = some (.bl (if n then !decide (r = s) else decide (r = s))) := by
  have : decide (fD r = fD s) = decide (r = s) := by
    rw [decide_eq_decide]
    exact ⟨fD_inj, fun h => by rw [h]⟩
  rw [eqE_pur n rfl rfl (by show (1 : Nat) ≤ 50; decide) (by show (1 : Nat) ≤ 50; decide), this]
theorem max1 {g : Int} (h : 0 < g) : (if g > 1 then g else 1) = g := by split <;> omega
theorem divOk3 {n : Nat} {a b c : Int} (hc : 0 < c) (bc : B n c) (l : n < 9000) : DivOk (G3 a b c) := (g3_le hc bc).divOk (by have := g3_pos (a := a) (b := b) (c := c) (.inr (.inr (by omega))); omega) l
theorem divOk2 {n : Nat} {a c : Int} (hc : 0 < c) (bc : B n c) (l : n < 9000) : DivOk (G2 a c) := by
  have gl : B n (G2 a c) := by
    refine B.nat ?_
    have : G2 a c ≤ c.natAbs := Nat.le_of_dvd (by omega) (Nat.gcd_dvd_right _ _)
    unfold B at bc
    omega
  exact gl.divOk (by have := g2_pos (a := a) (b := c) (.inr (by omega)); omega) l
theorem lcm_eq {u w : Int} (hu : 0 < u) (hw : 0 < w) : u / (G2 u w : Int) * w = lcmI u w := by
  unfold lcmI G2
  have g0 : 0 < Nat.gcd u.natAbs w.natAbs := Nat.gcd_pos_of_pos_left _ (by omega)
  obtain ⟨x, hx⟩ := Nat.gcd_dvd_left u.natAbs w.natAbs
  have e1 : u = (Nat.gcd u.natAbs w.natAbs : Int) * (x : Int) := by rw [← Int.natCast_mul, ← hx]; omega
  have e2 : Nat.lcm u.natAbs w.natAbs = x * w.natAbs := by
    unfold Nat.lcm
    generalize hg : Nat.gcd u.natAbs w.natAbs = g at *
    rw [hx, Nat.mul_assoc, Nat.mul_div_cancel_left _ g0]
  rw [e2]
  generalize hg : Nat.gcd u.natAbs w.natAbs = g at *
  rw [e1, Int.mul_ediv_cancel_left _ (by omega)]
  push_cast
  congr 1
  omega
theorem divOkS {n : Nat} {a b c : Int} (h : a ≠ 0 ∨ b ≠ 0) (ba : B n a) (bb : B n b) (l : n < 8900) : DivOk (G3 a b c) := by
  have gB : B n (G3 a b c) := by
    rcases h with z | z
    · exact B.nat (Nat.lt_of_le_of_lt (Nat.le_of_dvd (by omega) (Int.ofNat_dvd_left.mp (g3_d1 a b c))) ba)
    · exact B.nat (Nat.lt_of_le_of_lt (Nat.le_of_dvd (by omega) (Int.ofNat_dvd_left.mp (g3_d2 a b c))) bb)
  exact gB.divOk (by have := g3_pos (a := a) (b := b) (c := c) (by omega); omega) (by omega)
theorem eqE_vD (n : Bool) (p q : Pt) : eqE n (vD p) (vD q) = some (.bl (if n then !decide (p = q) else decide (p = q))) := by
  have : decide (vD p = vD q) = decide (p = q) := by rw [decide_eq_decide]; exact ⟨vD_inj, fun h => by rw [h]⟩
  rw [eqE_pur n rfl rfl (by show (1 : Nat) ≤ 50; decide) (by show (1 : Nat) ≤ 50; decide), this]
theorem first_last {P : PL} (ne : P ≠ []) : ∃ p q, p ∈ P ∧ q ∈ P ∧ atI (P.map vD) 0 = some (vD p) ∧ atI (P.map vD) (-1) = some (vD q) := by
  obtain ⟨A, q, e⟩ : ∃ A q, P = A ++ [q] := ⟨P.dropLast, P.getLast ne, (List.dropLast_concat_getLast ne).symm⟩
  have h0 : 0 < P.length := by cases P with
    | nil => exact absurd rfl ne
    | cons a b => simp
  refine ⟨ntp P 0, q, ntp_mem h0, by rw [e]; simp, at_ntp (f := vD) h0, ?_⟩
  rw [e, List.map_append]
  exact at_m1
theorem mid_at {P : PL} (ne : P ≠ []) : ∃ p, p ∈ P ∧ atI (P.map vD) ((P.length : Int) / 2) = some (vD p) := by
  have h0 : 0 < P.length := by cases P with
    | nil => exact absurd rfl ne
    | cons a b => simp
  have h : P.length / 2 < P.length := by omega
  have e : ((P.length / 2 : Nat) : Int) = (P.length : Int) / 2 := by omega
  have a := at_ntp (f := vD) h
  rw [e] at a
  exact ⟨_, ntp_mem h, a⟩
end WV

set_option Elab.async false
set_option linter.all false
set_option maxHeartbeats 1000000
/-! # the cone of a corner; discs; points scaled -/
namespace WP
open List
theorem sub1 {l : PL} {i : Nat} (h : i < l.length) : [ntp l i] <+ l := List.singleton_sublist.mpr (ntp_mem h)
theorem ntp_succ {a : Pt} {l : PL} {i : Nat} : ntp (a :: l) (i + 1) = ntp l i := by simp [ntp]
theorem ntp_zero {a : Pt} {l : PL} : ntp (a :: l) 0 = a := by simp [ntp]
theorem sub2 : ∀ {l : PL} {i j : Nat}, i < j → j < l.length → [ntp l i, ntp l j] <+ l
  | [], i, j, _, h => by simp at h
  | a :: l, 0, j + 1, _, h => by
    rw [ntp_zero, ntp_succ]
    exact List.Sublist.cons_cons _ (sub1 (by simpa using h))
  | a :: l, i + 1, j + 1, ij, h => by
    rw [ntp_succ, ntp_succ]
    exact (sub2 (by omega) (by simpa using h)).trans (List.sublist_cons_self _ _)
theorem sub3 : ∀ {l : PL} {i j k : Nat}, i < j → j < k → k < l.length → [ntp l i, ntp l j, ntp l k] <+ l
  | [], i, j, k, _, _, h => by simp at h
  | a :: l, 0, j + 1, k + 1, _, jk, h => by
    rw [ntp_zero, ntp_succ, ntp_succ]
    exact List.Sublist.cons_cons _ (sub2 (by omega) (by simpa using h))
  | a :: l, i + 1, j + 1, k + 1, ij, jk, h => by
    rw [ntp_succ, ntp_succ, ntp_succ]
    exact (sub3 (by omega) (by omega) (by simpa using h)).trans (List.sublist_cons_self _ _)
/-- the corner ahead and the corner behind -/
theorem round {P : PL} (c : Can P) (l3 : 3 ≤ P.length) {p : Pt} (m : p ∈ P) : ∃ z y, (z, p) ∈ edg P ∧ (p, y) ∈ edg P ∧ 0 < det z p y ∧ z ∈ P ∧ y ∈ P := by
  obtain ⟨i, hi, rfl⟩ := List.mem_iff_getElem.mp m
  have e : P[i] = ntp P i := by unfold ntp; rw [List.getD_eq_getElem?_getD, List.getElem?_eq_getElem hi]; rfl
  rw [e]
  clear e m
  generalize hn : P.length = n at *
  have hz : (i + n - 1) % n < n := Nat.mod_lt _ (by omega)
  have hy : (i + 1) % n < n := Nat.mod_lt _ (by omega)
  have back : ((i + n - 1) % n + 1) % n = i := by
    by_cases z : i = 0
    · subst z
      rw [Nat.mod_eq_of_lt (show 0 + n - 1 < n by omega)]
      rw [show 0 + n - 1 + 1 = n by omega, Nat.mod_self]
    · rw [show i + n - 1 = (i - 1) + n by omega, Nat.add_mod_right, Nat.mod_eq_of_lt (show i - 1 < n by omega), show i - 1 + 1 = i by omega, Nat.mod_eq_of_lt hi]
  refine ⟨ntp P ((i + n - 1) % n), ntp P ((i + 1) % n), ?_, ?_, ?_, ntp_mem (by omega), ntp_mem (by omega)⟩
  · refine List.mem_map.mpr ⟨(i + n - 1) % n, List.mem_range.mpr (by omega), ?_⟩
    rw [hn, back]
  · refine List.mem_map.mpr ⟨i, List.mem_range.mpr (by omega), ?_⟩
    rw [hn]
  · by_cases z : i = 0
    · subst z
      have e1 : (0 + n - 1) % n = n - 1 := by rw [Nat.mod_eq_of_lt (by omega)]; omega
      have e2 : (0 + 1) % n = 1 := Nat.mod_eq_of_lt (by omega)
      rw [e1, e2]
      have := c.tri _ _ _ (sub3 (l := P) (i := 0) (j := 1) (k := n - 1) (by omega) (by omega) (by omega))
      rw [det_rot]
      exact this
    · by_cases z2 : i = n - 1
      · subst z2
        have e1 : (n - 1 + n - 1) % n = n - 2 := by rw [show n - 1 + n - 1 = (n - 2) + n by omega, Nat.add_mod_right, Nat.mod_eq_of_lt (by omega)]
        have e2 : (n - 1 + 1) % n = 0 := by rw [show n - 1 + 1 = n by omega, Nat.mod_self]
        rw [e1, e2]
        have := c.tri _ _ _ (sub3 (l := P) (i := 0) (j := n - 2) (k := n - 1) (by omega) (by omega) (by omega))
        rw [← det_rot]
        exact this
      · have e1 : (i + n - 1) % n = i - 1 := by rw [show i + n - 1 = (i - 1) + n by omega, Nat.add_mod_right, Nat.mod_eq_of_lt (by omega)]
        have e2 : (i + 1) % n = i + 1 := Nat.mod_eq_of_lt (by omega)
        rw [e1, e2]
        exact c.tri _ _ _ (sub3 (l := P) (i := i - 1) (j := i) (k := i + 1) (by omega) (by omega) (by omega))
def nrm2 (n : Pt) : Rat := n.x * n.x + n.y * n.y
theorem sq_nonneg (a : Rat) : 0 ≤ a * a := by
  rcases Rat.le_total (a := a) (b := 0) with z | z
  · have := mn (a := -a) (b := -a) (by grind) (by grind); grind
  · exact mn z z
theorem nrm2_nonneg (n : Pt) : 0 ≤ nrm2 n := by
  have := sq_nonneg n.x
  have := sq_nonneg n.y
  unfold nrm2
  grind
theorem nrm2_pos {n : Pt} (h : n.x ≠ 0 ∨ n.y ≠ 0) : 0 < nrm2 n := by
  have h1 := sq_nonneg n.x
  have h2 := sq_nonneg n.y
  have pos : ∀ a : Rat, a ≠ 0 → 0 < a * a := fun a z => by
    rcases rne z with y | y
    · have := mp (a := -a) (b := -a) (by grind) (by grind); grind
    · exact mp y y
  unfold nrm2
  rcases h with z | z
  · have := pos _ z; grind
  · have := pos _ z; grind
/-- a direction lies in the cone of the corner that is farthest in it -/
theorem cone {P : PL} (c : Can P) (l3 : 3 ≤ P.length) (n : Pt) : ∃ z p y, ∃ s t : Rat, (z, p) ∈ edg P ∧ (p, y) ∈ edg P ∧ 0 ≤ s ∧ 0 ≤ t ∧ n = ⟨s * (outer p y).x + t * (outer z p).x, s * (outer p y).y + t * (outer z p).y⟩ ∧ supQ P n = dot n p := by
  obtain ⟨p, mp', e⟩ := supQ_mem c.ne n
  obtain ⟨z, y, h1, h2, d, mz, my⟩ := round c l3 mp'
  have kz := supQ_le (n := n) mz
  have ky := supQ_le (n := n) my
  rw [← e] at kz ky
  have ne : det z p y ≠ 0 := by grind
  have q1 : (dot n p - dot n z) / det z p y * det z p y = dot n p - dot n z := by grind
  have q2 : (dot n p - dot n y) / det z p y * det z p y = dot n p - dot n y := by grind
  refine ⟨z, p, y, (dot n p - dot n z) / det z p y, (dot n p - dot n y) / det z p y, h1, h2, nm (b := det z p y) (by grind) d, nm (b := det z p y) (by grind) d, ?_, e.symm⟩
  generalize (dot n p - dot n z) / det z p y = s at q1
  generalize (dot n p - dot n y) / det z p y = t at q2
  have ex : (n.x - (s * (outer p y).x + t * (outer z p).x)) * det z p y = 0 := by
    have a1 : s * det z p y = dot n p - dot n z := q1
    have a2 : t * det z p y = dot n p - dot n y := q2
    have : (n.x - (s * (outer p y).x + t * (outer z p).x)) * det z p y = n.x * det z p y - (s * det z p y) * (outer p y).x - (t * det z p y) * (outer z p).x := by grind
    rw [this, a1, a2]
    unfold det outer dot
    grind
  have ey : (n.y - (s * (outer p y).y + t * (outer z p).y)) * det z p y = 0 := by
    have a1 : s * det z p y = dot n p - dot n z := q1
    have a2 : t * det z p y = dot n p - dot n y := q2
    have : (n.y - (s * (outer p y).y + t * (outer z p).y)) * det z p y = n.y * det z p y - (s * det z p y) * (outer p y).y - (t * det z p y) * (outer z p).y := by grind
    rw [this, a1, a2]
    unfold det outer dot
    grind
  have x0 := zm ex ne
  have y0 := zm ey ne
  apply Pt.ext' <;> grind
/-- an edge's support is at its ends -/
theorem sup_edge {P : PL} (c : Can P) (l3 : 3 ≤ P.length) {e : Pt × Pt} (m : e ∈ edg P) : supQ P (outer e.1 e.2) = dot (outer e.1 e.2) e.1 := by
  have ne := edg_ne c (by omega) m
  refine supQ_eq ⟨e.1, ne.2.1, rfl⟩ fun q mq => ?_
  have := (edC_iff.mp (edC_self c.tri mq)) e m
  have o := outer_dot e.1 e.2 q
  grind
theorem sup_nonneg {P : PL} (c : Can P) (h : In P o0) (n : Pt) : 0 ≤ supQ P n := by
  obtain ⟨b, mb, l⟩ := (in_iff c).mp h n o0 List.mem_cons_self
  have := supQ_le (n := n) mb
  have e : dot n o0 = 0 := by unfold dot o0; grind
  grind
theorem sq_le {a b : Rat} (ha : 0 ≤ a) (hb : 0 ≤ b) : a ≤ b ↔ a * a ≤ b * b := by
  constructor
  · intro h
    have k1 := mn (a := b - a) (b := a) (by grind) ha
    have k2 := mn (a := b - a) (b := b) (by grind) hb
    grind
  · intro h
    refine Rat.not_lt.mp fun z => ?_
    have k := mp (a := a - b) (b := a + b) (by grind) (by grind)
    grind
/-- a disc that all edges hold is held in each direction -/
theorem disc {P : PL} (c : Can P) (l3 : 3 ≤ P.length) (h0 : In P o0) {K : Rat} (hK : 0 ≤ K) (h : ∀ e ∈ edg P, K * nrm2 (outer e.1 e.2) ≤ dot (outer e.1 e.2) e.1 * dot (outer e.1 e.2) e.1) (n : Pt) : K * nrm2 n ≤ supQ P n * supQ P n := by
  obtain ⟨z, p, y, s, t, h1, h2, s0, t0, en, es⟩ := cone c l3 n
  have a1 := h _ h2
  have a2 := h _ h1
  have b1 := sup_nonneg c h0 (outer p y)
  have b2 := sup_nonneg c h0 (outer z p)
  rw [sup_edge c l3 h2] at b1
  rw [sup_edge c l3 h1] at b2
  simp only at a1 a2 b1 b2
  have e2 : dot (outer z p) z = dot (outer z p) p := by unfold dot outer; grind
  rw [e2] at a2 b2
  rw [es]
  have ed : dot n p = s * dot (outer p y) p + t * dot (outer z p) p := by rw [en]; unfold dot; grind
  have e3 : nrm2 n = s * s * nrm2 (outer p y) + 2 * (s * t) * dot (outer p y) (outer z p) + t * t * nrm2 (outer z p) := by rw [en]; unfold nrm2 dot; grind
  generalize outer p y = u at *
  generalize outer z p = v at *
  generalize dot u p = hu at *
  generalize dot v p = hv at *
  have cs : dot u v * dot u v ≤ nrm2 u * nrm2 v := by
    have := sq_nonneg (u.x * v.y - u.y * v.x)
    unfold dot nrm2
    grind
  have key : K * dot u v ≤ hu * hv := by
    rcases Rat.le_total (a := dot u v) (b := 0) with q | q
    · have := mn hK (b := -dot u v) (by grind)
      have := mn b1 b2
      grind
    · refine (sq_le (mn hK q) (mn b1 b2)).mpr ?_
      have k1 := mn (mn hK hK) (b := nrm2 u * nrm2 v - dot u v * dot u v) (by grind)
      have k2 := mn (a := hu * hu - K * nrm2 u) (b := hv * hv) (by grind) (sq_nonneg hv)
      have k3 := mn (a := K * nrm2 u) (b := hv * hv - K * nrm2 v) (mn hK (nrm2_nonneg u)) (by grind)
      grind
  have k1 := mn (sq_nonneg s) (b := hu * hu - K * nrm2 u) (by grind)
  have k2 := mn (sq_nonneg t) (b := hv * hv - K * nrm2 v) (by grind)
  have k3 := mn (mn s0 t0) (b := hu * hv - K * dot u v) (by grind)
  rw [e3, ed]
  grind
/-- Cauchy -/
theorem cauchy (u v : Pt) : dot u v * dot u v ≤ nrm2 u * nrm2 v := by
  have := sq_nonneg (u.x * v.y - u.y * v.x)
  unfold dot nrm2
  grind
theorem dot_self (p : Pt) : dot p p = nrm2 p := rfl
end WP

open PySem L2
set_option Elab.async false
set_option linter.all false
set_option maxRecDepth 100000
set_option maxHeartbeats 1000000
/-! # scaled polygons; whole corners -/
namespace WV
open PySem PySem.Spec PyProof.Rows L2 WF WP
theorem mul_det (k : Rat) (a b c : Pt) : det (mulP k a) (mulP k b) (mulP k c) = k * k * det a b c := by unfold det mulP; grind
theorem mul_inj {k : Rat} (hk : 0 < k) {a b : Pt} (h : mulP k a = mulP k b) : a = b := by
  unfold mulP at h
  simp only [Pt.mk.injEq] at h
  apply Pt.ext'
  · have := zm (a := a.x - b.x) (b := k) (by grind) (by grind); grind
  · have := zm (a := a.y - b.y) (b := k) (by grind) (by grind); grind
theorem mul_lt {k : Rat} (hk : 0 < k) {a b : Pt} (h : lt a b) : lt (mulP k a) (mulP k b) := by
  unfold lt mulP at *
  simp only
  rcases h with z | ⟨z, z'⟩
  · left
    have := mp hk (b := b.x - a.x) (by grind)
    grind
  · right
    have := mp hk (b := b.y - a.y) (by grind)
    constructor <;> grind
theorem can_mul {k : Rat} (hk : 0 < k) {P : PL} (c : Can P) : Can (P.map (mulP k)) := by
  refine ⟨by simpa using c.ne, ?_, ?_⟩
  · intro m t e q mq
    obtain ⟨m', t', rfl, rfl, rfl⟩ := List.map_eq_cons_iff.mp e
    obtain ⟨q', mq', rfl⟩ := List.mem_map.mp mq
    exact mul_lt hk (c.fst m' t' rfl q' mq')
  · intro a b d s
    obtain ⟨l, sl, el⟩ := List.sublist_map_iff.mp s
    match l, el with
    | [x, y, z], el =>
      simp only [List.map_cons, List.map_nil, List.cons.injEq, and_true] at el
      obtain ⟨rfl, rfl, rfl⟩ := el
      rw [mul_det]
      exact mp (mp hk hk) (c.tri x y z sl)
theorem sup_mul {k : Rat} (hk : 0 < k) {P : PL} (ne : P ≠ []) (n : Pt) : supQ (P.map (mulP k)) n = k * supQ P n := by
  obtain ⟨p, mp', e⟩ := supQ_mem ne n
  refine supQ_eq ⟨mulP k p, List.mem_map.mpr ⟨p, mp', rfl⟩, ?_⟩ fun q mq => ?_
  · rw [← e]; unfold dot mulP; grind
  · obtain ⟨q', mq', rfl⟩ := List.mem_map.mp mq
    have := supQ_le (n := n) mq'
    have k2 := mn (a := k) (b := supQ P n - dot n q') (by grind) (by grind)
    unfold dot mulP at *
    grind
theorem in0_mul {k : Rat} (hk : 0 < k) {P : PL} (c : Can P) (h : In P o0) : In (P.map (mulP k)) o0 := by
  refine (in_iff (can_mul hk c)).mpr fun n a m => ?_
  rw [List.mem_singleton] at m
  subst m
  obtain ⟨p, mp', e⟩ := supQ_mem c.ne n
  have := sup_nonneg c h n
  refine ⟨mulP k p, List.mem_map.mpr ⟨p, mp', rfl⟩, ?_⟩
  have e1 : dot n (mulP k p) = k * dot n p := by unfold dot mulP; grind
  have e2 : dot n o0 = 0 := by unfold dot o0; grind
  rw [e1, e2, e]
  exact mn (Rat.le_of_lt hk) this
/-- points that are not on one line have three corners at least -/
theorem hull_three {ps : PL} {a b c : Pt} (ha : a ∈ ps) (hb : b ∈ ps) (hc : c ∈ ps) (h : det a b c ≠ 0) : 3 ≤ (hullQ ps).length := by
  have ne : ps ≠ [] := fun e => by rw [e] at ha; cases ha
  have can := hullQ_can ne
  have i : ∀ x ∈ ps, In (hullQ ps) x := fun x m => (in_iff can).mpr (le_iff.mp (hullQ_le ne) x m)
  refine Nat.le_of_not_lt fun l => h ?_
  match hq : hullQ ps, can, i, l with
  | [], can, _, _ => exact absurd rfl can.ne
  | [p], _, i, _ =>
    have e1 : a = p := i a ha
    have e2 : b = p := i b hb
    rw [e1, e2, det_eq'']
  | [p, q], can, i, _ =>
    have e1 := (i a ha).1
    have e2 := (i b hb).1
    have e3 := (i c hc).1
    have pq := can.fst p [q] rfl q (by simp)
    have ne2 : q.x - p.x ≠ 0 ∨ q.y - p.y ≠ 0 := by unfold lt at pq; grind
    unfold det at e1 e2 e3 ⊢
    rcases ne2 with z | z
    · exact zm (b := q.x - p.x) (by grind) z
    · exact zm (b := q.y - p.y) (by grind) z
  | _ :: _ :: _ :: _, _, _, l => simp at l; omega
/-- whole points as data -/
abbrev zD (z : Int × Int) : D := V2 z.1 z.2
def zP (z : Int × Int) : Pt := ⟨z.1, z.2⟩
def Bz (n : Nat) (z : Int × Int) : Prop := B n z.1 ∧ B n z.2
theorem zD_row (z : Int × Int) : zD z = tupI [z.1, z.2] := rfl
theorem zDs (l : List (Int × Int)) : l.map zD = (l.map fun z => [z.1, z.2]).map tupI := by rw [List.map_map]; rfl
def rowZ : List Int → Int × Int
  | x :: y :: _ => (x, y)
  | _ => (0, 0)
theorem rowZ_D {n : Nat} {r : List Int} (h : Row2 n r) : zD (rowZ r) = tupI r ∧ zP (rowZ r) = toP 1 r ∧ Bz n (rowZ r) ∧ [(rowZ r).1, (rowZ r).2] = r := by
  obtain ⟨x, y, rfl, bx, by_⟩ := h
  refine ⟨rfl, ?_, ⟨bx, by_⟩, rfl⟩
  unfold zP rowZ toP
  simp only [Pt.mk.injEq]
  have : ((1 : Int) : Rat) = 1 := by norm_cast
  rw [this]
  constructor <;> grind
theorem toP_one (x y : Int) : toP 1 [x, y] = zP (x, y) := by
  unfold zP toP
  simp only [Pt.mk.injEq]
  have : ((1 : Int) : Rat) = 1 := by norm_cast
  rw [this]
  constructor <;> grind
theorem zP_inj {a b : Int × Int} (h : zP a = zP b) : a = b := by
  unfold zP at h
  simp only [Pt.mk.injEq] at h
  exact Prod.ext (by exact_mod_cast h.1) (by exact_mod_cast h.2)
/-- the corners of whole points, from rows -/
theorem rim_rows {zs : List (Int × Int)} {n : Nat} (ne : zs ≠ []) (bz : ∀ z ∈ zs, Bz n z) :
    ∃ R : List (List Int), R = sortL (nubL (zs.map fun z => [z.1, z.2])) ∧ (∀ r ∈ R, Row2 n r) ∧ R ≠ [] ∧ ∃ ws : List (Int × Int), (hulR R).map tupI = ws.map zD ∧ ws.map zP = hullQ (zs.map zP) ∧ (∀ w ∈ ws, w ∈ zs) := by
  have two : ∀ r ∈ sortL (nubL (zs.map fun z => [z.1, z.2])), Row2 n r := by
    intro r m
    obtain ⟨z, mz, rfl⟩ := List.mem_map.mp (nubL_mem.mp (sortL_mem.mp m))
    exact ⟨_, _, rfl, (bz z mz).1, (bz z mz).2⟩
  have hm : (hulR (sortL (nubL (zs.map fun z => [z.1, z.2])))).map (toP 1) = hullQ (zs.map zP) := by
    rw [hulR_map (by decide) two]
    refine hul_hullQ (rows_asc (by decide) two (sortL_sorted _) ?_) ?_ (by simpa using ne)
    · exact (sortL_perm _).nodup_iff.mpr (nubL_nodup _)
    · intro x
      constructor
      · intro m
        obtain ⟨r, mr, rfl⟩ := List.mem_map.mp m
        obtain ⟨z, mz, rfl⟩ := List.mem_map.mp (nubL_mem.mp (sortL_mem.mp mr))
        rw [toP_one]
        exact List.mem_map.mpr ⟨z, mz, rfl⟩
      · intro m
        obtain ⟨z, mz, rfl⟩ := List.mem_map.mp m
        exact List.mem_map.mpr ⟨[z.1, z.2], sortL_mem.mpr (nubL_mem.mpr (List.mem_map.mpr ⟨z, mz, rfl⟩)), toP_one z.1 z.2⟩
  refine ⟨_, rfl, two, ?_, (hulR (sortL (nubL (zs.map fun z => [z.1, z.2])))).map rowZ, ?_, ?_, ?_⟩
  · intro e
    cases zs with
    | nil => exact ne rfl
    | cons z zs =>
      have : [z.1, z.2] ∈ sortL (nubL ((z :: zs).map fun z => [z.1, z.2])) := sortL_mem.mpr (nubL_mem.mpr (by simp))
      rw [e] at this
      cases this
  · rw [List.map_map]
    refine List.map_congr_left fun r m => ?_
    exact (rowZ_D (two r (hulR_sub m))).1.symm
  · rw [← hm, List.map_map]
    refine List.map_congr_left fun r m => ?_
    exact (rowZ_D (two r (hulR_sub m))).2.1
  · intro w m
    obtain ⟨r, mr, rfl⟩ := List.mem_map.mp m
    have mr' := hulR_sub mr
    obtain ⟨z, mz, e⟩ := List.mem_map.mp (nubL_mem.mp (sortL_mem.mp mr'))
    rw [← e]
    exact mz
theorem v_o0 : V3 0 0 1 = vD o0 ∧ Bp 1 o0 := by
  have k := mkBp (n := 1) (a := 0) (b := 0) (c := 1) (p := o0) (by decide) (by unfold B; decide) (by unfold B; decide) (by unfold B; decide) (by simp [o0]) (by simp [o0])
  exact ⟨by rw [← k.1]; exact (lowT_one (by decide)).symm, k.2⟩
/-- a figure: corners in order, with an area, nought held, of a size that all functions take -/
structure Fig (n : Nat) (P : PL) : Prop where
  can : Can P
  l3 : 3 ≤ P.length
  l64 : P.length < 64
  bp : ∀ p ∈ P, Bp n p
  sz : n * (P.length + 1) < 8900 ∧ n < 2000
  in0 : In P o0
theorem Fig.pg {n : Nat} {P : PL} (f : Fig n P) : Pg P := ⟨f.can, f.l64, n, f.bp, f.sz.1, f.sz.2⟩
theorem hulR_two {R : List (List Int)} (h : R.length = 2) : hulR R = R := by
  match R, h with
  | [a, b], _ => rfl
end WV

open PySem L2
set_option Elab.async false
set_option linter.all false
set_option maxRecDepth 100000
set_option maxHeartbeats 2000000
/-! # boats of whole corners; shores in all winds -/
namespace WV
open PySem PySem.Spec PyProof.Rows L2 WF WP
theorem divOkW {n : Nat} {c s : Int} (h : c ≠ 0 ∨ s ≠ 0) (bc : B n c) (bs : B n s) (l : n < 8900) : DivOk (G2 c s) := by
  have g := g2_pos h
  have gB : B n (G2 c s) := by
    rcases h with z | z
    · exact B.nat (Nat.lt_of_le_of_lt (Nat.le_of_dvd (by omega) (Int.ofNat_dvd_left.mp (g2_d1 c s))) bc)
    · exact B.nat (Nat.lt_of_le_of_lt (Nat.le_of_dvd (by omega) (Int.ofNat_dvd_left.mp (g2_d2 c s))) bs)
  exact gB.divOk (by omega) (by omega)
/-- the shore in a wind, as the boat has it -/
def wnd (a b c s : Int) : Pt := ⟨((-a * c - b * s : Int) : Rat), ((a * s - b * c : Int) : Rat)⟩
def Hld (P : PL) (a b : Int) (v : Pt) (c s : Int) : Prop := dot ⟨a, b⟩ v ≤ 0 ∨ dot ⟨a, b⟩ v * dot ⟨a, b⟩ v * (c * c + s * s : Rat) ≤ supQ P (wnd a b c s) * supQ P (wnd a b c s)
theorem num_le0 (r : Rat) : r.num ≤ 0 ↔ r ≤ 0 := by
  have h1 := @Rat.num_nonneg (-r)
  have e : (-r).num = -r.num := Rat.neg_num r
  rw [e] at h1
  constructor
  · intro h
    have := h1.mp (by omega)
    grind
  · intro h
    have := h1.mpr (by grind)
    omega
theorem wnd_ne {a b c s : Int} (h : a ≠ 0 ∨ b ≠ 0) (h' : c ≠ 0 ∨ s ≠ 0) : (-a * c - b * s) ≠ 0 ∨ (a * s - b * c) ≠ 0 := by
  refine Classical.byContradiction fun z => ?_
  have z1 : -a * c - b * s = 0 := by omega
  have z2 : a * s - b * c = 0 := by omega
  have p : ∀ x : Int, x ≠ 0 → 0 < x * x := fun x z => by
    rcases Int.lt_or_gt_of_ne z with y | y
    · exact Int.mul_pos_of_neg_of_neg y y
    · exact Int.mul_pos y y
  have q : ∀ x : Int, 0 ≤ x * x := fun x => by
    rcases Int.le_total 0 x with h | h
    · exact Int.mul_nonneg h h
    · exact Int.mul_nonneg_of_nonpos_of_nonpos h h
  have s1 : 0 < a * a + b * b := by
    rcases h with z | z
    · have := p a z; have := q b; omega
    · have := p b z; have := q a; omega
  have s2 : 0 < c * c + s * s := by
    rcases h' with z | z
    · have := p c z; have := q s; omega
    · have := p s z; have := q c; omega
  have id : (a * a + b * b) * (c * c + s * s) = (-a * c - b * s) * (-a * c - b * s) + (a * s - b * c) * (a * s - b * c) := by grind
  rw [z1, z2] at id
  have := Int.mul_pos s1 s2
  omega
theorem le_sign {i j : Int} {q k : Rat} (h : (j : Rat) - i = q * k) (hk : 0 < k) : i ≤ j ↔ 0 ≤ q := by
  rw [← Rat.intCast_le_intCast]
  constructor
  · intro z
    exact WP.nm (b := k) (by grind) hk
  · intro z
    have := mn z (Rat.le_of_lt hk)
    grind
theorem anyM {α : Type} {f : α → Bool} (l : List α) : biE .any [.lst (l.map fun a => D.bl (f a))] = some (.bl (l.any f)) := by
  simp [blsM, Function.comp_def]
open Classical in
noncomputable def wOff (P : PL) (a b : Int) (v : Pt) : Str :=
  if dot ⟨a, b⟩ v ≤ 0 then "all" else if (∀ e ∈ edg P, dot ⟨a, b⟩ v * dot ⟨a, b⟩ v * nrm2 (outer e.1 e.2) ≤ (a * a + b * b : Rat) * (dot (outer e.1 e.2) e.1 * dot (outer e.1 e.2) e.1)) then "all" else if (∃ p ∈ P, dot ⟨a, b⟩ v * dot ⟨a, b⟩ v ≤ (a * a + b * b : Rat) * nrm2 p) then "some" else "none"
/-- a boat of the law: whole corners over a scale -/
structure Boat (ws : List (Int × Int)) (k : Int) : Prop where
  k1 : 1 ≤ k
  k3 : k ≤ 9
  can : Can (ws.map zP)
  l3 : 3 ≤ ws.length
  l9 : ws.length ≤ 9
  bz : ∀ w ∈ ws, Bz 10 w
  in0 : In (ws.map zP) o0
abbrev fig (ws : List (Int × Int)) (k : Int) : PL := ws.map fun w => mulP (1 / k) (zP w)
theorem fig_eq (ws : List (Int × Int)) (k : Int) : fig ws k = (ws.map zP).map (mulP (1 / k)) := by rw [List.map_map]; rfl
theorem rk {k : Int} (h : 1 ≤ k) : (0 : Rat) < 1 / k := by
  have kr := ratpos (show 0 < k by omega)
  have ne := ratne (show 0 < k by omega)
  exact pm (b := (k : Rat)) (by have : (1 : Rat) / k * k = 1 := by grind
                                rw [this]; decide) kr
theorem fig_bp {ws : List (Int × Int)} {k : Int} (b : Boat ws k) : ∀ p ∈ fig ws k, Bp 10 p := by
  intro p m
  obtain ⟨w, mw, rfl⟩ := List.mem_map.mp m
  have k1 := b.k1
  have k3 := b.k3
  have kr := ratne (show 0 < k by omega)
  exact (mkBp (show 0 < k by omega) (b.bz w mw).1 (b.bz w mw).2 (by unfold B; omega) (by unfold mulP zP; grind) (by unfold mulP zP; grind)).2
theorem Boat.fig {ws : List (Int × Int)} {k : Int} (b : Boat ws k) : Fig 10 (fig ws k) := by
  have l := b.l9
  have l3 := b.l3
  refine ⟨?_, by simpa using l3, by simp; omega, fig_bp b, ⟨?_, by decide⟩, ?_⟩
  · rw [fig_eq]; exact can_mul (rk b.k1) b.can
  · rw [List.length_map]
    have : 10 * (ws.length + 1) ≤ 10 * 10 := Nat.mul_le_mul_left 10 (by omega)
    omega
  · rw [fig_eq]; exact in0_mul (rk b.k1) b.can b.in0
theorem Boat.sup {ws : List (Int × Int)} {k : Int} (b : Boat ws k) (n : Pt) : supQ (WV.fig ws k) n = 1 / k * supQ (ws.map zP) n := by
  rw [fig_eq, sup_mul (rk b.k1) b.can.ne]
theorem hld_scale {P : PL} (ne : P ≠ []) {a b : Int} {v : Pt} {g c s : Int} (hg : 0 < g) : Hld P a b v (g * c) (g * s) ↔ Hld P a b v c s := by
  have gr := ratpos hg
  have e : wnd a b (g * c) (g * s) = ⟨(g : Rat) * (wnd a b c s).x, (g : Rat) * (wnd a b c s).y⟩ := by
    unfold wnd
    simp only [Pt.mk.injEq]
    constructor <;> (push_cast; grind)
  unfold Hld
  rw [e, supQ_scale ne gr]
  push_cast
  generalize supQ P (wnd a b c s) = S
  generalize dot ⟨a, b⟩ v = d
  have gg := mp gr gr
  constructor
  · rintro (h | h)
    · exact .inl h
    · right
      have := WP.nm (a := S * S - d * d * (c * c + s * s : Rat)) (b := (g : Rat) * g) (by grind) gg
      grind
  · rintro (h | h)
    · exact .inl h
    · right
      have := mn (a := S * S - d * d * (c * c + s * s : Rat)) (b := (g : Rat) * g) (by grind) (Rat.le_of_lt gg)
      grind
theorem q_pos {a b : Int} (h : a ≠ 0 ∨ b ≠ 0) : (0 : Rat) < a * a + b * b := by
  have := nrm2_pos (n := ⟨a, b⟩) (by rcases h with z | z; exact .inl (by show (a : Rat) ≠ 0; exact_mod_cast z); exact .inr (by show (b : Rat) ≠ 0; exact_mod_cast z))
  exact this
theorem hld_against {P : PL} (ne : P ≠ []) {a b : Int} (ab : a ≠ 0 ∨ b ≠ 0) {v : Pt} (x y : Int) : Hld P a b v (-a * x - b * y) (a * y - b * x) ↔ dot ⟨a, b⟩ v ≤ 0 ∨ dot ⟨a, b⟩ v * dot ⟨a, b⟩ v * nrm2 ⟨x, y⟩ ≤ (a * a + b * b : Rat) * (supQ P ⟨x, y⟩ * supQ P ⟨x, y⟩) := by
  have Q := q_pos ab
  have e : wnd a b (-a * x - b * y) (a * y - b * x) = ⟨(a * a + b * b : Rat) * (⟨x, y⟩ : Pt).x, (a * a + b * b : Rat) * (⟨x, y⟩ : Pt).y⟩ := by
    unfold wnd
    simp only [Pt.mk.injEq]
    constructor <;> (push_cast; grind)
  unfold Hld
  rw [e, supQ_scale ne Q]
  push_cast
  unfold nrm2
  simp only
  generalize supQ P ⟨x, y⟩ = S
  generalize dot ⟨a, b⟩ v = d
  constructor
  · rintro (h | h)
    · exact .inl h
    · right
      have := WP.nm (a := (a * a + b * b : Rat) * (S * S) - d * d * (x * x + y * y : Rat)) (b := (a * a + b * b : Rat)) (by grind) Q
      grind
  · rintro (h | h)
    · exact .inl h
    · right
      have := mn (a := (a * a + b * b : Rat) * (S * S) - d * d * (x * x + y * y : Rat)) (b := (a * a + b * b : Rat)) (by grind) (Rat.le_of_lt Q)
      grind
/-- the wind in which a way is against the shore -/
def aw (a b : Int) (z : Int × Int) : Int × Int := ((-a * z.1 - b * z.2) / (G2 (-a * z.1 - b * z.2) (a * z.2 - b * z.1) : Int), (a * z.2 - b * z.1) / (G2 (-a * z.1 - b * z.2) (a * z.2 - b * z.1) : Int))
theorem aw_D (a b : Int) (z : Int × Int) : low2T (-a * z.1 - b * z.2) (a * z.2 - b * z.1) = zD (aw a b z) := rfl
theorem low2_parts {c s : Int} (h : c ≠ 0 ∨ s ≠ 0) {n : Nat} (bc : B n c) (bs : B n s) : c = (G2 c s : Int) * (c / (G2 c s : Int)) ∧ s = (G2 c s : Int) * (s / (G2 c s : Int)) ∧ G2 (c / (G2 c s : Int)) (s / (G2 c s : Int)) = 1 ∧ (0 : Int) < G2 c s ∧ B n (c / (G2 c s : Int)) ∧ B n (s / (G2 c s : Int)) := by
  obtain ⟨x, y, e1, e2, l, d1, d2⟩ := low2 h
  have gp := g2_pos h
  have gp' : (0 : Int) < G2 c s := by omega
  rw [d1, d2]
  refine ⟨e1, e2, l, gp', ?_, ?_⟩
  · rw [← d1]; exact bc.div gp' (g2_d1 c s)
  · rw [← d2]; exact bs.div gp' (g2_d2 c s)
theorem aw_ok {a b : Int} (ab : a ≠ 0 ∨ b ≠ 0) {z : Int × Int} (hz : z.1 ≠ 0 ∨ z.2 ≠ 0) (ba : B 10 a) (bb : B 10 b) (bz : Bz 12 z) : G2 (aw a b z).1 (aw a b z).2 = 1 ∧ Bz 40 (aw a b z) ∧ ∀ (P : PL) (v : Pt), P ≠ [] → (Hld P a b v (aw a b z).1 (aw a b z).2 ↔ dot ⟨a, b⟩ v ≤ 0 ∨ dot ⟨a, b⟩ v * dot ⟨a, b⟩ v * nrm2 (zP z) ≤ (a * a + b * b : Rat) * (supQ P (zP z) * supQ P (zP z))) := by
  have ne := wnd_ne ab hz
  have p := low2_parts (n := 40) ne (((ba.neg.mul bz.1).sub (bb.mul bz.2)).mono (by omega)) (((ba.mul bz.2).sub (bb.mul bz.1)).mono (by omega))
  refine ⟨p.2.2.1, ⟨p.2.2.2.2.1, p.2.2.2.2.2⟩, fun P v hP => ?_⟩
  have h1 := hld_scale (P := P) hP (a := a) (b := b) (v := v) (c := (aw a b z).1) (s := (aw a b z).2) p.2.2.2.1
  rw [← h1]
  have e1 : (G2 (-a * z.1 - b * z.2) (a * z.2 - b * z.1) : Int) * (aw a b z).1 = -a * z.1 - b * z.2 := p.1.symm
  have e2 : (G2 (-a * z.1 - b * z.2) (a * z.2 - b * z.1) : Int) * (aw a b z).2 = a * z.2 - b * z.1 := p.2.1.symm
  rw [e1, e2]
  exact hld_against hP ab z.1 z.2
theorem ntp_map {f : Pt → Pt} {P : PL} {i : Nat} (h : i < P.length) : ntp (P.map f) i = f (ntp P i) := by
  unfold ntp
  rw [List.getD_eq_getElem?_getD, List.getD_eq_getElem?_getD, List.getElem?_map, List.getElem?_eq_getElem h]
  rfl
theorem edg_map {f : Pt → Pt} {P : PL} : edg (P.map f) = (edg P).map fun e => (f e.1, f e.2) := by
  unfold edg
  rw [List.map_map, List.length_map]
  refine List.map_congr_left fun i m => ?_
  have h := List.mem_range.mp m
  simp only [Function.comp]
  rw [ntp_map h, ntp_map (Nat.mod_lt _ (by omega))]
theorem prev_edge {P : PL} {Q : Pt → Pt → Prop} : (∀ i, i < P.length → Q (ntp P ((i + P.length - 1) % P.length)) (ntp P i)) ↔ ∀ e ∈ edg P, Q e.1 e.2 := by
  constructor
  · intro h e m
    obtain ⟨j, hj, rfl⟩ := List.mem_map.mp m
    have hj := List.mem_range.mp hj
    have := h ((j + 1) % P.length) (Nat.mod_lt _ (by omega))
    have e1 : ((j + 1) % P.length + P.length - 1) % P.length = j := by
      by_cases z : j + 1 < P.length
      · rw [Nat.mod_eq_of_lt z, show j + 1 + P.length - 1 = j + P.length by omega, Nat.add_mod_right, Nat.mod_eq_of_lt hj]
      · rw [show j + 1 = P.length by omega, Nat.mod_self, show 0 + P.length - 1 = j by omega, Nat.mod_eq_of_lt hj]
    rw [e1] at this
    exact this
  · intro h i hi
    have hz : (i + P.length - 1) % P.length < P.length := Nat.mod_lt _ (by omega)
    have := h _ (List.mem_map.mpr ⟨(i + P.length - 1) % P.length, List.mem_range.mpr hz, rfl⟩)
    have back : ((i + P.length - 1) % P.length + 1) % P.length = i := by
      by_cases z : i = 0
      · subst z
        rw [Nat.mod_eq_of_lt (show 0 + P.length - 1 < P.length by omega), show 0 + P.length - 1 + 1 = P.length by omega, Nat.mod_self]
      · rw [show i + P.length - 1 = (i - 1) + P.length by omega, Nat.add_mod_right, Nat.mod_eq_of_lt (show i - 1 < P.length by omega), show i - 1 + 1 = i by omega, Nat.mod_eq_of_lt hi]
    rw [back] at this
    exact this
abbrev zt (ws : List (Int × Int)) (i : Nat) : Int × Int := ws.getD i (0, 0)
theorem zt_P {ws : List (Int × Int)} {i : Nat} (h : i < ws.length) : zP (zt ws i) = ntp (ws.map zP) i ∧ zt ws i ∈ ws := by
  unfold ntp zt
  rw [List.getD_eq_getElem?_getD, List.getD_eq_getElem?_getD, List.getElem?_map, List.getElem?_eq_getElem h]
  exact ⟨rfl, List.getElem_mem h⟩
/-- the way of an edge, turned outwards -/
def ow (ws : List (Int × Int)) (i : Nat) : Int × Int := ((zt ws i).2 - (zt ws ((i + ws.length - 1) % ws.length)).2, (zt ws ((i + ws.length - 1) % ws.length)).1 - (zt ws i).1)
theorem ow_P {ws : List (Int × Int)} {i : Nat} (h : i < ws.length) : zP (ow ws i) = outer (ntp (ws.map zP) ((i + ws.length - 1) % ws.length)) (ntp (ws.map zP) i) := by
  have h2 : (i + ws.length - 1) % ws.length < ws.length := Nat.mod_lt _ (by omega)
  rw [← (zt_P h).1, ← (zt_P h2).1]
  unfold ow outer zP
  simp only [Pt.mk.injEq]
  constructor <;> (push_cast; grind)
theorem ow_ne {ws : List (Int × Int)} (c : Can (ws.map zP)) (l2 : 2 ≤ ws.length) {i : Nat} (h : i < ws.length) : (ow ws i).1 ≠ 0 ∨ (ow ws i).2 ≠ 0 := by
  have pe := (prev_edge (P := ws.map zP) (Q := fun u v => u ≠ v)).mpr (fun e me => (edg_ne c (by simpa using l2) me).1) i (by simpa using h)
  rw [List.length_map] at pe
  have o := outer_ne pe
  rw [← ow_P h] at o
  unfold zP at o
  rcases o with z | z
  · exact .inl fun e => z (by simp [e])
  · exact .inr fun e => z (by simp [e])
theorem ow_B {ws : List (Int × Int)} (bz : ∀ w ∈ ws, Bz 10 w) {i : Nat} (h : i < ws.length) : Bz 12 (ow ws i) := by
  have h2 : (i + ws.length - 1) % ws.length < ws.length := Nat.mod_lt _ (by omega)
  have b1 := bz _ (zt_P h).2
  have b2 := bz _ (zt_P h2).2
  exact ⟨(b1.2.sub b2.2).mono (by omega), (b2.1.sub b1.1).mono (by omega)⟩
theorem zne {w : Int × Int} : (w.1 ≠ 0 ∨ w.2 ≠ 0) ↔ zP w ≠ o0 := by
  constructor
  · intro h e
    unfold zP o0 at e
    simp only [Pt.mk.injEq] at e
    have a : w.1 = 0 := by exact_mod_cast e.1
    have b : w.2 = 0 := by exact_mod_cast e.2
    omega
  · intro h
    refine Classical.byContradiction fun z => h ?_
    have a : w.1 = 0 := by omega
    have b : w.2 = 0 := by omega
    unfold zP o0
    rw [a, b]
    simp
theorem worst_iff {ws : List (Int × Int)} {k a b : Int} (bt : Boat ws k) (ab : a ≠ 0 ∨ b ≠ 0) (ba : B 10 a) (bb : B 10 b) (v : Pt) : (∀ i, i < ws.length → Hld (fig ws k) a b v (aw a b (ow ws i)).1 (aw a b (ow ws i)).2) ↔ dot ⟨a, b⟩ v ≤ 0 ∨ ∀ e ∈ edg (fig ws k), dot ⟨a, b⟩ v * dot ⟨a, b⟩ v * nrm2 (outer e.1 e.2) ≤ (a * a + b * b : Rat) * (dot (outer e.1 e.2) e.1 * dot (outer e.1 e.2) e.1) := by
  have F := bt.fig
  have l3 := bt.l3
  have one : ∀ i, i < ws.length → (Hld (fig ws k) a b v (aw a b (ow ws i)).1 (aw a b (ow ws i)).2 ↔ dot ⟨a, b⟩ v ≤ 0 ∨ dot ⟨a, b⟩ v * dot ⟨a, b⟩ v * nrm2 (zP (ow ws i)) ≤ (a * a + b * b : Rat) * (supQ (fig ws k) (zP (ow ws i)) * supQ (fig ws k) (zP (ow ws i)))) := fun i h =>
    (aw_ok ab (ow_ne bt.can (by omega) h) ba bb (ow_B bt.bz h)).2.2 _ v F.can.ne
  have t0 := rk bt.k1
  have edge : (∀ i, i < ws.length → dot ⟨a, b⟩ v * dot ⟨a, b⟩ v * nrm2 (zP (ow ws i)) ≤ (a * a + b * b : Rat) * (supQ (fig ws k) (zP (ow ws i)) * supQ (fig ws k) (zP (ow ws i)))) ↔ ∀ e ∈ edg (fig ws k), dot ⟨a, b⟩ v * dot ⟨a, b⟩ v * nrm2 (outer e.1 e.2) ≤ (a * a + b * b : Rat) * (dot (outer e.1 e.2) e.1 * dot (outer e.1 e.2) e.1) := by
    have p1 := prev_edge (P := ws.map zP) (Q := fun u w => dot ⟨a, b⟩ v * dot ⟨a, b⟩ v * nrm2 (outer u w) ≤ (a * a + b * b : Rat) * (supQ (fig ws k) (outer u w) * supQ (fig ws k) (outer u w)))
    rw [List.length_map] at p1
    have p0 : (∀ i, i < ws.length → dot ⟨a, b⟩ v * dot ⟨a, b⟩ v * nrm2 (zP (ow ws i)) ≤ (a * a + b * b : Rat) * (supQ (fig ws k) (zP (ow ws i)) * supQ (fig ws k) (zP (ow ws i)))) ↔ ∀ i, i < ws.length → dot ⟨a, b⟩ v * dot ⟨a, b⟩ v * nrm2 (outer (ntp (ws.map zP) ((i + ws.length - 1) % ws.length)) (ntp (ws.map zP) i)) ≤ (a * a + b * b : Rat) * (supQ (fig ws k) (outer (ntp (ws.map zP) ((i + ws.length - 1) % ws.length)) (ntp (ws.map zP) i)) * supQ (fig ws k) (outer (ntp (ws.map zP) ((i + ws.length - 1) % ws.length)) (ntp (ws.map zP) i))) := by
      constructor
      · intro h i hi
        rw [← ow_P hi]
        exact h i hi
      · intro h i hi
        rw [ow_P hi]
        exact h i hi
    rw [p0, p1]
    have em : edg (fig ws k) = (edg (ws.map zP)).map fun e => (mulP (1 / k) e.1, mulP (1 / k) e.2) := by rw [fig_eq, edg_map]
    have step : ∀ e ∈ edg (ws.map zP), (dot ⟨a, b⟩ v * dot ⟨a, b⟩ v * nrm2 (outer e.1 e.2) ≤ (a * a + b * b : Rat) * (supQ (fig ws k) (outer e.1 e.2) * supQ (fig ws k) (outer e.1 e.2)) ↔ dot ⟨a, b⟩ v * dot ⟨a, b⟩ v * nrm2 (outer (mulP (1 / k) e.1) (mulP (1 / k) e.2)) ≤ (a * a + b * b : Rat) * (dot (outer (mulP (1 / k) e.1) (mulP (1 / k) e.2)) (mulP (1 / k) e.1) * dot (outer (mulP (1 / k) e.1) (mulP (1 / k) e.2)) (mulP (1 / k) e.1))) := by
      intro e me
      have me' : (mulP (1 / k) e.1, mulP (1 / k) e.2) ∈ edg (fig ws k) := by rw [em]; exact List.mem_map.mpr ⟨e, me, rfl⟩
      have se := sup_edge F.can F.l3 me'
      simp only at se
      rw [← se]
      have oe : outer (mulP (1 / k) e.1) (mulP (1 / k) e.2) = ⟨1 / k * (outer e.1 e.2).x, 1 / k * (outer e.1 e.2).y⟩ := by
        unfold outer mulP
        simp only [Pt.mk.injEq]
        constructor <;> grind
      rw [oe, supQ_scale F.can.ne t0]
      unfold nrm2
      simp only
      generalize supQ (fig ws k) (outer e.1 e.2) = S
      generalize dot ⟨a, b⟩ v = d
      generalize (1 : Rat) / k = t at *
      have tt := mp t0 t0
      constructor
      · intro h
        have := mn (a := (a * a + b * b : Rat) * (S * S) - d * d * ((outer e.1 e.2).x * (outer e.1 e.2).x + (outer e.1 e.2).y * (outer e.1 e.2).y)) (b := t * t) (by grind) (Rat.le_of_lt tt)
        grind
      · intro h
        have := WP.nm (a := (a * a + b * b : Rat) * (S * S) - d * d * ((outer e.1 e.2).x * (outer e.1 e.2).x + (outer e.1 e.2).y * (outer e.1 e.2).y)) (b := t * t) (by grind) tt
        grind
    rw [em, List.forall_mem_map]
    exact ⟨fun h e me => (step e me).mp (h e me), fun h e me => (step e me).mpr (h e me)⟩
  constructor
  · intro h
    by_cases z : dot ⟨a, b⟩ v ≤ 0
    · exact .inl z
    · exact .inr (edge.mp fun i hi => ((one i hi).mp (h i hi)).resolve_left z)
  · rintro (h | h) i hi
    · exact (one i hi).mpr (.inl h)
    · exact (one i hi).mpr (.inr (edge.mpr h i hi))

theorem wnd_nrm (a b c s : Int) : nrm2 (wnd a b c s) = (a * a + b * b : Rat) * (c * c + s * s : Rat) := by
  unfold nrm2 wnd
  push_cast
  grind
theorem best_iff {ws : List (Int × Int)} {k a b : Int} (bt : Boat ws k) (ab : a ≠ 0 ∨ b ≠ 0) (ba : B 10 a) (bb : B 10 b) (v : Pt) (d0 : ¬ dot ⟨a, b⟩ v ≤ 0) : (∃ w ∈ ws, (w.1 ≠ 0 ∨ w.2 ≠ 0) ∧ Hld (fig ws k) a b v (aw a b w).1 (aw a b w).2) ↔ ∃ p ∈ fig ws k, dot ⟨a, b⟩ v * dot ⟨a, b⟩ v ≤ (a * a + b * b : Rat) * nrm2 p := by
  have F := bt.fig
  have t0 := rk bt.k1
  have Q := q_pos ab
  have one : ∀ w ∈ ws, (w.1 ≠ 0 ∨ w.2 ≠ 0) → (Hld (fig ws k) a b v (aw a b w).1 (aw a b w).2 ↔ dot ⟨a, b⟩ v * dot ⟨a, b⟩ v * nrm2 (zP w) ≤ (a * a + b * b : Rat) * (supQ (fig ws k) (zP w) * supQ (fig ws k) (zP w))) := fun w m nz => by
    have := (aw_ok ab nz ba bb ⟨(bt.bz w m).1.mono (by omega), (bt.bz w m).2.mono (by omega)⟩).2.2 (fig ws k) v F.can.ne
    rw [this]
    exact ⟨fun h => h.resolve_left d0, .inr⟩
  generalize dot ⟨a, b⟩ v = d at *
  have dp : 0 < d * d := mp (by grind) (by grind)
  constructor
  · rintro ⟨w, mw, nz, hw⟩
    have h := (one w mw nz).mp hw
    obtain ⟨q, mq, eq⟩ := supQ_mem F.can.ne (zP w)
    refine ⟨q, mq, ?_⟩
    rw [← eq] at h
    have cs := cauchy (zP w) q
    have np : 0 < nrm2 (zP w) := nrm2_pos (by
      rcases nz with z | z
      · left; unfold zP; simp only; exact_mod_cast z
      · right; unfold zP; simp only; exact_mod_cast z)
    have k1 := mn (Rat.le_of_lt Q) (b := nrm2 (zP w) * nrm2 q - dot (zP w) q * dot (zP w) q) (by grind)
    have := WP.nm (a := (a * a + b * b : Rat) * nrm2 q - d * d) (b := nrm2 (zP w)) (by grind) np
    grind
  · rintro ⟨p, mp', h⟩
    obtain ⟨w, mw, rfl⟩ := List.mem_map.mp mp'
    have nz : w.1 ≠ 0 ∨ w.2 ≠ 0 := by
      rw [zne]
      intro e
      rw [e] at h
      have : nrm2 (mulP (1 / k) o0) = 0 := by unfold nrm2 mulP o0; grind
      rw [this] at h
      grind
    refine ⟨w, mw, nz, (one w mw nz).mpr ?_⟩
    have le := supQ_le (n := zP w) mp'
    have e1 : dot (zP w) (mulP (1 / k) (zP w)) = 1 / k * nrm2 (zP w) := by unfold dot mulP nrm2; grind
    have e2 : nrm2 (mulP (1 / k) (zP w)) = 1 / k * (1 / k) * nrm2 (zP w) := by unfold mulP nrm2; grind
    rw [e1] at le
    rw [e2] at h
    have n0 := nrm2_nonneg (zP w)
    generalize (1 : Rat) / k = t at *
    generalize supQ (fig ws k) (zP w) = S at *
    generalize nrm2 (zP w) = N at *
    have tn := mn (Rat.le_of_lt t0) n0
    have S0 : 0 ≤ S := by grind
    have k0 := (sq_le tn S0).mp le
    have k1 := mn (Rat.le_of_lt Q) (b := S * S - t * N * (t * N)) (by grind)
    have k2 := mn (a := (a * a + b * b : Rat) * (t * t * N) - d * d) (b := N) (by grind) n0
    grind
theorem all_held {P : PL} {n : Nat} (f : Fig n P) {a b : Int} (ab : a ≠ 0 ∨ b ≠ 0) {v : Pt} (h : ∀ e ∈ edg P, dot ⟨a, b⟩ v * dot ⟨a, b⟩ v * nrm2 (outer e.1 e.2) ≤ (a * a + b * b : Rat) * (dot (outer e.1 e.2) e.1 * dot (outer e.1 e.2) e.1)) (c s : Int) : Hld P a b v c s := by
  right
  have Q := q_pos ab
  generalize dot ⟨a, b⟩ v = d at *
  have Qn : (a * a + b * b : Rat) ≠ 0 := by grind
  have eK : d * d / (a * a + b * b : Rat) * (a * a + b * b : Rat) = d * d := by grind
  have K0 : 0 ≤ d * d / (a * a + b * b : Rat) := WP.nm (b := (a * a + b * b : Rat)) (by rw [eK]; exact sq_nonneg d) Q
  have := disc f.can f.l3 f.in0 K0 (fun e me => by
    have he := h e me
    rw [← eK] at he
    generalize d * d / (a * a + b * b : Rat) = K at *
    have := WP.nm (a := dot (outer e.1 e.2) e.1 * dot (outer e.1 e.2) e.1 - K * nrm2 (outer e.1 e.2)) (b := (a * a + b * b : Rat)) (by grind) Q
    grind) (wnd a b c s)
  rw [wnd_nrm] at this
  have e2 : d * d / (a * a + b * b : Rat) * ((a * a + b * b : Rat) * (c * c + s * s : Rat)) = d * d * (c * c + s * s : Rat) := by
    have : d * d / (a * a + b * b : Rat) * ((a * a + b * b : Rat) * (c * c + s * s : Rat)) = (d * d / (a * a + b * b : Rat) * (a * a + b * b : Rat)) * (c * c + s * s : Rat) := by grind
    rw [this, eK]
  rw [e2] at this
  exact this
theorem none_held {P : PL} {n : Nat} (f : Fig n P) {a b : Int} (ab : a ≠ 0 ∨ b ≠ 0) {v : Pt} (d0 : ¬ dot ⟨a, b⟩ v ≤ 0) (h : ¬ ∃ p ∈ P, dot ⟨a, b⟩ v * dot ⟨a, b⟩ v ≤ (a * a + b * b : Rat) * nrm2 p) {c s : Int} (cs : c ≠ 0 ∨ s ≠ 0) : ¬ Hld P a b v c s := by
  rintro (z | z)
  · exact d0 z
  · have R := q_pos cs
    have Q := q_pos ab
    obtain ⟨p, mp', e⟩ := supQ_mem f.can.ne (wnd a b c s)
    refine h ⟨p, mp', ?_⟩
    have ca := cauchy (wnd a b c s) p
    rw [wnd_nrm, e] at ca
    generalize dot ⟨a, b⟩ v = d at *
    have := WP.nm (a := (a * a + b * b : Rat) * nrm2 p - d * d) (b := (c * c + s * s : Rat)) (by grind) R
    grind
open Classical in
theorem verdict {ws : List (Int × Int)} {k a b : Int} (bt : Boat ws k) (ab : a ≠ 0 ∨ b ≠ 0) (ba : B 10 a) (bb : B 10 b) (v : Pt) :
    (if (∀ i, i < ws.length → Hld (fig ws k) a b v (aw a b (ow ws i)).1 (aw a b (ow ws i)).2) then "all" else if (∃ w ∈ ws, (w.1 ≠ 0 ∨ w.2 ≠ 0) ∧ Hld (fig ws k) a b v (aw a b w).1 (aw a b w).2) then "some" else "none" : Str) = wOff (fig ws k) a b v := by
  unfold wOff
  by_cases d0 : dot ⟨a, b⟩ v ≤ 0
  · rw [if_pos d0, if_pos ((worst_iff bt ab ba bb v).mpr (.inl d0))]
  · rw [if_neg d0]
    by_cases za : ∀ e ∈ edg (fig ws k), dot ⟨a, b⟩ v * dot ⟨a, b⟩ v * nrm2 (outer e.1 e.2) ≤ (a * a + b * b : Rat) * (dot (outer e.1 e.2) e.1 * dot (outer e.1 e.2) e.1)
    · rw [if_pos za, if_pos ((worst_iff bt ab ba bb v).mpr (.inr za))]
    · rw [if_neg za, if_neg (fun h => za (((worst_iff bt ab ba bb v).mp h).resolve_left d0))]
      by_cases zb : ∃ p ∈ fig ws k, dot ⟨a, b⟩ v * dot ⟨a, b⟩ v ≤ (a * a + b * b : Rat) * nrm2 p
      · rw [if_pos zb, if_pos ((best_iff bt ab ba bb v d0).mpr zb)]
      · rw [if_neg zb, if_neg (fun h => zb ((best_iff bt ab ba bb v d0).mp h))]
/-- what the verdict says of any wind -/
theorem off_says {P : PL} {n : Nat} (f : Fig n P) {a b : Int} (ab : a ≠ 0 ∨ b ≠ 0) (v : Pt) {c s : Int} (cs : c ≠ 0 ∨ s ≠ 0) : (wOff P a b v = "all" → Hld P a b v c s) ∧ (wOff P a b v = "none" → ¬ Hld P a b v c s) ∧ (wOff P a b v = "all" ∨ wOff P a b v = "some" ∨ wOff P a b v = "none") := by
  unfold wOff
  by_cases d0 : dot ⟨a, b⟩ v ≤ 0
  · rw [if_pos d0]
    exact ⟨fun _ => .inl d0, fun h => absurd h (by decide), .inl rfl⟩
  · rw [if_neg d0]
    by_cases za : ∀ e ∈ edg P, dot ⟨a, b⟩ v * dot ⟨a, b⟩ v * nrm2 (outer e.1 e.2) ≤ (a * a + b * b : Rat) * (dot (outer e.1 e.2) e.1 * dot (outer e.1 e.2) e.1)
    · rw [if_pos za]
      exact ⟨fun _ => all_held f ab za c s, fun h => absurd h (by decide), .inl rfl⟩
    · rw [if_neg za]
      by_cases zb : ∃ p ∈ P, dot ⟨a, b⟩ v * dot ⟨a, b⟩ v ≤ (a * a + b * b : Rat) * nrm2 p
      · rw [if_pos zb]
        exact ⟨fun h => absurd h (by decide), fun h => absurd h (by decide), .inr (.inl rfl)⟩
      · rw [if_neg zb]
        exact ⟨fun h => absurd h (by decide), fun _ => none_held f ab d0 zb cs, .inr (.inr rfl)⟩

theorem at_zt {ws : List (Int × Int)} {i : Nat} (h : i < ws.length) : atI (ws.map zD) (i : Int) = some (zD (zt ws i)) := by
  have h' : (i : Int) < (ws.length : Int) := by omega
  simp only [atI_def, ixN_def, List.length_map]
  rw [if_pos (by omega), if_pos h']
  simp [zt, List.getElem?_eq_getElem h]
theorem at_prev {ws : List (Int × Int)} {i : Nat} (h : i < ws.length) : atI (ws.map zD) ((i : Int) - 1) = some (zD (zt ws ((i + ws.length - 1) % ws.length))) := by
  by_cases z : i = 0
  · subst z
    have e : (0 + ws.length - 1) % ws.length = ws.length - 1 := by rw [Nat.mod_eq_of_lt (by omega)]; omega
    rw [e]
    simp only [atI_def, ixN_def, List.length_map]
    rw [if_neg (by omega), if_pos (by omega)]
    have : (((0 : Nat) : Int) - 1 + (ws.length : Int)).toNat = ws.length - 1 := by omega
    rw [this]
    have hl : ws.length - 1 < ws.length := by omega
    simp [zt, List.getElem?_eq_getElem hl]
  · have e : (i + ws.length - 1) % ws.length = i - 1 := by rw [show i + ws.length - 1 = (i - 1) + ws.length by omega, Nat.add_mod_right, Nat.mod_eq_of_lt (by omega)]
    rw [e]
    have := at_zt (ws := ws) (i := i - 1) (by omega)
    rw [show (((i - 1 : Nat) : Nat) : Int) = (i : Int) - 1 by omega] at this
    exact this
end WV

set_option Elab.async false
set_option linter.all false
set_option maxHeartbeats 1000000
/-! # the least time in which a figure makes a way -/
namespace WP
open List WV
/-- the least time of the way v: none where it cannot be made -/
def IsT (P : PL) (v : Pt) : Option Rat → Prop
  | none => ∃ s ∈ sidesQ P, s.2 = 0 ∧ 0 < dot s.1 v
  | some t => 0 ≤ t ∧ (∀ s ∈ sidesQ P, dot s.1 v ≤ t * s.2) ∧ (t = 0 ∨ ∃ s ∈ sidesQ P, 0 < s.2 ∧ dot s.1 v = t * s.2)
theorem side_nn {P : PL} (c : Can P) (h : In P o0) {s : Pt × Rat} (m : s ∈ sidesQ P) : 0 ≤ s.2 := by
  have := (held_in c).mpr h s m
  have e : dot s.1 o0 = 0 := by unfold dot o0; grind
  grind
theorem isT_le {P : PL} (c : Can P) (h0 : In P o0) {v : Pt} {t u : Rat} (h : IsT P v (some t)) (hu : 0 ≤ u) (hs : ∀ s ∈ sidesQ P, dot s.1 v ≤ u * s.2) : t ≤ u := by
  obtain ⟨t0, _, t2⟩ := h
  rcases t2 with rfl | ⟨s, ms, sp, e⟩
  · exact hu
  · have := hs s ms
    rw [e] at this
    refine Rat.not_lt.mp fun z => ?_
    have := mp (a := t - u) (b := s.2) (by grind) sp
    grind
theorem isT_uniq {P : PL} (c : Can P) (h0 : In P o0) {v : Pt} : ∀ {r r' : Option Rat}, IsT P v r → IsT P v r' → r = r'
  | none, none, _, _ => rfl
  | none, some t, ⟨s, ms, z, p⟩, ⟨_, h, _⟩ => by
    have := h s ms
    rw [z] at this
    grind
  | some t, none, ⟨_, h, _⟩, ⟨s, ms, z, p⟩ => by
    have := h s ms
    rw [z] at this
    grind
  | some t, some u, h, h' => by
    have a := isT_le c h0 h h'.1 h'.2.1
    have b := isT_le c h0 h' h.1 h.2.1
    congr 1
    grind
theorem isT_exL {v : Pt} : ∀ (S : List (Pt × Rat)), (∀ s ∈ S, 0 ≤ s.2) → (∃ s ∈ S, s.2 = 0 ∧ 0 < dot s.1 v) ∨ ∃ t, 0 ≤ t ∧ (∀ s ∈ S, dot s.1 v ≤ t * s.2) ∧ (t = 0 ∨ ∃ s ∈ S, 0 < s.2 ∧ dot s.1 v = t * s.2)
  | [], _ => .inr ⟨0, Rat.le_refl, by simp, .inl rfl⟩
  | s :: S, h => by
    have s0 := h s List.mem_cons_self
    rcases isT_exL (v := v) S (fun x m => h x (List.mem_cons_of_mem _ m)) with ⟨x, m, z⟩ | ⟨t, t0, t1, t2⟩
    · exact .inl ⟨x, List.mem_cons_of_mem _ m, z⟩
    · by_cases z : s.2 = 0
      · by_cases y : 0 < dot s.1 v
        · exact .inl ⟨s, List.mem_cons_self, z, y⟩
        · refine .inr ⟨t, t0, fun x m => ?_, t2.imp id fun ⟨x, m, w⟩ => ⟨x, List.mem_cons_of_mem _ m, w⟩⟩
          rcases List.mem_cons.mp m with rfl | m
          · rw [z]; grind
          · exact t1 x m
      · have sp : 0 < s.2 := by grind
        by_cases y : dot s.1 v ≤ t * s.2
        · refine .inr ⟨t, t0, fun x m => ?_, t2.imp id fun ⟨x, m, w⟩ => ⟨x, List.mem_cons_of_mem _ m, w⟩⟩
          rcases List.mem_cons.mp m with rfl | m
          · exact y
          · exact t1 x m
        · have e : dot s.1 v / s.2 * s.2 = dot s.1 v := by grind
          have lt : t < dot s.1 v / s.2 := by
            refine Rat.not_le.mp fun q => y ?_
            have := mn (a := t - dot s.1 v / s.2) (b := s.2) (by grind) s0
            grind
          refine .inr ⟨dot s.1 v / s.2, by grind, fun x m => ?_, .inr ⟨s, List.mem_cons_self, sp, e.symm⟩⟩
          rcases List.mem_cons.mp m with rfl | m
          · rw [e]; exact Rat.le_refl
          · have a := t1 x m
            have b := mn (a := dot s.1 v / s.2 - t) (b := x.2) (by grind) (h x (List.mem_cons_of_mem _ m))
            grind
theorem isT_ex {P : PL} (c : Can P) (h0 : In P o0) (v : Pt) : ∃ r, IsT P v r := by
  rcases isT_exL (v := v) (sidesQ P) (fun s m => side_nn c h0 m) with h | ⟨t, h⟩
  · exact ⟨none, h⟩
  · exact ⟨some t, h⟩
noncomputable def timeQ (P : PL) (v : Pt) : Option Rat := by
  classical
  exact if h : ∃ r, IsT P v r then h.choose else none
theorem timeQ_is {P : PL} (c : Can P) (h0 : In P o0) (v : Pt) : IsT P v (timeQ P v) := by
  unfold timeQ
  rw [dif_pos (isT_ex c h0 v)]
  exact (isT_ex c h0 v).choose_spec
theorem timeQ_eq {P : PL} (c : Can P) (h0 : In P o0) {v : Pt} {r : Option Rat} (h : IsT P v r) : timeQ P v = r := isT_uniq c h0 (timeQ_is c h0 v) h
/-- a velocity is held just if its time is at most 1 -/
theorem in_time {P : PL} (c : Can P) (h0 : In P o0) {v : Pt} : In P v ↔ ∃ t, timeQ P v = some t ∧ t ≤ 1 := by
  constructor
  · intro h
    have hs := (held_in c).mpr h
    match ht : timeQ P v, timeQ_is c h0 v with
    | none, hh =>
      obtain ⟨s, ms, z, p⟩ := hh
      have := hs s ms
      grind
    | some t, hh => exact ⟨t, rfl, isT_le c h0 hh (by decide) (fun s ms => by have := hs s ms; grind)⟩
  · rintro ⟨t, e, t1⟩
    have hh := timeQ_is c h0 v
    rw [e] at hh
    refine (held_in c).mp fun s ms => ?_
    have a := hh.2.1 s ms
    have b := mn (a := 1 - t) (b := s.2) (by grind) (side_nn c h0 ms)
    grind
/-- a way made of two held velocities -/
theorem time_cone {P : PL} (c : Can P) (h0 : In P o0) {p q : Pt} (hp : In P p) (hq : In P q) {s t : Rat} (s0 : 0 ≤ s) (t0 : 0 ≤ t) : ∃ u, timeQ P ⟨s * p.x + t * q.x, s * p.y + t * q.y⟩ = some u ∧ u ≤ s + t := by
  have hs : ∀ x ∈ sidesQ P, dot x.1 ⟨s * p.x + t * q.x, s * p.y + t * q.y⟩ ≤ (s + t) * x.2 := by
    intro x mx
    have a := (held_in c).mpr hp x mx
    have b := (held_in c).mpr hq x mx
    have k1 := mn s0 (b := x.2 - dot x.1 p) (by grind)
    have k2 := mn t0 (b := x.2 - dot x.1 q) (by grind)
    have e : dot x.1 ⟨s * p.x + t * q.x, s * p.y + t * q.y⟩ = s * dot x.1 p + t * dot x.1 q := by unfold dot; grind
    rw [e]
    grind
  match ht : timeQ P ⟨s * p.x + t * q.x, s * p.y + t * q.y⟩, timeQ_is c h0 ⟨s * p.x + t * q.x, s * p.y + t * q.y⟩ with
  | none, hh =>
    obtain ⟨x, mx, z, y⟩ := hh
    have := hs x mx
    rw [z] at this
    grind
  | some u, hh => exact ⟨u, rfl, isT_le c h0 hh (by grind) hs⟩
theorem corner_in {P : PL} (c : Can P) {p : Pt} (m : p ∈ P) : In P p := (in_iff c).mpr (Le.of_sub fun a ma => by rw [List.mem_singleton.mp ma]; exact m)
/-- an edge seen from nought with nought to its left -/
theorem edge_pos {P : PL} (c : Can P) (l3 : 3 ≤ P.length) (h0 : In P o0) : ∃ e ∈ edg P, 0 < cr e.1 e.2 := by
  refine Classical.byContradiction fun h => ?_
  have nn : ∀ e ∈ edg P, cr e.1 e.2 = 0 := fun e me => by
    have a := (edC_iff.mp ((in3 l3).mp h0)) e me
    have b : det e.1 e.2 o0 = cr e.1 e.2 := by unfold det cr o0; grind
    refine Classical.byContradiction fun z => h ⟨e, me, ?_⟩
    grind
  obtain ⟨p, mp'⟩ : ∃ p, p ∈ P := by
    cases P with
    | nil => simp at l3
    | cons a t => exact ⟨a, List.mem_cons_self⟩
  obtain ⟨z, y, h1, h2, d, mz, my⟩ := round c l3 mp'
  obtain ⟨z2, y2, h3, h4, d2, mz2, my2⟩ := round c l3 my
  have a1 := nn _ h1
  have a2 := nn _ h2
  have a4 := nn _ h4
  simp only at a1 a2 a4
  by_cases pz : p.x = 0 ∧ p.y = 0
  · -- nought is the corner: the next edge
    have e : det p y y2 = 0 := by
      have : det p y y2 = cr y y2 - cr p y2 + cr p y := by unfold det cr; grind
      rw [this, a4, a2]
      unfold cr
      rw [pz.1, pz.2]
      grind
    have z2p : z2 = p := by
      -- both are the corner behind y
      refine Classical.byContradiction fun ne => ?_
      have f1 := (edC_iff.mp (edC_self c.tri mz2)) (p, y) h2
      have f2 := (edC_iff.mp (edC_self c.tri mp')) (z2, y) h3
      simp only at f1 f2
      have e0 : det p y z2 = 0 := by
        have : det z2 y p = -det p y z2 := by unfold det; grind
        grind
      obtain ⟨i, hi, ei⟩ := List.mem_map.mp h2
      obtain ⟨j, hj, ej⟩ := List.mem_map.mp h3
      have hi := List.mem_range.mp hi
      have hj := List.mem_range.mp hj
      simp only [Prod.mk.injEq] at ei ej
      have nd := can_nodup c
      have inj : ∀ {u v : Nat}, u < P.length → v < P.length → ntp P u = ntp P v → u = v := by
        intro u v hu hv e
        unfold ntp at e
        rw [List.getD_eq_getElem?_getD, List.getD_eq_getElem?_getD, List.getElem?_eq_getElem hu, List.getElem?_eq_getElem hv] at e
        simp only [Option.getD_some] at e
        have pw := List.pairwise_iff_getElem.mp nd
        rcases Nat.lt_trichotomy u v with w | w | w
        · exact absurd e (pw u v hu hv w)
        · exact w
        · exact absurd e.symm (pw v u hv hu w)
      have ij := inj (Nat.mod_lt _ (by omega)) (Nat.mod_lt _ (by omega)) (ei.2.trans ej.2.symm)
      have : i = j := by
        by_cases w : i + 1 < P.length
        · by_cases w2 : j + 1 < P.length
          · rw [Nat.mod_eq_of_lt w, Nat.mod_eq_of_lt w2] at ij; omega
          · rw [Nat.mod_eq_of_lt w, show j + 1 = P.length by omega, Nat.mod_self] at ij; omega
        · by_cases w2 : j + 1 < P.length
          · rw [Nat.mod_eq_of_lt w2, show i + 1 = P.length by omega, Nat.mod_self] at ij; omega
          · omega
      subst this
      exact ne (ej.1.symm.trans ei.1)
    rw [z2p] at d2
    grind
  · have e : det z p y = 0 := by
      have e1 : cr z y = 0 := by
        -- z and y are both along p
        have ne : p.x ≠ 0 ∨ p.y ≠ 0 := by grind
        unfold cr at *
        rcases ne with w | w
        · exact zm (b := p.x) (by grind) w
        · exact zm (b := p.y) (by grind) w
      have : det z p y = cr z p + cr p y - cr z y := by unfold det cr; grind
      rw [this, a1, a2, e1]
      grind
    grind
theorem ntp_inj {P : PL} (c : Can P) {u v : Nat} (hu : u < P.length) (hv : v < P.length) (e : ntp P u = ntp P v) : u = v := by
  have nd := can_nodup c
  unfold ntp at e
  rw [List.getD_eq_getElem?_getD, List.getD_eq_getElem?_getD, List.getElem?_eq_getElem hu, List.getElem?_eq_getElem hv] at e
  simp only [Option.getD_some] at e
  have pw := List.pairwise_iff_getElem.mp nd
  rcases Nat.lt_trichotomy u v with w | w | w
  · exact absurd e (pw u v hu hv w)
  · exact w
  · exact absurd e.symm (pw v u hv hu w)
theorem edg_fst {P : PL} (c : Can P) {p q y : Pt} (h : (p, q) ∈ edg P) (h' : (p, y) ∈ edg P) : q = y := by
  obtain ⟨i, hi, ei⟩ := List.mem_map.mp h
  obtain ⟨j, hj, ej⟩ := List.mem_map.mp h'
  have hi := List.mem_range.mp hi
  have hj := List.mem_range.mp hj
  simp only [Prod.mk.injEq] at ei ej
  have := ntp_inj c hi hj (ei.1.trans ej.1.symm)
  subst this
  exact ei.2.symm.trans ej.2
theorem edg_snd {P : PL} (c : Can P) {p q y : Pt} (h : (p, q) ∈ edg P) (h' : (y, q) ∈ edg P) : p = y := by
  obtain ⟨i, hi, ei⟩ := List.mem_map.mp h
  obtain ⟨j, hj, ej⟩ := List.mem_map.mp h'
  have hi := List.mem_range.mp hi
  have hj := List.mem_range.mp hj
  simp only [Prod.mk.injEq] at ei ej
  have ij := ntp_inj c (Nat.mod_lt _ (by omega)) (Nat.mod_lt _ (by omega)) (ei.2.trans ej.2.symm)
  have : i = j := by
    by_cases w : i + 1 < P.length
    · by_cases w2 : j + 1 < P.length
      · rw [Nat.mod_eq_of_lt w, Nat.mod_eq_of_lt w2] at ij; omega
      · rw [Nat.mod_eq_of_lt w, show j + 1 = P.length by omega, Nat.mod_self] at ij; omega
    · by_cases w2 : j + 1 < P.length
      · rw [Nat.mod_eq_of_lt w2, show i + 1 = P.length by omega, Nat.mod_self] at ij; omega
      · omega
  subst this
  exact ei.1.symm.trans ej.1
/-- what is held and on an edge's line is between its ends -/
theorem on_edge {P : PL} (c : Can P) (l3 : 3 ≤ P.length) {p q x : Pt} (m : (p, q) ∈ edg P) (h : In P x) (e : det p q x = 0) : ∃ u : Rat, 0 ≤ u ∧ u ≤ 1 ∧ x = ⟨(1 - u) * p.x + u * q.x, (1 - u) * p.y + u * q.y⟩ := by
  have ne := edg_ne c (by omega) m
  obtain ⟨z, y, h1, h2, d, _, _⟩ := round c l3 ne.2.1
  have : y = q := edg_fst c h2 m
  subst this
  obtain ⟨z2, y2, h3, h4, d2, _, _⟩ := round c l3 ne.2.2
  have : z2 = p := edg_snd c h3 m
  subst this
  have ed := edC_iff.mp ((in3 l3).mp h)
  have a1 := ed _ h1
  have a2 := ed _ h4
  simp only at a1 a2 ne
  have N : 0 < nrm2 (sb z2 y) := nrm2_pos (by
    unfold sb
    refine Classical.byContradiction fun w => ne.1 ?_
    apply Pt.ext' <;> grind)
  have Nn : nrm2 (sb z2 y) ≠ 0 := by grind
  have mu : dot (sb z2 x) (sb z2 y) / nrm2 (sb z2 y) * nrm2 (sb z2 y) = dot (sb z2 x) (sb z2 y) := by grind
  generalize dot (sb z2 x) (sb z2 y) / nrm2 (sb z2 y) = u at mu
  have ex : x.x - z2.x = u * (y.x - z2.x) := by
    have : (x.x - z2.x - u * (y.x - z2.x)) * nrm2 (sb z2 y) = 0 := by
      have e1 : (x.x - z2.x - u * (y.x - z2.x)) * nrm2 (sb z2 y) = (x.x - z2.x) * nrm2 (sb z2 y) - (u * nrm2 (sb z2 y)) * (y.x - z2.x) := by grind
      rw [e1, mu]
      unfold det at e
      unfold nrm2 dot sb
      grind
    have := zm this Nn
    grind
  have ey : x.y - z2.y = u * (y.y - z2.y) := by
    have : (x.y - z2.y - u * (y.y - z2.y)) * nrm2 (sb z2 y) = 0 := by
      have e1 : (x.y - z2.y - u * (y.y - z2.y)) * nrm2 (sb z2 y) = (x.y - z2.y) * nrm2 (sb z2 y) - (u * nrm2 (sb z2 y)) * (y.y - z2.y) := by grind
      rw [e1, mu]
      unfold det at e
      unfold nrm2 dot sb
      grind
    have := zm this Nn
    grind
  have b1 : det z z2 x = u * det z z2 y := by unfold det; grind
  have b2 : det y y2 x = (1 - u) * det z2 y y2 := by unfold det; grind
  refine ⟨u, nm (b := det z z2 y) (by grind) d, ?_, ?_⟩
  · have := nm (a := 1 - u) (b := det z2 y y2) (by grind) d2
    grind
  · apply Pt.ext' <;> grind
/-- nothing but nought is made by staying -/
theorem time_nought {P : PL} (c : Can P) {v : Pt} (h : ∀ s ∈ sidesQ P, dot s.1 v ≤ 0) : v = o0 := by
  obtain ⟨p, mp', e⟩ := supQ_mem c.ne v
  have hin : In P ⟨p.x + v.x, p.y + v.y⟩ := (held_in c).mp fun s ms => by
    have a := (held_in c).mpr (corner_in c mp') s ms
    have b := h s ms
    have : dot s.1 ⟨p.x + v.x, p.y + v.y⟩ = dot s.1 p + dot s.1 v := by unfold dot; grind
    rw [this]
    grind
  obtain ⟨b, mb, l⟩ := (in_iff c).mp hin v _ List.mem_cons_self
  have l2 := supQ_le (n := v) mb
  rw [← e] at l2
  have : dot v ⟨p.x + v.x, p.y + v.y⟩ = dot v p + nrm2 v := by unfold dot nrm2; grind
  rw [this] at l
  refine Classical.byContradiction fun ne => ?_
  have : 0 < nrm2 v := nrm2_pos (by
    refine Classical.byContradiction fun w => ne ?_
    unfold o0
    apply Pt.ext' <;> grind)
  grind
/-- the way is made by the ends of one edge -/
theorem time_edge {P : PL} (c : Can P) (l3 : 3 ≤ P.length) (h0 : In P o0) {v : Pt} {t : Rat} (h : timeQ P v = some t) : ∃ e ∈ edg P, ∃ a b : Rat, 0 < cr e.1 e.2 ∧ 0 ≤ a ∧ 0 ≤ b ∧ a + b = t ∧ v = ⟨a * e.1.x + b * e.2.x, a * e.1.y + b * e.2.y⟩ := by
  have hh := timeQ_is c h0 v
  rw [h] at hh
  obtain ⟨t0, t1, t2⟩ := hh
  by_cases tz : t = 0
  · subst tz
    have v0 : v = o0 := time_nought c fun s ms => by have := t1 s ms; grind
    obtain ⟨e, me, p⟩ := edge_pos c l3 h0
    refine ⟨e, me, 0, 0, p, Rat.le_refl, Rat.le_refl, by grind, ?_⟩
    rw [v0]
    unfold o0
    apply Pt.ext' <;> grind
  · obtain ⟨s, ms, sp, es⟩ := t2.resolve_left tz
    have tp : 0 < t := by grind
    rw [sidesQ3 l3] at ms
    obtain ⟨e, me, rfl⟩ := List.mem_map.mp ms
    have ec : dot (outer e.1 e.2) e.1 = cr e.1 e.2 := by unfold dot outer cr; grind
    simp only [sideQ] at sp es
    rw [ec] at sp es
    have tne : t ≠ 0 := tz
    have iv : 1 / t * t = 1 := by grind
    have ip : 0 ≤ 1 / t := nm (b := t) (by rw [iv]; decide) tp
    have hin : In P ⟨1 / t * v.x, 1 / t * v.y⟩ := (held_in c).mp fun s ms => by
      have a := t1 s ms
      have b := mn ip (b := t * s.2 - dot s.1 v) (by grind)
      have e1 : dot s.1 ⟨1 / t * v.x, 1 / t * v.y⟩ = 1 / t * dot s.1 v := by unfold dot; grind
      have e2 : 1 / t * (t * s.2) = s.2 := by
        have : 1 / t * (t * s.2) = (1 / t * t) * s.2 := by grind
        rw [this, iv]; grind
      rw [e1]
      grind
    have ed : det e.1 e.2 ⟨1 / t * v.x, 1 / t * v.y⟩ = 0 := by
      have o := outer_dot e.1 e.2 ⟨1 / t * v.x, 1 / t * v.y⟩
      have e1 : dot (outer e.1 e.2) ⟨1 / t * v.x, 1 / t * v.y⟩ = 1 / t * dot (outer e.1 e.2) v := by unfold dot; grind
      rw [e1, es, ec] at o
      have : 1 / t * (t * cr e.1 e.2) = cr e.1 e.2 := by
        have : 1 / t * (t * cr e.1 e.2) = (1 / t * t) * cr e.1 e.2 := by grind
        rw [this, iv]; grind
      grind
    obtain ⟨u, u0, u1, ex⟩ := on_edge c l3 me hin ed
    simp only [Pt.mk.injEq] at ex
    refine ⟨e, me, t * (1 - u), t * u, sp, mn t0 (by grind), mn t0 u0, by grind, ?_⟩
    have vx : v.x = t * (1 / t * v.x) := by
      have : t * (1 / t * v.x) = (1 / t * t) * v.x := by grind
      rw [this, iv]; grind
    have vy : v.y = t * (1 / t * v.y) := by
      have : t * (1 / t * v.y) = (1 / t * t) * v.y := by grind
      rw [this, iv]; grind
    apply Pt.ext'
    · rw [vx, ex.1]; grind
    · rw [vy, ex.2]; grind
end WP

open PySem L2
set_option Elab.async false
set_option linter.all false
set_option maxRecDepth 100000
set_option maxHeartbeats 1000000
/-! # times as data -/
namespace WV
open PySem PySem.Spec PyProof.Rows L2 WF WP
/-- a time, or none -/
def oD : Option Rat → D
  | none => .non
  | some r => fD r
def subP (p q : Pt) : Pt := ⟨p.x - q.x, p.y - q.y⟩
def Bo (n : Nat) : Option Rat → Prop
  | none => True
  | some r => Bf n r
theorem sign3 {i : Int} {d k : Rat} (h : (i : Rat) = k * d) (hk : 0 < k) : (i = 0 ↔ d = 0) ∧ (0 < i ↔ 0 < d) ∧ (i < 0 ↔ d < 0) := by
  have := sign_of (i := i) (d := d) (k := k) (by rw [h]; grind) hk
  exact ⟨this.2.2, this.2.1, this.1⟩
/-- the best so far among some sides -/
structure Best (S : List (Pt × Rat)) (v : Pt) (K : Nat) (r : Rat) : Prop where
  nn : 0 ≤ r
  le : ∀ s ∈ S, 0 < s.2 → dot s.1 v ≤ r * s.2
  at_ : r = 0 ∨ ∃ s ∈ S, 0 < s.2 ∧ dot s.1 v = r * s.2
  bd : Bf K r
theorem bf0 {n : Nat} : Bf (n + 1) 0 := by
  refine ⟨?_, ?_⟩
  · unfold B; exact Nat.two_pow_pos _
  · unfold B; exact Nat.one_lt_two_pow (by omega)
theorem best_end {P : PL} {v : Pt} {K : Nat} {r : Rat} (c : Can P) (h0 : In P o0) (b : Best (sidesQ P) v K r) (z : ¬ ∃ s ∈ sidesQ P, s.2 = 0 ∧ 0 < dot s.1 v) : timeQ P v = some r := by
  refine timeQ_eq c h0 ⟨b.nn, fun s ms => ?_, b.at_⟩
  by_cases p : 0 < s.2
  · exact b.le s ms p
  · have n := side_nn c h0 ms
    have e : s.2 = 0 := by grind
    have : ¬ 0 < dot s.1 v := fun q => z ⟨s, ms, e, q⟩
    rw [e]
    grind
end WV

set_option Elab.async false
set_option linter.all false
set_option maxHeartbeats 1000000
/-! # times by pairs of corners -/
namespace WP
open List WV
/-- v is made of p and q -/
def Cnd (p q v : Pt) : Prop := cr p q ≠ 0 ∧ 0 ≤ cr v q / cr p q ∧ 0 ≤ cr p v / cr p q
def val (p q v : Pt) : Rat := (cr v q + cr p v) / cr p q
theorem cnd_time {P : PL} (c : Can P) (h0 : In P o0) {p q v : Pt} (hp : In P p) (hq : In P q) (h : Cnd p q v) : ∃ u, timeQ P v = some u ∧ u ≤ val p q v := by
  obtain ⟨ne, a, b⟩ := h
  obtain ⟨u, e, l⟩ := time_cone c h0 hp hq a b
  have e1 : cr v q / cr p q * cr p q = cr v q := by grind
  have e2 : cr p v / cr p q * cr p q = cr p v := by grind
  have e3 : val p q v = cr v q / cr p q + cr p v / cr p q := by
    unfold val
    have : (cr v q + cr p v) / cr p q * cr p q = (cr v q / cr p q + cr p v / cr p q) * cr p q := by grind
    grind
  have ev : (⟨cr v q / cr p q * p.x + cr p v / cr p q * q.x, cr v q / cr p q * p.y + cr p v / cr p q * q.y⟩ : Pt) = v := by
    generalize cr v q / cr p q = s at e1
    generalize cr p v / cr p q = t at e2
    have x0 : (s * p.x + t * q.x - v.x) * cr p q = 0 := by
      have : (s * p.x + t * q.x - v.x) * cr p q = (s * cr p q) * p.x + (t * cr p q) * q.x - v.x * cr p q := by grind
      rw [this, e1, e2]; unfold cr; grind
    have y0 : (s * p.y + t * q.y - v.y) * cr p q = 0 := by
      have : (s * p.y + t * q.y - v.y) * cr p q = (s * cr p q) * p.y + (t * cr p q) * q.y - v.y * cr p q := by grind
      rw [this, e1, e2]; unfold cr; grind
    have := zm x0 ne
    have := zm y0 ne
    apply Pt.ext' <;> grind
  rw [ev] at e
  exact ⟨u, e, by rw [e3]; exact l⟩
theorem time_cnd {P : PL} (c : Can P) (l3 : 3 ≤ P.length) (h0 : In P o0) {v : Pt} {t : Rat} (h : timeQ P v = some t) : ∃ e ∈ edg P, Cnd e.1 e.2 v ∧ val e.1 e.2 v = t := by
  obtain ⟨e, me, a, b, cp, a0, b0, ab, ev⟩ := time_edge c l3 h0 h
  have ne : cr e.1 e.2 ≠ 0 := by grind
  have e1 : cr v e.2 = a * cr e.1 e.2 := by rw [ev]; unfold cr; grind
  have e2 : cr e.1 v = b * cr e.1 e.2 := by rw [ev]; unfold cr; grind
  have q1 : a * cr e.1 e.2 / cr e.1 e.2 = a := by grind
  have q2 : b * cr e.1 e.2 / cr e.1 e.2 = b := by grind
  refine ⟨e, me, ⟨ne, by rw [e1, q1]; exact a0, by rw [e2, q2]; exact b0⟩, ?_⟩
  unfold val
  rw [e1, e2, ← ab]
  grind
/-- the other way round it is the same -/
theorem cnd_swap {p q v : Pt} (h : Cnd p q v) : Cnd q p v ∧ val q p v = val p q v := by
  obtain ⟨ne, a, b⟩ := h
  have s1 : cr q p = -cr p q := by unfold cr; grind
  have s2 : cr v p = -cr p v := by unfold cr; grind
  have s3 : cr q v = -cr v q := by unfold cr; grind
  have d : ∀ x : Rat, -x / -cr p q = x / cr p q := fun x => by
    have e1 : -x / -cr p q * -cr p q = -x := by have : -cr p q ≠ 0 := by grind
                                                grind
    have e2 : x / cr p q * cr p q = x := by grind
    have : (-x / -cr p q - x / cr p q) * cr p q = 0 := by grind
    have := zm this ne
    grind
  refine ⟨⟨by rw [s1]; grind, by rw [s1, s2, d]; exact b, by rw [s1, s3, d]; exact a⟩, ?_⟩
  unfold val
  rw [s1, s2, s3]
  have : -cr p v + -cr v q = -(cr v q + cr p v) := by grind
  rw [this, d]
/-- scaled corners and ways -/
theorem cnd_mul {k l : Rat} (hk : 0 < k) (hl : 0 < l) {p q v : Pt} : (Cnd (mulP k p) (mulP k q) v ↔ Cnd p q (mulP l v)) ∧ (cr p q ≠ 0 → val (mulP k p) (mulP k q) v * k * l = val p q (mulP l v)) := by
  have c1 : cr (mulP k p) (mulP k q) = k * k * cr p q := by unfold cr mulP; grind
  have c2 : cr v (mulP k q) = k * cr v q := by unfold cr mulP; grind
  have c3 : cr (mulP k p) v = k * cr p v := by unfold cr mulP; grind
  have c4 : cr (mulP l v) q = l * cr v q := by unfold cr mulP; grind
  have c5 : cr p (mulP l v) = l * cr p v := by unfold cr mulP; grind
  have kn : k ≠ 0 := by grind
  have kk : k * k ≠ 0 := by have := mp hk hk; grind
  have dv : ∀ {a b : Rat}, b ≠ 0 → (k * a) / (k * k * b) * k = a / b := fun {a b} hb => by
    have h1 : k * k * b ≠ 0 := by
      intro z
      have := zm (a := b) (b := k * k) (by grind) kk
      exact hb this
    have e1 : (k * a) / (k * k * b) * (k * k * b) = k * a := by grind
    have e2 : a / b * b = a := by grind
    have : ((k * a) / (k * k * b) * k - a / b) * (k * b) = 0 := by grind
    have kb : k * b ≠ 0 := by
      intro z
      exact hb (zm (a := b) (b := k) (by grind) kn)
    have := zm this kb
    grind
  constructor
  · unfold Cnd
    rw [c1, c2, c3, c4, c5]
    constructor
    · rintro ⟨ne, a, b⟩
      have hb : cr p q ≠ 0 := fun z => ne (by rw [z]; grind)
      have x1 := mn a (Rat.le_of_lt hk)
      have x2 := mn b (Rat.le_of_lt hk)
      rw [dv hb] at x1 x2
      refine ⟨hb, ?_, ?_⟩
      · have := mn (Rat.le_of_lt hl) x1
        have e : l * (cr v q / cr p q) = l * cr v q / cr p q := by grind
        rw [← e]; exact this
      · have := mn (Rat.le_of_lt hl) x2
        have e : l * (cr p v / cr p q) = l * cr p v / cr p q := by grind
        rw [← e]; exact this
    · rintro ⟨hb, a, b⟩
      have e1 : l * (cr v q / cr p q) = l * cr v q / cr p q := by grind
      have e2 : l * (cr p v / cr p q) = l * cr p v / cr p q := by grind
      rw [← e1] at a
      rw [← e2] at b
      have a' := nm (a := cr v q / cr p q) (b := l) (by grind) hl
      have b' := nm (a := cr p v / cr p q) (b := l) (by grind) hl
      rw [← dv hb] at a' b'
      refine ⟨?_, nm a' hk, nm b' hk⟩
      intro z
      exact hb (zm (a := cr p q) (b := k * k) (by grind) kk)
  · intro hb
    unfold val
    rw [c1, c2, c3, c4, c5]
    have e1 : k * cr v q + k * cr p v = k * (cr v q + cr p v) := by grind
    rw [e1, dv hb]
    grind
end WP

open PySem L2
set_option Elab.async false
set_option linter.all false
set_option maxRecDepth 100000
set_option maxHeartbeats 1000000
/-! # the least of some numbers, where it stands; data that may be laid -/
namespace WV
open PySem PySem.Spec PyProof.Rows L2 WF WP
theorem enum_mapG {α : Type} (d0 : α) {f : α → D} : ∀ (l : List α) (k : Nat), enumD k (l.map f) = (List.range l.length).map fun i => .tup [.int ((k + i : Nat) : Int), f (l.getD i d0)]
  | [], k => rfl
  | p :: l, k => by
    have e := enum_mapG d0 (f := f) l (k + 1)
    simp only [List.map_cons, enumD, List.length_cons, List.range_succ_eq_map, List.map_map]
    rw [show ((k : Int) + 1) = ((k + 1 : Nat) : Int) by push_cast; rfl, e]
    refine List.cons_eq_cons.mpr ⟨?_, List.map_congr_left fun i _ => ?_⟩
    · simp
    · simp only [Function.comp, List.getD_cons_succ]
      congr 3
      omega
/-- the least of some numbers, b among them -/
def leastF : Rat → List Rat → Rat
  | b, [] => b
  | b, t :: ts => leastF (if t < b then t else b) ts
theorem leastF_mem : ∀ (ts : List Rat) (b : Rat), leastF b ts = b ∨ leastF b ts ∈ ts
  | [], b => .inl rfl
  | t :: ts, b => by
    rw [leastF]
    rcases leastF_mem ts (if t < b then t else b) with h | h
    · rw [h]
      split
      · exact .inr List.mem_cons_self
      · exact .inl rfl
    · exact .inr (List.mem_cons_of_mem _ h)
theorem leastF_le : ∀ (ts : List Rat) (b : Rat), leastF b ts ≤ b ∧ ∀ t ∈ ts, leastF b ts ≤ t
  | [], b => ⟨Rat.le_refl, by simp⟩
  | t :: ts, b => by
    rw [leastF]
    obtain ⟨h1, h2⟩ := leastF_le ts (if t < b then t else b)
    have a : (if t < b then t else b) ≤ b ∧ (if t < b then t else b) ≤ t := by split <;> constructor <;> grind
    refine ⟨Rat.le_trans h1 a.1, fun x m => ?_⟩
    rcases List.mem_cons.mp m with rfl | m
    · exact Rat.le_trans h1 a.2
    · exact h2 x m
/-- where it stands -/
def ixs (ts : List Rat) (b : Rat) : List D := ((List.range ts.length).filter fun i => decide (ts.getD i 0 = b)).map fun i : Nat => .int (i : Int)
/-- data that may be compared -/
def Lay (d : D) (e : Nat) : Prop := ∃ p, pd0 d = some p ∧ p.canLay0 = true ∧ p.depth ≤ e
theorem Lay.int {i : Int} : Lay (.int i) 1 := ⟨.int i, rfl, rfl, by simp [PyData.depth]⟩
theorem Lay.non : Lay .non 1 := ⟨.none, rfl, rfl, by simp [PyData.depth]⟩
theorem Lay.bl {b : Bool} : Lay (.bl b) 1 := ⟨.bool b, rfl, rfl, by simp [PyData.depth]⟩
theorem Lays : ∀ {ds : List D} {e : Nat}, (∀ d ∈ ds, Lay d e) → ∃ ps, pds ds = some ps ∧ PyData.canLayAll0 ps = true ∧ PyData.depthAll ps ≤ e ∧ ps.length = ds.length
  | [], e, h => ⟨[], rfl, rfl, by simp [PyData.depthAll], rfl⟩
  | d :: ds, e, h => by
    obtain ⟨p, h1, h2, h3⟩ := h d List.mem_cons_self
    obtain ⟨ps, g1, g2, g3, g4⟩ := Lays fun x m => h x (List.mem_cons_of_mem _ m)
    exact ⟨p :: ps, by simp [pds, h1, g1], by simp [PyData.canLayAll0, h2, g2], by simp [PyData.depthAll]; omega, by simp [g4]⟩
theorem Lay.tup {ds : List D} {e : Nat} (h : ∀ d ∈ ds, Lay d e) : Lay (.tup ds) (e + 1) := by
  obtain ⟨ps, g1, g2, g3, _⟩ := Lays h
  exact ⟨.tuple ps, by simp [pd0, g1], by simpa [PyData.canLay0] using g2, by simp [PyData.depth]; omega⟩
theorem Lay.lst {ds : List D} {e : Nat} (h : ∀ d ∈ ds, Lay d e) : Lay (.lst ds) (e + 1) := by
  obtain ⟨ps, g1, g2, g3, _⟩ := Lays h
  exact ⟨.list ps, by simp [pd0, g1], by simpa [PyData.canLay0] using g2, by simp [PyData.depth]; omega⟩
theorem Lay.mono {d : D} {e e' : Nat} (h : Lay d e) (l : e ≤ e') : Lay d e' := by
  obtain ⟨p, h1, h2, h3⟩ := h
  exact ⟨p, h1, h2, by omega⟩
theorem lay_vD (p : Pt) : Lay (vD p) 2 := by
  obtain ⟨n, h⟩ := vD_ex p
  obtain ⟨x, y, w, e, _⟩ := pt_ints h
  rw [e]
  refine Lay.tup fun d m => ?_
  simp only [List.mem_cons, List.not_mem_nil, or_false] at m
  rcases m with rfl | rfl | rfl <;> exact Lay.int
theorem lay_zD (z : Int × Int) : Lay (zD z) 2 := Lay.tup fun d m => by
  simp only [List.mem_cons, List.not_mem_nil, or_false] at m
  rcases m with rfl | rfl <;> exact Lay.int
theorem lay_map {α : Type} {f : α → D} {l : List α} {e : Nat} (h : ∀ a ∈ l, Lay (f a) e) : Lay (.tup (l.map f)) (e + 1) ∧ Lay (.lst (l.map f)) (e + 1) := by
  have h' : ∀ d ∈ l.map f, Lay d e := fun d m => by
    obtain ⟨a, ma, rfl⟩ := List.mem_map.mp m
    exact h a ma
  exact ⟨Lay.tup h', Lay.lst h'⟩
theorem lay_pD (P : PL) : Lay (pD P) 3 := (lay_map fun p _ => lay_vD p).1
theorem lay_lst2 {a b : D} {e : Nat} (ha : Lay a e) (hb : Lay b e) : Lay (.lst [a, b]) (e + 1) ∧ Lay (.tup [a, b]) (e + 1) := by
  have h : ∀ d ∈ [a, b], Lay d e := fun d m => by
    simp only [List.mem_cons, List.not_mem_nil, or_false] at m
    rcases m with rfl | rfl
    · exact ha
    · exact hb
  exact ⟨Lay.lst h, Lay.tup h⟩
theorem lay_lst3 {a b c : D} {e : Nat} (ha : Lay a e) (hb : Lay b e) (hc : Lay c e) : Lay (.lst [a, b, c]) (e + 1) ∧ Lay (.tup [a, b, c]) (e + 1) := by
  have h : ∀ d ∈ [a, b, c], Lay d e := fun d m => by
    simp only [List.mem_cons, List.not_mem_nil, or_false] at m
    rcases m with rfl | rfl | rfl
    · exact ha
    · exact hb
    · exact hc
  exact ⟨Lay.lst h, Lay.tup h⟩
/-- a list that may change is not [] -/
theorem wc_neNil {h : AH} {Q : AQ} {p : Addr} {ds : List D} {e : Nat} (hp : h p = some ds) (hl : ∀ d ∈ ds, Lay d e) (he : e < 60) (q : Q (.bl (decide (ds ≠ []))) h) : cmpS .NotEq (.ref p) (.lst []) h Q := by
  obtain ⟨ps, g1, g2, g3, g4⟩ := Lays hl
  refine .inr ⟨.list ps, .list [], by simp [pd, hp, g1], rfl, ?_, rfl, ?_⟩
  · simp [SeqAt.shaped, PyData.canLay0, g2, PyData.depth]; omega
  · have : (!PyData.eqv (.list ps) (.list [])) = decide (ds ≠ []) := by
      cases ps with
      | nil =>
        have : ds = [] := List.length_eq_zero_iff.mp g4.symm
        subst this
        rfl
      | cons a b =>
        cases ds with
        | nil => simp at g4
        | cons c d => rfl
    show Q (.bl (!PyData.eqv (.list ps) (.list []))) h
    rw [this]
    exact q
end WV

open PySem L2
set_option Elab.async false
set_option linter.all false
set_option maxRecDepth 100000
set_option maxHeartbeats 1000000
/-! # figures with nought strictly inside; starters -/
namespace WV
open PySem PySem.Spec PyProof.Rows L2 WF WP
/-- a figure that can sail every way -/
structure Rdy (n : Nat) (P : PL) : Prop where
  fig : Fig n P
  pos : ∀ s ∈ sidesQ P, 0 < s.2
theorem Rdy.time {n : Nat} {P : PL} (r : Rdy n P) (v : Pt) : ∃ t, timeQ P v = some t ∧ 0 ≤ t := by
  have h := timeQ_is r.fig.can r.fig.in0 v
  cases e : timeQ P v with
  | none =>
    rw [e] at h
    obtain ⟨s, ms, z, _⟩ := h
    have := r.pos s ms
    grind
  | some t =>
    rw [e] at h
    exact ⟨t, rfl, h.1⟩
theorem keen_edge {P M : PL} (c : Can P) (l3 : 3 ≤ P.length) (hm : ∀ z ∈ M, In P z) (h0 : In P o0) (sp : ∀ d : Pt, (∀ z ∈ M, 0 ≤ cr d z) → d = o0) : ∀ e ∈ edg P, 0 < cr e.1 e.2 := by
  intro e me
  have ne := (edg_ne c (by omega) me).1
  have hd : ∀ x, In P x → 0 ≤ det e.1 e.2 x := fun x hx => edC_iff.mp ((in3 l3).mp hx) e me
  have d0 := hd o0 h0
  have e0 : det e.1 e.2 o0 = cr e.1 e.2 := by unfold det cr o0; grind
  by_cases z : 0 < cr e.1 e.2
  · exact z
  · have cz : cr e.1 e.2 = 0 := by grind
    have hs := sp (sb e.1 e.2) fun x mx => by
      have a := hd x (hm x mx)
      have e1 : det e.1 e.2 x = cr (sb e.1 e.2) x + cr e.1 e.2 := by unfold det cr sb; grind
      grind
    have hx := congrArg Pt.x hs
    have hy := congrArg Pt.y hs
    unfold sb o0 at hx hy
    simp only at hx hy
    exact absurd (Pt.ext' (by grind) (by grind)) ne
/-- dots not far out -/
def Ab (n : Int) (z : Int × Int) : Prop := -n ≤ z.1 ∧ z.1 ≤ n ∧ -n ≤ z.2 ∧ z.2 ≤ n
theorem Ab.bz {z : Int × Int} (h : Ab 7 z) : Bz 4 z := ⟨by unfold Ab at h; unfold B; omega, by unfold Ab at h; unfold B; omega⟩
theorem Ab.bz10 {n : Int} {z : Int × Int} (h : Ab n z) (hn : n ≤ 1000) : Bz 10 z := ⟨by unfold Ab at h; unfold B; omega, by unfold Ab at h; unfold B; omega⟩
def menus : List (List (Int × Int)) := [[(1, 0), (0, 1), (-1, -1)], [(2, 1), (-1, 1), (-1, -2)], [(-1, 0), (1, -1), (1, 2)], [(1, 0), (-1, 0), (0, 1), (0, -1)]]
theorem menus_ok {m : List (Int × Int)} (h : m ∈ menus) : (∀ n : Pt, ∃ b ∈ m, 0 ≤ dot n (zP b)) ∧ (∀ d : Pt, (∀ z ∈ m, 0 ≤ cr d (zP z)) → d = o0) ∧ (∃ a ∈ m, ∃ b ∈ m, ∃ c ∈ m, det (zP a) (zP b) (zP c) ≠ 0) ∧ (∀ z ∈ m, Ab 4 z) ∧ m.length ≤ 4 := by
  simp only [menus, List.mem_cons, List.not_mem_nil, or_false] at h
  have bb : ∀ (x y : Int), -4 ≤ x → x ≤ 4 → -4 ≤ y → y ≤ 4 → Ab 4 (x, y) := fun x y a b c d => ⟨a, b, c, d⟩
  rcases h with rfl | rfl | rfl | rfl
  · refine ⟨fun n => ?_, fun d hd => ?_, ⟨(1, 0), by simp, (0, 1), by simp, (-1, -1), by simp, by unfold det zP; simp; grind⟩, ?_, by simp⟩
    · by_cases h1 : 0 ≤ n.x
      · exact ⟨(1, 0), by simp, by unfold dot zP; simp; grind⟩
      · by_cases h2 : 0 ≤ n.y
        · exact ⟨(0, 1), by simp, by unfold dot zP; simp; grind⟩
        · exact ⟨(-1, -1), by simp, by unfold dot zP; simp; grind⟩
    · have a := hd (1, 0) (by simp)
      have b := hd (0, 1) (by simp)
      have c := hd (-1, -1) (by simp)
      unfold cr zP at a b c
      simp at a b c
      exact Pt.ext' (by unfold o0; grind) (by unfold o0; grind)
    · intro z mz
      simp only [List.mem_cons, List.not_mem_nil, or_false] at mz
      rcases mz with rfl | rfl | rfl <;> exact bb _ _ (by decide) (by decide) (by decide) (by decide)
  · refine ⟨fun n => ?_, fun d hd => ?_, ⟨(2, 1), by simp, (-1, 1), by simp, (-1, -2), by simp, by unfold det zP; simp; grind⟩, ?_, by simp⟩
    · by_cases h1 : 0 ≤ dot n (zP (2, 1))
      · exact ⟨(2, 1), by simp, h1⟩
      · by_cases h2 : 0 ≤ dot n (zP (-1, 1))
        · exact ⟨(-1, 1), by simp, h2⟩
        · refine ⟨(-1, -2), by simp, ?_⟩
          unfold dot zP at *
          simp at *
          grind
    · have a := hd (2, 1) (by simp)
      have b := hd (-1, 1) (by simp)
      have c := hd (-1, -2) (by simp)
      unfold cr zP at a b c
      simp at a b c
      exact Pt.ext' (by unfold o0; grind) (by unfold o0; grind)
    · intro z mz
      simp only [List.mem_cons, List.not_mem_nil, or_false] at mz
      rcases mz with rfl | rfl | rfl <;> exact bb _ _ (by decide) (by decide) (by decide) (by decide)
  · refine ⟨fun n => ?_, fun d hd => ?_, ⟨(-1, 0), by simp, (1, -1), by simp, (1, 2), by simp, by unfold det zP; simp; grind⟩, ?_, by simp⟩
    · by_cases h1 : 0 ≤ dot n (zP (-1, 0))
      · exact ⟨(-1, 0), by simp, h1⟩
      · by_cases h2 : 0 ≤ dot n (zP (1, -1))
        · exact ⟨(1, -1), by simp, h2⟩
        · refine ⟨(1, 2), by simp, ?_⟩
          unfold dot zP at *
          simp at *
          grind
    · have a := hd (-1, 0) (by simp)
      have b := hd (1, -1) (by simp)
      have c := hd (1, 2) (by simp)
      unfold cr zP at a b c
      simp at a b c
      exact Pt.ext' (by unfold o0; grind) (by unfold o0; grind)
    · intro z mz
      simp only [List.mem_cons, List.not_mem_nil, or_false] at mz
      rcases mz with rfl | rfl | rfl <;> exact bb _ _ (by decide) (by decide) (by decide) (by decide)
  · refine ⟨fun n => ?_, fun d hd => ?_, ⟨(1, 0), by simp, (-1, 0), by simp, (0, 1), by simp, by unfold det zP; simp; grind⟩, ?_, by simp⟩
    · by_cases h1 : 0 ≤ n.x
      · exact ⟨(1, 0), by simp, by unfold dot zP; simp; grind⟩
      · exact ⟨(-1, 0), by simp, by unfold dot zP; simp; grind⟩
    · have a := hd (1, 0) (by simp)
      have b := hd (0, 1) (by simp)
      have c := hd (-1, 0) (by simp)
      have e := hd (0, -1) (by simp)
      unfold cr zP at a b c e
      simp at a b c e
      exact Pt.ext' (by unfold o0; grind) (by unfold o0; grind)
    · intro z mz
      simp only [List.mem_cons, List.not_mem_nil, or_false] at mz
      rcases mz with rfl | rfl | rfl | rfl <;> exact bb _ _ (by decide) (by decide) (by decide) (by decide)
theorem keen_rdy {ws : List (Int × Int)} {k : Int} (bt : Boat ws k) (h : ∀ e ∈ edg (ws.map zP), 0 < cr e.1 e.2) : Rdy 10 (fig ws k) := by
  have F := bt.fig
  refine ⟨F, fun s ms => ?_⟩
  rw [sidesQ3 F.l3, fig_eq, edg_map, List.map_map] at ms
  obtain ⟨e, me, rfl⟩ := List.mem_map.mp ms
  have a := h e me
  have kr := rk bt.k1
  have e1 : (sideQ (outer (mulP (1 / k) e.1) (mulP (1 / k) e.2)) (mulP (1 / k) e.1)).2 = (1 / k * (1 / k)) * cr e.1 e.2 := by
    unfold sideQ outer dot mulP cr
    simp only
    grind
  show 0 < (sideQ (outer (mulP (1 / k) e.1) (mulP (1 / k) e.2)) (mulP (1 / k) e.1)).2
  rw [e1]
  exact mp (mp kr kr) a
/-- dots that look every way -/
def Span (m : List (Int × Int)) : Prop := ∀ d : Pt, (∀ z ∈ m, 0 ≤ cr d (zP z)) → d = o0
theorem Span.mono {m n : List (Int × Int)} (h : Span m) (s : ∀ z ∈ m, z ∈ n) : Span n := fun d hd => h d fun z mz => hd z (s z mz)
theorem Span.o1 {m : List (Int × Int)} (h : Span m) (n : Pt) : ∃ b ∈ m, 0 ≤ dot n (zP b) := by
  apply Classical.byContradiction
  intro c
  have all : ∀ z ∈ m, dot n (zP z) < 0 := fun z mz => by
    have : ¬ 0 ≤ dot n (zP z) := fun q => c ⟨z, mz, q⟩
    grind
  have d0 := h ⟨-n.y, n.x⟩ fun z mz => by
    have := all z mz
    unfold cr
    unfold dot at this
    grind
  have hx := congrArg Pt.x d0
  have hy := congrArg Pt.y d0
  unfold o0 at hx hy
  simp only at hx hy
  cases m with
  | nil =>
    have := congrArg Pt.x (h ⟨1, 0⟩ (by simp))
    unfold o0 at this
    simp at this
  | cons z t =>
    have := all z (by simp)
    unfold dot at this
    have y0 : n.y = 0 := by grind
    rw [hy, y0] at this
    grind
theorem span_three {m : List (Int × Int)} {Q : PL} (h : Span m) (c : Can Q) (hin : ∀ z ∈ m, In Q (zP z)) : 3 ≤ Q.length := by
  match Q, c, hin with
  | [], c, _ => exact absurd rfl c.ne
  | [p], c, hin =>
    have e : ∀ z ∈ m, zP z = p := fun z mz => hin z mz
    have p0 := h p fun z mz => by rw [e z mz]; unfold cr; grind
    have := congrArg Pt.x (h ⟨1, 0⟩ fun z mz => by rw [e z mz, p0]; unfold cr o0; grind)
    unfold o0 at this
    simp at this
  | [p, q], c, hin =>
    have e : ∀ z ∈ m, det p q (zP z) = 0 := fun z mz => (hin z mz).1
    have l := c.fst p [q] rfl q (by simp)
    have ed : ∀ x : Pt, det p q x = cr (sb p q) x + cr p q := fun x => by unfold det cr sb; grind
    have ne : ∀ d : Pt, d.x = 0 → d.y = 0 → d = sb p q ∨ d = sb q p → False := fun d hx hy hd => by
      rcases hd with rfl | rfl
      · unfold sb at hx hy
        simp only at hx hy
        have : p = q := Pt.ext' (by grind) (by grind)
        exact lt_irr (this ▸ l)
      · unfold sb at hx hy
        simp only at hx hy
        have : p = q := Pt.ext' (by grind) (by grind)
        exact lt_irr (this ▸ l)
    by_cases z : cr p q ≤ 0
    · have := h (sb p q) fun x mx => by have := e x mx; rw [ed] at this; grind
      exact (ne _ (by rw [this]; rfl) (by rw [this]; rfl) (.inl rfl)).elim
    · have := h (sb q p) fun x mx => by
        have h1 := e x mx
        rw [ed] at h1
        have : cr (sb q p) (zP x) = -cr (sb p q) (zP x) := by unfold cr sb; grind
        grind
      exact (ne _ (by rw [this]; rfl) (by rw [this]; rfl) (.inr rfl)).elim
  | _ :: _ :: _ :: _, _, _ => simp
theorem sup_pos {P : PL} (c : Can P) (l3 : 3 ≤ P.length) (h : ∀ e ∈ edg P, 0 < cr e.1 e.2) {n : Pt} (hn : n ≠ o0) : 0 < supQ P n := by
  obtain ⟨z, p, y, s, t, m1, m2, s0, t0, e, es⟩ := cone c l3 n
  have a := h _ m1
  have b := h _ m2
  simp only at a b
  have e1 : supQ P n = s * cr p y + t * cr z p := by
    rw [es]
    rw [e]
    unfold dot outer cr
    simp only
    grind
  rw [e1]
  have h1 := mn s0 (Rat.le_of_lt b)
  have h2 := mn t0 (Rat.le_of_lt a)
  by_cases zs : s = 0
  · by_cases zt : t = 0
    · subst zs zt
      exfalso
      apply hn
      rw [e]
      unfold o0
      apply Pt.ext' <;> grind
    · have := mp (a := t) (b := cr z p) (by grind) a
      grind
  · have := mp (a := s) (b := cr p y) (by grind) b
    grind
theorem span_rim {ws : List (Int × Int)} (c : Can (ws.map zP)) (l3 : 3 ≤ ws.length) (h : ∀ e ∈ edg (ws.map zP), 0 < cr e.1 e.2) : Span ws := by
  intro d hd
  apply Classical.byContradiction
  intro ne
  have p := sup_pos (n := ⟨d.y, -d.x⟩) c (by simpa using l3) h (by
    intro z
    have hx := congrArg Pt.x z
    have hy := congrArg Pt.y z
    unfold o0 at hx hy
    simp only at hx hy
    exact ne (Pt.ext' (by unfold o0; grind) (by unfold o0; grind)))
  obtain ⟨x, mx, e⟩ := supQ_mem c.ne ⟨d.y, -d.x⟩
  obtain ⟨z, mz, rfl⟩ := List.mem_map.mp mx
  have := hd z mz
  unfold dot at e
  unfold cr at this
  simp only at e
  grind
/-- the hull of dots that look every way has nought strictly inside -/
theorem span_hull {zs ws : List (Int × Int)} {k : Int} (sp : Span zs) (l : zs.length ≤ 9) (bz : ∀ z ∈ zs, Bz 10 z) (k1 : 1 ≤ k) (k3 : k ≤ 9) (e : ws.map zP = hullQ (zs.map zP)) (hw : ∀ w ∈ ws, w ∈ zs) : Boat ws k ∧ ∀ e ∈ edg (ws.map zP), 0 < cr e.1 e.2 := by
  have ne : zs.map zP ≠ [] := by
    intro z
    rw [List.map_eq_nil_iff.mp z] at sp
    obtain ⟨b, mb, _⟩ := sp.o1 o0
    cases mb
  have cn := hullQ_can ne
  have ln := hullQ_len ne
  have le := hullQ_le ne
  have hin : ∀ z ∈ zs, In (hullQ (zs.map zP)) (zP z) := fun z mz => (in_iff cn).mpr (le_iff.mp le _ (List.mem_map.mpr ⟨z, mz, rfl⟩))
  have h3 := span_three sp cn hin
  have i0 : In (hullQ (zs.map zP)) o0 := (in_iff cn).mpr fun n x mx => by
    rw [List.mem_singleton.mp mx]
    obtain ⟨b, mb, hb⟩ := sp.o1 n
    obtain ⟨y, my, hy⟩ := le n (zP b) (List.mem_map.mpr ⟨b, mb, rfl⟩)
    exact ⟨y, my, by have : dot n o0 = 0 := by unfold dot o0; grind
                     grind⟩
  have ed := keen_edge (M := zs.map zP) cn h3 (fun z mz => by
    obtain ⟨w, mw, rfl⟩ := List.mem_map.mp mz
    exact hin _ mw) i0 (fun d hd => sp d fun z mz => hd _ (List.mem_map.mpr ⟨z, mz, rfl⟩))
  rw [← e] at cn ln h3 i0 ed
  exact ⟨⟨k1, k3, cn, by simpa using h3, by simp at ln; omega, fun w mw => bz w (hw w mw), i0⟩, ed⟩
theorem menu_span {m : List (Int × Int)} (h : m ∈ menus) : Span m := (menus_ok h).2.1
/-- the hull of a menu and more dots is a boat with nought strictly inside -/
theorem keen_hull {m zs ws : List (Int × Int)} {k : Int} (hm : m ∈ menus) (sub : ∀ z ∈ m, z ∈ zs) (l : zs.length ≤ 9) (bz : ∀ z ∈ zs, Bz 10 z) (k1 : 1 ≤ k) (k3 : k ≤ 9) (e : ws.map zP = hullQ (zs.map zP)) (hw : ∀ w ∈ ws, w ∈ zs) : Boat ws k ∧ ∀ e ∈ edg (ws.map zP), 0 < cr e.1 e.2 :=
  span_hull ((menu_span hm).mono sub) l bz k1 k3 e hw
section
variable {Φ : Nat → PF} {σ : ASt} {d : D} {s : Str}
theorem if_repr_same {A C : WF.CE} (hA : ev Φ σ A = some d) (hC : ev Φ σ C = some d) (hr : reprE d = some (.str s)) : evS Φ (.ife (.cmp .NotEq (.bi .repr (.cons A .nil)) (.bi .repr (.cons C .nil))) (.cons (.ret (.cst (.bool false))) .nil) .nil) σ = some (.nx σ) := by
  simp [hA, hC, hr]
theorem ret_repr_same {A C : WF.CE} (hA : ev Φ σ A = some d) (hC : ev Φ σ C = some d) (hr : reprE d = some (.str s)) : evS Φ (.ret (.cmp .Eq (.bi .repr (.cons A .nil)) (.bi .repr (.cons C .nil)))) σ = some (.rt (.bl true)) := by
  simp [hA, hC, hr]
end
/-- a plain statement, run -/
theorem seq_to {Γ : Gam} {Φ : Nat → PF} (G : PhiOk Γ Φ) {s : CS} {r : CSs} {σ σ' : ASt} {E : AEnds} {h : AH} (e : evS Φ s σ = some (.nx σ')) (q : aSs Γ r E σ' h) : aSs Γ (.cons s r) E σ h := by
  rw [wp_sc]
  exact evS_ok G s σ _ e _ h q
theorem bfm {n m : Nat} {r : Rat} (h : Bf n r) (l : n ≤ m) : Bf m r := ⟨h.1.mono l, h.2.mono l⟩
theorem at_getD {α : Type} {f : α → D} {l : List α} {i : Nat} (d0 : α) (h : i < l.length) : atI (l.map f) (i : Int) = some (f (l.getD i d0)) := by
  have e : l[i]? = some (l.getD i d0) := by rw [List.getD_eq_getElem?_getD, List.getElem?_eq_getElem h]; rfl
  simp [h, e]
/-- starters: the figure's whole corners, their scale, the start -/
abbrev Rc := List (Int × Int) × Int × Pt
abbrev Rc.P (r : Rc) : PL := fig r.1 r.2.1
def stD (r : Rc) : D := .tup [pD r.P, vD r.2.2]
def bD (r : Rc) : D := .lst [.lst (r.1.map zD), .int r.2.1]
def rcD (r : Rc) : D := .lst [bD r, vD r.2.2, stD r]
structure GoodR (r : Rc) : Prop where
  bt : Boat r.1 r.2.1
  pos : ∀ e ∈ edg (r.1.map zP), 0 < cr e.1 e.2
  o : Bp 4 r.2.2
/-- a starter as it is drawn -/
structure Sml (r : Rc) : Prop where
  w : ∀ w ∈ r.1, Ab 4 w
  k : r.2.1 ≤ 3
  x0 : -7 ≤ r.2.2.x
  x1 : r.2.2.x ≤ 7
  y0 : -7 ≤ r.2.2.y
  y1 : r.2.2.y ≤ 7
theorem dot_small {z : Int × Int} (h : Ab 7 z) {s : Int} (s1 : 1 ≤ s) : -7 ≤ (mulP (1 / s) (zP z)).x ∧ (mulP (1 / s) (zP z)).x ≤ 7 ∧ -7 ≤ (mulP (1 / s) (zP z)).y ∧ (mulP (1 / s) (zP z)).y ≤ 7 := by
  have sr : (1 : Rat) ≤ s := by exact_mod_cast s1
  have kr := rk s1
  have sn : (s : Rat) ≠ 0 := by grind
  have e : 1 / (s : Rat) * s = 1 := by grind
  have k1 : 1 / (s : Rat) ≤ 1 := by
    have := mn (a := (s : Rat) - 1) (b := 1 / (s : Rat)) (by grind) (Rat.le_of_lt kr)
    grind
  obtain ⟨a, b, c, d⟩ := h
  have a' : (-7 : Rat) ≤ (z.1 : Rat) := by
    have : (0 : Rat) ≤ ((z.1 + 7 : Int) : Rat) := Rat.intCast_nonneg.mpr (by omega)
    push_cast at this
    grind
  have b' : (z.1 : Rat) ≤ 7 := by exact_mod_cast b
  have c' : (-7 : Rat) ≤ (z.2 : Rat) := by
    have : (0 : Rat) ≤ ((z.2 + 7 : Int) : Rat) := Rat.intCast_nonneg.mpr (by omega)
    push_cast at this
    grind
  have d' : (z.2 : Rat) ≤ 7 := by exact_mod_cast d
  have f : ∀ x : Rat, -7 ≤ x → x ≤ 7 → -7 ≤ 1 / (s : Rat) * x ∧ 1 / (s : Rat) * x ≤ 7 := fun x h1 h2 => by
    have q1 := mn (a := 7 - x) (b := 1 / (s : Rat)) (by grind) (Rat.le_of_lt kr)
    have q2 := mn (a := 7 + x) (b := 1 / (s : Rat)) (by grind) (Rat.le_of_lt kr)
    constructor <;> grind
  have f1 := f z.1 a' b'
  have f2 := f z.2 c' d'
  exact ⟨f1.1, f1.2, f2.1, f2.2⟩
theorem GoodR.rdy {r : Rc} (g : GoodR r) : Rdy 10 r.P := keen_rdy g.bt g.pos
theorem lay_bD (r : Rc) : Lay (bD r) 4 := (lay_lst2 (e := 3) ((lay_map fun z _ => lay_zD z).2) (Lay.int.mono (by decide))).1
theorem lay_stD (r : Rc) : Lay (stD r) 4 := (lay_lst2 (e := 3) (lay_pD _) ((lay_vD _).mono (by decide))).2
theorem lay_rcD (r : Rc) : Lay (rcD r) 5 := (lay_lst3 (e := 4) (lay_bD r) ((lay_vD _).mono (by decide)) (lay_stD r)).1
theorem Rdy.add {n : Nat} {P : PL} (r : Rdy n P) {u v : Pt} {a b c : Rat} (hu : timeQ P u = some a) (hv : timeQ P v = some b) (h : timeQ P ⟨u.x + v.x, u.y + v.y⟩ = some c) : c ≤ a + b := by
  have f := r.fig
  have iu := timeQ_is f.can f.in0 u
  have iv := timeQ_is f.can f.in0 v
  have ih := timeQ_is f.can f.in0 ⟨u.x + v.x, u.y + v.y⟩
  rw [hu] at iu
  rw [hv] at iv
  rw [h] at ih
  refine isT_le f.can f.in0 ih (by have := iu.1; have := iv.1; grind) fun s ms => ?_
  have h1 := iu.2.1 s ms
  have h2 := iv.2.1 s ms
  unfold dot at *
  simp only
  grind
/-- a larger figure is not later -/
theorem time_mono {P Q : PL} (c : Can P) (h0 : In P o0) (d : Can Q) (l3 : 3 ≤ Q.length) (i0 : In Q o0) (h : ∀ p ∈ Q, In P p) {v : Pt} {t : Rat} (ht : timeQ Q v = some t) : ∃ u, timeQ P v = some u ∧ u ≤ t := by
  obtain ⟨e, me, a, b, _, a0, b0, ab, ev⟩ := time_edge d l3 i0 ht
  have mm := edg_ne d (by omega) me
  obtain ⟨u, hu, le⟩ := time_cone c h0 (h _ mm.2.1) (h _ mm.2.2) a0 b0
  rw [← ev] at hu
  exact ⟨u, hu, by grind⟩
/-- the time of a starter to a place -/
noncomputable def tmR (r : Rc) (v : Pt) : Rat := (timeQ r.P (subP v r.2.2)).getD 0
theorem GoodR.tm {r : Rc} (g : GoodR r) (v : Pt) : timeQ r.P (subP v r.2.2) = some (tmR r v) := by
  obtain ⟨t, e, _⟩ := g.rdy.time (subP v r.2.2)
  unfold tmR
  rw [e]
  rfl
end WV

open PySem L2
set_option Elab.async false
set_option linter.all false
set_option maxRecDepth 100000
set_option maxHeartbeats 1000000
/-! # ways by the corners of an edge; crafts -/
namespace WV
open PySem PySem.Spec PyProof.Rows L2 WF WP
theorem edge_time {P : PL} (c : Can P) (l3 : 3 ≤ P.length) (h0 : In P o0) {e : Pt × Pt} (me : e ∈ edg P) (hp : 0 < cr e.1 e.2) {v : Pt} (h1 : 0 ≤ cr v e.2) (h2 : 0 ≤ cr e.1 v) : timeQ P v = some ((cr v e.2 + cr e.1 v) / cr e.1 e.2) := by
  have mm := edg_ne c (by omega) me
  have cn : cr e.1 e.2 ≠ 0 := by grind
  have hh : ∀ p ∈ P, ∀ s ∈ sidesQ P, dot s.1 p ≤ s.2 := fun p mp' => (held_in c).mpr (corner_in c mp')
  generalize hA : cr v e.2 = A at *
  generalize hB : cr e.1 v = Bq at *
  have t0 : (A + Bq) / cr e.1 e.2 * cr e.1 e.2 = A + Bq := by grind
  refine timeQ_eq c h0 ⟨?_, fun s ms => ?_, .inr ⟨sideQ (outer e.1 e.2) e.1, ?_, ?_, ?_⟩⟩
  · exact nm (b := cr e.1 e.2) (by grind) hp
  · have a1 := hh _ mm.2.1 s ms
    have a2 := hh _ mm.2.2 s ms
    -- dot s v * C = A * dot s e1 + B * dot s e2
    have id : dot s.1 v * cr e.1 e.2 = A * dot s.1 e.1 + Bq * dot s.1 e.2 := by rw [← hA, ← hB]; unfold dot cr; grind
    have b1 := mn h1 (show 0 ≤ s.2 - dot s.1 e.1 by grind)
    have b2 := mn h2 (show 0 ≤ s.2 - dot s.1 e.2 by grind)
    have : 0 ≤ ((A + Bq) / cr e.1 e.2 * s.2 - dot s.1 v) * cr e.1 e.2 := by
      have : ((A + Bq) / cr e.1 e.2 * s.2 - dot s.1 v) * cr e.1 e.2 = (A + Bq) * s.2 - dot s.1 v * cr e.1 e.2 := by
        rw [← t0]; grind
      rw [this, id]
      grind
    have := nm this hp
    grind
  · rw [sidesQ3 l3]
    exact List.mem_map.mpr ⟨e, me, rfl⟩
  · have : (sideQ (outer e.1 e.2) e.1).2 = cr e.1 e.2 := by unfold sideQ outer dot cr; grind
    rw [this]; exact hp
  · have e1 : (sideQ (outer e.1 e.2) e.1).2 = cr e.1 e.2 := by unfold sideQ outer dot cr; grind
    rw [e1, t0, ← hA, ← hB]
    unfold sideQ outer dot cr
    grind
/-- an edge whose corners make the way -/
def isLeg (v : Pt) (e : Pt × Pt) : Bool := decide (0 < cr e.1 e.2) && decide (0 ≤ cr v e.2) && decide (0 ≤ cr e.1 v)
theorem isLeg_iff {v : Pt} {e : Pt × Pt} : isLeg v e = true ↔ 0 < cr e.1 e.2 ∧ 0 ≤ cr v e.2 ∧ 0 ≤ cr e.1 v := by
  unfold isLeg
  simp [and_assoc]
def legE (v : Pt) (e : Pt × Pt) : List (Pt × Rat) := (if 0 < cr v e.2 then [(e.1, cr v e.2 / cr e.1 e.2)] else []) ++ (if 0 < cr e.1 v then [(e.2, cr e.1 v / cr e.1 e.2)] else [])
theorem leg_none {P : PL} (c : Can P) (l3 : 3 ≤ P.length) (h0 : In P o0) {v : Pt} (h : (edg P).find? (isLeg v) = none) : timeQ P v = none := by
  cases ht : timeQ P v with
  | none => rfl
  | some t =>
    obtain ⟨e, me, a, b, hp, a0, b0, ab, ev⟩ := time_edge c l3 h0 ht
    have e1 : cr v e.2 = a * cr e.1 e.2 := by rw [ev]; unfold cr; grind
    have e2 : cr e.1 v = b * cr e.1 e.2 := by rw [ev]; unfold cr; grind
    have := List.find?_eq_none.mp h e me
    exact absurd (isLeg_iff.mpr ⟨hp, by rw [e1]; exact mn a0 (Rat.le_of_lt hp), by rw [e2]; exact mn b0 (Rat.le_of_lt hp)⟩) this
theorem leg_some {P : PL} (c : Can P) (l3 : 3 ≤ P.length) (h0 : In P o0) {v : Pt} {e : Pt × Pt} (h : (edg P).find? (isLeg v) = some e) : e ∈ edg P ∧ 0 < cr e.1 e.2 ∧ 0 ≤ cr v e.2 ∧ 0 ≤ cr e.1 v ∧ timeQ P v = some ((cr v e.2 + cr e.1 v) / cr e.1 e.2) := by
  have me := List.mem_of_find?_eq_some h
  have hp := isLeg_iff.mp (List.find?_some h)
  exact ⟨me, hp.1, hp.2.1, hp.2.2, edge_time c l3 h0 me hp.1 hp.2.1 hp.2.2⟩
theorem corner_one {P : PL} (c : Can P) (l3 : 3 ≤ P.length) (h0 : In P o0) {p : Pt} (m : p ∈ P) (ne : p ≠ o0) : timeQ P p = some 1 := by
  obtain ⟨t, ht, t1⟩ := (in_time c h0).mp (corner_in c m)
  obtain ⟨n, hn, hu⟩ := exposed c m
  have z : dot n o0 = 0 := by unfold dot o0; grind
  have pos : 0 < dot n p := by
    apply Classical.byContradiction
    intro q
    exact ne (hu o0 ((in_iff c).mp h0) (by grind)).symm
  obtain ⟨e, me, a, b, _, a0, b0, ab, ev⟩ := time_edge c l3 h0 ht
  have mm := edg_ne c (by omega) me
  have q1 := mn a0 (show 0 ≤ dot n p - dot n e.1 by have := hn _ mm.2.1; grind)
  have q2 := mn b0 (show 0 ≤ dot n p - dot n e.2 by have := hn _ mm.2.2; grind)
  have id : dot n p = a * dot n e.1 + b * dot n e.2 := by
    have : dot n ⟨a * e.1.x + b * e.2.x, a * e.1.y + b * e.2.y⟩ = a * dot n e.1 + b * dot n e.2 := by unfold dot; grind
    rw [← ev] at this
    exact this
  have : 0 ≤ (t - 1) * dot n p := by rw [← ab]; grind
  have := nm this pos
  rw [ht]
  congr 1
  grind
theorem time_scale {P : PL} (c : Can P) (h0 : In P o0) {r : Rat} (hr : 0 < r) (v : Pt) : timeQ P (mulP r v) = (timeQ P v).map (r * ·) := by
  have i := timeQ_is c h0 v
  have dm : ∀ s : Pt × Rat, dot s.1 (mulP r v) = r * dot s.1 v := fun s => by unfold dot mulP; grind
  cases ht : timeQ P v with
  | none =>
    rw [ht] at i
    obtain ⟨s, ms, z, p⟩ := i
    exact timeQ_eq c h0 (r := none) ⟨s, ms, z, by rw [dm]; exact mp hr p⟩
  | some t =>
    rw [ht] at i
    obtain ⟨t0, a, b⟩ := i
    refine timeQ_eq c h0 (r := some (r * t)) ⟨mn (Rat.le_of_lt hr) t0, fun s ms => ?_, ?_⟩
    · rw [dm]
      have := mn (Rat.le_of_lt hr) (show 0 ≤ t * s.2 - dot s.1 v by have := a s ms; grind)
      grind
    · rcases b with z | ⟨s, ms, s0, e⟩
      · left; rw [z]; grind
      · exact .inr ⟨s, ms, s0, by rw [dm, e]; grind⟩
theorem time_zero {P : PL} (c : Can P) (h0 : In P o0) : timeQ P o0 = some 0 := timeQ_eq c h0 ⟨Rat.le_refl, fun s _ => by unfold dot o0; grind, .inl rfl⟩
/-- figures as the laws draw them -/
structure Crf (n : Nat) (P : PL) : Prop where
  can : Can P
  l3 : 3 ≤ P.length
  l12 : P.length ≤ 12
  bp : ∀ p ∈ P, Bp n p
  in0 : In P o0
theorem Crf.fig {n : Nat} {P : PL} (k : Crf n P) (hn : n ≤ 600) : Fig n P := ⟨k.can, k.l3, by have := k.l12; omega, k.bp, ⟨by
  have h1 : n * (P.length + 1) ≤ 600 * 13 := Nat.mul_le_mul hn (by have := k.l12; omega)
  omega, by omega⟩, k.in0⟩
theorem Crf.mono {n m : Nat} {P : PL} (k : Crf n P) (l : n ≤ m) : Crf m P := ⟨k.can, k.l3, k.l12, fun p h => (k.bp p h).mono l, k.in0⟩
theorem hull_crf {n : Nat} {ps : PL} (h3 : 3 ≤ (hullQ ps).length) (l : ps.length ≤ 12) (bp : ∀ p ∈ ps, Bp n p) (m0 : Le [o0] ps) : Crf n (hullQ ps) := by
  have ne : ps ≠ [] := by
    rintro rfl
    obtain ⟨b, mb, _⟩ := m0 o0 o0 (by simp)
    cases mb
  have c := hullQ_can ne
  exact ⟨c, h3, Nat.le_trans (hullQ_len ne) l, fun p h => bp p (hullQ_sub ne p h), (in_iff c).mpr (m0.trans (hullQ_le ne))⟩
theorem le0 {ps : PL} (m : o0 ∈ ps) : Le [o0] ps := Le.of_sub fun a ma => by rw [List.mem_singleton.mp ma]; exact m
theorem Crf.mul {n m : Nat} {P : PL} (k : Crf n P) {r : Rat} (hr : 0 < r) (bp : ∀ p ∈ P, Bp m (mulP r p)) : Crf m (P.map (mulP r)) := by
  have c := can_mul hr k.can
  exact ⟨c, by simpa using k.l3, by simpa using k.l12, fun p h => by
    obtain ⟨q, mq, rfl⟩ := List.mem_map.mp h
    exact bp q mq, in0_mul hr k.can k.in0⟩
section
variable {Φ : Nat → PF} {α : Type}
/-- a loop that answers at the first item with t -/
theorem forFind {p : CP} {b : CSs} {g : α → D} {t : α → Bool} {r : α → D} {I : ASt → Prop} : ∀ {l : List α} {σ : ASt}, (∀ a ∈ l, ∀ σ, I σ → if t a = true then (evP p (g a) σ).bind (evSs Φ b) = some (.rt (r a)) else ∃ σ', (evP p (g a) σ).bind (evSs Φ b) = some (.nx σ') ∧ I σ') → I σ →
    (∀ a, l.find? t = some a → forE Φ p b (l.map g) σ = some (.rt (r a))) ∧ (l.find? t = none → ∃ σ', forE Φ p b (l.map g) σ = some (.nx σ') ∧ I σ')
  | [], σ, _, i => ⟨fun a h => (by cases h), fun _ => ⟨σ, rfl, i⟩⟩
  | a :: l, σ, h, i => by
    have h1 := h a List.mem_cons_self σ i
    by_cases q : t a = true
    · rw [if_pos q] at h1
      rw [List.find?_cons_of_pos q]
      refine ⟨fun x e => ?_, fun e => (by cases e)⟩
      cases e
      rw [List.map_cons, forE_cons, h1]
      rfl
    · rw [if_neg q] at h1
      obtain ⟨σ1, e1, i1⟩ := h1
      rw [List.find?_cons_of_neg q]
      have ih := forFind (l := l) (σ := σ1) (fun x m => h x (List.mem_cons_of_mem _ m)) i1
      rw [List.map_cons, forE_cons, e1]
      exact ih
end
end WV

open PySem L2
set_option Elab.async false
set_option linter.all false
set_option maxRecDepth 100000
set_option maxHeartbeats 1000000
/-! # small things: lists beside [], what is shown -/
namespace WV
open PySem PySem.Spec PyProof.Rows L2 WF WP
theorem eq_nilL {ds : List D} {e : Nat} (n : Bool) (hl : ∀ d ∈ ds, Lay d e) (he : e < 60) : eqE n (.lst ds) (.lst []) = some (.bl (if n then !decide (ds = []) else decide (ds = []))) := by
  obtain ⟨ps, g1, g2, g3, g4⟩ := Lays hl
  have h2 : SeqAt.shaped (.list ps) = true := by simp [SeqAt.shaped, PyData.canLay0, g2, PyData.depth]; omega
  have h3 : SeqAt.shaped (.list []) = true := rfl
  have h4 : PyData.eqv (.list ps) (.list []) = decide (ds = []) := by
    cases ps with
    | nil =>
      have : ds = [] := List.length_eq_zero_iff.mp g4.symm
      subst this
      rfl
    | cons a b =>
      cases ds with
      | nil => simp at g4
      | cons c d => rfl
  show eqD n _ _ = _
  simp only [eqD, pd0, g1, pds, eqP, h2, h3, h4, Option.map_some, Option.bind_some]
  simp
theorem shw_oD {n : Nat} {r : Option Rat} (h : Bo n r) (l : n ≤ 1900) : Shw (oD r) 5773 2 := by
  cases r with
  | none => exact Shw.non.mono (by decide) (by decide)
  | some t => exact shw_fD h l
def oV : Option Pt → D
  | none => .non
  | some p => vD p
theorem shw_oV {n : Nat} {r : Option Pt} (h : ∀ p, r = some p → Bp n p) (l : n ≤ 1900) : Shw (oV r) 5773 2 := by
  cases r with
  | none => exact Shw.non.mono (by decide) (by decide)
  | some p => exact shw_vD (h p rfl) l
theorem shw_l {ds : List D} {k e m : Nat} (h : ∀ d ∈ ds, Shw d k e) (hm : ds.length ≤ m) : Shw (.lst ds) (m * (k + 2) + 4) (e + 1) := (Shw.lst h).mono (by have := Nat.mul_le_mul_right (k + 2) hm; omega) (Nat.le_refl _)
theorem shw_t {ds : List D} {k e m : Nat} (h : ∀ d ∈ ds, Shw d k e) (hm : ds.length ≤ m) : Shw (.tup ds) (m * (k + 2) + 4) (e + 1) := (Shw.tup h).mono (by have := Nat.mul_le_mul_right (k + 2) hm; omega) (Nat.le_refl _)
theorem mem2 {d a b : D} (h : d ∈ [a, b]) : d = a ∨ d = b := by simpa using h
theorem mem3 {d a b c : D} (h : d ∈ [a, b, c]) : d = a ∨ d = b ∨ d = c := by simpa using h
/-- shown, of what is small -/
theorem shw_some {d : D} {k e : Nat} (h : Shw d k e) (hk : k ≤ 16777216) (he : e ≤ 64) : ∃ s, reprE d = some (.str s) := ⟨_, repr_eq h hk he⟩
theorem corner_in' {P : PL} (c : Can P) {p : Pt} (m : p ∈ P) : In P p := corner_in c m
end WV

open PySem L2
set_option Elab.async false
set_option linter.all false
set_option maxRecDepth 100000
set_option maxHeartbeats 0
namespace K27
open PySem PySem.Spec PyProof.Rows L2 WF WV WP
abbrev top (i : Nat) : Stmt := PySem.Challenge.pw_windfigure_k27_whole_never_later_on_any.main.body.getD i (.Pass ⟨0, 0, 0, 0⟩)
abbrev N_law_rounds : List Str := (["_law_script"] : List Str)
def c_law_rounds : CSs := (.cons (.ret (.bi .max (.cons (.cst (.int 2)) (.cons (.bi .min (.cons (.bi .len (.cons (.var 0) .nil)) (.cons (.cst (.int 3)) .nil))) .nil)))) .nil)
abbrev N_law_draw : List Str := (["_law_source_here", "_law_many", "_law_step", "_law_digit"] : List Str)
def c_law_draw : CSs := (.cons (.ife (.cmp .Gt (.idx (.var 0) (.cst (.int 0))) (.cst (.int 0))) (.cons (.asg (.tp (.cons (.sb (.var 0) (.cst (.int 0))) (.cons (.nm 3) .nil))) (.bi .divmod (.cons (.idx (.var 0) (.cst (.int 0))) (.cons (.var 1) .nil)))) (.cons (.ret (.var 3)) .nil)) .nil) (.cons (.asg (.sb (.var 0) (.cst (.int 2))) (.bin .Add false (.idx (.var 0) (.cst (.int 2))) (.cst (.int 1)))) (.cons (.asg (.nm 2) (.bin .Mod false (.bi .int (.cons (.bin .Add false (.idx (.var 0) (.cst (.int 1))) (.bin .Mult false (.cst (.int 7919)) (.idx (.var 0) (.cst (.int 2))))) .nil)) (.cst (.int 1000000007)))) (.cons (.asg (.sb (.var 0) (.cst (.int 1))) (.bin .Mod false (.bi .int (.cons (.bin .Add false (.bin .Mult false (.var 2) (.bin .Add false (.bin .Mod false (.bi .int (.cons (.var 2) .nil)) (.cst (.int 9973))) (.cst (.int 30011)))) (.cst (.int 13))) .nil)) (.cst (.int 1000000007)))) (.cons (.ret (.bin .Mod false (.bi .int (.cons (.bin .FloorDiv false (.idx (.var 0) (.cst (.int 1))) (.cst (.int 89))) .nil)) (.var 1))) .nil)))))
abbrev N_law_left : List Str := (["_law_one", "_law_two", "_law_three", "_law_first"] : List Str)
def c_law_left : CSs := (.cons (.asg (.nm 3) (.bin .Sub false (.bin .Mult false (.idx (.var 0) (.cst (.int 0))) (.bin .Sub false (.bin .Mult false (.idx (.var 1) (.cst (.int 1))) (.idx (.var 2) (.cst (.int 2)))) (.bin .Mult false (.idx (.var 1) (.cst (.int 2))) (.idx (.var 2) (.cst (.int 1)))))) (.bin .Mult false (.idx (.var 0) (.cst (.int 1))) (.bin .Sub false (.bin .Mult false (.idx (.var 1) (.cst (.int 0))) (.idx (.var 2) (.cst (.int 2)))) (.bin .Mult false (.idx (.var 1) (.cst (.int 2))) (.idx (.var 2) (.cst (.int 0)))))))) (.cons (.ret (.bin .Add false (.var 3) (.bin .Mult false (.idx (.var 0) (.cst (.int 2))) (.bin .Sub false (.bin .Mult false (.idx (.var 1) (.cst (.int 0))) (.idx (.var 2) (.cst (.int 1)))) (.bin .Mult false (.idx (.var 1) (.cst (.int 1))) (.idx (.var 2) (.cst (.int 0)))))))) .nil))
abbrev N_law_chain : List Str := (["_law_row", "_law_found", "_law_spot_here"] : List Str)
def c_law_chain : CSs := (.cons (.asg (.nm 1) (.lst true .nil)) (.cons (.for_ (.nm 2) (.seq (.var 0)) (.cons (.whl (.con .And (.cons (.cmp .Gt (.bi .len (.cons (.var 1) .nil)) (.cst (.int 1))) (.cons (.cmp .LtE (.fn 2 (.cons (.idx (.var 1) (.neg (.cst (.int 2)))) (.cons (.idx (.var 1) (.neg (.cst (.int 1)))) (.cons (.var 2) .nil)))) (.cst (.int 0))) .nil))) (.cons (.expr (.met .pop 1 .nil)) .nil)) (.cons (.ife (.con .Or (.cons (.cmp .Eq (.bi .len (.cons (.var 1) .nil)) (.cst (.int 0))) (.cons (.cmp .NotEq (.idx (.var 1) (.neg (.cst (.int 1)))) (.var 2)) .nil))) (.cons (.expr (.met .append 1 (.cons (.var 2) .nil))) .nil) .nil) .nil))) (.frz 1 (.cons (.ret (.var 1)) .nil))))
abbrev N_law_least : List Str := (["_law_numbers", "_law_part_here", "_law_number", "_law_one", "_law_two"] : List Str)
def c_law_least : CSs := (.cons (.asg (.nm 1) (.cst (.int 0))) (.cons (.for_ (.nm 2) (.seq (.var 0)) (.cons (.par2 3 4 (.cons (.var 1) (.cons (.bi .abs (.cons (.var 2) .nil)) .nil))) (.cons (.whl (.cmp .Gt (.var 4) (.cst (.int 0))) (.cons (.par2 3 4 (.cons (.var 4) (.cons (.bin .Mod false (.bi .int (.cons (.var 3) .nil)) (.var 4)) .nil))) .nil)) (.cons (.asg (.nm 1) (.var 3)) .nil)))) (.cons (.ret (.bi .tuple (.cons (.lc false (.nm 2) (.seq (.var 0)) .nil (.bin .FloorDiv false (.var 2) (.bi .max (.cons (.cst (.int 1)) (.cons (.var 1) .nil)))) [("_law_number", 2)]) .nil))) .nil)))
abbrev N_law_hull : List Str := (["_law_spots", "_law_whole", "_law_spot_here", "_law_row", "_law_found"] : List Str)
def c_law_hull : CSs := (.cons (.asg (.nm 1) (.cst (.int 1))) (.cons (.for_ (.nm 2) (.seq (.var 0)) (.cons (.asg (.nm 1) (.bin .Mult false (.idx (.fn 4 (.cons (.tup (.cons (.var 1) (.cons (.idx (.var 2) (.cst (.int 2))) .nil))) .nil)) (.cst (.int 0))) (.idx (.var 2) (.cst (.int 2))))) .nil)) (.cons (.asg (.nm 3) (.bi (.sorted false) (.cons (.lc false (.nm 2) (.seq (.var 0)) .nil (.tup (.cons (.bin .Mult false (.idx (.var 2) (.cst (.int 0))) (.bin .FloorDiv false (.var 1) (.idx (.var 2) (.cst (.int 2))))) (.cons (.bin .Mult false (.idx (.var 2) (.cst (.int 1))) (.bin .FloorDiv false (.var 1) (.idx (.var 2) (.cst (.int 2))))) (.cons (.var 1) .nil)))) [("_law_spot_here", 2)]) .nil))) (.cons (.asg (.nm 4) (.bin .Add false (.cut false (.fn 3 (.cons (.var 3) .nil)) .no (.pt (.neg (.cst (.int 1))))) (.cut false (.fn 3 (.cons (.rvd false true (.var 3)) .nil)) .no (.pt (.neg (.cst (.int 1))))))) (.cons (.ret (.bi .tuple (.cons (.lc false (.nm 2) (.seq (.ife (.cmp .Gt (.bi .len (.cons (.var 4) .nil)) (.cst (.int 0))) (.var 4) (.cut false (.var 3) .no (.pt (.cst (.int 1)))))) .nil (.fn 4 (.cons (.var 2) .nil)) [("_law_spot_here", 2)]) .nil))) .nil)))))
abbrev N_law_pick : List Str := (["_law_source_here", "_law_some"] : List Str)
def c_law_pick : CSs := (.cons (.ret (.idx (.var 1) (.fn 1 (.cons (.var 0) (.cons (.bi .len (.cons (.var 1) .nil)) .nil))))) .nil)
abbrev N_law_spot : List Str := (["_law_source_here", "_law_most", "_law_low"] : List Str)
def c_law_spot : CSs := (.cons (.par2 1 2 (.cons (.fn 6 (.cons (.var 0) (.cons (.tup (.cons (.cst (.int 2)) (.cons (.cst (.int 3)) (.cons (.cst (.int 3)) (.cons (.cst (.int 5)) (.cons (.cst (.int 9)) (.cons (.cst (.int 99)) .nil))))))) .nil))) (.cons (.fn 6 (.cons (.var 0) (.cons (.tup (.cons (.cst (.int 1)) (.cons (.cst (.int 1)) (.cons (.cst (.int 1)) (.cons (.cst (.int 2)) (.cons (.cst (.int 3)) (.cons (.cst (.int 5)) .nil))))))) .nil))) .nil))) (.cons (.ret (.fn 4 (.cons (.tup (.cons (.bin .Sub false (.fn 1 (.cons (.var 0) (.cons (.bin .Add false (.bin .Mult false (.cst (.int 2)) (.var 1)) (.cst (.int 1))) .nil))) (.var 1)) (.cons (.bin .Sub false (.fn 1 (.cons (.var 0) (.cons (.bin .Add false (.bin .Mult false (.cst (.int 2)) (.var 1)) (.cst (.int 1))) .nil))) (.var 1)) (.cons (.var 2) .nil)))) .nil))) .nil))
abbrev N_law_craft : List Str := (["_law_source_here", "_law_sort", "_law_found", "_law_each", "_law_spot_here"] : List Str)
def c_law_craft : CSs := (.cons (.asg (.nm 1) (.fn 1 (.cons (.var 0) (.cons (.cst (.int 8)) .nil)))) (.cons (.asg (.nm 2) (.bin .Add false (.lc false (.nm 3) (.rng (.cons (.bin .Add false (.cst (.int 2)) (.fn 1 (.cons (.var 0) (.cons (.cst (.int 3)) .nil)))) .nil)) .nil (.fn 7 (.cons (.var 0) .nil)) [("_law_each", 3)]) (.lst false (.cons (.tup (.cons (.cst (.int 0)) (.cons (.cst (.int 0)) (.cons (.cst (.int 1)) .nil)))) .nil)))) (.cons (.ife (.cmp .Lt (.var 1) (.cst (.int 2))) (.cons (.asg (.nm 2) (.bin .Add false (.lc false (.nm 4) (.seq (.var 2)) .nil (.tup (.cons (.bi .abs (.cons (.idx (.var 4) (.cst (.int 0))) .nil)) (.cons (.idx (.var 4) (.cst (.int 1))) (.cons (.idx (.var 4) (.cst (.int 2))) .nil)))) [("_law_spot_here", 4)]) (.lst false (.cons (.tup (.cons (.cst (.int 1)) (.cons (.cst (.int 0)) (.cons (.cst (.int 1)) .nil)))) (.cons (.tup (.cons (.cst (.int 2)) (.cons (.cst (.int 1)) (.cons (.cst (.int 1)) .nil)))) .nil))))) .nil) .nil) (.cons (.ife (.cmp .Eq (.var 1) (.cst (.int 2))) (.cons (.asg (.nm 2) (.bin .Add false (.lc false (.nm 4) (.seq (.var 2)) .nil (.tup (.cons (.idx (.var 4) (.cst (.int 0))) (.cons (.bi .abs (.cons (.idx (.var 4) (.cst (.int 1))) .nil)) (.cons (.idx (.var 4) (.cst (.int 2))) .nil)))) [("_law_spot_here", 4)]) (.lst false (.cons (.tup (.cons (.neg (.cst (.int 1))) (.cons (.cst (.int 0)) (.cons (.cst (.int 1)) .nil)))) (.cons (.tup (.cons (.cst (.int 2)) (.cons (.cst (.int 0)) (.cons (.cst (.int 1)) .nil)))) (.cons (.tup (.cons (.cst (.int 0)) (.cons (.cst (.int 1)) (.cons (.cst (.int 1)) .nil)))) .nil)))))) .nil) .nil) (.cons (.ife (.cmp .Gt (.var 1) (.cst (.int 4))) (.cons (.asg (.nm 2) (.bin .Add false (.var 2) (.lst false (.cons (.tup (.cons (.neg (.cst (.int 1))) (.cons (.neg (.cst (.int 1))) (.cons (.cst (.int 1)) .nil)))) (.cons (.tup (.cons (.cst (.int 1)) (.cons (.neg (.cst (.int 1))) (.cons (.cst (.int 2)) .nil)))) (.cons (.tup (.cons (.cst (.int 0)) (.cons (.cst (.int 1)) (.cons (.cst (.int 1)) .nil)))) .nil)))))) .nil) .nil) (.cons (.asg (.nm 2) (.fn 5 (.cons (.var 2) .nil))) (.cons (.ret (.ife (.cmp .Gt (.bi .len (.cons (.var 2) .nil)) (.cst (.int 2))) (.var 2) (.tup (.cons (.tup (.cons (.cst (.int 0)) (.cons (.cst (.int 0)) (.cons (.cst (.int 1)) .nil)))) (.cons (.tup (.cons (.cst (.int 2)) (.cons (.cst (.int 0)) (.cons (.cst (.int 1)) .nil)))) (.cons (.tup (.cons (.cst (.int 0)) (.cons (.cst (.int 1)) (.cons (.cst (.int 1)) .nil)))) .nil)))))) .nil)))))))
abbrev N_law_grow : List Str := (["_law_spot_here", "_law_share"] : List Str)
def c_law_grow : CSs := (.cons (.ret (.fn 4 (.cons (.tup (.cons (.bin .Mult false (.idx (.var 0) (.cst (.int 0))) (.idx (.var 1) (.cst (.int 0)))) (.cons (.bin .Mult false (.idx (.var 0) (.cst (.int 1))) (.idx (.var 1) (.cst (.int 0)))) (.cons (.bin .Mult false (.idx (.var 0) (.cst (.int 2))) (.idx (.var 1) (.cst (.int 1)))) .nil)))) .nil))) .nil)
abbrev N_law_sized : List Str := (["_law_shape", "_law_share", "_law_spot_here"] : List Str)
def c_law_sized : CSs := (.cons (.ret (.fn 5 (.cons (.lc false (.nm 2) (.seq (.var 0)) .nil (.fn 9 (.cons (.var 2) (.cons (.var 1) .nil))) [("_law_spot_here", 2)]) .nil))) .nil)
abbrev N_law_second : List Str := (["_law_source_here", "_law_craft_here", "_law_sort", "_law_found", "_law_spot_here"] : List Str)
def c_law_second : CSs := (.cons (.asg (.nm 2) (.fn 1 (.cons (.var 0) (.cons (.cst (.int 8)) .nil)))) (.cons (.ife (.cmp .Eq (.var 2) (.cst (.int 0))) (.cons (.ret (.var 1)) .nil) .nil) (.cons (.ife (.cmp .Eq (.var 2) (.cst (.int 1))) (.cons (.ret (.fn 10 (.cons (.var 1) (.cons (.fn 6 (.cons (.var 0) (.cons (.tup (.cons (.tup (.cons (.cst (.int 1)) (.cons (.cst (.int 2)) .nil))) (.cons (.tup (.cons (.cst (.int 2)) (.cons (.cst (.int 1)) .nil))) (.cons (.tup (.cons (.cst (.int 3)) (.cons (.cst (.int 4)) .nil))) (.cons (.tup (.cons (.cst (.int 5)) (.cons (.cst (.int 3)) .nil))) .nil))))) .nil))) .nil)))) .nil) .nil) (.cons (.ife (.cmp .Lt (.var 2) (.cst (.int 4))) (.cons (.ret (.fn 5 (.cons (.bin .Add false (.bi (.list false) (.cons (.var 1) .nil)) (.lst false (.cons (.fn 7 (.cons (.var 0) .nil)) .nil))) .nil))) .nil) .nil) (.cons (.asg (.nm 3) (.fn 5 (.cons (.bin .Add false (.lc false (.nm 4) (.seq (.var 1)) (.cons (.cmp .NotEq (.var 4) (.idx (.var 1) (.neg (.cst (.int 1))))) .nil) (.var 4) [("_law_spot_here", 4)]) (.lst false (.cons (.tup (.cons (.cst (.int 0)) (.cons (.cst (.int 0)) (.cons (.cst (.int 1)) .nil)))) .nil))) .nil))) (.cons (.ret (.ife (.con .And (.cons (.cmp .Eq (.var 2) (.cst (.int 4))) (.cons (.cmp .Gt (.bi .len (.cons (.var 3) .nil)) (.cst (.int 2))) .nil))) (.var 3) (.fn 8 (.cons (.var 0) .nil)))) .nil))))))
abbrev N_law_add : List Str := (["_law_one", "_law_two", "_law_low"] : List Str)
def c_law_add : CSs := (.cons (.asg (.nm 2) (.bin .Mult false (.idx (.var 0) (.cst (.int 2))) (.idx (.var 1) (.cst (.int 2))))) (.cons (.ret (.fn 4 (.cons (.tup (.cons (.bin .Add false (.bin .Mult false (.idx (.var 0) (.cst (.int 0))) (.idx (.var 1) (.cst (.int 2)))) (.bin .Mult false (.idx (.var 1) (.cst (.int 0))) (.idx (.var 0) (.cst (.int 2))))) (.cons (.bin .Add false (.bin .Mult false (.idx (.var 0) (.cst (.int 1))) (.idx (.var 1) (.cst (.int 2)))) (.bin .Mult false (.idx (.var 1) (.cst (.int 1))) (.idx (.var 0) (.cst (.int 2))))) (.cons (.var 2) .nil)))) .nil))) .nil))
abbrev N_law_midway : List Str := (["_law_one", "_law_two", "_law_share"] : List Str)
def c_law_midway : CSs := (.cons (.ret (.fn 12 (.cons (.fn 9 (.cons (.var 0) (.cons (.tup (.cons (.bin .Sub false (.idx (.var 2) (.cst (.int 1))) (.idx (.var 2) (.cst (.int 0)))) (.cons (.idx (.var 2) (.cst (.int 1))) .nil))) .nil))) (.cons (.fn 9 (.cons (.var 1) (.cons (.var 2) .nil))) .nil)))) .nil)
abbrev N_common_divisor : List Str := (["numbers", "found", "number"] : List Str)
def c_common_divisor : CSs := (.cons (.asg (.nm 1) (.cst (.int 0))) (.cons (.for_ (.nm 2) (.seq (.var 0)) (.cons (.asg (.nm 1) (.mf .gcd (.cons (.var 1) (.cons (.var 2) .nil)))) .nil)) (.cons (.ret (.var 1)) .nil)))
abbrev N_lowest : List Str := (["numbers", "divisor", "number"] : List Str)
def c_lowest : CSs := (.cons (.asg (.nm 1) (.fn 14 (.cons (.var 0) .nil))) (.cons (.ret (.bi .tuple (.cons (.lc false (.nm 2) (.seq (.var 0)) .nil (.bin .FloorDiv false (.var 2) (.var 1)) [("number", 2)]) .nil))) .nil))
abbrev N_is_left : List Str := (["one", "two", "three"] : List Str)
def c_is_left : CSs := (.cons (.ret (.cmp .Gt (.bin .Mult false (.bin .Sub false (.idx (.var 1) (.cst (.int 0))) (.idx (.var 0) (.cst (.int 0)))) (.bin .Sub false (.idx (.var 2) (.cst (.int 1))) (.idx (.var 0) (.cst (.int 1))))) (.bin .Mult false (.bin .Sub false (.idx (.var 1) (.cst (.int 1))) (.idx (.var 0) (.cst (.int 1)))) (.bin .Sub false (.idx (.var 2) (.cst (.int 0))) (.idx (.var 0) (.cst (.int 0))))))) .nil)
abbrev N_chain : List Str := (["rows", "found", "row"] : List Str)
def c_chain : CSs := (.cons (.asg (.nm 1) (.lst true .nil)) (.cons (.for_ (.nm 2) (.seq (.var 0)) (.cons (.whl (.con .And (.cons (.cmp .Gt (.bi .len (.cons (.var 1) .nil)) (.cst (.int 1))) (.cons (.nt (.fn 16 (.cons (.idx (.var 1) (.neg (.cst (.int 2)))) (.cons (.idx (.var 1) (.neg (.cst (.int 1)))) (.cons (.var 2) .nil))))) .nil))) (.cons (.expr (.met .pop 1 .nil)) .nil)) (.cons (.expr (.met .append 1 (.cons (.var 2) .nil))) .nil))) (.frz 1 (.cons (.ret (.var 1)) .nil))))
abbrev N_hull : List Str := (["points", "under", "point", "rows", "found", "x", "y", "w"] : List Str)
def c_hull : CSs := (.cons (.asg (.nm 1) (.cst (.int 1))) (.cons (.for_ (.nm 2) (.seq (.var 0)) (.cons (.asg (.nm 1) (.mf .lcm (.cons (.var 1) (.cons (.idx (.var 2) (.cst (.int 2))) .nil)))) .nil)) (.cons (.asg (.nm 3) (.srtC false (.tp (.cons (.nm 5) (.cons (.nm 6) (.cons (.nm 7) .nil)))) (.seq (.var 0)) (.tup (.cons (.bin .Mult false (.var 5) (.bin .FloorDiv false (.var 1) (.var 7))) (.cons (.bin .Mult false (.var 6) (.bin .FloorDiv false (.var 1) (.var 7))) .nil))) [("x", 5), ("y", 6), ("w", 7)])) (.cons (.asg (.nm 4) (.ife (.cmp .Eq (.bi .len (.cons (.var 3) .nil)) (.cst (.int 1))) (.var 3) (.bin .Add false (.cut false (.fn 17 (.cons (.var 3) .nil)) .no (.pt (.neg (.cst (.int 1))))) (.cut false (.fn 17 (.cons (.rev false (.var 3)) .nil)) .no (.pt (.neg (.cst (.int 1)))))))) (.cons (.ret (.bi .tuple (.cons (.lc false (.tp (.cons (.nm 5) (.cons (.nm 6) .nil))) (.seq (.var 4)) .nil (.fn 15 (.cons (.tup (.cons (.var 5) (.cons (.var 6) (.cons (.var 1) .nil)))) .nil)) [("x", 5), ("y", 6)]) .nil))) .nil)))))
abbrev N_is_whole : List Str := (["value"] : List Str)
def c_is_whole : CSs := (.cons (.ret (.con .And (.cons (.bi .isi (.cons (.var 0) (.cons (.ty "int") .nil))) (.cons (.nt (.bi .isi (.cons (.var 0) (.cons (.ty "bool") .nil)))) .nil)))) .nil)
abbrev N_are_wholes : List Str := (["value", "many", "number"] : List Str)
def c_are_wholes : CSs := (.cons (.ret (.con .And (.cons (.bi .isi (.cons (.var 0) (.cons (.ty "tuple") .nil))) (.cons (.cmp .Eq (.bi .len (.cons (.var 0) .nil)) (.var 1)) (.cons (.bi .all (.cons (.lc false (.nm 2) (.seq (.var 0)) .nil (.fn 19 (.cons (.var 2) .nil)) [("number", 2)]) .nil)) .nil))))) .nil)
abbrev N_is_lowest : List Str := (["numbers"] : List Str)
def c_is_lowest : CSs := (.cons (.ret (.cmp .Eq (.fn 14 (.cons (.var 0) .nil)) (.cst (.int 1)))) .nil)
abbrev N_is_vector : List Str := (["value"] : List Str)
def c_is_vector : CSs := (.cons (.ret (.con .And (.cons (.fn 20 (.cons (.var 0) (.cons (.cst (.int 3)) .nil))) (.cons (.cmp .Gt (.idx (.var 0) (.cst (.int 2))) (.cst (.int 0))) (.cons (.fn 21 (.cons (.var 0) .nil)) .nil))))) .nil)
abbrev N_is_shape : List Str := (["value", "corner"] : List Str)
def c_is_shape : CSs := (.cons (.ife (.con .Or (.cons (.nt (.bi .isi (.cons (.var 0) (.cons (.ty "tuple") .nil)))) (.cons (.cmp .Eq (.var 0) (.tup .nil)) (.cons (.nt (.bi .all (.cons (.lc false (.nm 1) (.seq (.var 0)) .nil (.fn 22 (.cons (.var 1) .nil)) [("corner", 1)]) .nil))) .nil)))) (.cons (.ret (.cst (.bool false))) .nil) .nil) (.cons (.ret (.cmp .Eq (.fn 18 (.cons (.bi (.list false) (.cons (.var 0) .nil)) .nil)) (.var 0))) .nil))
abbrev N_value_at : List Str := (["side", "point"] : List Str)
def c_value_at : CSs := (.cons (.ret (.bin .Sub false (.bin .Add false (.bin .Mult false (.idx (.var 0) (.cst (.int 0))) (.idx (.var 1) (.cst (.int 0)))) (.bin .Mult false (.idx (.var 0) (.cst (.int 1))) (.idx (.var 1) (.cst (.int 1))))) (.bin .Mult false (.idx (.var 0) (.cst (.int 2))) (.idx (.var 1) (.cst (.int 2)))))) .nil)
abbrev N_are_held : List Str := (["borders", "point", "side"] : List Str)
def c_are_held : CSs := (.cons (.ret (.bi .all (.cons (.lc false (.nm 2) (.seq (.var 0)) .nil (.cmp .LtE (.fn 24 (.cons (.var 2) (.cons (.var 1) .nil))) (.cst (.int 0))) [("side", 2)]) .nil))) .nil)
abbrev N_step_between : List Str := (["one", "two"] : List Str)
def c_step_between : CSs := (.cons (.ret (.tup (.cons (.bin .Sub false (.bin .Mult false (.idx (.var 1) (.cst (.int 0))) (.idx (.var 0) (.cst (.int 2)))) (.bin .Mult false (.idx (.var 0) (.cst (.int 0))) (.idx (.var 1) (.cst (.int 2))))) (.cons (.bin .Sub false (.bin .Mult false (.idx (.var 1) (.cst (.int 1))) (.idx (.var 0) (.cst (.int 2)))) (.bin .Mult false (.idx (.var 0) (.cst (.int 1))) (.idx (.var 1) (.cst (.int 2))))) .nil)))) .nil)
abbrev N_side_at : List Str := (["normal", "point", "a", "b", "x", "y", "w"] : List Str)
def c_side_at : CSs := (.cons (.asg (.tp (.cons (.nm 2) (.cons (.nm 3) .nil))) (.var 0)) (.cons (.asg (.tp (.cons (.nm 4) (.cons (.nm 5) (.cons (.nm 6) .nil)))) (.var 1)) (.cons (.ret (.fn 15 (.cons (.tup (.cons (.bin .Mult false (.var 2) (.var 6)) (.cons (.bin .Mult false (.var 3) (.var 6)) (.cons (.bin .Add false (.bin .Mult false (.var 2) (.var 4)) (.bin .Mult false (.var 3) (.var 5))) .nil)))) .nil))) .nil)))
abbrev N_side_left : List Str := (["one", "two", "u", "v"] : List Str)
def c_side_left : CSs := (.cons (.asg (.tp (.cons (.nm 2) (.cons (.nm 3) .nil))) (.fn 26 (.cons (.var 0) (.cons (.var 1) .nil)))) (.cons (.ret (.fn 27 (.cons (.tup (.cons (.var 3) (.cons (.neg (.var 2)) .nil))) (.cons (.var 0) .nil)))) .nil))
abbrev N_next_corner : List Str := (["polygon", "at"] : List Str)
def c_next_corner : CSs := (.cons (.ret (.ife (.cmp .Lt (.bin .Add false (.var 1) (.cst (.int 1))) (.bi .len (.cons (.var 0) .nil))) (.idx (.var 0) (.bin .Add false (.var 1) (.cst (.int 1)))) (.idx (.var 0) (.cst (.int 0))))) .nil)
abbrev N_sides : List Str := (["polygon", "one", "two", "u", "v", "normal", "at", "corner"] : List Str)
def c_sides : CSs := (.cons (.ife (.cmp .Eq (.bi .len (.cons (.var 0) .nil)) (.cst (.int 1))) (.cons (.ret (.bi .tuple (.cons (.lc false (.nm 5) (.seq (.glo "ROUND" (.t2 [[(.int 1), (.int 0)], [(.int 0), (.int 1)], [(.int (-1)), (.int 0)], [(.int 0), (.int (-1))]]))) .nil (.fn 27 (.cons (.var 5) (.cons (.idx (.var 0) (.cst (.int 0))) .nil))) [("normal", 5)]) .nil))) .nil) .nil) (.cons (.ife (.cmp .Eq (.bi .len (.cons (.var 0) .nil)) (.cst (.int 2))) (.cons (.asg (.tp (.cons (.nm 1) (.cons (.nm 2) .nil))) (.var 0)) (.cons (.asg (.tp (.cons (.nm 3) (.cons (.nm 4) .nil))) (.fn 26 (.cons (.var 1) (.cons (.var 2) .nil)))) (.cons (.ret (.tup (.cons (.fn 27 (.cons (.tup (.cons (.var 4) (.cons (.neg (.var 3)) .nil))) (.cons (.var 1) .nil))) (.cons (.fn 27 (.cons (.tup (.cons (.var 3) (.cons (.var 4) .nil))) (.cons (.var 2) .nil))) (.cons (.fn 27 (.cons (.tup (.cons (.neg (.var 4)) (.cons (.var 3) .nil))) (.cons (.var 2) .nil))) (.cons (.fn 27 (.cons (.tup (.cons (.neg (.var 3)) (.cons (.neg (.var 4)) .nil))) (.cons (.var 1) .nil))) .nil)))))) .nil))) .nil) (.cons (.ret (.bi .tuple (.cons (.lc false (.tp (.cons (.nm 6) (.cons (.nm 7) .nil))) (.enm (.var 0)) .nil (.fn 28 (.cons (.var 7) (.cons (.fn 29 (.cons (.var 0) (.cons (.var 6) .nil))) .nil))) [("at", 6), ("corner", 7)]) .nil))) .nil)))
abbrev N_has : List Str := (["polygon", "point"] : List Str)
def c_has : CSs := (.cons (.ret (.fn 25 (.cons (.fn 30 (.cons (.var 0) .nil)) (.cons (.var 1) .nil)))) .nil)
abbrev N_is_sailed : List Str := (["value"] : List Str)
def c_is_sailed : CSs := (.cons (.ret (.con .And (.cons (.fn 23 (.cons (.var 0) .nil)) (.cons (.cmp .Gt (.bi .len (.cons (.var 0) .nil)) (.cst (.int 2))) (.cons (.fn 31 (.cons (.var 0) (.cons (.glo "NOUGHT" (.t1 [(.int 0), (.int 0), (.int 1)])) .nil))) .nil))))) .nil)
abbrev N_check_figure : List Str := (["value"] : List Str)
def c_check_figure : CSs := (.cons (.ife (.nt (.fn 32 (.cons (.var 0) .nil))) (.cons .nev .nil) .nil) .nil)
abbrev N_check_two : List Str := (["figure", "other"] : List Str)
def c_check_two : CSs := (.cons (.expr (.fn 33 (.cons (.var 0) .nil))) (.cons (.expr (.fn 33 (.cons (.var 1) .nil))) .nil))
abbrev N_within : List Str := (["polygon", "other", "borders", "corner"] : List Str)
def c_within : CSs := (.cons (.asg (.nm 2) (.fn 30 (.cons (.var 1) .nil))) (.cons (.ret (.bi .all (.cons (.lc false (.nm 3) (.seq (.var 0)) .nil (.fn 25 (.cons (.var 2) (.cons (.var 3) .nil))) [("corner", 3)]) .nil))) .nil))
abbrev N_never_later : List Str := (["figure", "other"] : List Str)
def c_never_later : CSs := (.cons (.expr (.fn 34 (.cons (.var 0) (.cons (.var 1) .nil)))) (.cons (.ret (.fn 35 (.cons (.var 1) (.cons (.var 0) .nil)))) .nil))
abbrev N_parting_way : List Str := (["figure", "other", "corner"] : List Str)
def c_parting_way : CSs := (.cons (.expr (.fn 34 (.cons (.var 0) (.cons (.var 1) .nil)))) (.cons (.for_ (.nm 2) (.seq (.var 1)) (.cons (.ife (.nt (.fn 31 (.cons (.var 0) (.cons (.var 2) .nil)))) (.cons (.ret (.var 2)) .nil) .nil) .nil)) (.cons (.ret (.cst .none)) .nil)))
abbrev N_check_polygon : List Str := (["value"] : List Str)
def c_check_polygon : CSs := (.cons (.ife (.nt (.fn 23 (.cons (.var 0) .nil))) (.cons .nev .nil) .nil) .nil)
abbrev N_lies_inside : List Str := (["polygon", "other"] : List Str)
def c_lies_inside : CSs := (.cons (.expr (.fn 38 (.cons (.var 0) .nil))) (.cons (.expr (.fn 38 (.cons (.var 1) .nil))) (.cons (.ret (.fn 35 (.cons (.var 0) (.cons (.var 1) .nil)))) .nil)))
abbrev N_law_under : List Str := (["_law_one", "_law_two"] : List Str)
def c_law_under : CSs := (.cons (.ret (.cmp .Lt (.bin .Mult false (.idx (.var 0) (.cst (.int 0))) (.idx (.var 1) (.cst (.int 1)))) (.bin .Mult false (.idx (.var 1) (.cst (.int 0))) (.idx (.var 0) (.cst (.int 1)))))) .nil)
abbrev N_law_longer : List Str := (["_law_one", "_law_two"] : List Str)
def c_law_longer : CSs := (.cons (.ife (.con .Or (.cons (.cmp .Is (.var 0) (.cst .none)) (.cons (.cmp .Is (.var 1) (.cst .none)) .nil))) (.cons (.ret (.con .And (.cons (.cmp .Is (.var 0) (.cst .none)) (.cons (.cmp .IsNot (.var 1) (.cst .none)) .nil)))) .nil) .nil) (.cons (.ret (.fn 40 (.cons (.var 1) (.cons (.var 0) .nil)))) .nil))
abbrev N_check_point : List Str := (["value"] : List Str)
def c_check_point : CSs := (.cons (.ife (.nt (.fn 22 (.cons (.var 0) .nil))) (.cons .nev .nil) .nil) .nil)
abbrev N_is_lower : List Str := (["one", "two"] : List Str)
def c_is_lower : CSs := (.cons (.ret (.cmp .Lt (.bin .Mult false (.idx (.var 0) (.cst (.int 0))) (.idx (.var 1) (.cst (.int 1)))) (.bin .Mult false (.idx (.var 1) (.cst (.int 0))) (.idx (.var 0) (.cst (.int 1)))))) .nil)
abbrev N_higher_of : List Str := (["one", "two"] : List Str)
def c_higher_of : CSs := (.cons (.ret (.ife (.fn 43 (.cons (.var 0) (.cons (.var 1) .nil))) (.var 1) (.var 0))) .nil)
abbrev N_ratio : List Str := (["over", "under"] : List Str)
def c_ratio : CSs := (.cons (.ret (.ife (.cmp .Gt (.var 1) (.cst (.int 0))) (.fn 15 (.cons (.tup (.cons (.var 0) (.cons (.var 1) .nil))) .nil)) (.fn 15 (.cons (.tup (.cons (.neg (.var 0)) (.cons (.neg (.var 1)) .nil))) .nil)))) .nil)
abbrev N_time_by : List Str := (["borders", "way", "best", "a", "b", "h", "gain"] : List Str)
def c_time_by : CSs := (.cons (.asg (.nm 2) (.glo "ZERO" (.t1 [(.int 0), (.int 1)]))) (.cons (.for_ (.tp (.cons (.nm 3) (.cons (.nm 4) (.cons (.nm 5) .nil)))) (.seq (.var 0)) (.cons (.asg (.nm 6) (.bin .Add false (.bin .Mult false (.var 3) (.idx (.var 1) (.cst (.int 0)))) (.bin .Mult false (.var 4) (.idx (.var 1) (.cst (.int 1)))))) (.cons (.ife (.con .And (.cons (.cmp .Eq (.var 5) (.cst (.int 0))) (.cons (.cmp .Gt (.var 6) (.cst (.int 0))) .nil))) (.cons (.ret (.cst .none)) .nil) .nil) (.cons (.ife (.cmp .Gt (.var 5) (.cst (.int 0))) (.cons (.asg (.nm 2) (.fn 44 (.cons (.var 2) (.cons (.fn 45 (.cons (.var 6) (.cons (.bin .Mult false (.var 5) (.idx (.var 1) (.cst (.int 2)))) .nil))) .nil)))) .nil) .nil) .nil)))) (.cons (.ret (.var 2)) .nil)))
abbrev N_time_of : List Str := (["figure", "way"] : List Str)
def c_time_of : CSs := (.cons (.expr (.fn 33 (.cons (.var 0) .nil))) (.cons (.expr (.fn 42 (.cons (.var 1) .nil))) (.cons (.ret (.fn 46 (.cons (.fn 30 (.cons (.var 0) .nil)) (.cons (.var 1) .nil)))) .nil)))
abbrev N_law_part : List Str := (["_law_top", "_law_low", "_law_found"] : List Str)
def c_law_part : CSs := (.cons (.asg (.nm 2) (.fn 4 (.cons (.tup (.cons (.var 0) (.cons (.var 1) .nil))) .nil))) (.cons (.ret (.ife (.cmp .Gt (.idx (.var 2) (.cst (.int 1))) (.cst (.int 0))) (.var 2) (.tup (.cons (.bin .Sub false (.cst (.int 0)) (.idx (.var 2) (.cst (.int 0)))) (.cons (.bin .Sub false (.cst (.int 0)) (.idx (.var 2) (.cst (.int 1)))) .nil))))) .nil))
abbrev N_law_legs : List Str := (["_law_craft_here", "_law_trip", "_law_k", "_law_whole", "_law_one", "_law_two", "_law_first", "_law_second_here", "_law_found"] : List Str)
def c_law_legs : CSs := (.cons (.for_ (.nm 2) (.rng (.cons (.bi .len (.cons (.var 0) .nil)) .nil)) (.cons (.par2 4 5 (.cons (.idx (.var 0) (.var 2)) (.cons (.idx (.var 0) (.bin .Mod false (.bi .int (.cons (.bin .Add false (.var 2) (.cst (.int 1))) .nil)) (.bi .len (.cons (.var 0) .nil)))) .nil))) (.cons (.asg (.nm 3) (.bin .Sub false (.bin .Mult false (.idx (.var 4) (.cst (.int 0))) (.idx (.var 5) (.cst (.int 1)))) (.bin .Mult false (.idx (.var 4) (.cst (.int 1))) (.idx (.var 5) (.cst (.int 0)))))) (.cons (.par2 6 7 (.cons (.bin .Sub false (.bin .Mult false (.idx (.var 1) (.cst (.int 0))) (.idx (.var 5) (.cst (.int 1)))) (.bin .Mult false (.idx (.var 1) (.cst (.int 1))) (.idx (.var 5) (.cst (.int 0))))) (.cons (.bin .Sub false (.bin .Mult false (.idx (.var 4) (.cst (.int 0))) (.idx (.var 1) (.cst (.int 1)))) (.bin .Mult false (.idx (.var 4) (.cst (.int 1))) (.idx (.var 1) (.cst (.int 0))))) .nil))) (.cons (.ife (.con .And (.cons (.cmp .Gt (.var 3) (.cst (.int 0))) (.cons (.cmp .GtE (.var 6) (.cst (.int 0))) (.cons (.cmp .GtE (.var 7) (.cst (.int 0))) .nil)))) (.cons (.asg (.nm 8) (.ife (.cmp .Gt (.var 6) (.cst (.int 0))) (.lst false (.cons (.tup (.cons (.var 4) (.cons (.fn 48 (.cons (.bin .Mult false (.var 6) (.idx (.var 4) (.cst (.int 2)))) (.cons (.bin .Mult false (.var 3) (.idx (.var 1) (.cst (.int 2)))) .nil))) .nil))) .nil)) (.lst false .nil))) (.cons (.ret (.bin .Add false (.var 8) (.ife (.cmp .Gt (.var 7) (.cst (.int 0))) (.lst false (.cons (.tup (.cons (.var 5) (.cons (.fn 48 (.cons (.bin .Mult false (.var 7) (.idx (.var 5) (.cst (.int 2)))) (.cons (.bin .Mult false (.var 3) (.idx (.var 1) (.cst (.int 2)))) .nil))) .nil))) .nil)) (.lst false .nil)))) .nil)) .nil) .nil))))) (.cons (.ret (.cst .none)) .nil))
abbrev N_law_sum : List Str := (["_law_one", "_law_two"] : List Str)
def c_law_sum : CSs := (.cons (.ret (.fn 48 (.cons (.bin .Add false (.bin .Mult false (.idx (.var 0) (.cst (.int 0))) (.idx (.var 1) (.cst (.int 1)))) (.bin .Mult false (.idx (.var 1) (.cst (.int 0))) (.idx (.var 0) (.cst (.int 1))))) (.cons (.bin .Mult false (.idx (.var 0) (.cst (.int 1))) (.idx (.var 1) (.cst (.int 1)))) .nil)))) .nil)
abbrev N_law_time : List Str := (["_law_craft_here", "_law_trip", "_law_leg", "_law_found", "_law_whole"] : List Str)
def c_law_time : CSs := (.cons (.par2 3 4 (.cons (.fn 49 (.cons (.var 0) (.cons (.var 1) .nil))) (.cons (.tup (.cons (.cst (.int 0)) (.cons (.cst (.int 1)) .nil))) .nil))) (.cons (.ife (.cmp .Is (.var 3) (.cst .none)) (.cons (.ret (.cst .none)) .nil) .nil) (.cons (.for_ (.nm 2) (.seq (.var 3)) (.cons (.asg (.nm 4) (.fn 50 (.cons (.var 4) (.cons (.idx (.var 2) (.cst (.int 1))) .nil)))) .nil)) (.cons (.ret (.var 4)) .nil))))
abbrev N_law_told_right : List Str := (["_law_craft_here", "_law_rival", "_law_trips", "_law_held", "_law_due", "_law_told", "_law_apart_way", "_law_trip", "_law_times_there", "_law_spot_here", "_law_one", "_law_two"] : List Str)
def c_law_told_right : CSs := (.cons (.asg (.nm 3) (.lc false (.nm 9) (.seq (.var 1)) (.cons (.fn 41 (.cons (.fn 51 (.cons (.var 0) (.cons (.var 9) .nil))) (.cons (.tup (.cons (.cst (.int 1)) (.cons (.cst (.int 1)) .nil))) .nil))) .nil) (.var 9) [("_law_spot_here", 9)])) (.cons (.asg (.nm 4) (.cmp .Eq (.var 3) (.lst false .nil))) (.cons (.asg (.nm 5) (.lst false (.cons (.fn 36 (.cons (.var 0) (.cons (.var 1) .nil))) (.cons (.fnK 36 .nil ["other", "figure"] (.cons (.var 1) (.cons (.var 0) .nil)) [1, 0]) (.cons (.fn 39 (.cons (.var 1) (.cons (.var 0) .nil))) .nil))))) (.cons (.ife (.cmp .NotEq (.bi .repr (.cons (.var 5) .nil)) (.bi .repr (.cons (.lst false (.cons (.var 4) (.cons (.var 4) (.cons (.var 4) .nil)))) .nil))) (.cons (.ret (.cst (.bool false))) .nil) .nil) (.cons (.asg (.nm 6) (.fn 37 (.cons (.var 0) (.cons (.var 1) .nil)))) (.cons (.ife (.cmp .NotEq (.bi .repr (.cons (.lst false (.cons (.var 6) (.cons (.fnK 37 .nil ["other", "figure"] (.cons (.var 1) (.cons (.var 0) .nil)) [1, 0]) .nil))) .nil)) (.bi .repr (.cons (.rep false (.cons (.ife (.var 4) (.cst .none) (.idx (.var 3) (.cst (.int 0)))) .nil) (.cst (.int 2))) .nil))) (.cons (.ret (.cst (.bool false))) .nil) .nil) (.cons (.ife (.nt (.var 4)) (.cons (.asg (.nm 8) (.lst false (.cons (.fn 47 (.cons (.var 0) (.cons (.var 6) .nil))) (.cons (.fn 47 (.cons (.var 1) (.cons (.var 6) .nil))) .nil)))) (.cons (.ife (.con .Or (.cons (.nt (.fn 41 (.cons (.idx (.var 8) (.cst (.int 0))) (.cons (.idx (.var 8) (.cst (.int 1))) .nil)))) (.cons (.cmp .NotEq (.bi .repr (.cons (.idx (.var 8) (.cst (.int 1))) .nil)) (.cst (.str "(1, 1)"))) .nil))) (.cons (.ret (.cst (.bool false))) .nil) .nil) .nil)) .nil) (.cons (.for_ (.nm 7) (.seq (.var 2)) (.cons (.par2 10 11 (.cons (.fn 47 (.cons (.var 0) (.cons (.var 7) .nil))) (.cons (.fn 47 (.cons (.var 1) (.cons (.var 7) .nil))) .nil))) (.cons (.ife (.cmp .NotEq (.bi .repr (.cons (.lst false (.cons (.var 10) (.cons (.var 11) .nil))) .nil)) (.bi .repr (.cons (.lst false (.cons (.fn 51 (.cons (.var 0) (.cons (.var 7) .nil))) (.cons (.fn 51 (.cons (.var 1) (.cons (.var 7) .nil))) .nil))) .nil))) (.cons (.ret (.cst (.bool false))) .nil) .nil) (.cons (.ife (.con .And (.cons (.var 4) (.cons (.fn 41 (.cons (.var 10) (.cons (.var 11) .nil))) .nil))) (.cons (.ret (.cst (.bool false))) .nil) .nil) .nil)))) (.cons (.ret (.cst (.bool true))) .nil)))))))))
abbrev N_law_right : List Str := (["_law_source_here", "_law_craft_here", "_law_rival", "_law_trips", "_law_whole", "_law_larger", "_law_told"] : List Str)
def c_law_right : CSs := (.cons (.asg (.nm 1) (.fn 8 (.cons (.var 0) .nil))) (.cons (.asg (.nm 2) (.fn 11 (.cons (.var 0) (.cons (.var 1) .nil)))) (.cons (.asg (.nm 3) (.lst true (.cons (.fn 7 (.cons (.var 0) .nil)) (.cons (.fn 7 (.cons (.var 0) .nil)) (.cons (.fn 6 (.cons (.var 0) (.cons (.var 1) .nil))) (.cons (.fn 6 (.cons (.var 0) (.cons (.var 2) .nil))) .nil)))))) (.cons (.expr (.met .append 3 (.cons (.fn 13 (.cons (.idx (.var 2) (.cst (.int 0))) (.cons (.idx (.var 2) (.neg (.cst (.int 1)))) (.cons (.tup (.cons (.cst (.int 1)) (.cons (.cst (.int 2)) .nil))) .nil)))) .nil))) (.cons (.expr (.met .append 3 (.cons (.fn 9 (.cons (.fn 13 (.cons (.idx (.var 2) (.cst (.int 1))) (.cons (.idx (.var 2) (.cst (.int 0))) (.cons (.tup (.cons (.cst (.int 1)) (.cons (.cst (.int 3)) .nil))) .nil)))) (.cons (.tup (.cons (.cst (.int 5)) (.cons (.cst (.int 2)) .nil))) .nil))) .nil))) (.frz 3 (.cons (.ife (.con .Or (.cons (.nt (.fn 52 (.cons (.var 1) (.cons (.var 2) (.cons (.var 3) .nil))))) (.cons (.nt (.fn 52 (.cons (.var 2) (.cons (.var 1) (.cons (.var 3) .nil))))) .nil))) (.cons (.ret (.cst (.bool false))) .nil) .nil) (.cons (.asg (.nm 4) (.fn 5 (.cons (.bin .Add false (.var 1) (.var 2)) .nil))) (.cons (.ife (.cmp .NotEq (.bi .repr (.cons (.lst false (.cons (.fn 36 (.cons (.var 4) (.cons (.var 1) .nil))) (.cons (.fn 36 (.cons (.var 4) (.cons (.var 2) .nil))) (.cons (.fn 37 (.cons (.var 1) (.cons (.var 1) .nil))) .nil)))) .nil)) (.cst (.str "[True, True, None]"))) (.cons (.ret (.cst (.bool false))) .nil) .nil) (.cons (.asg (.nm 5) (.fn 10 (.cons (.var 1) (.cons (.tup (.cons (.cst (.int 4)) (.cons (.cst (.int 3)) .nil))) .nil)))) (.cons (.asg (.nm 6) (.lst false (.cons (.fn 36 (.cons (.var 5) (.cons (.var 1) .nil))) (.cons (.fn 36 (.cons (.var 1) (.cons (.var 5) .nil))) (.cons (.fn 37 (.cons (.var 5) (.cons (.var 1) .nil))) .nil))))) (.cons (.ret (.cmp .Eq (.bi .repr (.cons (.var 6) .nil)) (.cst (.str "[True, False, None]")))) .nil))))))))))))
abbrev N_law_source : List Str := (["_law_script", "_law_turn", "_law_mixed", "_law_cell", "_law_own"] : List Str)
def c_law_source : CSs := (.cons (.asg (.nm 2) (.bin .Add false (.cst (.int 40009)) (.bin .Mult false (.cst (.int 977)) (.var 1)))) (.cons (.for_ (.nm 3) (.seq (.cut false (.var 0) .no (.pt (.cst (.int 63))))) (.cons (.asg (.nm 2) (.bin .Mod false (.bi .int (.cons (.bin .Add false (.bin .Add false (.bin .Mult false (.var 2) (.cst (.int 52361))) (.bin .Mod false (.bi .int (.cons (.var 3) .nil)) (.cst (.int 998244353)))) (.cst (.int 17))) .nil)) (.cst (.int 1000000007)))) .nil)) (.cons (.asg (.nm 4) (.ife (.cmp .Lt (.var 1) (.bi .len (.cons (.var 0) .nil))) (.bi .abs (.cons (.bi .int (.cons (.idx (.var 0) (.var 1)) .nil)) .nil)) (.cst (.int 0)))) (.cons (.ret (.lst true (.cons (.ife (.cmp .GtE (.var 4) (.bin .Pow false (.cst (.int 10)) (.cst (.int 18)))) (.var 4) (.cst (.int 0))) (.cons (.bin .Mod false (.bi .int (.cons (.bin .Add false (.var 2) (.bin .Mult false (.bin .Mod false (.bi .int (.cons (.var 4) .nil)) (.cst (.int 998244353))) (.cst (.int 3)))) .nil)) (.cst (.int 1000000007))) (.cons (.cst (.int 0)) .nil))))) .nil))))
abbrev N_law : List Str := (["_law_script", "_law_turn"] : List Str)
def c_law : CSs := (.cons (.for_ (.nm 1) (.rng (.cons (.fn 0 (.cons (.var 0) .nil)) .nil)) (.cons (.ife (.nt (.fn 53 (.cons (.fn 54 (.cons (.var 0) (.cons (.var 1) .nil))) .nil))) (.cons (.ret (.cst (.bool false))) .nil) .nil) .nil)) (.cons (.ret (.cst (.bool true))) .nil))
abbrev nm : List Str := ((["_law_rounds", "_law_draw", "_law_left", "_law_chain", "_law_least", "_law_hull", "_law_pick", "_law_spot", "_law_craft", "_law_grow", "_law_sized", "_law_second", "_law_add", "_law_midway", "common_divisor", "lowest", "is_left", "chain", "hull", "is_whole", "are_wholes", "is_lowest", "is_vector", "is_shape", "value_at", "are_held", "step_between", "side_at", "side_left", "next_corner"] : List Str) ++ (["sides", "has", "is_sailed", "check_figure", "check_two", "within", "never_later", "parting_way", "check_polygon", "lies_inside", "_law_under", "_law_longer", "check_point", "is_lower", "higher_of", "ratio", "time_by", "time_of", "_law_part", "_law_legs", "_law_sum", "_law_time", "_law_told_right", "_law_right", "_law_source", "law"] : List Str))
abbrev fns : List (Str × Stmt) := (([("_law_rounds", top 52), ("_law_draw", top 53), ("_law_left", top 57), ("_law_chain", top 58), ("_law_least", top 55), ("_law_hull", top 59), ("_law_pick", top 54), ("_law_spot", top 56), ("_law_craft", top 60), ("_law_grow", top 61), ("_law_sized", top 62), ("_law_second", top 63), ("_law_add", top 69), ("_law_midway", top 70), ("common_divisor", top 9), ("lowest", top 10), ("is_left", top 28), ("chain", top 27), ("hull", top 29), ("is_whole", top 7), ("are_wholes", top 8), ("is_lowest", top 11), ("is_vector", top 19), ("is_shape", top 30), ("value_at", top 25), ("are_held", top 26), ("step_between", top 20), ("side_at", top 23), ("side_left", top 24), ("next_corner", top 31)] : List (Str × Stmt)) ++ ([("sides", top 32), ("has", top 33), ("is_sailed", top 38), ("check_figure", top 39), ("check_two", top 43), ("within", top 34), ("never_later", top 44), ("parting_way", top 45), ("check_polygon", top 37), ("lies_inside", top 49), ("_law_under", top 68), ("_law_longer", top 71), ("check_point", top 36), ("is_lower", top 15), ("higher_of", top 16), ("ratio", top 14), ("time_by", top 41), ("time_of", top 47), ("_law_part", top 64), ("_law_legs", top 65), ("_law_sum", top 66), ("_law_time", top 67), ("_law_told_right", top 72), ("_law_right", top 73), ("_law_source", top 51), ("law", top 74)] : List (Str × Stmt)))
abbrev kws : KwT := ([(37, 0, (["other", "figure"] : List Str), [1, 0]), (36, 0, (["other", "figure"] : List Str), [1, 0])] : List (Nat × Nat × List Str × List Nat))
abbrev gls : List (Str × GV) := [("ROUND", (.t2 [[(.int 1), (.int 0)], [(.int 0), (.int 1)], [(.int (-1)), (.int 0)], [(.int 0), (.int (-1))]])), ("NOUGHT", (.t1 [(.int 0), (.int 0), (.int 1)])), ("ZERO", (.t1 [(.int 0), (.int 1)]))]
def sp_law_draw : ASp := spD 1 (fun us => ∃ n : Int, us = [.int n] ∧ 0 < n ∧ n < 1073741824) (fun us r => ∃ n i : Int, us = [.int n] ∧ r = .int i ∧ 0 ≤ i ∧ i < n)
def sp_law_pick : ASp := spD 1 (fun us => ∃ x ds, us = [x] ∧ seqE x = some ds ∧ ds ≠ [] ∧ ds.length < 1000000) (fun us r => ∃ x ds, us = [x] ∧ seqE x = some ds ∧ r ∈ ds)
def sp_law_spot : ASp := spD 4 (fun us => us = []) (fun _ r => ∃ p, r = vD p ∧ Bp 10 p)
def sp_law_craft : ASp := spD 60 (fun us => us = []) (fun _ r => ∃ P, r = pD P ∧ Crf 10 P ∧ P.length ≤ 8)
def sp_law_second : ASp := spD 70 (fun us => ∃ P, us = [pD P] ∧ Crf 10 P ∧ P.length ≤ 8) (fun _ r => ∃ Q, r = pD Q ∧ Crf 13 Q)
def sp_law_right : ASp := fun ds h Q _ => ∃ (a : Addr) (l : List D), ds = [.ref a] ∧ h a = some l ∧ SrL 0 l ∧ ∀ h', Q (.bl true) h'
def sp_law_source : ASp := fun ds h Q _ => ∃ (ns : List Int) (t : Int), ds = [.lst (ns.map D.int), .int t] ∧ 0 ≤ t ∧ t < 3 ∧ ns.length ≤ 63 ∧ ∀ (a : Addr) (l : List D), SrL 0 l → Q (.ref a) (h.set a l)
noncomputable abbrev P0 : Nat → PF := fun _ => noF
noncomputable def F_law_rounds : PF := evDef P0 1 1 c_law_rounds
noncomputable abbrev P1 : Nat → PF := phiUp P0 0 F_law_rounds
noncomputable def F_law_left : PF := evDef P1 4 3 c_law_left
noncomputable abbrev P3 : Nat → PF := phiUp P1 2 F_law_left
noncomputable def F_law_chain : PF := FM_law_chain
noncomputable abbrev P4 : Nat → PF := phiUp P3 3 F_law_chain
noncomputable def F_law_least : PF := evDef P4 5 1 c_law_least
noncomputable abbrev P5 : Nat → PF := phiUp P4 4 F_law_least
noncomputable def F_law_hull : PF := evDef P5 5 1 c_law_hull
noncomputable abbrev P6 : Nat → PF := phiUp P5 5 F_law_hull
noncomputable def F_law_grow : PF := evDef P6 2 2 c_law_grow
noncomputable abbrev P10 : Nat → PF := phiUp P6 9 F_law_grow
noncomputable def F_law_sized : PF := evDef P10 3 2 c_law_sized
noncomputable abbrev P11 : Nat → PF := phiUp P10 10 F_law_sized
noncomputable def F_law_add : PF := evDef P11 3 2 c_law_add
noncomputable abbrev P13 : Nat → PF := phiUp P11 12 F_law_add
noncomputable def F_law_midway : PF := evDef P13 3 3 c_law_midway
noncomputable abbrev P14 : Nat → PF := phiUp P13 13 F_law_midway
noncomputable def F_common_divisor : PF := evDef P14 3 1 c_common_divisor
noncomputable abbrev P15 : Nat → PF := phiUp P14 14 F_common_divisor
noncomputable def F_lowest : PF := evDef P15 3 1 c_lowest
noncomputable abbrev P16 : Nat → PF := phiUp P15 15 F_lowest
noncomputable def F_is_left : PF := evDef P16 3 3 c_is_left
noncomputable abbrev P17 : Nat → PF := phiUp P16 16 F_is_left
noncomputable def F_chain : PF := FM_chain
noncomputable abbrev P18 : Nat → PF := phiUp P17 17 F_chain
noncomputable def F_hull : PF := evDef P18 8 1 c_hull
noncomputable abbrev P19 : Nat → PF := phiUp P18 18 F_hull
noncomputable def F_is_whole : PF := evDef P19 1 1 c_is_whole
noncomputable abbrev P20 : Nat → PF := phiUp P19 19 F_is_whole
noncomputable def F_are_wholes : PF := evDef P20 3 2 c_are_wholes
noncomputable abbrev P21 : Nat → PF := phiUp P20 20 F_are_wholes
noncomputable def F_is_lowest : PF := evDef P21 1 1 c_is_lowest
noncomputable abbrev P22 : Nat → PF := phiUp P21 21 F_is_lowest
noncomputable def F_is_vector : PF := evDef P22 1 1 c_is_vector
noncomputable abbrev P23 : Nat → PF := phiUp P22 22 F_is_vector
noncomputable def F_is_shape : PF := evDef P23 2 1 c_is_shape
noncomputable abbrev P24 : Nat → PF := phiUp P23 23 F_is_shape
noncomputable def F_value_at : PF := evDef P24 2 2 c_value_at
noncomputable abbrev P25 : Nat → PF := phiUp P24 24 F_value_at
noncomputable def F_are_held : PF := evDef P25 3 2 c_are_held
noncomputable abbrev P26 : Nat → PF := phiUp P25 25 F_are_held
noncomputable def F_step_between : PF := evDef P26 2 2 c_step_between
noncomputable abbrev P27 : Nat → PF := phiUp P26 26 F_step_between
noncomputable def F_side_at : PF := evDef P27 7 2 c_side_at
noncomputable abbrev P28 : Nat → PF := phiUp P27 27 F_side_at
noncomputable def F_side_left : PF := evDef P28 4 2 c_side_left
noncomputable abbrev P29 : Nat → PF := phiUp P28 28 F_side_left
noncomputable def F_next_corner : PF := evDef P29 2 2 c_next_corner
noncomputable abbrev P30 : Nat → PF := phiUp P29 29 F_next_corner
noncomputable def F_sides : PF := evDef P30 8 1 c_sides
noncomputable abbrev P31 : Nat → PF := phiUp P30 30 F_sides
noncomputable def F_has : PF := evDef P31 2 2 c_has
noncomputable abbrev P32 : Nat → PF := phiUp P31 31 F_has
noncomputable def F_is_sailed : PF := evDef P32 1 1 c_is_sailed
noncomputable abbrev P33 : Nat → PF := phiUp P32 32 F_is_sailed
noncomputable def F_check_figure : PF := evDef P33 1 1 c_check_figure
noncomputable abbrev P34 : Nat → PF := phiUp P33 33 F_check_figure
noncomputable def F_check_two : PF := evDef P34 2 2 c_check_two
noncomputable abbrev P35 : Nat → PF := phiUp P34 34 F_check_two
noncomputable def F_within : PF := evDef P35 4 2 c_within
noncomputable abbrev P36 : Nat → PF := phiUp P35 35 F_within
noncomputable def F_never_later : PF := evDef P36 2 2 c_never_later
noncomputable abbrev P37 : Nat → PF := phiUp P36 36 F_never_later
noncomputable def F_parting_way : PF := evDef P37 3 2 c_parting_way
noncomputable abbrev P38 : Nat → PF := phiUp P37 37 F_parting_way
noncomputable def F_check_polygon : PF := evDef P38 1 1 c_check_polygon
noncomputable abbrev P39 : Nat → PF := phiUp P38 38 F_check_polygon
noncomputable def F_lies_inside : PF := evDef P39 2 2 c_lies_inside
noncomputable abbrev P40 : Nat → PF := phiUp P39 39 F_lies_inside
noncomputable def F_law_under : PF := evDef P40 2 2 c_law_under
noncomputable abbrev P41 : Nat → PF := phiUp P40 40 F_law_under
noncomputable def F_law_longer : PF := evDef P41 2 2 c_law_longer
noncomputable abbrev P42 : Nat → PF := phiUp P41 41 F_law_longer
noncomputable def F_check_point : PF := evDef P42 1 1 c_check_point
noncomputable abbrev P43 : Nat → PF := phiUp P42 42 F_check_point
noncomputable def F_is_lower : PF := evDef P43 2 2 c_is_lower
noncomputable abbrev P44 : Nat → PF := phiUp P43 43 F_is_lower
noncomputable def F_higher_of : PF := evDef P44 2 2 c_higher_of
noncomputable abbrev P45 : Nat → PF := phiUp P44 44 F_higher_of
noncomputable def F_ratio : PF := evDef P45 2 2 c_ratio
noncomputable abbrev P46 : Nat → PF := phiUp P45 45 F_ratio
noncomputable def F_time_by : PF := evDef P46 7 2 c_time_by
noncomputable abbrev P47 : Nat → PF := phiUp P46 46 F_time_by
noncomputable def F_time_of : PF := evDef P47 2 2 c_time_of
noncomputable abbrev P48 : Nat → PF := phiUp P47 47 F_time_of
noncomputable def F_law_part : PF := evDef P48 3 2 c_law_part
noncomputable abbrev P49 : Nat → PF := phiUp P48 48 F_law_part
noncomputable def F_law_legs : PF := evDef P49 9 2 c_law_legs
noncomputable abbrev P50 : Nat → PF := phiUp P49 49 F_law_legs
noncomputable def F_law_sum : PF := evDef P50 2 2 c_law_sum
noncomputable abbrev P51 : Nat → PF := phiUp P50 50 F_law_sum
noncomputable def F_law_time : PF := evDef P51 5 2 c_law_time
noncomputable abbrev P52 : Nat → PF := phiUp P51 51 F_law_time
noncomputable def F_law_told_right : PF := evDef P52 12 3 c_law_told_right
noncomputable abbrev P53 : Nat → PF := phiUp P52 52 F_law_told_right
noncomputable def Γ : Gam
  | 0 => (1, spF F_law_rounds)
  | 1 => (2, sp_law_draw)
  | 2 => (3, spF F_law_left)
  | 3 => (1, spF F_law_chain)
  | 4 => (1, spF F_law_least)
  | 5 => (1, spF F_law_hull)
  | 6 => (2, sp_law_pick)
  | 7 => (1, sp_law_spot)
  | 8 => (1, sp_law_craft)
  | 9 => (2, spF F_law_grow)
  | 10 => (2, spF F_law_sized)
  | 11 => (2, sp_law_second)
  | 12 => (2, spF F_law_add)
  | 13 => (3, spF F_law_midway)
  | 14 => (1, spF F_common_divisor)
  | 15 => (1, spF F_lowest)
  | 16 => (3, spF F_is_left)
  | 17 => (1, spF F_chain)
  | 18 => (1, spF F_hull)
  | 19 => (1, spF F_is_whole)
  | 20 => (2, spF F_are_wholes)
  | 21 => (1, spF F_is_lowest)
  | 22 => (1, spF F_is_vector)
  | 23 => (1, spF F_is_shape)
  | 24 => (2, spF F_value_at)
  | 25 => (2, spF F_are_held)
  | 26 => (2, spF F_step_between)
  | 27 => (2, spF F_side_at)
  | 28 => (2, spF F_side_left)
  | 29 => (2, spF F_next_corner)
  | 30 => (1, spF F_sides)
  | 31 => (2, spF F_has)
  | 32 => (1, spF F_is_sailed)
  | 33 => (1, spF F_check_figure)
  | 34 => (2, spF F_check_two)
  | 35 => (2, spF F_within)
  | 36 => (2, spF F_never_later)
  | 37 => (2, spF F_parting_way)
  | 38 => (1, spF F_check_polygon)
  | 39 => (2, spF F_lies_inside)
  | 40 => (2, spF F_law_under)
  | 41 => (2, spF F_law_longer)
  | 42 => (1, spF F_check_point)
  | 43 => (2, spF F_is_lower)
  | 44 => (2, spF F_higher_of)
  | 45 => (2, spF F_ratio)
  | 46 => (2, spF F_time_by)
  | 47 => (2, spF F_time_of)
  | 48 => (2, spF F_law_part)
  | 49 => (2, spF F_law_legs)
  | 50 => (2, spF F_law_sum)
  | 51 => (2, spF F_law_time)
  | 52 => (3, spF F_law_told_right)
  | 53 => (1, sp_law_right)
  | 54 => (2, sp_law_source)
  | 55 => (1, spLaw 63)
  | _ => (0, fun _ _ _ _ => False)
theorem gP0 : PhiOk Γ P0 := phi_nil
theorem gP1 : PhiOk Γ P1 := phi_up (n := 1) (c := c_law_rounds) gP0 rfl
theorem gP3 : PhiOk Γ P3 := phi_up (n := 4) (c := c_law_left) gP1 rfl
theorem gP4 : PhiOk Γ P4 := phi_man gP3 (f := F_law_chain) rfl FM_law_chain_len
theorem gP5 : PhiOk Γ P5 := phi_up (n := 5) (c := c_law_least) gP4 rfl
theorem gP6 : PhiOk Γ P6 := phi_up (n := 5) (c := c_law_hull) gP5 rfl
theorem gP10 : PhiOk Γ P10 := phi_up (n := 2) (c := c_law_grow) gP6 rfl
theorem gP11 : PhiOk Γ P11 := phi_up (n := 3) (c := c_law_sized) gP10 rfl
theorem gP13 : PhiOk Γ P13 := phi_up (n := 3) (c := c_law_add) gP11 rfl
theorem gP14 : PhiOk Γ P14 := phi_up (n := 3) (c := c_law_midway) gP13 rfl
theorem gP15 : PhiOk Γ P15 := phi_up (n := 3) (c := c_common_divisor) gP14 rfl
theorem gP16 : PhiOk Γ P16 := phi_up (n := 3) (c := c_lowest) gP15 rfl
theorem gP17 : PhiOk Γ P17 := phi_up (n := 3) (c := c_is_left) gP16 rfl
theorem gP18 : PhiOk Γ P18 := phi_man gP17 (f := F_chain) rfl FM_chain_len
theorem gP19 : PhiOk Γ P19 := phi_up (n := 8) (c := c_hull) gP18 rfl
theorem gP20 : PhiOk Γ P20 := phi_up (n := 1) (c := c_is_whole) gP19 rfl
theorem gP21 : PhiOk Γ P21 := phi_up (n := 3) (c := c_are_wholes) gP20 rfl
theorem gP22 : PhiOk Γ P22 := phi_up (n := 1) (c := c_is_lowest) gP21 rfl
theorem gP23 : PhiOk Γ P23 := phi_up (n := 1) (c := c_is_vector) gP22 rfl
theorem gP24 : PhiOk Γ P24 := phi_up (n := 2) (c := c_is_shape) gP23 rfl
theorem gP25 : PhiOk Γ P25 := phi_up (n := 2) (c := c_value_at) gP24 rfl
theorem gP26 : PhiOk Γ P26 := phi_up (n := 3) (c := c_are_held) gP25 rfl
theorem gP27 : PhiOk Γ P27 := phi_up (n := 2) (c := c_step_between) gP26 rfl
theorem gP28 : PhiOk Γ P28 := phi_up (n := 7) (c := c_side_at) gP27 rfl
theorem gP29 : PhiOk Γ P29 := phi_up (n := 4) (c := c_side_left) gP28 rfl
theorem gP30 : PhiOk Γ P30 := phi_up (n := 2) (c := c_next_corner) gP29 rfl
theorem gP31 : PhiOk Γ P31 := phi_up (n := 8) (c := c_sides) gP30 rfl
theorem gP32 : PhiOk Γ P32 := phi_up (n := 2) (c := c_has) gP31 rfl
theorem gP33 : PhiOk Γ P33 := phi_up (n := 1) (c := c_is_sailed) gP32 rfl
theorem gP34 : PhiOk Γ P34 := phi_up (n := 1) (c := c_check_figure) gP33 rfl
theorem gP35 : PhiOk Γ P35 := phi_up (n := 2) (c := c_check_two) gP34 rfl
theorem gP36 : PhiOk Γ P36 := phi_up (n := 4) (c := c_within) gP35 rfl
theorem gP37 : PhiOk Γ P37 := phi_up (n := 2) (c := c_never_later) gP36 rfl
theorem gP38 : PhiOk Γ P38 := phi_up (n := 3) (c := c_parting_way) gP37 rfl
theorem gP39 : PhiOk Γ P39 := phi_up (n := 1) (c := c_check_polygon) gP38 rfl
theorem gP40 : PhiOk Γ P40 := phi_up (n := 2) (c := c_lies_inside) gP39 rfl
theorem gP41 : PhiOk Γ P41 := phi_up (n := 2) (c := c_law_under) gP40 rfl
theorem gP42 : PhiOk Γ P42 := phi_up (n := 2) (c := c_law_longer) gP41 rfl
theorem gP43 : PhiOk Γ P43 := phi_up (n := 1) (c := c_check_point) gP42 rfl
theorem gP44 : PhiOk Γ P44 := phi_up (n := 2) (c := c_is_lower) gP43 rfl
theorem gP45 : PhiOk Γ P45 := phi_up (n := 2) (c := c_higher_of) gP44 rfl
theorem gP46 : PhiOk Γ P46 := phi_up (n := 2) (c := c_ratio) gP45 rfl
theorem gP47 : PhiOk Γ P47 := phi_up (n := 7) (c := c_time_by) gP46 rfl
theorem gP48 : PhiOk Γ P48 := phi_up (n := 2) (c := c_time_of) gP47 rfl
theorem gP49 : PhiOk Γ P49 := phi_up (n := 3) (c := c_law_part) gP48 rfl
theorem gP50 : PhiOk Γ P50 := phi_up (n := 9) (c := c_law_legs) gP49 rfl
theorem gP51 : PhiOk Γ P51 := phi_up (n := 2) (c := c_law_sum) gP50 rfl
theorem gP52 : PhiOk Γ P52 := phi_up (n := 5) (c := c_law_time) gP51 rfl
theorem gP53 : PhiOk Γ P53 := phi_up (n := 12) (c := c_law_told_right) gP52 rfl
abbrev e0_law_craft : WF.CE := (.fn 7 (.cons (.var 0) .nil))
abbrev e1_law_craft : WF.CE := (.tup (.cons (.bi .abs (.cons (.idx (.var 4) (.cst (.int 0))) .nil)) (.cons (.idx (.var 4) (.cst (.int 1))) (.cons (.idx (.var 4) (.cst (.int 2))) .nil))))
abbrev e2_law_craft : WF.CE := (.tup (.cons (.idx (.var 4) (.cst (.int 0))) (.cons (.bi .abs (.cons (.idx (.var 4) (.cst (.int 1))) .nil)) (.cons (.idx (.var 4) (.cst (.int 2))) .nil))))
abbrev s0_law_craft : CS := (.asg (.nm 1) (.fn 1 (.cons (.var 0) (.cons (.cst (.int 8)) .nil))))
abbrev s1_law_craft : CS := (.asg (.nm 2) (.bin .Add false (.lc false (.nm 3) (.rng (.cons (.bin .Add false (.cst (.int 2)) (.fn 1 (.cons (.var 0) (.cons (.cst (.int 3)) .nil)))) .nil)) .nil (.fn 7 (.cons (.var 0) .nil)) [("_law_each", 3)]) (.lst false (.cons (.tup (.cons (.cst (.int 0)) (.cons (.cst (.int 0)) (.cons (.cst (.int 1)) .nil)))) .nil))))
abbrev t1_law_craft : CSs := (.cons (.asg (.nm 2) (.bin .Add false (.lc false (.nm 3) (.rng (.cons (.bin .Add false (.cst (.int 2)) (.fn 1 (.cons (.var 0) (.cons (.cst (.int 3)) .nil)))) .nil)) .nil (.fn 7 (.cons (.var 0) .nil)) [("_law_each", 3)]) (.lst false (.cons (.tup (.cons (.cst (.int 0)) (.cons (.cst (.int 0)) (.cons (.cst (.int 1)) .nil)))) .nil)))) (.cons (.ife (.cmp .Lt (.var 1) (.cst (.int 2))) (.cons (.asg (.nm 2) (.bin .Add false (.lc false (.nm 4) (.seq (.var 2)) .nil (.tup (.cons (.bi .abs (.cons (.idx (.var 4) (.cst (.int 0))) .nil)) (.cons (.idx (.var 4) (.cst (.int 1))) (.cons (.idx (.var 4) (.cst (.int 2))) .nil)))) [("_law_spot_here", 4)]) (.lst false (.cons (.tup (.cons (.cst (.int 1)) (.cons (.cst (.int 0)) (.cons (.cst (.int 1)) .nil)))) (.cons (.tup (.cons (.cst (.int 2)) (.cons (.cst (.int 1)) (.cons (.cst (.int 1)) .nil)))) .nil))))) .nil) .nil) (.cons (.ife (.cmp .Eq (.var 1) (.cst (.int 2))) (.cons (.asg (.nm 2) (.bin .Add false (.lc false (.nm 4) (.seq (.var 2)) .nil (.tup (.cons (.idx (.var 4) (.cst (.int 0))) (.cons (.bi .abs (.cons (.idx (.var 4) (.cst (.int 1))) .nil)) (.cons (.idx (.var 4) (.cst (.int 2))) .nil)))) [("_law_spot_here", 4)]) (.lst false (.cons (.tup (.cons (.neg (.cst (.int 1))) (.cons (.cst (.int 0)) (.cons (.cst (.int 1)) .nil)))) (.cons (.tup (.cons (.cst (.int 2)) (.cons (.cst (.int 0)) (.cons (.cst (.int 1)) .nil)))) (.cons (.tup (.cons (.cst (.int 0)) (.cons (.cst (.int 1)) (.cons (.cst (.int 1)) .nil)))) .nil)))))) .nil) .nil) (.cons (.ife (.cmp .Gt (.var 1) (.cst (.int 4))) (.cons (.asg (.nm 2) (.bin .Add false (.var 2) (.lst false (.cons (.tup (.cons (.neg (.cst (.int 1))) (.cons (.neg (.cst (.int 1))) (.cons (.cst (.int 1)) .nil)))) (.cons (.tup (.cons (.cst (.int 1)) (.cons (.neg (.cst (.int 1))) (.cons (.cst (.int 2)) .nil)))) (.cons (.tup (.cons (.cst (.int 0)) (.cons (.cst (.int 1)) (.cons (.cst (.int 1)) .nil)))) .nil)))))) .nil) .nil) (.cons (.asg (.nm 2) (.fn 5 (.cons (.var 2) .nil))) (.cons (.ret (.ife (.cmp .Gt (.bi .len (.cons (.var 2) .nil)) (.cst (.int 2))) (.var 2) (.tup (.cons (.tup (.cons (.cst (.int 0)) (.cons (.cst (.int 0)) (.cons (.cst (.int 1)) .nil)))) (.cons (.tup (.cons (.cst (.int 2)) (.cons (.cst (.int 0)) (.cons (.cst (.int 1)) .nil)))) (.cons (.tup (.cons (.cst (.int 0)) (.cons (.cst (.int 1)) (.cons (.cst (.int 1)) .nil)))) .nil)))))) .nil))))))
abbrev s2_law_craft : CS := (.ife (.cmp .Lt (.var 1) (.cst (.int 2))) (.cons (.asg (.nm 2) (.bin .Add false (.lc false (.nm 4) (.seq (.var 2)) .nil (.tup (.cons (.bi .abs (.cons (.idx (.var 4) (.cst (.int 0))) .nil)) (.cons (.idx (.var 4) (.cst (.int 1))) (.cons (.idx (.var 4) (.cst (.int 2))) .nil)))) [("_law_spot_here", 4)]) (.lst false (.cons (.tup (.cons (.cst (.int 1)) (.cons (.cst (.int 0)) (.cons (.cst (.int 1)) .nil)))) (.cons (.tup (.cons (.cst (.int 2)) (.cons (.cst (.int 1)) (.cons (.cst (.int 1)) .nil)))) .nil))))) .nil) .nil)
abbrev t2_law_craft : CSs := (.cons (.ife (.cmp .Lt (.var 1) (.cst (.int 2))) (.cons (.asg (.nm 2) (.bin .Add false (.lc false (.nm 4) (.seq (.var 2)) .nil (.tup (.cons (.bi .abs (.cons (.idx (.var 4) (.cst (.int 0))) .nil)) (.cons (.idx (.var 4) (.cst (.int 1))) (.cons (.idx (.var 4) (.cst (.int 2))) .nil)))) [("_law_spot_here", 4)]) (.lst false (.cons (.tup (.cons (.cst (.int 1)) (.cons (.cst (.int 0)) (.cons (.cst (.int 1)) .nil)))) (.cons (.tup (.cons (.cst (.int 2)) (.cons (.cst (.int 1)) (.cons (.cst (.int 1)) .nil)))) .nil))))) .nil) .nil) (.cons (.ife (.cmp .Eq (.var 1) (.cst (.int 2))) (.cons (.asg (.nm 2) (.bin .Add false (.lc false (.nm 4) (.seq (.var 2)) .nil (.tup (.cons (.idx (.var 4) (.cst (.int 0))) (.cons (.bi .abs (.cons (.idx (.var 4) (.cst (.int 1))) .nil)) (.cons (.idx (.var 4) (.cst (.int 2))) .nil)))) [("_law_spot_here", 4)]) (.lst false (.cons (.tup (.cons (.neg (.cst (.int 1))) (.cons (.cst (.int 0)) (.cons (.cst (.int 1)) .nil)))) (.cons (.tup (.cons (.cst (.int 2)) (.cons (.cst (.int 0)) (.cons (.cst (.int 1)) .nil)))) (.cons (.tup (.cons (.cst (.int 0)) (.cons (.cst (.int 1)) (.cons (.cst (.int 1)) .nil)))) .nil)))))) .nil) .nil) (.cons (.ife (.cmp .Gt (.var 1) (.cst (.int 4))) (.cons (.asg (.nm 2) (.bin .Add false (.var 2) (.lst false (.cons (.tup (.cons (.neg (.cst (.int 1))) (.cons (.neg (.cst (.int 1))) (.cons (.cst (.int 1)) .nil)))) (.cons (.tup (.cons (.cst (.int 1)) (.cons (.neg (.cst (.int 1))) (.cons (.cst (.int 2)) .nil)))) (.cons (.tup (.cons (.cst (.int 0)) (.cons (.cst (.int 1)) (.cons (.cst (.int 1)) .nil)))) .nil)))))) .nil) .nil) (.cons (.asg (.nm 2) (.fn 5 (.cons (.var 2) .nil))) (.cons (.ret (.ife (.cmp .Gt (.bi .len (.cons (.var 2) .nil)) (.cst (.int 2))) (.var 2) (.tup (.cons (.tup (.cons (.cst (.int 0)) (.cons (.cst (.int 0)) (.cons (.cst (.int 1)) .nil)))) (.cons (.tup (.cons (.cst (.int 2)) (.cons (.cst (.int 0)) (.cons (.cst (.int 1)) .nil)))) (.cons (.tup (.cons (.cst (.int 0)) (.cons (.cst (.int 1)) (.cons (.cst (.int 1)) .nil)))) .nil)))))) .nil)))))
abbrev s3_law_craft : CS := (.ife (.cmp .Eq (.var 1) (.cst (.int 2))) (.cons (.asg (.nm 2) (.bin .Add false (.lc false (.nm 4) (.seq (.var 2)) .nil (.tup (.cons (.idx (.var 4) (.cst (.int 0))) (.cons (.bi .abs (.cons (.idx (.var 4) (.cst (.int 1))) .nil)) (.cons (.idx (.var 4) (.cst (.int 2))) .nil)))) [("_law_spot_here", 4)]) (.lst false (.cons (.tup (.cons (.neg (.cst (.int 1))) (.cons (.cst (.int 0)) (.cons (.cst (.int 1)) .nil)))) (.cons (.tup (.cons (.cst (.int 2)) (.cons (.cst (.int 0)) (.cons (.cst (.int 1)) .nil)))) (.cons (.tup (.cons (.cst (.int 0)) (.cons (.cst (.int 1)) (.cons (.cst (.int 1)) .nil)))) .nil)))))) .nil) .nil)
abbrev t3_law_craft : CSs := (.cons (.ife (.cmp .Eq (.var 1) (.cst (.int 2))) (.cons (.asg (.nm 2) (.bin .Add false (.lc false (.nm 4) (.seq (.var 2)) .nil (.tup (.cons (.idx (.var 4) (.cst (.int 0))) (.cons (.bi .abs (.cons (.idx (.var 4) (.cst (.int 1))) .nil)) (.cons (.idx (.var 4) (.cst (.int 2))) .nil)))) [("_law_spot_here", 4)]) (.lst false (.cons (.tup (.cons (.neg (.cst (.int 1))) (.cons (.cst (.int 0)) (.cons (.cst (.int 1)) .nil)))) (.cons (.tup (.cons (.cst (.int 2)) (.cons (.cst (.int 0)) (.cons (.cst (.int 1)) .nil)))) (.cons (.tup (.cons (.cst (.int 0)) (.cons (.cst (.int 1)) (.cons (.cst (.int 1)) .nil)))) .nil)))))) .nil) .nil) (.cons (.ife (.cmp .Gt (.var 1) (.cst (.int 4))) (.cons (.asg (.nm 2) (.bin .Add false (.var 2) (.lst false (.cons (.tup (.cons (.neg (.cst (.int 1))) (.cons (.neg (.cst (.int 1))) (.cons (.cst (.int 1)) .nil)))) (.cons (.tup (.cons (.cst (.int 1)) (.cons (.neg (.cst (.int 1))) (.cons (.cst (.int 2)) .nil)))) (.cons (.tup (.cons (.cst (.int 0)) (.cons (.cst (.int 1)) (.cons (.cst (.int 1)) .nil)))) .nil)))))) .nil) .nil) (.cons (.asg (.nm 2) (.fn 5 (.cons (.var 2) .nil))) (.cons (.ret (.ife (.cmp .Gt (.bi .len (.cons (.var 2) .nil)) (.cst (.int 2))) (.var 2) (.tup (.cons (.tup (.cons (.cst (.int 0)) (.cons (.cst (.int 0)) (.cons (.cst (.int 1)) .nil)))) (.cons (.tup (.cons (.cst (.int 2)) (.cons (.cst (.int 0)) (.cons (.cst (.int 1)) .nil)))) (.cons (.tup (.cons (.cst (.int 0)) (.cons (.cst (.int 1)) (.cons (.cst (.int 1)) .nil)))) .nil)))))) .nil))))
abbrev s4_law_craft : CS := (.ife (.cmp .Gt (.var 1) (.cst (.int 4))) (.cons (.asg (.nm 2) (.bin .Add false (.var 2) (.lst false (.cons (.tup (.cons (.neg (.cst (.int 1))) (.cons (.neg (.cst (.int 1))) (.cons (.cst (.int 1)) .nil)))) (.cons (.tup (.cons (.cst (.int 1)) (.cons (.neg (.cst (.int 1))) (.cons (.cst (.int 2)) .nil)))) (.cons (.tup (.cons (.cst (.int 0)) (.cons (.cst (.int 1)) (.cons (.cst (.int 1)) .nil)))) .nil)))))) .nil) .nil)
abbrev t4_law_craft : CSs := (.cons (.ife (.cmp .Gt (.var 1) (.cst (.int 4))) (.cons (.asg (.nm 2) (.bin .Add false (.var 2) (.lst false (.cons (.tup (.cons (.neg (.cst (.int 1))) (.cons (.neg (.cst (.int 1))) (.cons (.cst (.int 1)) .nil)))) (.cons (.tup (.cons (.cst (.int 1)) (.cons (.neg (.cst (.int 1))) (.cons (.cst (.int 2)) .nil)))) (.cons (.tup (.cons (.cst (.int 0)) (.cons (.cst (.int 1)) (.cons (.cst (.int 1)) .nil)))) .nil)))))) .nil) .nil) (.cons (.asg (.nm 2) (.fn 5 (.cons (.var 2) .nil))) (.cons (.ret (.ife (.cmp .Gt (.bi .len (.cons (.var 2) .nil)) (.cst (.int 2))) (.var 2) (.tup (.cons (.tup (.cons (.cst (.int 0)) (.cons (.cst (.int 0)) (.cons (.cst (.int 1)) .nil)))) (.cons (.tup (.cons (.cst (.int 2)) (.cons (.cst (.int 0)) (.cons (.cst (.int 1)) .nil)))) (.cons (.tup (.cons (.cst (.int 0)) (.cons (.cst (.int 1)) (.cons (.cst (.int 1)) .nil)))) .nil)))))) .nil)))
abbrev s5_law_craft : CS := (.asg (.nm 2) (.fn 5 (.cons (.var 2) .nil)))
abbrev t5_law_craft : CSs := (.cons (.asg (.nm 2) (.fn 5 (.cons (.var 2) .nil))) (.cons (.ret (.ife (.cmp .Gt (.bi .len (.cons (.var 2) .nil)) (.cst (.int 2))) (.var 2) (.tup (.cons (.tup (.cons (.cst (.int 0)) (.cons (.cst (.int 0)) (.cons (.cst (.int 1)) .nil)))) (.cons (.tup (.cons (.cst (.int 2)) (.cons (.cst (.int 0)) (.cons (.cst (.int 1)) .nil)))) (.cons (.tup (.cons (.cst (.int 0)) (.cons (.cst (.int 1)) (.cons (.cst (.int 1)) .nil)))) .nil)))))) .nil))
abbrev s6_law_craft : CS := (.ret (.ife (.cmp .Gt (.bi .len (.cons (.var 2) .nil)) (.cst (.int 2))) (.var 2) (.tup (.cons (.tup (.cons (.cst (.int 0)) (.cons (.cst (.int 0)) (.cons (.cst (.int 1)) .nil)))) (.cons (.tup (.cons (.cst (.int 2)) (.cons (.cst (.int 0)) (.cons (.cst (.int 1)) .nil)))) (.cons (.tup (.cons (.cst (.int 0)) (.cons (.cst (.int 1)) (.cons (.cst (.int 1)) .nil)))) .nil))))))
abbrev t6_law_craft : CSs := (.cons (.ret (.ife (.cmp .Gt (.bi .len (.cons (.var 2) .nil)) (.cst (.int 2))) (.var 2) (.tup (.cons (.tup (.cons (.cst (.int 0)) (.cons (.cst (.int 0)) (.cons (.cst (.int 1)) .nil)))) (.cons (.tup (.cons (.cst (.int 2)) (.cons (.cst (.int 0)) (.cons (.cst (.int 1)) .nil)))) (.cons (.tup (.cons (.cst (.int 0)) (.cons (.cst (.int 1)) (.cons (.cst (.int 1)) .nil)))) .nil)))))) .nil)
abbrev e0_law_sized : WF.CE := (.fn 9 (.cons (.var 2) (.cons (.var 1) .nil)))
abbrev s0_law_sized : CS := (.ret (.fn 5 (.cons (.lc false (.nm 2) (.seq (.var 0)) .nil (.fn 9 (.cons (.var 2) (.cons (.var 1) .nil))) [("_law_spot_here", 2)]) .nil)))
abbrev e0_law_second : WF.CE := (.var 4)
abbrev s0_law_second : CS := (.asg (.nm 2) (.fn 1 (.cons (.var 0) (.cons (.cst (.int 8)) .nil))))
abbrev s1_law_second : CS := (.ife (.cmp .Eq (.var 2) (.cst (.int 0))) (.cons (.ret (.var 1)) .nil) .nil)
abbrev t1_law_second : CSs := (.cons (.ife (.cmp .Eq (.var 2) (.cst (.int 0))) (.cons (.ret (.var 1)) .nil) .nil) (.cons (.ife (.cmp .Eq (.var 2) (.cst (.int 1))) (.cons (.ret (.fn 10 (.cons (.var 1) (.cons (.fn 6 (.cons (.var 0) (.cons (.tup (.cons (.tup (.cons (.cst (.int 1)) (.cons (.cst (.int 2)) .nil))) (.cons (.tup (.cons (.cst (.int 2)) (.cons (.cst (.int 1)) .nil))) (.cons (.tup (.cons (.cst (.int 3)) (.cons (.cst (.int 4)) .nil))) (.cons (.tup (.cons (.cst (.int 5)) (.cons (.cst (.int 3)) .nil))) .nil))))) .nil))) .nil)))) .nil) .nil) (.cons (.ife (.cmp .Lt (.var 2) (.cst (.int 4))) (.cons (.ret (.fn 5 (.cons (.bin .Add false (.bi (.list false) (.cons (.var 1) .nil)) (.lst false (.cons (.fn 7 (.cons (.var 0) .nil)) .nil))) .nil))) .nil) .nil) (.cons (.asg (.nm 3) (.fn 5 (.cons (.bin .Add false (.lc false (.nm 4) (.seq (.var 1)) (.cons (.cmp .NotEq (.var 4) (.idx (.var 1) (.neg (.cst (.int 1))))) .nil) (.var 4) [("_law_spot_here", 4)]) (.lst false (.cons (.tup (.cons (.cst (.int 0)) (.cons (.cst (.int 0)) (.cons (.cst (.int 1)) .nil)))) .nil))) .nil))) (.cons (.ret (.ife (.con .And (.cons (.cmp .Eq (.var 2) (.cst (.int 4))) (.cons (.cmp .Gt (.bi .len (.cons (.var 3) .nil)) (.cst (.int 2))) .nil))) (.var 3) (.fn 8 (.cons (.var 0) .nil)))) .nil)))))
abbrev s2_law_second : CS := (.ife (.cmp .Eq (.var 2) (.cst (.int 1))) (.cons (.ret (.fn 10 (.cons (.var 1) (.cons (.fn 6 (.cons (.var 0) (.cons (.tup (.cons (.tup (.cons (.cst (.int 1)) (.cons (.cst (.int 2)) .nil))) (.cons (.tup (.cons (.cst (.int 2)) (.cons (.cst (.int 1)) .nil))) (.cons (.tup (.cons (.cst (.int 3)) (.cons (.cst (.int 4)) .nil))) (.cons (.tup (.cons (.cst (.int 5)) (.cons (.cst (.int 3)) .nil))) .nil))))) .nil))) .nil)))) .nil) .nil)
abbrev t2_law_second : CSs := (.cons (.ife (.cmp .Eq (.var 2) (.cst (.int 1))) (.cons (.ret (.fn 10 (.cons (.var 1) (.cons (.fn 6 (.cons (.var 0) (.cons (.tup (.cons (.tup (.cons (.cst (.int 1)) (.cons (.cst (.int 2)) .nil))) (.cons (.tup (.cons (.cst (.int 2)) (.cons (.cst (.int 1)) .nil))) (.cons (.tup (.cons (.cst (.int 3)) (.cons (.cst (.int 4)) .nil))) (.cons (.tup (.cons (.cst (.int 5)) (.cons (.cst (.int 3)) .nil))) .nil))))) .nil))) .nil)))) .nil) .nil) (.cons (.ife (.cmp .Lt (.var 2) (.cst (.int 4))) (.cons (.ret (.fn 5 (.cons (.bin .Add false (.bi (.list false) (.cons (.var 1) .nil)) (.lst false (.cons (.fn 7 (.cons (.var 0) .nil)) .nil))) .nil))) .nil) .nil) (.cons (.asg (.nm 3) (.fn 5 (.cons (.bin .Add false (.lc false (.nm 4) (.seq (.var 1)) (.cons (.cmp .NotEq (.var 4) (.idx (.var 1) (.neg (.cst (.int 1))))) .nil) (.var 4) [("_law_spot_here", 4)]) (.lst false (.cons (.tup (.cons (.cst (.int 0)) (.cons (.cst (.int 0)) (.cons (.cst (.int 1)) .nil)))) .nil))) .nil))) (.cons (.ret (.ife (.con .And (.cons (.cmp .Eq (.var 2) (.cst (.int 4))) (.cons (.cmp .Gt (.bi .len (.cons (.var 3) .nil)) (.cst (.int 2))) .nil))) (.var 3) (.fn 8 (.cons (.var 0) .nil)))) .nil))))
abbrev s3_law_second : CS := (.ife (.cmp .Lt (.var 2) (.cst (.int 4))) (.cons (.ret (.fn 5 (.cons (.bin .Add false (.bi (.list false) (.cons (.var 1) .nil)) (.lst false (.cons (.fn 7 (.cons (.var 0) .nil)) .nil))) .nil))) .nil) .nil)
abbrev t3_law_second : CSs := (.cons (.ife (.cmp .Lt (.var 2) (.cst (.int 4))) (.cons (.ret (.fn 5 (.cons (.bin .Add false (.bi (.list false) (.cons (.var 1) .nil)) (.lst false (.cons (.fn 7 (.cons (.var 0) .nil)) .nil))) .nil))) .nil) .nil) (.cons (.asg (.nm 3) (.fn 5 (.cons (.bin .Add false (.lc false (.nm 4) (.seq (.var 1)) (.cons (.cmp .NotEq (.var 4) (.idx (.var 1) (.neg (.cst (.int 1))))) .nil) (.var 4) [("_law_spot_here", 4)]) (.lst false (.cons (.tup (.cons (.cst (.int 0)) (.cons (.cst (.int 0)) (.cons (.cst (.int 1)) .nil)))) .nil))) .nil))) (.cons (.ret (.ife (.con .And (.cons (.cmp .Eq (.var 2) (.cst (.int 4))) (.cons (.cmp .Gt (.bi .len (.cons (.var 3) .nil)) (.cst (.int 2))) .nil))) (.var 3) (.fn 8 (.cons (.var 0) .nil)))) .nil)))
abbrev s4_law_second : CS := (.asg (.nm 3) (.fn 5 (.cons (.bin .Add false (.lc false (.nm 4) (.seq (.var 1)) (.cons (.cmp .NotEq (.var 4) (.idx (.var 1) (.neg (.cst (.int 1))))) .nil) (.var 4) [("_law_spot_here", 4)]) (.lst false (.cons (.tup (.cons (.cst (.int 0)) (.cons (.cst (.int 0)) (.cons (.cst (.int 1)) .nil)))) .nil))) .nil)))
abbrev t4_law_second : CSs := (.cons (.asg (.nm 3) (.fn 5 (.cons (.bin .Add false (.lc false (.nm 4) (.seq (.var 1)) (.cons (.cmp .NotEq (.var 4) (.idx (.var 1) (.neg (.cst (.int 1))))) .nil) (.var 4) [("_law_spot_here", 4)]) (.lst false (.cons (.tup (.cons (.cst (.int 0)) (.cons (.cst (.int 0)) (.cons (.cst (.int 1)) .nil)))) .nil))) .nil))) (.cons (.ret (.ife (.con .And (.cons (.cmp .Eq (.var 2) (.cst (.int 4))) (.cons (.cmp .Gt (.bi .len (.cons (.var 3) .nil)) (.cst (.int 2))) .nil))) (.var 3) (.fn 8 (.cons (.var 0) .nil)))) .nil))
abbrev s5_law_second : CS := (.ret (.ife (.con .And (.cons (.cmp .Eq (.var 2) (.cst (.int 4))) (.cons (.cmp .Gt (.bi .len (.cons (.var 3) .nil)) (.cst (.int 2))) .nil))) (.var 3) (.fn 8 (.cons (.var 0) .nil))))
abbrev t5_law_second : CSs := (.cons (.ret (.ife (.con .And (.cons (.cmp .Eq (.var 2) (.cst (.int 4))) (.cons (.cmp .Gt (.bi .len (.cons (.var 3) .nil)) (.cst (.int 2))) .nil))) (.var 3) (.fn 8 (.cons (.var 0) .nil)))) .nil)
abbrev s0_check_two : CS := (.expr (.fn 33 (.cons (.var 0) .nil)))
abbrev s1_check_two : CS := (.expr (.fn 33 (.cons (.var 1) .nil)))
abbrev t1_check_two : CSs := (.cons (.expr (.fn 33 (.cons (.var 1) .nil))) .nil)
abbrev e0_within : WF.CE := (.fn 25 (.cons (.var 2) (.cons (.var 3) .nil)))
abbrev s0_never_later : CS := (.expr (.fn 34 (.cons (.var 0) (.cons (.var 1) .nil))))
abbrev s1_never_later : CS := (.ret (.fn 35 (.cons (.var 1) (.cons (.var 0) .nil))))
abbrev t1_never_later : CSs := (.cons (.ret (.fn 35 (.cons (.var 1) (.cons (.var 0) .nil)))) .nil)
abbrev b0_parting_way : CSs := (.cons (.ife (.nt (.fn 31 (.cons (.var 0) (.cons (.var 2) .nil)))) (.cons (.ret (.var 2)) .nil) .nil) .nil)
abbrev b0s0_parting_way : CS := (.ife (.nt (.fn 31 (.cons (.var 0) (.cons (.var 2) .nil)))) (.cons (.ret (.var 2)) .nil) .nil)
abbrev s0_parting_way : CS := (.expr (.fn 34 (.cons (.var 0) (.cons (.var 1) .nil))))
abbrev s1_parting_way : CS := (.for_ (.nm 2) (.seq (.var 1)) (.cons (.ife (.nt (.fn 31 (.cons (.var 0) (.cons (.var 2) .nil)))) (.cons (.ret (.var 2)) .nil) .nil) .nil))
abbrev t1_parting_way : CSs := (.cons (.for_ (.nm 2) (.seq (.var 1)) (.cons (.ife (.nt (.fn 31 (.cons (.var 0) (.cons (.var 2) .nil)))) (.cons (.ret (.var 2)) .nil) .nil) .nil)) (.cons (.ret (.cst .none)) .nil))
abbrev s2_parting_way : CS := (.ret (.cst .none))
abbrev t2_parting_way : CSs := (.cons (.ret (.cst .none)) .nil)
abbrev s0_lies_inside : CS := (.expr (.fn 38 (.cons (.var 0) .nil)))
abbrev s1_lies_inside : CS := (.expr (.fn 38 (.cons (.var 1) .nil)))
abbrev t1_lies_inside : CSs := (.cons (.expr (.fn 38 (.cons (.var 1) .nil))) (.cons (.ret (.fn 35 (.cons (.var 0) (.cons (.var 1) .nil)))) .nil))
abbrev s2_lies_inside : CS := (.ret (.fn 35 (.cons (.var 0) (.cons (.var 1) .nil))))
abbrev t2_lies_inside : CSs := (.cons (.ret (.fn 35 (.cons (.var 0) (.cons (.var 1) .nil)))) .nil)
abbrev s0_law_longer : CS := (.ife (.con .Or (.cons (.cmp .Is (.var 0) (.cst .none)) (.cons (.cmp .Is (.var 1) (.cst .none)) .nil))) (.cons (.ret (.con .And (.cons (.cmp .Is (.var 0) (.cst .none)) (.cons (.cmp .IsNot (.var 1) (.cst .none)) .nil)))) .nil) .nil)
abbrev s1_law_longer : CS := (.ret (.fn 40 (.cons (.var 1) (.cons (.var 0) .nil))))
abbrev t1_law_longer : CSs := (.cons (.ret (.fn 40 (.cons (.var 1) (.cons (.var 0) .nil)))) .nil)
abbrev s0_time_of : CS := (.expr (.fn 33 (.cons (.var 0) .nil)))
abbrev s1_time_of : CS := (.expr (.fn 42 (.cons (.var 1) .nil)))
abbrev t1_time_of : CSs := (.cons (.expr (.fn 42 (.cons (.var 1) .nil))) (.cons (.ret (.fn 46 (.cons (.fn 30 (.cons (.var 0) .nil)) (.cons (.var 1) .nil)))) .nil))
abbrev s2_time_of : CS := (.ret (.fn 46 (.cons (.fn 30 (.cons (.var 0) .nil)) (.cons (.var 1) .nil))))
abbrev t2_time_of : CSs := (.cons (.ret (.fn 46 (.cons (.fn 30 (.cons (.var 0) .nil)) (.cons (.var 1) .nil)))) .nil)
abbrev b0_law_legs : CSs := (.cons (.par2 4 5 (.cons (.idx (.var 0) (.var 2)) (.cons (.idx (.var 0) (.bin .Mod false (.bi .int (.cons (.bin .Add false (.var 2) (.cst (.int 1))) .nil)) (.bi .len (.cons (.var 0) .nil)))) .nil))) (.cons (.asg (.nm 3) (.bin .Sub false (.bin .Mult false (.idx (.var 4) (.cst (.int 0))) (.idx (.var 5) (.cst (.int 1)))) (.bin .Mult false (.idx (.var 4) (.cst (.int 1))) (.idx (.var 5) (.cst (.int 0)))))) (.cons (.par2 6 7 (.cons (.bin .Sub false (.bin .Mult false (.idx (.var 1) (.cst (.int 0))) (.idx (.var 5) (.cst (.int 1)))) (.bin .Mult false (.idx (.var 1) (.cst (.int 1))) (.idx (.var 5) (.cst (.int 0))))) (.cons (.bin .Sub false (.bin .Mult false (.idx (.var 4) (.cst (.int 0))) (.idx (.var 1) (.cst (.int 1)))) (.bin .Mult false (.idx (.var 4) (.cst (.int 1))) (.idx (.var 1) (.cst (.int 0))))) .nil))) (.cons (.ife (.con .And (.cons (.cmp .Gt (.var 3) (.cst (.int 0))) (.cons (.cmp .GtE (.var 6) (.cst (.int 0))) (.cons (.cmp .GtE (.var 7) (.cst (.int 0))) .nil)))) (.cons (.asg (.nm 8) (.ife (.cmp .Gt (.var 6) (.cst (.int 0))) (.lst false (.cons (.tup (.cons (.var 4) (.cons (.fn 48 (.cons (.bin .Mult false (.var 6) (.idx (.var 4) (.cst (.int 2)))) (.cons (.bin .Mult false (.var 3) (.idx (.var 1) (.cst (.int 2)))) .nil))) .nil))) .nil)) (.lst false .nil))) (.cons (.ret (.bin .Add false (.var 8) (.ife (.cmp .Gt (.var 7) (.cst (.int 0))) (.lst false (.cons (.tup (.cons (.var 5) (.cons (.fn 48 (.cons (.bin .Mult false (.var 7) (.idx (.var 5) (.cst (.int 2)))) (.cons (.bin .Mult false (.var 3) (.idx (.var 1) (.cst (.int 2)))) .nil))) .nil))) .nil)) (.lst false .nil)))) .nil)) .nil) .nil))))
abbrev b0t1_law_legs : CSs := (.cons (.asg (.nm 3) (.bin .Sub false (.bin .Mult false (.idx (.var 4) (.cst (.int 0))) (.idx (.var 5) (.cst (.int 1)))) (.bin .Mult false (.idx (.var 4) (.cst (.int 1))) (.idx (.var 5) (.cst (.int 0)))))) (.cons (.par2 6 7 (.cons (.bin .Sub false (.bin .Mult false (.idx (.var 1) (.cst (.int 0))) (.idx (.var 5) (.cst (.int 1)))) (.bin .Mult false (.idx (.var 1) (.cst (.int 1))) (.idx (.var 5) (.cst (.int 0))))) (.cons (.bin .Sub false (.bin .Mult false (.idx (.var 4) (.cst (.int 0))) (.idx (.var 1) (.cst (.int 1)))) (.bin .Mult false (.idx (.var 4) (.cst (.int 1))) (.idx (.var 1) (.cst (.int 0))))) .nil))) (.cons (.ife (.con .And (.cons (.cmp .Gt (.var 3) (.cst (.int 0))) (.cons (.cmp .GtE (.var 6) (.cst (.int 0))) (.cons (.cmp .GtE (.var 7) (.cst (.int 0))) .nil)))) (.cons (.asg (.nm 8) (.ife (.cmp .Gt (.var 6) (.cst (.int 0))) (.lst false (.cons (.tup (.cons (.var 4) (.cons (.fn 48 (.cons (.bin .Mult false (.var 6) (.idx (.var 4) (.cst (.int 2)))) (.cons (.bin .Mult false (.var 3) (.idx (.var 1) (.cst (.int 2)))) .nil))) .nil))) .nil)) (.lst false .nil))) (.cons (.ret (.bin .Add false (.var 8) (.ife (.cmp .Gt (.var 7) (.cst (.int 0))) (.lst false (.cons (.tup (.cons (.var 5) (.cons (.fn 48 (.cons (.bin .Mult false (.var 7) (.idx (.var 5) (.cst (.int 2)))) (.cons (.bin .Mult false (.var 3) (.idx (.var 1) (.cst (.int 2)))) .nil))) .nil))) .nil)) (.lst false .nil)))) .nil)) .nil) .nil)))
abbrev b0t2_law_legs : CSs := (.cons (.par2 6 7 (.cons (.bin .Sub false (.bin .Mult false (.idx (.var 1) (.cst (.int 0))) (.idx (.var 5) (.cst (.int 1)))) (.bin .Mult false (.idx (.var 1) (.cst (.int 1))) (.idx (.var 5) (.cst (.int 0))))) (.cons (.bin .Sub false (.bin .Mult false (.idx (.var 4) (.cst (.int 0))) (.idx (.var 1) (.cst (.int 1)))) (.bin .Mult false (.idx (.var 4) (.cst (.int 1))) (.idx (.var 1) (.cst (.int 0))))) .nil))) (.cons (.ife (.con .And (.cons (.cmp .Gt (.var 3) (.cst (.int 0))) (.cons (.cmp .GtE (.var 6) (.cst (.int 0))) (.cons (.cmp .GtE (.var 7) (.cst (.int 0))) .nil)))) (.cons (.asg (.nm 8) (.ife (.cmp .Gt (.var 6) (.cst (.int 0))) (.lst false (.cons (.tup (.cons (.var 4) (.cons (.fn 48 (.cons (.bin .Mult false (.var 6) (.idx (.var 4) (.cst (.int 2)))) (.cons (.bin .Mult false (.var 3) (.idx (.var 1) (.cst (.int 2)))) .nil))) .nil))) .nil)) (.lst false .nil))) (.cons (.ret (.bin .Add false (.var 8) (.ife (.cmp .Gt (.var 7) (.cst (.int 0))) (.lst false (.cons (.tup (.cons (.var 5) (.cons (.fn 48 (.cons (.bin .Mult false (.var 7) (.idx (.var 5) (.cst (.int 2)))) (.cons (.bin .Mult false (.var 3) (.idx (.var 1) (.cst (.int 2)))) .nil))) .nil))) .nil)) (.lst false .nil)))) .nil)) .nil) .nil))
abbrev b0t3_law_legs : CSs := (.cons (.ife (.con .And (.cons (.cmp .Gt (.var 3) (.cst (.int 0))) (.cons (.cmp .GtE (.var 6) (.cst (.int 0))) (.cons (.cmp .GtE (.var 7) (.cst (.int 0))) .nil)))) (.cons (.asg (.nm 8) (.ife (.cmp .Gt (.var 6) (.cst (.int 0))) (.lst false (.cons (.tup (.cons (.var 4) (.cons (.fn 48 (.cons (.bin .Mult false (.var 6) (.idx (.var 4) (.cst (.int 2)))) (.cons (.bin .Mult false (.var 3) (.idx (.var 1) (.cst (.int 2)))) .nil))) .nil))) .nil)) (.lst false .nil))) (.cons (.ret (.bin .Add false (.var 8) (.ife (.cmp .Gt (.var 7) (.cst (.int 0))) (.lst false (.cons (.tup (.cons (.var 5) (.cons (.fn 48 (.cons (.bin .Mult false (.var 7) (.idx (.var 5) (.cst (.int 2)))) (.cons (.bin .Mult false (.var 3) (.idx (.var 1) (.cst (.int 2)))) .nil))) .nil))) .nil)) (.lst false .nil)))) .nil)) .nil) .nil)
abbrev b0s0_law_legs : CS := (.par2 4 5 (.cons (.idx (.var 0) (.var 2)) (.cons (.idx (.var 0) (.bin .Mod false (.bi .int (.cons (.bin .Add false (.var 2) (.cst (.int 1))) .nil)) (.bi .len (.cons (.var 0) .nil)))) .nil)))
abbrev b0s1_law_legs : CS := (.asg (.nm 3) (.bin .Sub false (.bin .Mult false (.idx (.var 4) (.cst (.int 0))) (.idx (.var 5) (.cst (.int 1)))) (.bin .Mult false (.idx (.var 4) (.cst (.int 1))) (.idx (.var 5) (.cst (.int 0))))))
abbrev b0s2_law_legs : CS := (.par2 6 7 (.cons (.bin .Sub false (.bin .Mult false (.idx (.var 1) (.cst (.int 0))) (.idx (.var 5) (.cst (.int 1)))) (.bin .Mult false (.idx (.var 1) (.cst (.int 1))) (.idx (.var 5) (.cst (.int 0))))) (.cons (.bin .Sub false (.bin .Mult false (.idx (.var 4) (.cst (.int 0))) (.idx (.var 1) (.cst (.int 1)))) (.bin .Mult false (.idx (.var 4) (.cst (.int 1))) (.idx (.var 1) (.cst (.int 0))))) .nil)))
abbrev b0s3_law_legs : CS := (.ife (.con .And (.cons (.cmp .Gt (.var 3) (.cst (.int 0))) (.cons (.cmp .GtE (.var 6) (.cst (.int 0))) (.cons (.cmp .GtE (.var 7) (.cst (.int 0))) .nil)))) (.cons (.asg (.nm 8) (.ife (.cmp .Gt (.var 6) (.cst (.int 0))) (.lst false (.cons (.tup (.cons (.var 4) (.cons (.fn 48 (.cons (.bin .Mult false (.var 6) (.idx (.var 4) (.cst (.int 2)))) (.cons (.bin .Mult false (.var 3) (.idx (.var 1) (.cst (.int 2)))) .nil))) .nil))) .nil)) (.lst false .nil))) (.cons (.ret (.bin .Add false (.var 8) (.ife (.cmp .Gt (.var 7) (.cst (.int 0))) (.lst false (.cons (.tup (.cons (.var 5) (.cons (.fn 48 (.cons (.bin .Mult false (.var 7) (.idx (.var 5) (.cst (.int 2)))) (.cons (.bin .Mult false (.var 3) (.idx (.var 1) (.cst (.int 2)))) .nil))) .nil))) .nil)) (.lst false .nil)))) .nil)) .nil)
abbrev s0_law_legs : CS := (.for_ (.nm 2) (.rng (.cons (.bi .len (.cons (.var 0) .nil)) .nil)) (.cons (.par2 4 5 (.cons (.idx (.var 0) (.var 2)) (.cons (.idx (.var 0) (.bin .Mod false (.bi .int (.cons (.bin .Add false (.var 2) (.cst (.int 1))) .nil)) (.bi .len (.cons (.var 0) .nil)))) .nil))) (.cons (.asg (.nm 3) (.bin .Sub false (.bin .Mult false (.idx (.var 4) (.cst (.int 0))) (.idx (.var 5) (.cst (.int 1)))) (.bin .Mult false (.idx (.var 4) (.cst (.int 1))) (.idx (.var 5) (.cst (.int 0)))))) (.cons (.par2 6 7 (.cons (.bin .Sub false (.bin .Mult false (.idx (.var 1) (.cst (.int 0))) (.idx (.var 5) (.cst (.int 1)))) (.bin .Mult false (.idx (.var 1) (.cst (.int 1))) (.idx (.var 5) (.cst (.int 0))))) (.cons (.bin .Sub false (.bin .Mult false (.idx (.var 4) (.cst (.int 0))) (.idx (.var 1) (.cst (.int 1)))) (.bin .Mult false (.idx (.var 4) (.cst (.int 1))) (.idx (.var 1) (.cst (.int 0))))) .nil))) (.cons (.ife (.con .And (.cons (.cmp .Gt (.var 3) (.cst (.int 0))) (.cons (.cmp .GtE (.var 6) (.cst (.int 0))) (.cons (.cmp .GtE (.var 7) (.cst (.int 0))) .nil)))) (.cons (.asg (.nm 8) (.ife (.cmp .Gt (.var 6) (.cst (.int 0))) (.lst false (.cons (.tup (.cons (.var 4) (.cons (.fn 48 (.cons (.bin .Mult false (.var 6) (.idx (.var 4) (.cst (.int 2)))) (.cons (.bin .Mult false (.var 3) (.idx (.var 1) (.cst (.int 2)))) .nil))) .nil))) .nil)) (.lst false .nil))) (.cons (.ret (.bin .Add false (.var 8) (.ife (.cmp .Gt (.var 7) (.cst (.int 0))) (.lst false (.cons (.tup (.cons (.var 5) (.cons (.fn 48 (.cons (.bin .Mult false (.var 7) (.idx (.var 5) (.cst (.int 2)))) (.cons (.bin .Mult false (.var 3) (.idx (.var 1) (.cst (.int 2)))) .nil))) .nil))) .nil)) (.lst false .nil)))) .nil)) .nil) .nil)))))
abbrev s1_law_legs : CS := (.ret (.cst .none))
abbrev t1_law_legs : CSs := (.cons (.ret (.cst .none)) .nil)
abbrev s0_law_sum : CS := (.ret (.fn 48 (.cons (.bin .Add false (.bin .Mult false (.idx (.var 0) (.cst (.int 0))) (.idx (.var 1) (.cst (.int 1)))) (.bin .Mult false (.idx (.var 1) (.cst (.int 0))) (.idx (.var 0) (.cst (.int 1))))) (.cons (.bin .Mult false (.idx (.var 0) (.cst (.int 1))) (.idx (.var 1) (.cst (.int 1)))) .nil))))
abbrev b0_law_time : CSs := (.cons (.asg (.nm 4) (.fn 50 (.cons (.var 4) (.cons (.idx (.var 2) (.cst (.int 1))) .nil)))) .nil)
abbrev b0s0_law_time : CS := (.asg (.nm 4) (.fn 50 (.cons (.var 4) (.cons (.idx (.var 2) (.cst (.int 1))) .nil))))
abbrev s0_law_time : CS := (.par2 3 4 (.cons (.fn 49 (.cons (.var 0) (.cons (.var 1) .nil))) (.cons (.tup (.cons (.cst (.int 0)) (.cons (.cst (.int 1)) .nil))) .nil)))
abbrev s1_law_time : CS := (.ife (.cmp .Is (.var 3) (.cst .none)) (.cons (.ret (.cst .none)) .nil) .nil)
abbrev t1_law_time : CSs := (.cons (.ife (.cmp .Is (.var 3) (.cst .none)) (.cons (.ret (.cst .none)) .nil) .nil) (.cons (.for_ (.nm 2) (.seq (.var 3)) (.cons (.asg (.nm 4) (.fn 50 (.cons (.var 4) (.cons (.idx (.var 2) (.cst (.int 1))) .nil)))) .nil)) (.cons (.ret (.var 4)) .nil)))
abbrev s2_law_time : CS := (.for_ (.nm 2) (.seq (.var 3)) (.cons (.asg (.nm 4) (.fn 50 (.cons (.var 4) (.cons (.idx (.var 2) (.cst (.int 1))) .nil)))) .nil))
abbrev t2_law_time : CSs := (.cons (.for_ (.nm 2) (.seq (.var 3)) (.cons (.asg (.nm 4) (.fn 50 (.cons (.var 4) (.cons (.idx (.var 2) (.cst (.int 1))) .nil)))) .nil)) (.cons (.ret (.var 4)) .nil))
abbrev s3_law_time : CS := (.ret (.var 4))
abbrev t3_law_time : CSs := (.cons (.ret (.var 4)) .nil)
abbrev b0_law_told_right : CSs := (.cons (.par2 10 11 (.cons (.fn 47 (.cons (.var 0) (.cons (.var 7) .nil))) (.cons (.fn 47 (.cons (.var 1) (.cons (.var 7) .nil))) .nil))) (.cons (.ife (.cmp .NotEq (.bi .repr (.cons (.lst false (.cons (.var 10) (.cons (.var 11) .nil))) .nil)) (.bi .repr (.cons (.lst false (.cons (.fn 51 (.cons (.var 0) (.cons (.var 7) .nil))) (.cons (.fn 51 (.cons (.var 1) (.cons (.var 7) .nil))) .nil))) .nil))) (.cons (.ret (.cst (.bool false))) .nil) .nil) (.cons (.ife (.con .And (.cons (.var 4) (.cons (.fn 41 (.cons (.var 10) (.cons (.var 11) .nil))) .nil))) (.cons (.ret (.cst (.bool false))) .nil) .nil) .nil)))
abbrev b0t1_law_told_right : CSs := (.cons (.ife (.cmp .NotEq (.bi .repr (.cons (.lst false (.cons (.var 10) (.cons (.var 11) .nil))) .nil)) (.bi .repr (.cons (.lst false (.cons (.fn 51 (.cons (.var 0) (.cons (.var 7) .nil))) (.cons (.fn 51 (.cons (.var 1) (.cons (.var 7) .nil))) .nil))) .nil))) (.cons (.ret (.cst (.bool false))) .nil) .nil) (.cons (.ife (.con .And (.cons (.var 4) (.cons (.fn 41 (.cons (.var 10) (.cons (.var 11) .nil))) .nil))) (.cons (.ret (.cst (.bool false))) .nil) .nil) .nil))
abbrev b0t2_law_told_right : CSs := (.cons (.ife (.con .And (.cons (.var 4) (.cons (.fn 41 (.cons (.var 10) (.cons (.var 11) .nil))) .nil))) (.cons (.ret (.cst (.bool false))) .nil) .nil) .nil)
abbrev b0s0_law_told_right : CS := (.par2 10 11 (.cons (.fn 47 (.cons (.var 0) (.cons (.var 7) .nil))) (.cons (.fn 47 (.cons (.var 1) (.cons (.var 7) .nil))) .nil)))
abbrev b0s1_law_told_right : CS := (.ife (.cmp .NotEq (.bi .repr (.cons (.lst false (.cons (.var 10) (.cons (.var 11) .nil))) .nil)) (.bi .repr (.cons (.lst false (.cons (.fn 51 (.cons (.var 0) (.cons (.var 7) .nil))) (.cons (.fn 51 (.cons (.var 1) (.cons (.var 7) .nil))) .nil))) .nil))) (.cons (.ret (.cst (.bool false))) .nil) .nil)
abbrev b0s2_law_told_right : CS := (.ife (.con .And (.cons (.var 4) (.cons (.fn 41 (.cons (.var 10) (.cons (.var 11) .nil))) .nil))) (.cons (.ret (.cst (.bool false))) .nil) .nil)
abbrev e0_law_told_right : WF.CE := (.var 9)
abbrev s0_law_told_right : CS := (.asg (.nm 3) (.lc false (.nm 9) (.seq (.var 1)) (.cons (.fn 41 (.cons (.fn 51 (.cons (.var 0) (.cons (.var 9) .nil))) (.cons (.tup (.cons (.cst (.int 1)) (.cons (.cst (.int 1)) .nil))) .nil))) .nil) (.var 9) [("_law_spot_here", 9)]))
abbrev s1_law_told_right : CS := (.asg (.nm 4) (.cmp .Eq (.var 3) (.lst false .nil)))
abbrev t1_law_told_right : CSs := (.cons (.asg (.nm 4) (.cmp .Eq (.var 3) (.lst false .nil))) (.cons (.asg (.nm 5) (.lst false (.cons (.fn 36 (.cons (.var 0) (.cons (.var 1) .nil))) (.cons (.fnK 36 .nil ["other", "figure"] (.cons (.var 1) (.cons (.var 0) .nil)) [1, 0]) (.cons (.fn 39 (.cons (.var 1) (.cons (.var 0) .nil))) .nil))))) (.cons (.ife (.cmp .NotEq (.bi .repr (.cons (.var 5) .nil)) (.bi .repr (.cons (.lst false (.cons (.var 4) (.cons (.var 4) (.cons (.var 4) .nil)))) .nil))) (.cons (.ret (.cst (.bool false))) .nil) .nil) (.cons (.asg (.nm 6) (.fn 37 (.cons (.var 0) (.cons (.var 1) .nil)))) (.cons (.ife (.cmp .NotEq (.bi .repr (.cons (.lst false (.cons (.var 6) (.cons (.fnK 37 .nil ["other", "figure"] (.cons (.var 1) (.cons (.var 0) .nil)) [1, 0]) .nil))) .nil)) (.bi .repr (.cons (.rep false (.cons (.ife (.var 4) (.cst .none) (.idx (.var 3) (.cst (.int 0)))) .nil) (.cst (.int 2))) .nil))) (.cons (.ret (.cst (.bool false))) .nil) .nil) (.cons (.ife (.nt (.var 4)) (.cons (.asg (.nm 8) (.lst false (.cons (.fn 47 (.cons (.var 0) (.cons (.var 6) .nil))) (.cons (.fn 47 (.cons (.var 1) (.cons (.var 6) .nil))) .nil)))) (.cons (.ife (.con .Or (.cons (.nt (.fn 41 (.cons (.idx (.var 8) (.cst (.int 0))) (.cons (.idx (.var 8) (.cst (.int 1))) .nil)))) (.cons (.cmp .NotEq (.bi .repr (.cons (.idx (.var 8) (.cst (.int 1))) .nil)) (.cst (.str "(1, 1)"))) .nil))) (.cons (.ret (.cst (.bool false))) .nil) .nil) .nil)) .nil) (.cons (.for_ (.nm 7) (.seq (.var 2)) (.cons (.par2 10 11 (.cons (.fn 47 (.cons (.var 0) (.cons (.var 7) .nil))) (.cons (.fn 47 (.cons (.var 1) (.cons (.var 7) .nil))) .nil))) (.cons (.ife (.cmp .NotEq (.bi .repr (.cons (.lst false (.cons (.var 10) (.cons (.var 11) .nil))) .nil)) (.bi .repr (.cons (.lst false (.cons (.fn 51 (.cons (.var 0) (.cons (.var 7) .nil))) (.cons (.fn 51 (.cons (.var 1) (.cons (.var 7) .nil))) .nil))) .nil))) (.cons (.ret (.cst (.bool false))) .nil) .nil) (.cons (.ife (.con .And (.cons (.var 4) (.cons (.fn 41 (.cons (.var 10) (.cons (.var 11) .nil))) .nil))) (.cons (.ret (.cst (.bool false))) .nil) .nil) .nil)))) (.cons (.ret (.cst (.bool true))) .nil))))))))
abbrev s2_law_told_right : CS := (.asg (.nm 5) (.lst false (.cons (.fn 36 (.cons (.var 0) (.cons (.var 1) .nil))) (.cons (.fnK 36 .nil ["other", "figure"] (.cons (.var 1) (.cons (.var 0) .nil)) [1, 0]) (.cons (.fn 39 (.cons (.var 1) (.cons (.var 0) .nil))) .nil)))))
abbrev t2_law_told_right : CSs := (.cons (.asg (.nm 5) (.lst false (.cons (.fn 36 (.cons (.var 0) (.cons (.var 1) .nil))) (.cons (.fnK 36 .nil ["other", "figure"] (.cons (.var 1) (.cons (.var 0) .nil)) [1, 0]) (.cons (.fn 39 (.cons (.var 1) (.cons (.var 0) .nil))) .nil))))) (.cons (.ife (.cmp .NotEq (.bi .repr (.cons (.var 5) .nil)) (.bi .repr (.cons (.lst false (.cons (.var 4) (.cons (.var 4) (.cons (.var 4) .nil)))) .nil))) (.cons (.ret (.cst (.bool false))) .nil) .nil) (.cons (.asg (.nm 6) (.fn 37 (.cons (.var 0) (.cons (.var 1) .nil)))) (.cons (.ife (.cmp .NotEq (.bi .repr (.cons (.lst false (.cons (.var 6) (.cons (.fnK 37 .nil ["other", "figure"] (.cons (.var 1) (.cons (.var 0) .nil)) [1, 0]) .nil))) .nil)) (.bi .repr (.cons (.rep false (.cons (.ife (.var 4) (.cst .none) (.idx (.var 3) (.cst (.int 0)))) .nil) (.cst (.int 2))) .nil))) (.cons (.ret (.cst (.bool false))) .nil) .nil) (.cons (.ife (.nt (.var 4)) (.cons (.asg (.nm 8) (.lst false (.cons (.fn 47 (.cons (.var 0) (.cons (.var 6) .nil))) (.cons (.fn 47 (.cons (.var 1) (.cons (.var 6) .nil))) .nil)))) (.cons (.ife (.con .Or (.cons (.nt (.fn 41 (.cons (.idx (.var 8) (.cst (.int 0))) (.cons (.idx (.var 8) (.cst (.int 1))) .nil)))) (.cons (.cmp .NotEq (.bi .repr (.cons (.idx (.var 8) (.cst (.int 1))) .nil)) (.cst (.str "(1, 1)"))) .nil))) (.cons (.ret (.cst (.bool false))) .nil) .nil) .nil)) .nil) (.cons (.for_ (.nm 7) (.seq (.var 2)) (.cons (.par2 10 11 (.cons (.fn 47 (.cons (.var 0) (.cons (.var 7) .nil))) (.cons (.fn 47 (.cons (.var 1) (.cons (.var 7) .nil))) .nil))) (.cons (.ife (.cmp .NotEq (.bi .repr (.cons (.lst false (.cons (.var 10) (.cons (.var 11) .nil))) .nil)) (.bi .repr (.cons (.lst false (.cons (.fn 51 (.cons (.var 0) (.cons (.var 7) .nil))) (.cons (.fn 51 (.cons (.var 1) (.cons (.var 7) .nil))) .nil))) .nil))) (.cons (.ret (.cst (.bool false))) .nil) .nil) (.cons (.ife (.con .And (.cons (.var 4) (.cons (.fn 41 (.cons (.var 10) (.cons (.var 11) .nil))) .nil))) (.cons (.ret (.cst (.bool false))) .nil) .nil) .nil)))) (.cons (.ret (.cst (.bool true))) .nil)))))))
abbrev s3_law_told_right : CS := (.ife (.cmp .NotEq (.bi .repr (.cons (.var 5) .nil)) (.bi .repr (.cons (.lst false (.cons (.var 4) (.cons (.var 4) (.cons (.var 4) .nil)))) .nil))) (.cons (.ret (.cst (.bool false))) .nil) .nil)
abbrev t3_law_told_right : CSs := (.cons (.ife (.cmp .NotEq (.bi .repr (.cons (.var 5) .nil)) (.bi .repr (.cons (.lst false (.cons (.var 4) (.cons (.var 4) (.cons (.var 4) .nil)))) .nil))) (.cons (.ret (.cst (.bool false))) .nil) .nil) (.cons (.asg (.nm 6) (.fn 37 (.cons (.var 0) (.cons (.var 1) .nil)))) (.cons (.ife (.cmp .NotEq (.bi .repr (.cons (.lst false (.cons (.var 6) (.cons (.fnK 37 .nil ["other", "figure"] (.cons (.var 1) (.cons (.var 0) .nil)) [1, 0]) .nil))) .nil)) (.bi .repr (.cons (.rep false (.cons (.ife (.var 4) (.cst .none) (.idx (.var 3) (.cst (.int 0)))) .nil) (.cst (.int 2))) .nil))) (.cons (.ret (.cst (.bool false))) .nil) .nil) (.cons (.ife (.nt (.var 4)) (.cons (.asg (.nm 8) (.lst false (.cons (.fn 47 (.cons (.var 0) (.cons (.var 6) .nil))) (.cons (.fn 47 (.cons (.var 1) (.cons (.var 6) .nil))) .nil)))) (.cons (.ife (.con .Or (.cons (.nt (.fn 41 (.cons (.idx (.var 8) (.cst (.int 0))) (.cons (.idx (.var 8) (.cst (.int 1))) .nil)))) (.cons (.cmp .NotEq (.bi .repr (.cons (.idx (.var 8) (.cst (.int 1))) .nil)) (.cst (.str "(1, 1)"))) .nil))) (.cons (.ret (.cst (.bool false))) .nil) .nil) .nil)) .nil) (.cons (.for_ (.nm 7) (.seq (.var 2)) (.cons (.par2 10 11 (.cons (.fn 47 (.cons (.var 0) (.cons (.var 7) .nil))) (.cons (.fn 47 (.cons (.var 1) (.cons (.var 7) .nil))) .nil))) (.cons (.ife (.cmp .NotEq (.bi .repr (.cons (.lst false (.cons (.var 10) (.cons (.var 11) .nil))) .nil)) (.bi .repr (.cons (.lst false (.cons (.fn 51 (.cons (.var 0) (.cons (.var 7) .nil))) (.cons (.fn 51 (.cons (.var 1) (.cons (.var 7) .nil))) .nil))) .nil))) (.cons (.ret (.cst (.bool false))) .nil) .nil) (.cons (.ife (.con .And (.cons (.var 4) (.cons (.fn 41 (.cons (.var 10) (.cons (.var 11) .nil))) .nil))) (.cons (.ret (.cst (.bool false))) .nil) .nil) .nil)))) (.cons (.ret (.cst (.bool true))) .nil))))))
abbrev s4_law_told_right : CS := (.asg (.nm 6) (.fn 37 (.cons (.var 0) (.cons (.var 1) .nil))))
abbrev t4_law_told_right : CSs := (.cons (.asg (.nm 6) (.fn 37 (.cons (.var 0) (.cons (.var 1) .nil)))) (.cons (.ife (.cmp .NotEq (.bi .repr (.cons (.lst false (.cons (.var 6) (.cons (.fnK 37 .nil ["other", "figure"] (.cons (.var 1) (.cons (.var 0) .nil)) [1, 0]) .nil))) .nil)) (.bi .repr (.cons (.rep false (.cons (.ife (.var 4) (.cst .none) (.idx (.var 3) (.cst (.int 0)))) .nil) (.cst (.int 2))) .nil))) (.cons (.ret (.cst (.bool false))) .nil) .nil) (.cons (.ife (.nt (.var 4)) (.cons (.asg (.nm 8) (.lst false (.cons (.fn 47 (.cons (.var 0) (.cons (.var 6) .nil))) (.cons (.fn 47 (.cons (.var 1) (.cons (.var 6) .nil))) .nil)))) (.cons (.ife (.con .Or (.cons (.nt (.fn 41 (.cons (.idx (.var 8) (.cst (.int 0))) (.cons (.idx (.var 8) (.cst (.int 1))) .nil)))) (.cons (.cmp .NotEq (.bi .repr (.cons (.idx (.var 8) (.cst (.int 1))) .nil)) (.cst (.str "(1, 1)"))) .nil))) (.cons (.ret (.cst (.bool false))) .nil) .nil) .nil)) .nil) (.cons (.for_ (.nm 7) (.seq (.var 2)) (.cons (.par2 10 11 (.cons (.fn 47 (.cons (.var 0) (.cons (.var 7) .nil))) (.cons (.fn 47 (.cons (.var 1) (.cons (.var 7) .nil))) .nil))) (.cons (.ife (.cmp .NotEq (.bi .repr (.cons (.lst false (.cons (.var 10) (.cons (.var 11) .nil))) .nil)) (.bi .repr (.cons (.lst false (.cons (.fn 51 (.cons (.var 0) (.cons (.var 7) .nil))) (.cons (.fn 51 (.cons (.var 1) (.cons (.var 7) .nil))) .nil))) .nil))) (.cons (.ret (.cst (.bool false))) .nil) .nil) (.cons (.ife (.con .And (.cons (.var 4) (.cons (.fn 41 (.cons (.var 10) (.cons (.var 11) .nil))) .nil))) (.cons (.ret (.cst (.bool false))) .nil) .nil) .nil)))) (.cons (.ret (.cst (.bool true))) .nil)))))
abbrev s5_law_told_right : CS := (.ife (.cmp .NotEq (.bi .repr (.cons (.lst false (.cons (.var 6) (.cons (.fnK 37 .nil ["other", "figure"] (.cons (.var 1) (.cons (.var 0) .nil)) [1, 0]) .nil))) .nil)) (.bi .repr (.cons (.rep false (.cons (.ife (.var 4) (.cst .none) (.idx (.var 3) (.cst (.int 0)))) .nil) (.cst (.int 2))) .nil))) (.cons (.ret (.cst (.bool false))) .nil) .nil)
abbrev t5_law_told_right : CSs := (.cons (.ife (.cmp .NotEq (.bi .repr (.cons (.lst false (.cons (.var 6) (.cons (.fnK 37 .nil ["other", "figure"] (.cons (.var 1) (.cons (.var 0) .nil)) [1, 0]) .nil))) .nil)) (.bi .repr (.cons (.rep false (.cons (.ife (.var 4) (.cst .none) (.idx (.var 3) (.cst (.int 0)))) .nil) (.cst (.int 2))) .nil))) (.cons (.ret (.cst (.bool false))) .nil) .nil) (.cons (.ife (.nt (.var 4)) (.cons (.asg (.nm 8) (.lst false (.cons (.fn 47 (.cons (.var 0) (.cons (.var 6) .nil))) (.cons (.fn 47 (.cons (.var 1) (.cons (.var 6) .nil))) .nil)))) (.cons (.ife (.con .Or (.cons (.nt (.fn 41 (.cons (.idx (.var 8) (.cst (.int 0))) (.cons (.idx (.var 8) (.cst (.int 1))) .nil)))) (.cons (.cmp .NotEq (.bi .repr (.cons (.idx (.var 8) (.cst (.int 1))) .nil)) (.cst (.str "(1, 1)"))) .nil))) (.cons (.ret (.cst (.bool false))) .nil) .nil) .nil)) .nil) (.cons (.for_ (.nm 7) (.seq (.var 2)) (.cons (.par2 10 11 (.cons (.fn 47 (.cons (.var 0) (.cons (.var 7) .nil))) (.cons (.fn 47 (.cons (.var 1) (.cons (.var 7) .nil))) .nil))) (.cons (.ife (.cmp .NotEq (.bi .repr (.cons (.lst false (.cons (.var 10) (.cons (.var 11) .nil))) .nil)) (.bi .repr (.cons (.lst false (.cons (.fn 51 (.cons (.var 0) (.cons (.var 7) .nil))) (.cons (.fn 51 (.cons (.var 1) (.cons (.var 7) .nil))) .nil))) .nil))) (.cons (.ret (.cst (.bool false))) .nil) .nil) (.cons (.ife (.con .And (.cons (.var 4) (.cons (.fn 41 (.cons (.var 10) (.cons (.var 11) .nil))) .nil))) (.cons (.ret (.cst (.bool false))) .nil) .nil) .nil)))) (.cons (.ret (.cst (.bool true))) .nil))))
abbrev s6_law_told_right : CS := (.ife (.nt (.var 4)) (.cons (.asg (.nm 8) (.lst false (.cons (.fn 47 (.cons (.var 0) (.cons (.var 6) .nil))) (.cons (.fn 47 (.cons (.var 1) (.cons (.var 6) .nil))) .nil)))) (.cons (.ife (.con .Or (.cons (.nt (.fn 41 (.cons (.idx (.var 8) (.cst (.int 0))) (.cons (.idx (.var 8) (.cst (.int 1))) .nil)))) (.cons (.cmp .NotEq (.bi .repr (.cons (.idx (.var 8) (.cst (.int 1))) .nil)) (.cst (.str "(1, 1)"))) .nil))) (.cons (.ret (.cst (.bool false))) .nil) .nil) .nil)) .nil)
abbrev t6_law_told_right : CSs := (.cons (.ife (.nt (.var 4)) (.cons (.asg (.nm 8) (.lst false (.cons (.fn 47 (.cons (.var 0) (.cons (.var 6) .nil))) (.cons (.fn 47 (.cons (.var 1) (.cons (.var 6) .nil))) .nil)))) (.cons (.ife (.con .Or (.cons (.nt (.fn 41 (.cons (.idx (.var 8) (.cst (.int 0))) (.cons (.idx (.var 8) (.cst (.int 1))) .nil)))) (.cons (.cmp .NotEq (.bi .repr (.cons (.idx (.var 8) (.cst (.int 1))) .nil)) (.cst (.str "(1, 1)"))) .nil))) (.cons (.ret (.cst (.bool false))) .nil) .nil) .nil)) .nil) (.cons (.for_ (.nm 7) (.seq (.var 2)) (.cons (.par2 10 11 (.cons (.fn 47 (.cons (.var 0) (.cons (.var 7) .nil))) (.cons (.fn 47 (.cons (.var 1) (.cons (.var 7) .nil))) .nil))) (.cons (.ife (.cmp .NotEq (.bi .repr (.cons (.lst false (.cons (.var 10) (.cons (.var 11) .nil))) .nil)) (.bi .repr (.cons (.lst false (.cons (.fn 51 (.cons (.var 0) (.cons (.var 7) .nil))) (.cons (.fn 51 (.cons (.var 1) (.cons (.var 7) .nil))) .nil))) .nil))) (.cons (.ret (.cst (.bool false))) .nil) .nil) (.cons (.ife (.con .And (.cons (.var 4) (.cons (.fn 41 (.cons (.var 10) (.cons (.var 11) .nil))) .nil))) (.cons (.ret (.cst (.bool false))) .nil) .nil) .nil)))) (.cons (.ret (.cst (.bool true))) .nil)))
abbrev s7_law_told_right : CS := (.for_ (.nm 7) (.seq (.var 2)) (.cons (.par2 10 11 (.cons (.fn 47 (.cons (.var 0) (.cons (.var 7) .nil))) (.cons (.fn 47 (.cons (.var 1) (.cons (.var 7) .nil))) .nil))) (.cons (.ife (.cmp .NotEq (.bi .repr (.cons (.lst false (.cons (.var 10) (.cons (.var 11) .nil))) .nil)) (.bi .repr (.cons (.lst false (.cons (.fn 51 (.cons (.var 0) (.cons (.var 7) .nil))) (.cons (.fn 51 (.cons (.var 1) (.cons (.var 7) .nil))) .nil))) .nil))) (.cons (.ret (.cst (.bool false))) .nil) .nil) (.cons (.ife (.con .And (.cons (.var 4) (.cons (.fn 41 (.cons (.var 10) (.cons (.var 11) .nil))) .nil))) (.cons (.ret (.cst (.bool false))) .nil) .nil) .nil))))
abbrev t7_law_told_right : CSs := (.cons (.for_ (.nm 7) (.seq (.var 2)) (.cons (.par2 10 11 (.cons (.fn 47 (.cons (.var 0) (.cons (.var 7) .nil))) (.cons (.fn 47 (.cons (.var 1) (.cons (.var 7) .nil))) .nil))) (.cons (.ife (.cmp .NotEq (.bi .repr (.cons (.lst false (.cons (.var 10) (.cons (.var 11) .nil))) .nil)) (.bi .repr (.cons (.lst false (.cons (.fn 51 (.cons (.var 0) (.cons (.var 7) .nil))) (.cons (.fn 51 (.cons (.var 1) (.cons (.var 7) .nil))) .nil))) .nil))) (.cons (.ret (.cst (.bool false))) .nil) .nil) (.cons (.ife (.con .And (.cons (.var 4) (.cons (.fn 41 (.cons (.var 10) (.cons (.var 11) .nil))) .nil))) (.cons (.ret (.cst (.bool false))) .nil) .nil) .nil)))) (.cons (.ret (.cst (.bool true))) .nil))
abbrev s8_law_told_right : CS := (.ret (.cst (.bool true)))
abbrev t8_law_told_right : CSs := (.cons (.ret (.cst (.bool true))) .nil)
abbrev s0_law_right : CS := (.asg (.nm 1) (.fn 8 (.cons (.var 0) .nil)))
abbrev s1_law_right : CS := (.asg (.nm 2) (.fn 11 (.cons (.var 0) (.cons (.var 1) .nil))))
abbrev t1_law_right : CSs := (.cons (.asg (.nm 2) (.fn 11 (.cons (.var 0) (.cons (.var 1) .nil)))) (.cons (.asg (.nm 3) (.lst true (.cons (.fn 7 (.cons (.var 0) .nil)) (.cons (.fn 7 (.cons (.var 0) .nil)) (.cons (.fn 6 (.cons (.var 0) (.cons (.var 1) .nil))) (.cons (.fn 6 (.cons (.var 0) (.cons (.var 2) .nil))) .nil)))))) (.cons (.expr (.met .append 3 (.cons (.fn 13 (.cons (.idx (.var 2) (.cst (.int 0))) (.cons (.idx (.var 2) (.neg (.cst (.int 1)))) (.cons (.tup (.cons (.cst (.int 1)) (.cons (.cst (.int 2)) .nil))) .nil)))) .nil))) (.cons (.expr (.met .append 3 (.cons (.fn 9 (.cons (.fn 13 (.cons (.idx (.var 2) (.cst (.int 1))) (.cons (.idx (.var 2) (.cst (.int 0))) (.cons (.tup (.cons (.cst (.int 1)) (.cons (.cst (.int 3)) .nil))) .nil)))) (.cons (.tup (.cons (.cst (.int 5)) (.cons (.cst (.int 2)) .nil))) .nil))) .nil))) (.frz 3 (.cons (.ife (.con .Or (.cons (.nt (.fn 52 (.cons (.var 1) (.cons (.var 2) (.cons (.var 3) .nil))))) (.cons (.nt (.fn 52 (.cons (.var 2) (.cons (.var 1) (.cons (.var 3) .nil))))) .nil))) (.cons (.ret (.cst (.bool false))) .nil) .nil) (.cons (.asg (.nm 4) (.fn 5 (.cons (.bin .Add false (.var 1) (.var 2)) .nil))) (.cons (.ife (.cmp .NotEq (.bi .repr (.cons (.lst false (.cons (.fn 36 (.cons (.var 4) (.cons (.var 1) .nil))) (.cons (.fn 36 (.cons (.var 4) (.cons (.var 2) .nil))) (.cons (.fn 37 (.cons (.var 1) (.cons (.var 1) .nil))) .nil)))) .nil)) (.cst (.str "[True, True, None]"))) (.cons (.ret (.cst (.bool false))) .nil) .nil) (.cons (.asg (.nm 5) (.fn 10 (.cons (.var 1) (.cons (.tup (.cons (.cst (.int 4)) (.cons (.cst (.int 3)) .nil))) .nil)))) (.cons (.asg (.nm 6) (.lst false (.cons (.fn 36 (.cons (.var 5) (.cons (.var 1) .nil))) (.cons (.fn 36 (.cons (.var 1) (.cons (.var 5) .nil))) (.cons (.fn 37 (.cons (.var 5) (.cons (.var 1) .nil))) .nil))))) (.cons (.ret (.cmp .Eq (.bi .repr (.cons (.var 6) .nil)) (.cst (.str "[True, False, None]")))) .nil)))))))))))
abbrev s2_law_right : CS := (.asg (.nm 3) (.lst true (.cons (.fn 7 (.cons (.var 0) .nil)) (.cons (.fn 7 (.cons (.var 0) .nil)) (.cons (.fn 6 (.cons (.var 0) (.cons (.var 1) .nil))) (.cons (.fn 6 (.cons (.var 0) (.cons (.var 2) .nil))) .nil))))))
abbrev t2_law_right : CSs := (.cons (.asg (.nm 3) (.lst true (.cons (.fn 7 (.cons (.var 0) .nil)) (.cons (.fn 7 (.cons (.var 0) .nil)) (.cons (.fn 6 (.cons (.var 0) (.cons (.var 1) .nil))) (.cons (.fn 6 (.cons (.var 0) (.cons (.var 2) .nil))) .nil)))))) (.cons (.expr (.met .append 3 (.cons (.fn 13 (.cons (.idx (.var 2) (.cst (.int 0))) (.cons (.idx (.var 2) (.neg (.cst (.int 1)))) (.cons (.tup (.cons (.cst (.int 1)) (.cons (.cst (.int 2)) .nil))) .nil)))) .nil))) (.cons (.expr (.met .append 3 (.cons (.fn 9 (.cons (.fn 13 (.cons (.idx (.var 2) (.cst (.int 1))) (.cons (.idx (.var 2) (.cst (.int 0))) (.cons (.tup (.cons (.cst (.int 1)) (.cons (.cst (.int 3)) .nil))) .nil)))) (.cons (.tup (.cons (.cst (.int 5)) (.cons (.cst (.int 2)) .nil))) .nil))) .nil))) (.frz 3 (.cons (.ife (.con .Or (.cons (.nt (.fn 52 (.cons (.var 1) (.cons (.var 2) (.cons (.var 3) .nil))))) (.cons (.nt (.fn 52 (.cons (.var 2) (.cons (.var 1) (.cons (.var 3) .nil))))) .nil))) (.cons (.ret (.cst (.bool false))) .nil) .nil) (.cons (.asg (.nm 4) (.fn 5 (.cons (.bin .Add false (.var 1) (.var 2)) .nil))) (.cons (.ife (.cmp .NotEq (.bi .repr (.cons (.lst false (.cons (.fn 36 (.cons (.var 4) (.cons (.var 1) .nil))) (.cons (.fn 36 (.cons (.var 4) (.cons (.var 2) .nil))) (.cons (.fn 37 (.cons (.var 1) (.cons (.var 1) .nil))) .nil)))) .nil)) (.cst (.str "[True, True, None]"))) (.cons (.ret (.cst (.bool false))) .nil) .nil) (.cons (.asg (.nm 5) (.fn 10 (.cons (.var 1) (.cons (.tup (.cons (.cst (.int 4)) (.cons (.cst (.int 3)) .nil))) .nil)))) (.cons (.asg (.nm 6) (.lst false (.cons (.fn 36 (.cons (.var 5) (.cons (.var 1) .nil))) (.cons (.fn 36 (.cons (.var 1) (.cons (.var 5) .nil))) (.cons (.fn 37 (.cons (.var 5) (.cons (.var 1) .nil))) .nil))))) (.cons (.ret (.cmp .Eq (.bi .repr (.cons (.var 6) .nil)) (.cst (.str "[True, False, None]")))) .nil))))))))))
abbrev s3_law_right : CS := (.expr (.met .append 3 (.cons (.fn 13 (.cons (.idx (.var 2) (.cst (.int 0))) (.cons (.idx (.var 2) (.neg (.cst (.int 1)))) (.cons (.tup (.cons (.cst (.int 1)) (.cons (.cst (.int 2)) .nil))) .nil)))) .nil)))
abbrev t3_law_right : CSs := (.cons (.expr (.met .append 3 (.cons (.fn 13 (.cons (.idx (.var 2) (.cst (.int 0))) (.cons (.idx (.var 2) (.neg (.cst (.int 1)))) (.cons (.tup (.cons (.cst (.int 1)) (.cons (.cst (.int 2)) .nil))) .nil)))) .nil))) (.cons (.expr (.met .append 3 (.cons (.fn 9 (.cons (.fn 13 (.cons (.idx (.var 2) (.cst (.int 1))) (.cons (.idx (.var 2) (.cst (.int 0))) (.cons (.tup (.cons (.cst (.int 1)) (.cons (.cst (.int 3)) .nil))) .nil)))) (.cons (.tup (.cons (.cst (.int 5)) (.cons (.cst (.int 2)) .nil))) .nil))) .nil))) (.frz 3 (.cons (.ife (.con .Or (.cons (.nt (.fn 52 (.cons (.var 1) (.cons (.var 2) (.cons (.var 3) .nil))))) (.cons (.nt (.fn 52 (.cons (.var 2) (.cons (.var 1) (.cons (.var 3) .nil))))) .nil))) (.cons (.ret (.cst (.bool false))) .nil) .nil) (.cons (.asg (.nm 4) (.fn 5 (.cons (.bin .Add false (.var 1) (.var 2)) .nil))) (.cons (.ife (.cmp .NotEq (.bi .repr (.cons (.lst false (.cons (.fn 36 (.cons (.var 4) (.cons (.var 1) .nil))) (.cons (.fn 36 (.cons (.var 4) (.cons (.var 2) .nil))) (.cons (.fn 37 (.cons (.var 1) (.cons (.var 1) .nil))) .nil)))) .nil)) (.cst (.str "[True, True, None]"))) (.cons (.ret (.cst (.bool false))) .nil) .nil) (.cons (.asg (.nm 5) (.fn 10 (.cons (.var 1) (.cons (.tup (.cons (.cst (.int 4)) (.cons (.cst (.int 3)) .nil))) .nil)))) (.cons (.asg (.nm 6) (.lst false (.cons (.fn 36 (.cons (.var 5) (.cons (.var 1) .nil))) (.cons (.fn 36 (.cons (.var 1) (.cons (.var 5) .nil))) (.cons (.fn 37 (.cons (.var 5) (.cons (.var 1) .nil))) .nil))))) (.cons (.ret (.cmp .Eq (.bi .repr (.cons (.var 6) .nil)) (.cst (.str "[True, False, None]")))) .nil)))))))))
abbrev s4_law_right : CS := (.expr (.met .append 3 (.cons (.fn 9 (.cons (.fn 13 (.cons (.idx (.var 2) (.cst (.int 1))) (.cons (.idx (.var 2) (.cst (.int 0))) (.cons (.tup (.cons (.cst (.int 1)) (.cons (.cst (.int 3)) .nil))) .nil)))) (.cons (.tup (.cons (.cst (.int 5)) (.cons (.cst (.int 2)) .nil))) .nil))) .nil)))
abbrev t4_law_right : CSs := (.cons (.expr (.met .append 3 (.cons (.fn 9 (.cons (.fn 13 (.cons (.idx (.var 2) (.cst (.int 1))) (.cons (.idx (.var 2) (.cst (.int 0))) (.cons (.tup (.cons (.cst (.int 1)) (.cons (.cst (.int 3)) .nil))) .nil)))) (.cons (.tup (.cons (.cst (.int 5)) (.cons (.cst (.int 2)) .nil))) .nil))) .nil))) (.frz 3 (.cons (.ife (.con .Or (.cons (.nt (.fn 52 (.cons (.var 1) (.cons (.var 2) (.cons (.var 3) .nil))))) (.cons (.nt (.fn 52 (.cons (.var 2) (.cons (.var 1) (.cons (.var 3) .nil))))) .nil))) (.cons (.ret (.cst (.bool false))) .nil) .nil) (.cons (.asg (.nm 4) (.fn 5 (.cons (.bin .Add false (.var 1) (.var 2)) .nil))) (.cons (.ife (.cmp .NotEq (.bi .repr (.cons (.lst false (.cons (.fn 36 (.cons (.var 4) (.cons (.var 1) .nil))) (.cons (.fn 36 (.cons (.var 4) (.cons (.var 2) .nil))) (.cons (.fn 37 (.cons (.var 1) (.cons (.var 1) .nil))) .nil)))) .nil)) (.cst (.str "[True, True, None]"))) (.cons (.ret (.cst (.bool false))) .nil) .nil) (.cons (.asg (.nm 5) (.fn 10 (.cons (.var 1) (.cons (.tup (.cons (.cst (.int 4)) (.cons (.cst (.int 3)) .nil))) .nil)))) (.cons (.asg (.nm 6) (.lst false (.cons (.fn 36 (.cons (.var 5) (.cons (.var 1) .nil))) (.cons (.fn 36 (.cons (.var 1) (.cons (.var 5) .nil))) (.cons (.fn 37 (.cons (.var 5) (.cons (.var 1) .nil))) .nil))))) (.cons (.ret (.cmp .Eq (.bi .repr (.cons (.var 6) .nil)) (.cst (.str "[True, False, None]")))) .nil))))))))
abbrev s5_law_right : CS := (.ife (.con .Or (.cons (.nt (.fn 52 (.cons (.var 1) (.cons (.var 2) (.cons (.var 3) .nil))))) (.cons (.nt (.fn 52 (.cons (.var 2) (.cons (.var 1) (.cons (.var 3) .nil))))) .nil))) (.cons (.ret (.cst (.bool false))) .nil) .nil)
abbrev t5_law_right : CSs := (.frz 3 (.cons (.ife (.con .Or (.cons (.nt (.fn 52 (.cons (.var 1) (.cons (.var 2) (.cons (.var 3) .nil))))) (.cons (.nt (.fn 52 (.cons (.var 2) (.cons (.var 1) (.cons (.var 3) .nil))))) .nil))) (.cons (.ret (.cst (.bool false))) .nil) .nil) (.cons (.asg (.nm 4) (.fn 5 (.cons (.bin .Add false (.var 1) (.var 2)) .nil))) (.cons (.ife (.cmp .NotEq (.bi .repr (.cons (.lst false (.cons (.fn 36 (.cons (.var 4) (.cons (.var 1) .nil))) (.cons (.fn 36 (.cons (.var 4) (.cons (.var 2) .nil))) (.cons (.fn 37 (.cons (.var 1) (.cons (.var 1) .nil))) .nil)))) .nil)) (.cst (.str "[True, True, None]"))) (.cons (.ret (.cst (.bool false))) .nil) .nil) (.cons (.asg (.nm 5) (.fn 10 (.cons (.var 1) (.cons (.tup (.cons (.cst (.int 4)) (.cons (.cst (.int 3)) .nil))) .nil)))) (.cons (.asg (.nm 6) (.lst false (.cons (.fn 36 (.cons (.var 5) (.cons (.var 1) .nil))) (.cons (.fn 36 (.cons (.var 1) (.cons (.var 5) .nil))) (.cons (.fn 37 (.cons (.var 5) (.cons (.var 1) .nil))) .nil))))) (.cons (.ret (.cmp .Eq (.bi .repr (.cons (.var 6) .nil)) (.cst (.str "[True, False, None]")))) .nil)))))))
abbrev s6_law_right : CS := (.asg (.nm 4) (.fn 5 (.cons (.bin .Add false (.var 1) (.var 2)) .nil)))
abbrev t6_law_right : CSs := (.cons (.asg (.nm 4) (.fn 5 (.cons (.bin .Add false (.var 1) (.var 2)) .nil))) (.cons (.ife (.cmp .NotEq (.bi .repr (.cons (.lst false (.cons (.fn 36 (.cons (.var 4) (.cons (.var 1) .nil))) (.cons (.fn 36 (.cons (.var 4) (.cons (.var 2) .nil))) (.cons (.fn 37 (.cons (.var 1) (.cons (.var 1) .nil))) .nil)))) .nil)) (.cst (.str "[True, True, None]"))) (.cons (.ret (.cst (.bool false))) .nil) .nil) (.cons (.asg (.nm 5) (.fn 10 (.cons (.var 1) (.cons (.tup (.cons (.cst (.int 4)) (.cons (.cst (.int 3)) .nil))) .nil)))) (.cons (.asg (.nm 6) (.lst false (.cons (.fn 36 (.cons (.var 5) (.cons (.var 1) .nil))) (.cons (.fn 36 (.cons (.var 1) (.cons (.var 5) .nil))) (.cons (.fn 37 (.cons (.var 5) (.cons (.var 1) .nil))) .nil))))) (.cons (.ret (.cmp .Eq (.bi .repr (.cons (.var 6) .nil)) (.cst (.str "[True, False, None]")))) .nil)))))
abbrev s7_law_right : CS := (.ife (.cmp .NotEq (.bi .repr (.cons (.lst false (.cons (.fn 36 (.cons (.var 4) (.cons (.var 1) .nil))) (.cons (.fn 36 (.cons (.var 4) (.cons (.var 2) .nil))) (.cons (.fn 37 (.cons (.var 1) (.cons (.var 1) .nil))) .nil)))) .nil)) (.cst (.str "[True, True, None]"))) (.cons (.ret (.cst (.bool false))) .nil) .nil)
abbrev t7_law_right : CSs := (.cons (.ife (.cmp .NotEq (.bi .repr (.cons (.lst false (.cons (.fn 36 (.cons (.var 4) (.cons (.var 1) .nil))) (.cons (.fn 36 (.cons (.var 4) (.cons (.var 2) .nil))) (.cons (.fn 37 (.cons (.var 1) (.cons (.var 1) .nil))) .nil)))) .nil)) (.cst (.str "[True, True, None]"))) (.cons (.ret (.cst (.bool false))) .nil) .nil) (.cons (.asg (.nm 5) (.fn 10 (.cons (.var 1) (.cons (.tup (.cons (.cst (.int 4)) (.cons (.cst (.int 3)) .nil))) .nil)))) (.cons (.asg (.nm 6) (.lst false (.cons (.fn 36 (.cons (.var 5) (.cons (.var 1) .nil))) (.cons (.fn 36 (.cons (.var 1) (.cons (.var 5) .nil))) (.cons (.fn 37 (.cons (.var 5) (.cons (.var 1) .nil))) .nil))))) (.cons (.ret (.cmp .Eq (.bi .repr (.cons (.var 6) .nil)) (.cst (.str "[True, False, None]")))) .nil))))
abbrev s8_law_right : CS := (.asg (.nm 5) (.fn 10 (.cons (.var 1) (.cons (.tup (.cons (.cst (.int 4)) (.cons (.cst (.int 3)) .nil))) .nil))))
abbrev t8_law_right : CSs := (.cons (.asg (.nm 5) (.fn 10 (.cons (.var 1) (.cons (.tup (.cons (.cst (.int 4)) (.cons (.cst (.int 3)) .nil))) .nil)))) (.cons (.asg (.nm 6) (.lst false (.cons (.fn 36 (.cons (.var 5) (.cons (.var 1) .nil))) (.cons (.fn 36 (.cons (.var 1) (.cons (.var 5) .nil))) (.cons (.fn 37 (.cons (.var 5) (.cons (.var 1) .nil))) .nil))))) (.cons (.ret (.cmp .Eq (.bi .repr (.cons (.var 6) .nil)) (.cst (.str "[True, False, None]")))) .nil)))
abbrev s9_law_right : CS := (.asg (.nm 6) (.lst false (.cons (.fn 36 (.cons (.var 5) (.cons (.var 1) .nil))) (.cons (.fn 36 (.cons (.var 1) (.cons (.var 5) .nil))) (.cons (.fn 37 (.cons (.var 5) (.cons (.var 1) .nil))) .nil)))))
abbrev t9_law_right : CSs := (.cons (.asg (.nm 6) (.lst false (.cons (.fn 36 (.cons (.var 5) (.cons (.var 1) .nil))) (.cons (.fn 36 (.cons (.var 1) (.cons (.var 5) .nil))) (.cons (.fn 37 (.cons (.var 5) (.cons (.var 1) .nil))) .nil))))) (.cons (.ret (.cmp .Eq (.bi .repr (.cons (.var 6) .nil)) (.cst (.str "[True, False, None]")))) .nil))
abbrev s10_law_right : CS := (.ret (.cmp .Eq (.bi .repr (.cons (.var 6) .nil)) (.cst (.str "[True, False, None]"))))
abbrev t10_law_right : CSs := (.cons (.ret (.cmp .Eq (.bi .repr (.cons (.var 6) .nil)) (.cst (.str "[True, False, None]")))) .nil)
noncomputable abbrev PHI : Nat → PF := P53
theorem gL : PhiOk Γ PHI := gP53
end K27

open PySem L2
set_option Elab.async false
set_option linter.all false
set_option maxRecDepth 100000
set_option maxHeartbeats 0
namespace K27
open PySem PySem.Spec PyProof.Rows L2 WF WV WP
/-- plain, by itself -/
theorem vc_law_draw : ∀ ds h Q, (Γ 1).2 ds h Q noX → aSs Γ c_law_draw { nx := fun _ h' => Q .non h', rt := Q } (ini N_law_draw.length ds) h := by
  intro ds h Q q
  have q : sp_law_draw ds h Q noX := q
  obtain ⟨k, a, l, us, lk, rfl, e, ⟨x, y, z, rfl, hx, hy, hy2, hz, hz2⟩, ⟨n, rfl, n0, n1⟩, post⟩ := q
  have nx : ∀ x y z : Int, 0 ≤ x → 0 ≤ y → y < 2147483648 → 0 ≤ z → z ≤ (k : Int) + 1 → SrL (k + 1) [.int x, .int y, .int z] := fun x y z h1 h2 h3 h4 h5 => ⟨x, y, z, rfl, h1, h2, h3, h4, by omega⟩
  refine ⟨_, rfl, _, _, e, rfl, _, rfl, ?_⟩
  by_cases c : 0 < x
  · rw [if_pos (by simpa using c)]
    refine ⟨_, rfl, _, _, e, rfl, _, rfl, ⟨n0, n1⟩, _, rfl, rfl, _, _, rfl, ⟨_, rfl, a, 0, 0, _, rfl, rfl, e, rfl, _, _, rfl, rfl, _, rfl, ?_⟩⟩
    exact post _ _ ⟨n, _, rfl, rfl, Int.emod_nonneg _ (by omega), Int.emod_lt_of_pos _ n0⟩ (nx _ _ _ (Int.ediv_nonneg hx (by omega)) hy hy2 hz (by omega))
  · rw [if_neg (by simpa using c)]
    have e1 : (h.set a [.int x, .int y, .int (z + 1)]) a = some [.int x, .int y, .int (z + 1)] := AH.set_same
    refine ⟨_, rfl, _, _, e, rfl, _, rfl, a, 2, 2, _, rfl, rfl, e, rfl, ?_⟩
    refine ⟨_, rfl, _, _, e1, rfl, _, rfl, _, _, e1, rfl, mulLt (by decide) (by omega), by decide, ?_⟩
    have s0 := Int.emod_nonneg (y + 7919 * (z + 1)) (by decide : (1000000007 : Int) ≠ 0)
    have s1 := Int.emod_lt_of_pos (y + 7919 * (z + 1)) (by decide : (0 : Int) < 1000000007)
    generalize hs : (y + 7919 * (z + 1)) % 1000000007 = st at *
    have t0 := Int.emod_nonneg st (by decide : (9973 : Int) ≠ 0)
    have t1 := Int.emod_lt_of_pos st (by decide : (0 : Int) < 9973)
    refine ⟨_, rfl, _, rfl, by decide, mulLt (by omega) (by omega), by decide, _, rfl, a, 1, 1, _, rfl, rfl, e1, rfl, ?_⟩
    have u0 := Int.emod_nonneg (st * (st % 9973 + 30011) + 13) (by decide : (1000000007 : Int) ≠ 0)
    have u1 := Int.emod_lt_of_pos (st * (st % 9973 + 30011) + 13) (by decide : (0 : Int) < 1000000007)
    generalize (st * (st % 9973 + 30011) + 13) % 1000000007 = y' at *
    have e2 : ((h.set a [.int x, .int y, .int (z + 1)]).set a [.int x, .int y', .int (z + 1)]) a = some [.int x, .int y', .int (z + 1)] := AH.set_same
    refine ⟨_, rfl, _, _, e2, rfl, ⟨by decide, by decide⟩, _, rfl, n0, ?_⟩
    rw [set_set']
    exact post _ _ ⟨n, _, rfl, rfl, Int.emod_nonneg _ (by omega), Int.emod_lt_of_pos _ n0⟩ (nx _ _ _ hx u0 (by omega) (by omega) (by omega))

theorem u_draw {h : AH} {Q : AQ} {a : Addr} {l : List D} {k : Nat} {n : Int} (ha : h a = some l) (hs : SrL k l) (hk : k + 1 < 1000000) (n0 : 0 < n) (n1 : n < 1073741824) (q : ∀ (i : Int) l', 0 ≤ i → i < n → SrL (k + 1) l' → Q (.int i) (h.set a l')) : up (Γ 1).2 [.ref a, .int n] h Q noX :=
  spD_use (c := 1) ha hs hk ⟨n, rfl, n0, n1⟩ fun r l' ⟨m, i, e, er, i0, i1⟩ s => by
    cases e
    subst er
    exact q i l' i0 i1 s
theorem f_law_left {n : Nat} {a b c d e f u v w : Int} (ba : B n a) (bb : B n b) (bu : B n u) (bc : B n c) (bd : B n d) (bv : B n v) (be : B n e) (bf : B n f) (bw : B n w) (l : n ≤ 100000) :
    F_law_left [V3 a b u, V3 c d v, V3 e f w] = some (.int (a * (d * w - v * f) - b * (c * w - v * e) + u * (c * f - d * e))) := by
  have m1 := bd.mulOk bw (by omega)
  have m2 := bv.mulOk bf (by omega)
  have m3 := bc.mulOk bw (by omega)
  have m4 := bv.mulOk be (by omega)
  have m5 := bc.mulOk bf (by omega)
  have m6 := bd.mulOk be (by omega)
  have m7 := ba.mulOk ((bd.mul bw).sub (bv.mul bf)) (by omega)
  have m8 := bb.mulOk ((bc.mul bw).sub (bv.mul be)) (by omega)
  have m9 := bu.mulOk ((bc.mul bf).sub (bd.mul be)) (by omega)
  simp [F_law_left, c_law_left, m1, m2, m3, m4, m5, m6, m7, m8, m9]
theorem f_law_left3 {u : Int} (hu : B 12000 u) {a b c : List Int} (ha : Row3 u 12000 a) (hb : Row3 u 12000 b) (hc : Row3 u 12000 c) : ∃ i : Int, F_law_left [tupI a, tupI b, tupI c] = some (.int i) ∧ left3 a b c = decide (0 < i) := by
  obtain ⟨x, y, rfl, bx, by_⟩ := ha
  obtain ⟨x', y', rfl, bx', by'⟩ := hb
  obtain ⟨x2, y2, rfl, bx2, by2⟩ := hc
  exact ⟨_, f_law_left bx by_ hu bx' by' hu bx2 by2 hu (by omega), rfl⟩
theorem f_lleft {n m k : Nat} {p q r : Pt} (hp : Bp n p) (hq : Bp m q) (hr : Bp k r) (l : n + m + k < 50000) : ∃ i : Int, F_law_left [vD p, vD q, vD r] = some (.int i) ∧ (i < 0 ↔ det p q r < 0) ∧ (0 < i ↔ 0 < det p q r) ∧ (i = 0 ↔ det p q r = 0) := by
  obtain ⟨a, b, u, e1, pw, ba, bb, bu, _, _, _⟩ := pt_ints hp
  obtain ⟨c, d, v, e2, pw', bc, bd, bv, _, _, _⟩ := pt_ints hq
  obtain ⟨e, f, w, e3, pw2, be, bf, bw, _, _, _⟩ := pt_ints hr
  obtain ⟨h1, h2⟩ := det_ints hp hq hr e1 e2 e3
  have s := sign_of h1 h2
  have fl := f_law_left (n := n + m + k) (ba.mono (by omega)) (bb.mono (by omega)) (bu.mono (by omega)) (bc.mono (by omega)) (bd.mono (by omega)) (bv.mono (by omega)) (be.mono (by omega)) (bf.mono (by omega)) (bw.mono (by omega)) (by omega)
  exact ⟨_, by rw [e1, e2, e3]; exact fl, s⟩
theorem vc_law_chain : ∀ ds h Q, (Γ 3).2 ds h Q noX → aSs Γ c_law_chain { nx := fun _ h' => Q .non h', rt := Q } (ini N_law_chain.length ds) h := by
  intro ds h Q q
  obtain ⟨d, e, q⟩ : ∃ d, FM_law_chain ds = some d ∧ Q d h := q
  unfold FM_law_chain at e
  split at e
  case h_2 => cases e
  rename_i es
  obtain ⟨nss, e1, e2⟩ := bnd e
  split at e2
  case isFalse => cases e2
  rename_i ok
  obtain ⟨len, u, bu, two⟩ := ok
  cases e2
  obtain ⟨rfl, ne⟩ := rowsE_ok e1
  unfold c_law_chain
  simp only [wp_sc, wp_asg, wp_lst, wp_nil, wn_t, wp_nm]
  refine ⟨by decide, fun p hp => ?_⟩
  rw [wp_for]
  simp only [wi_seq, wp_var]
  refine ⟨_, rfl, ?_⟩
  show loopD _ (fun _ => True) _ (nss.map tupI) _ _
  refine for_inv (src := ⟨nss.map tupI, fun _ => True⟩) (I := fun pre σ h' => ∃ (ms : List (List Int)) (o : Option D), pre = ms.map tupI ∧ σ = [some (.lst (nss.map tupI)), some (.ref p), o] ∧ h' = h.set p ((ms.foldl (pushD left3) []).reverse.map tupI)) ?_ ?_ ?_ ?_
  · exact ⟨[], none, rfl, rfl, rfl⟩
  · intros; trivial
  · rintro pre d post σ h' eds ⟨ms, o, rfl, rfl, rfl⟩
    obtain ⟨ms', rest, e1, e2, e3⟩ := List.map_eq_append_iff.mp eds
    obtain ⟨c, rest, rfl, rfl, e4⟩ := List.map_eq_cons_iff.mp e3
    have : ms' = ms := tups_inj (by simpa [List.map_map] using e2)
    subst this
    have rc : Row3 u 12000 c := two c (by rw [e1]; simp)
    have rms : ∀ x ∈ ms', Row3 u 12000 x := fun x m => two x (by rw [e1]; simp [m])
    have lms : ms'.length ≤ 1000 := by rw [e1] at len; simp at len; omega
    simp only [wp_nm, wp_sc]
    have slen : (ms'.foldl (pushD left3) []).length ≤ ms'.length := by
      have : ∀ (l s : List (List Int)), (l.foldl (pushD left3) s).length ≤ s.length + l.length := by
        intro l
        induction l with
        | nil => intro s; simp
        | cons x l ih => intro s; have := ih (pushD left3 s x); have := pushD_len (left := left3) s x; simp; omega
      simpa using this ms' []
    have srow : ∀ x ∈ ms'.foldl (pushD left3) [], Row3 u 12000 x := fun x m => by
      rcases foldD_sub m with m | m
      · exact rms x m
      · cases m
    have goal : (((ms' ++ [c]).foldl (pushD left3) []).reverse.map tupI) = ((pushD left3 (ms'.foldl (pushD left3) []) c).reverse.map tupI) := by rw [List.foldl_append]; rfl
    refine ⟨fun m σ h' => ∃ s : List (List Int), m = s.length ∧ σ = [some (.lst (nss.map tupI)), some (.ref p), some (tupI c)] ∧ h' = h.set p (s.reverse.map tupI) ∧ pushD left3 s c = pushD left3 (ms'.foldl (pushD left3) []) c ∧ (∀ x ∈ s, Row3 u 12000 x) ∧ s.length ≤ 1000, ⟨_, _, rfl, rfl, rfl, rfl, srow, by omega⟩, ?_⟩
    rintro m σ h' ⟨s, rfl, rfl, rfl, es, rs, ls⟩
    simp only [wp_con, wp_and, wp_con1, wp_cmp, wp_bi, wp_cons, wp_var, wp_nil, wp_cst, wb_len, wq_r]
    refine ⟨_, rfl, _, set_at, ?_⟩
    simp only [cD, ws_gt]
    refine ⟨_, rfl, ?_⟩
    have fin : ∀ E : AEnds, (∀ σ h', (∃ (ms : List (List Int)) (o : Option D), ms'.map tupI ++ [tupI c] = ms.map tupI ∧ σ = [some (.lst (nss.map tupI)), some (.ref p), o] ∧ h' = h.set p ((ms.foldl (pushD left3) []).reverse.map tupI)) → E.nx σ h') → pushD left3 s c = c :: s → aSs Γ (.cons (.expr (.met .append 1 (.cons (.var 2) .nil))) .nil) E [some (.lst (nss.map tupI)), some (.ref p), some (tupI c)] (h.set p (s.reverse.map tupI)) := by
      intro E hE ep
      simp only [wp_sc, wp_expr, wp_met, wp_var, wp_cons, wp_nil]
      refine ⟨_, rfl, by simp, _, rfl, ?_⟩
      simp only [wm_app]
      refine ⟨_, set_at, by simp; omega, ?_⟩
      refine hE _ _ ⟨ms' ++ [c], some (tupI c), by simp, rfl, ?_⟩
      rw [goal, ← es, ep, set_set']
      simp
    have eqc : ∀ (x : List Int) (l : List D) (E : AEnds) (a b : CSs), (if x = c then aSs Γ b E [some (.lst (nss.map tupI)), some (.ref p), some (tupI c)] (h.set p (l ++ [tupI x])) else aSs Γ a E [some (.lst (nss.map tupI)), some (.ref p), some (tupI c)] (h.set p (l ++ [tupI x]))) → aS Γ (.ife (.con .Or (.cons (.cmp .Eq (.bi .len (.cons (.var 1) .nil)) (.cst (.int 0))) (.cons (.cmp .NotEq (.idx (.var 1) (.neg (.cst (.int 1)))) (.var 2)) .nil))) a b) E [some (.lst (nss.map tupI)), some (.ref p), some (tupI c)] (h.set p (l ++ [tupI x])) := by
      intro x l E a b q
      simp only [wp_if, wp_con, wp_or, wp_con1, wp_cmp, wp_bi, wp_cons, wp_var, wp_nil, wp_cst, wb_len, wq_r]
      refine ⟨_, rfl, _, set_at, wc_eq rfl rfl (Nat.zero_le _) (Nat.zero_le _) ⟨_, rfl, ?_⟩⟩
      have z : ¬ (decide (D.int ((l ++ [tupI x]).length : Int) = cD (.int 0)) = true) := by simp; omega
      rw [if_neg z]
      simp only [wp_idx, wp_var, wp_neg, wp_cst, cD, ws_neg, ws_ix, wq_r]
      refine ⟨_, rfl, _, _, set_at, at_m1, _, rfl, wc_ne (pur_tupI _) (pur_tupI _) (by rw [dep_tupI]; decide) (by rw [dep_tupI]; decide) ⟨_, rfl, ?_⟩⟩
      by_cases e : x = c
      · rw [if_pos e] at q
        simpa [e] using q
      · rw [if_neg e] at q
        have : ¬ (tupI x = tupI c) := fun z => e (ints_inj (by simpa using z))
        simpa [this] using q
    match s, es, rs, ls, fin with
    | [], _, _, _, fin =>
      refine ⟨false, rfl, ?_⟩
      simp only [wp_if, wp_con, wp_or, wp_con1, wp_cmp, wp_bi, wp_cons, wp_var, wp_nil, wp_cst, wb_len, wq_r]
      refine ⟨_, rfl, _, set_at, wc_eq rfl rfl (Nat.zero_le _) (Nat.zero_le _) ⟨_, rfl, ?_⟩⟩
      rw [if_pos (show decide (D.int ((List.map tupI ([] : List (List Int)).reverse).length : Int) = cD (.int 0)) = true from decide_eq_true rfl)]
      exact ⟨true, rfl, fin _ (fun _ _ z => z) rfl⟩
    | [a], es, _, _, fin =>
      refine ⟨false, rfl, eqc a [] _ _ _ ?_⟩
      by_cases e : a = c
      · rw [if_pos e]
        refine ⟨ms' ++ [c], some (tupI c), by simp, rfl, ?_⟩
        rw [goal, ← es]
        simp [pushD, e]
      · rw [if_neg e]
        exact fin _ (fun _ _ z => z) (by simp [pushD, e])
    | b :: a :: s, es, rs, ls, fin =>
      have el : (b :: a :: s).reverse.map tupI = s.reverse.map tupI ++ [tupI a, tupI b] := by simp
      have el' : (b :: a :: s).reverse.map tupI = (s.reverse.map tupI ++ [tupI a]) ++ [tupI b] := by simp
      have i2 : atI ((b :: a :: s).reverse.map tupI) (-2) = some (tupI a) := by rw [el]; exact at_m2
      have i1 : atI ((b :: a :: s).reverse.map tupI) (-1) = some (tupI b) := by rw [el]; exact at_m1'
      have big : (decide ((1 : Int) < ((List.map tupI (b :: a :: s).reverse).length : Int)) : Bool) = true := by simp; omega
      rw [if_pos big]
      obtain ⟨i, fi, fl⟩ := f_law_left3 bu (rs a (by simp)) (rs b (by simp)) rc
      simp only [wp_fn, wp_cons, wp_idx, wp_var, wp_neg, wp_cst, wp_nil, cD, ws_neg, ws_ix, wq_r]
      refine ⟨_, rfl, _, _, set_at, i2, _, rfl, _, _, set_at, i1, _, rfl, rfl, up_F.mpr ⟨_, fi, ?_⟩⟩
      simp only [ws_le]
      refine ⟨_, rfl, ?_⟩
      by_cases hi : 0 < i
      · have hl : left3 a b c = true := by rw [fl]; simpa using hi
        have nbc : b ≠ c := by
          intro e
          subst e
          rw [left3_same (rs a (by simp)) rc] at hl
          cases hl
        rw [if_neg (by simp; omega)]
        rw [el']
        refine eqc b _ _ _ _ ?_
        rw [if_neg nbc, ← el']
        exact fin _ (fun _ _ z => z) (by simp [pushD, hl])
      · have hl : left3 a b c = false := by rw [fl]; simpa using hi
        rw [if_pos (by simp; omega)]
        simp only [wp_sc, wp_expr, wp_met, wp_var, wp_nil]
        refine ⟨_, rfl, by simp, ?_⟩
        simp only [wm_pop, wp_sn]
        refine ⟨_, tupI b, set_at, by rw [el]; simp, (a :: s).length, by simp, a :: s, rfl, trivial, ?_, ?_, fun x m => rs x (List.mem_cons_of_mem _ m), by simp at ls ⊢; omega⟩
        · rw [set_set']
          congr 1
          rw [el', List.dropLast_concat]
          simp
        · rw [← es]
          simp [pushD, hl]
  · rintro σ h' ⟨ms, o, e1, rfl, rfl⟩
    have := tups_inj e1
    subst this
    simp only [wp_fz, wp_sc, wp_ret, wp_var]
    refine ⟨p, _, rfl, set_at, _, rfl, ?_⟩
    rw [set_del hp]
    exact q
theorem w_least {Φ : Nat → PF} (l x p : Option D) (a b : Nat) : whE Φ (.cmp .Gt (.var 4) (.cst (.int 0))) (.cons (.par2 3 4 (.cons (.var 4) (.cons (.bin .Mod false (.bi .int (.cons (.var 3) .nil)) (.var 4)) .nil))) .nil)
    [l, p, x, some (.int (a : Int)), some (.int (b : Int))] = some (.nx [l, p, x, some (.int (Nat.gcd a b : Nat)), some (.int 0)]) := by
  refine whE_of (euclid _ _ (fun a b : Nat => [l, p, x, some (.int (a : Int)), some (.int (b : Int))]) (fun a b => ?_) (fun a b z => ?_) b a b (Nat.le_refl b))
  · simp [tst_def]
  · simp [z]
theorem w_least0 {Φ : Nat → PF} (l x p : Option D) (b : Nat) : whE Φ (.cmp .Gt (.var 4) (.cst (.int 0))) (.cons (.par2 3 4 (.cons (.var 4) (.cons (.bin .Mod false (.bi .int (.cons (.var 3) .nil)) (.var 4)) .nil))) .nil)
    [l, p, x, some (.int 0), some (.int (b : Int))] = some (.nx [l, p, x, some (.int (b : Int)), some (.int 0)]) := by
  have := w_least (Φ := Φ) l x p 0 b
  rw [Nat.gcd_zero_left] at this
  exact this
theorem f_least3 {a b c : Int} (h : DivOk (G3 a b c)) : F_law_least [V3 a b c] = some (lowT a b c) := by
  have e : (if (G3 a b c : Int) > 1 then (G3 a b c : Int) else 1) = G3 a b c := max1 h.1
  have e' : (if (1 : Int) < (G3 a b c : Int) then (G3 a b c : Int) else 1) = G3 a b c := max1 h.1
  unfold lowT
  unfold G3 at *
  simp [F_law_least, c_law_least, w_least, w_least0, e, e', h]
theorem f_least2 {a b : Int} (h : DivOk (G2 a b)) : F_law_least [V2 a b] = some (low2T a b) := by
  have e : (if (G2 a b : Int) > 1 then (G2 a b : Int) else 1) = G2 a b := max1 h.1
  have e' : (if (1 : Int) < (G2 a b : Int) then (G2 a b : Int) else 1) = G2 a b := max1 h.1
  unfold low2T
  unfold G2 at *
  simp [F_law_least, c_law_least, w_least, w_least0, e, e', h]
theorem f_lcmloop {L : D} {σr : List (Option D)} {n : Nat} (ps : PL) (bp : ∀ p ∈ ps, Bp n p) (hn : n < 8900) (hb : n * ps.length < 12000) (o : Option D) :
    ∃ (u : Int) (o' : Option D), forE P5 (.nm 2) (.cons (.asg (.nm 1) (.bin .Mult false (.idx (.fn 4 (.cons (.tup (.cons (.var 1) (.cons (.idx (.var 2) (.cst (.int 2))) .nil))) .nil)) (.cst (.int 0))) (.idx (.var 2) (.cst (.int 2))))) .nil) (ps.map vD) (some L :: some (.int 1) :: o :: σr) = some (.nx (some L :: some (.int u) :: o' :: σr)) ∧ 0 < u ∧ B (1 + n * ps.length) u ∧ ∀ p ∈ ps, dn (vD p) ∣ u := by
  obtain ⟨σ', e, u, o', rfl, h1, h2, h3⟩ := forM0 (Φ := P5) (p := .nm 2) (b := (.cons (.asg (.nm 1) (.bin .Mult false (.idx (.fn 4 (.cons (.tup (.cons (.var 1) (.cons (.idx (.var 2) (.cst (.int 2))) .nil))) .nil)) (.cst (.int 0))) (.idx (.var 2) (.cst (.int 2))))) .nil)) (g := vD) (l := ps) (σ := some L :: some (.int 1) :: o :: σr)
    (fun pre σ => ∃ (u : Int) (o' : Option D), σ = some L :: some (.int u) :: o' :: σr ∧ 0 < u ∧ B (1 + n * pre.length) u ∧ ∀ p ∈ pre, dn (vD p) ∣ u) ⟨1, o, rfl, by decide, by simp [B], by simp⟩ (by
      rintro pre p post σ e ⟨u, o', rfl, h1, h2, h3⟩
      have mp' : p ∈ ps := by rw [e]; simp
      have lp : pre.length + 1 ≤ ps.length := by rw [e]; simp
      have lm : n * (pre.length + 1) ≤ n * ps.length := Nat.mul_le_mul_left n lp
      rw [Nat.mul_add] at lm
      obtain ⟨x, y, w, ev', v, _⟩ := (bp p mp').v
      have ed : dn (vD p) = w := by rw [ev']; rfl
      have fl := f_least2 (divOk2 (a := u) v.pos v.bw (by omega))
      have bq : B (1 + n * pre.length) (u / (G2 u w : Int)) := h2.div (by have := g2_pos (a := u) (b := w) (.inl (by omega)); omega) (g2_d1 u w)
      have m1 := bq.mulOk v.bw (by omega)
      refine ⟨some L :: some (.int (lcmI u w)) :: some (V3 x y w) :: σr, by rw [ev']; simp [fl, low2T, m1]; exact lcm_eq h1 v.pos, lcmI u w, some (V3 x y w), rfl, lcm_pos h1 v.pos, ?_, ?_⟩
      · exact (lcm_B h1 v.pos h2 v.bw).mono (by simp [Nat.mul_add]; omega)
      · intro q m
        rcases List.mem_append.mp m with m | m
        · exact Int.dvd_trans (h3 q m) (lcm_d1 _ _)
        · rw [List.mem_singleton.mp m, ed]
          exact lcm_d2 _ _)
  exact ⟨u, o', e, h1, h2, h3⟩
theorem f_law_hullS {L : D} {ps : PL} {n : Nat} (hL : seqE L = some (ps.map vD)) (ne : ps ≠ []) (l64 : ps.length < 64) (bp : ∀ p ∈ ps, Bp n p) (hb : n * (ps.length + 1) < 8900) : F_law_hull [L] = some (pD (hullQ ps)) := by
  rw [Nat.mul_add] at hb
  obtain ⟨u, o', e1, pu, bu, du⟩ := f_lcmloop (L := L) (σr := [none, none]) ps bp (by omega) (by omega) none
  obtain ⟨R, eR, two, lR, eh, sub⟩ := rows_hullL ne bp pu bu du
  have bu9 : B 8950 u := bu.mono (by omega)
  have two' : ∀ r ∈ R, Row3 u 8950 r := fun r m => by
    obtain ⟨x, y, e, b1, b2⟩ := two r m
    exact ⟨x, y, e, b1.mono (by omega), b2.mono (by omega)⟩
  have two12 : ∀ r ∈ R, Row3 u 12000 r := fun r m => by
    obtain ⟨x, y, e, b1, b2⟩ := two r m
    exact ⟨x, y, e, b1.mono (by omega), b2.mono (by omega)⟩
  have sc : lcE P5 (.nm 2) .nil (.tup (.cons (.bin .Mult false (.idx (.var 2) (.cst (.int 0))) (.bin .FloorDiv false (.var 1) (.idx (.var 2) (.cst (.int 2))))) (.cons (.bin .Mult false (.idx (.var 2) (.cst (.int 1))) (.bin .FloorDiv false (.var 1) (.idx (.var 2) (.cst (.int 2))))) (.cons (.var 1) .nil)))) [some L, some (.int u), none, none, none] (ps.map vD) = some (ps.map fun p => tupI (rowOf3 u (vD p))) := by
    refine lcM fun p m => ?_
    obtain ⟨x, y, w, e, v, _⟩ := (bp p m).v
    have d := v.bw.divOk v.pos (by omega)
    have bq := divB bu pu v.pos
    have m1 := v.bx.mulOk bq (by omega)
    have m2 := v.by_.mulOk bq (by omega)
    rw [e]
    exact ⟨[some L, some (.int u), some (V3 x y w), none, none], by simp, by simp [d, m1, m2, rowOf3]⟩
  have rows : rowsE (ps.map fun p => tupI (rowOf3 u (vD p))) = some (ps.map fun p => rowOf3 u (vD p)) := by
    have := rowsE_map (nss := ps.map fun p => rowOf3 u (vD p)) fun ns m => by
      obtain ⟨p, mp', rfl⟩ := List.mem_map.mp m
      obtain ⟨x, y, e, _⟩ := rowOf3_B (bp p mp') bu pu
      rw [e]; simp
    rw [List.map_map] at this
    exact this
  have c1 : F_law_chain [.lst (R.map tupI)] = _ := fm_law_chain (nss := R) (by omega) (bu.mono (by omega)) two12
  have c2 : F_law_chain [.lst (R.reverse.map tupI)] = _ := fm_law_chain (nss := R.reverse) (by simp; omega) (bu.mono (by omega)) (fun r m => two12 r (List.mem_reverse.mp m))
  have lc : ∀ o : Option D, lcE P5 (.nm 2) .nil (.fn 4 (.cons (.var 2) .nil)) [some L, some (.int u), none, some (.lst (R.map tupI)), o] ((hulL R).map tupI) = some ((hulL R).map fun r => vD (toP u r)) := fun o => by
    refine lcM fun r m => ?_
    obtain ⟨x, y, e, bx, by_, e2, _⟩ := row_back3 pu bu9 (two' r (sub r m))
    have fl := f_least3 (divOk3 (a := x) (b := y) pu bu9 (by omega))
    rw [e2] at fl
    subst e
    exact ⟨[some L, some (.int u), some (V3 x y u), some (.lst (R.map tupI)), o], by simp, by simp [fl]⟩
  have fin : pD (hullQ ps) = .tup ((hulL R).map fun r => vD (toP u r)) := by
    rw [← eh, pD, List.map_map]
    rfl
  have l1 := chD_len (left := left3) R
  have l2 := chD_len (left := left3) R.reverse
  simp only [List.length_reverse] at l2
  have hl : (hulL R).length ≤ 2000 := by
    unfold hulL
    split
    · simp; omega
    · simp; omega
  rw [fin]
  have lR2 : (hulL R).length ≤ 16777216 := by omega
  have lps : ps.length ≤ 16777216 := by omega
  unfold F_law_hull c_law_hull
  refine evDef_of ?_ rfl
  refine run_nx (σ' := [some L, some (.int 1), none, none, none]) (by simp) ?_
  refine run_nx (σ' := [some L, some (.int u), o', none, none]) (by rw [evS_for, evI_seq, ev_var]; show (seqE L).bind _ = _; rw [hL]; exact e1) ?_
  refine run_nx (σ' := [some L, some (.int u), o', some (.lst (R.map tupI)), none]) (by simp [evI, sc, lps, rows, eR, hL, -seqE]) ?_
  rw [List.map_reverse] at c2
  have hz : (chD left3 R).length - 1 + ((chD left3 R.reverse).length - 1) ≤ 16777216 := by omega
  refine run_nx (σ' := [some L, some (.int u), o', some (.lst (R.map tupI)), some (.lst (((chD left3 R).dropLast ++ (chD left3 R.reverse).dropLast).map tupI))]) (by simp [c1, c2, cut_last, List.map_dropLast, hz]) ?_
  refine run_rt ?_
  have it : evI P5 [some L, some (.int u), o', some (.lst (R.map tupI)), some (.lst (((chD left3 R).dropLast ++ (chD left3 R.reverse).dropLast).map tupI))] (.seq (.ife (.cmp .Gt (.bi .len (.cons (.var 4) .nil)) (.cst (.int 0))) (.var 4) (.cut false (.var 3) .no (.pt (.cst (.int 1)))))) = some ((hulL R).map tupI) := by
    unfold hulL
    have ct : cutG (R.map tupI) none (some 1) = (R.take 1).map tupI := by
      unfold cutG
      cases R with
      | nil => rfl
      | cons a R =>
        have : min 1 (R.length + 1) = 1 := by omega
        simp [HT.sIx, this]
    cases (chD left3 R).dropLast ++ (chD left3 R.reverse).dropLast with
    | nil => simp [evI, ct]
    | cons a F =>
      have h' : (0 : Int) < (F.length : Int) + 1 := by omega
      simp [evI, h']
  have lm : ((hulL R).map tupI).length ≤ PySem.sizeLine := by rw [List.length_map]; simpa using lR2
  have ec := lc (some (.lst (((chD left3 R).dropLast ++ (chD left3 R.reverse).dropLast).map tupI)))
  have e2 : ev P5 [some L, some (.int u), o', some (.lst (R.map tupI)), some (.lst (((chD left3 R).dropLast ++ (chD left3 R.reverse).dropLast).map tupI))] (.lc false (.nm 2) (.seq (.ife (.cmp .Gt (.bi .len (.cons (.var 4) .nil)) (.cst (.int 0))) (.var 4) (.cut false (.var 3) .no (.pt (.cst (.int 1)))))) .nil (.fn 4 (.cons (.var 2) .nil)) [("_law_spot_here", 2)]) = some (.lst ((hulL R).map fun r => vD (toP u r))) := by
    rw [ev_lc, if_neg (by decide), it, Option.bind_some, if_pos lm]
    show (lcE P5 _ _ _ [some L, some (.int u), none, some (.lst (R.map tupI)), some (.lst (((chD left3 R).dropLast ++ (chD left3 R.reverse).dropLast).map tupI))] _).map _ = _
    rw [ec]
    rfl
  rw [evS_ret, ev_bi]
  simp only [evA, e2]
  simp
theorem f_law_hull {ps : PL} {n : Nat} (ne : ps ≠ []) (l64 : ps.length < 64) (bp : ∀ p ∈ ps, Bp n p) (hb : n * (ps.length + 1) < 8900) : F_law_hull [.lst (ps.map vD)] = some (pD (hullQ ps)) := f_law_hullS rfl ne l64 bp hb
theorem vc_law_pick : ∀ ds h Q, (Γ 6).2 ds h Q noX → aSs Γ c_law_pick { nx := fun _ h' => Q .non h', rt := Q } (ini N_law_pick.length ds) h := by
  intro ds h Q q
  have q : sp_law_pick ds h Q noX := q
  obtain ⟨k, a, l, us, hk, rfl, ha, hs, ⟨x, es, rfl, e, ne, len⟩, post⟩ := q
  simp only [c_law_pick, wp_sc, wp_ret, wp_idx, wp_var, wp_fn, wp_cons, wp_nil, wp_bi, wb_len]
  have ln : 0 < es.length := by cases es with
    | nil => exact absurd rfl ne
    | cons a b => simp
  refine ⟨x, rfl, .ref a, rfl, x, rfl, es, seqE_ok e, rfl, u_draw ha hs hk (by omega) (by omega) fun i l' i0 i1 s => ?_⟩
  obtain ⟨d, ed, md⟩ := atI_mem (xs := es) i0 i1
  exact ⟨es, d, seqE_ok e, ed, post d l' ⟨x, es, rfl, e, md⟩ s⟩
theorem u_pick {h : AH} {Q : AQ} {a : Addr} {l es : List D} {k : Nat} {x : D} (e : seqE x = some es) (ne : es ≠ []) (len : es.length < 1000000) (ha : h a = some l) (hs : SrL k l) (hk : k + 1 < 1000000) (q : ∀ d l', d ∈ es → SrL (k + 1) l' → Q d (h.set a l')) : up (Γ 6).2 [.ref a, x] h Q noX :=
  spD_use (c := 1) ha hs hk ⟨x, es, rfl, e, ne, len⟩ fun r l' ⟨x', es', e1, e2, m⟩ s => by
    cases e1
    rw [e] at e2
    cases e2
    exact q r l' m s
theorem vc_law_spot : ∀ ds h Q, (Γ 7).2 ds h Q noX → aSs Γ c_law_spot { nx := fun _ h' => Q .non h', rt := Q } (ini N_law_spot.length ds) h := by
  intro ds h Q q
  have q : sp_law_spot ds h Q noX := q
  obtain ⟨k, a, l, us, hk, rfl, ha, hs, rfl, post⟩ := q
  simp only [c_law_spot, wp_sc, wp_par2, wp_var, wp_fn, wp_cons, wp_nil, wp_tup, wp_cst, cD]
  refine ⟨.ref a, rfl, by decide, rfl, u_pick rfl (by simp) (by decide) ha hs (by omega) fun d1 l1 m1 s1 => ?_⟩
  refine ⟨.ref a, rfl, by decide, rfl, u_pick rfl (by simp) (by decide) AH.set_same s1 (by omega) fun d2 l2 m2 s2 => ?_⟩
  obtain ⟨m, rfl, m0, m9⟩ : ∃ m : Int, d1 = .int m ∧ 1 ≤ m ∧ m ≤ 99 := by
    simp only [List.mem_cons, List.not_mem_nil, or_false] at m1
    rcases m1 with rfl | rfl | rfl | rfl | rfl | rfl <;> exact ⟨_, rfl, by decide, by decide⟩
  obtain ⟨w, rfl, w0, w9⟩ : ∃ m : Int, d2 = .int m ∧ 1 ≤ m ∧ m ≤ 9 := by
    simp only [List.mem_cons, List.not_mem_nil, or_false] at m2
    rcases m2 with rfl | rfl | rfl | rfl | rfl | rfl <;> exact ⟨_, rfl, by decide, by decide⟩
  rw [set_set']
  refine ⟨_, _, rfl, ?_⟩
  simp only [wp_ret, wp_fn, wp_cons, wp_nil, wp_tup, wp_bin, wp_cst, wp_var, cD, ws_mul, ws_add]
  refine ⟨.ref a, rfl, .int m, rfl, mulLt (by decide) (by omega), rfl, u_draw AH.set_same s2 (by omega) (by omega) (by omega) fun i l3 i0 i1 s3 => ?_⟩
  refine ⟨.int m, rfl, ?_⟩
  simp only [ws_sub]
  refine ⟨.ref a, rfl, .int m, rfl, mulLt (by decide) (by omega), rfl, u_draw AH.set_same s3 (by omega) (by omega) (by omega) fun j l4 j0 j1 s4 => ?_⟩
  refine ⟨.int m, rfl, ?_⟩
  simp only [ws_sub]
  refine ⟨.int w, rfl, by simp, rfl, ?_⟩
  have bi : B 10 (i - m) := by unfold B; omega
  have bj : B 10 (j - m) := by unfold B; omega
  have bw : B 10 w := by unfold B; omega
  have wr := ratne (show 0 < w by omega)
  have kk := mkBp (n := 10) (p := ⟨((i - m : Int) : Rat) / w, ((j - m : Int) : Rat) / w⟩) (show 0 < w by omega) bi bj bw (by grind) (by grind)
  have fl := f_least3 (divOk3 (a := i - m) (b := j - m) (show 0 < w by omega) bw (by omega))
  rw [kk.1] at fl
  refine up_F.mpr ⟨_, fl, ?_⟩
  rw [set_set', set_set']
  exact post _ _ ⟨_, rfl, kk.2⟩ s4
theorem u_spot {h : AH} {Q : AQ} {a : Addr} {l : List D} {k : Nat} (ha : h a = some l) (hs : SrL k l) (hk : k + 4 < 1000000) (q : ∀ p l', Bp 10 p → SrL (k + 4) l' → Q (vD p) (h.set a l')) : up (Γ 7).2 [.ref a] h Q noX :=
  spD_use (c := 4) ha hs hk rfl fun r l' ⟨p, e, b⟩ s => by
    subst e
    exact q p l' b s
theorem f_lgrow {n m : Nat} {p : Pt} {a b : Int} {r : Rat} (hp : Bp n p) (ba : B m a) (bb : B m b) (pb : 0 < b) (hr : (a : Rat) = r * b) (l : n + m < 8000) : F_law_grow [vD p, V2 a b] = some (vD (mulP r p)) ∧ Bp (n + m) (mulP r p) := by
  obtain ⟨x, y, w, e, pw, bx, by_, bw, hx, hy, _⟩ := pt_ints hp
  have m1 := bx.mulOk ba (by omega)
  have m2 := by_.mulOk ba (by omega)
  have m3 := bw.mulOk bb (by omega)
  have pww := Int.mul_pos pw pb
  have k := mkBp (n := n + m) (p := mulP r p) (a := x * a) (b := y * a) (c := w * b) pww (bx.mul ba) (by_.mul ba) (bw.mul bb)
    (by push_cast; rw [hx, hr]; unfold mulP; grind) (by push_cast; rw [hy, hr]; unfold mulP; grind)
  have fl := f_least3 (divOk3 (a := x * a) (b := y * a) pww (bw.mul bb) (by omega))
  rw [k.1] at fl
  refine ⟨?_, k.2⟩
  rw [e]
  simp [F_law_grow, c_law_grow, m1, m2, m3, fl]
theorem f_ladd {n m : Nat} {p q : Pt} (hp : Bp n p) (hq : Bp m q) (l : n + m < 8000) : F_law_add [vD p, vD q] = some (vD (addP p q)) ∧ Bp (n + m + 1) (addP p q) := by
  obtain ⟨x, y, w, e, pw, bx, by_, bw, hx, hy, _⟩ := pt_ints hp
  obtain ⟨x', y', w', e', pw', bx', by', bw', hx', hy', _⟩ := pt_ints hq
  have m1 := bx.mulOk bw' (by omega)
  have m2 := bx'.mulOk bw (by omega)
  have m3 := by_.mulOk bw' (by omega)
  have m4 := by'.mulOk bw (by omega)
  have m5 := bw.mulOk bw' (by omega)
  have pww := Int.mul_pos pw pw'
  have b5 : B (n + m + 1) (w * w') := (bw.mul bw').mono (by omega)
  have k := mkBp (n := n + m + 1) (p := addP p q) (a := x * w' + x' * w) (b := y * w' + y' * w) (c := w * w') pww ((bx.mul bw').add ((bx'.mul bw).mono (by omega))) ((by_.mul bw').add ((by'.mul bw).mono (by omega))) b5
    (by push_cast; rw [hx, hx']; unfold addP; grind) (by push_cast; rw [hy, hy']; unfold addP; grind)
  have fl := f_least3 (divOk3 (a := x * w' + x' * w) (b := y * w' + y' * w) pww b5 (by omega))
  rw [k.1] at fl
  refine ⟨?_, k.2⟩
  rw [e, e']
  simp [F_law_add, c_law_add, m1, m2, m3, m4, m5, fl]
theorem f_lmid {n m k : Nat} {p q : Pt} {a b : Int} (hp : Bp n p) (hq : Bp m q) (ba : B k a) (bb : B k b) (pb : 0 < b) (l : n + m + 2 * k < 7000) : ∃ z, F_law_midway [vD p, vD q, V2 a b] = some (vD z) ∧ Bp (n + m + 2 * k + 2) z := by
  have pr := ratne pb
  have e1 : ((b - a : Int) : Rat) = (1 - (a : Rat) / b) * b := by push_cast; grind
  have e2 : (a : Rat) = ((a : Rat) / b) * b := by grind
  have g1 := f_lgrow (p := p) hp (bb.sub ba) (bb.mono (by omega)) pb e1 (by omega)
  have g2 := f_lgrow (p := q) hq ba bb pb e2 (by omega)
  have g3 := f_ladd g1.2 g2.2 (by omega)
  exact ⟨_, by simp [F_law_midway, c_law_midway, g1.1, g2.1, g3.1], g3.2.mono (by omega)⟩
theorem f_gcd3 (a b c : Int) : F_common_divisor [V3 a b c] = some (.int (G3 a b c)) := by simp [F_common_divisor, c_common_divisor, G3]
theorem f_gcd2 (a b : Int) : F_common_divisor [V2 a b] = some (.int (G2 a b)) := by simp [F_common_divisor, c_common_divisor, G2]
theorem f_lowest3 {a b c : Int} (h : DivOk (G3 a b c)) : F_lowest [V3 a b c] = some (lowT a b c) := by simp [F_lowest, c_lowest, f_gcd3, h, lowT]
theorem f_lowest2 {a b : Int} (h : DivOk (G2 a b)) : F_lowest [V2 a b] = some (low2T a b) := by simp [F_lowest, c_lowest, f_gcd2, h, low2T]
theorem f_is_left {a b c : List Int} (ha : Row2 12000 a) (hb : Row2 12000 b) (hc : Row2 12000 c) : F_is_left [tupI a, tupI b, tupI c] = some (.bl (left2 a b c)) := by
  obtain ⟨x, y, rfl, bx, by_⟩ := ha
  obtain ⟨x', y', rfl, bx', by'⟩ := hb
  obtain ⟨x2, y2, rfl, bx2, by2⟩ := hc
  have m1 := (bx'.sub bx).mulOk (by2.sub by_) (by omega)
  have m2 := (by'.sub by_).mulOk (bx2.sub bx) (by omega)
  simp [F_is_left, c_is_left, left2, m1, m2]
theorem vc_chain : ∀ ds h Q, (Γ 17).2 ds h Q noX → aSs Γ c_chain { nx := fun _ h' => Q .non h', rt := Q } (ini N_chain.length ds) h := by
  intro ds h Q q
  obtain ⟨d, e, q⟩ : ∃ d, FM_chain ds = some d ∧ Q d h := q
  unfold FM_chain at e
  split at e
  case h_2 => cases e
  rename_i es
  obtain ⟨nss, e1, e2⟩ := bnd e
  split at e2
  case isFalse => cases e2
  rename_i ok
  obtain ⟨len, two⟩ := ok
  cases e2
  obtain ⟨rfl, ne⟩ := rowsE_ok e1
  unfold c_chain
  simp only [wp_sc, wp_asg, wp_lst, wp_nil, wn_t, wp_nm]
  refine ⟨by decide, fun p hp => ?_⟩
  rw [wp_for]
  simp only [wi_seq, wp_var]
  refine ⟨_, rfl, ?_⟩
  show loopD _ (fun _ => True) _ (nss.map tupI) _ _
  refine for_inv (src := ⟨nss.map tupI, fun _ => True⟩) (I := fun pre σ h' => ∃ (ms : List (List Int)) (o : Option D), pre = ms.map tupI ∧ σ = [some (.lst (nss.map tupI)), some (.ref p), o] ∧ h' = h.set p ((ms.foldl (pushG left2) []).reverse.map tupI)) ?_ ?_ ?_ ?_
  · exact ⟨[], none, rfl, rfl, rfl⟩
  · intros; trivial
  · rintro pre d post σ h' eds ⟨ms, o, rfl, rfl, rfl⟩
    obtain ⟨ms', rest, e1, e2, e3⟩ := List.map_eq_append_iff.mp eds
    obtain ⟨c, rest, rfl, rfl, e4⟩ := List.map_eq_cons_iff.mp e3
    have : ms' = ms := tups_inj (by simpa [List.map_map] using e2)
    subst this
    have rc : Row2 12000 c := two c (by rw [e1]; simp)
    have rms : ∀ x ∈ ms', Row2 12000 x := fun x m => two x (by rw [e1]; simp [m])
    have lms : ms'.length ≤ 1000 := by rw [e1] at len; simp at len; omega
    simp only [wp_nm, wp_sc]
    have slen : (ms'.foldl (pushG left2) []).length ≤ ms'.length := by
      have : ∀ (l s : List (List Int)), (l.foldl (pushG left2) s).length ≤ s.length + l.length := by
        intro l
        induction l with
        | nil => intro s; simp
        | cons x l ih => intro s; have := ih (pushG left2 s x); have := pushG_len (left := left2) s x; simp; omega
      simpa using this ms' []
    have srow : ∀ x ∈ ms'.foldl (pushG left2) [], Row2 12000 x := fun x m => by
      rcases foldG_sub m with m | m
      · exact rms x m
      · cases m
    have goal : (((ms' ++ [c]).foldl (pushG left2) []).reverse.map tupI) = ((pushG left2 (ms'.foldl (pushG left2) []) c).reverse.map tupI) := by rw [List.foldl_append]; rfl
    refine ⟨fun m σ h' => ∃ s : List (List Int), m = s.length ∧ σ = [some (.lst (nss.map tupI)), some (.ref p), some (tupI c)] ∧ h' = h.set p (s.reverse.map tupI) ∧ pushG left2 s c = pushG left2 (ms'.foldl (pushG left2) []) c ∧ (∀ x ∈ s, Row2 12000 x) ∧ s.length ≤ 1000, ⟨_, _, rfl, rfl, rfl, rfl, srow, by omega⟩, ?_⟩
    rintro m σ h' ⟨s, rfl, rfl, rfl, es, rs, ls⟩
    simp only [wp_con, wp_and, wp_con1, wp_cmp, wp_bi, wp_cons, wp_var, wp_nil, wp_cst, wb_len, wq_r]
    refine ⟨_, rfl, _, set_at, ?_⟩
    simp only [cD, ws_gt]
    refine ⟨_, rfl, ?_⟩
    have fin : ∀ E : AEnds, (∀ σ h', (∃ (ms : List (List Int)) (o : Option D), ms'.map tupI ++ [tupI c] = ms.map tupI ∧ σ = [some (.lst (nss.map tupI)), some (.ref p), o] ∧ h' = h.set p ((ms.foldl (pushG left2) []).reverse.map tupI)) → E.nx σ h') → pushG left2 s c = c :: s → aS Γ (.expr (.met .append 1 (.cons (.var 2) .nil))) E [some (.lst (nss.map tupI)), some (.ref p), some (tupI c)] (h.set p (s.reverse.map tupI)) := by
      intro E hE ep
      simp only [wp_expr, wp_met, wp_var, wp_cons, wp_nil]
      refine ⟨_, rfl, by simp, _, rfl, ?_⟩
      simp only [wm_app]
      refine ⟨_, set_at, by simp; omega, ?_⟩
      refine hE _ _ ⟨ms' ++ [c], some (tupI c), by simp, rfl, ?_⟩
      rw [goal, ← es, ep, set_set']
      simp
    match s, es, rs, ls, fin with
    | [], _, _, _, fin => exact ⟨false, rfl, fin _ (fun _ _ z => z) rfl⟩
    | [a], _, _, _, fin => exact ⟨false, rfl, fin _ (fun _ _ z => z) rfl⟩
    | b :: a :: s, es, rs, ls, fin =>
      have el : (b :: a :: s).reverse.map tupI = s.reverse.map tupI ++ [tupI a, tupI b] := by simp
      have i2 : atI ((b :: a :: s).reverse.map tupI) (-2) = some (tupI a) := by rw [el]; exact at_m2
      have i1 : atI ((b :: a :: s).reverse.map tupI) (-1) = some (tupI b) := by rw [el]; exact at_m1'
      have big : (decide ((1 : Int) < ((List.map tupI (b :: a :: s).reverse).length : Int)) : Bool) = true := by simp; omega
      rw [if_pos big]
      simp only [wp_nt, wp_fn, wp_cons, wp_idx, wp_var, wp_neg, wp_cst, wp_nil, cD, ws_neg, ws_ix, wq_r]
      refine ⟨_, rfl, _, _, set_at, i2, _, rfl, _, _, set_at, i1, _, rfl, rfl, up_F.mpr ⟨_, f_is_left (rs a (by simp)) (rs b (by simp)) rc, _, rfl, _, rfl, ?_⟩⟩
      cases hl : left2 a b c with
      | true => exact fin _ (fun _ _ z => z) (by simp [pushG, hl])
      | false =>
        simp only [wp_sc, wp_expr, wp_met, wp_var, wp_nil, Bool.not_false, if_true]
        refine ⟨_, rfl, by simp, ?_⟩
        simp only [wm_pop, wp_sn]
        refine ⟨_, tupI b, set_at, by rw [el]; simp, (a :: s).length, by simp, a :: s, rfl, trivial, ?_, ?_, fun x m => rs x (List.mem_cons_of_mem _ m), by simp at ls ⊢; omega⟩
        · rw [set_set']
          congr 1
          rw [el]
          have : s.reverse.map tupI ++ [tupI a, tupI b] = (s.reverse.map tupI ++ [tupI a]) ++ [tupI b] := by simp
          rw [this, List.dropLast_concat]
          simp
        · rw [← es]
          simp [pushG, hl]
  · rintro σ h' ⟨ms, o, e1, rfl, rfl⟩
    have := tups_inj e1
    subst this
    simp only [wp_fz, wp_sc, wp_ret, wp_var]
    refine ⟨p, _, rfl, set_at, _, rfl, ?_⟩
    rw [set_del hp]
    exact q
theorem f_under {L : D} {σr : List (Option D)} {n : Nat} (ps : PL) (bp : ∀ p ∈ ps, Bp n p) (hn : n < 9000) (hb : n * ps.length < 12000) (o : Option D) :
    ∃ (u : Int) (o' : Option D), forE P18 (.nm 2) (.cons (.asg (.nm 1) (.mf .lcm (.cons (.var 1) (.cons (.idx (.var 2) (.cst (.int 2))) .nil)))) .nil) (ps.map vD) (some L :: some (.int 1) :: o :: σr) = some (.nx (some L :: some (.int u) :: o' :: σr)) ∧ 0 < u ∧ B (1 + n * ps.length) u ∧ ∀ p ∈ ps, dn (vD p) ∣ u := by
  obtain ⟨σ', e, u, o', rfl, h1, h2, h3⟩ := forM0 (Φ := P18) (p := .nm 2) (b := (.cons (.asg (.nm 1) (.mf .lcm (.cons (.var 1) (.cons (.idx (.var 2) (.cst (.int 2))) .nil)))) .nil)) (g := vD) (l := ps) (σ := some L :: some (.int 1) :: o :: σr)
    (fun pre σ => ∃ (u : Int) (o' : Option D), σ = some L :: some (.int u) :: o' :: σr ∧ 0 < u ∧ B (1 + n * pre.length) u ∧ ∀ p ∈ pre, dn (vD p) ∣ u) ⟨1, o, rfl, by decide, by simp [B], by simp⟩ (by
      rintro pre p post σ e ⟨u, o', rfl, h1, h2, h3⟩
      have mp' : p ∈ ps := by rw [e]; simp
      have lp : pre.length + 1 ≤ ps.length := by rw [e]; simp
      have lm : n * (pre.length + 1) ≤ n * ps.length := Nat.mul_le_mul_left n lp
      rw [Nat.mul_add] at lm
      obtain ⟨x, y, w, ev', v, _⟩ := (bp p mp').v
      have lo : LcmOk u w := lcm_ok h2 v.bw (by omega) (by omega)
      have ed : dn (vD p) = w := by rw [ev']; rfl
      refine ⟨_, by rw [ev']; simp [lo], lcmI u w, some (V3 x y w), rfl, lcm_pos h1 v.pos, ?_, ?_⟩
      · exact (lcm_B h1 v.pos h2 v.bw).mono (by simp [Nat.mul_add]; omega)
      · intro q m
        rcases List.mem_append.mp m with m | m
        · exact Int.dvd_trans (h3 q m) (lcm_d1 _ _)
        · rw [List.mem_singleton.mp m, ed]
          exact lcm_d2 _ _)
  exact ⟨u, o', e, h1, h2, h3⟩
theorem f_hull {ps : PL} {n : Nat} (ne : ps ≠ []) (l64 : ps.length < 64) (bp : ∀ p ∈ ps, Bp n p) (hb : n * (ps.length + 1) < 8900) : F_hull [.lst (ps.map vD)] = some (pD (hullQ ps)) := by
  rw [Nat.mul_add] at hb
  obtain ⟨u, o', e1, pu, bu, du⟩ := f_under (L := .lst (ps.map vD)) (σr := [none, none, none, none, none]) ps bp (by omega) (by omega) none
  obtain ⟨R, eR, two, lR, eh, sub⟩ := rows_hull ne bp pu bu du
  have bu9 : B 8950 u := bu.mono (by omega)
  have two' : ∀ r ∈ R, Row2 8950 r := fun r m => by
    obtain ⟨x, y, e, b1, b2⟩ := two r m
    exact ⟨x, y, e, b1.mono (by omega), b2.mono (by omega)⟩
  have two12 : ∀ r ∈ R, Row2 12000 r := fun r m => by
    obtain ⟨x, y, e, b1, b2⟩ := two r m
    exact ⟨x, y, e, b1.mono (by omega), b2.mono (by omega)⟩
  have sc : scE P18 (.tp (.cons (.nm 5) (.cons (.nm 6) (.cons (.nm 7) .nil)))) (.tup (.cons (.bin .Mult false (.var 5) (.bin .FloorDiv false (.var 1) (.var 7))) (.cons (.bin .Mult false (.var 6) (.bin .FloorDiv false (.var 1) (.var 7))) .nil))) [some (.lst (ps.map vD)), some (.int u), o', none, none, none, none, none] (ps.map vD) = some ((ps.map fun p => rowOf u (vD p)).map tupI) := by
    refine scM fun p m => ?_
    obtain ⟨x, y, w, e, v, _⟩ := (bp p m).v
    have d := v.bw.divOk v.pos (by omega)
    have bq := divB bu pu v.pos
    have m1 := v.bx.mulOk bq (by omega)
    have m2 := v.by_.mulOk bq (by omega)
    rw [e]
    exact ⟨[some (.lst (ps.map vD)), some (.int u), o', none, none, some (.int x), some (.int y), some (.int w)], by simp, by simp [d, m1, m2, rowOf], by simp [rowOf]⟩
  have rows : rowsE ((ps.map fun p => rowOf u (vD p)).map tupI) = some (ps.map fun p => rowOf u (vD p)) := by
    refine rowsE_map fun ns m => ?_
    obtain ⟨p, mp', rfl⟩ := List.mem_map.mp m
    obtain ⟨x, y, e, _⟩ := rowOf_B (bp p mp') bu pu
    rw [e]; simp
  have c1 : F_chain [.lst (R.map tupI)] = _ := fm_chain (nss := R) (by omega) two12
  have c2 : F_chain [.lst (R.reverse.map tupI)] = _ := fm_chain (nss := R.reverse) (by simp; omega) (fun r m => two12 r (List.mem_reverse.mp m))
  have lc : lcE P18 (.tp (.cons (.nm 5) (.cons (.nm 6) .nil))) .nil (.fn 15 (.cons (.tup (.cons (.var 5) (.cons (.var 6) (.cons (.var 1) .nil)))) .nil)) [some (.lst (ps.map vD)), some (.int u), o', some (.lst (R.map tupI)), some (.lst ((hulR R).map tupI)), none, none, none] ((hulR R).map tupI) = some ((hulR R).map fun r => vD (toP u r)) := by
    refine lcM fun r m => ?_
    obtain ⟨x, y, e, bx, by_, e2, _⟩ := row_back pu bu9 (two' r (sub r m))
    have dv : DivOk (G3 x y u) := (g3_le pu bu9).divOk (by have := g3_pos (a := x) (b := y) (c := u) (.inr (.inr (by omega))); omega) (by omega)
    have fl := f_lowest3 dv
    rw [e2] at fl
    subst e
    exact ⟨[some (.lst (ps.map vD)), some (.int u), o', some (.lst (R.map tupI)), some (.lst ((hulR R).map tupI)), some (.int x), some (.int y), none], by simp, by simp [fl]⟩
  have fin : pD (hullQ ps) = .tup ((hulR R).map fun r => vD (toP u r)) := by
    rw [← eh, pD, List.map_map]
    rfl
  have hl : (hulR R).length ≤ 2000 := by
    unfold hulR
    have l1 := chG_len (left := left2) R
    have l2 := chG_len (left := left2) R.reverse
    simp at l2
    split
    · omega
    · simp; omega
  rw [fin]
  have lR2 : (hulR R).length ≤ 16777216 := by omega
  unfold F_hull c_hull
  refine evDef_of ?_ rfl
  refine run_nx (σ' := [some (.lst (ps.map vD)), some (.int 1), none, none, none, none, none, none]) (by simp) ?_
  refine run_nx (σ' := [some (.lst (ps.map vD)), some (.int u), o', none, none, none, none, none]) (by simp only [evS_for, evI, ev_var]; exact e1) ?_
  refine run_nx (σ' := [some (.lst (ps.map vD)), some (.int u), o', some (.lst (R.map tupI)), none, none, none, none]) ?_ ?_
  · have : ev P18 [some (.lst (ps.map vD)), some (.int u), o', none, none, none, none, none] (.srtC false (.tp (.cons (.nm 5) (.cons (.nm 6) (.cons (.nm 7) .nil)))) (.seq (.var 0)) (.tup (.cons (.bin .Mult false (.var 5) (.bin .FloorDiv false (.var 1) (.var 7))) (.cons (.bin .Mult false (.var 6) (.bin .FloorDiv false (.var 1) (.var 7))) .nil))) [("x", 5), ("y", 6), ("w", 7)]) = some (.lst (R.map tupI)) := by
      have ei : evI P18 [some (.lst (ps.map vD)), some (.int u), o', none, none, none, none, none] (.seq (.var 0)) = some (ps.map vD) := by simp [evI]
      rw [ev_srtC, if_neg (by decide), ei, Option.bind_some, if_pos (by simpa using l64)]
      show (scE P18 _ _ [some (.lst (ps.map vD)), some (.int u), o', none, none, none, none, none] _).bind _ = _
      rw [sc, Option.bind_some, rows, Option.map_some, eR]
    rw [evS_asg, this]
    rfl
  refine run_nx (σ' := [some (.lst (ps.map vD)), some (.int u), o', some (.lst (R.map tupI)), some (.lst ((hulR R).map tupI)), none, none, none]) ?_ ?_
  · by_cases hR : R.length = 1
    · simp [hR, hulR]
    · have hR' : ¬ ((R.length : Int) = 1) := by omega
      have l1 := chG_len (left := left2) R
      have l2 := chG_len (left := left2) R.reverse
      simp only [List.length_reverse] at l2
      rw [List.map_reverse] at c2
      have hz : (chG left2 R).length - 1 + ((chG left2 R.reverse).length - 1) ≤ 16777216 := by omega
      simp [hR, hR', hulR, c1, c2, cut_last, List.map_dropLast, hz]
  refine run_rt ?_
  rw [evS_ret, ev_bi]
  simp [lc, lR2, evI]
theorem f_is_whole (x : Int) : F_is_whole [.int x] = some (.bl true) := by simp [F_is_whole, c_is_whole]
theorem f_whole3 (a b c : Int) : F_are_wholes [V3 a b c, .int 3] = some (.bl true) := by simp [F_are_wholes, c_are_wholes, f_is_whole]
theorem f_whole2 (a b : Int) : F_are_wholes [V2 a b, .int 2] = some (.bl true) := by simp [F_are_wholes, c_are_wholes, f_is_whole]
theorem f_is_lowest3 {a b c : Int} (h : G3 a b c = 1) : F_is_lowest [V3 a b c] = some (.bl true) := by simp [F_is_lowest, c_is_lowest, f_gcd3, h]
theorem f_is_vector {n : Nat} {x y w : Int} (v : Vc n x y w) : F_is_vector [V3 x y w] = some (.bl true) := by simp [F_is_vector, c_is_vector, f_whole3, f_is_lowest3 v.lo, v.pos]
theorem f_is_vec (p : Pt) : F_is_vector [vD p] = some (.bl true) := by
  obtain ⟨n, h⟩ := vD_ex p
  obtain ⟨x, y, w, e, v, _⟩ := h.v
  rw [e]
  exact f_is_vector v
theorem f_is_shape {P : PL} {n : Nat} (c : Can P) (l64 : P.length < 64) (bp : ∀ p ∈ P, Bp n p) (hb : n * (P.length + 1) < 8900) : F_is_shape [pD P] = some (.bl true) := by
  have e0 : eqE false (pD P) (.tup []) = some (.bl false) := by
    rw [eqE_pur false (pur_pD P) rfl (by have := dep_pD P; omega) (by decide)]
    have : pD P ≠ .tup [] := by
      intro h
      simp only [pD, D.tup.injEq, List.map_eq_nil_iff] at h
      exact c.ne h
    simp [this]
  have e1 : eqE false (pD P) (pD P) = some (.bl true) := by
    rw [eqE_pur false (pur_pD P) (pur_pD P) (by have := dep_pD P; omega) (by have := dep_pD P; omega)]
    simp
  have e2 := f_hull c.ne l64 bp hb
  rw [hullQ_self c] at e2
  have lc : lcE P23 (.nm 1) .nil (.fn 22 (.cons (.var 1) .nil)) [some (pD P), none] (P.map vD) = some (P.map fun _ => .bl true) := lcM fun p m => ⟨[some (pD P), some (vD p)], by simp, by simp [f_is_vec]⟩
  have l2 : P.length ≤ 16777216 := by omega
  simp [F_is_shape, c_is_shape, e0, e1, e2, lc, blsM, l2]
theorem f_value {n m : Nat} {s : Pt × Rat} {p : Pt} (hs : Bs n s) (hp : Bp m p) (l : n + m < 100000) : ∃ i : Int, F_value_at [sD s, vD p] = some (.int i) ∧ (i ≤ 0 ↔ dot s.1 p ≤ s.2) ∧ (i < 0 ↔ dot s.1 p < s.2) ∧ B (n + m + 2) i := by
  obtain ⟨x, y, w, e, pw, bx, by_, bw, hx, hy, _⟩ := pt_ints hp
  obtain ⟨a, b, k, t, e', ba, bb, bk, hl, h1, h2, h3, _⟩ := sd_ints hs
  have v := side_value hs hp e' e
  have m1 := ba.mulOk bx (by omega)
  have m2 := bb.mulOk by_ (by omega)
  have m3 := bk.mulOk bw (by omega)
  exact ⟨_, by rw [e, sD, e']; simp [F_value_at, c_value_at, m1, m2, m3], v⟩
open Classical in
theorem f_are_held {n m : Nat} {S : List (Pt × Rat)} {p : Pt} (hS : ∀ s ∈ S, Bs n s) (hp : Bp m p) (l : n + m < 100000) (ls : S.length < 10000) : F_are_held [.tup (S.map sD), vD p] = some (.bl (decide (Held S p))) := by
  have lc : lcE P25 (.nm 2) .nil (.cmp .LtE (.fn 24 (.cons (.var 2) (.cons (.var 1) .nil))) (.cst (.int 0))) [some (.tup (S.map sD)), some (vD p), none] (S.map sD) = some (S.map fun s => .bl (decide (dot s.1 p ≤ s.2))) := lcM fun s ms => by
    obtain ⟨i, e, h1, _⟩ := f_value (hS s ms) hp l
    exact ⟨[some (.tup (S.map sD)), some (vD p), some (sD s)], by simp, by simp [e, h1]⟩
  have l2 : S.length ≤ 16777216 := by omega
  have ea : (S.all fun s => decide (dot s.1 p ≤ s.2)) = decide (Held S p) := by
    rw [Bool.eq_iff_iff]
    simp [Held]
  simp [F_are_held, c_are_held, evI, lc, l2, blsM, Function.comp_def, ea]
theorem f_step {n m : Nat} {p q : Pt} (hp : Bp n p) (hq : Bp m q) (l : n + m < 100000) : ∃ (u v : Int) (k : Rat), F_step_between [vD p, vD q] = some (V2 u v) ∧ (u : Rat) = k * (q.x - p.x) ∧ (v : Rat) = k * (q.y - p.y) ∧ B (n + m + 1) u ∧ B (n + m + 1) v ∧ 0 < k := by
  obtain ⟨x, y, w, e, pw, bx, by_, bw, hx, hy, _⟩ := pt_ints hp
  obtain ⟨x', y', w', e', pw', bx', by', bw', hx', hy', _⟩ := pt_ints hq
  obtain ⟨h1, h2, h3, h4, h5⟩ := step_ints hp hq e e'
  have m1 := bx'.mulOk bw (by omega)
  have m2 := bx.mulOk bw' (by omega)
  have m3 := by'.mulOk bw (by omega)
  have m4 := by_.mulOk bw' (by omega)
  exact ⟨_, _, _, by rw [e, e']; simp [F_step_between, c_step_between, m1, m2, m3, m4], h1, h2, h3, h4, h5⟩
theorem f_side_at {n m : Nat} {a b : Int} {p N : Pt} {k : Rat} (hab : a ≠ 0 ∨ b ≠ 0) (ba : B n a) (bb : B n b) (hp : Bp m p) (hk : 0 < k) (h1 : (a : Rat) = k * N.x) (h2 : (b : Rat) = k * N.y) (l : n + m < 8000) :
    F_side_at [V2 a b, vD p] = some (sD (sideQ N p)) ∧ Bs (n + m + 1) (sideQ N p) := by
  obtain ⟨x, y, w, e, pw, bx, by_, bw, hx, hy, _⟩ := pt_ints hp
  have k := mk_side hab ba bb hp hk h1 h2 e
  have m1 := ba.mulOk bw (by omega)
  have m2 := bb.mulOk bw (by omega)
  have m3 := ba.mulOk bx (by omega)
  have m4 := bb.mulOk by_ (by omega)
  have nz : a * w ≠ 0 ∨ b * w ≠ 0 ∨ a * x + b * y ≠ 0 := by
    rcases hab with z | z
    · exact .inl (Int.mul_ne_zero z (by omega))
    · exact .inr (.inl (Int.mul_ne_zero z (by omega)))
  have dv : DivOk (G3 (a * w) (b * w) (a * x + b * y)) := by
    have g0 := g3_pos nz
    have gB : B (n + m) (G3 (a * w) (b * w) (a * x + b * y)) := by
      rcases hab with z | z
      · have d := g3_d1 (a * w) (b * w) (a * x + b * y)
        exact B.nat (Nat.lt_of_le_of_lt (Nat.le_of_dvd (by have := Int.mul_ne_zero z (show w ≠ 0 by omega); omega) (Int.ofNat_dvd_left.mp d)) (ba.mul bw))
      · have d := g3_d2 (a * w) (b * w) (a * x + b * y)
        exact B.nat (Nat.lt_of_le_of_lt (Nat.le_of_dvd (by have := Int.mul_ne_zero z (show w ≠ 0 by omega); omega) (Int.ofNat_dvd_left.mp d)) (bb.mul bw))
    exact gB.divOk (by omega) (by omega)
  refine ⟨?_, k.2⟩
  rw [e]
  have fl := f_lowest3 dv
  rw [k.1] at fl
  simp [F_side_at, c_side_at, m1, m2, m3, m4, fl, sideQ]
theorem f_side_left {n m : Nat} {p q : Pt} (hp : Bp n p) (hq : Bp m q) (ne : p ≠ q) (l : 2 * n + m < 7000) : F_side_left [vD p, vD q] = some (sD (sideQ (outer p q) p)) ∧ Bs (2 * n + m + 2) (sideQ (outer p q) p) := by
  obtain ⟨u, v, k, e, h1, h2, b1, b2, hk⟩ := f_step hp hq (by omega)
  have nz := step_ne ne hk h1 h2
  have := f_side_at (a := v) (b := -u) (N := outer p q) (by omega) b2 b1.neg hp hk (by rw [h2]; rfl) (by push_cast; rw [h1]; unfold outer; grind) (by omega)
  exact ⟨by simp [F_side_left, c_side_left, e, this.1], this.2.mono (by omega)⟩
theorem f_next {P : PL} {i : Nat} (h : i < P.length) : F_next_corner [pD P, .int i] = some (vD (ntp P ((i + 1) % P.length))) := by
  by_cases z : i + 1 < P.length
  · have a := at_ntp (f := vD) (l := P) z
    have z' : ((i : Int) + 1 < P.length) := by omega
    rw [Nat.mod_eq_of_lt z]
    have a : atI (P.map vD) ((i : Int) + 1) = some (vD (ntp P (i + 1))) := a
    simp [F_next_corner, c_next_corner, z', a, -atI_def]
  · have z2 : i + 1 = P.length := by omega
    have a : atI (P.map vD) 0 = some (vD (ntp P 0)) := at_ntp (f := vD) (l := P) (i := 0) (by omega)
    have z' : ¬ ((i : Int) + 1 < P.length) := by omega
    rw [z2, Nat.mod_self]
    simp [F_next_corner, c_next_corner, z', a, -atI_def]
/-- bounds of the sides of a polygon -/
theorem f_sides {P : PL} {n : Nat} (c : Can P) (l64 : P.length < 1000) (bp : ∀ p ∈ P, Bp n p) (hb : n < 2000) : F_sides [pD P] = some (.tup ((sidesQ P).map sD)) ∧ ∀ s ∈ sidesQ P, Bs (3 * n + 3) s := by
  match P, c, bp with
  | [], c, _ => exact absurd rfl c.ne
  | [p], c, bp =>
    have hp := bp p (by simp)
    have one : ∀ a b : Int, a ≠ 0 ∨ b ≠ 0 → B 1 a → B 1 b → _ := fun a b h h1 h2 => f_side_at (p := p) (N := ⟨a, b⟩) (k := 1) h h1 h2 hp (by decide) (by grind) (by grind) (by omega)
    have s1 := one 1 0 (by decide) (by unfold B; decide) (by unfold B; decide)
    have s2 := one 0 1 (by decide) (by unfold B; decide) (by unfold B; decide)
    have s3 := one (-1) 0 (by decide) (by unfold B; decide) (by unfold B; decide)
    have s4 := one 0 (-1) (by decide) (by unfold B; decide) (by unfold B; decide)
    have e1 : ((-1 : Int) : Rat) = -1 := by norm_cast
    have e2 : ((1 : Int) : Rat) = 1 := by norm_cast
    have e3 : ((0 : Int) : Rat) = 0 := by norm_cast
    rw [e2, e3] at s1
    rw [e2, e3] at s2
    rw [e1, e3] at s3
    rw [e1, e3] at s4
    refine ⟨?_, ?_⟩
    · simp [F_sides, c_sides, s1.1, s2.1, s3.1, s4.1, sidesQ, evI]
    · intro s m
      simp only [sidesQ, List.mem_cons, List.not_mem_nil, or_false] at m
      rcases m with rfl | rfl | rfl | rfl
      · exact s1.2.mono (by omega)
      · exact s2.2.mono (by omega)
      · exact s3.2.mono (by omega)
      · exact s4.2.mono (by omega)
  | [p, q], c, bp =>
    have hp := bp p (by simp)
    have hq := bp q (by simp)
    have ne : p ≠ q := fun e => by have := c.fst p [q] rfl q (by simp); rw [e] at this; exact lt_irr this
    obtain ⟨u, v, k, e, h1, h2, b1, b2, hk⟩ := f_step hp hq (by omega)
    have nz := step_ne ne hk h1 h2
    have s1 := f_side_at (a := v) (b := -u) (N := ⟨q.y - p.y, -(q.x - p.x)⟩) (by omega) b2 b1.neg hp hk (by rw [h2]) (by push_cast; rw [h1]; grind) (by omega)
    have s2 := f_side_at (a := u) (b := v) (N := ⟨q.x - p.x, q.y - p.y⟩) (by omega) b1 b2 hq hk (by rw [h1]) (by rw [h2]) (by omega)
    have s3 := f_side_at (a := -v) (b := u) (N := ⟨-(q.y - p.y), q.x - p.x⟩) (by omega) b2.neg b1 hq hk (by push_cast; rw [h2]; grind) (by rw [h1]) (by omega)
    have s4 := f_side_at (a := -u) (b := -v) (N := ⟨-(q.x - p.x), -(q.y - p.y)⟩) (by omega) b1.neg b2.neg hp hk (by push_cast; rw [h1]; grind) (by push_cast; rw [h2]; grind) (by omega)
    refine ⟨?_, ?_⟩
    · simp [F_sides, c_sides, e, s1.1, s2.1, s3.1, s4.1, sidesQ]
    · intro s m
      simp only [sidesQ, List.mem_cons, List.not_mem_nil, or_false] at m
      rcases m with rfl | rfl | rfl | rfl
      · exact s1.2.mono (by omega)
      · exact s2.2.mono (by omega)
      · exact s3.2.mono (by omega)
      · exact s4.2.mono (by omega)
  | p :: q :: r :: t, c, bp =>
    have l3 : 3 ≤ (p :: q :: r :: t).length := by simp
    rw [sidesQ3 l3]
    generalize p :: q :: r :: t = P at *
    have hi : ∀ i, i < P.length → F_side_left [vD (ntp P i), vD (ntp P ((i + 1) % P.length))] = some (sD (sideQ (outer (ntp P i) (ntp P ((i + 1) % P.length))) (ntp P i))) ∧ Bs (3 * n + 2) (sideQ (outer (ntp P i) (ntp P ((i + 1) % P.length))) (ntp P i)) := by
      intro i h
      have m := edg_ne c (by omega) (List.mem_map.mpr ⟨i, List.mem_range.mpr h, rfl⟩ : (ntp P i, ntp P ((i + 1) % P.length)) ∈ edg P)
      have := f_side_left (bp _ m.2.1) (bp _ m.2.2) m.1 (by omega)
      exact ⟨this.1, this.2.mono (by omega)⟩
    have lc : lcE P30 (.tp (.cons (.nm 6) (.cons (.nm 7) .nil))) .nil (.fn 28 (.cons (.var 7) (.cons (.fn 29 (.cons (.var 0) (.cons (.var 6) .nil))) .nil))) [some (pD P), none, none, none, none, none, none, none] (enumD 0 (P.map vD)) = some ((List.range P.length).map fun i => sD (sideQ (outer (ntp P i) (ntp P ((i + 1) % P.length))) (ntp P i))) := by
      have := enum_map (f := vD) P 0
      rw [show ((0 : Nat) : Int) = 0 from rfl] at this
      rw [this]
      refine lcM fun i m => ?_
      have h := List.mem_range.mp m
      have n1 := f_next (P := P) h
      refine ⟨[some (pD P), none, none, none, none, none, some (.int (i : Int)), some (vD (ntp P i))], by simp, by simp [n1, (hi i h).1]⟩
    have l2 : P.length ≤ 16777216 := by omega
    have z1 : ¬ ((P.length : Int) = 1) := by omega
    have z2 : ¬ ((P.length : Int) = 2) := by omega
    refine ⟨?_, ?_⟩
    · have el : (enumD 0 (P.map vD)).length ≤ 16777216 := by
        have := enum_map (f := vD) P 0
        rw [show ((0 : Nat) : Int) = 0 from rfl] at this
        rw [this]; simp; omega
      simp [F_sides, c_sides, z1, z2, evI, lc, el, edg, List.map_map, Function.comp_def]
    · intro s m
      obtain ⟨e, me, rfl⟩ := List.mem_map.mp m
      obtain ⟨i, h, rfl⟩ := List.mem_map.mp me
      exact (hi i (List.mem_range.mp h)).2.mono (by omega)
open Classical in
theorem f_has {P : PL} {n m : Nat} {p : Pt} (c : Can P) (l : P.length < 1000) (bp : ∀ p ∈ P, Bp n p) (hb : n < 2000) (hp : Bp m p) (hm : m < 80000) : F_has [pD P, vD p] = some (.bl (decide (In P p))) := by
  obtain ⟨e1, b1⟩ := f_sides c l bp hb
  have ls : (sidesQ P).length < 10000 := by
    match P, c with
    | [], c => exact absurd rfl c.ne
    | [_], _ => simp [sidesQ]
    | [_, _], _ => simp [sidesQ]
    | _ :: _ :: _ :: _, _ => simp [sidesQ, edg]; simp at l; omega
  have e2 := f_are_held b1 hp (by omega) ls
  have e3 : decide (Held (sidesQ P) p) = decide (In P p) := by simp only [held_in c]
  simp [F_has, c_has, e1, e2, e3]
theorem f_is_sailed {P : PL} {n : Nat} (f : Fig n P) : F_is_sailed [pD P] = some (.bl true) := by
  have e1 := f_is_shape f.can f.l64 f.bp f.sz.1
  have e2 := f_has f.can (by have := f.l64; omega) f.bp f.sz.2 v_o0.2 (by decide)
  rw [← v_o0.1] at e2
  have l : (2 : Int) < (P.length : Int) := by have := f.l3; omega
  simp [F_is_sailed, c_is_sailed, e1, e2, l, f.in0]
theorem f_check_figure {P : PL} {n : Nat} (f : Fig n P) : F_check_figure [pD P] = some .non := by
  simp [F_check_figure, c_check_figure, f_is_sailed f]
open Classical in
theorem f_within {P Q : PL} {n m : Nat} (f : Fig n P) (bq : ∀ q ∈ Q, Bp m q) (lq : Q.length < 1000) (hn : 3 * n + m < 1000) : ∃ b : Bool, F_within [pD Q, pD P] = some (.bl b) ∧ (b = true ↔ ∀ q ∈ Q, In P q) := by
  obtain ⟨e1, bs⟩ := f_sides f.can (by have := f.l64; omega) f.bp f.sz.2
  have ls := sides_len f.can.ne
  have l64 := f.l64
  have lc : lcE P35 (.nm 3) .nil e0_within [some (pD Q), some (pD P), some (.tup ((sidesQ P).map sD)), none] (Q.map vD) = some (Q.map fun q => .bl (decide (Held (sidesQ P) q))) := lcM fun q mq => by
    have := f_are_held (n := 3 * n + 3) bs (bq q mq) (by omega) (by omega)
    exact ⟨[some (pD Q), some (pD P), some (.tup ((sidesQ P).map sD)), some (vD q)], by simp, by simp [this]⟩
  have x1 := ev_lcf (Φ := P35) (m := false) (it := .seq (.var 0)) (own := [("corner", 3)]) (σ := [some (pD Q), some (pD P), some (.tup ((sidesQ P).map sD)), none]) rfl (by simp) (by rw [List.length_map]; simp; omega) lc
  refine ⟨Q.all fun q => decide (Held (sidesQ P) q), ?_, ?_⟩
  · unfold F_within c_within
    refine evDef_of ?_ rfl
    refine run_nx (σ' := [some (pD Q), some (pD P), some (.tup ((sidesQ P).map sD)), none]) (by simp [e1]) ?_
    refine run_rt ?_
    rw [evS_ret, ev_bi, evA, x1]
    simp [blsM]
  · rw [List.all_eq_true]
    exact ⟨fun h q mq => (held_in f.can).mp (of_decide_eq_true (h q mq)), fun h q mq => decide_eq_true ((held_in f.can).mpr (h q mq))⟩
theorem f_check_polygon {P : PL} {n : Nat} (c : Can P) (l64 : P.length < 64) (bp : ∀ p ∈ P, Bp n p) (hb : n * (P.length + 1) < 8900) : F_check_polygon [pD P] = some .non := by
  simp [F_check_polygon, c_check_polygon, f_is_shape c l64 bp hb]
theorem f_lunder {n m : Nat} {r s : Rat} (hr : Bf n r) (hs : Bf m s) (l : n + m < 100000) : F_law_under [fD r, fD s] = some (.bl (decide (r < s))) := by
  have m1 := hr.1.mulOk hs.2 (by omega)
  have m2 := hs.1.mulOk hr.2 (by omega)
  simp [F_law_under, c_law_under, fD, m1, m2, rat_lt_ints]
theorem f_check_point (p : Pt) : F_check_point [vD p] = some .non := by simp [F_check_point, c_check_point, f_is_vec]
theorem f_is_lower {n m : Nat} {r s : Rat} (hr : Bf n r) (hs : Bf m s) (l : n + m < 100000) : F_is_lower [fD r, fD s] = some (.bl (decide (r < s))) := by
  have m1 := hr.1.mulOk hs.2 (by omega)
  have m2 := hs.1.mulOk hr.2 (by omega)
  simp [F_is_lower, c_is_lower, fD, m1, m2, rat_lt_ints]
theorem f_higher_of {n m : Nat} {r s : Rat} (hr : Bf n r) (hs : Bf m s) (l : n + m < 100000) : F_higher_of [fD r, fD s] = some (fD (if r < s then s else r)) := by
  have f := f_is_lower hr hs l
  by_cases z : r < s
  · simp [F_higher_of, c_higher_of, f, z]
  · simp [F_higher_of, c_higher_of, f, z]
theorem f_ratio {n : Nat} {a c : Int} {r : Rat} (hc : 0 < c) (ba : B n a) (bc : B n c) (h : (a : Rat) = r * c) (l : n < 8900) : F_ratio [.int a, .int c] = some (fD r) ∧ Bf n r := by
  have k := isF_iff.mp (isF_low hc ba bc h)
  have gl : B n (G2 a c) := by
    refine B.nat ?_
    have : G2 a c ≤ c.natAbs := Nat.le_of_dvd (by omega) (Nat.gcd_dvd_right _ _)
    unfold B at bc
    omega
  have dv : DivOk (G2 a c) := gl.divOk (by have := g2_pos (a := a) (b := c) (.inr (by omega)); omega) (by omega)
  have e : low2T a c = fD r := k.1
  refine ⟨?_, k.2⟩
  simp [F_ratio, c_ratio, hc, f_lowest2 dv, e]
abbrev tBody : CSs := (.cons (.asg (.nm 6) (.bin .Add false (.bin .Mult false (.var 3) (.idx (.var 1) (.cst (.int 0)))) (.bin .Mult false (.var 4) (.idx (.var 1) (.cst (.int 1)))))) (.cons (.ife (.con .And (.cons (.cmp .Eq (.var 5) (.cst (.int 0))) (.cons (.cmp .Gt (.var 6) (.cst (.int 0))) .nil))) (.cons (.ret (.cst .none)) .nil) .nil) (.cons (.ife (.cmp .Gt (.var 5) (.cst (.int 0))) (.cons (.asg (.nm 2) (.fn 44 (.cons (.var 2) (.cons (.fn 45 (.cons (.var 6) (.cons (.bin .Mult false (.var 5) (.idx (.var 1) (.cst (.int 2)))) .nil))) .nil)))) .nil) .nil) .nil)))
abbrev tS (L : D) (v : Pt) (b : Rat) (o3 o4 o5 o6 : Option D) : ASt := [some L, some (vD v), some (fD b), o3, o4, o5, o6]
theorem time_turn {L : D} {v : Pt} {n m : Nat} {s : Pt × Rat} {pre : List (Pt × Rat)} {b : Rat} (hs : Bs n s) (hv : Bp m v) (h0 : 0 ≤ s.2) (hb : Best pre v (2 * n + 2 * m + 4) b) (hn : n + m < 2000) (o3 o4 o5 o6 : Option D) :
    (s.2 = 0 ∧ 0 < dot s.1 v ∧ (evP (.tp (.cons (.nm 3) (.cons (.nm 4) (.cons (.nm 5) .nil)))) (sD s) (tS L v b o3 o4 o5 o6)).bind (evSs P46 tBody) = some (.rt .non)) ∨ (¬ (s.2 = 0 ∧ 0 < dot s.1 v) ∧ ∃ b' q3 q4 q5 q6, (evP (.tp (.cons (.nm 3) (.cons (.nm 4) (.cons (.nm 5) .nil)))) (sD s) (tS L v b o3 o4 o5 o6)).bind (evSs P46 tBody) = some (.nx (tS L v b' q3 q4 q5 q6)) ∧ Best (pre ++ [s]) v (2 * n + 2 * m + 4) b') := by
  obtain ⟨A, B', H, l, es, bA, bB, bH, hl, h1, h2, h3, _⟩ := sd_ints hs
  obtain ⟨x, y, w, ev', pw, bx, by_, bw, hX, hY, _⟩ := pt_ints hv
  have wr := ratpos pw
  have m1 := bA.mulOk bx (by omega)
  have m2 := bB.mulOk by_ (by omega)
  have m3 := bH.mulOk bw (by omega)
  have g := sign3 (i := A * x + B' * y) (d := dot s.1 v) (k := l * w) (by push_cast; rw [h1, h2, hX, hY]; unfold dot; grind) (mp hl wr)
  have hh := sign3 (i := H) (d := s.2) (k := l) h3 hl
  have bg : B (n + m + 1) (A * x + B' * y) := (bA.mul bx).add (bB.mul by_)
  by_cases z : s.2 = 0 ∧ 0 < dot s.1 v
  · refine .inl ⟨z.1, z.2, ?_⟩
    have z1 := hh.1.mpr z.1
    have z2 := g.2.1.mpr z.2
    rw [show sD s = V3 A B' H from es, tS, ev']
    simp [m1, m2, z1, z2]
  · refine .inr ⟨z, ?_⟩
    have t1 : ¬ (H = 0 ∧ 0 < A * x + B' * y) := fun q => z ⟨hh.1.mp q.1, g.2.1.mp q.2⟩
    by_cases c : 0 < s.2
    · have c' := hh.2.1.mpr c
      have H0 : ¬ H = 0 := by omega
      have cn : s.2 ≠ 0 := by grind
      have e0 : dot s.1 v / s.2 * s.2 = dot s.1 v := by grind
      have r := f_ratio (n := n + m + 1) (a := A * x + B' * y) (c := H * w) (r := dot s.1 v / s.2) (Int.mul_pos c' pw) bg ((bH.mul bw).mono (by omega)) (by push_cast; rw [h1, h2, h3, hX, hY]; have : dot s.1 v = s.1.x * v.x + s.1.y * v.y := rfl; grind) (by omega)
      have hi := f_higher_of hb.bd r.2 (by omega)
      refine ⟨if b < dot s.1 v / s.2 then dot s.1 v / s.2 else b, some (.int A), some (.int B'), some (.int H), some (.int (A * x + B' * y)), ?_, ?_⟩
      · rw [show sD s = V3 A B' H from es, tS, tS, ev']
        simp [m1, m2, m3, H0, c', r.1, hi]
      · refine ⟨?_, ?_, ?_, ?_⟩
        · have := hb.nn; split <;> grind
        · intro q mq qp
          rcases List.mem_append.mp mq with mq | mq
          · have a := hb.le q mq qp
            split
            · have := mn (a := dot s.1 v / s.2 - b) (b := q.2) (by grind) (Rat.le_of_lt qp)
              grind
            · exact a
          · rw [List.mem_singleton.mp mq]
            split
            · rw [e0]; exact Rat.le_refl
            · have := mn (a := b - dot s.1 v / s.2) (b := s.2) (by grind) (Rat.le_of_lt c)
              grind
        · split
          · exact .inr ⟨s, by simp, c, e0.symm⟩
          · exact hb.at_.imp id fun ⟨q, mq, qp, e⟩ => ⟨q, by simp [mq], qp, e⟩
        · split
          · exact ⟨r.2.1.mono (by omega), r.2.2.mono (by omega)⟩
          · exact hb.bd
    · have sz : s.2 = 0 := by grind
      have H0 : H = 0 := hh.1.mpr sz
      have gz : ¬ 0 < A * x + B' * y := fun q => t1 ⟨H0, q⟩
      refine ⟨b, some (.int A), some (.int B'), some (.int H), some (.int (A * x + B' * y)), ?_, hb.nn, ?_, hb.at_.imp id fun ⟨q, mq, qp, e⟩ => ⟨q, by simp [mq], qp, e⟩, hb.bd⟩
      · rw [show sD s = V3 A B' H from es, tS, tS, ev']
        simp [m1, m2, H0, gz]
      · intro q mq qp
        rcases List.mem_append.mp mq with mq | mq
        · exact hb.le q mq qp
        · rw [List.mem_singleton.mp mq] at qp
          grind
theorem time_loop {L : D} {v : Pt} {n m : Nat} {S : List (Pt × Rat)} (hs : ∀ s ∈ S, Bs n s) (hv : Bp m v) (h0 : ∀ s ∈ S, 0 ≤ s.2) (hn : n + m < 2000) : ∀ (post pre : List (Pt × Rat)) (b : Rat) (o3 o4 o5 o6 : Option D), S = pre ++ post → Best pre v (2 * n + 2 * m + 4) b →
    ((∃ s ∈ post, s.2 = 0 ∧ 0 < dot s.1 v) ∧ forE P46 (.tp (.cons (.nm 3) (.cons (.nm 4) (.cons (.nm 5) .nil)))) tBody (post.map sD) (tS L v b o3 o4 o5 o6) = some (.rt .non)) ∨ ((¬ ∃ s ∈ post, s.2 = 0 ∧ 0 < dot s.1 v) ∧ ∃ b' o3' o4' o5' o6', forE P46 (.tp (.cons (.nm 3) (.cons (.nm 4) (.cons (.nm 5) .nil)))) tBody (post.map sD) (tS L v b o3 o4 o5 o6) = some (.nx (tS L v b' o3' o4' o5' o6')) ∧ Best S v (2 * n + 2 * m + 4) b')
  | [], pre, b, o3, o4, o5, o6, e, hb => by
    rw [List.append_nil] at e
    subst e
    exact .inr ⟨by simp, b, o3, o4, o5, o6, rfl, hb⟩
  | s :: post, pre, b, o3, o4, o5, o6, e, hb => by
    have ms : s ∈ S := by rw [e]; simp
    rcases time_turn (L := L) (hs s ms) hv (h0 s ms) hb hn o3 o4 o5 o6 with ⟨z1, z2, z3⟩ | ⟨z1, b', p3, p4, p5, p6, z2, z3⟩
    · refine .inl ⟨⟨s, List.mem_cons_self, z1, z2⟩, ?_⟩
      rw [List.map_cons, forE_cons, z3]
      rfl
    · rcases time_loop (L := L) hs hv h0 hn post (pre ++ [s]) b' p3 p4 p5 p6 (by rw [e]; simp) z3 with ⟨⟨q, mq, y⟩, w⟩ | ⟨y, w⟩
      · refine .inl ⟨⟨q, List.mem_cons_of_mem _ mq, y⟩, ?_⟩
        rw [List.map_cons, forE_cons, z2]
        exact w
      · refine .inr ⟨?_, ?_⟩
        · rintro ⟨q, mq, u⟩
          rcases List.mem_cons.mp mq with rfl | mq
          · exact z1 u
          · exact y ⟨q, mq, u⟩
        · obtain ⟨b2, q3, q4, q5, q6, w1, w2⟩ := w
          exact ⟨b2, q3, q4, q5, q6, by rw [List.map_cons, forE_cons, z2]; exact w1, w2⟩
theorem f_time_by {P : PL} {n m : Nat} (f : Fig n P) {v : Pt} (hv : Bp m v) (hn : 3 * n + m < 1900) : F_time_by [.tup ((sidesQ P).map sD), vD v] = some (oD (timeQ P v)) ∧ Bo (6 * n + 2 * m + 10) (timeQ P v) := by
  obtain ⟨_, bs⟩ := f_sides f.can (by have := f.l64; omega) f.bp f.sz.2
  have z0 : V2 0 1 = fD 0 := rfl
  rcases time_loop (L := .tup ((sidesQ P).map sD)) (n := 3 * n + 3) bs hv (fun s ms => side_nn f.can f.in0 ms) (by omega) (sidesQ P) [] 0 none none none none rfl ⟨Rat.le_refl, by simp, .inl rfl, bf0⟩ with ⟨⟨s, ms, y⟩, w⟩ | ⟨y, b, o3, o4, o5, o6, w, hb⟩
  · have e : timeQ P v = none := timeQ_eq f.can f.in0 ⟨s, ms, y⟩
    rw [e]
    refine ⟨?_, trivial⟩
    unfold F_time_by c_time_by
    refine evDef_of ?_ rfl
    refine run_nx (σ' := tS (.tup ((sidesQ P).map sD)) v 0 none none none none) (by simp [tS, ← z0]) ?_
    exact run_rt (by rw [evS_for, evI_seq, ev_var]; exact w)
  · have e := best_end f.can f.in0 hb y
    rw [e]
    refine ⟨?_, ⟨hb.bd.1.mono (by omega), hb.bd.2.mono (by omega)⟩⟩
    unfold F_time_by c_time_by
    refine evDef_of ?_ rfl
    refine run_nx (σ' := tS (.tup ((sidesQ P).map sD)) v 0 none none none none) (by simp [tS, ← z0]) ?_
    refine run_nx (σ' := tS (.tup ((sidesQ P).map sD)) v b o3 o4 o5 o6) (by rw [evS_for, evI_seq, ev_var]; exact w) ?_
    exact run_rt (by simp [tS, oD])
theorem f_lpart {n : Nat} {a c : Int} {r : Rat} (hc : 0 < c) (ba : B n a) (bc : B n c) (h : (a : Rat) = r * c) (l : n < 8900) : F_law_part [.int a, .int c] = some (fD r) ∧ Bf n r := by
  have k := isF_iff.mp (isF_low hc ba bc h)
  have e : low2T a c = fD r := k.1
  have fl := f_least2 (divOk2 (a := a) hc bc (by omega))
  rw [e] at fl
  refine ⟨?_, k.2⟩
  have dp : 0 < r.den := r.den_pos
  simp [F_law_part, c_law_part, fl, fD, dp]
theorem vc_law_source : ∀ ds h Q, (Γ 54).2 ds h Q noX → aSs Γ c_law_source { nx := fun _ h' => Q .non h', rt := Q } (ini N_law_source.length ds) h := by
  intro ds h Q q
  have q : sp_law_source ds h Q noX := q
  obtain ⟨ns, t, rfl, t0, t3, l63, post⟩ := q
  have mk : WF.MulOk 977 t := mulLt (by decide) (by omega)
  refine evS_ok gL _ _ (.nx [some (.lst (ns.map D.int)), some (.int t), some (.int (40009 + 977 * t)), none, none]) (by simp [mk]) _ h ?_
  obtain ⟨σ2, e2, m, o, rfl, m0, m1⟩ := forE_inv (Φ := PHI) (p := .nm 3) (b := (.cons (.asg (.nm 2) (.bin .Mod false (.bi .int (.cons (.bin .Add false (.bin .Add false (.bin .Mult false (.var 2) (.cst (.int 52361))) (.bin .Mod false (.bi .int (.cons (.var 3) .nil)) (.cst (.int 998244353)))) (.cst (.int 17))) .nil)) (.cst (.int 1000000007)))) .nil))
    (I := fun σ => ∃ (m : Int) (o : Option D), σ = [some (.lst (ns.map D.int)), some (.int t), some (.int m), o, none] ∧ 0 ≤ m ∧ m < 2147483648) (ds := cutG (ns.map D.int) none (some 63)) (σ := [some (.lst (ns.map D.int)), some (.int t), some (.int (40009 + 977 * t)), none, none]) (by
      rintro d md σ ⟨m, o, rfl, m0, m1⟩
      obtain ⟨c, _, rfl⟩ := List.mem_map.mp (cut_mem md)
      have mk : WF.MulOk m 52361 := mulLt (by omega) (by decide)
      have z0 := Int.emod_nonneg (m * 52361 + c % 998244353 + 17) (by decide : (1000000007 : Int) ≠ 0)
      have z1 := Int.emod_lt_of_pos (m * 52361 + c % 998244353 + 17) (by decide : (0 : Int) < 1000000007)
      exact ⟨[some (.lst (ns.map D.int)), some (.int t), some (.int ((m * 52361 + c % 998244353 + 17) % 1000000007)), some (.int c), none], by simp [mk], _, _, rfl, z0, by omega⟩) ⟨_, _, rfl, by omega, by omega⟩
  refine evS_ok gL _ _ (.nx [some (.lst (ns.map D.int)), some (.int t), some (.int m), o, none]) (by simp [e2]) _ h ?_
  obtain ⟨own, e3, w0⟩ : ∃ own : Int, evS PHI (.asg (.nm 4) (.ife (.cmp .Lt (.var 1) (.bi .len (.cons (.var 0) .nil))) (.bi .abs (.cons (.bi .int (.cons (.idx (.var 0) (.var 1)) .nil)) .nil)) (.cst (.int 0)))) [some (.lst (ns.map D.int)), some (.int t), some (.int m), o, none] = some (.nx [some (.lst (ns.map D.int)), some (.int t), some (.int m), o, some (.int own)]) ∧ 0 ≤ own := by
    by_cases c : t < ns.length
    · have l : t.toNat < ns.length := by omega
      exact ⟨(ns[t.toNat].natAbs : Int), by simp [c, t0, List.getElem?_eq_getElem l], by omega⟩
    · exact ⟨0, by simp [c], by omega⟩
  refine evS_ok gL _ _ _ e3 _ h ?_
  obtain ⟨big, e4, b0⟩ : ∃ big : Int, ev PHI [some (.lst (ns.map D.int)), some (.int t), some (.int m), o, some (.int own)] (.ife (.cmp .GtE (.var 4) (.bin .Pow false (.cst (.int 10)) (.cst (.int 18)))) (.var 4) (.cst (.int 0))) = some (.int big) ∧ 0 ≤ big := by
    by_cases c2 : (1000000000000000000 : Int) ≤ own
    · exact ⟨own, by simp [c2], by omega⟩
    · exact ⟨0, by simp [c2], by omega⟩
  refine ev_ok gL _ _ _ e4 h _ ?_
  have y0 := Int.emod_nonneg own (by decide : (998244353 : Int) ≠ 0)
  have y1 := Int.emod_lt_of_pos own (by decide : (0 : Int) < 998244353)
  have mk3 : WF.MulOk (own % 998244353) 3 := mulLt (by omega) (by decide)
  have z0 := Int.emod_nonneg (m + own % 998244353 * 3) (by decide : (1000000007 : Int) ≠ 0)
  have z1 := Int.emod_lt_of_pos (m + own % 998244353 * 3) (by decide : (0 : Int) < 1000000007)
  have e5 : ev PHI [some (.lst (ns.map D.int)), some (.int t), some (.int m), o, some (.int own)] (.bin .Mod false (.bi .int (.cons (.bin .Add false (.var 2) (.bin .Mult false (.bin .Mod false (.bi .int (.cons (.var 4) .nil)) (.cst (.int 998244353))) (.cst (.int 3)))) .nil)) (.cst (.int 1000000007))) = some (.int ((m + own % 998244353 * 3) % 1000000007)) := by simp [mk3]
  refine ev_ok gL _ _ _ e5 h _ ?_
  exact ⟨by simp, fun p np => post p _ ⟨_, _, _, rfl, b0, z0, by omega, by decide, by decide⟩⟩
theorem vc_law : ∀ ds h Q, (Γ 55).2 ds h Q noX → aSs Γ c_law { nx := fun _ h' => Q .non h', rt := Q } (ini N_law.length ds) h := by
  intro ds h Q q
  have q : spLaw 63 ds h Q noX := q
  obtain ⟨ns, l63, rfl, post⟩ := q
  have er : ∃ r : Int, F_law_rounds [.lst (ns.map D.int)] = some (.int r) ∧ 2 ≤ r ∧ r ≤ 3 := by
    refine ⟨if (if (3 : Int) < ns.length then 3 else (ns.length : Int)) > 2 then (if (3 : Int) < ns.length then 3 else (ns.length : Int)) else 2, by simp [F_law_rounds, c_law_rounds], ?_, ?_⟩
    · split <;> omega
    · split <;> split <;> omega
  obtain ⟨r, er, r2, r3⟩ := er
  unfold c_law
  rw [wp_sc, wp_for]
  simp only [wi_rng1, wp_fn, wp_cons, wp_nil, wp_var]
  refine ⟨_, rfl, rfl, up_F.mpr ⟨_, er, r, rfl, ⟨by omega, by omega⟩, ?_⟩⟩
  have items : ∀ d ∈ rngD 0 r.toNat, ∃ t : Int, d = .int t ∧ 0 ≤ t ∧ t < 3 := by
    intro d m
    unfold rngD at m
    obtain ⟨i, hi, rfl⟩ := List.mem_map.mp m
    have := List.mem_range.mp hi
    exact ⟨_, rfl, by omega, by omega⟩
  refine for_inv (src := ⟨rngD 0 r.toNat, fun _ => True⟩) (I := fun pre σ h' => ∃ o, σ = [some (.lst (ns.map D.int)), o]) ⟨none, rfl⟩ (fun _ _ _ _ => trivial) ?_ ?_
  · rintro pre d pst σ h' e ⟨o, rfl⟩
    obtain ⟨t, rfl, t0, t3⟩ := items d (by rw [show rngD 0 r.toNat = pre ++ d :: pst from e]; simp)
    simp only [wp_nm, wp_sc, wp_if, wp_nt, wp_fn, wp_cons, wp_nil, wp_var]
    refine ⟨_, rfl, _, rfl, rfl, up_of ⟨ns, t, rfl, t0, t3, l63, fun a l s => ⟨rfl, up_of ⟨a, l, rfl, AH.set_same, s, fun h2 => ⟨true, rfl, _, rfl, ?_⟩⟩⟩⟩⟩
    simp only [Bool.not_true, Bool.false_eq_true, if_false, wp_sn]
    exact ⟨_, rfl⟩
  · rintro σ h' ⟨o, rfl⟩
    simp only [wp_sc, wp_ret, wp_cst, cD]
    exact post h'
end K27

open PySem L2
set_option Elab.async false
set_option linter.all false
set_option maxRecDepth 100000
set_option maxHeartbeats 2000000
namespace K27
open PySem PySem.Spec PyProof.Rows L2 WF WV WP
theorem f_check_two {P Q : PL} {n m : Nat} (f : Fig n P) (g : Fig m Q) : F_check_two [pD P, pD Q] = some .non := by
  simp [F_check_two, c_check_two, f_check_figure f, f_check_figure g]
theorem f_never_later {P Q : PL} {n m : Nat} (f : Fig n P) (g : Fig m Q) (hn : 3 * n + m < 1000) : ∃ b : Bool, F_never_later [pD P, pD Q] = some (.bl b) ∧ (b = true ↔ ∀ q ∈ Q, In P q) := by
  obtain ⟨b, e, hb⟩ := f_within f g.bp (by have := g.l64; omega) hn
  exact ⟨b, by simp [F_never_later, c_never_later, f_check_two f g, e], hb⟩
theorem f_lies_inside {P Q : PL} {n m : Nat} (f : Fig n P) (g : Fig m Q) (hn : 3 * n + m < 1000) : ∃ b : Bool, F_lies_inside [pD Q, pD P] = some (.bl b) ∧ (b = true ↔ ∀ q ∈ Q, In P q) := by
  obtain ⟨b, e, hb⟩ := f_within f g.bp (by have := g.l64; omega) hn
  have c1 := f_check_polygon f.can f.l64 f.bp f.sz.1
  have c2 := f_check_polygon g.can g.l64 g.bp g.sz.1
  exact ⟨b, by simp [F_lies_inside, c_lies_inside, c1, c2, e], hb⟩
theorem f_time_of {P : PL} {n m : Nat} (f : Fig n P) {v : Pt} (hv : Bp m v) (hn : 3 * n + m < 1900) : F_time_of [pD P, vD v] = some (oD (timeQ P v)) := by
  obtain ⟨e1, bs⟩ := f_sides f.can (by have := f.l64; omega) f.bp f.sz.2
  simp [F_time_of, c_time_of, f_check_figure f, f_check_point, e1, (f_time_by f hv hn).1]
open Classical in
noncomputable def outB (P : PL) (q : Pt) : Bool := decide (¬ In P q)
open Classical in
theorem f_parting {P Q : PL} {n m : Nat} (f : Fig n P) (g : Fig m Q) (hn : 3 * n + m < 1000) : F_parting_way [pD P, pD Q] = some (oV (Q.find? (outB P))) := by
  have ff := forFind (Φ := P37) (p := .nm 2) (b := b0_parting_way) (g := vD) (t := outB P) (r := vD) (l := Q) (I := fun σ => ∃ o, σ = [some (pD P), some (pD Q), o]) (σ := [some (pD P), some (pD Q), none]) (fun q mq σ ⟨o, e⟩ => by
    subst e
    have hh := f_has f.can (by have := f.l64; omega) f.bp f.sz.2 (g.bp q mq) (by omega)
    by_cases z : In P q
    · have : outB P q = false := by unfold outB; simp [z]
      rw [this, if_neg (by decide)]
      exact ⟨[some (pD P), some (pD Q), some (vD q)], by simp [hh, z], _, rfl⟩
    · have : outB P q = true := by unfold outB; simp [z]
      rw [this, if_pos rfl]
      simp [hh, z]) ⟨none, rfl⟩
  unfold F_parting_way c_parting_way
  refine evDef_of ?_ rfl
  refine run_nx (σ' := [some (pD P), some (pD Q), none]) (by simp [f_check_two f g]) ?_
  cases hf : Q.find? (outB P) with
  | some q =>
    exact run_rt (by rw [evS_for, evI_seq, ev_var]; exact ff.1 q hf)
  | none =>
    obtain ⟨σ', e, o, rfl⟩ := ff.2 hf
    refine run_nx (by rw [evS_for, evI_seq, ev_var]; exact e) ?_
    exact run_rt (by simp [oV])
abbrev legD (l : Pt × Rat) : D := .tup [vD l.1, fD l.2]
def olD (v : Pt) : Option (Pt × Pt) → D
  | none => .non
  | some e => .lst ((legE v e).map legD)
theorem f_legs {P : PL} {n m : Nat} (l3 : 3 ≤ P.length) (l64 : P.length < 64) (bp : ∀ p ∈ P, Bp n p) {v : Pt} (hv : Bp m v) (hn : 2 * n + m < 4000) : F_law_legs [pD P, vD v] = some (olD v ((edg P).find? (isLeg v))) ∧ ∀ e, (edg P).find? (isLeg v) = some e → ∀ l ∈ legE v e, Bf (2 * n + 2 * m + 2) l.2 := by
  obtain ⟨x, y, w, ev', pw, bx, by_, bw, hX, hY, _⟩ := pt_ints hv
  have wr := ratpos pw
  have lr : (List.range P.length).map (fun i : Nat => D.int (i : Int)) = (List.range P.length).map (fun i : Nat => D.int (i : Int)) := rfl
  have step : ∀ i, i < P.length → ∃ (a b u c d s : Int), vD (ntp P i) = V3 a b u ∧ vD (ntp P ((i + 1) % P.length)) = V3 c d s ∧ B n a ∧ B n b ∧ B n u ∧ B n c ∧ B n d ∧ B n s ∧ 0 < u ∧ 0 < s ∧
      (0 < a * d - b * c ↔ 0 < cr (ntp P i) (ntp P ((i + 1) % P.length))) ∧ (0 ≤ x * d - y * c ↔ 0 ≤ cr v (ntp P ((i + 1) % P.length))) ∧ (0 < x * d - y * c ↔ 0 < cr v (ntp P ((i + 1) % P.length))) ∧ (0 ≤ a * y - b * x ↔ 0 ≤ cr (ntp P i) v) ∧ (0 < a * y - b * x ↔ 0 < cr (ntp P i) v) ∧
      (0 < a * d - b * c → F_law_part [.int ((x * d - y * c) * u), .int ((a * d - b * c) * w)] = some (fD (cr v (ntp P ((i + 1) % P.length)) / cr (ntp P i) (ntp P ((i + 1) % P.length)))) ∧ Bf (2 * n + 2 * m + 2) (cr v (ntp P ((i + 1) % P.length)) / cr (ntp P i) (ntp P ((i + 1) % P.length))) ∧
        F_law_part [.int ((a * y - b * x) * s), .int ((a * d - b * c) * w)] = some (fD (cr (ntp P i) v / cr (ntp P i) (ntp P ((i + 1) % P.length)))) ∧ Bf (2 * n + 2 * m + 2) (cr (ntp P i) v / cr (ntp P i) (ntp P ((i + 1) % P.length)))) := by
    intro i hi
    have hj : (i + 1) % P.length < P.length := Nat.mod_lt _ (by omega)
    obtain ⟨a, b, u, e1, pu, ba, bb, bu, ha, hb, _⟩ := pt_ints (bp _ (ntp_mem hi))
    obtain ⟨c, d, s, e2, ps, bc, bd, bs, hc, hd, _⟩ := pt_ints (bp _ (ntp_mem hj))
    generalize ntp P i = p at *
    generalize ntp P ((i + 1) % P.length) = q at *
    have ur := ratpos pu
    have sr := ratpos ps
    have s1 := sign3 (i := a * d - b * c) (d := cr p q) (k := u * s) (by push_cast; rw [ha, hb, hc, hd]; unfold cr; grind) (mp ur sr)
    have s2 := sign3 (i := x * d - y * c) (d := cr v q) (k := w * s) (by push_cast; rw [hX, hY, hc, hd]; unfold cr; grind) (mp wr sr)
    have s3 := sign3 (i := a * y - b * x) (d := cr p v) (k := u * w) (by push_cast; rw [hX, hY, ha, hb]; unfold cr; grind) (mp ur wr)
    refine ⟨a, b, u, c, d, s, e1, e2, ba, bb, bu, bc, bd, bs, pu, ps, s1.2.1, ?_, s2.2.1, ?_, s3.2.1, fun pos => ?_⟩
    · have := s2.2.2
      constructor
      · intro h; have : ¬ cr v q < 0 := fun q' => by have := s2.2.2.mpr q'; omega
        grind
      · intro h; have : ¬ x * d - y * c < 0 := fun q' => by have := s2.2.2.mp q'; grind
        omega
    · constructor
      · intro h; have : ¬ cr p v < 0 := fun q' => by have := s3.2.2.mpr q'; omega
        grind
      · intro h; have : ¬ a * y - b * x < 0 := fun q' => by have := s3.2.2.mp q'; grind
        omega
    · have cp := s1.2.1.mp pos
      have cn : cr p q ≠ 0 := by grind
      have den : 0 < (a * d - b * c) * w := Int.mul_pos pos pw
      have bden : B (2 * n + 2 * m + 2) ((a * d - b * c) * w) := ((((ba.mul bd).sub (bb.mul bc)).mul bw)).mono (by omega)
      have q1 : cr v q / cr p q * cr p q = cr v q := by grind
      have q2 : cr p v / cr p q * cr p q = cr p v := by grind
      have f1 := f_lpart (n := 2 * n + 2 * m + 2) (a := (x * d - y * c) * u) (c := (a * d - b * c) * w) (r := cr v q / cr p q) den ((((bx.mul bd).sub (by_.mul bc)).mul bu).mono (by omega)) bden (by
        have i1 : ((x * d - y * c : Int) : Rat) = w * s * cr v q := by push_cast; rw [hX, hY, hc, hd]; unfold cr; grind
        have i2 : ((a * d - b * c : Int) : Rat) = u * s * cr p q := by push_cast; rw [ha, hb, hc, hd]; unfold cr; grind
        rw [Rat.intCast_mul, Rat.intCast_mul, i1, i2, ← q1]
        grind) (by omega)
      have f2 := f_lpart (n := 2 * n + 2 * m + 2) (a := (a * y - b * x) * s) (c := (a * d - b * c) * w) (r := cr p v / cr p q) den ((((ba.mul by_).sub (bb.mul bx)).mul bs).mono (by omega)) bden (by
        have i1 : ((a * y - b * x : Int) : Rat) = u * w * cr p v := by push_cast; rw [hX, hY, ha, hb]; unfold cr; grind
        have i2 : ((a * d - b * c : Int) : Rat) = u * s * cr p q := by push_cast; rw [ha, hb, hc, hd]; unfold cr; grind
        rw [Rat.intCast_mul, Rat.intCast_mul, i1, i2, ← q2]
        grind) (by omega)
      exact ⟨f1.1, f1.2, f2.1, f2.2⟩
  let E : Nat → Pt × Pt := fun i => (ntp P i, ntp P ((i + 1) % P.length))
  have ff := forFind (Φ := P49) (p := .nm 2) (b := b0_law_legs) (g := fun i : Nat => D.int (i : Int)) (t := fun i => isLeg v (E i)) (r := fun i => .lst ((legE v (E i)).map legD)) (l := List.range P.length) (I := fun σ => ∃ o2 o3 o4 o5 o6 o7, σ = [some (pD P), some (vD v), o2, o3, o4, o5, o6, o7, none]) (σ := [some (pD P), some (vD v), none, none, none, none, none, none, none]) (fun i mi σ ⟨o2, o3, o4, o5, o6, o7, e⟩ => by
    subst e
    have hi := List.mem_range.mp mi
    have hj : (i + 1) % P.length < P.length := Nat.mod_lt _ (by omega)
    obtain ⟨a, b, u, c, d, s, e1, e2, ba, bb, bu, bc, bd, bs, pu, ps, s1, s2, s3, s4, s5, fr⟩ := step i hi
    have a1 := at_ntp (f := vD) hi
    have a2 := at_ntp (f := vD) hj
    have m1 := ba.mulOk bd (by omega)
    have m2 := bb.mulOk bc (by omega)
    have m3 := bx.mulOk bd (by omega)
    have m4 := by_.mulOk bc (by omega)
    have m5 := ba.mulOk by_ (by omega)
    have m6 := bb.mulOk bx (by omega)
    have m7 := (((bx.mul bd).sub ((by_.mul bc)))).mulOk bu (by omega)
    have m8 := ((ba.mul by_).sub (bb.mul bx)).mulOk bs (by omega)
    have m9 := ((ba.mul bd).sub (bb.mul bc)).mulOk bw (by omega)
    have md := mod_next hi
    have pl : (0 : Int) < (P.length : Int) := by omega
    have a2' : atI (P.map vD) (((i : Int) + 1) % (P.length : Int)) = some (vD (ntp P ((i + 1) % P.length))) := by rw [md]; exact a2
    have lp : (P.map vD).length = P.length := List.length_map ..
    have x0 : ∀ T : CSs, ∀ R : Option Res, evSs P49 T [some (pD P), some (vD v), some (.int (i : Int)), some (.int (a * d - b * c)), some (V3 a b u), some (V3 c d s), some (.int (x * d - y * c)), some (.int (a * y - b * x)), none] = R → T = b0t3_law_legs → (evP (.nm 2) (.int (i : Int)) [some (pD P), some (vD v), o2, o3, o4, o5, o6, o7, none]).bind (evSs P49 b0_law_legs) = R := fun T R h hT => by
      subst hT
      rw [show evP (.nm 2) (.int (i : Int)) [some (pD P), some (vD v), o2, o3, o4, o5, o6, o7, none] = some [some (pD P), some (vD v), some (.int (i : Int)), o3, o4, o5, o6, o7, none] from rfl, Option.bind_some]
      refine run_nx (σ' := [some (pD P), some (vD v), some (.int (i : Int)), o3, some (V3 a b u), some (V3 c d s), o6, o7, none]) (by
        rw [evS_par2]
        simp only [evA, ev_idx, ev_var, ev_bin, ev_bi, ev_cst]
        simp [pD, -atI_def, a1, a2', e1, e2, show 0 < P.length by omega]) ?_
      refine run_nx (σ' := [some (pD P), some (vD v), some (.int (i : Int)), some (.int (a * d - b * c)), some (V3 a b u), some (V3 c d s), o6, o7, none]) (by simp [m1, m2]) ?_
      refine run_nx (σ' := [some (pD P), some (vD v), some (.int (i : Int)), some (.int (a * d - b * c)), some (V3 a b u), some (V3 c d s), some (.int (x * d - y * c)), some (.int (a * y - b * x)), none]) (by rw [ev']; simp [m3, m4, m5, m6]) h
    clear m1 m2 m3 m4 m5 m6
    generalize a * d - b * c = W at s1 fr m9 x0
    generalize x * d - y * c = F at s2 s3 fr m7 x0
    generalize a * y - b * x = S at s4 s5 fr m8 x0
    by_cases z : isLeg v (E i) = true
    · rw [if_pos z]
      obtain ⟨z1, z2, z3⟩ := isLeg_iff.mp z
      have i1 : 0 < W := s1.mpr z1
      have i2 : 0 ≤ F := s2.mpr z2
      have i3 : 0 ≤ S := s4.mpr z3
      obtain ⟨fr1, _, fr2, _⟩ := fr i1
      refine x0 _ _ ?_ rfl
      refine run_rt ?_
      rw [evS_ife]
      refine Eq.trans (b := evSs P49 (.cons (.asg (.nm 8) (.ife (.cmp .Gt (.var 6) (.cst (.int 0))) (.lst false (.cons (.tup (.cons (.var 4) (.cons (.fn 48 (.cons (.bin .Mult false (.var 6) (.idx (.var 4) (.cst (.int 2)))) (.cons (.bin .Mult false (.var 3) (.idx (.var 1) (.cst (.int 2)))) .nil))) .nil))) .nil)) (.lst false .nil))) (.cons (.ret (.bin .Add false (.var 8) (.ife (.cmp .Gt (.var 7) (.cst (.int 0))) (.lst false (.cons (.tup (.cons (.var 5) (.cons (.fn 48 (.cons (.bin .Mult false (.var 7) (.idx (.var 5) (.cst (.int 2)))) (.cons (.bin .Mult false (.var 3) (.idx (.var 1) (.cst (.int 2)))) .nil))) .nil))) .nil)) (.lst false .nil)))) .nil)) [some (pD P), some (vD v), some (.int (i : Int)), some (.int W), some (V3 a b u), some (V3 c d s), some (.int F), some (.int S), none]) (by simp [i1, i2, i3]) ?_
      have L1 : ∀ (A B : List (Pt × Rat)), A.length ≤ 1 → B.length ≤ 1 → (A.map legD).length + (B.map legD).length ≤ 16777216 := fun A B h1 h2 => by simp; omega
      have c1 : (0 < F) = (0 < cr v (ntp P ((i + 1) % P.length))) := propext s3
      have c2 : (0 < S) = (0 < cr (ntp P i) v) := propext s5
      refine run_nx (σ' := [some (pD P), some (vD v), some (.int (i : Int)), some (.int W), some (V3 a b u), some (V3 c d s), some (.int F), some (.int S), some (.lst ((if 0 < cr v (E i).2 then [((E i).1, cr v (E i).2 / cr (E i).1 (E i).2)] else []).map legD))]) (by
        by_cases q : 0 < F
        · have q' : 0 < cr v (E i).2 := s3.mp q
          rw [if_pos q']
          rw [ev']
          simp [q, m7, m9, fr1, legD, E, e1]
        · have q' : ¬ 0 < cr v (E i).2 := fun w' => q (s3.mpr w')
          rw [if_neg q']
          simp [q]) ?_
      refine run_rt ?_
      rw [show legE v (E i) = (if 0 < cr v (E i).2 then [((E i).1, cr v (E i).2 / cr (E i).1 (E i).2)] else []) ++ (if 0 < cr (E i).1 v then [((E i).2, cr (E i).1 v / cr (E i).1 (E i).2)] else []) from rfl, List.map_append]
      generalize hA : (if 0 < cr v (E i).2 then [((E i).1, cr v (E i).2 / cr (E i).1 (E i).2)] else []) = A
      have lA : A.length ≤ 1 := by rw [← hA]; split <;> simp
      by_cases q : 0 < S
      · have q' : 0 < cr (E i).1 v := s5.mp q
        rw [if_pos q', ev']
        have l2 : A.length + 1 ≤ 16777216 := by omega
        simp [q, m8, m9, fr2, legD, E, e2, l2]
      · have q' : ¬ 0 < cr (E i).1 v := fun w' => q (s5.mpr w')
        rw [if_neg q']
        have l2 : A.length ≤ 16777216 := by omega
        simp [q, l2]
    · rw [if_neg z]
      refine ⟨[some (pD P), some (vD v), some (.int (i : Int)), some (.int W), some (V3 a b u), some (V3 c d s), some (.int F), some (.int S), none], ?_, _, _, _, _, _, _, rfl⟩
      refine x0 _ _ ?_ rfl
      refine run_nx ?_ rfl
      by_cases i1 : 0 < W
      · by_cases i2 : 0 ≤ F
        · have i3 : ¬ 0 ≤ S := fun q => z (isLeg_iff.mpr ⟨s1.mp i1, s2.mp i2, s4.mp q⟩)
          simp [i1, i2, i3]
        · simp [i1, i2]
      · simp [i1]) ⟨none, none, none, none, none, none, rfl⟩
  have fm : (edg P).find? (isLeg v) = ((List.range P.length).find? fun i => isLeg v (E i)).map E := by
    unfold edg
    rw [List.find?_map]
    rfl
  have it := evI_rng (Φ := P49) (σ := [some (pD P), some (vD v), none, none, none, none, none, none, none]) (e := .bi .len (.cons (.var 0) .nil)) (n := P.length) (by simp) (by omega)
  rw [fm]
  constructor
  · unfold F_law_legs c_law_legs
    refine evDef_of ?_ rfl
    cases hf : (List.range P.length).find? fun i => isLeg v (E i) with
    | some i => exact run_rt (by rw [evS_for]; show (evI _ [some (pD P), some (vD v), none, none, none, none, none, none, none] _).bind _ = _; rw [it]; exact ff.1 i hf)
    | none =>
      obtain ⟨σ', e, o2, o3, o4, o5, o6, o7, rfl⟩ := ff.2 hf
      refine run_nx (by rw [evS_for]; show (evI _ [some (pD P), some (vD v), none, none, none, none, none, none, none] _).bind _ = _; rw [it]; exact e) ?_
      exact run_rt (by simp [olD])
  · intro e he l hl
    cases hf : (List.range P.length).find? fun i => isLeg v (E i) with
    | none => rw [hf] at he; cases he
    | some i =>
      rw [hf] at he
      cases he
      have hi := List.mem_range.mp (List.mem_of_find?_eq_some hf)
      have hz : isLeg v (E i) = true := by have := List.find?_some hf; exact this
      have z := isLeg_iff.mp hz
      obtain ⟨a, b, u, c, d, s, e1, e2, ba, bb, bu, bc, bd, bs, pu, ps, s1, s2, s3, s4, s5, fr⟩ := step i hi
      obtain ⟨_, f1, _, f2⟩ := fr (s1.mpr z.1)
      unfold legE at hl
      rcases List.mem_append.mp hl with hl | hl
      · split at hl
        · rw [List.mem_singleton.mp hl]; exact f1
        · cases hl
      · split at hl
        · rw [List.mem_singleton.mp hl]; exact f2
        · cases hl
end K27

open PySem L2
set_option Elab.async false
set_option linter.all false
set_option maxRecDepth 100000
set_option maxHeartbeats 2000000
namespace K27
open PySem PySem.Spec PyProof.Rows L2 WF WV WP
theorem f_law_sum {n m : Nat} {r s : Rat} (hr : Bf n r) (hs : Bf m s) (l : n + m < 8000) : F_law_sum [fD r, fD s] = some (fD (r + s)) ∧ Bf (n + m + 1) (r + s) := by
  have m1 := hr.1.mulOk hs.2 (by omega)
  have m2 := hs.1.mulOk hr.2 (by omega)
  have m3 := hr.2.mulOk hs.2 (by omega)
  have dr : (0 : Int) < r.den := by have := r.den_pos; omega
  have ds : (0 : Int) < s.den := by have := s.den_pos; omega
  have k := f_lpart (n := n + m + 1) (a := r.num * s.den + s.num * r.den) (c := (r.den : Int) * s.den) (r := r + s) (Int.mul_pos dr ds) ((hr.1.mul hs.2).add ((hs.1.mul hr.2).mono (by omega))) ((hr.2.mul hs.2).mono (by omega)) (by simp only [Rat.intCast_mul, Rat.intCast_add]; rw [num_den r, num_den s]; grind) (by omega)
  refine ⟨?_, k.2⟩
  have e := k.1
  simp only [fD] at e ⊢
  simp [F_law_sum, c_law_sum, m1, m2, m3, e]
theorem f_law_time {P : PL} {n m : Nat} (f : Fig n P) {v : Pt} (hv : Bp m v) (hn : 2 * n + m < 1000) : F_law_time [pD P, vD v] = some (oD (timeQ P v)) := by
  obtain ⟨fl, bl⟩ := f_legs f.l3 f.l64 f.bp hv (by omega)
  have z0 : V2 0 1 = fD 0 := rfl
  cases hf : (edg P).find? (isLeg v) with
  | none =>
    rw [hf] at fl
    rw [leg_none f.can f.l3 f.in0 hf]
    unfold F_law_time c_law_time
    refine evDef_of ?_ rfl
    refine run_nx (σ' := [some (pD P), some (vD v), none, some (.non), some (V2 0 1)]) (by simp [fl, olD]) ?_
    exact run_rt (by simp [oD])
  | some e =>
    rw [hf] at fl
    have bl := bl e hf
    obtain ⟨me, hp, h1, h2, ht⟩ := leg_some f.can f.l3 f.in0 hf
    rw [ht]
    have b0 : Bf 1 (0 : Rat) := bf0 (n := 0)
    have cn : cr e.1 e.2 ≠ 0 := by grind
    have fin : ∀ (L : List (Pt × Rat)) (t : Rat), olD v (some e) = .lst (L.map legD) → forE P51 (.nm 2) b0_law_time (L.map legD) [some (pD P), some (vD v), none, some (.lst (L.map legD)), some (fD 0)] = some (.nx [some (pD P), some (vD v), (L.map legD).getLast?, some (.lst (L.map legD)), some (fD t)]) → F_law_time [pD P, vD v] = some (fD t) := by
      intro L t e1 e2
      rw [e1] at fl
      unfold F_law_time c_law_time
      refine evDef_of ?_ rfl
      refine run_nx (σ' := [some (pD P), some (vD v), none, some (.lst (L.map legD)), some (fD 0)]) (by simp [fl, ← z0]) ?_
      refine run_nx (σ' := [some (pD P), some (vD v), none, some (.lst (L.map legD)), some (fD 0)]) (by simp) ?_
      refine run_nx (by rw [evS_for, evI_seq, ev_var]; exact e2) ?_
      exact run_rt (by simp)
    have fd : oD (some ((cr v e.2 + cr e.1 v) / cr e.1 e.2)) = fD ((cr v e.2 + cr e.1 v) / cr e.1 e.2) := rfl
    rw [fd]
    by_cases q1 : 0 < cr v e.2
    · by_cases q2 : 0 < cr e.1 v
      · have lE : legE v e = [(e.1, cr v e.2 / cr e.1 e.2), (e.2, cr e.1 v / cr e.1 e.2)] := by unfold legE; rw [if_pos q1, if_pos q2]; rfl
        rw [lE] at bl
        have s1 := f_law_sum b0 (bl _ List.mem_cons_self) (by omega)
        have s2 := f_law_sum s1.2 (bl (e.2, cr e.1 v / cr e.1 e.2) (by simp)) (by omega)
        have e1 : (0 : Rat) + cr v e.2 / cr e.1 e.2 + cr e.1 v / cr e.1 e.2 = (cr v e.2 + cr e.1 v) / cr e.1 e.2 := by grind
        rw [← e1]
        refine fin _ _ (by rw [olD, lE]) ?_
        simp [s1.1, s2.1]
      · have z2 : cr e.1 v = 0 := by grind
        have lE : legE v e = [(e.1, cr v e.2 / cr e.1 e.2)] := by unfold legE; rw [if_pos q1, if_neg q2]; rfl
        rw [lE] at bl
        have s1 := f_law_sum b0 (bl _ List.mem_cons_self) (by omega)
        have e1 : (0 : Rat) + cr v e.2 / cr e.1 e.2 = (cr v e.2 + cr e.1 v) / cr e.1 e.2 := by rw [z2]; grind
        rw [← e1]
        refine fin _ _ (by rw [olD, lE]) ?_
        simp [s1.1]
    · have z1 : cr v e.2 = 0 := by grind
      by_cases q2 : 0 < cr e.1 v
      · have lE : legE v e = [(e.2, cr e.1 v / cr e.1 e.2)] := by unfold legE; rw [if_neg q1, if_pos q2]; rfl
        rw [lE] at bl
        have s1 := f_law_sum b0 (bl _ List.mem_cons_self) (by omega)
        have e1 : (0 : Rat) + cr e.1 v / cr e.1 e.2 = (cr v e.2 + cr e.1 v) / cr e.1 e.2 := by rw [z1]; grind
        rw [← e1]
        refine fin _ _ (by rw [olD, lE]) ?_
        simp [s1.1]
      · have z2 : cr e.1 v = 0 := by grind
        have lE : legE v e = [] := by unfold legE; rw [if_neg q1, if_neg q2]; rfl
        have e1 : (0 : Rat) = (cr v e.2 + cr e.1 v) / cr e.1 e.2 := by rw [z1, z2]; grind
        rw [← e1]
        refine fin [] _ (by rw [olD, lE]) ?_
        simp
def longQ : Option Rat → Option Rat → Bool
  | none, some _ => true
  | none, none => false
  | some _, none => false
  | some r, some s => decide (s < r)
theorem f_law_longer {n m : Nat} {a b : Option Rat} (ha : Bo n a) (hb : Bo m b) (l : n + m < 100000) : F_law_longer [oD a, oD b] = some (.bl (longQ a b)) := by
  cases a with
  | none =>
    cases b with
    | none => simp [F_law_longer, c_law_longer, oD, longQ]
    | some s => simp [F_law_longer, c_law_longer, oD, longQ, fD]
  | some r =>
    cases b with
    | none => simp [F_law_longer, c_law_longer, oD, longQ, fD]
    | some s =>
      have u := f_lunder hb ha (by omega)
      simp only [oD]
      simp only [fD] at u ⊢
      simp [F_law_longer, c_law_longer, longQ, u]
theorem f_law_sized {P : PL} {n m : Nat} (k : Crf n P) {a b : Int} {r : Rat} (ba : B m a) (bb : B m b) (pa : 0 < a) (pb : 0 < b) (hr : (a : Rat) = r * b) (l : n + m < 600) : F_law_sized [pD P, V2 a b] = some (pD (P.map (mulP r))) ∧ Crf (n + m) (P.map (mulP r)) := by
  have r0 : 0 < r := by
    have := ratpos pa
    rw [hr] at this
    exact pm this (ratpos pb)
  have g : ∀ p ∈ P, F_law_grow [vD p, V2 a b] = some (vD (mulP r p)) ∧ Bp (n + m) (mulP r p) := fun p mp' => f_lgrow (k.bp p mp') ba bb pb hr (by omega)
  have cf := k.mul r0 fun p mp' => (g p mp').2
  have ne : P.map (mulP r) ≠ [] := by have := cf.l3; intro z; rw [z] at this; simp at this
  have fc := cf.fig (by omega)
  have hu := f_law_hull ne (by have := cf.l12; omega) cf.bp fc.sz.1
  rw [hullQ_self cf.can] at hu
  have lc : lcE P10 (.nm 2) .nil e0_law_sized [some (pD P), some (V2 a b), none] (P.map vD) = some (P.map fun p => vD (mulP r p)) := lcM fun p mp' => ⟨[some (pD P), some (V2 a b), some (vD p)], by simp, by simp [(g p mp').1]⟩
  have x1 := ev_lcf (Φ := P10) (m := false) (it := .seq (.var 0)) (own := [("_law_spot_here", 2)]) (σ := [some (pD P), some (V2 a b), none]) rfl (by simp) (by have := k.l12; simp; omega) lc
  rw [List.map_map] at hu
  refine ⟨?_, cf⟩
  unfold F_law_sized c_law_sized
  refine evDef_of ?_ rfl
  refine run_rt ?_
  rw [evS_ret, ev_fn, evA]
  rw [show ini 3 [pD P, V2 a b] = [some (pD P), some (V2 a b), none] from rfl, x1]
  have hu' : F_law_hull [.lst (P.map fun p => vD (mulP r p))] = some (pD (P.map (mulP r))) := hu
  simp [evA, hu']
end K27

open PySem L2
set_option Elab.async false
set_option linter.all false
set_option maxRecDepth 100000
set_option maxHeartbeats 2000000
namespace K27
open PySem PySem.Spec PyProof.Rows L2 WF WV WP
theorem out_long {P : PL} {n : Nat} (f : Fig n P) (q : Pt) : longQ (timeQ P q) (some 1) = outB P q := by
  have it := in_time f.can f.in0 (v := q)
  unfold outB
  by_cases z : In P q
  · obtain ⟨t, ht, t1⟩ := it.mp z
    rw [ht]
    have : ¬ 1 < t := by grind
    simp [longQ, this, z]
  · cases ht : timeQ P q with
    | none => simp [longQ, z]
    | some t =>
      have : 1 < t := by
        apply Classical.byContradiction
        intro w
        exact z (it.mpr ⟨t, ht, by grind⟩)
      simp [longQ, this, z]
theorem f_told_right {P Q : PL} (k : Crf 13 P) (j : Crf 13 Q) {vs : List Pt} (bv : ∀ v ∈ vs, Bp 60 v) (lv : vs.length ≤ 100) : F_law_told_right [pD P, pD Q, .lst (vs.map vD)] = some (.bl true) := by
  have f := k.fig (by omega)
  have g := j.fig (by omega)
  have one : V2 1 1 = fD 1 := rfl
  have bone : Bo 1 (some (1 : Rat)) := ⟨by unfold B; decide, by unfold B; decide⟩
  have tq : ∀ v, Bp 60 v → F_law_time [pD P, vD v] = some (oD (timeQ P v)) ∧ F_law_time [pD Q, vD v] = some (oD (timeQ Q v)) ∧ F_time_of [pD P, vD v] = some (oD (timeQ P v)) ∧ F_time_of [pD Q, vD v] = some (oD (timeQ Q v)) ∧ Bo 300 (timeQ P v) ∧ Bo 300 (timeQ Q v) := fun v hv => by
    have b1 := (f_time_by f hv (by omega)).2
    have b2 := (f_time_by g hv (by omega)).2
    refine ⟨f_law_time f hv (by omega), f_law_time g hv (by omega), f_time_of f hv (by omega), f_time_of g hv (by omega), ?_, ?_⟩
    · cases h : timeQ P v with
      | none => trivial
      | some t => rw [h] at b1; exact bfm b1 (by omega)
    · cases h : timeQ Q v with
      | none => trivial
      | some t => rw [h] at b2; exact bfm b2 (by omega)
  have bq : ∀ q ∈ Q, Bp 60 q := fun q mq => (j.bp q mq).mono (by omega)
  obtain ⟨b1, e1, h1⟩ := f_never_later f g (by omega)
  obtain ⟨b2, e2, h2⟩ := f_lies_inside f g (by omega)
  have e3 := f_parting f g (by omega)
  let held : PL := Q.filter (outB P)
  have lh : held.length ≤ 12 := Nat.le_trans (List.length_filter_le _ _) j.l12
  have dueI : held = [] ↔ ∀ q ∈ Q, In P q := by
    show Q.filter (outB P) = [] ↔ _
    rw [List.filter_eq_nil_iff]
    unfold outB
    simp
  have d1 : b1 = decide (held = []) := by
    by_cases z : held = []
    · rw [h1.mpr (dueI.mp z)]; simp [z]
    · have : ¬ b1 = true := fun q => z (dueI.mpr (h1.mp q))
      simp [z]; simpa using this
  have d2 : b2 = decide (held = []) := by
    by_cases z : held = []
    · rw [h2.mpr (dueI.mp z)]; simp [z]
    · have : ¬ b2 = true := fun q => z (dueI.mpr (h2.mp q))
      simp [z]; simpa using this
  subst d1 d2
  have hd : Q.find? (outB P) = held.head? := by rw [List.head?_filter]
  rw [hd] at e3
  -- the corners that are later
  have lc : lcE P52 (.nm 9) (.cons (.fn 41 (.cons (.fn 51 (.cons (.var 0) (.cons (.var 9) .nil))) (.cons (.tup (.cons (.cst (.int 1)) (.cons (.cst (.int 1)) .nil))) .nil))) .nil) (.var 9) [some (pD P), some (pD Q), some (.lst (vs.map vD)), none, none, none, none, none, none, none, none, none] (Q.map vD) = some (held.map vD) := lcF fun q mq => by
    obtain ⟨t1, _, _, _, t5, _⟩ := tq q (bq q mq)
    have lg := f_law_longer t5 bone (by omega)
    rw [out_long f] at lg
    exact ⟨[some (pD P), some (pD Q), some (.lst (vs.map vD)), none, none, none, none, none, none, some (vD q), none, none], by simp, by
      rw [show oD (some 1) = fD 1 from rfl, ← one] at lg
      simp [t1, lg], fun _ => by simp⟩
  have x1 := ev_lcf (Φ := P52) (m := false) (it := .seq (.var 1)) (own := [("_law_spot_here", 9)]) (σ := [some (pD P), some (pD Q), some (.lst (vs.map vD)), none, none, none, none, none, none, none, none, none]) rfl (by simp) (by have := j.l12; simp; omega) lc
  have ee := eq_nilL (ds := held.map vD) (e := 2) false (fun d m => by obtain ⟨p, _, rfl⟩ := List.mem_map.mp m; exact lay_vD p) (by decide)
  have hn : decide (held.map vD = []) = decide (held = []) := by rw [decide_eq_decide]; simp
  simp only [hn] at ee
  generalize hdue : decide (held = []) = due at *
  have ap : ∀ p, held.head? = some p → Bp 60 p := fun p hp => bq p (List.mem_of_find?_eq_some (hd.trans hp))
  obtain ⟨s1, q1⟩ := shw_some (d := .lst [.bl due, .bl due, .bl due]) (k := 3 * 7 + 4) (e := 2) (shw_l (k := 5) (e := 1) (m := 3) (fun d m => by rcases mem3 m with rfl | rfl | rfl <;> exact Shw.bl) (by simp)) (by decide) (by decide)
  obtain ⟨s2, q2⟩ := shw_some (d := .lst [oV held.head?, oV held.head?]) (k := 2 * 5775 + 4) (e := 3) (shw_l (k := 5773) (e := 2) (m := 2) (fun d m => by rcases mem2 m with rfl | rfl <;> exact shw_oV ap (by decide)) (by simp)) (by decide) (by decide)
  let S : Option D → Option D → Option D → Option D → ASt := fun o7 o8 o10 o11 => [some (pD P), some (pD Q), some (.lst (vs.map vD)), some (.lst (held.map vD)), some (.bl due), some (.lst [.bl due, .bl due, .bl due]), some (oV held.head?), o7, o8, none, o10, o11]
  -- the ways
  have loop : ∀ o7 o8 o10 o11, ∃ o7' o10' o11', forE P52 (.nm 7) b0_law_told_right (vs.map vD) (S o7 o8 o10 o11) = some (.nx (S o7' o8 o10' o11')) := fun o7 o8 o10 o11 => by
    obtain ⟨σ', e, o7', o10', o11', rfl⟩ := forM0 (Φ := P52) (p := .nm 7) (b := b0_law_told_right) (g := vD) (l := vs) (σ := S o7 o8 o10 o11) (fun done σ => ∃ o7' o10' o11', σ = S o7' o8 o10' o11') ⟨_, _, _, rfl⟩ (by
      rintro done v post σ e ⟨o7, o10, o11, rfl⟩
      obtain ⟨t1, t2, t3, t4, t5, t6⟩ := tq v (bv v (by rw [e]; simp))
      have lg := f_law_longer t5 t6 (by omega)
      obtain ⟨s3, q3⟩ := shw_some (d := .lst [oD (timeQ P v), oD (timeQ Q v)]) (k := 2 * 5775 + 4) (e := 3) (shw_l (k := 5773) (e := 2) (m := 2) (fun d m => by
        rcases mem2 m with rfl | rfl
        · exact shw_oD t5 (by decide)
        · exact shw_oD t6 (by decide)) (by simp)) (by decide) (by decide)
      have nl : due = true → longQ (timeQ P v) (timeQ Q v) = false := fun hz => by
        have hin := dueI.mp (of_decide_eq_true (hdue.trans hz))
        cases hq : timeQ Q v with
        | none => cases timeQ P v <;> rfl
        | some t =>
          obtain ⟨u, hu, le⟩ := time_mono f.can f.in0 g.can g.l3 g.in0 hin hq
          rw [hu]
          have : ¬ t < u := by grind
          simp [longQ, this]
      refine ⟨S (some (vD v)) o8 (some (oD (timeQ P v))) (some (oD (timeQ Q v))), ?_, _, _, _, rfl⟩
      rw [show evP (.nm 7) (vD v) (S o7 o8 o10 o11) = some (S (some (vD v)) o8 o10 o11) from rfl, Option.bind_some]
      refine run_nx (σ' := S (some (vD v)) o8 (some (oD (timeQ P v))) (some (oD (timeQ Q v)))) (by simp [S, t3, t4]) ?_
      refine run_nx (if_repr_same (d := .lst [oD (timeQ P v), oD (timeQ Q v)]) (by simp [S]) (by simp [S, t1, t2]) q3) ?_
      refine run_nx ?_ rfl
      cases due with
      | true =>
        rw [nl rfl] at lg
        simp [S, lg]
      | false => simp [S])
    exact ⟨_, _, _, e⟩
  unfold F_law_told_right c_law_told_right
  refine evDef_of ?_ rfl
  refine run_nx (σ' := [some (pD P), some (pD Q), some (.lst (vs.map vD)), some (.lst (held.map vD)), none, none, none, none, none, none, none, none]) (by rw [evS_asg]; show (ev _ [some (pD P), some (pD Q), some (.lst (vs.map vD)), none, none, none, none, none, none, none, none, none] _).bind _ = _; rw [x1]; simp) ?_
  refine run_nx (σ' := [some (pD P), some (pD Q), some (.lst (vs.map vD)), some (.lst (held.map vD)), some (.bl due), none, none, none, none, none, none, none]) (by simp [ee]) ?_
  refine run_nx (σ' := [some (pD P), some (pD Q), some (.lst (vs.map vD)), some (.lst (held.map vD)), some (.bl due), some (.lst [.bl due, .bl due, .bl due]), none, none, none, none, none, none]) (by simp [e1, e2, perm]) ?_
  refine run_nx (if_repr_same (d := .lst [.bl due, .bl due, .bl due]) (by simp) (by simp) q1) ?_
  refine run_nx (σ' := S none none none none) (by simp [e3, S]) ?_
  have h0 : due = false → ∃ p r, held = p :: r := fun z => by
    cases hh : held with
    | nil => rw [hh] at hdue; simp at hdue; rw [hdue] at z; cases z
    | cons p r => exact ⟨p, r, rfl⟩
  refine run_nx (if_repr_same (d := .lst [oV held.head?, oV held.head?]) (by simp [S, e3, perm]) (by
    cases due with
    | true =>
      have : held = [] := of_decide_eq_true hdue
      simp [S, this, oV]
    | false =>
      obtain ⟨p, r, hh⟩ := h0 rfl
      simp [S, hh, oV]) q2) ?_
  have last : ∀ o8, evSs P52 t7_law_told_right (S none o8 none none) = some (.rt (.bl true)) := fun o8 => by
    obtain ⟨o7', o10', o11', e⟩ := loop none o8 none none
    refine run_nx (by rw [evS_for, evI_seq, ev_var]; exact e) ?_
    exact run_rt (by simp)
  cases hz : due with
  | true =>
    subst hz
    exact run_nx (σ' := S none none none none) (by simp [S]) (last none)
  | false =>
    subst hz
    obtain ⟨p, r, hh⟩ := h0 rfl
    have mp' : p ∈ held := by rw [hh]; simp
    have hp := List.mem_filter.mp mp'
    have pn : p ≠ o0 := by
      rintro rfl
      have := hp.2
      unfold outB at this
      simp at this
      exact this f.in0
    have c1 := corner_one g.can g.l3 g.in0 hp.1 pn
    obtain ⟨_, _, t3, t4, t5, t6⟩ := tq p (bq p hp.1)
    rw [c1] at t4 t6
    have lg := f_law_longer t5 t6 (by omega)
    rw [out_long f, hp.2] at lg
    have r1 : reprE (fD 1) = some (.str "(1, 1)") := by
      rw [repr_eq (shw_fD (n := 1) (r := 1) bone (by decide)) (by decide) (by decide)]
      rfl
    refine run_nx (σ' := S none (some (.lst [oD (timeQ P p), fD 1])) none none) ?_ (last _)
    rw [show oD (some 1) = fD 1 from rfl] at t4 lg
    simp [S, hh, oV, t3, t4, lg, r1]
end K27

open PySem L2
set_option Elab.async false
set_option linter.all false
set_option maxRecDepth 100000
set_option maxHeartbeats 2000000
namespace K27
open PySem PySem.Spec PyProof.Rows L2 WF WV WP
theorem vT {n : Nat} {a b c : Int} (p : Pt) (hc : 0 < c) (g : G3 a b c = 1) (ba : B n a) (bb : B n b) (bc : B n c) (hx : (a : Rat) = p.x * c) (hy : (b : Rat) = p.y * c) : V3 a b c = vD p ∧ Bp n p := by
  have k := mkBp (p := p) hc ba bb bc hx hy
  rw [lowT_one g] at k
  exact k
def absx (p : Pt) : Pt := ⟨if 0 ≤ p.x then p.x else -p.x, p.y⟩
def absy (p : Pt) : Pt := ⟨p.x, if 0 ≤ p.y then p.y else -p.y⟩
theorem abs_x {n : Nat} {p : Pt} (h : Bp n p) {x y w : Int} (e : vD p = V3 x y w) : V3 (x.natAbs : Int) y w = vD (absx p) ∧ Bp n (absx p) := by
  obtain ⟨x', y', w', e', pw, bx, by_, bw, hx, hy, g⟩ := pt_ints h
  rw [e] at e'
  simp only [D.tup.injEq, List.cons.injEq, D.int.injEq, and_true] at e'
  obtain ⟨rfl, rfl, rfl⟩ := e'
  have wr := ratpos pw
  have s := sign3 (i := x) (d := p.x) (k := w) (by rw [hx]; grind) wr
  refine vT (absx p) pw (by rw [← g]; simp [G3]) (by unfold B at *; simpa using bx) by_ bw ?_ hy
  unfold absx
  by_cases z : 0 ≤ p.x
  · have : 0 ≤ x := by
      apply Classical.byContradiction; intro q
      have := s.2.2.mp (by omega)
      grind
    rw [show (x.natAbs : Int) = x by omega]
    simp [z, hx]
  · have : x < 0 := s.2.2.mpr (by grind)
    rw [show (x.natAbs : Int) = -x by omega]
    simp only [z, if_false]
    rw [Rat.intCast_neg, hx]
    grind
theorem abs_y {n : Nat} {p : Pt} (h : Bp n p) {x y w : Int} (e : vD p = V3 x y w) : V3 x (y.natAbs : Int) w = vD (absy p) ∧ Bp n (absy p) := by
  obtain ⟨x', y', w', e', pw, bx, by_, bw, hx, hy, g⟩ := pt_ints h
  rw [e] at e'
  simp only [D.tup.injEq, List.cons.injEq, D.int.injEq, and_true] at e'
  obtain ⟨rfl, rfl, rfl⟩ := e'
  have wr := ratpos pw
  have s := sign3 (i := y) (d := p.y) (k := w) (by rw [hy]; grind) wr
  refine vT (absy p) pw (by rw [← g]; simp [G3]) bx (by unfold B at *; simpa using by_) bw hx ?_
  unfold absy
  by_cases z : 0 ≤ p.y
  · have : 0 ≤ y := by
      apply Classical.byContradiction; intro q
      have := s.2.2.mp (by omega)
      grind
    rw [show (y.natAbs : Int) = y by omega]
    simp [z, hy]
  · have : y < 0 := s.2.2.mpr (by grind)
    rw [show (y.natAbs : Int) = -y by omega]
    simp only [z, if_false]
    rw [Rat.intCast_neg, hy]
    grind
theorem tri_crf : Crf 10 [o0, ⟨2, 0⟩, ⟨0, 1⟩] ∧ V3 0 0 1 = vD o0 ∧ V3 2 0 1 = vD ⟨2, 0⟩ ∧ V3 0 1 1 = vD ⟨0, 1⟩ := by
  have t1 := vT (n := 10) (a := 2) (b := 0) (c := 1) ⟨2, 0⟩ (by decide) (by decide) (by unfold B; decide) (by unfold B; decide) (by unfold B; decide) (by simp) (by simp)
  have t2 := vT (n := 10) (a := 0) (b := 1) (c := 1) ⟨0, 1⟩ (by decide) (by decide) (by unfold B; decide) (by unfold B; decide) (by unfold B; decide) (by simp) (by simp)
  have c : Can [o0, ⟨2, 0⟩, ⟨0, 1⟩] := by
    refine ⟨by simp, ?_, ?_⟩
    · rintro m t h q mq
      cases h
      simp only [List.mem_cons, List.not_mem_nil, or_false] at mq
      rcases mq with rfl | rfl
      · left; unfold o0; simp only; grind
      · right; unfold o0; simp only; constructor <;> grind
    · intro a b c h
      have := h.eq_of_length rfl
      cases this
      unfold det o0
      simp only
      grind
  refine ⟨⟨c, by simp, by simp, ?_, corner_in c (by simp)⟩, v_o0.1, t1.1, t2.1⟩
  intro p mp'
  simp only [List.mem_cons, List.not_mem_nil, or_false] at mp'
  rcases mp' with rfl | rfl | rfl
  · exact v_o0.2.mono (by decide)
  · exact t1.2
  · exact t2.2
abbrev pA : PL := [⟨1, 0⟩, ⟨2, 1⟩]
abbrev pB : PL := [⟨-1, 0⟩, ⟨2, 0⟩, ⟨0, 1⟩]
abbrev pC : PL := [⟨-1, -1⟩, ⟨1 / 2, -1 / 2⟩, ⟨0, 1⟩]
/-- from the drawn points on -/
theorem craft_end {a : Addr} {ps : PL} (bp : ∀ p ∈ ps, Bp 10 p) (l5 : ps.length ≤ 5) (m0 : o0 ∈ ps) (sort : Int) (o3 : Option D) : ∃ P, evSs PHI t2_law_craft [some (.ref a), some (.int sort), some (.lst (ps.map vD)), o3, none] = some (.rt (pD P)) ∧ Crf 10 P ∧ P.length ≤ 8 := by
  have tail : ∀ qs : PL, (∀ p ∈ qs, Bp 10 p) → qs.length ≤ 8 → o0 ∈ qs → ∃ P, evSs PHI t5_law_craft [some (.ref a), some (.int sort), some (.lst (qs.map vD)), o3, none] = some (.rt (pD P)) ∧ Crf 10 P ∧ P.length ≤ 8 := by
    intro qs bq lq mq
    have ne : qs ≠ [] := by rintro rfl; cases mq
    have hu := f_law_hull ne (by omega) bq (by omega)
    have ln := hullQ_len ne
    by_cases z : 2 < (hullQ qs).length
    · have z' : (2 : Int) < ((hullQ qs).length : Int) := by omega
      refine ⟨hullQ qs, ?_, hull_crf (by omega) (by omega) bq (le0 mq), by omega⟩
      refine run_nx (σ' := [some (.ref a), some (.int sort), some (pD (hullQ qs)), o3, none]) (by simp [hu]) ?_
      exact run_rt (by simp [z, z'])
    · have z' : ¬ (2 : Int) < ((hullQ qs).length : Int) := by omega
      obtain ⟨t, e0, e1, e2⟩ := tri_crf
      refine ⟨_, ?_, t, by simp⟩
      refine run_nx (σ' := [some (.ref a), some (.int sort), some (pD (hullQ qs)), o3, none]) (by simp [hu]) ?_
      have ep : pD [o0, ⟨2, 0⟩, ⟨0, 1⟩] = .tup [V3 0 0 1, V3 2 0 1, V3 0 1 1] := by rw [e0, e1, e2]; rfl
      rw [ep]
      exact run_rt (by simp [z, z'])
  have t10 := vT (n := 10) (a := 1) (b := 0) (c := 1) ⟨1, 0⟩ (by decide) (by decide) (by unfold B; decide) (by unfold B; decide) (by unfold B; decide) (by simp) (by simp)
  have t21 := vT (n := 10) (a := 2) (b := 1) (c := 1) ⟨2, 1⟩ (by decide) (by decide) (by unfold B; decide) (by unfold B; decide) (by unfold B; decide) (by simp) (by simp)
  have tm0 := vT (n := 10) (a := -1) (b := 0) (c := 1) ⟨-1, 0⟩ (by decide) (by decide) (by unfold B; decide) (by unfold B; decide) (by unfold B; decide) (by simp) (by simp)
  have t20 := vT (n := 10) (a := 2) (b := 0) (c := 1) ⟨2, 0⟩ (by decide) (by decide) (by unfold B; decide) (by unfold B; decide) (by unfold B; decide) (by simp) (by simp)
  have t01 := vT (n := 10) (a := 0) (b := 1) (c := 1) ⟨0, 1⟩ (by decide) (by decide) (by unfold B; decide) (by unfold B; decide) (by unfold B; decide) (by simp) (by simp)
  have tmm := vT (n := 10) (a := -1) (b := -1) (c := 1) ⟨-1, -1⟩ (by decide) (by decide) (by unfold B; decide) (by unfold B; decide) (by unfold B; decide) (by simp) (by simp)
  have th := vT (n := 10) (a := 1) (b := -1) (c := 2) ⟨1 / 2, -1 / 2⟩ (by decide) (by decide) (by unfold B; decide) (by unfold B; decide) (by unfold B; decide) (by push_cast; grind) (by push_cast; grind)
  have lcx : lcE PHI (.nm 4) .nil e1_law_craft [some (.ref a), some (.int sort), some (.lst (ps.map vD)), o3, none] (ps.map vD) = some (ps.map fun p => vD (absx p)) := lcM fun p mp' => by
    obtain ⟨x, y, w, e, _⟩ := pt_ints (bp p mp')
    have k := (abs_x (bp p mp') e).1
    refine ⟨[some (.ref a), some (.int sort), some (.lst (ps.map vD)), o3, some (vD p)], by simp, ?_⟩
    rw [e, ← k]
    simp
  have lcy : lcE PHI (.nm 4) .nil e2_law_craft [some (.ref a), some (.int sort), some (.lst (ps.map vD)), o3, none] (ps.map vD) = some (ps.map fun p => vD (absy p)) := lcM fun p mp' => by
    obtain ⟨x, y, w, e, _⟩ := pt_ints (bp p mp')
    have k := (abs_y (bp p mp') e).1
    refine ⟨[some (.ref a), some (.int sort), some (.lst (ps.map vD)), o3, some (vD p)], by simp, ?_⟩
    rw [e, ← k]
    simp
  have xx := ev_lcf (Φ := PHI) (m := false) (it := .seq (.var 2)) (own := [("_law_spot_here", 4)]) (σ := [some (.ref a), some (.int sort), some (.lst (ps.map vD)), o3, none]) rfl (by simp) (by simp [pA, pB, pC]; omega) lcx
  have xy := ev_lcf (Φ := PHI) (m := false) (it := .seq (.var 2)) (own := [("_law_spot_here", 4)]) (σ := [some (.ref a), some (.int sort), some (.lst (ps.map vD)), o3, none]) rfl (by simp) (by simp [pA, pB, pC]; omega) lcy
  have ax0 : absx o0 = o0 := by unfold absx o0; simp
  have ay0 : absy o0 = o0 := by unfold absy o0; simp
  by_cases c1 : sort < 2
  · obtain ⟨P, e, cf⟩ := tail (ps.map absx ++ pA) (by
      intro p mp'
      rcases List.mem_append.mp mp' with h | h
      · obtain ⟨q, mq, rfl⟩ := List.mem_map.mp h
        obtain ⟨x, y, w, e, _⟩ := pt_ints (bp q mq)
        exact (abs_x (bp q mq) e).2
      · simp only [pA, pB, pC, List.mem_cons, List.not_mem_nil, or_false] at h
        rcases h with rfl | rfl
        · exact t10.2
        · exact t21.2) (by simp [pA, pB, pC]; omega) (List.mem_append_left _ (List.mem_map.mpr ⟨o0, m0, ax0⟩))
    refine ⟨P, ?_, cf⟩
    have n2 : ¬ sort = 2 := by omega
    have n4 : ¬ 4 < sort := by omega
    have ll : ps.length + 2 ≤ 16777216 := by omega
    refine run_nx (σ' := [some (.ref a), some (.int sort), some (.lst ((ps.map absx ++ pA).map vD)), o3, none]) (by
      rw [evS_ife]
      simp only [ev_cmp, ev_var, ev_cst]
      refine Eq.trans (b := evSs PHI (.cons (.asg (.nm 2) (.bin .Add false (.lc false (.nm 4) (.seq (.var 2)) .nil e1_law_craft [("_law_spot_here", 4)]) (.lst false (.cons (.tup (.cons (.cst (.int 1)) (.cons (.cst (.int 0)) (.cons (.cst (.int 1)) .nil)))) (.cons (.tup (.cons (.cst (.int 2)) (.cons (.cst (.int 1)) (.cons (.cst (.int 1)) .nil)))) .nil))))) .nil) [some (.ref a), some (.int sort), some (.lst (ps.map vD)), o3, none]) (by simp [c1]) ?_
      refine run_nx ?_ rfl
      rw [evS_asg, ev_bin, xx, List.map_append, List.map_map]
      simp only [pA, pB, pC, List.map_cons, List.map_nil, ← t10.1, ← t21.1]
      simp [ll]) ?_
    refine run_nx (σ' := [some (.ref a), some (.int sort), some (.lst ((ps.map absx ++ pA).map vD)), o3, none]) (by generalize (ps.map absx ++ pA).map vD = G; simp [n2]) ?_
    refine run_nx (σ' := [some (.ref a), some (.int sort), some (.lst ((ps.map absx ++ pA).map vD)), o3, none]) (by generalize (ps.map absx ++ pA).map vD = G; simp [n4]) ?_
    exact e
  · by_cases c2 : sort = 2
    · subst c2
      obtain ⟨P, e, cf⟩ := tail (ps.map absy ++ pB) (by
        intro p mp'
        rcases List.mem_append.mp mp' with h | h
        · obtain ⟨q, mq, rfl⟩ := List.mem_map.mp h
          obtain ⟨x, y, w, e, _⟩ := pt_ints (bp q mq)
          exact (abs_y (bp q mq) e).2
        · simp only [pA, pB, pC, List.mem_cons, List.not_mem_nil, or_false] at h
          rcases h with rfl | rfl | rfl
          · exact tm0.2
          · exact t20.2
          · exact t01.2) (by simp [pA, pB, pC]; omega) (List.mem_append_left _ (List.mem_map.mpr ⟨o0, m0, ay0⟩))
      refine ⟨P, ?_, cf⟩
      have ll : ps.length + 3 ≤ 16777216 := by omega
      refine run_nx (σ' := [some (.ref a), some (.int 2), some (.lst (ps.map vD)), o3, none]) (by simp) ?_
      refine run_nx (σ' := [some (.ref a), some (.int 2), some (.lst ((ps.map absy ++ pB).map vD)), o3, none]) (by
        rw [evS_ife]
        simp only [ev_cmp, ev_var, ev_cst]
        refine Eq.trans (b := evSs PHI (.cons (.asg (.nm 2) (.bin .Add false (.lc false (.nm 4) (.seq (.var 2)) .nil e2_law_craft [("_law_spot_here", 4)]) (.lst false (.cons (.tup (.cons (.neg (.cst (.int 1))) (.cons (.cst (.int 0)) (.cons (.cst (.int 1)) .nil)))) (.cons (.tup (.cons (.cst (.int 2)) (.cons (.cst (.int 0)) (.cons (.cst (.int 1)) .nil)))) (.cons (.tup (.cons (.cst (.int 0)) (.cons (.cst (.int 1)) (.cons (.cst (.int 1)) .nil)))) .nil)))))) .nil) [some (.ref a), some (.int 2), some (.lst (ps.map vD)), o3, none]) (by simp) ?_
        refine run_nx ?_ rfl
        rw [evS_asg, ev_bin, xy, List.map_append, List.map_map]
        simp only [pA, pB, pC, List.map_cons, List.map_nil, ← tm0.1, ← t20.1, ← t01.1]
        simp [ll]) ?_
      refine run_nx (σ' := [some (.ref a), some (.int 2), some (.lst ((ps.map absy ++ pB).map vD)), o3, none]) (by generalize (ps.map absy ++ pB).map vD = G; simp) ?_
      exact e
    · by_cases c4 : 4 < sort
      · obtain ⟨P, e, cf⟩ := tail (ps ++ pC) (by
          intro p mp'
          rcases List.mem_append.mp mp' with h | h
          · exact bp p h
          · simp only [pA, pB, pC, List.mem_cons, List.not_mem_nil, or_false] at h
            rcases h with rfl | rfl | rfl
            · exact tmm.2
            · exact th.2
            · exact t01.2) (by simp [pA, pB, pC]; omega) (List.mem_append_left _ m0)
        refine ⟨P, ?_, cf⟩
        have ll : ps.length + 3 ≤ 16777216 := by omega
        refine run_nx (σ' := [some (.ref a), some (.int sort), some (.lst (ps.map vD)), o3, none]) (by simp [c1]) ?_
        refine run_nx (σ' := [some (.ref a), some (.int sort), some (.lst (ps.map vD)), o3, none]) (by simp [c2]) ?_
        refine run_nx (σ' := [some (.ref a), some (.int sort), some (.lst ((ps ++ pC).map vD)), o3, none]) (by
          rw [List.map_append]
          simp only [pA, pB, pC, List.map_cons, List.map_nil, ← tmm.1, ← th.1, ← t01.1]
          simp [c4, ll]) ?_
        exact e
      · obtain ⟨P, e, cf⟩ := tail ps bp (by omega) m0
        refine ⟨P, ?_, cf⟩
        refine run_nx (σ' := [some (.ref a), some (.int sort), some (.lst (ps.map vD)), o3, none]) (by simp [c1]) ?_
        refine run_nx (σ' := [some (.ref a), some (.int sort), some (.lst (ps.map vD)), o3, none]) (by simp [c2]) ?_
        refine run_nx (σ' := [some (.ref a), some (.int sort), some (.lst (ps.map vD)), o3, none]) (by simp [c4]) ?_
        exact e
theorem vc_law_craft : ∀ ds h Q, (Γ 8).2 ds h Q noX → aSs Γ c_law_craft { nx := fun _ h' => Q .non h', rt := Q } (ini N_law_craft.length ds) h := by
  intro ds h Q q
  have q : sp_law_craft ds h Q noX := q
  obtain ⟨k, a, l, us, hk, rfl, ha, hs, rfl, post⟩ := q
  unfold c_law_craft
  rw [wp_sc]
  simp only [wp_asg, wp_fn, wp_cons, wp_nil, wp_var, wp_cst, cD]
  refine ⟨.ref a, rfl, rfl, u_draw ha hs (by omega) (by decide) (by decide) fun sort l1 q0 q8 s1 => ?_⟩
  rw [wp_nm]
  show aSs Γ t1_law_craft _ _ _
  rw [wp_sc]
  simp only [wp_asg, wp_bin, wp_lc0, wi_rng1, wp_fn, wp_cons, wp_nil, wp_var, wp_cst, cD]
  refine ⟨.ref a, rfl, rfl, u_draw AH.set_same s1 (by omega) (by decide) (by decide) fun r l2 r0 r3 s2 => ?_⟩
  rw [ws_add, set_set']
  refine ⟨2 + r, rfl, ⟨by omega, by omega⟩, ?_⟩
  have len : (rngD 0 (2 + r).toNat).length = (2 + r).toNat := by simp [rngD]
  refine ⟨by rw [len]; simp; omega, ?_⟩
  refine comp_inv (mon_E _) mon_true (I := fun pre acc h' => ∃ (ps : PL) (l' : List D), acc = ps.map vD ∧ ps.length = pre.length ∧ (∀ p ∈ ps, Bp 10 p) ∧ h' = h.set a l' ∧ SrL (k + 2 + 4 * pre.length) l') (ds := rngD 0 (2 + r).toNat) ?_ ?_ ?_ _ [] [] rfl _ ⟨[], l2, rfl, rfl, by simp, rfl, s2⟩
  · intros; trivial
  · rintro pre d pst acc h' e ⟨ps, l', rfl, lp, bp, rfl, s⟩
    have le : pre.length < (2 + r).toNat := by
      have := congrArg List.length e
      rw [len] at this
      simp at this
      omega
    simp only [wp_nm]
    refine ⟨true, rfl, ?_⟩
    simp only [if_true, wp_fn, wp_cons, wp_nil, wp_var]
    refine ⟨.ref a, rfl, rfl, u_spot AH.set_same s (by omega) fun p l2 b s2 => ⟨ps ++ [p], l2, by simp, by simp [lp], ?_, by rw [set_set'], ?_⟩⟩
    · intro x mx
      rcases List.mem_append.mp mx with mx | mx
      · exact bp x mx
      · rw [List.mem_singleton.mp mx]; exact b
    · refine s2.mono ?_
      simp
      omega
  · rintro acc h' ⟨ps, l', rfl, lp, bp, rfl, s⟩
    rw [len] at lp s
    simp only [wn_f, wp_lst, wp_cons, wp_nil, wp_tup, wp_cst, cD]
    refine ⟨by simp, by simp, ?_⟩
    rw [ws_addL, wn_f]
    refine ⟨by simp; omega, ?_⟩
    rw [wp_nm]
    have e0 : ps.map vD ++ [V3 0 0 1] = (ps ++ [o0]).map vD := by rw [List.map_append, v_o0.1]; rfl
    rw [e0]
    obtain ⟨P, e, cf⟩ := craft_end (a := a) (ps := ps ++ [o0]) (by
      intro x mx
      rcases List.mem_append.mp mx with mx | mx
      · exact bp x mx
      · rw [List.mem_singleton.mp mx]; exact v_o0.2.mono (by decide)) (by simp; omega) (by simp) sort none
    exact evSs_ok gL t2_law_craft _ _ e _ _ (post _ _ ⟨P, rfl, cf.1, cf.2⟩ (s.mono (by omega)))
theorem u_craft {h : AH} {Q : AQ} {a : Addr} {l : List D} {k : Nat} (ha : h a = some l) (hs : SrL k l) (hk : k + 60 < 1000000) (q : ∀ P l', Crf 10 P → P.length ≤ 8 → SrL (k + 60) l' → Q (pD P) (h.set a l')) : up (Γ 8).2 [.ref a] h Q noX :=
  spD_use (c := 60) ha hs hk rfl fun r l' ⟨P, e, c, c8⟩ s => by
    subst e
    exact q P l' c c8 s
end K27

open PySem L2
set_option Elab.async false
set_option linter.all false
set_option maxRecDepth 100000
set_option maxHeartbeats 2000000
namespace K27
open PySem PySem.Spec PyProof.Rows L2 WF WV WP
theorem second_all {a : Addr} {h : AH} {Q : AQ} {k : Nat} {l : List D} {P : PL} (cf : Crf 10 P) (l8 : P.length ≤ 8) (hk : k + 70 < 1000000) (hs : SrL k l) (post : ∀ Q' l', Crf 13 Q' → SrL (k + 70) l' → Q (pD Q') (h.set a l')) : aSs Γ c_law_second { nx := fun _ h' => Q .non h', rt := Q } (ini N_law_second.length [.ref a, pD P]) (h.set a l) := by
  have l3 := cf.l3
  have l12 := cf.l12
  have nep : P ≠ [] := by rintro rfl; simp at l3
  unfold c_law_second
  rw [wp_sc]
  simp only [wp_asg, wp_fn, wp_cons, wp_nil, wp_var, wp_cst, cD]
  refine ⟨.ref a, rfl, rfl, u_draw AH.set_same hs (by omega) (by decide) (by decide) fun sort l1 q0 q8 s1 => ?_⟩
  rw [set_set', wp_nm]
  show aSs Γ t1_law_second _ [some (.ref a), some (pD P), some (.int sort), none, none] _
  rw [wp_sc, wp_if]
  by_cases c0 : sort = 0
  · refine wp_ev gL (d := .bl true) (by simp [c0]) ⟨true, rfl, ?_⟩
    rw [if_pos rfl]
    simp only [wp_sc, wp_ret, wp_var]
    exact ⟨_, rfl, post P l1 (cf.mono (by omega)) (s1.mono (by omega))⟩
  refine wp_ev gL (d := .bl false) (by simp [c0]) ⟨false, rfl, ?_⟩
  rw [if_neg (by decide)]
  simp only [wp_sn]
  show aSs Γ t2_law_second _ [some (.ref a), some (pD P), some (.int sort), none, none] _
  rw [wp_sc, wp_if]
  by_cases c1 : sort = 1
  · refine wp_ev gL (d := .bl true) (by simp [c1]) ⟨true, rfl, ?_⟩
    rw [if_pos rfl]
    simp only [wp_sc, wp_ret, wp_fn, wp_cons, wp_nil, wp_var, wp_tup, wp_cst, cD]
    refine ⟨pD P, rfl, .ref a, rfl, by simp, by simp, by simp, by simp, by simp, rfl, u_pick (es := [V2 1 2, V2 2 1, V2 3 4, V2 5 3]) rfl (by simp) (by simp) AH.set_same s1 (by omega) fun d l2 md s2 => ?_⟩
    obtain ⟨x, y, rfl, x0, y0, bx, by_⟩ : ∃ x y : Int, d = V2 x y ∧ 0 < x ∧ 0 < y ∧ B 3 x ∧ B 3 y := by
      simp only [List.mem_cons, List.not_mem_nil, or_false] at md
      rcases md with rfl | rfl | rfl | rfl <;> exact ⟨_, _, rfl, by decide, by decide, by unfold B; decide, by unfold B; decide⟩
    have yr := ratne y0
    obtain ⟨e, c⟩ := f_law_sized cf bx by_ x0 y0 (r := (x : Rat) / y) (by grind) (by omega)
    rw [set_set']
    exact ⟨rfl, up_F.mpr ⟨_, e, post _ _ c (s2.mono (by omega))⟩⟩
  refine wp_ev gL (d := .bl false) (by simp [c1]) ⟨false, rfl, ?_⟩
  rw [if_neg (by decide)]
  simp only [wp_sn]
  show aSs Γ t3_law_second _ [some (.ref a), some (pD P), some (.int sort), none, none] _
  rw [wp_sc, wp_if]
  by_cases c4 : sort < 4
  · refine wp_ev gL (d := .bl true) (by simp [c4]) ⟨true, rfl, ?_⟩
    rw [if_pos rfl]
    simp only [wp_sc, wp_ret, wp_fn, wp_cons, wp_nil, wp_bin, wp_bi, wp_var, wp_lst]
    refine ⟨pD P, rfl, ?_⟩
    rw [wb_list]
    refine ⟨_, rfl, ?_⟩
    rw [wn_f]
    refine ⟨.ref a, rfl, rfl, u_spot AH.set_same s1 (by omega) fun p l2 bp s2 => ⟨by simp, ?_⟩⟩
    rw [set_set', wn_f, ws_addL, wn_f]
    have e0 : P.map vD ++ [vD p] = (P ++ [p]).map vD := by rw [List.map_append]; rfl
    rw [e0]
    have bq : ∀ x ∈ P ++ [p], Bp 10 x := fun x mx => by
      rcases List.mem_append.mp mx with m | m
      · exact cf.bp x m
      · rw [List.mem_singleton.mp m]; exact bp
    have ne : P ++ [p] ≠ [] := by simp
    have hu := f_law_hull ne (by simp; omega) bq (by simp; omega)
    have cn := hullQ_can ne
    have le0' : Le [o0] (P ++ [p]) := ((in_iff cf.can).mp cf.in0).trans (Le.of_sub fun a m => List.mem_append_left _ m)
    have h3 : 3 ≤ (hullQ (P ++ [p])).length := by
      obtain ⟨x, y, z, hx, hy, hz, dn⟩ : ∃ x y z, x ∈ P ∧ y ∈ P ∧ z ∈ P ∧ det x y z ≠ 0 := by
        match P, l3, cf.can with
        | x :: y :: z :: t, _, c =>
          have := c.tri x y z (by simp)
          exact ⟨x, y, z, by simp, by simp, by simp, by grind⟩
      exact hull_three (List.mem_append_left _ hx) (List.mem_append_left _ hy) (List.mem_append_left _ hz) dn
    have cfq : Crf 13 (hullQ (P ++ [p])) := by
      have := hullQ_len ne
      have lq : (hullQ (P ++ [p])).length ≤ 12 := by simp at this; omega
      exact ⟨cn, h3, lq, fun x mx => (bq x (hullQ_sub ne x mx)).mono (by omega), (in_iff cn).mpr (le0'.trans (hullQ_le ne))⟩
    exact ⟨by simp; omega, rfl, up_F.mpr ⟨_, hu, post _ _ cfq (s2.mono (by omega))⟩⟩
  refine wp_ev gL (d := .bl false) (by simp [c4]) ⟨false, rfl, ?_⟩
  rw [if_neg (by decide)]
  simp only [wp_sn]
  show aSs Γ t4_law_second _ [some (.ref a), some (pD P), some (.int sort), none, none] _
  obtain ⟨_, z, _, mz, _, hz⟩ := first_last nep
  let ps : PL := P.filter fun p => !decide (p = z)
  have lps : ps.length ≤ P.length := List.length_filter_le _ _
  have bq : ∀ x ∈ ps ++ [o0], Bp 10 x := fun x mx => by
    rcases List.mem_append.mp mx with m | m
    · exact cf.bp x (List.mem_filter.mp m).1
    · rw [List.mem_singleton.mp m]; exact v_o0.2.mono (by decide)
  have ne : ps ++ [o0] ≠ [] := by simp
  have hu := f_law_hull ne (by simp; omega) bq (by simp; omega)
  have ln := hullQ_len ne
  have lc : lcE PHI (.nm 4) (.cons (.cmp .NotEq (.var 4) (.idx (.var 1) (.neg (.cst (.int 1))))) .nil) (.var 4) [some (.ref a), some (pD P), some (.int sort), none, none] (P.map vD) = some (ps.map vD) := lcF fun p mp' => ⟨[some (.ref a), some (pD P), some (.int sort), none, some (vD p)], by simp, by
    rw [ev_cmp, ev_idx]
    simp only [ev_var, ev_neg, ev_cst]
    simp [pD, -atI_def, hz, eqE_vD], fun _ => by simp⟩
  have x1 := ev_lcf (Φ := PHI) (m := false) (it := .seq (.var 1)) (own := [("_law_spot_here", 4)]) (σ := [some (.ref a), some (pD P), some (.int sort), none, none]) rfl (by simp) (by simp; omega) lc
  have e0 : ps.map vD ++ [V3 0 0 1] = (ps ++ [o0]).map vD := by rw [List.map_append, v_o0.1]; rfl
  have ll : (ps.map vD).length + 1 ≤ 16777216 := by simp; omega
  refine seq_to gL (σ' := [some (.ref a), some (pD P), some (.int sort), some (pD (hullQ (ps ++ [o0]))), none]) (by
    rw [evS_asg, ev_fn, evA, ev_bin, x1]
    simp only [Option.bind_some, ev_lst, evA, ev_tup, ev_cst, cD]
    have hu' : F_law_hull [.lst (ps.map vD ++ [V3 0 0 1])] = some (pD (hullQ (ps ++ [o0]))) := by rw [e0]; exact hu
    generalize ps.map vD = G at *
    simp [ll, hu']) ?_
  rw [wp_sc, wp_ret, wp_ife]
  by_cases c5 : sort = 4 ∧ 2 < (hullQ (ps ++ [o0])).length
  · have z2 : (2 : Int) < ((hullQ (ps ++ [o0])).length : Int) := by omega
    refine wp_ev gL (d := .bl true) (by simp [c5.1, z2]) ⟨true, rfl, ?_⟩
    rw [if_pos rfl]
    simp only [wp_var]
    refine ⟨_, rfl, post _ _ ((hull_crf (by omega) (by simp; omega) bq (le0 (by simp))).mono (by omega)) (s1.mono (by omega))⟩
  · refine wp_ev gL (d := .bl false) (by
      by_cases z : sort = 4
      · have : ¬ 2 < (hullQ (ps ++ [o0])).length := fun q => c5 ⟨z, q⟩
        have z2 : ¬ (2 : Int) < ((hullQ (ps ++ [o0])).length : Int) := by omega
        simp [z, z2]
      · simp [z]) ⟨false, rfl, ?_⟩
    rw [if_neg (by decide)]
    simp only [wp_fn, wp_cons, wp_nil, wp_var]
    refine ⟨.ref a, rfl, rfl, u_craft AH.set_same s1 (by omega) fun Q' l2 c' _ s2 => ?_⟩
    rw [set_set']
    exact post _ _ (c'.mono (by omega)) (s2.mono (by omega))
theorem vc_law_second : ∀ ds h Q, (Γ 11).2 ds h Q noX → aSs Γ c_law_second { nx := fun _ h' => Q .non h', rt := Q } (ini N_law_second.length ds) h := by
  intro ds h Q q
  have q : sp_law_second ds h Q noX := q
  obtain ⟨k, a, l, us, hk, rfl, ha, hs, ⟨P, rfl, cf, l8⟩, post⟩ := q
  have e : h = h.set a l := by
    funext b
    by_cases z : b = a
    · subst z; rw [AH.set_same, ha]
    · rw [AH.set_ne z]
  rw [e]
  exact second_all cf l8 (by omega) hs fun Q' l' c s => post _ _ ⟨Q', rfl, c⟩ s
theorem u_second {h : AH} {Q : AQ} {a : Addr} {l : List D} {k : Nat} {P : PL} (cf : Crf 10 P) (l8 : P.length ≤ 8) (ha : h a = some l) (hs : SrL k l) (hk : k + 70 < 1000000) (q : ∀ Q' l', Crf 13 Q' → SrL (k + 70) l' → Q (pD Q') (h.set a l')) : up (Γ 11).2 [.ref a, pD P] h Q noX :=
  spD_use (c := 70) ha hs hk ⟨P, rfl, cf, l8⟩ fun r l' ⟨Q', e, c⟩ s => by
    subst e
    exact q Q' l' c s
end K27

open PySem L2
set_option Elab.async false
set_option linter.all false
set_option maxRecDepth 100000
set_option maxHeartbeats 2000000
namespace K27
open PySem PySem.Spec PyProof.Rows L2 WF WV WP
theorem three_det {P : PL} (c : Can P) (l3 : 3 ≤ P.length) : ∃ x y z, x ∈ P ∧ y ∈ P ∧ z ∈ P ∧ det x y z ≠ 0 := by
  match P, l3, c with
  | x :: y :: z :: t, _, c =>
    have := c.tri x y z (by simp)
    exact ⟨x, y, z, by simp, by simp, by simp, by grind⟩
theorem larger_in {P : PL} {n : Nat} (k : Crf n P) {r : Rat} (r1 : 1 < r) : (∀ q ∈ P, In (P.map (mulP r)) q) ∧ ¬ ∀ q ∈ P.map (mulP r), In P q := by
  have r0 : 0 < r := by grind
  have c := k.can
  have cm := can_mul r0 c
  constructor
  · intro q mq
    refine (in_iff cm).mpr fun m x mx => ?_
    rw [List.mem_singleton.mp mx]
    obtain ⟨b, mb, hb⟩ := maxd m c.ne
    obtain ⟨y, my, hy⟩ := (in_iff c).mp k.in0 m o0 (by simp)
    have z : dot m o0 = 0 := by unfold dot o0; grind
    have b0 : 0 ≤ dot m b := by have := hb y my; grind
    refine ⟨mulP r b, List.mem_map.mpr ⟨b, mb, rfl⟩, ?_⟩
    have e : dot m (mulP r b) = r * dot m b := by unfold dot mulP; grind
    rw [e]
    have := hb q mq
    have := mn (show 0 ≤ r - 1 by grind) b0
    grind
  · intro h
    obtain ⟨p, mp', pn⟩ : ∃ p ∈ P, p ≠ o0 := by
      have l3 := k.l3
      match P, l3, c with
      | x :: y :: t, _, c =>
        have l := c.fst x (y :: t) rfl y (by simp)
        by_cases z : x = o0
        · refine ⟨y, by simp, fun w => ?_⟩
          rw [z, w] at l
          exact lt_irr l
        · exact ⟨x, by simp, z⟩
    obtain ⟨t, ht, t1⟩ := (in_time c k.in0).mp (h (mulP r p) (List.mem_map.mpr ⟨p, mp', rfl⟩))
    rw [time_scale c k.in0 r0, corner_one c k.l3 k.in0 mp' pn] at ht
    simp at ht
    grind
theorem right_end {a : Addr} {P R : PL} (k : Crf 10 P) (l8 : P.length ≤ 8) (j : Crf 13 R) {vs : List Pt} (bv : ∀ v ∈ vs, Bp 60 v) (lv : vs.length ≤ 100) :
    evSs PHI (.cons s5_law_right t6_law_right) [some (.ref a), some (pD P), some (pD R), some (.lst (vs.map vD)), none, none, none] = some (.rt (.bl true)) := by
  have k13 := k.mono (m := 13) (by omega)
  have f := k13.fig (by omega)
  have g := j.fig (by omega)
  have e1 := f_told_right k13 j bv lv
  have e2 := f_told_right j k13 bv lv
  have l12 := j.l12
  -- both together
  have ne : P ++ R ≠ [] := by have := k.l3; intro z; rw [(List.append_eq_nil_iff.mp z).1] at this; simp at this
  have bw : ∀ x ∈ P ++ R, Bp 13 x := fun x mx => by
    rcases List.mem_append.mp mx with m | m
    · exact k13.bp x m
    · exact j.bp x m
  have hu := f_law_hullS (L := .tup ((P ++ R).map vD)) rfl ne (by simp; omega) bw (by simp; omega)
  have cw := hullQ_can ne
  have lw := hullQ_len ne
  have le := hullQ_le ne
  have hin : ∀ x ∈ P ++ R, In (hullQ (P ++ R)) x := fun x mx => (in_iff cw).mpr (le_iff.mp le x mx)
  have w3 : 3 ≤ (hullQ (P ++ R)).length := by
    obtain ⟨x, y, z, hx, hy, hz, dn⟩ := three_det k.can k.l3
    exact hull_three (List.mem_append_left _ hx) (List.mem_append_left _ hy) (List.mem_append_left _ hz) dn
  have fw : Fig 13 (hullQ (P ++ R)) := ⟨cw, w3, by simp at lw; omega, fun x mx => bw x (hullQ_sub ne x mx), ⟨by simp at lw; omega, by omega⟩, (in_iff cw).mpr ((((in_iff k.can).mp k.in0).trans (Le.of_sub fun a m => List.mem_append_left _ m)).trans le)⟩
  obtain ⟨b1, n1, h1⟩ := f_never_later fw f (by omega)
  obtain ⟨b2, n2, h2⟩ := f_never_later fw g (by omega)
  have t1 : b1 = true := h1.mpr fun q mq => hin q (List.mem_append_left _ mq)
  have t2 : b2 = true := h2.mpr fun q mq => hin q (List.mem_append_right _ mq)
  have p1 := f_parting f f (by omega)
  have nf : P.find? (outB P) = none := List.find?_eq_none.mpr fun q mq => by
    have := corner_in k.can mq
    unfold outB
    simp [this]
  rw [nf] at p1
  subst t1 t2
  -- a larger one
  obtain ⟨es, cs⟩ := f_law_sized k (a := 4) (b := 3) (r := 4 / 3) (m := 3) (by unfold B; decide) (by unfold B; decide) (by decide) (by decide) (by grind) (by omega)
  obtain ⟨i1, i2⟩ := larger_in k (r := 4 / 3) (by grind)
  have fs := cs.fig (by omega)
  obtain ⟨b3, n3, h3⟩ := f_never_later fs f (by omega)
  obtain ⟨b4, n4, h4⟩ := f_never_later f fs (by omega)
  have t3 : b3 = true := h3.mpr i1
  have t4 : b4 = false := by
    cases b4 with
    | false => rfl
    | true => exact absurd (h4.mp rfl) i2
  have p2 := f_parting fs f (by omega)
  have nf2 : P.find? (outB (P.map (mulP (4 / 3)))) = none := List.find?_eq_none.mpr fun q mq => by
    have := i1 q mq
    unfold outB
    simp [this]
  rw [nf2] at p2
  subst t3 t4
  have r1 : reprE (.lst [.bl true, .bl true, .non]) = some (.str "[True, True, None]") := by
    rw [repr_eq (shw_l (k := 5) (e := 1) (m := 3) (fun d m => by rcases mem3 m with rfl | rfl | rfl; exact Shw.bl; exact Shw.bl; exact Shw.non.mono (by decide) (by decide)) (by simp)) (by decide) (by decide)]
    rfl
  have r2 : reprE (.lst [.bl true, .bl false, .non]) = some (.str "[True, False, None]") := by
    rw [repr_eq (shw_l (k := 5) (e := 1) (m := 3) (fun d m => by rcases mem3 m with rfl | rfl | rfl; exact Shw.bl; exact Shw.bl; exact Shw.non.mono (by decide) (by decide)) (by simp)) (by decide) (by decide)]
    rfl
  have ll : P.length + R.length ≤ 16777216 := by omega
  rw [List.map_append] at hu
  refine run_nx (σ' := [some (.ref a), some (pD P), some (pD R), some (.lst (vs.map vD)), none, none, none]) (by simp [e1, e2]) ?_
  refine run_nx (σ' := [some (.ref a), some (pD P), some (pD R), some (.lst (vs.map vD)), some (pD (hullQ (P ++ R))), none, none]) (by
    simp only [pD] at hu
    simp [pD, ll, hu]) ?_
  refine run_nx (σ' := [some (.ref a), some (pD P), some (pD R), some (.lst (vs.map vD)), some (pD (hullQ (P ++ R))), none, none]) (by simp [n1, n2, p1, oV, r1]) ?_
  refine run_nx (σ' := [some (.ref a), some (pD P), some (pD R), some (.lst (vs.map vD)), some (pD (hullQ (P ++ R))), some (pD (P.map (mulP (4 / 3)))), none]) (by simp [es]) ?_
  refine run_nx (σ' := [some (.ref a), some (pD P), some (pD R), some (.lst (vs.map vD)), some (pD (hullQ (P ++ R))), some (pD (P.map (mulP (4 / 3)))), some (.lst [.bl true, .bl false, .non])]) (by simp [n3, n4, p2, oV]) ?_
  exact run_rt (by simp [r2])
theorem vc_law_right : ∀ ds h Q, (Γ 53).2 ds h Q noX → aSs Γ c_law_right { nx := fun _ h' => Q .non h', rt := Q } (ini N_law_right.length ds) h := by
  intro ds h Q q
  have q : sp_law_right ds h Q noX := q
  obtain ⟨a, l, rfl, ha, hs, post⟩ := q
  unfold c_law_right
  rw [wp_sc]
  simp only [wp_asg, wp_fn, wp_cons, wp_nil, wp_var]
  refine ⟨.ref a, rfl, rfl, u_craft ha hs (by omega) fun P l1 k l8 s1 => ?_⟩
  rw [wp_nm]
  show aSs Γ t1_law_right _ _ _
  rw [wp_sc]
  simp only [wp_asg, wp_fn, wp_cons, wp_nil, wp_var]
  refine ⟨.ref a, rfl, pD P, rfl, rfl, u_second k l8 AH.set_same s1 (by omega) fun R l2 j s2 => ?_⟩
  rw [set_set', wp_nm]
  show aSs Γ t2_law_right _ _ _
  have nP : P.map vD ≠ [] := by have := k.l3; intro z; rw [List.map_eq_nil_iff.mp z] at this; simp at this
  have nR : R.map vD ≠ [] := by have := j.l3; intro z; rw [List.map_eq_nil_iff.mp z] at this; simp at this
  have l12 := j.l12
  rw [wp_sc]
  simp only [wp_asg, wp_lst, wp_fn, wp_cons, wp_nil, wp_var]
  refine ⟨.ref a, rfl, rfl, u_spot AH.set_same s2 (by omega) fun v1 l3 bv1 s3 => ?_⟩
  refine ⟨.ref a, rfl, rfl, u_spot AH.set_same s3 (by omega) fun v2 l4 bv2 s4 => ?_⟩
  refine ⟨.ref a, rfl, pD P, rfl, rfl, u_pick (es := P.map vD) rfl nP (by simp; omega) AH.set_same s4 (by omega) fun d3 l5 m3 s5 => ?_⟩
  refine ⟨.ref a, rfl, pD R, rfl, rfl, u_pick (es := R.map vD) rfl nR (by simp; omega) AH.set_same s5 (by omega) fun d4 l6 m4 s6 => ?_⟩
  obtain ⟨v3, mv3, rfl⟩ := List.mem_map.mp m3
  obtain ⟨v4, mv4, rfl⟩ := List.mem_map.mp m4
  rw [set_set', set_set', set_set', set_set']
  refine ⟨by simp, ?_⟩
  rw [wn_t]
  intro p hp
  rw [wp_nm]
  have npa : p ≠ a := ne_of_fresh AH.set_same hp
  have hp0 : h p = none := by rw [AH.set_ne npa] at hp; exact hp
  have Hp : ∀ l xs, ((h.set a l).set p xs) p = some xs := fun l xs => AH.set_same
  have Hx : ∀ l xs ys, ((h.set a l).set p xs).set p ys = (h.set a l).set p ys := fun l xs ys => set_set'
  -- the corners that are taken
  obtain ⟨r0, rl, mr0, mrl, h0, hl⟩ := first_last (P := R) (by rintro rfl; exact nR rfl)
  obtain ⟨r1, mr1, h1⟩ : ∃ r1, r1 ∈ R ∧ atI (R.map vD) 1 = some (vD r1) := by
    match R, j.l3 with
    | x :: y :: t, _ => exact ⟨y, by simp, by rw [List.map_cons, List.map_cons]; exact at1⟩
  obtain ⟨z1, e1, b1⟩ := f_lmid (n := 13) (m := 13) (k := 3) (a := 1) (b := 2) (j.bp r0 mr0) (j.bp rl mrl) (by unfold B; decide) (by unfold B; decide) (by decide) (by omega)
  obtain ⟨z2, e2, b2⟩ := f_lmid (n := 13) (m := 13) (k := 3) (a := 1) (b := 3) (j.bp r1 mr1) (j.bp r0 mr0) (by unfold B; decide) (by unfold B; decide) (by decide) (by omega)
  obtain ⟨e3, b3⟩ := f_lgrow (n := 34) (m := 3) (a := 5) (b := 2) (r := 5 / 2) b2 (by unfold B; decide) (by unfold B; decide) (by decide) (by grind) (by omega)
  show aSs Γ t3_law_right _ [some (.ref a), some (pD P), some (pD R), some (.ref p), none, none, none] _
  rw [wp_sc, wp_expr, wp_met]
  refine ⟨.ref p, rfl, by rw [wr_ref, Hp]; simp, ?_⟩
  rw [wp_cons]
  refine wp_ev gL (d := vD z1) (by
    rw [ev_fn]
    simp only [evA, ev_idx, ev_var, ev_cst, ev_neg, ev_tup]
    simp [pD, -atI_def, h0, hl, e1]) ?_
  rw [wp_nil, wm_app]
  refine ⟨_, Hp _ _, by simp, ?_⟩
  rw [Hx]
  show aSs Γ t4_law_right _ [some (.ref a), some (pD P), some (pD R), some (.ref p), none, none, none] _
  rw [wp_sc, wp_expr, wp_met]
  refine ⟨.ref p, rfl, by rw [wr_ref, Hp]; simp, ?_⟩
  rw [wp_cons]
  refine wp_ev gL (d := vD (mulP (5 / 2) z2)) (by
    rw [ev_fn]
    simp only [evA, ev_fn, ev_idx, ev_var, ev_cst, ev_neg, ev_tup]
    simp [pD, -atI_def, h0, h1, e2, e3]) ?_
  rw [wp_nil, wm_app]
  refine ⟨_, Hp _ _, by simp, ?_⟩
  rw [Hx]
  show aSs Γ t5_law_right _ _ _
  refine wp_fz.mpr ⟨p, _, rfl, Hp _ _, ?_⟩
  have hd : ∀ xs, ((h.set a l6).set p xs).del p = h.set a l6 := fun xs => set_del (by rw [AH.set_ne npa]; exact hp0)
  rw [hd]
  have en : ([vD v1, vD v2, vD v3, vD v4] ++ [vD z1]) ++ [vD (mulP (5 / 2) z2)] = [v1, v2, v3, v4, z1, mulP (5 / 2) z2].map vD := rfl
  rw [en]
  have bv : ∀ v ∈ [v1, v2, v3, v4, z1, mulP (5 / 2) z2], Bp 60 v := fun v mv => by
    simp only [List.mem_cons, List.not_mem_nil, or_false] at mv
    rcases mv with rfl | rfl | rfl | rfl | rfl | rfl
    · exact bv1.mono (by omega)
    · exact bv2.mono (by omega)
    · exact (k.bp _ mv3).mono (by omega)
    · exact (j.bp _ mv4).mono (by omega)
    · exact b1.mono (by omega)
    · exact b3.mono (by omega)
  exact evSs_ok gL _ _ _ (right_end (a := a) k l8 j bv (by simp)) _ _ (post _)
end K27

open PySem L2
set_option Elab.async false
set_option linter.all false
set_option maxRecDepth 100000
set_option maxHeartbeats 0
namespace K27
open PySem PySem.Spec PyProof.Rows L2 WF WV WP
theorem d_law_rounds : DefC Γ nm kws gls [.gcd, .lcm] 0 "_law_rounds" (top 52) :=
  ⟨N_law_rounds, (["_law_script"] : List Str), c_law_rounds, ⟨rfl, rfl, rfl, by decide +kernel, rfl, by decide +kernel, by decide +kernel⟩, rfl, by decide +kernel, vcF gP0, fun _ _ _ _ _ _ us hl => match us, hl with | [_], _ => rfl, trivial⟩
theorem d_law_draw : DefC Γ nm kws gls [.gcd, .lcm] 1 "_law_draw" (top 53) :=
  ⟨N_law_draw, (["_law_source_here", "_law_many"] : List Str), c_law_draw, ⟨rfl, rfl, rfl, by decide +kernel, rfl, by decide +kernel, by decide +kernel⟩, rfl, by decide +kernel, vc_law_draw, fun _ _ _ _ _ _ us hl => match us, hl with | [_, _], _ => rfl, trivial⟩
theorem d_law_left : DefC Γ nm kws gls [.gcd, .lcm] 2 "_law_left" (top 57) :=
  ⟨N_law_left, (["_law_one", "_law_two", "_law_three"] : List Str), c_law_left, ⟨rfl, rfl, rfl, by decide +kernel, rfl, by decide +kernel, by decide +kernel⟩, rfl, by decide +kernel, vcF gP1, fun _ _ _ _ _ _ us hl => match us, hl with | [_, _, _], _ => rfl, trivial⟩
theorem d_law_chain : DefC Γ nm kws gls [.gcd, .lcm] 3 "_law_chain" (top 58) :=
  ⟨N_law_chain, (["_law_row"] : List Str), c_law_chain, ⟨rfl, rfl, rfl, by decide +kernel, rfl, by decide +kernel, by decide +kernel⟩, rfl, by decide +kernel, vc_law_chain, fun _ _ _ _ _ _ us hl => match us, hl with | [_], _ => rfl, trivial⟩
theorem d_law_least : DefC Γ nm kws gls [.gcd, .lcm] 4 "_law_least" (top 55) :=
  ⟨N_law_least, (["_law_numbers"] : List Str), c_law_least, ⟨rfl, rfl, rfl, by decide +kernel, rfl, by decide +kernel, by decide +kernel⟩, rfl, by decide +kernel, vcF gP4, fun _ _ _ _ _ _ us hl => match us, hl with | [_], _ => rfl, trivial⟩
theorem d_law_hull : DefC Γ nm kws gls [.gcd, .lcm] 5 "_law_hull" (top 59) :=
  ⟨N_law_hull, (["_law_spots"] : List Str), c_law_hull, ⟨rfl, rfl, rfl, by decide +kernel, rfl, by decide +kernel, by decide +kernel⟩, rfl, by decide +kernel, vcF gP5, fun _ _ _ _ _ _ us hl => match us, hl with | [_], _ => rfl, trivial⟩
theorem d_law_pick : DefC Γ nm kws gls [.gcd, .lcm] 6 "_law_pick" (top 54) :=
  ⟨N_law_pick, (["_law_source_here", "_law_some"] : List Str), c_law_pick, ⟨rfl, rfl, rfl, by decide +kernel, rfl, by decide +kernel, by decide +kernel⟩, rfl, by decide +kernel, vc_law_pick, fun _ _ _ _ _ _ us hl => match us, hl with | [_, _], _ => rfl, trivial⟩
theorem d_law_spot : DefC Γ nm kws gls [.gcd, .lcm] 7 "_law_spot" (top 56) :=
  ⟨N_law_spot, (["_law_source_here"] : List Str), c_law_spot, ⟨rfl, rfl, rfl, by decide +kernel, rfl, by decide +kernel, by decide +kernel⟩, rfl, by decide +kernel, vc_law_spot, fun _ _ _ _ _ _ us hl => match us, hl with | [_], _ => rfl, trivial⟩
theorem d_law_craft : DefC Γ nm kws gls [.gcd, .lcm] 8 "_law_craft" (top 60) :=
  ⟨N_law_craft, (["_law_source_here"] : List Str), c_law_craft, ⟨rfl, rfl, rfl, by decide +kernel, rfl, by decide +kernel, by decide +kernel⟩, rfl, by decide +kernel, vc_law_craft, fun _ _ _ _ _ _ us hl => match us, hl with | [_], _ => rfl, trivial⟩
theorem d_law_grow : DefC Γ nm kws gls [.gcd, .lcm] 9 "_law_grow" (top 61) :=
  ⟨N_law_grow, (["_law_spot_here", "_law_share"] : List Str), c_law_grow, ⟨rfl, rfl, rfl, by decide +kernel, rfl, by decide +kernel, by decide +kernel⟩, rfl, by decide +kernel, vcF gP6, fun _ _ _ _ _ _ us hl => match us, hl with | [_, _], _ => rfl, trivial⟩
theorem d_law_sized : DefC Γ nm kws gls [.gcd, .lcm] 10 "_law_sized" (top 62) :=
  ⟨N_law_sized, (["_law_shape", "_law_share"] : List Str), c_law_sized, ⟨rfl, rfl, rfl, by decide +kernel, rfl, by decide +kernel, by decide +kernel⟩, rfl, by decide +kernel, vcF gP10, fun _ _ _ _ _ _ us hl => match us, hl with | [_, _], _ => rfl, trivial⟩
theorem d_law_second : DefC Γ nm kws gls [.gcd, .lcm] 11 "_law_second" (top 63) :=
  ⟨N_law_second, (["_law_source_here", "_law_craft_here"] : List Str), c_law_second, ⟨rfl, rfl, rfl, by decide +kernel, rfl, by decide +kernel, by decide +kernel⟩, rfl, by decide +kernel, vc_law_second, fun _ _ _ _ _ _ us hl => match us, hl with | [_, _], _ => rfl, trivial⟩
theorem d_law_add : DefC Γ nm kws gls [.gcd, .lcm] 12 "_law_add" (top 69) :=
  ⟨N_law_add, (["_law_one", "_law_two"] : List Str), c_law_add, ⟨rfl, rfl, rfl, by decide +kernel, rfl, by decide +kernel, by decide +kernel⟩, rfl, by decide +kernel, vcF gP11, fun _ _ _ _ _ _ us hl => match us, hl with | [_, _], _ => rfl, trivial⟩
theorem d_law_midway : DefC Γ nm kws gls [.gcd, .lcm] 13 "_law_midway" (top 70) :=
  ⟨N_law_midway, (["_law_one", "_law_two", "_law_share"] : List Str), c_law_midway, ⟨rfl, rfl, rfl, by decide +kernel, rfl, by decide +kernel, by decide +kernel⟩, rfl, by decide +kernel, vcF gP13, fun _ _ _ _ _ _ us hl => match us, hl with | [_, _, _], _ => rfl, trivial⟩
theorem d_common_divisor : DefC Γ nm kws gls [.gcd, .lcm] 14 "common_divisor" (top 9) :=
  ⟨N_common_divisor, (["numbers"] : List Str), c_common_divisor, ⟨rfl, rfl, rfl, by decide +kernel, rfl, by decide +kernel, by decide +kernel⟩, rfl, by decide +kernel, vcF gP14, fun _ _ _ _ _ _ us hl => match us, hl with | [_], _ => rfl, trivial⟩
theorem d_lowest : DefC Γ nm kws gls [.gcd, .lcm] 15 "lowest" (top 10) :=
  ⟨N_lowest, (["numbers"] : List Str), c_lowest, ⟨rfl, rfl, rfl, by decide +kernel, rfl, by decide +kernel, by decide +kernel⟩, rfl, by decide +kernel, vcF gP15, fun _ _ _ _ _ _ us hl => match us, hl with | [_], _ => rfl, trivial⟩
theorem d_is_left : DefC Γ nm kws gls [.gcd, .lcm] 16 "is_left" (top 28) :=
  ⟨N_is_left, (["one", "two", "three"] : List Str), c_is_left, ⟨rfl, rfl, rfl, by decide +kernel, rfl, by decide +kernel, by decide +kernel⟩, rfl, by decide +kernel, vcF gP16, fun _ _ _ _ _ _ us hl => match us, hl with | [_, _, _], _ => rfl, trivial⟩
theorem d_chain : DefC Γ nm kws gls [.gcd, .lcm] 17 "chain" (top 27) :=
  ⟨N_chain, (["rows"] : List Str), c_chain, ⟨rfl, rfl, rfl, by decide +kernel, rfl, by decide +kernel, by decide +kernel⟩, rfl, by decide +kernel, vc_chain, fun _ _ _ _ _ _ us hl => match us, hl with | [_], _ => rfl, trivial⟩
theorem d_hull : DefC Γ nm kws gls [.gcd, .lcm] 18 "hull" (top 29) :=
  ⟨N_hull, (["points"] : List Str), c_hull, ⟨rfl, rfl, rfl, by decide +kernel, rfl, by decide +kernel, by decide +kernel⟩, rfl, by decide +kernel, vcF gP18, fun _ _ _ _ _ _ us hl => match us, hl with | [_], _ => rfl, trivial⟩
theorem d_is_whole : DefC Γ nm kws gls [.gcd, .lcm] 19 "is_whole" (top 7) :=
  ⟨N_is_whole, (["value"] : List Str), c_is_whole, ⟨rfl, rfl, rfl, by decide +kernel, rfl, by decide +kernel, by decide +kernel⟩, rfl, by decide +kernel, vcF gP19, fun _ _ _ _ _ _ us hl => match us, hl with | [_], _ => rfl, trivial⟩
theorem d_are_wholes : DefC Γ nm kws gls [.gcd, .lcm] 20 "are_wholes" (top 8) :=
  ⟨N_are_wholes, (["value", "many"] : List Str), c_are_wholes, ⟨rfl, rfl, rfl, by decide +kernel, rfl, by decide +kernel, by decide +kernel⟩, rfl, by decide +kernel, vcF gP20, fun _ _ _ _ _ _ us hl => match us, hl with | [_, _], _ => rfl, trivial⟩
theorem d_is_lowest : DefC Γ nm kws gls [.gcd, .lcm] 21 "is_lowest" (top 11) :=
  ⟨N_is_lowest, (["numbers"] : List Str), c_is_lowest, ⟨rfl, rfl, rfl, by decide +kernel, rfl, by decide +kernel, by decide +kernel⟩, rfl, by decide +kernel, vcF gP21, fun _ _ _ _ _ _ us hl => match us, hl with | [_], _ => rfl, trivial⟩
theorem d_is_vector : DefC Γ nm kws gls [.gcd, .lcm] 22 "is_vector" (top 19) :=
  ⟨N_is_vector, (["value"] : List Str), c_is_vector, ⟨rfl, rfl, rfl, by decide +kernel, rfl, by decide +kernel, by decide +kernel⟩, rfl, by decide +kernel, vcF gP22, fun _ _ _ _ _ _ us hl => match us, hl with | [_], _ => rfl, trivial⟩
theorem d_is_shape : DefC Γ nm kws gls [.gcd, .lcm] 23 "is_shape" (top 30) :=
  ⟨N_is_shape, (["value"] : List Str), c_is_shape, ⟨rfl, rfl, rfl, by decide +kernel, rfl, by decide +kernel, by decide +kernel⟩, rfl, by decide +kernel, vcF gP23, fun _ _ _ _ _ _ us hl => match us, hl with | [_], _ => rfl, trivial⟩
theorem d_value_at : DefC Γ nm kws gls [.gcd, .lcm] 24 "value_at" (top 25) :=
  ⟨N_value_at, (["side", "point"] : List Str), c_value_at, ⟨rfl, rfl, rfl, by decide +kernel, rfl, by decide +kernel, by decide +kernel⟩, rfl, by decide +kernel, vcF gP24, fun _ _ _ _ _ _ us hl => match us, hl with | [_, _], _ => rfl, trivial⟩
theorem d_are_held : DefC Γ nm kws gls [.gcd, .lcm] 25 "are_held" (top 26) :=
  ⟨N_are_held, (["borders", "point"] : List Str), c_are_held, ⟨rfl, rfl, rfl, by decide +kernel, rfl, by decide +kernel, by decide +kernel⟩, rfl, by decide +kernel, vcF gP25, fun _ _ _ _ _ _ us hl => match us, hl with | [_, _], _ => rfl, trivial⟩
theorem d_step_between : DefC Γ nm kws gls [.gcd, .lcm] 26 "step_between" (top 20) :=
  ⟨N_step_between, (["one", "two"] : List Str), c_step_between, ⟨rfl, rfl, rfl, by decide +kernel, rfl, by decide +kernel, by decide +kernel⟩, rfl, by decide +kernel, vcF gP26, fun _ _ _ _ _ _ us hl => match us, hl with | [_, _], _ => rfl, trivial⟩
theorem d_side_at : DefC Γ nm kws gls [.gcd, .lcm] 27 "side_at" (top 23) :=
  ⟨N_side_at, (["normal", "point"] : List Str), c_side_at, ⟨rfl, rfl, rfl, by decide +kernel, rfl, by decide +kernel, by decide +kernel⟩, rfl, by decide +kernel, vcF gP27, fun _ _ _ _ _ _ us hl => match us, hl with | [_, _], _ => rfl, trivial⟩
theorem d_side_left : DefC Γ nm kws gls [.gcd, .lcm] 28 "side_left" (top 24) :=
  ⟨N_side_left, (["one", "two"] : List Str), c_side_left, ⟨rfl, rfl, rfl, by decide +kernel, rfl, by decide +kernel, by decide +kernel⟩, rfl, by decide +kernel, vcF gP28, fun _ _ _ _ _ _ us hl => match us, hl with | [_, _], _ => rfl, trivial⟩
theorem d_next_corner : DefC Γ nm kws gls [.gcd, .lcm] 29 "next_corner" (top 31) :=
  ⟨N_next_corner, (["polygon", "at"] : List Str), c_next_corner, ⟨rfl, rfl, rfl, by decide +kernel, rfl, by decide +kernel, by decide +kernel⟩, rfl, by decide +kernel, vcF gP29, fun _ _ _ _ _ _ us hl => match us, hl with | [_, _], _ => rfl, trivial⟩
theorem d_sides : DefC Γ nm kws gls [.gcd, .lcm] 30 "sides" (top 32) :=
  ⟨N_sides, (["polygon"] : List Str), c_sides, ⟨rfl, rfl, rfl, by decide +kernel, rfl, by decide +kernel, by decide +kernel⟩, rfl, by decide +kernel, vcF gP30, fun _ _ _ _ _ _ us hl => match us, hl with | [_], _ => rfl, trivial⟩
theorem d_has : DefC Γ nm kws gls [.gcd, .lcm] 31 "has" (top 33) :=
  ⟨N_has, (["polygon", "point"] : List Str), c_has, ⟨rfl, rfl, rfl, by decide +kernel, rfl, by decide +kernel, by decide +kernel⟩, rfl, by decide +kernel, vcF gP31, fun _ _ _ _ _ _ us hl => match us, hl with | [_, _], _ => rfl, trivial⟩
theorem d_is_sailed : DefC Γ nm kws gls [.gcd, .lcm] 32 "is_sailed" (top 38) :=
  ⟨N_is_sailed, (["value"] : List Str), c_is_sailed, ⟨rfl, rfl, rfl, by decide +kernel, rfl, by decide +kernel, by decide +kernel⟩, rfl, by decide +kernel, vcF gP32, fun _ _ _ _ _ _ us hl => match us, hl with | [_], _ => rfl, trivial⟩
theorem d_check_figure : DefC Γ nm kws gls [.gcd, .lcm] 33 "check_figure" (top 39) :=
  ⟨N_check_figure, (["value"] : List Str), c_check_figure, ⟨rfl, rfl, rfl, by decide +kernel, rfl, by decide +kernel, by decide +kernel⟩, rfl, by decide +kernel, vcF gP33, fun _ _ _ _ _ _ us hl => match us, hl with | [_], _ => rfl, trivial⟩
theorem d_check_two : DefC Γ nm kws gls [.gcd, .lcm] 34 "check_two" (top 43) :=
  ⟨N_check_two, (["figure", "other"] : List Str), c_check_two, ⟨rfl, rfl, rfl, by decide +kernel, rfl, by decide +kernel, by decide +kernel⟩, rfl, by decide +kernel, vcF gP34, fun _ _ _ _ _ _ us hl => match us, hl with | [_, _], _ => rfl, trivial⟩
theorem d_within : DefC Γ nm kws gls [.gcd, .lcm] 35 "within" (top 34) :=
  ⟨N_within, (["polygon", "other"] : List Str), c_within, ⟨rfl, rfl, rfl, by decide +kernel, rfl, by decide +kernel, by decide +kernel⟩, rfl, by decide +kernel, vcF gP35, fun _ _ _ _ _ _ us hl => match us, hl with | [_, _], _ => rfl, trivial⟩
theorem d_never_later : DefC Γ nm kws gls [.gcd, .lcm] 36 "never_later" (top 44) :=
  ⟨N_never_later, (["figure", "other"] : List Str), c_never_later, ⟨rfl, rfl, rfl, by decide +kernel, rfl, by decide +kernel, by decide +kernel⟩, rfl, by decide +kernel, vcF gP36, fun _ _ _ _ _ _ us hl => match us, hl with | [_, _], _ => rfl, ⟨(fun _ _ _ _ _ _ us ws l1 l2 => match us, ws, l1, l2 with | [], [_, _], _, _ => rfl), trivial⟩⟩
theorem d_parting_way : DefC Γ nm kws gls [.gcd, .lcm] 37 "parting_way" (top 45) :=
  ⟨N_parting_way, (["figure", "other"] : List Str), c_parting_way, ⟨rfl, rfl, rfl, by decide +kernel, rfl, by decide +kernel, by decide +kernel⟩, rfl, by decide +kernel, vcF gP37, fun _ _ _ _ _ _ us hl => match us, hl with | [_, _], _ => rfl, ⟨(fun _ _ _ _ _ _ us ws l1 l2 => match us, ws, l1, l2 with | [], [_, _], _, _ => rfl), trivial⟩⟩
theorem d_check_polygon : DefC Γ nm kws gls [.gcd, .lcm] 38 "check_polygon" (top 37) :=
  ⟨N_check_polygon, (["value"] : List Str), c_check_polygon, ⟨rfl, rfl, rfl, by decide +kernel, rfl, by decide +kernel, by decide +kernel⟩, rfl, by decide +kernel, vcF gP38, fun _ _ _ _ _ _ us hl => match us, hl with | [_], _ => rfl, trivial⟩
theorem d_lies_inside : DefC Γ nm kws gls [.gcd, .lcm] 39 "lies_inside" (top 49) :=
  ⟨N_lies_inside, (["polygon", "other"] : List Str), c_lies_inside, ⟨rfl, rfl, rfl, by decide +kernel, rfl, by decide +kernel, by decide +kernel⟩, rfl, by decide +kernel, vcF gP39, fun _ _ _ _ _ _ us hl => match us, hl with | [_, _], _ => rfl, trivial⟩
theorem d_law_under : DefC Γ nm kws gls [.gcd, .lcm] 40 "_law_under" (top 68) :=
  ⟨N_law_under, (["_law_one", "_law_two"] : List Str), c_law_under, ⟨rfl, rfl, rfl, by decide +kernel, rfl, by decide +kernel, by decide +kernel⟩, rfl, by decide +kernel, vcF gP40, fun _ _ _ _ _ _ us hl => match us, hl with | [_, _], _ => rfl, trivial⟩
theorem d_law_longer : DefC Γ nm kws gls [.gcd, .lcm] 41 "_law_longer" (top 71) :=
  ⟨N_law_longer, (["_law_one", "_law_two"] : List Str), c_law_longer, ⟨rfl, rfl, rfl, by decide +kernel, rfl, by decide +kernel, by decide +kernel⟩, rfl, by decide +kernel, vcF gP41, fun _ _ _ _ _ _ us hl => match us, hl with | [_, _], _ => rfl, trivial⟩
theorem d_check_point : DefC Γ nm kws gls [.gcd, .lcm] 42 "check_point" (top 36) :=
  ⟨N_check_point, (["value"] : List Str), c_check_point, ⟨rfl, rfl, rfl, by decide +kernel, rfl, by decide +kernel, by decide +kernel⟩, rfl, by decide +kernel, vcF gP42, fun _ _ _ _ _ _ us hl => match us, hl with | [_], _ => rfl, trivial⟩
theorem d_is_lower : DefC Γ nm kws gls [.gcd, .lcm] 43 "is_lower" (top 15) :=
  ⟨N_is_lower, (["one", "two"] : List Str), c_is_lower, ⟨rfl, rfl, rfl, by decide +kernel, rfl, by decide +kernel, by decide +kernel⟩, rfl, by decide +kernel, vcF gP43, fun _ _ _ _ _ _ us hl => match us, hl with | [_, _], _ => rfl, trivial⟩
theorem d_higher_of : DefC Γ nm kws gls [.gcd, .lcm] 44 "higher_of" (top 16) :=
  ⟨N_higher_of, (["one", "two"] : List Str), c_higher_of, ⟨rfl, rfl, rfl, by decide +kernel, rfl, by decide +kernel, by decide +kernel⟩, rfl, by decide +kernel, vcF gP44, fun _ _ _ _ _ _ us hl => match us, hl with | [_, _], _ => rfl, trivial⟩
theorem d_ratio : DefC Γ nm kws gls [.gcd, .lcm] 45 "ratio" (top 14) :=
  ⟨N_ratio, (["over", "under"] : List Str), c_ratio, ⟨rfl, rfl, rfl, by decide +kernel, rfl, by decide +kernel, by decide +kernel⟩, rfl, by decide +kernel, vcF gP45, fun _ _ _ _ _ _ us hl => match us, hl with | [_, _], _ => rfl, trivial⟩
theorem d_time_by : DefC Γ nm kws gls [.gcd, .lcm] 46 "time_by" (top 41) :=
  ⟨N_time_by, (["borders", "way"] : List Str), c_time_by, ⟨rfl, rfl, rfl, by decide +kernel, rfl, by decide +kernel, by decide +kernel⟩, rfl, by decide +kernel, vcF gP46, fun _ _ _ _ _ _ us hl => match us, hl with | [_, _], _ => rfl, trivial⟩
theorem d_time_of : DefC Γ nm kws gls [.gcd, .lcm] 47 "time_of" (top 47) :=
  ⟨N_time_of, (["figure", "way"] : List Str), c_time_of, ⟨rfl, rfl, rfl, by decide +kernel, rfl, by decide +kernel, by decide +kernel⟩, rfl, by decide +kernel, vcF gP47, fun _ _ _ _ _ _ us hl => match us, hl with | [_, _], _ => rfl, trivial⟩
theorem d_law_part : DefC Γ nm kws gls [.gcd, .lcm] 48 "_law_part" (top 64) :=
  ⟨N_law_part, (["_law_top", "_law_low"] : List Str), c_law_part, ⟨rfl, rfl, rfl, by decide +kernel, rfl, by decide +kernel, by decide +kernel⟩, rfl, by decide +kernel, vcF gP48, fun _ _ _ _ _ _ us hl => match us, hl with | [_, _], _ => rfl, trivial⟩
theorem d_law_legs : DefC Γ nm kws gls [.gcd, .lcm] 49 "_law_legs" (top 65) :=
  ⟨N_law_legs, (["_law_craft_here", "_law_trip"] : List Str), c_law_legs, ⟨rfl, rfl, rfl, by decide +kernel, rfl, by decide +kernel, by decide +kernel⟩, rfl, by decide +kernel, vcF gP49, fun _ _ _ _ _ _ us hl => match us, hl with | [_, _], _ => rfl, trivial⟩
theorem d_law_sum : DefC Γ nm kws gls [.gcd, .lcm] 50 "_law_sum" (top 66) :=
  ⟨N_law_sum, (["_law_one", "_law_two"] : List Str), c_law_sum, ⟨rfl, rfl, rfl, by decide +kernel, rfl, by decide +kernel, by decide +kernel⟩, rfl, by decide +kernel, vcF gP50, fun _ _ _ _ _ _ us hl => match us, hl with | [_, _], _ => rfl, trivial⟩
theorem d_law_time : DefC Γ nm kws gls [.gcd, .lcm] 51 "_law_time" (top 67) :=
  ⟨N_law_time, (["_law_craft_here", "_law_trip"] : List Str), c_law_time, ⟨rfl, rfl, rfl, by decide +kernel, rfl, by decide +kernel, by decide +kernel⟩, rfl, by decide +kernel, vcF gP51, fun _ _ _ _ _ _ us hl => match us, hl with | [_, _], _ => rfl, trivial⟩
theorem d_law_told_right : DefC Γ nm kws gls [.gcd, .lcm] 52 "_law_told_right" (top 72) :=
  ⟨N_law_told_right, (["_law_craft_here", "_law_rival", "_law_trips"] : List Str), c_law_told_right, ⟨rfl, rfl, rfl, by decide +kernel, rfl, by decide +kernel, by decide +kernel⟩, rfl, by decide +kernel, vcF gP52, fun _ _ _ _ _ _ us hl => match us, hl with | [_, _, _], _ => rfl, trivial⟩
theorem d_law_right : DefC Γ nm kws gls [.gcd, .lcm] 53 "_law_right" (top 73) :=
  ⟨N_law_right, (["_law_source_here"] : List Str), c_law_right, ⟨rfl, rfl, rfl, by decide +kernel, rfl, by decide +kernel, by decide +kernel⟩, rfl, by decide +kernel, vc_law_right, fun _ _ _ _ _ _ us hl => match us, hl with | [_], _ => rfl, trivial⟩
theorem d_law_source : DefC Γ nm kws gls [.gcd, .lcm] 54 "_law_source" (top 51) :=
  ⟨N_law_source, (["_law_script", "_law_turn"] : List Str), c_law_source, ⟨rfl, rfl, rfl, by decide +kernel, rfl, by decide +kernel, by decide +kernel⟩, rfl, by decide +kernel, vc_law_source, fun _ _ _ _ _ _ us hl => match us, hl with | [_, _], _ => rfl, trivial⟩
theorem d_law : DefC Γ nm kws gls [.gcd, .lcm] 55 "law" (top 74) :=
  ⟨N_law, (["_law_script"] : List Str), c_law, ⟨rfl, rfl, rfl, by decide +kernel, rfl, by decide +kernel, by decide +kernel⟩, rfl, by decide +kernel, vc_law, fun _ _ _ _ _ _ us hl => match us, hl with | [_], _ => rfl, trivial⟩
abbrev fas : List He.Fa := nm.map He.Fa.glo ++ builtinNames.map He.Fa.free
abbrev dfs : List He.DefD := fns.map fun q => dd q.1 q.2
abbrev RR : PySem.W.OpenRow := PySem.W.OpenLaw.row PySem.Challenge.rw_windfigure_k27_whole_never_later_on_any
abbrev hk : PySem.W.Hook := hookW 4 fas dfs gls [.gcd, .lcm]
def ob (s : PySem.W.SharedT) : He.AlD := obsWG 4 fas dfs gls [.gcd, .lcm] (HandSHeadRun.getT s)
theorem ob_eq (s : PySem.W.SharedT) : ob s = hk.obs s.abs := obsWG_eq (HandSHeadRun.getT_eq s)
abbrev lo0 : List Str := ((["__name__", "WindError", "InvalidPoint", "InvalidPolygon", "InvalidFigure", "is_whole", "are_wholes", "common_divisor", "lowest", "is_lowest", "ZERO", "ratio", "is_lower", "higher_of", "NOUGHT", "is_vector", "step_between", "ROUND", "side_at", "side_left", "value_at", "are_held", "chain", "is_left", "hull", "is_shape", "next_corner", "sides", "has", "within"] : List Str) ++ (["check_point", "check_polygon", "is_sailed", "check_figure", "time_by", "check_two", "never_later", "parting_way", "time_of", "lies_inside"] : List Str))
abbrev lo1 : List Str := (["_law_source", "_law_rounds", "_law_draw", "_law_pick", "_law_least", "_law_spot", "_law_left", "_law_chain", "_law_hull", "_law_craft", "_law_grow", "_law_sized", "_law_second", "_law_part", "_law_legs", "_law_sum", "_law_time", "_law_under", "_law_add", "_law_midway", "_law_longer", "_law_told_right", "_law_right"] : List Str)
abbrev loo : List Str := lo0 ++ lo1
abbrev vw : Program := PySem.W.view RR.prog [0, 74]
theorem runW (w : World) : HandSHeadRun.RunEqI RR vw hk ob 12000 loo w := by
  unfold HandSHeadRun.RunEqI
  kernel_rfl
theorem all_defs : ∀ i x st, fns[i]? = some (x, st) → DefC Γ nm kws gls [.gcd, .lcm] i x st := by
  intro i x st h
  match i, h with
  | 0, h => cases h; exact d_law_rounds
  | 1, h => cases h; exact d_law_draw
  | 2, h => cases h; exact d_law_left
  | 3, h => cases h; exact d_law_chain
  | 4, h => cases h; exact d_law_least
  | 5, h => cases h; exact d_law_hull
  | 6, h => cases h; exact d_law_pick
  | 7, h => cases h; exact d_law_spot
  | 8, h => cases h; exact d_law_craft
  | 9, h => cases h; exact d_law_grow
  | 10, h => cases h; exact d_law_sized
  | 11, h => cases h; exact d_law_second
  | 12, h => cases h; exact d_law_add
  | 13, h => cases h; exact d_law_midway
  | 14, h => cases h; exact d_common_divisor
  | 15, h => cases h; exact d_lowest
  | 16, h => cases h; exact d_is_left
  | 17, h => cases h; exact d_chain
  | 18, h => cases h; exact d_hull
  | 19, h => cases h; exact d_is_whole
  | 20, h => cases h; exact d_are_wholes
  | 21, h => cases h; exact d_is_lowest
  | 22, h => cases h; exact d_is_vector
  | 23, h => cases h; exact d_is_shape
  | 24, h => cases h; exact d_value_at
  | 25, h => cases h; exact d_are_held
  | 26, h => cases h; exact d_step_between
  | 27, h => cases h; exact d_side_at
  | 28, h => cases h; exact d_side_left
  | 29, h => cases h; exact d_next_corner
  | 30, h => cases h; exact d_sides
  | 31, h => cases h; exact d_has
  | 32, h => cases h; exact d_is_sailed
  | 33, h => cases h; exact d_check_figure
  | 34, h => cases h; exact d_check_two
  | 35, h => cases h; exact d_within
  | 36, h => cases h; exact d_never_later
  | 37, h => cases h; exact d_parting_way
  | 38, h => cases h; exact d_check_polygon
  | 39, h => cases h; exact d_lies_inside
  | 40, h => cases h; exact d_law_under
  | 41, h => cases h; exact d_law_longer
  | 42, h => cases h; exact d_check_point
  | 43, h => cases h; exact d_is_lower
  | 44, h => cases h; exact d_higher_of
  | 45, h => cases h; exact d_ratio
  | 46, h => cases h; exact d_time_by
  | 47, h => cases h; exact d_time_of
  | 48, h => cases h; exact d_law_part
  | 49, h => cases h; exact d_law_legs
  | 50, h => cases h; exact d_law_sum
  | 51, h => cases h; exact d_law_time
  | 52, h => cases h; exact d_law_told_right
  | 53, h => cases h; exact d_law_right
  | 54, h => cases h; exact d_law_source
  | 55, h => cases h; exact d_law
  | i + 56, h => cases h
end K27
open PySem PySem.W PySem.Calls PyProof.Rows WF K27 in
theorem PySem.Challenge.cw_windfigure_k27_whole_never_later_on_any_holds : PySem.Challenge.rw_windfigure_k27_whole_never_later_on_any.Holds := by
  w_on; o_law
  refine HandSHeadRun.head_imp (r := OpenLaw.row PySem.Challenge.rw_windfigure_k27_whole_never_later_on_any) (q := vw) (H := hk) (ob := ob) (M := 12000) (loose := loo) (d := HandSHeadRun.topDef (OpenLaw.row PySem.Challenge.rw_windfigure_k27_whole_never_later_on_any).prog 74) (kwd := []) ob_eq runW (by kernel_rfl) (by kernel_rfl) (by kernel_rfl) (by rfl) (by first | assumption | decide +kernel) (by decide +kernel) ⟨rfl, rfl, rfl, rfl, rfl, by decide +kernel⟩ ?hw ?hc
  case hw => w_witness2
  case hc => exact walk_ofW (l := PySem.Challenge.rw_windfigure_k27_whole_never_later_on_any) (n := 63) (k := 55) (x := "law") (st := top 74) (Γ := Γ) (nm := nm) (kw := kws) (gl := gls) (fn := fns) (fa := fas) rfl (by decide) (by kernel_rfl) ⟨rfl, by decide, by decide⟩ (by kernel_rfl) rfl rfl rfl (fun x h => List.mem_append_left _ (List.mem_map.mpr ⟨x, h, rfl⟩)) (fun x h => List.mem_append_right _ (List.mem_map.mpr ⟨x, h, rfl⟩)) all_defs

