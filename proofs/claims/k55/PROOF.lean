import PyProof.Rows.All
import Wide.All
import OpenK.AllK
import Wide.FinOn
import HandS.ForMost
import HandS.Exc
import HandS.Wide
import HandS.TupAny
import HandS.Gcd
import HandS.Style
import HandS.IsInst
import PyProof.MaxThree
import HandS.NoneIn
import HandS.Defaults
import HandS.HeadEnd
import HandS.HeadHook2
import HandS.Head3
import KE.KStateDown
import PySem.Challenge.RW_windfigure_k55_whole_dear_shares_counted
open PySem L2
set_option Elab.async false
set_option linter.all false
set_option maxRecDepth 100000
set_option maxHeartbeats 1000000
/-! # The windfigure layer, part 1: data, heaps, judgements, calls -/
namespace WF
open PySem PySem.Spec PyProof.Rows L2

/-- data in line: tuples and lists that no one changes any more are values; a list that is still changed is a reference -/
inductive D where
  | non | bl (b : Bool) | int (i : Int) | str (s : Str) | tup (ds : List D) | lst (ds : List D) | ref (a : Addr) | ty (n : String)

/-- the lists that may still change -/
abbrev AH := Addr → Option (List D)
def AH.set (h : AH) (a : Addr) (ds : List D) : AH := fun b => if b = a then some ds else h b
def AH.del (h : AH) (a : Addr) : AH := fun b => if b = a then none else h b
theorem AH.set_same {h : AH} {a : Addr} {ds : List D} : h.set a ds a = some ds := if_pos rfl
theorem AH.set_ne {h : AH} {a b : Addr} {ds : List D} (n : b ≠ a) : h.set a ds b = h b := if_neg n
theorem AH.del_same {h : AH} {a : Addr} : h.del a a = none := if_pos rfl
theorem AH.del_ne {h : AH} {a b : Addr} (n : b ≠ a) : h.del a b = h b := if_neg n
theorem AH.set_set {h : AH} {a : Addr} {ds es : List D} : (h.set a ds).set a es = h.set a es := by
  funext b
  unfold AH.set
  split <;> rfl
theorem AH.set_del {h : AH} {a : Addr} {ds : List D} (n : h a = none) : (h.set a ds).del a = h := by
  funext b
  unfold AH.del AH.set
  by_cases e : b = a
  · subst e
    rw [if_pos rfl, n]
  · rw [if_neg e, if_neg e]

/-- a list that no one changes: not among those of h; or one of the written part -/
def SL (K : PySem.W.Frag) (Z : List Addr) (h : AH) (H : Hp) (a : Addr) (xs : List V) : Prop :=
  (Rd H a (.lst xs) ∧ h a = none ∧ a ∉ Z) ∨ (SqL K (fun _ => none) a xs)
theorem SL.sq {K : PySem.W.Frag} {Z : List Addr} {h : AH} {H : Hp} {a : Addr} {xs : List V} (s : SL K Z h H a xs) : SqL K H a xs := by
  rcases s with s | s
  · exact .inl s.1
  · rcases s with s | s
    · rcases s with s | ⟨_, s⟩ <;> cases s
    · exact .inr s
section
variable (K : PySem.W.Frag) (Z : List Addr) (h : AH) (H : Hp)
mutual
/-- v stands for d in the abstract heap H, h being what may still change -/
def RD : D → V → Prop
  | .non, v => v = .non
  | .bl b, v => v = .bl b
  | .int i, v => v = .int i
  | .str s, v => v = .str s
  | .ty n, v => v = .ty n
  | .ref a, v => v = .ref a
  | .tup ds, v => ∃ a xs, v = .ref a ∧ SqT K H a xs ∧ RDs ds xs
  | .lst ds, v => ∃ a xs, v = .ref a ∧ SL K Z h H a xs ∧ RDs ds xs
def RDs : List D → List V → Prop
  | [], xs => xs = []
  | d :: ds, xs => ∃ y ys, xs = y :: ys ∧ RD d y ∧ RDs ds ys
end
/-- the lists of h stand in H -/
structure RH : Prop where
  at_ : ∀ a ds, h a = some ds → ∃ xs, H a = some (.lst xs) ∧ RDs K Z h H ds xs
  zk : ∀ a ∈ Z, H a ≠ none ∧ h a = none
end
/-- what h does not hold stays -/
def Kp (h : AH) (H : Hp) (h' : AH) (H' : Hp) : Prop := ∀ a, h a = none → (∀ o, H a = some o → H' a = some o ∧ h' a = none)
theorem Kp.refl {h : AH} {H : Hp} : Kp h H h H := fun a n o e => ⟨e, n⟩
theorem Kp.trans {h h1 h2 : AH} {H H1 H2 : Hp} (p : Kp h H h1 H1) (q : Kp h1 H1 h2 H2) : Kp h H h2 H2 := fun a n o e =>
  let ⟨e1, n1⟩ := p a n o e
  q a n1 o e1

section
variable {K : PySem.W.Frag} {Z : List Addr} {h h' : AH} {H H' : Hp}
theorem RDs.length : ∀ {ds : List D} {xs : List V}, RDs K Z h H ds xs → ds.length = xs.length
  | [], _, e => by
    simp only [RDs] at e
    rw [e]
    rfl
  | d :: ds, _, e => by
    simp only [RDs] at e
    obtain ⟨y, ys, rfl, _, r⟩ := e
    simp [RDs.length r]
theorem RDs.get : ∀ {ds : List D} {xs : List V} {i : Nat} {d : D}, RDs K Z h H ds xs → ds[i]? = some d → ∃ x, xs[i]? = some x ∧ RD K Z h H d x
  | [], _, i, d, e, q => by simp at q
  | d0 :: ds, _, 0, d, e, q => by
    simp only [RDs] at e
    obtain ⟨y, ys, rfl, r, _⟩ := e
    simp at q
    subst q
    exact ⟨y, rfl, r⟩
  | d0 :: ds, _, i + 1, d, e, q => by
    simp only [RDs] at e
    obtain ⟨y, ys, rfl, _, r⟩ := e
    simpa using RDs.get r (by simpa using q)
theorem RDs.append : ∀ {ds es : List D} {xs ys : List V}, RDs K Z h H ds xs → RDs K Z h H es ys → RDs K Z h H (ds ++ es) (xs ++ ys)
  | [], es, _, ys, e, q => by
    simp only [RDs] at e
    subst e
    exact q
  | d :: ds, es, _, ys, e, q => by
    simp only [RDs] at e
    obtain ⟨y, zs, rfl, r, t⟩ := e
    exact ⟨y, zs ++ ys, rfl, r, RDs.append t q⟩
theorem RDs.one {d : D} {v : V} (r : RD K Z h H d v) : RDs K Z h H [d] [v] := ⟨v, [], rfl, r, rfl⟩
theorem RDs.take : ∀ (n : Nat) {ds : List D} {xs : List V}, RDs K Z h H ds xs → RDs K Z h H (ds.take n) (xs.take n)
  | 0, _, _, _ => rfl
  | n + 1, [], _, e => by
    simp only [RDs] at e
    subst e
    rfl
  | n + 1, d :: ds, _, e => by
    simp only [RDs] at e
    obtain ⟨y, ys, rfl, r, t⟩ := e
    exact ⟨y, ys.take n, rfl, r, RDs.take n t⟩
theorem RDs.drop : ∀ (n : Nat) {ds : List D} {xs : List V}, RDs K Z h H ds xs → RDs K Z h H (ds.drop n) (xs.drop n)
  | 0, _, _, e => e
  | n + 1, [], _, e => by
    simp only [RDs] at e
    subst e
    rfl
  | n + 1, d :: ds, _, e => by
    simp only [RDs] at e
    obtain ⟨y, ys, rfl, r, t⟩ := e
    exact RDs.drop n t
theorem RDs.reverse : ∀ {ds : List D} {xs : List V}, RDs K Z h H ds xs → RDs K Z h H ds.reverse xs.reverse
  | [], _, e => by
    simp only [RDs] at e
    subst e
    rfl
  | d :: ds, _, e => by
    simp only [RDs] at e
    obtain ⟨y, ys, rfl, r, t⟩ := e
    rw [List.reverse_cons, List.reverse_cons]
    exact RDs.append (RDs.reverse t) (RDs.one r)
theorem RDs.set : ∀ (i : Nat) {ds : List D} {xs : List V} {d : D} {v : V}, RDs K Z h H ds xs → RD K Z h H d v → RDs K Z h H (ds.set i d) (xs.set i v)
  | _, [], _, _, _, e, _ => by
    simp only [RDs] at e
    subst e
    rfl
  | 0, d0 :: ds, _, _, _, e, q => by
    simp only [RDs] at e
    obtain ⟨y, ys, rfl, r, t⟩ := e
    exact ⟨_, ys, rfl, q, t⟩
  | i + 1, d0 :: ds, _, _, _, e, q => by
    simp only [RDs] at e
    obtain ⟨y, ys, rfl, r, t⟩ := e
    exact ⟨y, ys.set i _, rfl, r, RDs.set i t q⟩
theorem RDs.eraseIdx : ∀ (i : Nat) {ds : List D} {xs : List V}, RDs K Z h H ds xs → RDs K Z h H (ds.eraseIdx i) (xs.eraseIdx i)
  | _, [], _, e => by
    simp only [RDs] at e
    subst e
    rfl
  | 0, d0 :: ds, _, e => by
    simp only [RDs] at e
    obtain ⟨y, ys, rfl, r, t⟩ := e
    exact t
  | i + 1, d0 :: ds, _, e => by
    simp only [RDs] at e
    obtain ⟨y, ys, rfl, r, t⟩ := e
    exact ⟨y, ys.eraseIdx i, rfl, r, RDs.eraseIdx i t⟩

/-- what h holds are lists -/
def NL (h : AH) (H : Hp) : Prop := ∀ a ds, h a = some ds → ∃ xs, H a = some (.lst xs)
theorem RH.nl (R : RH K Z h H) : NL h H := fun a ds e => let ⟨xs, e1, _⟩ := R.at_ a ds e; ⟨xs, e1⟩
theorem NL.none (n : NL h H) {a : Addr} {o : HO} (e : H a = some o) (d : ∀ xs, o ≠ .lst xs) : h a = none := by
  cases q : h a with
  | none => rfl
  | some ds =>
    obtain ⟨ys, z⟩ := n a ds q
    rw [e] at z
    cases z
    exact absurd rfl (d ys)
theorem SqT.keep (n : NL h H) (k : Kp h H h' H') {a : Addr} {xs : List V} (q : SqT K H a xs) : SqT K H' a xs := by
  rcases q with q | q
  · rcases q with q | ⟨o, q⟩
    · exact .inl (.inl (k a (n.none q (fun _ z => by cases z)) _ q).1)
    · exact .inl (.inr ⟨o, (k a (n.none q (fun _ z => by cases z)) _ q).1⟩)
  · exact .inr q
theorem SL.keep (k : Kp h H h' H') {a : Addr} {xs : List V} (q : SL K Z h H a xs) : SL K Z h' H' a xs := by
  rcases q with ⟨q, n, z⟩ | q
  · rcases q with q | ⟨o, q⟩
    · exact .inl ⟨.inl (k a n _ q).1, (k a n _ q).2, z⟩
    · exact .inl ⟨.inr ⟨o, (k a n _ q).1⟩, (k a n _ q).2, z⟩
  · exact .inr q
mutual
theorem RD.keepN (n : NL h H) (k : Kp h H h' H') : ∀ {d : D} {v : V}, RD K Z h H d v → RD K Z h' H' d v
  | .non, _, e => e
  | .bl _, _, e => e
  | .int _, _, e => e
  | .str _, _, e => e
  | .ty _, _, e => e
  | .ref _, _, e => e
  | .tup ds, _, e => by
    simp only [RD] at e ⊢
    obtain ⟨a, xs, e1, e2, e3⟩ := e
    exact ⟨a, xs, e1, SqT.keep n k e2, RDs.keepN n k e3⟩
  | .lst ds, _, e => by
    simp only [RD] at e ⊢
    obtain ⟨a, xs, e1, e2, e3⟩ := e
    exact ⟨a, xs, e1, e2.keep k, RDs.keepN n k e3⟩
theorem RDs.keepN (n : NL h H) (k : Kp h H h' H') : ∀ {ds : List D} {xs : List V}, RDs K Z h H ds xs → RDs K Z h' H' ds xs
  | [], _, e => e
  | d :: ds, _, e => by
    simp only [RDs] at e ⊢
    obtain ⟨y, ys, e1, e2, e3⟩ := e
    exact ⟨y, ys, e1, RD.keepN n k e2, RDs.keepN n k e3⟩
end
theorem RD.keep (R : RH K Z h H) (k : Kp h H h' H') {d : D} {v : V} (r : RD K Z h H d v) : RD K Z h' H' d v := RD.keepN R.nl k r
theorem RDs.keep (R : RH K Z h H) (k : Kp h H h' H') {d : List D} {v : List V} (r : RDs K Z h H d v) : RDs K Z h' H' d v := RDs.keepN R.nl k r
/-! ### steps of the heap -/
/-- a new object that h does not hold -/
theorem Kp.laid {p : Addr} {o : HO} (n : H p = none) : Kp h H h (upd H p o) := fun a na u e => by
  rw [upd_ne (ne_of_none e n)]
  exact ⟨e, na⟩
theorem RH.laid (R : RH K Z h H) {p : Addr} {o : HO} (n : H p = none) : RH K Z h (upd H p o) := by
  refine ⟨fun a ds e => ?_, fun a m => ⟨fun e => (R.zk a m).1 ?_, (R.zk a m).2⟩⟩
  rotate_left
  · by_cases z : a = p
    · subst z; exact n
    · rw [upd_ne z] at e; exact e
  obtain ⟨xs, e1, r⟩ := R.at_ a ds e
  refine ⟨xs, ?_, RDs.keep R (Kp.laid n) r⟩
  rw [upd_ne (ne_of_none e1 n)]
  exact e1
/-- a list of h is changed, or a new one is laid among them -/
theorem Kp.put {p : Addr} {ds : List D} {xs : List V} (c : h p ≠ none ∨ H p = none) : Kp h H (h.set p ds) (upd H p (.lst xs)) := fun a na u e => by
  have ne : a ≠ p := fun z => by
    subst z
    rcases c with c | c
    · exact c na
    · rw [c] at e; cases e
  rw [upd_ne ne, AH.set_ne ne]
  exact ⟨e, na⟩
theorem RH.put (R : RH K Z h H) {p : Addr} {ds : List D} {xs : List V} (c : h p ≠ none ∨ H p = none) (r : RDs K Z h H ds xs) : RH K Z (h.set p ds) (upd H p (.lst xs)) := by
  have zp : ∀ a ∈ Z, a ≠ p := fun a m z => by
    subst z
    rcases c with c | c
    · exact c (R.zk a m).2
    · exact (R.zk a m).1 c
  refine ⟨fun a es e => ?_, fun a m => ⟨by rw [upd_ne (zp a m)]; exact (R.zk a m).1, by rw [AH.set_ne (zp a m)]; exact (R.zk a m).2⟩⟩
  by_cases z : a = p
  · subst z
    rw [AH.set_same] at e
    cases e
    exact ⟨xs, upd_same, RDs.keep R (Kp.put c) r⟩
  · rw [AH.set_ne z] at e
    obtain ⟨ys, e1, q⟩ := R.at_ a es e
    exact ⟨ys, by rw [upd_ne z]; exact e1, RDs.keep R (Kp.put c) q⟩
/-- a list of h is changed no more: it is a value from now on -/
theorem Kp.del {p : Addr} : Kp h H (h.del p) H := fun a na u e => ⟨e, by
  by_cases z : a = p
  · subst z; exact AH.del_same
  · rw [AH.del_ne z]; exact na⟩
theorem RH.del (R : RH K Z h H) {p : Addr} : RH K Z (h.del p) H := by
  refine ⟨fun a es e => ?_, fun a m => ⟨(R.zk a m).1, ?_⟩⟩
  rotate_left
  · by_cases z : a = p
    · subst z; exact AH.del_same
    · rw [AH.del_ne z]; exact (R.zk a m).2
  by_cases z : a = p
  · subst z
    rw [AH.del_same] at e
    cases e
  · rw [AH.del_ne z] at e
    obtain ⟨ys, e1, q⟩ := R.at_ a es e
    exact ⟨ys, e1, RDs.keep R Kp.del q⟩
theorem RD.frozen (R : RH K Z h H) {p : Addr} {ds : List D} (e : h p = some ds) : RD K Z (h.del p) H (.lst ds) (.ref p) := by
  obtain ⟨xs, e1, r⟩ := R.at_ p ds e
  exact ⟨p, xs, rfl, (.inl ⟨.inl e1, AH.del_same, fun m => by rw [(R.zk p m).2] at e; cases e⟩), RDs.keep R Kp.del r⟩
end

/-! ### readings over data -/
abbrev ASt := List (Option D)
abbrev AQ := D → AH → Prop
abbrev XQ := Str → D → AH → Prop
abbrev ATE := ASt → AH → AQ → Prop
abbrev ATT := ASt → AH → (Bool → AH → Prop) → Prop
abbrev ATA := ASt → AH → (List D → AH → Prop) → Prop
structure AEnds where
  nx : ASt → AH → Prop
  rt : AQ
  bk : ASt → AH → Prop := fun _ _ => False
  ct : ASt → AH → Prop := fun _ _ => False
abbrev ATS := AEnds → ASt → AH → Prop
/-- a def's promise -/
abbrev ASp := List D → AH → AQ → XQ → Prop
abbrev noX : XQ := fun _ _ _ => False

/-- the slots -/
def RS (K : PySem.W.Frag) (Z : List Addr) (h : AH) (H : Hp) (σa : ASt) (σ : L2.St) : Prop := σa.length = σ.length ∧ ∀ (i : Nat) (d : D), σa[i]? = some (some d) → ∃ v, σ[i]? = some (some v) ∧ RD K Z h H d v
section
variable {K : PySem.W.Frag} {Z : List Addr} {h h' : AH} {H H' : Hp} {σa : ASt} {σ : L2.St}
theorem RS.keep (R : RH K Z h H) (k : Kp h H h' H') (r : RS K Z h H σa σ) : RS K Z h' H' σa σ := ⟨r.1, fun i d e =>
  let ⟨v, e1, q⟩ := r.2 i d e
  ⟨v, e1, RD.keep R k q⟩⟩
theorem RS.put (r : RS K Z h H σa σ) {i : Nat} {d : D} {v : V} (q : RD K Z h H d v) : RS K Z h H (σa.set i (some d)) (σ.set i (some v)) := by
  refine ⟨by rw [List.length_set, List.length_set]; exact r.1, fun j e z => ?_⟩
  by_cases hj : i = j
  · subst hj
    by_cases hi : i < σa.length
    · rw [List.getElem?_set_self hi] at z
      cases z
      exact ⟨v, by rw [List.getElem?_set_self (by rw [← r.1]; exact hi)], q⟩
    · rw [List.getElem?_eq_none (by simpa using hi)] at z
      cases z
  · rw [List.getElem?_set_ne hj] at z ⊢
    exact r.2 j e z
end

/-- what an expression's end has to be -/
def EndE (K : PySem.W.Frag) (Z : List Addr) (h : AH) (H : Hp) (Q : VK) : AQ := fun d h' => ∀ v H', RD K Z h' H' d v → RH K Z h' H' → Kp h H h' H' → Q v H'
def EndT (K : PySem.W.Frag) (Z : List Addr) (h : AH) (H : Hp) (Q : Bool → Hp → Prop) : Bool → AH → Prop := fun b h' => ∀ H', RH K Z h' H' → Kp h H h' H' → Q b H'
def EndA (K : PySem.W.Frag) (Z : List Addr) (h : AH) (H : Hp) (Q : List V → Hp → Prop) : List D → AH → Prop := fun ds h' => ∀ vs H', RDs K Z h' H' ds vs → RH K Z h' H' → Kp h H h' H' → Q vs H'
def EndS (K : PySem.W.Frag) (Z : List Addr) (h : AH) (H : Hp) (Q : L2.St → Hp → Prop) : ASt → AH → Prop := fun σa h' => ∀ σ H', RS K Z h' H' σa σ → RH K Z h' H' → Kp h H h' H' → Q σ H'
def lftE (K : PySem.W.Frag) (t : ATE) : TE := fun σ H Q => ∃ Z σa h, RS K Z h H σa σ ∧ RH K Z h H ∧ t σa h (EndE K Z h H Q)
def lftT (K : PySem.W.Frag) (t : ATT) : TT := fun σ H Q => ∃ Z σa h, RS K Z h H σa σ ∧ RH K Z h H ∧ t σa h (EndT K Z h H Q)
def lftA (K : PySem.W.Frag) (t : ATA) : TA := fun σ H Q => ∃ Z σa h, RS K Z h H σa σ ∧ RH K Z h H ∧ t σa h (EndA K Z h H Q)
def lftEnds (K : PySem.W.Frag) (Z : List Addr) (h : AH) (H : Hp) (D : Ends) : AEnds := ⟨EndS K Z h H D.nx, EndE K Z h H D.rt, EndS K Z h H D.bk, EndS K Z h H D.ct⟩
def lftS (K : PySem.W.Frag) (t : ATS) : TS := fun D σ H => ∃ Z σa h, RS K Z h H σa σ ∧ RH K Z h H ∧ t (lftEnds K Z h H D) σa h
/-- a def's promise as the layer below has it -/
def lftSp (K : PySem.W.Frag) (n : Nat) (sp : ASp) : Sp := fun vs H Q _ => ∃ Z ds h, ds.length = n ∧ RDs K Z h H ds vs ∧ RH K Z h H ∧ sp ds h (EndE K Z h H Q) noX
theorem EndE.mono {K : PySem.W.Frag} {Z : List Addr} {h h1 : AH} {H H1 : Hp} {Q : VK} (k : Kp h H h1 H1) {d : D} {h' : AH} (e : EndE K Z h H Q d h') : EndE K Z h1 H1 Q d h' := fun v H' r R k' => e v H' r R (k.trans k')
theorem EndT.mono {K : PySem.W.Frag} {Z : List Addr} {h h1 : AH} {H H1 : Hp} {Q : Bool → Hp → Prop} (k : Kp h H h1 H1) {b : Bool} {h' : AH} (e : EndT K Z h H Q b h') : EndT K Z h1 H1 Q b h' := fun H' R k' => e H' R (k.trans k')
theorem EndA.mono {K : PySem.W.Frag} {Z : List Addr} {h h1 : AH} {H H1 : Hp} {Q : List V → Hp → Prop} (k : Kp h H h1 H1) {ds : List D} {h' : AH} (e : EndA K Z h H Q ds h') : EndA K Z h1 H1 Q ds h' := fun v H' r R k' => e v H' r R (k.trans k')
theorem EndS.mono {K : PySem.W.Frag} {Z : List Addr} {h h1 : AH} {H H1 : Hp} {Q : L2.St → Hp → Prop} (k : Kp h H h1 H1) {σ : ASt} {h' : AH} (e : EndS K Z h H Q σ h') : EndS K Z h1 H1 Q σ h' := fun v H' r R k' => e v H' r R (k.trans k')

/-! ### judgements over data -/
def MonE (t : ATE) : Prop := ∀ σ h Q Q', (∀ d h', Q d h' → Q' d h') → t σ h Q → t σ h Q'
def MonT (t : ATT) : Prop := ∀ σ h Q Q', (∀ d h', Q d h' → Q' d h') → t σ h Q → t σ h Q'
def MonA (t : ATA) : Prop := ∀ σ h Q Q', (∀ d h', Q d h' → Q' d h') → t σ h Q → t σ h Q'
structure AEnds.Le (D D' : AEnds) : Prop where
  nx : ∀ σ h, D.nx σ h → D'.nx σ h
  rt : ∀ d h, D.rt d h → D'.rt d h
  bk : ∀ σ h, D.bk σ h → D'.bk σ h
  ct : ∀ σ h, D.ct σ h → D'.ct σ h
def MonS (t : ATS) : Prop := ∀ D D' σ h, D.Le D' → t D σ h → t D' σ h
structure AE (X : Cx) (e : Expr) (t : ATE) : Prop where
  mon : MonE t
  run : PE X e (lftE X.K t)
structure AT (X : Cx) (e : Expr) (t : ATT) : Prop where
  mon : MonT t
  run : PT X e (lftT X.K t)
structure AA (X : Cx) (es : List Expr) (t : ATA) : Prop where
  mon : MonA t
  run : PA X es (lftA X.K t)
structure AS (X : Cx) (s : Stmt) (t : ATS) : Prop where
  mon : MonS t
  run : PS X s (lftS X.K t)
structure ASs (X : Cx) (s : List Stmt) (t : ATS) : Prop where
  mon : MonS t
  run : PSs X s (lftS X.K t)
section
variable {X : Cx}
theorem pe_weak {e : Expr} {t t' : TE} (h : PE X e t) (w : ∀ σ H Q, t' σ H Q → t σ H Q) : PE X e t' := ⟨fun pins s σ H Q I q => h.run pins s σ H Q I (w σ H Q q)⟩
theorem pt_weak {e : Expr} {t t' : TT} (h : PT X e t) (w : ∀ σ H Q, t' σ H Q → t σ H Q) : PT X e t' := ⟨fun pins s σ H Q I q => h.run pins s σ H Q I (w σ H Q q)⟩
theorem pw_weak {e : Expr} {t t' : TT} (h : PW X e t) (w : ∀ σ H Q, t' σ H Q → t σ H Q) : PW X e t' := ⟨fun wh pins s σ H Q I q => h.run wh pins s σ H Q I (w σ H Q q)⟩
theorem pa_weak {es : List Expr} {t t' : TA} (h : PA X es t) (w : ∀ σ H Q, t' σ H Q → t σ H Q) : PA X es t' := ⟨fun pos pins s σ H Q I q => h.run pos pins s σ H Q I (w σ H Q q)⟩
theorem ps_weak {s : Stmt} {t t' : TS} (h : PS X s t) (w : ∀ D σ H, t' D σ H → t D σ H) : PS X s t' := ⟨fun pins s σ H D I q => h.run pins s σ H D I (w D σ H q)⟩
theorem pss_weak {s : List Stmt} {t t' : TS} (h : PSs X s t) (w : ∀ D σ H, t' D σ H → t D σ H) : PSs X s t' := ⟨fun pins s σ H D I q => h.run pins s σ H D I (w D σ H q)⟩
end
end WF

open PySem L2
set_option Elab.async false
set_option linter.all false
set_option maxRecDepth 100000
set_option maxHeartbeats 1000000
/-! # part 2: expressions -/
namespace WF
open PySem PySem.Spec PyProof.Rows L2
/-- a new list: among those that may change (m), or a value -/
def newL (m : Bool) (ds : List D) (h : AH) (Q : AQ) : Prop := match m with
  | true => ∀ p, h p = none → Q (.ref p) (h.set p ds)
  | false => Q (.lst ds) h
def seqL (h : AH) : D → Option (List D)
  | .lst ds => some ds
  | .ref a => h a
  | _ => none
def seqA (h : AH) : D → Option (List D)
  | .tup ds => some ds
  | .lst ds => some ds
  | .ref a => h a
  | _ => none
theorem newL_mono {m : Bool} {ds : List D} {h : AH} {Q Q' : AQ} (w : ∀ d h', Q d h' → Q' d h') (q : newL m ds h Q) : newL m ds h Q' := by
  cases m with
  | true => exact fun p n => w _ _ (q p n)
  | false => exact w _ _ q
section
variable {K : PySem.W.Frag} {Z : List Addr} {h h' : AH} {H H' : Hp}
theorem RH.fresh (R : RH K Z h H) {p : Addr} (n : H p = none) : h p = none := by
  cases q : h p with
  | none => rfl
  | some ds =>
    obtain ⟨xs, e, _⟩ := R.at_ p ds q
    rw [n] at e
    cases e
theorem seqL_ok (R : RH K Z h H) {d : D} {v : V} {ds : List D} (r : RD K Z h H d v) (e : seqL h d = some ds) : ∃ a xs, v = .ref a ∧ SqL K H a xs ∧ RDs K Z h H ds xs := by
  cases d with
  | lst es =>
    cases e
    obtain ⟨a, xs, e1, e2, e3⟩ := r
    exact ⟨a, xs, e1, e2.sq, e3⟩
  | ref a =>
    obtain ⟨xs, e1, e2⟩ := R.at_ a ds e
    exact ⟨a, xs, r, .inl (.inl e1), e2⟩
  | _ => cases e
theorem seqA_ok (R : RH K Z h H) {d : D} {v : V} {ds : List D} (r : RD K Z h H d v) (e : seqA h d = some ds) : ∃ a xs, v = .ref a ∧ (SqL K H a xs ∨ SqT K H a xs) ∧ RDs K Z h H ds xs := by
  cases d with
  | tup es =>
    cases e
    obtain ⟨a, xs, e1, e2, e3⟩ := r
    exact ⟨a, xs, e1, .inr e2, e3⟩
  | lst es =>
    obtain ⟨a, xs, e1, e2, e3⟩ := seqL_ok R r (show seqL h (.lst es) = some ds from e)
    exact ⟨a, xs, e1, .inl e2, e3⟩
  | ref b =>
    obtain ⟨a, xs, e1, e2, e3⟩ := seqL_ok R r (show seqL h (.ref b) = some ds from e)
    exact ⟨a, xs, e1, .inl e2, e3⟩
  | _ => cases e
/-! ends -/
theorem EndE.fin {Q : VK} {d : D} {v : V} (e : EndE K Z h H Q d h) (r : RD K Z h H d v) (R : RH K Z h H) : Q v H := e v H r R Kp.refl
theorem EndE.tup {Q : VK} {ds : List D} {xs : List V} {p : Addr} (e : EndE K Z h H Q (.tup ds) h) (r : RDs K Z h H ds xs) (R : RH K Z h H) (n : H p = none) : Q (.ref p) (upd H p (.tup xs)) :=
  e (.ref p) _ ⟨p, xs, rfl, .inl (.inl upd_same), RDs.keep R (Kp.laid n) r⟩ (R.laid n) (Kp.laid n)
theorem EndE.new {m : Bool} {Q : VK} {ds : List D} {xs : List V} {p : Addr} (e : newL m ds h (EndE K Z h H Q)) (r : RDs K Z h H ds xs) (R : RH K Z h H) (n : H p = none) : Q (.ref p) (upd H p (.lst xs)) := by
  cases m with
  | true => exact e p (R.fresh n) (.ref p) _ rfl (R.put (.inr n) r) (Kp.put (.inr n))
  | false =>
    have e' : EndE K Z h H Q (.lst ds) h := e
    exact e' (.ref p) _ ⟨p, xs, rfl, (.inl ⟨.inl upd_same, R.fresh n, fun m => (R.zk p m).1 n⟩), RDs.keep R (Kp.laid n) r⟩ (R.laid n) (Kp.laid n)
end

/-! ## names, constants -/
def aVar (i : Nat) : ATE := fun σ h Q => ∃ d, σ[i]? = some (some d) ∧ Q d h
def aC (d : D) : ATE := fun _ h Q => Q d h
section
variable {X : Cx} {a b c e : Expr} {es : List Expr} {ta tb tc te : ATE} {t : ATA} {pos : Pos}
theorem ae_var {i : Nat} {x : Str} (hN : X.N[i]? = some x) (hv : Vis X.env.scope x) (hd : (x == ("__debug__" : Str)) = false) (hcd : (x == ("__classdict__" : Str)) = false) : AE X (.Name x pos) (aVar i) := by
  refine ⟨fun σ h Q Q' w ⟨d, e, q⟩ => ⟨d, e, w _ _ q⟩, pe_weak (pe_var hN hv hd hcd) ?_⟩
  rintro σ H Q ⟨Z, σa, h, rs, R, d, e, q⟩
  obtain ⟨v, e1, r⟩ := rs.2 i d e
  exact ⟨v, e1, q.fin r R⟩
theorem ae_cst {d : D} {v : V} (hp : PE X e (tC v)) (hr : ∀ Z h H, RD X.K Z h H d v) : AE X e (aC d) := by
  refine ⟨fun σ h Q Q' w q => w _ _ q, pe_weak hp ?_⟩
  rintro σ H Q ⟨Z, σa, h, rs, R, q⟩
  exact q.fin (hr Z h H) R
/-! ## argument lists, displays -/
def aNil : ATA := fun _ h Q => Q [] h
def aCons (ta : ATE) (tr : ATA) : ATA := fun σ h Q => ta σ h fun d h1 => tr σ h1 fun ds h2 => Q (d :: ds) h2
theorem aa_nil : AA X [] aNil := by
  refine ⟨fun σ h Q Q' w q => w _ _ q, pa_weak pa_nil ?_⟩
  rintro σ H Q ⟨Z, σa, h, rs, R, q⟩
  exact q [] H rfl R Kp.refl
theorem aa_cons (ha : AE X e te) (hr : AA X es t) (hs : starEach (e :: es) X.env = (false, eval e X.env) :: starEach es X.env) : AA X (e :: es) (aCons te t) := by
  refine ⟨fun σ h Q Q' w q => ha.mon _ _ _ _ (fun d h1 q1 => hr.mon _ _ _ _ (fun ds h2 q2 => w _ _ q2) q1) q, pa_weak (pa_cons ha.run hr.run hs) ?_⟩
  rintro σ H Q ⟨Z, σa, h, rs, R, q⟩
  refine ⟨Z, σa, h, rs, R, ha.mon _ _ _ _ (fun d h1 q1 => ?_) q⟩
  intro v H1 r1 R1 k1
  refine ⟨Z, σa, h1, rs.keep R k1, R1, hr.mon _ _ _ _ (fun ds h2 q2 => ?_) q1⟩
  intro vs H2 r2 R2 k2
  exact q2 (v :: vs) H2 ⟨v, vs, rfl, RD.keep R1 k2 r1, r2⟩ R2 (k1.trans k2)
def aTup (t : ATA) : ATE := fun σ h Q => t σ h fun ds h1 => ds.length ≤ sizeLine ∧ Q (.tup ds) h1
def aLst (m : Bool) (t : ATA) : ATE := fun σ h Q => t σ h fun ds h1 => ds.length ≤ sizeLine ∧ newL m ds h1 Q
theorem ae_tup {k : Nat} (ha : AA X es t) : AE X (.Tuple es k pos) (aTup t) := by
  refine ⟨fun σ h Q Q' w q => ha.mon _ _ _ _ (fun ds h1 ⟨z, q1⟩ => ⟨z, w _ _ q1⟩) q, pe_weak (pe_tup ha.run) ?_⟩
  rintro σ H Q ⟨Z, σa, h, rs, R, q⟩
  refine ⟨Z, σa, h, rs, R, ha.mon _ _ _ _ (fun ds h1 ⟨z, q1⟩ => ?_) q⟩
  intro vs H1 r1 R1 k1
  exact ⟨by rw [← r1.length]; exact z, fun p n => (q1.mono k1).tup r1 R1 n⟩
theorem ae_lst {m : Bool} (ha : AA X es t) : AE X (.List es pos) (aLst m t) := by
  refine ⟨fun σ h Q Q' w q => ha.mon _ _ _ _ (fun ds h1 ⟨z, q1⟩ => ⟨z, newL_mono w q1⟩) q, pe_weak (pe_lst ha.run) ?_⟩
  rintro σ H Q ⟨Z, σa, h, rs, R, q⟩
  refine ⟨Z, σa, h, rs, R, ha.mon _ _ _ _ (fun ds h1 ⟨z, q1⟩ => ?_) q⟩
  intro vs H1 r1 R1 k1
  exact ⟨by rw [← r1.length]; exact z, fun p n => EndE.new (newL_mono (fun d h' e => e.mono k1) q1) r1 R1 n⟩
/-! ## operators by values -/
abbrev AR1 := D → AH → AQ → Prop
abbrev AR2 := D → D → AH → AQ → Prop
abbrev ARn := List D → AH → AQ → Prop
def MonR2 (r : AR2) : Prop := ∀ x y h Q Q', (∀ d h', Q d h' → Q' d h') → r x y h Q → r x y h Q'
def MonR1 (r : AR1) : Prop := ∀ x h Q Q', (∀ d h', Q d h' → Q' d h') → r x h Q → r x h Q'
def MonRn (r : ARn) : Prop := ∀ x h Q Q', (∀ d h', Q d h' → Q' d h') → r x h Q → r x h Q'
structure AOp (X : Cx) (f : Value → Value → Sem Value) (r : AR2) : Prop where
  mon : MonR2 r
  run : ∀ Z x y h H vx vy Q, RD X.K Z h H x vx → RD X.K Z h H y vy → RH X.K Z h H → r x y h (EndE X.K Z h H Q) → ∃ r0, OpR X f r0 ∧ r0 vx vy H Q
structure AUn (X : Cx) (f : Value → Sem Value) (r : AR1) : Prop where
  mon : MonR1 r
  run : ∀ Z x h H vx Q, RD X.K Z h H x vx → RH X.K Z h H → r x h (EndE X.K Z h H Q) → ∃ r0, UnR X f r0 ∧ r0 vx H Q
structure ACall (X : Cx) (f : Value) (r : ARn) : Prop where
  mon : MonRn r
  run : ∀ Z xs h H vs Q, RDs X.K Z h H xs vs → RH X.K Z h H → r xs h (EndE X.K Z h H Q) → ∃ r0, CallR X f r0 ∧ r0 vs H Q
structure AIx (X : Cx) (r : AR2) : Prop where
  mon : MonR2 r
  run : ∀ Z x y h H vx vy Q, RD X.K Z h H x vx → RD X.K Z h H y vy → RH X.K Z h H → r x y h (EndE X.K Z h H Q) → ∃ r0, IxR X r0 ∧ r0 vx vy H Q
theorem opr_any {f : Value → Value → Sem Value} : OpR X f (fun x y H Q => ∃ r0, OpR X f r0 ∧ r0 x y H Q) := fun pins s σ H x y v u Q I rx ry ⟨r0, o, q⟩ => o pins s σ H x y v u Q I rx ry q
theorem unr_any {f : Value → Sem Value} : UnR X f (fun x H Q => ∃ r0, UnR X f r0 ∧ r0 x H Q) := fun pins s σ H x v Q I rx ⟨r0, o, q⟩ => o pins s σ H x v Q I rx q
theorem callr_any {f : Value} : CallR X f (fun x H Q => ∃ r0, CallR X f r0 ∧ r0 x H Q) := fun pins s σ H x v Q I rx ⟨r0, o, q⟩ => o pins s σ H x v Q I rx q
theorem ixr_any : IxR X (fun x y H Q => ∃ r0, IxR X r0 ∧ r0 x y H Q) := fun va sl pins s σ H x y v u Q I rx ry ⟨r0, o, q⟩ hs => o va sl pins s σ H x y v u Q I rx ry q hs
def aOp (r : AR2) (ta tb : ATE) : ATE := fun σ h Q => ta σ h fun x h1 => tb σ h1 fun y h2 => r x y h2 Q
def aUn (r : AR1) (ta : ATE) : ATE := fun σ h Q => ta σ h fun x h1 => r x h1 Q
def aCall (r : ARn) (t : ATA) : ATE := fun σ h Q => t σ h fun xs h1 => r xs h1 Q
theorem aop_mon {r : AR2} (mr : MonR2 r) (ha : MonE ta) (hb : MonE tb) : MonE (aOp r ta tb) := fun σ h Q Q' w q =>
  ha _ _ _ _ (fun d h1 q1 => hb _ _ _ _ (fun e h2 q2 => mr _ _ _ _ _ w q2) q1) q
/-- two expressions, then r0 -/
theorem aop_w {r : AR2} {r0 : R2} (mr : MonR2 r) (ha : MonE ta) (hb : MonE tb) (ho : ∀ Z x y h H vx vy Q, RD X.K Z h H x vx → RD X.K Z h H y vy → RH X.K Z h H → r x y h (EndE X.K Z h H Q) → r0 vx vy H Q) :
    ∀ σ H Q, lftE X.K (aOp r ta tb) σ H Q → tOp r0 (lftE X.K ta) (lftE X.K tb) σ H Q := by
  rintro σ H Q ⟨Z, σa, h, rs, R, q⟩
  refine ⟨Z, σa, h, rs, R, ha _ _ _ _ (fun d h1 q1 => ?_) q⟩
  intro v H1 r1 R1 k1
  refine ⟨Z, σa, h1, rs.keep R k1, R1, hb _ _ _ _ (fun e h2 q2 => ?_) q1⟩
  intro u H2 r2 R2 k2
  exact ho Z d e h2 H2 v u Q (RD.keep R1 k2 r1) r2 R2 (mr _ _ _ _ _ (fun _ _ e => e.mono (k1.trans k2)) q2)
theorem ae_bin {op : Operator} {r : AR2} (ho : AOp X (binaryOp op) r) (ha : AE X a ta) (hb : AE X b tb) : AE X (.BinOp a op b pos) (aOp r ta tb) :=
  ⟨aop_mon ho.mon ha.mon hb.mon, pe_weak (pe_op opr_any ha.run hb.run) (aop_w ho.mon ha.mon hb.mon ho.run)⟩
theorem ae_cmp {op : CmpOp} {r : AR2} (ho : AOp X (compareOp op) r) (ha : AE X a ta) (hb : AE X b tb) (hm : behindInMarks op b = false) : AE X (.Compare a [op] [b] pos) (aOp r ta tb) :=
  ⟨aop_mon ho.mon ha.mon hb.mon, pe_weak (pe_cmpR opr_any ha.run hb.run hm) (aop_w ho.mon ha.mon hb.mon ho.run)⟩
theorem ae_ix {r : AR2} (ho : AIx X r) (ha : AE X a ta) (hb : AE X b tb) (hs : PlainIx b) : AE X (.Subscript a b pos) (aOp r ta tb) :=
  ⟨aop_mon ho.mon ha.mon hb.mon, pe_weak (pe_ix ixr_any ha.run hb.run hs) (aop_w ho.mon ha.mon hb.mon ho.run)⟩
theorem ae_un {op : UnaryOp} {r : AR1} (ho : AUn X (unaryOp op) r) (ha : AE X a ta) : AE X (.UnaryOp op a pos) (aUn r ta) := by
  refine ⟨fun σ h Q Q' w q => ha.mon _ _ _ _ (fun d h1 q1 => ho.mon _ _ _ _ w q1) q, pe_weak (pe_un unr_any ha.run) ?_⟩
  rintro σ H Q ⟨Z, σa, h, rs, R, q⟩
  refine ⟨Z, σa, h, rs, R, ha.mon _ _ _ _ (fun d h1 q1 => ?_) q⟩
  intro v H1 r1 R1 k1
  exact ho.run Z d h1 H1 v Q r1 R1 (ho.mon _ _ _ _ (fun _ _ e => e.mono k1) q1)
theorem acall_mon {r : ARn} (mr : MonRn r) (ha : MonA t) : MonE (aCall r t) := fun σ h Q Q' w q => ha _ _ _ _ (fun d h1 q1 => mr _ _ _ _ w q1) q
theorem acall_w {r : ARn} {r0 : List V → Hp → VK → Prop} (mr : MonRn r) (ha : MonA t) (ho : ∀ Z xs h H vs Q, RDs X.K Z h H xs vs → RH X.K Z h H → r xs h (EndE X.K Z h H Q) → r0 vs H Q) :
    ∀ σ H Q, lftE X.K (aCall r t) σ H Q → tCB r0 (lftA X.K t) σ H Q := by
  rintro σ H Q ⟨Z, σa, h, rs, R, q⟩
  refine ⟨Z, σa, h, rs, R, ha _ _ _ _ (fun d h1 q1 => ?_) q⟩
  intro v H1 r1 R1 k1
  exact ho Z d h1 H1 v Q r1 R1 (mr _ _ _ _ (fun _ _ e => e.mono k1) q1)
theorem ae_callB {x : Str} {p : Pos} {id : String} {r : ARn} (ho : ACall X (.builtin id) r) (hg : Gl X x) (hm : X.mg x = none) (hv : bootBuiltins x = some (.builtin id)) (ha : AA X (e :: es) t) (hn : x ≠ "__name__") (hdb : (x == ("__debug__" : Str)) = false)
    (he : starEach (e :: es) X.env = (false, eval e X.env) :: starEach es X.env) (hpl : (backTo pos (starEach es X.env)).any (·.1) = false) : AE X (.Call (.Name x p) (e :: es) [] pos) (aCall r t) :=
  ⟨acall_mon ho.mon ha.mon, pe_weak (pe_callB callr_any hg hm hv ha.run hn hdb he hpl) (acall_w ho.mon ha.mon ho.run)⟩
theorem ae_callTy {x : Str} {p : Pos} {T : String} {r : ARn} (ho : ACall X (.type T) r) (hg : Gl X x) (hm : X.mg x = none) (hv : bootBuiltins x = some (.type T)) (ha : AA X (e :: es) t) (hn : x ≠ "__name__") (hdb : (x == ("__debug__" : Str)) = false)
    (he : starEach (e :: es) X.env = (false, eval e X.env) :: starEach es X.env) (hpl : (backTo pos (starEach es X.env)).any (·.1) = false) : AE X (.Call (.Name x p) (e :: es) [] pos) (aCall r t) :=
  ⟨acall_mon ho.mon ha.mon, pe_weak (pe_callTy callr_any hg hm hv ha.run hn hdb he hpl) (acall_w ho.mon ha.mon ho.run)⟩
theorem ae_callFun {x : Str} {p : Pos} {id : String} {r : ARn} (ho : ACall X (.builtin id) r) (hg : Gl X x) (hm : X.mg x = some (.builtin id)) (ha : AA X (e :: es) t) (hdb : (x == ("__debug__" : Str)) = false)
    (he : starEach (e :: es) X.env = (false, eval e X.env) :: starEach es X.env) (hpl : (backTo pos (starEach es X.env)).any (·.1) = false) : AE X (.Call (.Name x p) (e :: es) [] pos) (aCall r t) :=
  ⟨acall_mon ho.mon ha.mon, pe_weak (pe_callBfun callr_any hg hm ha.run hdb he hpl) (acall_w ho.mon ha.mon ho.run)⟩
/-! ## tests, and, or, not, if -/
def aTst (t : ATE) : ATT := fun σ h Q => t σ h fun d h1 => ∃ k, d = .bl k ∧ Q k h1
theorem atst_mon (ha : MonE ta) : MonT (aTst ta) := fun σ h Q Q' w q => ha _ _ _ _ (fun d h1 ⟨k, e, q1⟩ => ⟨k, e, w _ _ q1⟩) q
theorem at_val (ha : AE X e te) (he : ∀ whole, isTrue e X.env whole = (do let v ← whole; standAt e.pos; holding [v] (truthy v))) : AT X e (aTst te) := by
  refine ⟨atst_mon ha.mon, pt_weak (pt_val ha.run he) ?_⟩
  rintro σ H Q ⟨Z, σa, h, rs, R, q⟩
  refine ⟨Z, σa, h, rs, R, ha.mon _ _ _ _ (fun d h1 ⟨k, e1, q1⟩ => ?_) q⟩
  intro v H1 r1 R1 k1
  subst e1
  exact ⟨k, r1, q1 H1 R1 k1⟩
theorem at_cmp {op : CmpOp} {r : AR2} (ho : AOp X (compareOp op) r) (ha : AE X a ta) (hb : AE X b tb) (hm : behindInMarks op b = false) : AT X (.Compare a [op] [b] pos) (aTst (aOp r ta tb)) := by
  refine ⟨atst_mon (aop_mon ho.mon ha.mon hb.mon), pt_weak (pt_cmpR opr_any ha.run hb.run hm) ?_⟩
  rintro σ H Q ⟨Z, σa, h, rs, R, q⟩
  refine aop_w ho.mon ha.mon hb.mon ho.run σ H _ ⟨Z, σa, h, rs, R, aop_mon ho.mon ha.mon hb.mon _ _ _ _ (fun d h1 ⟨k, e1, q1⟩ => ?_) q⟩
  intro v H1 r1 R1 k1
  subst e1
  exact ⟨k, r1, q1 H1 R1 k1⟩
def aAnd (ta tb : ATE) : ATE := fun σ h Q => ta σ h fun d h1 => ∃ k, d = .bl k ∧ if k = true then tb σ h1 Q else Q (.bl false) h1
def aOr (ta tb : ATE) : ATE := fun σ h Q => ta σ h fun d h1 => ∃ k, d = .bl k ∧ if k = true then Q (.bl true) h1 else tb σ h1 Q
def aNot (ta : ATE) : ATE := fun σ h Q => ta σ h fun d h1 => ∃ k, d = .bl k ∧ Q (.bl (!k)) h1
def aIf (tc ta tb : ATE) : ATE := fun σ h Q => tc σ h fun d h1 => ∃ k, d = .bl k ∧ if k = true then ta σ h1 Q else tb σ h1 Q
theorem aand_mon (ha : MonE ta) (hb : MonE tb) : MonE (aAnd ta tb) := fun σ h Q Q' w q => ha _ _ _ _ (fun d h1 ⟨k, e, q1⟩ => ⟨k, e, by
  cases k with
  | true => exact hb _ _ _ _ w q1
  | false => exact w _ _ q1⟩) q
theorem aor_mon (ha : MonE ta) (hb : MonE tb) : MonE (aOr ta tb) := fun σ h Q Q' w q => ha _ _ _ _ (fun d h1 ⟨k, e, q1⟩ => ⟨k, e, by
  cases k with
  | true => exact w _ _ q1
  | false => exact hb _ _ _ _ w q1⟩) q
theorem anot_mon (ha : MonE ta) : MonE (aNot ta) := fun σ h Q Q' w q => ha _ _ _ _ (fun d h1 ⟨k, e, q1⟩ => ⟨k, e, w _ _ q1⟩) q
theorem aif_mon (hc : MonE tc) (ha : MonE ta) (hb : MonE tb) : MonE (aIf tc ta tb) := fun σ h Q Q' w q => hc _ _ _ _ (fun d h1 ⟨k, e, q1⟩ => ⟨k, e, by
  cases k with
  | true => exact ha _ _ _ _ w q1
  | false => exact hb _ _ _ _ w q1⟩) q
variable {rest : List Expr}
theorem ae_one {op : BoolOp} (ha : AE X a ta) : AE X (.BoolOp op [a] pos) ta := ⟨ha.mon, pe_one ha.run⟩
theorem ae_and (ha : AE X a ta) (hb : AE X (.BoolOp .And (b :: rest) pos) tb) : AE X (.BoolOp .And (a :: b :: rest) pos) (aAnd ta tb) := by
  refine ⟨aand_mon ha.mon hb.mon, pe_weak (pe_and ha.run hb.run) ?_⟩
  rintro σ H Q ⟨Z, σa, h, rs, R, q⟩
  refine ⟨Z, σa, h, rs, R, ha.mon _ _ _ _ (fun d h1 ⟨k, e1, q1⟩ => ?_) q⟩
  intro v H1 r1 R1 k1
  subst e1
  refine ⟨k, r1, ?_⟩
  cases k with
  | true => exact ⟨Z, σa, h1, rs.keep R k1, R1, hb.mon _ _ _ _ (fun _ _ e => e.mono k1) q1⟩
  | false => exact (q1 : EndE X.K Z h H Q (.bl false) h1) (.bl false) H1 rfl R1 k1
theorem ae_or (ha : AE X a ta) (hb : AE X (.BoolOp .Or (b :: rest) pos) tb) : AE X (.BoolOp .Or (a :: b :: rest) pos) (aOr ta tb) := by
  refine ⟨aor_mon ha.mon hb.mon, pe_weak (pe_or ha.run hb.run) ?_⟩
  rintro σ H Q ⟨Z, σa, h, rs, R, q⟩
  refine ⟨Z, σa, h, rs, R, ha.mon _ _ _ _ (fun d h1 ⟨k, e1, q1⟩ => ?_) q⟩
  intro v H1 r1 R1 k1
  subst e1
  refine ⟨k, r1, ?_⟩
  cases k with
  | false => exact ⟨Z, σa, h1, rs.keep R k1, R1, hb.mon _ _ _ _ (fun _ _ e => e.mono k1) q1⟩
  | true => exact (q1 : EndE X.K Z h H Q (.bl true) h1) (.bl true) H1 rfl R1 k1
theorem ae_not (ha : AE X a ta) : AE X (.UnaryOp .Not a pos) (aNot ta) := by
  refine ⟨anot_mon ha.mon, pe_weak (pe_not ha.run) ?_⟩
  rintro σ H Q ⟨Z, σa, h, rs, R, q⟩
  refine ⟨Z, σa, h, rs, R, ha.mon _ _ _ _ (fun d h1 ⟨k, e1, q1⟩ => ?_) q⟩
  intro v H1 r1 R1 k1
  subst e1
  exact ⟨k, r1, (q1 : EndE X.K Z h H Q (.bl (!k)) h1) (.bl (!k)) H1 rfl R1 k1⟩
theorem ae_if (hc : AT X c (aTst tc)) (mc : MonE tc) (ha : AE X a ta) (hb : AE X b tb) : AE X (.IfExp c a b pos) (aIf tc ta tb) := by
  refine ⟨aif_mon mc ha.mon hb.mon, pe_weak (pe_ifExp hc.run ha.run hb.run) ?_⟩
  rintro σ H Q ⟨Z, σa, h, rs, R, q⟩
  refine ⟨Z, σa, h, rs, R, mc _ _ _ _ (fun d h1 ⟨k, e1, q1⟩ => ?_) q⟩
  subst e1
  refine ⟨k, rfl, fun H1 R1 k1 => ?_⟩
  cases k with
  | true => exact ⟨Z, σa, h1, rs.keep R k1, R1, ha.mon _ _ _ _ (fun _ _ e => e.mono k1) q1⟩
  | false => exact ⟨Z, σa, h1, rs.keep R k1, R1, hb.mon _ _ _ _ (fun _ _ e => e.mono k1) q1⟩
/-! .. as tests -/
structure AW (X : Cx) (e : Expr) (t : ATT) : Prop where
  mon : MonT t
  run : PW X e (lftT X.K t)
theorem aw_and1 (ha : AT X a (aTst ta)) : AW X (.BoolOp .And [a] pos) (aTst ta) := ⟨ha.mon, pw_and1 ha.run⟩
theorem aw_or1 (ha : AT X a (aTst ta)) : AW X (.BoolOp .Or [a] pos) (aTst ta) := ⟨ha.mon, pw_or1 ha.run⟩
theorem aw_and (ha : AT X a (aTst ta)) (hb : AW X (.BoolOp .And (b :: rest) pos) (aTst tb)) (ma : MonE ta) (mb : MonE tb) : AW X (.BoolOp .And (a :: b :: rest) pos) (aTst (aAnd ta tb)) := by
  refine ⟨atst_mon (aand_mon ma mb), pw_weak (pw_and ha.run hb.run) ?_⟩
  rintro σ H Q ⟨Z, σa, h, rs, R, q⟩
  refine ⟨Z, σa, h, rs, R, ma _ _ _ _ (fun d h1 ⟨k, e1, q1⟩ => ?_) q⟩
  subst e1
  refine ⟨k, rfl, fun H1 R1 k1 => ?_⟩
  cases k with
  | true => exact ⟨Z, σa, h1, rs.keep R k1, R1, mb _ _ _ _ (fun d2 h2 ⟨k2, e2, q2⟩ => ⟨k2, e2, q2.mono k1⟩) q1⟩
  | false =>
    obtain ⟨k2, e2, q2⟩ := (q1 : ∃ k2, D.bl false = .bl k2 ∧ EndT X.K Z h H Q k2 h1)
    cases e2
    exact q2 H1 R1 k1
theorem aw_or (ha : AT X a (aTst ta)) (hb : AW X (.BoolOp .Or (b :: rest) pos) (aTst tb)) (ma : MonE ta) (mb : MonE tb) : AW X (.BoolOp .Or (a :: b :: rest) pos) (aTst (aOr ta tb)) := by
  refine ⟨atst_mon (aor_mon ma mb), pw_weak (pw_or ha.run hb.run) ?_⟩
  rintro σ H Q ⟨Z, σa, h, rs, R, q⟩
  refine ⟨Z, σa, h, rs, R, ma _ _ _ _ (fun d h1 ⟨k, e1, q1⟩ => ?_) q⟩
  subst e1
  refine ⟨k, rfl, fun H1 R1 k1 => ?_⟩
  cases k with
  | false => exact ⟨Z, σa, h1, rs.keep R k1, R1, mb _ _ _ _ (fun d2 h2 ⟨k2, e2, q2⟩ => ⟨k2, e2, q2.mono k1⟩) q1⟩
  | true =>
    obtain ⟨k2, e2, q2⟩ := (q1 : ∃ k2, D.bl true = .bl k2 ∧ EndT X.K Z h H Q k2 h1)
    cases e2
    exact q2 H1 R1 k1
theorem at_not (ha : AT X a (aTst ta)) (ma : MonE ta) : AT X (.UnaryOp .Not a pos) (aTst (aNot ta)) := by
  refine ⟨atst_mon (anot_mon ma), pt_weak (pt_not ha.run) ?_⟩
  rintro σ H Q ⟨Z, σa, h, rs, R, q⟩
  refine ⟨Z, σa, h, rs, R, ma _ _ _ _ (fun d h1 ⟨k, e1, q1⟩ => ?_) q⟩
  subst e1
  obtain ⟨k2, e2, q2⟩ := q1
  cases e2
  exact ⟨k, rfl, q2⟩
end
end WF

open PySem L2
set_option Elab.async false
set_option linter.all false
set_option maxRecDepth 100000
set_option maxHeartbeats 1000000
/-! # part 3: operators and built-ins by values -/
namespace WF
open PySem PySem.Spec PyProof.Rows L2
section
variable {prog : Program} {w : World} {A : Around} {E : Value → Shared → Prop} {s : Shared}
theorem args_min4 (a b c d : Value) : argsOk "min" ⟨[a, b, c, d], []⟩ := by unfold argsOk; kernel_rfl
/-- the call's walk, by what its iterator walks over -/
theorem call_min4 {a b c d : Value} {Q : Value → Shared → Prop}
    (h : wpAny (model prog w) A.in1 (pyIter (.ref s.heap.objs.size)) (fun it s2 => ∃ I fp wr n R St bt, it = .ref I ∧ Walks prog w A.in1 I fp wr n R St ∧ St 0 s2.heap ∧ (∀ r ∈ fp, r < s2.heap.objs.size) ∧ 0 < n ∧ CmpOf prog w A.in1 .Lt R bt ∧
      ∀ v h' tk, R (argBest bt (n - 1)) v → (∀ r o, r ∉ wr → s2.heap.get? r = some o → h'.get? r = some o) → Q v { s2 with heap := h', toks := tk }) E
      { s with heap := s.heap.push { cls := .type "tuple", data := .seq #[a, b, c, d] } }) :
    wpAny (model prog w) A (call (.builtin "min") [a, b, c, d]) Q E s := by
  refine call_function_tree F.kind_min F.plain_min F.entry_min (args_min4 _ _ _ _) ?_
  show wpAny _ A.in1 (Builtin.Builtins.bindParams "min" ["key", "default"] 0 ⟨[], []⟩ >>= _) _ _ s
  refine wpAny_bind (wpAny_of_eq (show Builtin.Builtins.bindParams "min" ["key", "default"] 0 ⟨[], []⟩ = pure [none, none] from rfl) ?_)
  show wpAny _ A.in1 (newTuple [a, b, c, d] >>= _) _ _ s
  refine wpAny_bind (wpAny_newObj_type (wpAny_bind (wpAny_mono h ?_ fun _ _ e => e)))
  rintro it s2 ⟨I, fp, wr, n, R, St, bt, rfl, W, st0, low, pos, cmp, post⟩
  refine wpAny_bind (wpAny_newObj_type ?_)
  rw [show (toString "min" ++ toString ".loop" : String) = "min.loop" from by decide]
  refine wpAny_pure ⟨plainId_quiet F.plain_min_loop _, codeAny_min_loop_first W bt cmp s2.heap.objs.size (fun m => Nat.lt_irrefl _ (low _ m)) pos (W.frame _ _ _ st0 fun r _ o e => Heap.get?_push_of_some _ e) (Heap.get?_push_size _ rfl) fun v h' tk hv keep => ?_⟩
  exact post v h' tk hv fun r o nw e => keep r o nw (Nat.ne_of_lt (Heap.lt_size e)) (Heap.get?_push_of_some _ e)
/-- min of four whole numbers: the least of them -/
theorem min4_ints {a b c d : Int} {t u x y : Tok} {Q : Value → Shared → Prop} (hh : A.handled = none)
    (h : ∀ (h' : Heap) (tk : Nat) (m : Int) (t' : Tok), (∀ r o, s.heap.get? r = some o → h'.get? r = some o) → m ∈ [a, b, c, d] → (∀ i ∈ [a, b, c, d], m ≤ i) → Q (.int m t') { s with heap := h', toks := tk }) :
    wpAny (model prog w) A (call (.builtin "min") [.int a t, .int b u, .int c x, .int d y]) Q E s := by
  have tup : (s.heap.push { cls := .type "tuple", data := .seq #[.int a t, .int b u, .int c x, .int d y] }).IsTuple s.heap.objs.size (intItems #[(a, t), (b, u), (c, x), (d, y)]) := ⟨_, Heap.get?_push_size _ rfl, rfl, 0, by simp [intItems]⟩
  have sz : (s.heap.push { cls := .type "tuple", data := .seq #[.int a t, .int b u, .int c x, .int d y] }).objs.size = s.heap.objs.size + 1 := Heap.size_push ..
  refine call_min4 (wpAny_pyIter_tuple tup ⟨_, [_, s.heap.objs.size], [_], _, _, _, _, rfl, Walks.tuple (A := A.in1) hh _ s.heap.objs.size (by rw [sz]; exact Nat.ne_of_lt (Nat.lt_succ_self _)) (intItems #[(a, t), (b, u), (c, x), (d, y)]),
    ⟨⟨_, Heap.get?_push_size _ rfl, rfl, rfl⟩, tup.push _⟩, fun r m => ?_, by simp [intItems], CmpOf.ints_lt (numAt #[(a, t), (b, u), (c, x), (d, y)]) fun _ _ => intItems_at, fun v h' tk hv keep => ?_⟩)
  · show r < ((s.heap.push _).push _).objs.size
    rw [Heap.size_push, sz]
    simp only [List.mem_cons, List.not_mem_nil, or_false] at m
    rcases m with rfl | rfl
    · rw [sz]; exact Nat.lt_succ_self _
    · exact Nat.lt_succ_of_lt (Nat.lt_succ_self _)
  · have old : ∀ r o, s.heap.get? r = some o → h'.get? r = some o := fun r o e => by
      refine keep r o (fun m => ?_) (Heap.get?_push_of_some _ (Heap.get?_push_of_some _ e))
      simp only [List.mem_cons, List.not_mem_nil, or_false] at m
      have lt := Heap.lt_size e
      rw [m, sz] at lt
      exact Nat.lt_irrefl _ (Nat.lt_of_succ_lt lt)
    obtain ⟨q1, q2⟩ := argBest_lt (numAt #[(a, t), (b, u), (c, x), (d, y)]) 3
    obtain ⟨t', rfl⟩ := intItems_at hv
    have e3 : (intItems #[(a, t), (b, u), (c, x), (d, y)]).size - 1 = 3 := by simp [intItems]
    refine h h' tk _ t' old ?_ ?_
    · rw [e3]
      generalize argBest _ 3 = k at *
      match k, q1 with
      | 0, _ => simp [numAt]
      | 1, _ => simp [numAt]
      | 2, _ => simp [numAt]
      | 3, _ => simp [numAt]
      | k + 4, l => omega
    · rw [e3]
      have f0 := q2 0 (by omega)
      have f1 := q2 1 (by omega)
      have f2 := q2 2 (by omega)
      have f3 := q2 3 (by omega)
      simp [numAt] at f0 f1 f2 f3
      intro i m
      simp only [List.mem_cons, List.not_mem_nil, or_false] at m
      rcases m with rfl | rfl | rfl | rfl
      · simpa [numAt] using f0
      · simpa [numAt] using f1
      · simpa [numAt] using f2
      · simpa [numAt] using f3
end
section
variable {X : Cx}
theorem cr_min4 (hc : X.calm = true) : CallR X (.builtin "min") (fun xs H Q => ∃ a b c d : Int, xs = [.int a, .int b, .int c, .int d] ∧ ∀ m, m ∈ [a, b, c, d] → (∀ i ∈ [a, b, c, d], m ≤ i) → Q (.int m) H) := by
  intro pins s σ H xs us Q I r h
  obtain ⟨a, b, c, d, rfl, q⟩ := h
  cases r with
  | cons r1 r =>
    cases r with
    | cons r2 r =>
      cases r with
      | cons r3 r =>
        cases r with
        | cons r4 r =>
          cases r
          obtain ⟨t, rfl⟩ := r1
          obtain ⟨u, rfl⟩ := r2
          obtain ⟨x, rfl⟩ := r3
          obtain ⟨y, rfl⟩ := r4
          exact min4_ints (I.ok.hd hc) fun h' tk m t' k h1 h2 => ⟨.int m, H, I.kept k, ⟨_, rfl⟩, q m h1 h2⟩
end
open PySem PySem.Spec PyProof.Rows L2
/-! ## data as data -/
mutual
def pd0 : D → Option PyData
  | .non => some .none
  | .bl b => some (.bool b)
  | .int i => some (.int i)
  | .str s => some (.str s)
  | .tup ds => (pds ds).map .tuple
  | .lst ds => (pds ds).map .list
  | .ref _ => none
  | .ty _ => none
def pds : List D → Option (List PyData)
  | [] => some []
  | d :: ds => (pd0 d).bind fun x => (pds ds).map fun xs => x :: xs
end
def pd (h : AH) : D → Option PyData
  | .ref a => (h a).bind fun ds => (pds ds).map .list
  | d => pd0 d
section
variable {K : PySem.W.Frag} {Z : List Addr} {h : AH} {H : Hp}
mutual
theorem pd0_ok (R : RH K Z h H) : ∀ {d : D} {v : V} {p : PyData}, RD K Z h H d v → pd0 d = some p → Dp K H v p
  | .non, _, _, r, e => by
    cases r
    cases e
    exact .non
  | .bl b, _, _, r, e => by
    cases r
    cases e
    exact .bl b
  | .int i, _, _, r, e => by
    cases r
    cases e
    exact .int i
  | .str s, _, _, r, e => by
    cases r
    cases e
    exact .str s
  | .tup ds, _, _, r, e => by
    simp only [RD] at r
    obtain ⟨a, xs, rfl, hs, r⟩ := r
    simp only [pd0] at e
    cases q : pds ds with
    | none =>
      rw [q] at e
      cases e
    | some ps =>
      rw [q] at e
      cases e
      exact .tup hs (pds_ok R r q)
  | .lst ds, _, _, r, e => by
    simp only [RD] at r
    obtain ⟨a, xs, rfl, hs, r⟩ := r
    simp only [pd0] at e
    cases q : pds ds with
    | none =>
      rw [q] at e
      cases e
    | some ps =>
      rw [q] at e
      cases e
      exact .lst hs.sq (pds_ok R r q)
  | .ref _, _, _, _, e => by cases e
  | .ty _, _, _, _, e => by cases e
theorem pds_ok (R : RH K Z h H) : ∀ {ds : List D} {xs : List V} {ps : List PyData}, RDs K Z h H ds xs → pds ds = some ps → DpAll K H xs ps
  | [], _, _, r, e => by
    simp only [RDs] at r
    subst r
    cases e
    exact .nil
  | d :: ds, _, _, r, e => by
    simp only [RDs] at r
    obtain ⟨y, ys, rfl, r1, r2⟩ := r
    simp only [pds] at e
    cases q : pd0 d with
    | none =>
      rw [q] at e
      cases e
    | some p =>
      rw [q] at e
      cases q2 : pds ds with
      | none =>
        rw [q2] at e
        cases e
      | some ps =>
        rw [q2] at e
        cases e
        exact .cons (pd0_ok R r1 q) (pds_ok R r2 q2)
end
theorem pd_ok (R : RH K Z h H) {d : D} {v : V} {p : PyData} (r : RD K Z h H d v) (e : pd h d = some p) : Dp K H v p := by
  cases d with
  | ref a =>
    simp only [pd] at e
    cases q : h a with
    | none =>
      rw [q] at e
      cases e
    | some ds =>
      rw [q] at e
      cases q2 : pds ds with
      | none =>
        simp [q2] at e
      | some ps =>
        simp [q2] at e
        subst e
        obtain ⟨xs, e1, r1⟩ := R.at_ a ds q
        cases r
        exact .lst (.inl (.inl e1)) (pds_ok R r1 q2)
  | _ => exact pd0_ok R r e
theorem RDs.ints : ∀ {ns : List Int} {xs : List V}, RDs K Z h H (ns.map D.int) xs → xs = ns.map V.int
  | [], _, r => by
    simp only [List.map_nil, RDs] at r
    exact r
  | n :: ns, _, r => by
    simp only [List.map_cons, RDs, RD] at r
    obtain ⟨y, ys, rfl, rfl, r⟩ := r
    rw [RDs.ints r]
    rfl
theorem RDs.bls : ∀ {ns : List Bool} {xs : List V}, RDs K Z h H (ns.map D.bl) xs → xs = ns.map V.bl
  | [], _, r => by
    simp only [List.map_nil, RDs] at r
    exact r
  | n :: ns, _, r => by
    simp only [List.map_cons, RDs, RD] at r
    obtain ⟨y, ys, rfl, rfl, r⟩ := r
    rw [RDs.bls r]
    rfl
theorem rds_ints : ∀ (ns : List Int), RDs K Z h H (ns.map D.int) (ns.map V.int)
  | [] => rfl
  | n :: ns => ⟨_, _, rfl, rfl, rds_ints ns⟩
theorem RDs.one_of {d : D} {xs : List V} (r : RDs K Z h H [d] xs) : ∃ x, xs = [x] ∧ RD K Z h H d x := by
  simp only [RDs] at r
  obtain ⟨x, ys, rfl, r1, rfl⟩ := r
  exact ⟨x, rfl, r1⟩
theorem RDs.two_of {d e : D} {xs : List V} (r : RDs K Z h H [d, e] xs) : ∃ x y, xs = [x, y] ∧ RD K Z h H d x ∧ RD K Z h H e y := by
  simp only [RDs] at r
  obtain ⟨x, ys, rfl, r1, y, zs, rfl, r2, rfl⟩ := r
  exact ⟨x, y, rfl, r1, r2⟩
end
/-! ## operators -/
/-- a product that the machine makes -/
def MulOk (i j : Int) : Prop := i.natAbs.log2 + j.natAbs.log2 < 1000000
/-- a divisor that the machine takes -/
def DivOk (j : Int) : Prop := 0 < j ∧ j.natAbs.log2 < 9000
def sAdd (m : Bool) : AR2 := fun x y h Q => match x, y with
  | .int i, .int j => Q (.int (i + j)) h
  | .str a, .str b => a.length + b.length ≤ sizeLine ∧ Q (.str (a ++ b)) h
  | .tup xs, .tup ys => xs.length + ys.length ≤ sizeLine ∧ Q (.tup (xs ++ ys)) h
  | _, _ => ∃ xs ys, seqL h x = some xs ∧ seqL h y = some ys ∧ xs.length + ys.length ≤ sizeLine ∧ newL m (xs ++ ys) h Q
def sSub : AR2 := fun x y h Q => match x, y with
  | .int i, .int j => Q (.int (i - j)) h
  | .bl a, .bl b => Q (.int ((if a then 1 else 0) - (if b then 1 else 0))) h
  | _, _ => False
def sMul : AR2 := fun x y h Q => match x, y with
  | .int i, .int j => MulOk i j ∧ Q (.int (i * j)) h
  | _, _ => False
def sDiv : AR2 := fun x y h Q => match x, y with
  | .int i, .int j => DivOk j ∧ Q (.int (i / j)) h
  | _, _ => False
def sMod : AR2 := fun x y h Q => match x, y with
  | .int i, .int j => 0 < j ∧ Q (.int (i % j)) h
  | _, _ => False
def sPow : AR2 := fun x y h Q => match x, y with
  | .int i, .int j => (0 ≤ j ∧ j ≤ 1000000 ∧ i.natAbs < 2 ^ 64) ∧ Q (.int (i ^ j.toNat)) h
  | _, _ => False
def sRel (p : Int → Int → Bool) : AR2 := fun x y h Q => match x, y with
  | .int i, .int j => Q (.bl (p i j)) h
  | _, _ => False
def sEq (neg : Bool) : AR2 := fun x y h Q => (∃ a b, x = .str a ∧ y = .str b ∧ Q (.bl (if neg then !decide (a = b) else decide (a = b))) h) ∨ ∃ p q, pd h x = some p ∧ pd h y = some q ∧ SeqAt.shaped p = true ∧ SeqAt.shaped q = true ∧ Q (.bl (if neg then !PyData.eqv p q else PyData.eqv p q)) h
@[simp] def isNon : D → Bool
  | .non => true
  | _ => false
/-- is, is not: None, or two truth values -/
def sIs (neg : Bool) : AR2 := fun x y h Q => match y with
  | .non => Q (.bl (if neg then !isNon x else isNon x)) h
  | .bl b => (match x with | .bl a => Q (.bl (if neg then !(decide (a = b)) else decide (a = b))) h | _ => False)
  | _ => False
def sNeg : AR1 := fun x h Q => match x with
  | .int i => Q (.int (-i)) h
  | _ => False
def sIx : AR2 := fun x y h Q => match y with
  | .int i => ∃ ds d, seqA h x = some ds ∧ atI ds i = some d ∧ Q d h
  | _ => False
section
variable {X : Cx}
theorem op_sub_bb : OpR X (binaryOp .Sub) (fun x y H Q => ∃ i k, x = .bl i ∧ y = .bl k ∧ Q (.int ((if i then 1 else 0) - (if k then 1 else 0))) H) := by
  intro pins s σ H x y v u Q I rx ry h
  obtain ⟨i, k, rfl, rfl, q⟩ := h
  cases rx
  cases ry
  exact PyProof.Rows.sub_bool ⟨.int _, H, I.tok _, ⟨_, rfl⟩, q⟩
/-- xs + ys, lists that are read -/
theorem op_catSq : OpR X (binaryOp .Add) (fun x y H Q => ∃ a b xs ys, x = .ref a ∧ y = .ref b ∧ SqL X.K H a xs ∧ SqL X.K H b ys ∧ xs.length + ys.length ≤ sizeLine ∧ ∀ p, H p = none → Q (.ref p) (upd H p (.lst (xs ++ ys)))) := by
  intro pins s σ H x y v u Q I rx ry h
  obtain ⟨a, b, xs, ys, rfl, rfl, ha, hb, hz, q⟩ := h
  cases rx
  cases ry
  obtain ⟨i1, r1, p1, z1⟩ := I.list ha
  obtain ⟨i2, r2, p2, z2⟩ := I.list hb
  obtain ⟨⟨c1, d1, t1, l1⟩, g1, k1, n1, f1⟩ := p1.isList
  obtain ⟨⟨c2, d2, t2, l2⟩, g2, k2, n2, f2⟩ := p2.isList
  simp only at k1 f1 k2 f2
  subst k1 f1 k2 f2
  have e1 := r1.length
  have e2 := r2.length
  refine concat_meets ⟨_, g1, rfl⟩ ⟨_, g2, rfl⟩ noFill_list_add seq_list_add PySem.F.slot_list_add PySem.F.entry_list_add (PySem.F.args_list_add_2 _ _)
    (list_addW a b i1.toArray i2.toArray n1 n2 d1 d2 l1 l2 (by simp only [List.size_toArray]; omega)) ⟨g1, g2, ?_⟩
  have e : i1.toArray ++ i2.toArray = (i1 ++ i2).toArray := by simp
  rw [e]
  exact ⟨.ref _, _, I.lnew (t' := s.toks) (r1.append r2) (by rw [List.length_append]; exact hz), rfl, q _ I.fresh⟩
theorem o_add {m : Bool} : AOp X (binaryOp .Add) (sAdd m) := by
  refine ⟨fun x y h Q Q' w q => ?_, fun Z x y h H vx vy Q rx ry R q => ?_⟩
  · unfold sAdd at q ⊢
    split <;> rename_i e1 e2 <;> simp only at q
    · exact w _ _ q
    · exact ⟨q.1, w _ _ q.2⟩
    · exact ⟨q.1, w _ _ q.2⟩
    · obtain ⟨xs, ys, h1, h2, h3, q⟩ := q
      exact ⟨xs, ys, h1, h2, h3, newL_mono w q⟩
  · unfold sAdd at q
    split at q
    · cases rx
      cases ry
      exact ⟨_, op_add, _, _, rfl, rfl, q.fin rfl R⟩
    · cases rx
      cases ry
      exact ⟨_, op_add_str, _, _, rfl, rfl, q.1, EndE.fin q.2 rfl R⟩
    · rename_i xs ys
      obtain ⟨z, q⟩ := q
      simp only [RD] at rx ry
      obtain ⟨a, vs, rfl, ha, ra⟩ := rx
      obtain ⟨b, us, rfl, hb, rb⟩ := ry
      have l1 := ra.length
      have l2 := rb.length
      refine ⟨_, op_catA, a, b, vs, us, rfl, rfl, ha, hb, by omega, fun e => ?_, fun e1 e2 => ?_, fun e1 e2 p n => q.tup (ra.append rb) R n⟩
      · subst e
        have e0 : xs = [] := List.length_eq_zero_iff.mp (by simpa using l1)
        subst e0
        exact EndE.fin q ⟨b, us, rfl, hb, rb⟩ R
      · subst e2
        have e0 : ys = [] := List.length_eq_zero_iff.mp (by simpa using l2)
        subst e0
        rw [List.append_nil] at q
        exact EndE.fin q ⟨a, vs, rfl, ha, ra⟩ R
    · obtain ⟨xs, ys, e1, e2, z, q⟩ := q
      obtain ⟨a, vs, rfl, ha, ra⟩ := seqL_ok R rx e1
      obtain ⟨b, us, rfl, hb, rb⟩ := seqL_ok R ry e2
      have l1 := ra.length
      have l2 := rb.length
      exact ⟨_, op_catSq, a, b, vs, us, rfl, rfl, ha, hb, by omega, fun p n => EndE.new q (ra.append rb) R n⟩
theorem o_sub : AOp X (binaryOp .Sub) sSub := by
  refine ⟨fun x y h Q Q' w q => ?_, fun Z x y h H vx vy Q rx ry R q => ?_⟩
  · unfold sSub at q ⊢
    split <;> rename_i e1 e2 <;> simp only at q <;> exact w _ _ q
  · unfold sSub at q
    split at q
    · cases rx
      cases ry
      exact ⟨_, op_sub, _, _, rfl, rfl, q.fin rfl R⟩
    · cases rx
      cases ry
      exact ⟨_, op_sub_bb, _, _, rfl, rfl, q.fin rfl R⟩
    · exact q.elim
theorem o_mul : AOp X (binaryOp .Mult) sMul := by
  refine ⟨fun x y h Q Q' w q => ?_, fun Z x y h H vx vy Q rx ry R q => ?_⟩
  · unfold sMul at q ⊢
    split <;> rename_i e1 e2 <;> simp only at q
    exact ⟨q.1, w _ _ q.2⟩
  · unfold sMul at q
    split at q
    · cases rx
      cases ry
      exact ⟨_, op_mulW, _, _, rfl, rfl, q.1, EndE.fin q.2 rfl R⟩
    · exact q.elim
theorem o_div : AOp X (binaryOp .FloorDiv) sDiv := by
  refine ⟨fun x y h Q Q' w q => ?_, fun Z x y h H vx vy Q rx ry R q => ?_⟩
  · unfold sDiv at q ⊢
    split <;> rename_i e1 e2 <;> simp only at q
    exact ⟨q.1, w _ _ q.2⟩
  · unfold sDiv at q
    split at q
    · cases rx
      cases ry
      exact ⟨_, op_fdivW, _, _, rfl, rfl, q.1, EndE.fin q.2 rfl R⟩
    · exact q.elim
theorem o_mod : AOp X (binaryOp .Mod) sMod := by
  refine ⟨fun x y h Q Q' w q => ?_, fun Z x y h H vx vy Q rx ry R q => ?_⟩
  · unfold sMod at q ⊢
    split <;> rename_i e1 e2 <;> simp only at q
    exact ⟨q.1, w _ _ q.2⟩
  · unfold sMod at q
    split at q
    · cases rx
      cases ry
      exact ⟨_, op_mod, _, _, rfl, rfl, q.1, EndE.fin q.2 rfl R⟩
    · exact q.elim
theorem o_pow : AOp X (binaryOp .Pow) sPow := by
  refine ⟨fun x y h Q Q' w q => ?_, fun Z x y h H vx vy Q rx ry R q => ?_⟩
  · unfold sPow at q ⊢
    split <;> rename_i e1 e2 <;> simp only at q
    exact ⟨q.1, w _ _ q.2⟩
  · unfold sPow at q
    split at q
    · cases rx
      cases ry
      exact ⟨_, op_pow, _, _, rfl, rfl, q.1, EndE.fin q.2 rfl R⟩
    · exact q.elim
theorem o_rel {op : CmpOp} {p : Int → Int → Bool} (o : OpR X (compareOp op) (rI0 fun i j => .bl (p i j))) : AOp X (compareOp op) (sRel p) := by
  refine ⟨fun x y h Q Q' w q => ?_, fun Z x y h H vx vy Q rx ry R q => ?_⟩
  · unfold sRel at q ⊢
    split <;> rename_i e1 e2 <;> simp only at q
    exact w _ _ q
  · unfold sRel at q
    split at q
    · cases rx
      cases ry
      exact ⟨_, o, _, _, rfl, rfl, q.fin rfl R⟩
    · exact q.elim
theorem dec_strV {i j : Str} : decide (V.str i = V.str j) = decide (i = j) := by
  rw [Bool.eq_iff_iff]
  simp
theorem seq_mon {n : Bool} : MonR2 (sEq n) := by
  rintro x y h Q Q' w (⟨a, b, e1, e2, q⟩ | ⟨p, r, e1, e2, z1, z2, q⟩)
  · exact .inl ⟨a, b, e1, e2, w _ _ q⟩
  · exact .inr ⟨p, r, e1, e2, z1, z2, w _ _ q⟩
theorem o_eq (hu : X.A.units + 64 < cLine) : AOp X (compareOp .Eq) (sEq false) := by
  refine ⟨seq_mon, fun Z x y h H vx vy Q rx ry R q => ?_⟩
  rcases q with ⟨a, b, e1, e2, q⟩ | ⟨p, r, e1, e2, z1, z2, q⟩
  · subst e1 e2
    cases rx
    cases ry
    exact ⟨_, op_eq, rfl, by rw [dec_strV]; exact EndE.fin q rfl R⟩
  · exact ⟨_, op_eqD hu, p, r, pd_ok R rx e1, pd_ok R ry e2, z1, z2, EndE.fin q rfl R⟩
theorem o_ne (hu : X.A.units + 64 < cLine) : AOp X (compareOp .NotEq) (sEq true) := by
  refine ⟨seq_mon, fun Z x y h H vx vy Q rx ry R q => ?_⟩
  rcases q with ⟨a, b, e1, e2, q⟩ | ⟨p, r, e1, e2, z1, z2, q⟩
  · subst e1 e2
    cases rx
    cases ry
    exact ⟨_, op_ne, rfl, by rw [dec_strV]; exact EndE.fin q rfl R⟩
  · exact ⟨_, op_neD hu, p, r, pd_ok R rx e1, pd_ok R ry e2, z1, z2, EndE.fin q rfl R⟩
theorem rd_non {K : PySem.W.Frag} {Z : List Addr} {h : AH} {H : Hp} {d : D} {v : V} (r : RD K Z h H d v) : decide (v = .non) = isNon d := by
  cases d with
  | non =>
    cases r
    rfl
  | tup ds =>
    simp only [RD] at r
    obtain ⟨a, xs, rfl, _⟩ := r
    rfl
  | lst ds =>
    simp only [RD] at r
    obtain ⟨a, xs, rfl, _⟩ := r
    rfl
  | _ =>
    cases r
    rfl
theorem o_is : AOp X (compareOp .Is) (sIs false) := by
  refine ⟨fun x y h Q Q' w q => ?_, fun Z x y h H vx vy Q rx ry R q => ?_⟩
  · cases y with
    | non => exact w _ _ q
    | bl b =>
      cases x with
      | bl a => exact w _ _ q
      | _ => exact q.elim
    | _ => exact q.elim
  · cases y with
    | non =>
      cases ry
      exact ⟨_, op_isN, rfl, EndE.fin (d := .bl (decide (vx = .non))) (by rw [rd_non rx]; exact q) rfl R⟩
    | bl b =>
      cases x with
      | bl a =>
        cases rx
        cases ry
        exact ⟨_, op_isBl, _, _, rfl, rfl, EndE.fin q rfl R⟩
      | _ => exact q.elim
    | _ => exact q.elim
theorem o_isnot : AOp X (compareOp .IsNot) (sIs true) := by
  refine ⟨fun x y h Q Q' w q => ?_, fun Z x y h H vx vy Q rx ry R q => ?_⟩
  · cases y with
    | non => exact w _ _ q
    | bl b =>
      cases x with
      | bl a => exact w _ _ q
      | _ => exact q.elim
    | _ => exact q.elim
  · cases y with
    | non =>
      cases ry
      exact ⟨_, op_notN, rfl, EndE.fin (d := .bl (!decide (vx = .non))) (by rw [rd_non rx]; exact q) rfl R⟩
    | bl b =>
      cases x with
      | bl a =>
        cases rx
        cases ry
        exact ⟨_, op_notBl, _, _, rfl, rfl, EndE.fin q rfl R⟩
      | _ => exact q.elim
    | _ => exact q.elim
theorem u_neg : AUn X (unaryOp .USub) sNeg := by
  refine ⟨fun x h Q Q' w q => ?_, fun Z x h H vx Q rx R q => ?_⟩
  · unfold sNeg at q ⊢
    split <;> simp only at q
    exact w _ _ q
  · unfold sNeg at q
    split at q
    · cases rx
      exact ⟨_, un_neg, _, rfl, q.fin rfl R⟩
    · exact q.elim
theorem atI_rd {K : PySem.W.Frag} {Z : List Addr} {h : AH} {H : Hp} {ds : List D} {xs : List V} {i : Int} {d : D} (r : RDs K Z h H ds xs) (e : atI ds i = some d) : ∃ v, atI xs i = some v ∧ RD K Z h H d v := by
  unfold atI at e ⊢
  rw [r.length] at e
  cases q : ixN xs.length i with
  | none =>
    rw [q] at e
    cases e
  | some j =>
    rw [q] at e
    exact r.get e
theorem o_ix : AIx X sIx := by
  refine ⟨fun x y h Q Q' w q => ?_, fun Z x y h H vx vy Q rx ry R q => ?_⟩
  · unfold sIx at q ⊢
    split <;> simp only at q
    obtain ⟨ds, d, e1, e2, q⟩ := q
    exact ⟨ds, d, e1, e2, w _ _ q⟩
  · unfold sIx at q
    split at q
    · obtain ⟨ds, d, e1, e2, q⟩ := q
      cases ry
      obtain ⟨a, xs, rfl, hs, r⟩ := seqA_ok R rx e1
      obtain ⟨v, e3, rv⟩ := atI_rd r e2
      rcases hs with hs | hs
      · exact ⟨_, ix_list, a, xs, _, v, rfl, rfl, hs, e3, EndE.fin q rv R⟩
      · exact ⟨_, ix_tup, a, xs, _, v, rfl, rfl, hs, e3, EndE.fin q rv R⟩
    · exact q.elim
end
/-! ## built-ins -/
def nLen : ARn := fun xs h Q => match xs with
  | [x] => ∃ ds, seqA h x = some ds ∧ Q (.int ds.length) h
  | _ => False
def nTuple : ARn := fun xs h Q => match xs with
  | [x] => ∃ ds, seqA h x = some ds ∧ Q (.tup ds) h
  | _ => False
def nList (m : Bool) : ARn := fun xs h Q => match xs with
  | [x] => ∃ ds, seqA h x = some ds ∧ newL m ds h Q
  | _ => False
def nAbs : ARn := fun xs h Q => match xs with
  | [.int i] => Q (.int i.natAbs) h
  | _ => False
def nInt : ARn := fun xs h Q => match xs with
  | [.int i] => Q (.int i) h
  | [.bl b] => Q (.int (if b then 1 else 0)) h
  | _ => False
def nGcd : ARn := fun xs h Q => match xs with
  | [.int i, .int j] => Q (.int ((Nat.gcd i.natAbs j.natAbs : Nat) : Int)) h
  | _ => False
def nDivmod : ARn := fun xs h Q => match xs with
  | [.int i, .int j] => (0 < j ∧ j < 1073741824) ∧ Q (.tup [.int (i / j), .int (i % j)]) h
  | _ => False
def nAll : ARn := fun xs h Q => match xs with
  | [x] => ∃ bs : List Bool, seqL h x = some (bs.map D.bl) ∧ Q (.bl (bs.all id)) h
  | _ => False
def nAny : ARn := fun xs h Q => match xs with
  | [x] => ∃ bs : List Bool, seqL h x = some (bs.map D.bl) ∧ Q (.bl (bs.any id)) h
  | _ => False
def nSum : ARn := fun xs h Q => match xs with
  | [x] => ∃ ns : List Int, seqL h x = some (ns.map D.int) ∧ Q (.int ns.sum) h
  | _ => False
def nMin : ARn := fun xs h Q => match xs with
  | [.int i, .int j] => Q (.int (if j < i then j else i)) h
  | [x] => ∃ ns : List Int, seqL h x = some (ns.map D.int) ∧ 0 < ns.length ∧ ∀ m, m ∈ ns → (∀ y, y ∈ ns → m ≤ y) → Q (.int m) h
  | [.int a, .int b, .int c, .int d] => ∀ m, m ∈ [a, b, c, d] → (∀ y ∈ [a, b, c, d], m ≤ y) → Q (.int m) h
  | _ => False
def nMax : ARn := fun xs h Q => match xs with
  | [.int i, .int j] => Q (.int (if j > i then j else i)) h
  | [x] => ∃ ns : List Int, seqL h x = some (ns.map D.int) ∧ 0 < ns.length ∧ ∀ m, m ∈ ns → (∀ y, y ∈ ns → y ≤ m) → Q (.int m) h
  | _ => False
@[simp] def tyN : D → String
  | .non => "NoneType"
  | .bl _ => "bool"
  | .int _ => "int"
  | .str _ => "str"
  | .tup _ => "tuple"
  | .lst _ => "list"
  | .ref _ => "list"
  | .ty _ => "type"
@[simp] def isaB (a b : String) : Bool := a == b || (a == "bool" && b == "int")
def okTy (h : AH) : D → Prop
  | .ref a => h a ≠ none
  | .ty _ => False
  | _ => True
def nIsi : ARn := fun xs h Q => match xs with
  | [x, .ty T] => okTy h x ∧ T ∈ ["int", "bool", "tuple", "list", "str", "dict"] ∧ Q (.bl (isaB (tyN x) T)) h
  | _ => False
section
variable {X : Cx}
theorem b_len : ACall X (.builtin "len") nLen := by
  refine ⟨fun x h Q Q' w q => ?_, fun Z xs h H vs Q rx R q => ?_⟩
  · unfold nLen at q ⊢
    split <;> simp only at q
    obtain ⟨ds, e, q⟩ := q
    exact ⟨ds, e, w _ _ q⟩
  · unfold nLen at q
    split at q
    · obtain ⟨ds, e, q⟩ := q
      obtain ⟨v, rfl, r1⟩ := rx.one_of
      obtain ⟨a, xs, rfl, hs, r⟩ := seqA_ok R r1 e
      exact ⟨_, call_len_seq, a, xs, rfl, hs, by rw [← r.length]; exact EndE.fin q rfl R⟩
    · exact q.elim
theorem b_tuple : ACall X (.type "tuple") nTuple := by
  refine ⟨fun x h Q Q' w q => ?_, fun Z xs h H vs Q rx R q => ?_⟩
  · unfold nTuple at q ⊢
    split <;> simp only at q
    obtain ⟨ds, e, q⟩ := q
    exact ⟨ds, e, w _ _ q⟩
  · unfold nTuple at q
    split at q
    · obtain ⟨ds, e, q⟩ := q
      obtain ⟨v, rfl, r1⟩ := rx.one_of
      obtain ⟨a, xs, rfl, hs, r⟩ := seqA_ok R r1 e
      refine ⟨_, call_tuple_of, a, xs, rfl, ?_⟩
      rcases hs with hs | hs
      · exact .inl ⟨hs, fun p n => EndE.tup q r R n⟩
      · exact .inr ⟨hs, EndE.fin q ⟨a, xs, rfl, hs, r⟩ R⟩
    · exact q.elim
theorem b_list {m : Bool} : ACall X (.type "list") (nList m) := by
  refine ⟨fun x h Q Q' w q => ?_, fun Z xs h H vs Q rx R q => ?_⟩
  · unfold nList at q ⊢
    split <;> simp only at q
    obtain ⟨ds, e, q⟩ := q
    exact ⟨ds, e, newL_mono w q⟩
  · unfold nList at q
    split at q
    · obtain ⟨ds, e, q⟩ := q
      obtain ⟨v, rfl, r1⟩ := rx.one_of
      obtain ⟨a, xs, rfl, hs, r⟩ := seqA_ok R r1 e
      exact ⟨_, call_list_of, a, xs, rfl, hs, fun p n => EndE.new q r R n⟩
    · exact q.elim
theorem b_abs : ACall X (.builtin "abs") nAbs := by
  refine ⟨fun x h Q Q' w q => ?_, fun Z xs h H vs Q rx R q => ?_⟩
  · unfold nAbs at q ⊢
    split <;> simp only at q
    exact w _ _ q
  · unfold nAbs at q
    split at q
    · rename_i i
      obtain ⟨v, rfl, r1⟩ := rx.one_of
      cases r1
      refine ⟨_, call_abs, i, rfl, ?_⟩
      have e : (if i < 0 then -i else i) = (i.natAbs : Int) := by omega
      rw [e]
      exact EndE.fin q rfl R
    · exact q.elim
theorem b_int : ACall X (.type "int") nInt := by
  refine ⟨fun x h Q Q' w q => ?_, fun Z xs h H vs Q rx R q => ?_⟩
  · unfold nInt at q ⊢
    split <;> simp only at q <;> exact w _ _ q
  · unfold nInt at q
    split at q
    · obtain ⟨v, rfl, r1⟩ := rx.one_of
      cases r1
      exact ⟨_, call_int1, .inl ⟨_, rfl, EndE.fin q rfl R⟩⟩
    · obtain ⟨v, rfl, r1⟩ := rx.one_of
      cases r1
      exact ⟨_, call_int1, .inr ⟨_, rfl, EndE.fin q rfl R⟩⟩
    · exact q.elim
theorem b_gcd : ACall X (.builtin "math.gcd") nGcd := by
  refine ⟨fun x h Q Q' w q => ?_, fun Z xs h H vs Q rx R q => ?_⟩
  · unfold nGcd at q ⊢
    split <;> simp only at q
    exact w _ _ q
  · unfold nGcd at q
    split at q
    · obtain ⟨v, u, rfl, r1, r2⟩ := rx.two_of
      cases r1
      cases r2
      exact ⟨_, cr_gcd, _, _, rfl, EndE.fin q rfl R⟩
    · exact q.elim
theorem b_divmod : ACall X (.builtin "divmod") nDivmod := by
  refine ⟨fun x h Q Q' w q => ?_, fun Z xs h H vs Q rx R q => ?_⟩
  · unfold nDivmod at q ⊢
    split <;> simp only at q
    exact ⟨q.1, w _ _ q.2⟩
  · unfold nDivmod at q
    split at q
    · obtain ⟨v, u, rfl, r1, r2⟩ := rx.two_of
      cases r1
      cases r2
      exact ⟨_, call_divmod, _, _, rfl, q.1, fun p n => EndE.tup (ds := [.int _, .int _]) q.2 ⟨_, _, rfl, rfl, _, _, rfl, rfl, rfl⟩ R n⟩
    · exact q.elim
theorem b_all (hc : X.calm = true) : ACall X (.builtin "all") nAll := by
  refine ⟨fun x h Q Q' w q => ?_, fun Z xs h H vs Q rx R q => ?_⟩
  · unfold nAll at q ⊢
    split <;> simp only at q
    obtain ⟨ds, e, q⟩ := q
    exact ⟨ds, e, w _ _ q⟩
  · unfold nAll at q
    split at q
    · obtain ⟨bs, e, q⟩ := q
      obtain ⟨v, rfl, r1⟩ := rx.one_of
      obtain ⟨a, xs, rfl, hs, r⟩ := seqL_ok R r1 e
      rw [r.bls] at hs
      exact ⟨_, cr_all hc, a, bs, rfl, hs, EndE.fin q rfl R⟩
    · exact q.elim
theorem b_any (hc : X.calm = true) : ACall X (.builtin "any") nAny := by
  refine ⟨fun x h Q Q' w q => ?_, fun Z xs h H vs Q rx R q => ?_⟩
  · unfold nAny at q ⊢
    split <;> simp only at q
    obtain ⟨ds, e, q⟩ := q
    exact ⟨ds, e, w _ _ q⟩
  · unfold nAny at q
    split at q
    · obtain ⟨bs, e, q⟩ := q
      obtain ⟨v, rfl, r1⟩ := rx.one_of
      obtain ⟨a, xs, rfl, hs, r⟩ := seqL_ok R r1 e
      rw [r.bls] at hs
      exact ⟨_, cr_any hc, a, bs, rfl, hs, EndE.fin q rfl R⟩
    · exact q.elim
theorem b_sum (hc : X.calm = true) : ACall X (.builtin "sum") nSum := by
  refine ⟨fun x h Q Q' w q => ?_, fun Z xs h H vs Q rx R q => ?_⟩
  · unfold nSum at q ⊢
    split <;> simp only at q
    obtain ⟨ds, e, q⟩ := q
    exact ⟨ds, e, w _ _ q⟩
  · unfold nSum at q
    split at q
    · obtain ⟨ns, e, q⟩ := q
      obtain ⟨v, rfl, r1⟩ := rx.one_of
      obtain ⟨a, xs, rfl, hs, r⟩ := seqL_ok R r1 e
      rw [r.ints] at hs
      exact ⟨_, cr_sum hc, a, ns, rfl, hs, EndE.fin q rfl R⟩
    · exact q.elim
theorem b_min (hc : X.calm = true) : ACall X (.builtin "min") nMin := by
  refine ⟨fun x h Q Q' w q => ?_, fun Z xs h H vs Q rx R q => ?_⟩
  · unfold nMin at q ⊢
    split <;> simp only at q
    · exact w _ _ q
    · obtain ⟨ns, e, l, q⟩ := q
      exact ⟨ns, e, l, fun m h1 h2 => w _ _ (q m h1 h2)⟩
    · exact fun m h1 h2 => w _ _ (q m h1 h2)
  · unfold nMin at q
    split at q
    · obtain ⟨v, u, rfl, r1, r2⟩ := rx.two_of
      cases r1
      cases r2
      exact ⟨_, call_min2 hc, _, _, rfl, EndE.fin q rfl R⟩
    · obtain ⟨ns, e, l, q⟩ := q
      obtain ⟨v, rfl, r1⟩ := rx.one_of
      obtain ⟨a, xs, rfl, hs, r⟩ := seqL_ok R r1 e
      rw [r.ints] at hs
      exact ⟨_, cr_min hc, a, ns, rfl, hs, l, fun m h1 h2 => EndE.fin (q m h1 h2) rfl R⟩
    · rename_i a b c d
      simp only [RDs] at rx
      obtain ⟨v1, _, rfl, r1, v2, _, rfl, r2, v3, _, rfl, r3, v4, _, rfl, r4, rfl⟩ := rx
      cases r1
      cases r2
      cases r3
      cases r4
      exact ⟨_, cr_min4 hc, a, b, c, d, rfl, fun m h1 h2 => EndE.fin (q m h1 h2) rfl R⟩
    · exact q.elim
theorem b_max (hc : X.calm = true) : ACall X (.builtin "max") nMax := by
  refine ⟨fun x h Q Q' w q => ?_, fun Z xs h H vs Q rx R q => ?_⟩
  · unfold nMax at q ⊢
    split <;> simp only at q
    · exact w _ _ q
    · obtain ⟨ns, e, l, q⟩ := q
      exact ⟨ns, e, l, fun m h1 h2 => w _ _ (q m h1 h2)⟩
  · unfold nMax at q
    split at q
    · obtain ⟨v, u, rfl, r1, r2⟩ := rx.two_of
      cases r1
      cases r2
      exact ⟨_, call_max2 hc, _, _, rfl, EndE.fin q rfl R⟩
    · obtain ⟨ns, e, l, q⟩ := q
      obtain ⟨v, rfl, r1⟩ := rx.one_of
      obtain ⟨a, xs, rfl, hs, r⟩ := seqL_ok R r1 e
      rw [r.ints] at hs
      exact ⟨_, cr_max hc, a, ns, rfl, hs, l, fun m h1 h2 => EndE.fin (q m h1 h2) rfl R⟩
    · exact q.elim
theorem isa_kit : ∀ a ∈ ["NoneType", "bool", "int", "str", "tuple", "list"], ∀ b ∈ ["int", "bool", "tuple", "list", "str", "dict"], kitB a b = some (isaB a b) := by decide +kernel
theorem ty_of {K : PySem.W.Frag} {Z : List Addr} {h : AH} {H : Hp} {x : D} {v : V} (R : RH K Z h H) (r : RD K Z h H x v) (ok : okTy h x) : TyX K H v (.type (tyN x)) ∧ tyN x ∈ ["NoneType", "bool", "int", "str", "tuple", "list"] := by
  cases x with
  | non => cases r; exact ⟨.base .non, by decide⟩
  | bl b => cases r; exact ⟨.base (.bl b), by simp [tyN]⟩
  | int i => cases r; exact ⟨.base (.int i), by simp [tyN]⟩
  | str s => cases r; exact ⟨.base (.str s), by simp [tyN]⟩
  | tup ds =>
    simp only [RD] at r
    obtain ⟨a, xs, rfl, hs, _⟩ := r
    refine ⟨?_, by simp [tyN]⟩
    rcases hs with hs | ⟨o, its, n, e, c, _⟩
    · rcases hs with hs | ⟨o, hs⟩
      · exact .base (.tup hs)
      · exact .fTuple hs
    · exact .kTuple e c
  | lst ds =>
    simp only [RD] at r
    obtain ⟨a, xs, rfl, hs, _⟩ := r
    refine ⟨?_, by simp [tyN]⟩
    rcases hs.sq with hs | ⟨o, its, n, e, c, _⟩
    · rcases hs with hs | ⟨o, hs⟩
      · exact .base (.lst hs)
      · exact .base (.frz hs)
    · exact .kList e c
  | ref a =>
    cases r
    cases e : h a with
    | none => exact absurd e ok
    | some ds =>
      obtain ⟨xs, e1, _⟩ := R.at_ a ds e
      exact ⟨.base (.lst e1), by simp [tyN]⟩
  | ty n => exact ok.elim
theorem b_isi : ACall X (.builtin "isinstance") nIsi := by
  refine ⟨fun x h Q Q' w q => ?_, fun Z xs h H vs Q rx R q => ?_⟩
  · unfold nIsi at q ⊢
    split <;> simp only at q
    exact ⟨q.1, q.2.1, w _ _ q.2.2⟩
  · unfold nIsi at q
    split at q
    · rename_i x T
      obtain ⟨v, u, rfl, r1, r2⟩ := rx.two_of
      cases r2
      obtain ⟨q1, q2, q3⟩ := q
      obtain ⟨t1, t2⟩ := ty_of R r1 q1
      exact ⟨_, call_isi, v, .ty T, .type (tyN x), .type T, _, rfl, .ty T, t1, kit_ty (isa_kit _ t2 _ q2), EndE.fin q3 rfl R⟩
    · exact q.elim
end
end WF

open PySem L2
set_option Elab.async false
set_option linter.all false
set_option maxRecDepth 100000
set_option maxHeartbeats 1000000
/-! # part 4: targets, statements, loops -/
namespace WF
open PySem PySem.Spec PyProof.Rows L2
/-! ## targets -/
abbrev ATG := D → ASt → AH → (ASt → AH → Prop) → Prop
abbrev ATGs := List D → ASt → AH → (ASt → AH → Prop) → Prop
def MonG (t : ATG) : Prop := ∀ d σ h Q Q', (∀ σ' h', Q σ' h' → Q' σ' h') → t d σ h Q → t d σ h Q'
def MonGs (t : ATGs) : Prop := ∀ d σ h Q Q', (∀ σ' h', Q σ' h' → Q' σ' h') → t d σ h Q → t d σ h Q'
def lftG (K : PySem.W.Frag) (t : ATG) : TG := fun v σ H Q => ∃ Z d σa h, RD K Z h H d v ∧ RS K Z h H σa σ ∧ RH K Z h H ∧ t d σa h (EndS K Z h H Q)
def lftGs (K : PySem.W.Frag) (t : ATGs) : TGs := fun vs σ H Q => ∃ Z ds σa h, RDs K Z h H ds vs ∧ RS K Z h H σa σ ∧ RH K Z h H ∧ t ds σa h (EndS K Z h H Q)
structure AG (X : Cx) (e : Expr) (t : ATG) : Prop where
  mon : MonG t
  run : PG X e (lftG X.K t)
structure AGs (X : Cx) (es : List Expr) (t : ATGs) : Prop where
  mon : MonGs t
  run : PGs X es (lftGs X.K t)
theorem pg_weak {X : Cx} {e : Expr} {t t' : TG} (h : PG X e t) (w : ∀ v σ H Q, t' v σ H Q → t v σ H Q) : PG X e t' := ⟨fun pins s σ H v u Q I r q => h.run pins s σ H v u Q I r (w v σ H Q q)⟩
theorem pgs_weak {X : Cx} {e : List Expr} {t t' : TGs} (h : PGs X e t) (w : ∀ v σ H Q, t' v σ H Q → t v σ H Q) : PGs X e t' := ⟨fun pins s σ H v u Q I r q => h.run pins s σ H v u Q I r (w v σ H Q q)⟩
def gN (i : Nat) : ATG := fun d σ h Q => Q (σ.set i (some d)) h
def gsNil : ATGs := fun ds σ h Q => ds = [] ∧ Q σ h
def gsCons (t : ATG) (u : ATGs) : ATGs := fun ds σ h Q => ∃ d r, ds = d :: r ∧ t d σ h fun σ' h' => u r σ' h' Q
def gT (t : ATGs) (n : Nat) : ATG := fun d σ h Q => ∃ ds, seqA h d = some ds ∧ ds.length = n ∧ t ds σ h Q
/-- a tuple or a list of that length, taken apart -/
def gAny (K : PySem.W.Frag) (n : Nat) (t : TGs) : TG := fun v σ H Q => ∃ a xs, v = .ref a ∧ (SqL K H a xs ∨ SqT K H a xs) ∧ xs.length = n ∧ t xs σ H Q
theorem pg_any {X : Cx} {es : List Expr} {k n : Nat} {t : TGs} {pos : Pos} (hc : X.calm = true) (h : PGs X es t) (hn : (assignEach es X.env).length = n) (hst : (assignEach es X.env).findIdx? (·.1) = none) : PG X (.Tuple es k pos) (gAny X.K n t) := by
  refine ⟨fun pins s σ H v u Q I r hw => ?_⟩
  obtain ⟨a, xs, e, hs, l, q⟩ := hw
  rcases hs with hs | hs
  · exact (pg_unl hc h hn hst).run pins s σ H v u Q I r ⟨a, xs, e, hs, l, q⟩
  · exact (pg_tup hc h hn hst).run pins s σ H v u Q I r ⟨a, xs, e, hs, l, q⟩
/-- o[i] = a value -/
def gS (to ti : ATE) : ATG := fun d σ h Q => to σ h fun o h1 => ti σ h1 fun k h2 => ∃ a i j ds, o = .ref a ∧ k = .int i ∧ h2 a = some ds ∧ ixN ds.length i = some j ∧ Q σ (h2.set a (ds.set j d))
section
variable {X : Cx} {e o i : Expr} {es : List Expr} {to ti te : ATE} {pos : Pos}
theorem ag_name {i : Nat} {x : Str} (hN : X.N.Nodup) (hi : X.N[i]? = some x) (hx : Loc X.env.scope x) (hf : X.fn x = true ∨ X.env.scope.names.lookup x = some .local) : AG X (.Name x pos) (gN i) := by
  refine ⟨fun d σ h Q Q' w q => w _ _ q, pg_weak (pg_name hN hi hx hf) ?_⟩
  rintro v σ H Q ⟨Z, d, σa, h, r, rs, R, q⟩
  exact q _ _ (rs.put r) R Kp.refl
theorem ags_nil : AGs X [] gsNil := by
  refine ⟨fun d σ h Q Q' w q => ⟨q.1, w _ _ q.2⟩, pgs_weak pgs_nil ?_⟩
  rintro vs σ H Q ⟨Z, ds, σa, h, r, rs, R, e, q⟩
  subst e
  exact ⟨r, q _ _ rs R Kp.refl⟩
theorem ags_cons {t : ATG} {u : ATGs} (h1 : AG X e t) (h2 : AGs X es u) (hs : (assignEach (e :: es) X.env).map (·.2) = assign e X.env :: (assignEach es X.env).map (·.2)) : AGs X (e :: es) (gsCons t u) := by
  refine ⟨fun d σ h Q Q' w ⟨d0, r, e, q⟩ => ⟨d0, r, e, h1.mon _ _ _ _ _ (fun σ1 h1' q1 => h2.mon _ _ _ _ _ w q1) q⟩, pgs_weak (pgs_cons h1.run h2.run hs) ?_⟩
  rintro vs σ H Q ⟨Z, ds, σa, h, r, rs, R, d, r0, e, q⟩
  subst e
  simp only [RDs] at r
  obtain ⟨v, vr, rfl, r1, r2⟩ := r
  refine ⟨v, vr, rfl, Z, d, σa, h, r1, rs, R, h1.mon _ _ _ _ _ (fun σ1 h1' q1 => ?_) q⟩
  intro σ' H' rs' R' k'
  exact ⟨Z, r0, σ1, h1', RDs.keep R k' r2, rs', R', h2.mon _ _ _ _ _ (fun _ _ e => e.mono k') q1⟩
theorem ag_tup {k n : Nat} {t : ATGs} (hc : X.calm = true) (h : AGs X es t) (hn : (assignEach es X.env).length = n) (hst : (assignEach es X.env).findIdx? (·.1) = none) : AG X (.Tuple es k pos) (gT t n) := by
  refine ⟨fun d σ h' Q Q' w ⟨ds, e, l, q⟩ => ⟨ds, e, l, h.mon _ _ _ _ _ w q⟩, pg_weak (pg_any hc h.run hn hst) ?_⟩
  rintro v σ H Q ⟨Z, d, σa, h', r, rs, R, ds, e, l, q⟩
  obtain ⟨a, xs, rfl, hs, r⟩ := seqA_ok R r e
  exact ⟨a, xs, rfl, hs, by rw [← r.length]; exact l, Z, ds, σa, h', r, rs, R, q⟩
theorem ag_sub (ho : AE X o to) (hi : AE X i ti) (ha : ∀ v, assign (.Subscript o i pos) X.env v = (do
      let ov ← holding [v] (eval o X.env)
      let iv ← holding [v, ov] (eval i X.env)
      standAt pos
      holding [v, ov, iv] (setItem ov iv v)
      release [v, ov, iv] [])) : AG X (.Subscript o i pos) (gS to ti) := by
  refine ⟨fun d σ h Q Q' w q => ho.mon _ _ _ _ (fun x h1 q1 => hi.mon _ _ _ _ (fun y h2 ⟨a, k, j, ds, e1, e2, e3, e4, q2⟩ => ⟨a, k, j, ds, e1, e2, e3, e4, w _ _ q2⟩) q1) q, pg_weak (pg_sub ho.run hi.run set_list ha) ?_⟩
  rintro v σ H Q ⟨Z, d, σa, h, r, rs, R, q⟩
  refine ⟨Z, σa, h, rs, R, ho.mon _ _ _ _ (fun x h1 q1 => ?_) q⟩
  intro ov H1 r1 R1 k1
  refine ⟨Z, σa, h1, rs.keep R k1, R1, hi.mon _ _ _ _ (fun y h2 q2 => ?_) q1⟩
  intro iv H2 r2 R2 k2
  obtain ⟨a, kk, j, ds, e1, e2, e3, e4, q3⟩ := q2
  subst e1 e2
  have r1' := RD.keep R1 k2 r1
  cases r1'
  cases r2
  obtain ⟨xs, g, rr⟩ := R2.at_ a ds e3
  refine ⟨a, xs, kk, j, rfl, rfl, g, by rw [← rr.length]; exact e4, ?_⟩
  have kk' := k1.trans k2
  have ne : h2 a ≠ none := by rw [e3]; exact fun z => nomatch z
  have kput : Kp h2 H2 (h2.set a (ds.set j d)) (upd H2 a (.lst (xs.set j v))) := Kp.put (.inl ne)
  exact q3 _ _ ((rs.keep R kk').keep R2 kput) (R2.put (.inl ne) (rr.set j (RD.keep R kk' r))) (kk'.trans kput)
/-! ## small statements -/
variable {st : Stmt} {rest : List Stmt} {t u : ATS}
def sNext : ATS := fun E σ h => E.nx σ h
def sSeq (t u : ATS) : ATS := fun E σ h => t { E with nx := fun σ' h' => u E σ' h' } σ h
theorem lftEnds_mono {K : PySem.W.Frag} {Z : List Addr} {h h1 : AH} {H H1 : Hp} {D : Ends} (k : Kp h H h1 H1) : (lftEnds K Z h H D).Le (lftEnds K Z h1 H1 D) :=
  ⟨fun _ _ e => e.mono k, fun _ _ e => e.mono k, fun _ _ e => e.mono k, fun _ _ e => e.mono k⟩
theorem ass_nil : ASs X [] sNext := by
  refine ⟨fun D D' σ h l q => l.nx _ _ q, pss_weak pss_nil ?_⟩
  rintro D σ H ⟨Z, σa, h, rs, R, q⟩
  exact (q : EndS X.K Z h H D.nx σa h) σ H rs R Kp.refl
theorem ass_cons (h1 : AS X st t) (h2 : ASs X rest u) : ASs X (st :: rest) (sSeq t u) := by
  refine ⟨fun D D' σ h l q => h1.mon { D with nx := fun σ' h' => u D σ' h' } { D' with nx := fun σ' h' => u D' σ' h' } _ _ ⟨fun σ' h' q' => h2.mon D D' _ _ l q', l.rt, l.bk, l.ct⟩ q, pss_weak (pss_cons h1.run h2.run) ?_⟩
  rintro D σ H ⟨Z, σa, h, rs, R, q⟩
  refine ⟨Z, σa, h, rs, R, h1.mon { lftEnds X.K Z h H D with nx := fun σ' h' => u (lftEnds X.K Z h H D) σ' h' } _ _ _ ⟨fun σ' h' q' => ?_, fun _ _ e => e, fun _ _ e => e, fun _ _ e => e⟩ q⟩
  intro σ2 H2 rs2 R2 k2
  exact ⟨Z, σ', h', rs2, R2, h2.mon _ _ _ _ (lftEnds_mono k2) q'⟩
theorem as_pass : AS X (.Pass pos) sNext := by
  refine ⟨fun D D' σ h l q => l.nx _ _ q, ps_weak ps_pass ?_⟩
  rintro D σ H ⟨Z, σa, h, rs, R, q⟩
  exact (q : EndS X.K Z h H D.nx σa h) σ H rs R Kp.refl
def sBrk : ATS := fun E σ h => E.bk σ h
def sCnt : ATS := fun E σ h => E.ct σ h
theorem as_brk : AS X (.Break pos) sBrk := by
  refine ⟨fun D D' σ h l q => l.bk _ _ q, ps_weak ps_break ?_⟩
  rintro D σ H ⟨Z, σa, h, rs, R, q⟩
  exact (q : EndS X.K Z h H D.bk σa h) σ H rs R Kp.refl
theorem as_cnt : AS X (.Continue pos) sCnt := by
  refine ⟨fun D D' σ h l q => l.ct _ _ q, ps_weak ps_continue ?_⟩
  rintro D σ H ⟨Z, σa, h, rs, R, q⟩
  exact (q : EndS X.K Z h H D.ct σa h) σ H rs R Kp.refl
/-- what is never come to -/
def sNever : ATS := fun _ _ _ => False
theorem as_never : AS X st sNever := by
  refine ⟨fun D D' σ h l q => q, ps_weak ps_never ?_⟩
  rintro D σ H ⟨Z, σa, h, rs, R, q⟩
  exact q
def sDrop (te : ATE) : ATS := fun E σ h => te σ h fun _ h1 => E.nx σ h1
theorem as_expr (he : AE X e te) (hs : swapsWith e none pos.line X.env = pure false) : AS X (.Expr e pos) (sDrop te) := by
  refine ⟨fun D D' σ h l q => he.mon _ _ _ _ (fun _ h1 q1 => l.nx _ _ q1) q, ps_weak (ps_expr he.run hs) ?_⟩
  rintro D σ H ⟨Z, σa, h, rs, R, q⟩
  refine ⟨Z, σa, h, rs, R, he.mon _ _ _ _ (fun d h1 q1 => ?_) q⟩
  intro v H1 r1 R1 k1
  exact (q1 : EndS X.K Z h H D.nx σa h1) σ H1 (rs.keep R k1) R1 k1
def sRet (te : ATE) : ATS := fun E σ h => te σ h E.rt
theorem as_ret (he : AE X e te) : AS X (.Return (some e) pos) (sRet te) := by
  refine ⟨fun D D' σ h l q => he.mon _ _ _ _ l.rt q, ps_weak (ps_ret he.run) ?_⟩
  rintro D σ H ⟨Z, σa, h, rs, R, q⟩
  exact ⟨Z, σa, h, rs, R, q⟩
def sRetN : ATS := fun E σ h => E.rt .non h
theorem as_retN : AS X (.Return none pos) sRetN := by
  refine ⟨fun D D' σ h l q => l.rt _ _ q, ps_weak ps_retN ?_⟩
  rintro D σ H ⟨Z, σa, h, rs, R, q⟩
  exact EndE.fin (show EndE X.K Z h H D.rt .non h from q) rfl R
def sIf (tc : ATE) (t u : ATS) : ATS := fun E σ h => tc σ h fun d h1 => ∃ k, d = .bl k ∧ if k = true then t E σ h1 else u E σ h1
theorem as_if {c : Expr} {a b : List Stmt} {tc : ATE} (hc : AT X c (aTst tc)) (mc : MonE tc) (ha : ASs X a t) (hb : ASs X b u) : AS X (.If c a b pos) (sIf tc t u) := by
  refine ⟨fun D D' σ h l q => mc _ _ _ _ ?_ q, ps_weak (ps_if hc.run ha.run hb.run) ?_⟩
  · rintro d h1 ⟨k, e, q1⟩
    refine ⟨k, e, ?_⟩
    cases k with
    | true => exact ha.mon _ _ _ _ l q1
    | false => exact hb.mon _ _ _ _ l q1
  · rintro D σ H ⟨Z, σa, h, rs, R, q⟩
    refine ⟨Z, σa, h, rs, R, mc _ _ _ _ (fun d h1 ⟨k, e1, q1⟩ => ?_) q⟩
    subst e1
    refine ⟨k, rfl, fun H1 R1 k1 => ?_⟩
    cases k with
    | true => exact ⟨Z, σa, h1, rs.keep R k1, R1, ha.mon _ _ _ _ (lftEnds_mono k1) q1⟩
    | false => exact ⟨Z, σa, h1, rs.keep R k1, R1, hb.mon _ _ _ _ (lftEnds_mono k1) q1⟩
def sAsg (te : ATE) (g : ATG) : ATS := fun E σ h => te σ h fun d h1 => g d σ h1 E.nx
theorem sasg_mon {g : ATG} (me : MonE te) (mg : MonG g) : MonS (sAsg te g) := fun D D' σ h l q => me _ _ _ _ (fun d h1 q1 => mg _ _ _ _ _ l.nx q1) q
theorem sasg_w {g : ATG} (me : MonE te) (mg : MonG g) : ∀ D σ H, lftS X.K (sAsg te g) D σ H → tAsg (lftE X.K te) (lftG X.K g) D σ H := by
  rintro D σ H ⟨Z, σa, h, rs, R, q⟩
  refine ⟨Z, σa, h, rs, R, me _ _ _ _ (fun d h1 q1 => ?_) q⟩
  intro v H1 r1 R1 k1
  exact ⟨Z, d, σa, h1, r1, rs.keep R k1, R1, mg _ _ _ _ _ (fun _ _ e => (e : EndS X.K Z h H D.nx _ _).mono k1) q1⟩
theorem as_asg {tg : Expr} {g : ATG} (he : AE X e te) (hg : AG X tg g) (hs : swapsWithSole [tg] e pos.line X.env = pure false) (hw : swappedStores [tg] e X.env = pure none)
    (h1 : (assignEach [tg] X.env).map (·.2) = [assign tg X.env]) : AS X (.Assign [tg] e pos) (sAsg te g) :=
  ⟨sasg_mon he.mon hg.mon, ps_weak (ps_asg he.run hg.run hs hw h1) (sasg_w he.mon hg.mon)⟩
/-- a frozen list is a value from here on -/
def sFrz (i : Nat) (t : ATS) : ATS := fun E σ h => ∃ a ds, σ[i]? = some (some (.ref a)) ∧ h a = some ds ∧ t E (σ.set i (some (.lst ds))) (h.del a)
theorem ass_frz {i : Nat} (h1 : ASs X rest t) : ASs X rest (sFrz i t) := by
  refine ⟨fun D D' σ h l ⟨a, ds, e1, e2, q⟩ => ⟨a, ds, e1, e2, h1.mon _ _ _ _ l q⟩, pss_weak h1.run ?_⟩
  rintro D σ H ⟨Z, σa, h, rs, R, a, ds, e1, e2, q⟩
  obtain ⟨v, g, r⟩ := rs.2 i _ e1
  have rs2 : RS X.K Z (h.del a) H (σa.set i (some (.lst ds))) (σ.set i (some (.ref a))) := (rs.keep R Kp.del).put (RD.frozen R e2)
  have e3 : σ.set i (some (V.ref a)) = σ := by
    cases r
    refine List.ext_getElem? fun j => ?_
    rw [List.getElem?_set]
    split
    · rename_i hj
      subst hj
      split
      · exact g.symm
      · rename_i hl
        rw [List.getElem?_eq_none (by omega)] at g
        cases g
    · rfl
  rw [e3] at rs2
  exact ⟨Z, _, _, rs2, R.del, h1.mon _ _ _ _ (lftEnds_mono Kp.del) q⟩
/-- x += e, ints -/
def sAug (i : Nat) (te : ATE) : ATS := fun E σ h => ∃ a, σ[i]? = some (some (.int a)) ∧ te σ h fun d h1 => ∃ b, d = .int b ∧ E.nx (σ.set i (some (.int (a + b)))) h1
theorem as_aug {i : Nat} {x : Str} {pos' : Pos} (hN : X.N.Nodup) (hi : X.N[i]? = some x) (hx : Loc X.env.scope x) (he : AE X e te) (hf : X.fn x = true ∨ X.env.scope.names.lookup x = some .local) : AS X (.AugAssign (.Name x pos') .Add e pos) (sAug i te) := by
  refine ⟨fun D D' σ h l ⟨a, e, q⟩ => ⟨a, e, he.mon _ _ _ _ (fun d h1 ⟨b, e2, q1⟩ => ⟨b, e2, l.nx _ _ q1⟩) q⟩, ps_weak (ps_aug hN hi hx he.run ip_add hf) ?_⟩
  rintro D σ H ⟨Z, σa, h, rs, R, a, e1, q⟩
  obtain ⟨v, g, r⟩ := rs.2 i _ e1
  cases r
  refine ⟨_, g, Z, σa, h, rs, R, he.mon _ _ _ _ (fun d h1 ⟨b, e2, q1⟩ => ?_) q⟩
  intro v H1 r1 R1 k1
  subst e2
  cases r1
  exact ⟨a, b, rfl, rfl, (q1 : EndS X.K Z h H D.nx _ h1) _ H1 ((rs.keep R k1).put (d := .int (a + b)) rfl) R1 k1⟩
/-! ## while -/
def sWhile (tc : ATE) (tb : ATS) : ATS := fun E σ h => ∃ W : Nat → ASt → AH → Prop, (∃ m, W m σ h) ∧ ∀ m σ h, W m σ h → tc σ h fun d h1 => ∃ k, d = .bl k ∧
  if k = true then tb { E with nx := fun σ' h' => ∃ m', m' < m ∧ W m' σ' h', ct := fun σ' h' => ∃ m', m' < m ∧ W m' σ' h', bk := E.nx } σ h1 else E.nx σ h1
theorem as_while {c : Expr} {body : List Stmt} {tc : ATE} (hp : PassesOwn (model X.prog X.w) X.A X.env X.xe) (hc : AT X c (aTst tc)) (mc : MonE tc) (hb : ASs X body t) : AS X (.While c body [] pos) (sWhile tc t) := by
  refine ⟨fun D D' σ h l ⟨W, w0, ws⟩ => ⟨W, w0, fun m σ h w => mc _ _ _ _ ?_ (ws m σ h w)⟩, ps_weak (ps_while hp hc.run hb.run) ?_⟩
  · rintro d h1 ⟨k, e, q1⟩
    refine ⟨k, e, ?_⟩
    cases k with
    | true => exact hb.mon { D with nx := fun σ' h' => ∃ m', m' < m ∧ W m' σ' h', ct := fun σ' h' => ∃ m', m' < m ∧ W m' σ' h', bk := D.nx } _ _ _ ⟨fun _ _ z => z, l.rt, l.nx, fun _ _ z => z⟩ q1
    | false => exact l.nx _ _ q1
  · rintro D σ H ⟨Z, σa, h, rs, R, W, ⟨m0, w0⟩, ws⟩
    refine ⟨fun m σ' H' => ∃ σa' h', RS X.K Z h' H' σa' σ' ∧ RH X.K Z h' H' ∧ Kp h H h' H' ∧ W m σa' h', ⟨m0, σa, h, rs, R, Kp.refl, w0⟩, ?_⟩
    rintro m σ1 H1 ⟨σa1, h1, rs1, R1, k1, w1⟩
    refine ⟨Z, σa1, h1, rs1, R1, mc _ _ _ _ (fun d h2 ⟨k, e, q⟩ => ?_) (ws m σa1 h1 w1)⟩
    subst e
    refine ⟨k, rfl, fun H2 R2 k2 => ?_⟩
    have k12 := k1.trans k2
    have rs2 := rs1.keep R1 k2
    cases k with
    | false => exact (q : EndS X.K Z h H D.nx σa1 h2) σ1 H2 rs2 R2 k12
    | true =>
      refine ⟨fun σ' H' => ∃ σa' h', RS X.K Z h' H' σa' σ' ∧ RH X.K Z h' H' ∧ Kp h H h' H' ∧ ∃ m', m' < m ∧ W m' σa' h', fun σ' H' ⟨sa, hh, a1, a2, a3, m', l, a4⟩ => ⟨m', l, sa, hh, a1, a2, a3, a4⟩, Z, σa1, h2, rs2, R2, ?_⟩
      exact hb.mon { lftEnds X.K Z h H D with nx := fun σ' h' => ∃ m', m' < m ∧ W m' σ' h', ct := fun σ' h' => ∃ m', m' < m ∧ W m' σ' h', bk := (lftEnds X.K Z h H D).nx } _ _ _ ⟨fun σ' h' z => fun σ3 H3 rs3 R3 k3 => ⟨σ', h', rs3, R3, k12.trans k3, z⟩, fun _ _ e => (e : EndE X.K Z h H D.rt _ _).mono k12, fun _ _ e => (e : EndS X.K Z h H D.nx _ _).mono k12,
        fun σ' h' z => fun σ3 H3 rs3 R3 k3 => ⟨σ', h', rs3, R3, k12.trans k3, z⟩⟩ q
end
end WF

open PySem L2
set_option Elab.async false
set_option linter.all false
set_option maxRecDepth 100000
set_option maxHeartbeats 1000000
/-! # part 5: what is walked; for, comprehensions -/
namespace WF
open PySem PySem.Spec PyProof.Rows L2
/-! hiding addresses that are new -/
section
variable {K : PySem.W.Frag} {Z Z' : List Addr} {h : AH} {H : Hp}
def New (Z : List Addr) (H : Hp) (Z' : List Addr) : Prop := ∀ z ∈ Z', z ∈ Z ∨ H z = none
theorem SL.hide (n : New Z H Z') {a : Addr} {xs : List V} (e : SL K Z h H a xs) : SL K Z' h H a xs := by
  rcases e with ⟨q, q2, q3⟩ | q
  · refine .inl ⟨q, q2, fun m => ?_⟩
    rcases n a m with z | z
    · exact q3 z
    · rcases q with q | ⟨_, q⟩ <;> rw [z] at q <;> cases q
  · exact .inr q
mutual
theorem RD.hide (n : New Z H Z') : ∀ {d : D} {v : V}, RD K Z h H d v → RD K Z' h H d v
  | .non, _, e => e
  | .bl _, _, e => e
  | .int _, _, e => e
  | .str _, _, e => e
  | .ty _, _, e => e
  | .ref _, _, e => e
  | .tup ds, _, e => by
    simp only [RD] at e ⊢
    obtain ⟨a, xs, e1, e2, e3⟩ := e
    exact ⟨a, xs, e1, e2, RDs.hide n e3⟩
  | .lst ds, _, e => by
    simp only [RD] at e ⊢
    obtain ⟨a, xs, e1, e2, e3⟩ := e
    exact ⟨a, xs, e1, e2.hide n, RDs.hide n e3⟩
theorem RDs.hide (n : New Z H Z') : ∀ {ds : List D} {xs : List V}, RDs K Z h H ds xs → RDs K Z' h H ds xs
  | [], _, e => e
  | d :: ds, _, e => by
    simp only [RDs] at e ⊢
    obtain ⟨y, ys, e1, e2, e3⟩ := e
    exact ⟨y, ys, e1, RD.hide n e2, RDs.hide n e3⟩
end
theorem New.one {p : Addr} (n : H p = none) : New Z H (p :: Z) := fun z m => by
  rcases List.mem_cons.mp m with e | e
  · subst e; exact .inr n
  · exact .inl e
end
/-- the items, and what must stay true while they are walked -/
structure Src where
  ds : List D
  ok : AH → Prop
abbrev ATI := ASt → AH → (Src → AH → Prop) → Prop
def MonI (t : ATI) : Prop := ∀ σ h Q Q', (∀ s h', Q s h' → Q' s h') → t σ h Q → t σ h Q'
/-- the iterator J yields the items of src, from the state h0, H0 on -/
def Feeds (K : PySem.W.Frag) (Z : List Addr) (h0 : AH) (H0 : Hp) (src : Src) (J : It) : Prop := ∀ (Z' : List Addr) (i : Nat) (h : AH) (H : Hp), New Z H0 Z' → RH K Z' h H → Kp h0 H0 h H → src.ok h →
  (∀ d, src.ds[i]? = some d → J.go i H ∧ ∀ x H', J.yld i H x H' → RD K Z' h H' d x ∧ RH K Z' h H' ∧ Kp h H h H') ∧ (src.ds.length ≤ i → J.stop i H)
def EndI (K : PySem.W.Frag) (Z : List Addr) (h : AH) (H : Hp) (R : It → Hp → Prop) : Src → AH → Prop := fun src h' => ∀ J H', RH K Z h' H' → Kp h H h' H' → Feeds K Z h' H' src J → R J H'
def lftI (K : PySem.W.Frag) (t : ATI) : TI := fun σ H R => ∃ Z σa h, RS K Z h H σa σ ∧ RH K Z h H ∧ t σa h (EndI K Z h H R)
structure AI (X : Cx) (tg e : Expr) (t : ATI) : Prop where
  mon : MonI t
  run : PI X tg e (lftI X.K t)
theorem pi_weak {X : Cx} {tg e : Expr} {t t' : TI} (h : PI X tg e t) (w : ∀ σ H R, t' σ H R → t σ H R) : PI X tg e t' := ⟨fun pins s σ H R I q => h.run pins s σ H R I (w σ H R q)⟩
section
variable {X : Cx} {tg e e2 : Expr} {es : List Expr} {te : ATE} {ta : ATA} {pos p : Pos}
/-- a list or a tuple -/
def iSeqV (K : PySem.W.Frag) (tl : TE) : TI := fun σ H R => tl σ H fun x H1 => ∃ a, x = .ref a ∧ (((∃ xs, SqL K H1 a xs) ∧ R (Itl K a) H1) ∨ ((∃ xs, SqT K H1 a xs) ∧ R (Itt K a) H1))
theorem pi_seqV {tl : TE} (hl : PE X e tl) : PI X tg e (iSeqV X.K tl) := by
  refine ⟨fun pins s σ H R I h => thn (hl.run pins s σ H _ I h) fun v s1 ⟨x, H1, I1, r1, q1⟩ => ?_⟩
  obtain ⟨a, e, q⟩ := q1
  subst e
  cases r1
  have old : Inv X pins σ H1 { s1 with heap := s1.heap } := I1
  have fit : ∀ b ∈ [s1.heap.objs.size], FpOk X pins H1 b := fun b hb => by
    rcases List.mem_singleton.mp hb with rfl
    exact I1.fpOk (Nat.le_refl _) (I1.hok.fresh (Nat.le_refl _))
  rcases q with ⟨⟨xs, hq⟩, q⟩ | ⟨⟨xs, hq⟩, q⟩
  · obtain ⟨its, rv, pl, hz⟩ := I1.list hq
    exact wpAny_pyIter_list pl.isList ⟨_, [s1.heap.objs.size], _, _, H1, rfl, I1.kept (t' := s1.toks) (fun b o q => Heap.get?_push_of_some _ q), turn_list a _, ⟨_, Heap.get?_push_size _ rfl, rfl, rfl⟩, fit, q⟩
  · obtain ⟨its, rv, pl, hz⟩ := I1.tuple hq
    exact wpAny_pyIter_tuple (show s1.heap.IsTuple a its.toArray from pl) ⟨_, [s1.heap.objs.size], _, _, H1, rfl, I1.kept (t' := s1.toks) (fun b o q => Heap.get?_push_of_some _ q), turn_tuple a _, ⟨_, Heap.get?_push_size _ rfl, rfl, rfl⟩, fit, q⟩
def aSeq (te : ATE) : ATI := fun σ h Q => te σ h fun d h1 => match d with
  | .tup ds => Q ⟨ds, fun _ => True⟩ h1
  | .lst ds => Q ⟨ds, fun _ => True⟩ h1
  | .ref a => ∃ ds, h1 a = some ds ∧ Q ⟨ds, fun h => h a = some ds⟩ h1
  | _ => False
theorem sql_inj {K : PySem.W.Frag} {H : Hp} {a : Addr} {xs ys : List V} (h : SqL K H a xs) (h' : Rd H a (.lst ys)) (n : ∀ o, K.lookup a = some o → False) : xs = ys := by
  rcases h with h | ⟨o, its, k, e, _⟩
  · rcases h with h | ⟨o, h⟩ <;> rcases h' with h' | ⟨o', h'⟩ <;> rw [h] at h' <;> cases h' <;> rfl
  · exact (n o e).elim
/-- what the item of a list or tuple is told by the state -/
theorem feeds_tup {K : PySem.W.Frag} {Z : List Addr} {h0 : AH} {H0 : Hp} (R0 : RH K Z h0 H0) {a : Addr} {xs : List V} {ds : List D} (hs : SqT K H0 a xs) (r : RDs K Z h0 H0 ds xs) : Feeds K Z h0 H0 ⟨ds, fun _ => True⟩ (Itt K a) := by
  intro Z' i h H nz R k _
  have hs' : SqT K H a xs := SqT.keep R0.nl k hs
  have r' := RDs.keepN R0.nl k (RDs.hide nz r)
  refine ⟨fun d e => ?_, fun l => ⟨xs, hs', by rw [← r.length]; exact l⟩⟩
  obtain ⟨x, ex, rx⟩ := r'.get e
  refine ⟨⟨xs, x, hs', ex⟩, fun y H' ⟨e1, e2⟩ => ?_⟩
  subst e1
  have := e2 xs hs'
  rw [ex] at this
  cases this
  exact ⟨rx, R, Kp.refl⟩
theorem feeds_lst {K : PySem.W.Frag} {Z : List Addr} {h0 : AH} {H0 : Hp} (R0 : RH K Z h0 H0) {a : Addr} {xs : List V} {ds : List D} (hs : SL K Z h0 H0 a xs) (r : RDs K Z h0 H0 ds xs) : Feeds K Z h0 H0 ⟨ds, fun _ => True⟩ (Itl K a) := by
  intro Z' i h H nz R k _
  have hs' : SqL K H a xs := (hs.keep k).sq
  have r' := RDs.keepN R0.nl k (RDs.hide nz r)
  refine ⟨fun d e => ?_, fun l => ⟨xs, hs', by rw [← r.length]; exact l⟩⟩
  obtain ⟨x, ex, rx⟩ := r'.get e
  refine ⟨⟨xs, x, hs', ex⟩, fun y H' ⟨e1, e2⟩ => ?_⟩
  subst e1
  have := e2 xs hs'
  rw [ex] at this
  cases this
  exact ⟨rx, R, Kp.refl⟩
theorem feeds_ref {K : PySem.W.Frag} {Z : List Addr} {h0 : AH} {H0 : Hp} {a : Addr} {ds : List D} : Feeds K Z h0 H0 ⟨ds, fun h => h a = some ds⟩ (Itl K a) := by
  intro Z' i h H nz R k ok
  obtain ⟨xs, e1, r⟩ := R.at_ a ds ok
  have hs' : SqL K H a xs := .inl (.inl e1)
  refine ⟨fun d e => ?_, fun l => ⟨xs, hs', by rw [← r.length]; exact l⟩⟩
  obtain ⟨x, ex, rx⟩ := r.get e
  refine ⟨⟨xs, x, hs', ex⟩, fun y H' ⟨e1, e2⟩ => ?_⟩
  subst e1
  have := e2 xs hs'
  rw [ex] at this
  cases this
  exact ⟨rx, R, Kp.refl⟩
theorem ai_seq (he : AE X e te) : AI X tg e (aSeq te) := by
  refine ⟨fun σ h Q Q' w q => he.mon _ _ _ _ (fun d h1 q1 => ?_) q, pi_weak (pi_seqV he.run) ?_⟩
  · cases d with
    | tup ds => exact w _ _ q1
    | lst ds => exact w _ _ q1
    | ref a =>
      obtain ⟨ds, e1, q1⟩ := q1
      exact ⟨ds, e1, w _ _ q1⟩
    | _ => exact q1
  · rintro σ H R0 ⟨Z, σa, h, rs, R, q⟩
    refine ⟨Z, σa, h, rs, R, he.mon _ _ _ _ (fun d h1 q1 => ?_) q⟩
    intro v H1 r1 R1 k1
    cases d with
    | tup ds =>
      simp only [RD] at r1
      obtain ⟨a, xs, rfl, hs, r⟩ := r1
      exact ⟨a, rfl, .inr ⟨⟨xs, hs⟩, (q1 : EndI X.K Z h H R0 _ h1) _ H1 R1 k1 (feeds_tup R1 hs r)⟩⟩
    | lst ds =>
      simp only [RD] at r1
      obtain ⟨a, xs, rfl, hs, r⟩ := r1
      exact ⟨a, rfl, .inl ⟨⟨xs, hs.sq⟩, (q1 : EndI X.K Z h H R0 _ h1) _ H1 R1 k1 (feeds_lst R1 hs r)⟩⟩
    | ref a =>
      obtain ⟨ds, e1, q1⟩ := q1
      cases r1
      obtain ⟨xs, g, r⟩ := R1.at_ a ds e1
      exact ⟨a, rfl, .inl ⟨⟨xs, .inl (.inl g)⟩, (q1 : EndI X.K Z h H R0 _ h1) _ H1 R1 k1 feeds_ref⟩⟩
    | _ => exact q1.elim
/-- lo, lo + 1, .. -/
def rngD (lo : Int) (n : Nat) : List D := (List.range n).map fun i : Nat => D.int (lo + (i : Int))
theorem feeds_rng {K : PySem.W.Frag} {Z : List Addr} {h0 : AH} {H0 : Hp} {lo : Int} {n : Nat} : Feeds K Z h0 H0 ⟨rngD lo n, fun _ => True⟩ (Itr lo n) := by
  intro Z' i h H nz R k _
  refine ⟨fun d e => ?_, fun l => ?_⟩
  · unfold rngD at e
    rw [List.getElem?_map] at e
    cases q : (List.range n)[i]? with
    | none =>
      rw [q] at e
      cases e
    | some j =>
      rw [q] at e
      have hj : i < n := by
        have := (List.getElem?_eq_some_iff.mp q).1
        simpa using this
      have ej : j = i := by
        have := (List.getElem?_eq_some_iff.mp q).2
        simpa using this.symm
      subst ej
      cases e
      refine ⟨hj, fun x H' ⟨e1, e2⟩ => ?_⟩
      subst e1 e2
      exact ⟨rfl, R, Kp.refl⟩
  · have : n ≤ i := by simpa [rngD] using l
    exact this
def aRng1 (ta : ATA) : ATI := fun σ h Q => ta σ h fun ds h1 => ∃ j : Int, ds = [.int j] ∧ (-(2 ^ 62) ≤ j ∧ j < 2 ^ 62) ∧ Q ⟨rngD 0 j.toNat, fun _ => True⟩ h1
def aRng2 (ta : ATA) : ATI := fun σ h Q => ta σ h fun ds h1 => ∃ i j : Int, ds = [.int i, .int j] ∧ (-(2 ^ 62) ≤ i ∧ i < 2 ^ 62 ∧ -(2 ^ 62) ≤ j ∧ j < 2 ^ 62) ∧ Q ⟨rngD i (j - i).toNat, fun _ => True⟩ h1
theorem ai_rng1 (hg : Gl X "range") (hm : X.mg "range" = none) (ha : AA X [e] ta) (hs : starEach [e] X.env = [(false, eval e X.env)]) : AI X tg (.Call (.Name "range" p) [e] [] pos) (aRng1 ta) := by
  refine ⟨fun σ h Q Q' w q => ha.mon _ _ _ _ (fun d h1 ⟨j, e1, b, q1⟩ => ⟨j, e1, b, w _ _ q1⟩) q, pi_weak (pi_range1 hg hm ha.run hs) ?_⟩
  rintro σ H R0 ⟨Z, σa, h, rs, R, q⟩
  refine ⟨Z, σa, h, rs, R, ha.mon _ _ _ _ (fun d h1 ⟨j, e1, ⟨b1, b2⟩, q1⟩ => ?_) q⟩
  intro vs H1 r1 R1 k1
  subst e1
  obtain ⟨v, rfl, r⟩ := r1.one_of
  cases r
  exact ⟨j, rfl, b1, b2, (q1 : EndI X.K Z h H R0 _ h1) _ H1 R1 k1 feeds_rng⟩
theorem ai_rng2 (hg : Gl X "range") (hm : X.mg "range" = none) (ha : AA X [e, e2] ta) (hs : starEach [e, e2] X.env = [(false, eval e X.env), (false, eval e2 X.env)]) (hs2 : starEach [e2] X.env = [(false, eval e2 X.env)]) : AI X tg (.Call (.Name "range" p) [e, e2] [] pos) (aRng2 ta) := by
  refine ⟨fun σ h Q Q' w q => ha.mon _ _ _ _ (fun d h1 ⟨i, j, e1, b, q1⟩ => ⟨i, j, e1, b, w _ _ q1⟩) q, pi_weak (pi_range2 hg hm ha.run hs hs2) ?_⟩
  rintro σ H R0 ⟨Z, σa, h, rs, R, q⟩
  refine ⟨Z, σa, h, rs, R, ha.mon _ _ _ _ (fun d h1 ⟨i, j, e1, b, q1⟩ => ?_) q⟩
  intro vs H1 r1 R1 k1
  subst e1
  obtain ⟨v, u, rfl, ra, rb⟩ := r1.two_of
  cases ra
  cases rb
  exact ⟨i, j, rfl, b, (q1 : EndI X.K Z h H R0 _ h1) _ H1 R1 k1 feeds_rng⟩
/-! ## for -/
def loopD (step : D → AEnds → ASt → AH → Prop) (ok : AH → Prop) (E : AEnds) : List D → ASt → AH → Prop
  | [], σ, h => ok h ∧ E.nx σ h
  | d :: ds, σ, h => ok h ∧ step d { nx := loopD step ok E ds, rt := E.rt, bk := E.nx, ct := loopD step ok E ds } σ h
def sFor (ti : ATI) (g : ATG) (tb : ATS) : ATS := fun E σ h => ti σ h fun src h1 => loopD (fun d E' σ' h' => g d σ' h' fun σ2 h2 => tb E' σ2 h2) src.ok E src.ds σ h1
theorem loopD_mono {g : ATG} {tb : ATS} (mg : MonG g) (mb : MonS tb) {ok : AH → Prop} {E E' : AEnds} (l : E.Le E') : ∀ (ds : List D) (σ : ASt) (h : AH),
    loopD (fun d E' σ' h' => g d σ' h' fun σ2 h2 => tb E' σ2 h2) ok E ds σ h → loopD (fun d E' σ' h' => g d σ' h' fun σ2 h2 => tb E' σ2 h2) ok E' ds σ h
  | [], σ, h, q => ⟨q.1, l.nx _ _ q.2⟩
  | d :: ds, σ, h, q => ⟨q.1, mg _ _ _ _ _ (fun σ' h' q' => mb { nx := loopD (fun d E' σ' h' => g d σ' h' fun σ2 h2 => tb E' σ2 h2) ok E ds, rt := E.rt, bk := E.nx, ct := loopD (fun d E' σ' h' => g d σ' h' fun σ2 h2 => tb E' σ2 h2) ok E ds } _ _ _ ⟨fun σ h => loopD_mono mg mb l ds σ h, l.rt, l.nx, fun σ h => loopD_mono mg mb l ds σ h⟩ q') q.2⟩
theorem as_for {ti : ATI} {g : ATG} {tb : ATS} {body : List Stmt} (hp : PassesOwn (model X.prog X.w) X.A X.env X.xe) (hc : X.calm = true) (hi : AI X tg e ti) (hg : AG X tg g) (hb : ASs X body tb)
    (hs : ∀ x, foldedSetIterable e X.env x = pure x) : AS X (.For tg e body [] pos) (sFor ti g tb) := by
  refine ⟨fun D D' σ h l q => hi.mon _ _ _ _ (fun src h1 q1 => loopD_mono hg.mon hb.mon l _ _ _ q1) q, ps_weak (ps_for hp hc hi.run hg.run hb.run hs) ?_⟩
  rintro Dn σ H ⟨Z, σa, h, rs, R, q⟩
  refine ⟨Z, σa, h, rs, R, hi.mon _ _ _ _ (fun src h1 q1 => ?_) q⟩
  intro J H1 R1 k1 feed
  refine ⟨fun i m σ' H' => m = src.ds.length - i ∧ i ≤ src.ds.length ∧ ∃ σa' h', RS X.K Z h' H' σa' σ' ∧ RH X.K Z h' H' ∧ Kp h1 H1 h' H' ∧
      loopD (fun d E' σ' h' => g d σ' h' fun σ2 h2 => tb E' σ2 h2) src.ok (lftEnds X.K Z h H Dn) (src.ds.drop i) σa' h', ⟨_, rfl, Nat.zero_le _, σa, h1, rs.keep R k1, R1, Kp.refl, q1⟩, ?_⟩
  rintro i m σ2 H2 ⟨rfl, hi', σa2, h2, rs2, R2, k2, q2⟩
  have kk := k1.trans k2
  by_cases hlt : i < src.ds.length
  · have ed : src.ds.drop i = src.ds[i] :: src.ds.drop (i + 1) := List.drop_eq_getElem_cons hlt
    rw [ed] at q2
    obtain ⟨ok, q3⟩ := q2
    obtain ⟨go, yl⟩ := (feed Z i h2 H2 (fun z m => .inl m) R2 k2 ok).1 src.ds[i] (List.getElem?_eq_getElem hlt)
    let N : L2.St → Hp → Prop := fun σ' H' => ∃ σa' h', RS X.K Z h' H' σa' σ' ∧ RH X.K Z h' H' ∧ Kp h1 H1 h' H' ∧ loopD (fun d E' σ' h' => g d σ' h' fun σ2 h2 => tb E' σ2 h2) src.ok (lftEnds X.K Z h H Dn) (src.ds.drop (i + 1)) σa' h'
    refine .inr ⟨go, N, fun σ' H' ⟨sa, hh, a1, a2, a3, a4⟩ => ⟨src.ds.length - (i + 1), by omega, rfl, hlt, sa, hh, a1, a2, a3, a4⟩, fun x H' y => ?_⟩
    obtain ⟨rd, R3, k3⟩ := yl x H' y
    refine ⟨Z, src.ds[i], σa2, h2, rd, rs2.keep R2 k3, R3, hg.mon _ _ _ _ _ (fun σ4 h4 q4 => ?_) q3⟩
    intro σ5 H5 rs5 R5 k5
    have k15 := (k2.trans k3).trans k5
    have k05 := (kk.trans k3).trans k5
    exact ⟨Z, σ4, h4, rs5, R5, hb.mon { nx := loopD (fun d E' σ' h' => g d σ' h' fun σ2 h2 => tb E' σ2 h2) src.ok (lftEnds X.K Z h H Dn) (src.ds.drop (i + 1)), rt := EndE X.K Z h H Dn.rt, bk := EndS X.K Z h H Dn.nx, ct := loopD (fun d E' σ' h' => g d σ' h' fun σ2 h2 => tb E' σ2 h2) src.ok (lftEnds X.K Z h H Dn) (src.ds.drop (i + 1)) } _ _ _
      ⟨fun σ' h' z => fun σ6 H6 rs6 R6 k6 => ⟨σ', h', rs6, R6, k15.trans k6, z⟩, fun _ _ e => e.mono k05, fun _ _ e => e.mono k05, fun σ' h' z => fun σ6 H6 rs6 R6 k6 => ⟨σ', h', rs6, R6, k15.trans k6, z⟩⟩ q4⟩
  · have e0 : i = src.ds.length := by omega
    subst e0
    rw [List.drop_length] at q2
    obtain ⟨ok, q3⟩ := q2
    exact .inl ⟨(feed Z _ h2 H2 (fun z m => .inl m) R2 k2 ok).2 (Nat.le_refl _), (q3 : EndS X.K Z h H Dn.nx σa2 h2) σ2 H2 rs2 R2 kk⟩
/-! ## comprehensions -/
/-- the items one after another: each gives an element, or none -/
def lcD (step : D → AH → (Option D → AH → Prop) → Prop) (ok : AH → Prop) : List D → List D → AH → (List D → AH → Prop) → Prop
  | [], acc, h, Q => ok h ∧ Q acc h
  | d :: ds, acc, h, Q => ok h ∧ step d h fun o h' => match o with
    | some y => lcD step ok ds (acc ++ [y]) h' Q
    | none => lcD step ok ds acc h' Q
/-- the slots of a comprehension's own names are forgotten within -/
@[simp] def wipeA (σ : ASt) : List Nat → ASt
  | [] => σ
  | v :: vs => (wipeA σ vs).set v none
/-- one turn: target, test, element; the own slots alone may be stored -/
def lcStep (g : ATG) (tt : ATE) (te : ATE) (vs : List Nat) (σ : ASt) : D → AH → (Option D → AH → Prop) → Prop := fun d h Q =>
  g d (wipeA σ vs) h fun σ2 h2 => tt σ2 h2 fun b h3 => ∃ k, b = .bl k ∧ if k = true then te σ2 h3 fun y h4 => Q (some y) h4 else Q none h3
def aLc (m : Bool) (ti : ATI) (g : ATG) (tt te : ATE) (vs : List Nat) : ATE := fun σ h Q => ti σ h fun src h1 => src.ds.length ≤ sizeLine ∧ lcD (lcStep g tt te vs σ) src.ok src.ds [] h1 fun acc h2 => newL m acc h2 Q
theorem lcStep_eq {g : ATG} {tt te : ATE} {vs : List Nat} {σ : ASt} {d : D} {h : AH} {Q : Option D → AH → Prop} : lcStep g tt te vs σ d h Q ↔ g d (wipeA σ vs) h fun σ2 h2 => tt σ2 h2 fun b h3 => ∃ k, b = .bl k ∧ if k = true then te σ2 h3 fun y h4 => Q (some y) h4 else Q none h3 := Iff.rfl
theorem lcStep_mono {g : ATG} {tt te : ATE} {vs : List Nat} {σ : ASt} (mg : MonG g) (mt : MonE tt) (me : MonE te) {d : D} {h : AH} {Q Q' : Option D → AH → Prop} (w : ∀ o h', Q o h' → Q' o h') (q : lcStep g tt te vs σ d h Q) : lcStep g tt te vs σ d h Q' :=
  mg _ _ _ _ _ (fun σ2 h2 q2 => mt _ _ _ _ (fun b h3 ⟨k, e3, q3⟩ => ⟨k, e3, by
    cases k with
    | true => exact me _ _ _ _ (fun y h4 q4 => w _ _ q4) q3
    | false => exact w _ _ q3⟩) q2) q
theorem lcD_mono {g : ATG} {tt te : ATE} {vs : List Nat} {σ : ASt} (mg : MonG g) (mt : MonE tt) (me : MonE te) {ok : AH → Prop} {Q Q' : List D → AH → Prop} (w : ∀ o h', Q o h' → Q' o h') : ∀ (ds acc : List D) (h : AH),
    lcD (lcStep g tt te vs σ) ok ds acc h Q → lcD (lcStep g tt te vs σ) ok ds acc h Q'
  | [], acc, h, q => ⟨q.1, w _ _ q.2⟩
  | d :: ds, acc, h, q => ⟨q.1, lcStep_mono mg mt me (fun o h' q' => by
    cases o with
    | some y => exact lcD_mono mg mt me w ds _ h' q'
    | none => exact lcD_mono mg mt me w ds _ h' q') q.2⟩
theorem wipeA_rs {K : PySem.W.Frag} {Z : List Addr} {h : AH} {H : Hp} {σa : ASt} {σ : L2.St} (rs : RS K Z h H σa σ) : ∀ vs : List Nat, RS K Z h H (wipeA σa vs) (wipe σ vs)
  | [] => rs
  | v :: vs => by
    have ih := wipeA_rs rs vs
    refine ⟨by unfold wipeA wipe; rw [List.length_set, List.length_set]; exact ih.1, fun i d e => ?_⟩
    unfold wipeA at e
    unfold wipe
    by_cases hv : v = i
    · subst hv
      rw [List.getElem?_set] at e
      split at e
      · split at e <;> cases e
      · rename_i hne
        exact absurd rfl hne
    · rw [List.getElem?_set_ne hv] at e ⊢
      exact ih.2 i d e
/-! a block's targets store its own slots alone -/
theorem wipe_set (x : Option V) : ∀ (vs : List Nat) (σ : L2.St) (i : Nat), wipe (σ.set i x) vs = if i ∈ vs then wipe σ vs else (wipe σ vs).set i x
  | [], σ, i => by rw [if_neg (by simp)]; rfl
  | v :: vs, σ, i => by
    unfold wipe
    rw [wipe_set x vs σ i]
    by_cases h1 : i ∈ vs
    · rw [if_pos h1, if_pos (List.mem_cons_of_mem _ h1)]
    · rw [if_neg h1]
      by_cases h2 : i = v
      · subst h2
        rw [if_pos List.mem_cons_self, List.set_set]
      · rw [if_neg (by simp [h1, h2]), List.set_comm _ _ h2]
theorem wipe_set_in {x : Option V} {vs : List Nat} {σ : L2.St} {i : Nat} (h : i ∈ vs) : wipe (σ.set i x) vs = wipe σ vs := by rw [wipe_set, if_pos h]
/-- .. and what is outside them stays -/
def EndV (K : PySem.W.Frag) (Z : List Addr) (vs : List Nat) (σ0 : L2.St) (h : AH) (H : Hp) (Q : L2.St → Hp → Prop) : ASt → AH → Prop := fun σa h' => ∀ σ H', wipe σ vs = wipe σ0 vs → RS K Z h' H' σa σ → RH K Z h' H' → Kp h H h' H' → Q σ H'
def lftV (K : PySem.W.Frag) (vs : List Nat) (t : ATG) : TG := fun v σ H Q => ∃ Z d σa h, RD K Z h H d v ∧ RS K Z h H σa σ ∧ RH K Z h H ∧ t d σa h (EndV K Z vs σ h H Q)
def lftVs (K : PySem.W.Frag) (vs : List Nat) (t : ATGs) : TGs := fun us σ H Q => ∃ Z ds σa h, RDs K Z h H ds us ∧ RS K Z h H σa σ ∧ RH K Z h H ∧ t ds σa h (EndV K Z vs σ h H Q)
structure AV (X : Cx) (vs : List Nat) (e : Expr) (t : ATG) : Prop where
  mon : MonG t
  run : PG X e (lftV X.K vs t)
structure AVs (X : Cx) (vs : List Nat) (es : List Expr) (t : ATGs) : Prop where
  mon : MonGs t
  run : PGs X es (lftVs X.K vs t)
variable {vs : List Nat}
theorem av_name {i : Nat} {x : Str} (hN : X.N.Nodup) (hi : X.N[i]? = some x) (hx : Loc X.env.scope x) (hf : X.fn x = true ∨ X.env.scope.names.lookup x = some .local) (hv : i ∈ vs) : AV X vs (.Name x pos) (gN i) := by
  refine ⟨fun d σ h Q Q' w q => w _ _ q, pg_weak (pg_name hN hi hx hf) ?_⟩
  rintro v σ H Q ⟨Z, d, σa, h, r, rs, R, q⟩
  exact q _ _ (wipe_set_in hv) (rs.put r) R Kp.refl
theorem avs_nil : AVs X vs [] gsNil := by
  refine ⟨fun d σ h Q Q' w q => ⟨q.1, w _ _ q.2⟩, pgs_weak pgs_nil ?_⟩
  rintro us σ H Q ⟨Z, ds, σa, h, r, rs, R, e, q⟩
  subst e
  exact ⟨r, q _ _ rfl rs R Kp.refl⟩
theorem avs_cons {t : ATG} {u : ATGs} (h1 : AV X vs e t) (h2 : AVs X vs es u) (hs : (assignEach (e :: es) X.env).map (·.2) = assign e X.env :: (assignEach es X.env).map (·.2)) : AVs X vs (e :: es) (gsCons t u) := by
  refine ⟨fun d σ h Q Q' w ⟨d0, r, e, q⟩ => ⟨d0, r, e, h1.mon _ _ _ _ _ (fun σ1 h1' q1 => h2.mon _ _ _ _ _ w q1) q⟩, pgs_weak (pgs_cons h1.run h2.run hs) ?_⟩
  rintro us σ H Q ⟨Z, ds, σa, h, r, rs, R, d, r0, e, q⟩
  subst e
  simp only [RDs] at r
  obtain ⟨v, vr, rfl, r1, r2⟩ := r
  refine ⟨v, vr, rfl, Z, d, σa, h, r1, rs, R, h1.mon _ _ _ _ _ (fun σ1 h1' q1 => ?_) q⟩
  intro σ' H' w' rs' R' k'
  exact ⟨Z, r0, σ1, h1', RDs.keep R k' r2, rs', R', h2.mon _ _ _ _ _ (fun σ3 h3 e3 => fun σ4 H4 w4 rs4 R4 k4 => e3 σ4 H4 (w4.trans w') rs4 R4 (k'.trans k4)) q1⟩
theorem av_tup {k n : Nat} {t : ATGs} (hc : X.calm = true) (h : AVs X vs es t) (hn : (assignEach es X.env).length = n) (hst : (assignEach es X.env).findIdx? (·.1) = none) : AV X vs (.Tuple es k pos) (gT t n) := by
  refine ⟨fun d σ h' Q Q' w ⟨ds, e, l, q⟩ => ⟨ds, e, l, h.mon _ _ _ _ _ w q⟩, pg_weak (pg_any hc h.run hn hst) ?_⟩
  rintro v σ H Q ⟨Z, d, σa, h', r, rs, R, ds, e, l, q⟩
  obtain ⟨a, xs, rfl, hs, r⟩ := seqA_ok R r e
  exact ⟨a, xs, rfl, hs, by rw [← r.length]; exact l, Z, ds, σa, h', r, rs, R, q⟩
section
variable {K : PySem.W.Frag} {Z : List Addr} {h : AH} {H : Hp} {p : Addr}
mutual
theorem RD.bare : ∀ {d : D} {v : V}, RD K (p :: Z) h H d v → RD K Z h H d v
  | .non, _, e => e
  | .bl _, _, e => e
  | .int _, _, e => e
  | .str _, _, e => e
  | .ty _, _, e => e
  | .ref _, _, e => e
  | .tup ds, _, e => by
    simp only [RD] at e ⊢
    obtain ⟨a, xs, e1, e2, e3⟩ := e
    exact ⟨a, xs, e1, e2, RDs.bare e3⟩
  | .lst ds, _, e => by
    simp only [RD] at e ⊢
    obtain ⟨a, xs, e1, e2, e3⟩ := e
    refine ⟨a, xs, e1, ?_, RDs.bare e3⟩
    rcases e2 with ⟨q, q2, q3⟩ | q
    · exact .inl ⟨q, q2, fun m => q3 (List.mem_cons_of_mem _ m)⟩
    · exact .inr q
theorem RDs.bare : ∀ {ds : List D} {xs : List V}, RDs K (p :: Z) h H ds xs → RDs K Z h H ds xs
  | [], _, e => e
  | d :: ds, _, e => by
    simp only [RDs] at e ⊢
    obtain ⟨y, ys, e1, e2, e3⟩ := e
    exact ⟨y, ys, e1, RD.bare e2, RDs.bare e3⟩
end
mutual
/-- the hidden list grows: no value knows of it -/
theorem RD.grow {xs ys : List V} (g : H p = some (.lst xs)) : ∀ {d : D} {v : V}, RD K (p :: Z) h H d v → RD K (p :: Z) h (upd H p (.lst ys)) d v
  | .non, _, e => e
  | .bl _, _, e => e
  | .int _, _, e => e
  | .str _, _, e => e
  | .ty _, _, e => e
  | .ref _, _, e => e
  | .tup ds, _, e => by
    simp only [RD] at e ⊢
    obtain ⟨a, zs, e1, e2, e3⟩ := e
    refine ⟨a, zs, e1, ?_, RDs.grow g e3⟩
    rcases e2 with q | q
    · refine .inl ?_
      rcases q with q | ⟨o, q⟩
      · exact .inl (by rw [upd_ne (ne_of q g (by intro z; cases z))]; exact q)
      · exact .inr ⟨o, by rw [upd_ne (ne_of q g (by intro z; cases z))]; exact q⟩
    · exact .inr q
  | .lst ds, _, e => by
    simp only [RD] at e ⊢
    obtain ⟨a, zs, e1, e2, e3⟩ := e
    refine ⟨a, zs, e1, ?_, RDs.grow g e3⟩
    rcases e2 with ⟨q, q2, q3⟩ | q
    · have ne : a ≠ p := fun z => q3 (by rw [z]; exact List.mem_cons_self)
      refine .inl ⟨?_, q2, q3⟩
      rcases q with q | ⟨o, q⟩
      · exact .inl (by rw [upd_ne ne]; exact q)
      · exact .inr ⟨o, by rw [upd_ne ne]; exact q⟩
    · exact .inr q
theorem RDs.grow {xs ys : List V} (g : H p = some (.lst xs)) : ∀ {ds : List D} {us : List V}, RDs K (p :: Z) h H ds us → RDs K (p :: Z) h (upd H p (.lst ys)) ds us
  | [], _, e => e
  | d :: ds, _, e => by
    simp only [RDs] at e ⊢
    obtain ⟨y, zs, e1, e2, e3⟩ := e
    exact ⟨y, zs, e1, RD.grow g e2, RDs.grow g e3⟩
end
mutual
/-- the hidden list becomes one that may change -/
theorem RD.thaw {es : List D} : ∀ {d : D} {v : V}, RD K (p :: Z) h H d v → RD K Z (h.set p es) H d v
  | .non, _, e => e
  | .bl _, _, e => e
  | .int _, _, e => e
  | .str _, _, e => e
  | .ty _, _, e => e
  | .ref _, _, e => e
  | .tup ds, _, e => by
    simp only [RD] at e ⊢
    obtain ⟨a, zs, e1, e2, e3⟩ := e
    exact ⟨a, zs, e1, e2, RDs.thaw e3⟩
  | .lst ds, _, e => by
    simp only [RD] at e ⊢
    obtain ⟨a, zs, e1, e2, e3⟩ := e
    refine ⟨a, zs, e1, ?_, RDs.thaw e3⟩
    rcases e2 with ⟨q, q2, q3⟩ | q
    · have ne : a ≠ p := fun z => q3 (by rw [z]; exact List.mem_cons_self)
      exact .inl ⟨q, by rw [AH.set_ne ne]; exact q2, fun m => q3 (List.mem_cons_of_mem _ m)⟩
    · exact .inr q
theorem RDs.thaw {es : List D} : ∀ {ds : List D} {us : List V}, RDs K (p :: Z) h H ds us → RDs K Z (h.set p es) H ds us
  | [], _, e => e
  | d :: ds, _, e => by
    simp only [RDs] at e ⊢
    obtain ⟨y, zs, e1, e2, e3⟩ := e
    exact ⟨y, zs, e1, RD.thaw e2, RDs.thaw e3⟩
end
theorem RH.grow {xs ys : List V} (R : RH K (p :: Z) h H) (g : H p = some (.lst xs)) : RH K (p :: Z) h (upd H p (.lst ys)) := by
  have hp : h p = none := (R.zk p List.mem_cons_self).2
  refine ⟨fun a ds e => ?_, fun a m => ⟨fun z => ?_, (R.zk a m).2⟩⟩
  · obtain ⟨us, e1, r⟩ := R.at_ a ds e
    have ne : a ≠ p := fun z => by rw [z, hp] at e; cases e
    exact ⟨us, by rw [upd_ne ne]; exact e1, RDs.grow g r⟩
  · by_cases ne : a = p
    · subst ne; rw [upd_same] at z; cases z
    · rw [upd_ne ne] at z; exact (R.zk a m).1 z
theorem RH.unhide (R : RH K (p :: Z) h H) : RH K Z h H :=
  ⟨fun a ds e => let ⟨us, e1, r⟩ := R.at_ a ds e; ⟨us, e1, RDs.bare r⟩, fun a m => R.zk a (List.mem_cons_of_mem _ m)⟩
end
theorem wipe_get {vs : List Nat} {σ : L2.St} : ∀ {i : Nat}, i ∈ vs → (wipe σ vs)[i]? = none ∨ (wipe σ vs)[i]? = some none := by
  induction vs with
  | nil => intro i h; cases h
  | cons v vs ih =>
    intro i h
    unfold wipe
    rw [List.getElem?_set]
    by_cases e : v = i
    · rw [if_pos e]
      split
      · exact .inr rfl
      · exact .inl rfl
    · rw [if_neg e]
      rcases List.mem_cons.mp h with z | z
      · exact absurd z.symm e
      · exact ih z
theorem wipe_none_set {vs : List Nat} {σ : L2.St} {i : Nat} (h : i ∈ vs) : (wipe σ vs).set i none = wipe σ vs := by
  refine List.ext_getElem? fun j => ?_
  rw [List.getElem?_set]
  by_cases e : i = j
  · subst e
    rw [if_pos rfl]
    rcases wipe_get (σ := σ) h with z | z
    · rw [if_neg (by have := List.getElem?_eq_none_iff.mp z; omega), z]
    · rw [if_pos (List.getElem?_eq_some_iff.mp z).1, z]
  · rw [if_neg e]
theorem wipe_wipe_of {σ : L2.St} {vs : List Nat} : ∀ ws : List Nat, (∀ w ∈ ws, w ∈ vs) → wipe (wipe σ vs) ws = wipe σ vs
  | [], _ => rfl
  | w :: ws, h => by
    show (wipe (wipe σ vs) ws).set w none = wipe σ vs
    rw [wipe_wipe_of ws fun x hx => h x (List.mem_cons_of_mem _ hx)]
    exact wipe_none_set (h w List.mem_cons_self)
theorem wipe_wipe {σ : L2.St} {vs : List Nat} : wipe (wipe σ vs) vs = wipe σ vs := wipe_wipe_of vs fun _ h => h
theorem RS.laid {K : PySem.W.Frag} {Z : List Addr} {h : AH} {H : Hp} {p : Addr} {o : HO} {σa : ASt} {σ : L2.St} (n : NL h H) (np : H p = none) (rs : RS K Z h H σa σ) : RS K (p :: Z) h (upd H p o) σa σ := ⟨rs.1, fun i d e =>
  let ⟨v, e1, r⟩ := rs.2 i d e
  ⟨v, e1, RD.keepN n (Kp.laid np) (RD.hide (New.one np) r)⟩⟩
theorem RS.bare {K : PySem.W.Frag} {Z : List Addr} {h : AH} {H : Hp} {p : Addr} {σa : ASt} {σ : L2.St} (rs : RS K (p :: Z) h H σa σ) : RS K Z h H σa σ := ⟨rs.1, fun i d e =>
  let ⟨v, e1, r⟩ := rs.2 i d e
  ⟨v, e1, RD.bare r⟩⟩
theorem lc_w {m : Bool} {vs : List Nat} {ti : ATI} {g : ATG} {tt : ATE} (mg : MonG g) (mt : MonE tt) (me : MonE te) (mi : MonI ti) : ∀ σ H Q, lftE X.K (aLc m ti g tt te vs) σ H Q →
    tLc (lftI X.K ti) (lftV X.K vs g) (lftT X.K (aTst tt)) (lftE X.K te) vs σ H Q := by
  rintro σ H Q ⟨Z, σa, h, rs, R, q⟩
  refine ⟨Z, σa, h, rs, R, mi _ _ _ _ (fun src h1 ⟨zz, q1⟩ => ?_) q⟩
  intro J H1 R1 k1 feed p np
  have hp0 : h1 p = none := R1.fresh np
  have rs1 : RS X.K (p :: Z) h1 (upd H1 p (.lst [])) σa σ := (rs.keep R k1).laid R1.nl np
  have Rl : RH X.K (p :: Z) h1 (upd H1 p (.lst [])) := by
    refine ⟨fun a ds e => ?_, fun a mm => ?_⟩
    · obtain ⟨us, e1, r⟩ := R1.at_ a ds e
      exact ⟨us, by rw [upd_ne (ne_of_none e1 np)]; exact e1, RDs.keepN R1.nl (Kp.laid np) (RDs.hide (New.one np) r)⟩
    · rcases List.mem_cons.mp mm with z | z
      · subst z
        exact ⟨(by rw [upd_same]; exact fun q => (nomatch q)), hp0⟩
      · exact (R1.laid np).zk a z
  let Qe : List D → AH → Prop := fun acc h2 => newL m acc h2 (EndE X.K Z h H Q)
  refine ⟨fun i mm H' => mm = src.ds.length - i ∧ i ≤ src.ds.length ∧ ∃ (h' : AH) (accD : List D) (acc : List V), RH X.K (p :: Z) h' H' ∧ RS X.K (p :: Z) h' H' σa σ ∧ Kp h1 H1 h' H' ∧ H' p = some (.lst acc) ∧ RDs X.K (p :: Z) h' H' accD acc ∧ accD.length ≤ i ∧
      lcD (lcStep g tt te vs σa) src.ok (src.ds.drop i) accD h' Qe, ⟨_, rfl, Nat.zero_le _, h1, [], [], Rl, rs1, Kp.laid np, upd_same, rfl, Nat.le_refl _, q1⟩, ?_⟩
  rintro i mm H2 ⟨rfl, hi', h2, accD, acc, R2, rs2, k2, g2, racc, lacc, q2⟩
  have n2 : h2 p = none := (R2.zk p List.mem_cons_self).2
  by_cases hlt : i < src.ds.length
  · have ed : src.ds.drop i = src.ds[i] :: src.ds.drop (i + 1) := List.drop_eq_getElem_cons hlt
    rw [ed] at q2
    obtain ⟨oks, q3⟩ := q2
    obtain ⟨go, yl⟩ := (feed (p :: Z) i h2 H2 (New.one np) R2 k2 oks).1 src.ds[i] (List.getElem?_eq_getElem hlt)
    let N : Hp → Prop := fun H' => ∃ (h' : AH) (accD : List D) (acc : List V), RH X.K (p :: Z) h' H' ∧ RS X.K (p :: Z) h' H' σa σ ∧ Kp h1 H1 h' H' ∧ H' p = some (.lst acc) ∧ RDs X.K (p :: Z) h' H' accD acc ∧ accD.length ≤ i + 1 ∧
      lcD (lcStep g tt te vs σa) src.ok (src.ds.drop (i + 1)) accD h' Qe
    refine .inr ⟨go, N, fun H' ⟨h', aD, a, b1, b2, b3, b4, b5, b6, b7⟩ => ⟨src.ds.length - (i + 1), by omega, rfl, hlt, h', aD, a, b1, b2, b3, b4, b5, b6, b7⟩, fun x H' y => ?_⟩
    obtain ⟨rd, R3, k3⟩ := yl x H' y
    have rs3 := rs2.keep R2 k3
    refine ⟨p :: Z, src.ds[i], wipeA σa vs, h2, rd, wipeA_rs rs3 _, R3, mg _ _ _ _ _ (fun σ4 h4 q4 => ?_) (lcStep_eq.mp q3)⟩
    intro σ5 H5 w5 rs5 R5 k5
    refine ⟨w5.trans wipe_wipe, p :: Z, σ4, h4, rs5, R5, mt _ _ _ _ (fun b h6 ⟨k, e6, q6⟩ => ?_) q4⟩
    refine ⟨k, e6, fun H6 R6 k6 => ?_⟩
    have k26 := (k3.trans k5).trans k6
    have g6 : H6 p = some (.lst acc) := (k26 p n2 _ g2).1
    have r6 : RDs X.K (p :: Z) h6 H6 accD acc := RDs.keep R2 k26 racc
    have rs6 : RS X.K (p :: Z) h6 H6 σa σ := rs2.keep R2 k26
    have k16 := k2.trans k26
    cases k with
    | true =>
      refine ⟨p :: Z, σ4, h6, rs5.keep R5 k6, R6, me _ _ _ _ (fun y h7 q7 => ?_) q6⟩
      intro yv H7 ry R7 k7
      have n6 : h6 p = none := (R6.zk p List.mem_cons_self).2
      have g7 : H7 p = some (.lst acc) := (k7 p n6 _ g6).1
      have n7 : h7 p = none := (R7.zk p List.mem_cons_self).2
      have r7 : RDs X.K (p :: Z) h7 H7 accD acc := RDs.keep R6 k7 r6
      refine ⟨acc, g7, by rw [← r7.length]; omega, h7, accD ++ [y], acc ++ [yv], R7.grow g7, ?_, ?_, upd_same, RDs.grow g7 (r7.append (RDs.one ry)), by simp; omega, q7⟩
      · exact ⟨rs6.1, fun j d e => let ⟨v, e1, r⟩ := (rs6.keep R6 k7).2 j d e; ⟨v, e1, RD.grow g7 r⟩⟩
      · intro a na o ea
        have ne : a ≠ p := ne_of_none ea np
        rw [upd_ne ne]
        exact (k16.trans k7) a na o ea
    | false => exact ⟨h6, accD, acc, R6, rs6, k16, g6, r6, by omega, q6⟩
  · have e0 : i = src.ds.length := by omega
    subst e0
    rw [List.drop_length] at q2
    obtain ⟨oks, q3⟩ := q2
    refine .inl ⟨(feed (p :: Z) _ h2 H2 (New.one np) R2 k2 oks).2 (Nat.le_refl _), ?_⟩
    have Ru := R2.unhide
    have pz : p ∉ Z := fun mz => (R1.zk p mz).1 np
    cases m with
    | false => exact (q3 : EndE X.K Z h H Q (.lst accD) h2) (.ref p) H2 ⟨p, acc, rfl, .inl ⟨.inl g2, n2, pz⟩, RDs.bare racc⟩ Ru (k1.trans k2)
    | true =>
      have q4 : EndE X.K Z h H Q (.ref p) (h2.set p accD) := q3 p n2
      refine q4 (.ref p) H2 rfl ?_ ?_
      · have kn : Kp h2 H2 h2 H2 := Kp.refl
        refine ⟨fun a ds e => ?_, fun a mz => ⟨(Ru.zk a mz).1, by rw [AH.set_ne (fun z : a = p => pz (by rw [← z]; exact mz))]; exact (Ru.zk a mz).2⟩⟩
        by_cases z : a = p
        · subst z
          rw [AH.set_same] at e
          cases e
          exact ⟨acc, g2, RDs.thaw racc⟩
        · rw [AH.set_ne z] at e
          obtain ⟨us, e1, r⟩ := R2.at_ a ds e
          exact ⟨us, e1, RDs.thaw r⟩
      · intro a na o ea
        have ne : a ≠ p := by
          intro z
          subst z
          have := (k1 a na o ea).1
          rw [np] at this
          cases this
        have := (k1.trans k2) a na o ea
        exact ⟨this.1, by rw [AH.set_ne ne]; exact this.2⟩
theorem ae_lc {m : Bool} {own : List (Str × Nat)} {scope : Scope} {ti : ATI} {g : ATG} {tt : ATE} {ifs : List Expr} (hc : X.calm = true) (hN : X.N.Nodup) (hi : AI X tg e2 ti) (ok : BlkOk X.N X.env.scope scope own) (mg : MonG g) (mt : MonE tt) (me : MonE te)
    (hg : ∀ (s : Shared) (H : Hp) (C : Addr) (cl : List (Str × Addr)) (fp : List Addr), AV (X.blk s H scope (compEnvC scope cl C X.env) fp) (own.map (·.2)) tg g)
    (ht : ∀ (s : Shared) (H : Hp) (C : Addr) (cl : List (Str × Addr)) (fp : List Addr), PTs (X.blk s H scope (compEnvC scope cl C X.env) fp) ifs (lftT X.K (aTst tt)))
    (he : ∀ (s : Shared) (H : Hp) (C : Addr) (cl : List (Str × Addr)) (fp : List Addr), AE (X.blk s H scope (compEnvC scope cl C X.env) fp) e te) (hs : ∀ x, foldedSetIterable e2 X.env x = pure x) :
    AE X (.ListComp e [⟨tg, e2, ifs, 0⟩] scope pos) (aLc m ti g tt te (own.map (·.2))) := 
  ⟨fun σ h Q Q' w q => hi.mon _ _ _ _ (fun src h1 ⟨z, q1⟩ => ⟨z, lcD_mono mg mt me (fun acc h2 q2 => newL_mono w q2) _ _ _ q1⟩) q,
    pe_weak (pe_lc (te := lftE X.K te) (g := lftV X.K (own.map (·.2)) g) hc hN hi.run ok (fun s H C cl fp => (hg s H C cl fp).run) ht (fun s H C cl fp => (he s H C cl fp).run) hs) (lc_w mg mt me hi.mon)⟩
end
end WF

open PySem L2
set_option Elab.async false
set_option linter.all false
set_option maxRecDepth 100000
set_option maxHeartbeats 1000000
/-! # part 6: defs that are called where no guard is laid; methods, slices, chains, parallel stores -/
namespace WF
open PySem PySem.Spec PyProof.Rows L2
/-- a def keeps its promise wherever no repr is under way -/
structure FnG (P : Program) (w : World) (K : PySem.W.Frag) (mg : Str → Option Value) (base : Heap) (k : Nat) (f : Addr) (fd : FuncData) (ps : List Str) (sp : Sp) : Prop where
  len : ∀ vs H Q E, sp vs H Q E → vs.length = ps.length
  run : ∀ (A : Around) (outer : List Env) (s : Shared) (H : Hp) (args : Args) (us : List Value) (vs : List V) (Q : VK), A.guards = some [] → Room k A → Env0 P w K mg base A outer s H →
    BindsTo s fd args (ps.zip us) → Vals vs us → sp vs H Q E0 → codeAny (model P w) A (.call (.ref f) args) (CR CX0 outer P w H s Q E0) s
theorem FnG.mono {P : Program} {w : World} {K : PySem.W.Frag} {mg : Str → Option Value} {base : Heap} {j k : Nat} {f : Addr} {fd : FuncData} {ps : List Str} {sp : Sp} (F : FnG P w K mg base j f fd ps sp) (h : j ≤ k) : FnG P w K mg base k f fd ps sp :=
  ⟨F.len, fun A outer s H args us vs Q g r => F.run A outer s H args us vs Q g (r.mono h)⟩
section
variable {P : Program} {w : World} {K : PySem.W.Frag} {mg : Str → Option Value} {base : Heap}
/-- by its body -/
theorem fnG_of {N ps : List Str} {k : Nat} {sp : Sp} {x qual : Str} {params : Arguments} {body : List Stmt} {scope : Scope} {f : Addr} {fd : FuncData} (F : FunD K x qual params body scope [] [] f fd) (S : FnScope N ps scope)
    (len : ∀ vs H Q E, sp vs H Q E → vs.length = ps.length)
    (hb : ∀ (cdv : Value) (A : Around) (outer : List Env) (s : Shared) (H : Hp) (vs : List V) (Q : VK), A.guards = some [] → Room k (A.deeper (envOfC qual scope s.heap.objs.size f cdv)) → sp vs H Q E0 →
      ∃ t, PSs (cxOf CX0 P w K mg base N qual scope f cdv A outer s H E0).nox body t ∧ t { nx := fun _ H' => Q .non H', rt := Q } (start N vs) H) : FnG P w K mg base (k + 1) f fd ps sp := by
  obtain ⟨oc, od, dV, kV, doc, pm, an, cdv, ct, osl, rfl, lk, hcd, _, _⟩ := F.ex
  refine ⟨len, fun A outer s H args us vs Q hG hr e0 bnd rv hsp => ?_⟩
  have lv := len _ _ _ _ hsp
  have kin : K.In s.heap := e0.mod.kin.keeps fun b o e => (e0.bs b o e).1
  have nolim : s.heap.NoLimit := e0.mod.nolimit.keeps fun b o e => (e0.bs b o e).1
  have kinds : ∀ y ∈ ps.zip us, scope.names.lookup y.1 = some .local ∨ (scope.names.lookup y.1 = some .cell ∧ ((cellsFrom (s.heap.objs.size + 1) scope.names []).lookup y.1).isSome = true) := by
    rintro ⟨n, v⟩ hy
    rcases S.par n (List.of_mem_zip hy).1 with q | q
    · exact .inl q
    · exact .inr ⟨q, PySem.W.cellsFrom_some _ _ _ (.inl q)⟩
  have rec0 := PySem.W.codeRec_of kin hcd
  refine codeAny_call_function hr.depth (kin _ _ lk) rfl S.co S.gen rfl rec0 (bnd _ _ _ _ ?_)
  refine wpAny_newFunctionEnv_cells S.kind kinds fun env he s1 hx => ?_
  subst he
  refine ⟨nolim.keeps hx.toInCall.keep, codeAny_func ?_⟩
  obtain ⟨t, ht, hq⟩ := hb cdv A outer s H vs Q hG (hr.deeper _) hsp
  have I0 : Inv (cxOf CX0 P w K mg base N qual scope f cdv A outer s H E0) [] (start N vs) H s1 := inv_start S hr.hd e0 lv rv hx
  refine wpAny_mono (ht.nox.run [] s1 (start N vs) H _ I0 hq) (fun fl s' hs => ?_) fun e s' hs => hs
  cases fl with
  | ret u =>
    obtain ⟨v, σ', H', J, rv', q⟩ := hs
    exact ⟨v, H', J.os, J.bare, J.base, J.hok, rv', q⟩
  | next =>
    obtain ⟨σ', H', J, q⟩ := hs
    exact ⟨V.non, H', J.os, J.bare, J.base, J.hok, rfl, q⟩
  | brk =>
    obtain ⟨_, _, _, q⟩ := hs
    exact q.elim
  | cont =>
    obtain ⟨_, _, _, q⟩ := hs
    exact q.elim
end
section
variable {X : Cx} {k : Nat} {f : Addr} {fd : FuncData} {ps : List Str} {sp : Sp} {x : Str} {p pos : Pos} {e : Expr} {es : List Expr} {t : TA}
theorem runG {pins : List (Addr × Obj)} {σ : L2.St} {H : Hp} {s : Shared} {Q : VK} {args : Args} {us : List Value} {vs : List V} (F : FnG X.prog X.w X.K X.mg X.base k f fd ps sp) (hG : X.A.guards = some []) (hr : Room k X.A)
    (I : Inv X pins σ H s) (hb : BindsTo s fd args (ps.zip us)) (r : Vals vs us) (h : sp vs H Q E0) : wpAny (model X.prog X.w) X.A (call (.ref f) args.pos args.kw) (EP X pins σ Q) X.xe s := by
  refine wpAny_call (codeAny_mono (F.run X.A X.stack s H args us vs Q hG hr I.env0 hb r h) fun r s' hq => ?_)
  cases r with
  | error e => exact False.elim hq
  | ok fl =>
    cases fl with
    | ret u => exact I.after hq
    | next => exact False.elim hq
    | brk => exact False.elim hq
    | cont => exact False.elim hq
theorem pe_callG (F : FnG X.prog X.w X.K X.mg X.base k f fd ps sp) (hG : X.A.guards = some []) (hr : Room k X.A) (hg : Gl X x) (hm : X.mg x = some (.ref f)) (hk : PySem.W.keepIn X.K (.ref f) = true) (hb : Binds X.K fd ps [])
    (ha : PA X (e :: es) t) (hdb : (x == ("__debug__" : Str)) = false) (he : starEach (e :: es) X.env = (false, eval e X.env) :: starEach es X.env) (hpl : (backTo pos (starEach es X.env)).any (·.1) = false) :
    PE X (.Call (.Name x p) (e :: es) [] pos) (fun σ H Q => t σ H fun vs H1 => sp vs H1 Q E0) := by
  refine ⟨fun pins s σ H Q I h => wpAny_Call_Name_kw (ld_glob I hg hm ?_ hdb)⟩
  refine PySem.W.callWith_K (h₀ := X.base) I.ok.mod.kin hk (thn (ha.run pos pins s σ H _ I h) fun us s1 ⟨vs, H1, I1, r, q⟩ => ⟨I1.kIn, ?_⟩) he hpl
  have l := F.len _ _ _ _ q
  have l2 := r.length
  have b := hb s1 us I1.kIn (by rw [List.append_nil]; omega)
  rw [List.append_nil] at b
  exact runG (args := ⟨us, []⟩) F hG hr I1 b r q
theorem pe_callG0 (F : FnG X.prog X.w X.K X.mg X.base k f fd ps sp) (hG : X.A.guards = some []) (hr : Room k X.A) (hg : Gl X x) (hm : X.mg x = some (.ref f)) (hk : PySem.W.keepIn X.K (.ref f) = true) (hb : Binds X.K fd ps [])
    (hdb : (x == ("__debug__" : Str)) = false) : PE X (.Call (.Name x p) [] [] pos) (fun σ H Q => sp [] H Q E0) := by
  refine ⟨fun pins s σ H Q I h => wpAny_Call_Name_kw (ld_glob I hg hm (PySem.W.callWith_K0 I.kIn hk ?_) hdb)⟩
  have l := F.len _ _ _ _ h
  have b := hb s [] I.kIn (by simpa using l)
  exact runG (args := ⟨[], []⟩) F hG hr I b .nil h
/-- f(e, .., k = v, ..) -/
theorem pe_callGK {kws : List Keyword} {ks : List Str} {tk : TA} {g : List Value → List Value → List Value} {gV : List V → List V → List V} {n1 n2 : Nat} (F : FnG X.prog X.w X.K X.mg X.base k f fd ps sp) (hG : X.A.guards = some []) (hr : Room k X.A) (hg : Gl X x) (hm : X.mg x = some (.ref f)) (hk : PySem.W.keepIn X.K (.ref f) = true)
    (hto : ∀ (s : Shared) (us ws : List Value), us.length = n1 → ws.length = n2 → X.K.In s.heap → (g us ws).length = ps.length → BindsTo s fd ⟨us, ks.zip ws⟩ (ps.zip (g us ws)))
    (hrel : ∀ {vs : List V} {us : List Value} {zs : List V} {ws : List Value}, Vals vs us → Vals zs ws → Vals (gV vs zs) (g us ws))
    (ha : PA X (e :: es) t) (hkw : PK X kws tk) (hall : (backToKw pos (keywordEach kws X.env)).all (·.1.isSome) = true) (hks : (backToKw pos (keywordEach kws X.env)).filterMap (·.1) = ks)
    (hdb : (x == ("__debug__" : Str)) = false) (he : starEach (e :: es) X.env = (false, eval e X.env) :: starEach es X.env)
    (hpl : ((backTo pos (starEach (e :: es) X.env)).any (·.1) || (backToKw pos (keywordEach kws X.env)).any (·.1.isNone)) = false) :
    PE X (.Call (.Name x p) (e :: es) kws pos) (fun σ H Q => t σ H fun vs H1 => tk σ H1 fun zs H2 => vs.length = n1 ∧ zs.length = n2 ∧ sp (gV vs zs) H2 Q E0) := by
  refine ⟨fun pins s σ H Q I h => wpAny_Call_Name_kw (ld_glob I hg hm ?_ hdb)⟩
  refine PySem.W.callWith_KW (h₀ := X.base) I.ok.mod.kin hk hall (thn (ha.run pos pins s σ H _ I h) fun us s1 ⟨vs, H1, I1, r, q⟩ => ?_) hpl he
  refine thn (hkw.run pos pins s1 σ H1 _ I1 q) fun ws s2 ⟨zs, H2, I2, rz, l1, l2, q2⟩ => ⟨I2.kIn, ?_⟩
  rw [hks]
  have r2 := hrel r rz
  have l := F.len _ _ _ _ q2
  have l3 := r2.length
  exact runG (args := ⟨us, ks.zip ws⟩) F hG hr I2 (hto s2 us ws (by rw [← r.length]; exact l1) (by rw [← rz.length]; exact l2) I2.kIn (by omega)) r2 q2
theorem pe_callGK0 {kws : List Keyword} {ks : List Str} {tk : TA} {g : List Value → List Value → List Value} {gV : List V → List V → List V} {n2 : Nat} (F : FnG X.prog X.w X.K X.mg X.base k f fd ps sp) (hG : X.A.guards = some []) (hr : Room k X.A) (hg : Gl X x) (hm : X.mg x = some (.ref f)) (hk : PySem.W.keepIn X.K (.ref f) = true)
    (hto : ∀ (s : Shared) (us ws : List Value), us.length = 0 → ws.length = n2 → X.K.In s.heap → (g us ws).length = ps.length → BindsTo s fd ⟨us, ks.zip ws⟩ (ps.zip (g us ws)))
    (hrel : ∀ {vs : List V} {us : List Value} {zs : List V} {ws : List Value}, Vals vs us → Vals zs ws → Vals (gV vs zs) (g us ws))
    (hkw : PK X kws tk) (hall : (backToKw pos (keywordEach kws X.env)).all (·.1.isSome) = true) (hks : (backToKw pos (keywordEach kws X.env)).filterMap (·.1) = ks)
    (hdb : (x == ("__debug__" : Str)) = false)
    (hpl : ((backTo pos (starEach [] X.env)).any (·.1) || (backToKw pos (keywordEach kws X.env)).any (·.1.isNone)) = false) :
    PE X (.Call (.Name x p) [] kws pos) (fun σ H Q => tk σ H fun zs H2 => zs.length = n2 ∧ sp (gV [] zs) H2 Q E0) := by
  refine ⟨fun pins s σ H Q I h => wpAny_Call_Name_kw (ld_glob I hg hm ?_ hdb)⟩
  refine PySem.W.callWith_KW0 (h₀ := X.base) I.ok.mod.kin hk hall (thn (hkw.run pos pins s σ H _ I h) fun ws s2 ⟨zs, H2, I2, rz, l2, q2⟩ => ⟨I2.kIn, ?_⟩) hpl
  rw [hks]
  have r2 := hrel (vs := []) (us := []) .nil rz
  have l := F.len _ _ _ _ q2
  have l3 := r2.length
  exact runG (args := ⟨[], ks.zip ws⟩) F hG hr I2 (hto s2 [] ws rfl (by rw [← rz.length]; exact l2) I2.kIn (by omega)) r2 q2
end
/-! ## the calls over data -/
/-- a def's promise n arguments, by data -/
def aFn (n : Nat) (sp : ASp) (t : ATA) : ATE := fun σ h Q => t σ h fun ds h1 => ds.length = n ∧ sp ds h1 Q noX
def MonSp (sp : ASp) : Prop := ∀ ds h Q Q', (∀ d h', Q d h' → Q' d h') → sp ds h Q noX → sp ds h Q' noX
section
variable {X : Cx} {k n : Nat} {f : Addr} {fd : FuncData} {ps : List Str} {sp : ASp} {x : Str} {p pos : Pos} {e : Expr} {es : List Expr} {t : ATA}
theorem ae_fn (ms : MonSp sp) (F : FnG X.prog X.w X.K X.mg X.base k f fd ps (lftSp X.K n sp)) (hG : X.A.guards = some []) (hr : Room k X.A) (hg : Gl X x) (hm : X.mg x = some (.ref f)) (hk : PySem.W.keepIn X.K (.ref f) = true) (hb : Binds X.K fd ps [])
    (ha : AA X (e :: es) t) (hdb : (x == ("__debug__" : Str)) = false) (he : starEach (e :: es) X.env = (false, eval e X.env) :: starEach es X.env) (hpl : (backTo pos (starEach es X.env)).any (·.1) = false) :
    AE X (.Call (.Name x p) (e :: es) [] pos) (aFn n sp t) := by
  refine ⟨fun σ h Q Q' w q => ha.mon _ _ _ _ (fun ds h1 ⟨l, q1⟩ => ⟨l, ms _ _ _ _ w q1⟩) q, pe_weak (pe_callG F hG hr hg hm hk hb ha.run hdb he hpl) ?_⟩
  rintro σ H Q ⟨Z, σa, h, rs, R, q⟩
  refine ⟨Z, σa, h, rs, R, ha.mon _ _ _ _ (fun ds h1 ⟨l, q1⟩ => ?_) q⟩
  intro vs H1 r1 R1 k1
  exact ⟨Z, ds, h1, l, r1, R1, ms _ _ _ _ (fun _ _ e => e.mono k1) q1⟩
theorem ae_fn0 (ms : MonSp sp) (F : FnG X.prog X.w X.K X.mg X.base k f fd ps (lftSp X.K n sp)) (hG : X.A.guards = some []) (hr : Room k X.A) (hg : Gl X x) (hm : X.mg x = some (.ref f)) (hk : PySem.W.keepIn X.K (.ref f) = true) (hb : Binds X.K fd ps [])
    (hdb : (x == ("__debug__" : Str)) = false) : AE X (.Call (.Name x p) [] [] pos) (aFn n sp aNil) := by
  refine ⟨fun σ h Q Q' w ⟨l, q1⟩ => ⟨l, ms _ _ _ _ w q1⟩, pe_weak (pe_callG0 F hG hr hg hm hk hb hdb) ?_⟩
  rintro σ H Q ⟨Z, σa, h, rs, R, l, q⟩
  exact ⟨Z, [], h, l, rfl, R, q⟩
/-! keywords -/
@[simp] def perm {α : Type} (pm : List Nat) (l : List α) : List α := pm.filterMap (l[·]?)
theorem perm_vals {vs : List V} {us : List Value} (r : Vals vs us) : ∀ pm : List Nat, Vals (perm pm vs) (perm pm us)
  | [] => .nil
  | i :: pm => by
    unfold perm
    rw [List.filterMap_cons, List.filterMap_cons]
    cases q : vs[i]? with
    | none =>
      rw [r.none_of q]
      exact perm_vals r pm
    | some v =>
      obtain ⟨u, e1, r1⟩ := r.get q
      rw [e1]
      exact .cons r1 (perm_vals r pm)
theorem perm_rds {K : PySem.W.Frag} {Z : List Addr} {h : AH} {H : Hp} {ds : List D} {vs : List V} (r : RDs K Z h H ds vs) : ∀ pm : List Nat, RDs K Z h H (perm pm ds) (perm pm vs)
  | [] => rfl
  | i :: pm => by
    unfold perm
    rw [List.filterMap_cons, List.filterMap_cons]
    cases q : ds[i]? with
    | none =>
      have : vs[i]? = none := by
        have l := r.length
        rw [List.getElem?_eq_none_iff] at q ⊢
        omega
      rw [this]
      exact perm_rds r pm
    | some v =>
      obtain ⟨u, e1, r1⟩ := r.get q
      rw [e1]
      exact ⟨u, _, rfl, r1, perm_rds r pm⟩
structure AK (X : Cx) (kws : List Keyword) (t : ATA) : Prop where
  mon : MonA t
  run : PK X kws (lftA X.K t)
theorem pk_weak {kws : List Keyword} {t t' : TA} (h : PK X kws t) (w : ∀ σ H Q, t' σ H Q → t σ H Q) : PK X kws t' := ⟨fun pos pins s σ H Q I q => h.run pos pins s σ H Q I (w σ H Q q)⟩
theorem ak_nil : AK X [] aNil := by
  refine ⟨fun σ h Q Q' w q => w _ _ q, pk_weak pk_nil ?_⟩
  rintro σ H Q ⟨Z, σa, h, rs, R, q⟩
  exact q [] H rfl R Kp.refl
theorem ak_cons {te : ATE} {kws : List Keyword} {nm : Option Str} {kpos : Pos} (ha : AE X e te) (hr : AK X kws t) : AK X (⟨nm, e, kpos⟩ :: kws) (aCons te t) := by
  refine ⟨fun σ h Q Q' w q => ha.mon _ _ _ _ (fun d h1 q1 => hr.mon _ _ _ _ (fun ds h2 q2 => w _ _ q2) q1) q, pk_weak (pk_cons ha.run hr.run) ?_⟩
  rintro σ H Q ⟨Z, σa, h, rs, R, q⟩
  refine ⟨Z, σa, h, rs, R, ha.mon _ _ _ _ (fun d h1 q1 => ?_) q⟩
  intro v H1 r1 R1 k1
  refine ⟨Z, σa, h1, rs.keep R k1, R1, hr.mon _ _ _ _ (fun ds h2 q2 => ?_) q1⟩
  intro vs H2 r2 R2 k2
  exact q2 (v :: vs) H2 ⟨v, vs, rfl, RD.keep R1 k2 r1, r2⟩ R2 (k1.trans k2)
def aFnK (n n1 n2 : Nat) (pm : List Nat) (sp : ASp) (t tk : ATA) : ATE := fun σ h Q => t σ h fun ds h1 => tk σ h1 fun es h2 => ds.length = n1 ∧ es.length = n2 ∧ (perm pm (ds ++ es)).length = n ∧ sp (perm pm (ds ++ es)) h2 Q noX
theorem ae_fnK {kws : List Keyword} {ks : List Str} {tk : ATA} {pm : List Nat} {n1 n2 : Nat} (ms : MonSp sp) (F : FnG X.prog X.w X.K X.mg X.base k f fd ps (lftSp X.K n sp)) (hG : X.A.guards = some []) (hr : Room k X.A) (hg : Gl X x) (hm : X.mg x = some (.ref f)) (hk : PySem.W.keepIn X.K (.ref f) = true)
    (hb : ∀ (s : Shared) (us ws : List Value), us.length = n1 → ws.length = n2 → X.K.In s.heap → (perm pm (us ++ ws)).length = ps.length → BindsTo s fd ⟨us, ks.zip ws⟩ (ps.zip (perm pm (us ++ ws))))
    (ha : AA X (e :: es) t) (hkw : AK X kws tk) (hall : (backToKw pos (keywordEach kws X.env)).all (·.1.isSome) = true) (hks : (backToKw pos (keywordEach kws X.env)).filterMap (·.1) = ks)
    (hdb : (x == ("__debug__" : Str)) = false) (he : starEach (e :: es) X.env = (false, eval e X.env) :: starEach es X.env)
    (hpl : ((backTo pos (starEach (e :: es) X.env)).any (·.1) || (backToKw pos (keywordEach kws X.env)).any (·.1.isNone)) = false) :
    AE X (.Call (.Name x p) (e :: es) kws pos) (aFnK n n1 n2 pm sp t tk) := by
  refine ⟨fun σ h Q Q' w q => ha.mon _ _ _ _ (fun ds h1 q1 => hkw.mon _ _ _ _ (fun es h2 ⟨l1, l2, l, q2⟩ => ⟨l1, l2, l, ms _ _ _ _ w q2⟩) q1) q,
    pe_weak (pe_callGK (g := fun us ws => perm pm (us ++ ws)) (gV := fun us ws => perm pm (us ++ ws)) F hG hr hg hm hk hb (fun r rz => perm_vals (r.append rz) pm) ha.run hkw.run hall hks hdb he hpl) ?_⟩
  rintro σ H Q ⟨Z, σa, h, rs, R, q⟩
  refine ⟨Z, σa, h, rs, R, ha.mon _ _ _ _ (fun ds h1 q1 => ?_) q⟩
  intro vs H1 r1 R1 k1
  refine ⟨Z, σa, h1, rs.keep R k1, R1, hkw.mon _ _ _ _ (fun es h2 ⟨l1, l2, l, q2⟩ => ?_) q1⟩
  intro zs H2 r2 R2 k2
  exact ⟨by rw [← r1.length]; exact l1, by rw [← r2.length]; exact l2, Z, _, h2, l, perm_rds ((RDs.keep R1 k2 r1).append r2) pm, R2, ms _ _ _ _ (fun _ _ e => e.mono (k1.trans k2)) q2⟩
theorem ae_fnK0 {kws : List Keyword} {ks : List Str} {tk : ATA} {pm : List Nat} {n2 : Nat} (ms : MonSp sp) (F : FnG X.prog X.w X.K X.mg X.base k f fd ps (lftSp X.K n sp)) (hG : X.A.guards = some []) (hr : Room k X.A) (hg : Gl X x) (hm : X.mg x = some (.ref f)) (hk : PySem.W.keepIn X.K (.ref f) = true)
    (hb : ∀ (s : Shared) (us ws : List Value), us.length = 0 → ws.length = n2 → X.K.In s.heap → (perm pm (us ++ ws)).length = ps.length → BindsTo s fd ⟨us, ks.zip ws⟩ (ps.zip (perm pm (us ++ ws))))
    (hkw : AK X kws tk) (hall : (backToKw pos (keywordEach kws X.env)).all (·.1.isSome) = true) (hks : (backToKw pos (keywordEach kws X.env)).filterMap (·.1) = ks)
    (hdb : (x == ("__debug__" : Str)) = false)
    (hpl : ((backTo pos (starEach [] X.env)).any (·.1) || (backToKw pos (keywordEach kws X.env)).any (·.1.isNone)) = false) :
    AE X (.Call (.Name x p) [] kws pos) (aFnK n 0 n2 pm sp aNil tk) := by
  refine ⟨fun σ h Q Q' w q => hkw.mon _ _ _ _ (fun es h2 ⟨l1, l2, l, q2⟩ => ⟨l1, l2, l, ms _ _ _ _ w q2⟩) q,
    pe_weak (pe_callGK0 (g := fun us ws => perm pm (us ++ ws)) (gV := fun us ws => perm pm (us ++ ws)) F hG hr hg hm hk hb (fun r rz => perm_vals (r.append rz) pm) hkw.run hall hks hdb hpl) ?_⟩
  rintro σ H Q ⟨Z, σa, h, rs, R, q⟩
  refine ⟨Z, σa, h, rs, R, hkw.mon _ _ _ _ (fun es h2 ⟨l1, l2, l, q2⟩ => ?_) q⟩
  intro zs H2 r2 R2 k2
  exact ⟨by rw [← r2.length]; exact l2, Z, _, h2, l, perm_rds r2 pm, R2, ms _ _ _ _ (fun _ _ e => e.mono k2) q2⟩
end
/-! ## methods of lists -/
section
variable {X : Cx} {o e e1 e2 : Expr} {es : List Expr} {to te t1 t2 : ATE} {ta : ATA} {pos apos cpos : Pos}
abbrev AMt := D → List D → AH → AQ → Prop
structure AMe (X : Cx) (id : String) (r : AMt) : Prop where
  mon : ∀ x xs h Q Q', (∀ d h', Q d h' → Q' d h') → r x xs h Q → r x xs h Q'
  run : ∀ Z x xs h H vx vs Q, RD X.K Z h H x vx → RDs X.K Z h H xs vs → RH X.K Z h H → r x xs h (EndE X.K Z h H Q) → ∃ r0, MtR X id r0 ∧ r0 vx vs H Q
theorem mtr_any {id : String} : MtR X id (fun x xs H Q => ∃ r0, MtR X id r0 ∧ r0 x xs H Q) := fun pins s σ H x xs v us Q I rx rs ⟨r0, o, q⟩ => o pins s σ H x xs v us Q I rx rs q
/-- the receiver is a list -/
def okRecv (T : String) (h : AH) : D → Prop
  | .lst _ => T = "list"
  | .ref a => T = "list" ∧ h a ≠ none
  | _ => False
def aMet (T : String) (r : AMt) (to : ATE) (ta : ATA) : ATE := fun σ h Q => to σ h fun x h1 => okRecv T h1 x ∧ ta σ h1 fun xs h2 => r x xs h2 Q
theorem tyV_of {K : PySem.W.Frag} {Z : List Addr} {h : AH} {H : Hp} {x : D} {v : V} {T : String} (R : RH K Z h H) (r : RD K Z h H x v) (ok : okRecv T h x) : tyV K T v H := by
  cases x with
  | lst ds =>
    have e : T = "list" := ok
    subst e
    simp only [RD] at r
    obtain ⟨a, xs, rfl, hs, _⟩ := r
    exact .inl ⟨rfl, xs, hs.sq⟩
  | ref a =>
    obtain ⟨e, n⟩ := ok
    subst e
    cases r
    cases q : h a with
    | none => exact absurd q n
    | some ds =>
      obtain ⟨xs, e1, _⟩ := R.at_ a ds q
      exact .inl ⟨rfl, xs, .inl (.inl e1)⟩
  | _ => exact ok.elim
theorem ae_met {name : Str} {T id : String} {r : AMt} (pa : PlainAttrs T) (slot : Slot T name id) (hty : typeOf (.builtin id) = pure (.type "method_descriptor")) (hm : AMe X id r) (ho : AE X o to) (ha : AA X (e :: es) ta)
    (hbase : attributeBase o name X.env (eval o X.env) = eval o X.env)
    (hfew : ((backTo cpos (starEach (e :: es) X.env)).all (fun x => !x.1) && (backToKw cpos (keywordEach [] X.env)).all (fun x => x.1.isSome)
      && decide ((e :: es).length + ([] : List Keyword).length + (if ([] : List Keyword).isEmpty then 0 else 1) < 30)) = true)
    (hline : (apos.endLine == cpos.line) = true) (hs : starEach (e :: es) X.env = (false, eval e X.env) :: starEach es X.env) (hplain : (backTo cpos (starEach es X.env)).any (·.1) = false) :
    AE X (.Call (.Attribute o name apos) (e :: es) [] cpos) (aMet T r to ta) := by
  refine ⟨fun σ h Q Q' w q => ho.mon _ _ _ _ (fun d h1 ⟨k, q1⟩ => ⟨k, ha.mon _ _ _ _ (fun ds h2 q2 => hm.mon _ _ _ _ _ w q2) q1⟩) q, pe_weak (pe_bm pa slot hty mtr_any ho.run ha.run hbase hfew hline hs hplain) ?_⟩
  rintro σ H Q ⟨Z, σa, h, rs, R, q⟩
  refine ⟨Z, σa, h, rs, R, ho.mon _ _ _ _ (fun d h1 ⟨k, q1⟩ => ?_) q⟩
  intro v H1 r1 R1 k1
  refine ⟨tyV_of R1 r1 k, Z, σa, h1, rs.keep R k1, R1, ha.mon _ _ _ _ (fun ds h2 q2 => ?_) q1⟩
  intro vs H2 r2 R2 k2
  exact hm.run Z d ds h2 H2 v vs Q (RD.keep R1 k2 r1) r2 R2 (hm.mon _ _ _ _ _ (fun _ _ e => e.mono (k1.trans k2)) q2)
theorem ae_met0 {name : Str} {T id : String} {r : AMt} (pa : PlainAttrs T) (slot : Slot T name id) (hty : typeOf (.builtin id) = pure (.type "method_descriptor")) (hm : AMe X id r) (ho : AE X o to)
    (hbase : attributeBase o name X.env (eval o X.env) = eval o X.env) (hline : (apos.endLine == cpos.line) = true) :
    AE X (.Call (.Attribute o name apos) [] [] cpos) (aMet T r to aNil) := by
  refine ⟨fun σ h Q Q' w q => ho.mon _ _ _ _ (fun d h1 ⟨k, q1⟩ => ⟨k, hm.mon _ _ _ _ _ w q1⟩) q, pe_weak (pe_bm0 pa slot hty mtr_any ho.run hbase hline) ?_⟩
  rintro σ H Q ⟨Z, σa, h, rs, R, q⟩
  refine ⟨Z, σa, h, rs, R, ho.mon _ _ _ _ (fun d h1 ⟨k, q1⟩ => ?_) q⟩
  intro v H1 r1 R1 k1
  exact ⟨tyV_of R1 r1 k, hm.run Z d [] h1 H1 v [] Q r1 rfl R1 (hm.mon _ _ _ _ _ (fun _ _ e => e.mono k1) q1)⟩
def mAppend : AMt := fun x xs h Q => ∃ a ds y, x = .ref a ∧ xs = [y] ∧ h a = some ds ∧ ds.length < sizeLine ∧ Q .non (h.set a (ds ++ [y]))
def mPop : AMt := fun x xs h Q => ∃ a ds y, x = .ref a ∧ xs = [] ∧ h a = some ds ∧ ds[ds.length - 1]? = some y ∧ Q y (h.set a ds.dropLast)
def mPopAt : AMt := fun x xs h Q => ∃ a ds i k y, x = .ref a ∧ xs = [.int i] ∧ h a = some ds ∧ (-(2 ^ 63) ≤ i ∧ i < 2 ^ 63) ∧ seqIndex? i ds.length = some k ∧ ds[k]? = some y ∧ Q y (h.set a (ds.eraseIdx k))
theorem RDs.dropLast {K : PySem.W.Frag} {Z : List Addr} {h : AH} {H : Hp} {ds : List D} {xs : List V} (r : RDs K Z h H ds xs) : RDs K Z h H ds.dropLast xs.dropLast := by
  rw [List.dropLast_eq_take, List.dropLast_eq_take, r.length]
  exact r.take _
theorem m_append : AMe X "list.append" mAppend := by
  refine ⟨fun x xs h Q Q' w ⟨a, ds, y, e1, e2, e3, l, q⟩ => ⟨a, ds, y, e1, e2, e3, l, w _ _ q⟩, fun Z x xs h H vx vs Q rx rs R ⟨a, ds, y, e1, e2, e3, l, q⟩ => ?_⟩
  subst e1 e2
  cases rx
  obtain ⟨v, rfl, rv⟩ := rs.one_of
  obtain ⟨us, g, r⟩ := R.at_ a ds e3
  have ne : h a ≠ none := by rw [e3]; exact fun z => (nomatch z)
  exact ⟨_, mt_append, a, us, v, rfl, rfl, g, by rw [← r.length]; exact l, q .non _ rfl (R.put (.inl ne) (r.append (RDs.one rv))) (Kp.put (.inl ne))⟩
theorem m_pop : AMe X "list.pop" mPop := by
  refine ⟨fun x xs h Q Q' w ⟨a, ds, y, e1, e2, e3, l, q⟩ => ⟨a, ds, y, e1, e2, e3, l, w _ _ q⟩, fun Z x xs h H vx vs Q rx rs R ⟨a, ds, y, e1, e2, e3, l, q⟩ => ?_⟩
  subst e1 e2
  cases rx
  cases (show vs = [] from rs)
  obtain ⟨us, g, r⟩ := R.at_ a ds e3
  have ne : h a ≠ none := by rw [e3]; exact fun z => (nomatch z)
  obtain ⟨v, e4, rv⟩ := r.get l
  have kp : Kp h H (h.set a ds.dropLast) (upd H a (.lst us.dropLast)) := Kp.put (.inl ne)
  exact ⟨_, mt_pop, a, us, v, rfl, rfl, g, by rw [← r.length]; exact e4, q v _ (RD.keep R kp rv) (R.put (.inl ne) r.dropLast) kp⟩
theorem m_popAt : AMe X "list.pop" mPopAt := by
  refine ⟨fun x xs h Q Q' w ⟨a, ds, i, k, y, e1, e2, e3, b, s, l, q⟩ => ⟨a, ds, i, k, y, e1, e2, e3, b, s, l, w _ _ q⟩, fun Z x xs h H vx vs Q rx rs R ⟨a, ds, i, k, y, e1, e2, e3, ⟨b1, b2⟩, s, l, q⟩ => ?_⟩
  subst e1 e2
  cases rx
  obtain ⟨v0, rfl, rv0⟩ := rs.one_of
  cases rv0
  obtain ⟨us, g, r⟩ := R.at_ a ds e3
  have ne : h a ≠ none := by rw [e3]; exact fun z => (nomatch z)
  obtain ⟨v, e4, rv⟩ := r.get l
  have kp : Kp h H (h.set a (ds.eraseIdx k)) (upd H a (.lst (us.eraseIdx k))) := Kp.put (.inl ne)
  exact ⟨_, mt_popAt, a, us, i, k, v, rfl, rfl, g, b1, b2, by rw [← r.length]; exact s, e4, q v _ (RD.keep R kp rv) (R.put (.inl ne) (r.eraseIdx k)) kp⟩
/-! ## slices -/
def cutG {α : Type} (xs : List α) (lo hi : Option Int) : List α := (xs.drop (HT.sIx xs.length 0 lo)).take (HT.sIx xs.length xs.length hi - HT.sIx xs.length 0 lo)
theorem RDs.cut {K : PySem.W.Frag} {Z : List Addr} {h : AH} {H : Hp} {ds : List D} {xs : List V} (r : RDs K Z h H ds xs) (lo hi : Option Int) : RDs K Z h H (cutG ds lo hi) (cutV xs lo hi) := by
  unfold cutG cutV
  rw [r.length]
  exact (r.drop _).take _
def sCut (m : Bool) (x : D) (lo hi : Option Int) (h : AH) (Q : AQ) : Prop := match x with
  | .tup ds => Q (.tup (cutG ds lo hi)) h
  | .lst ds => newL m (cutG ds lo hi) h Q
  | .ref a => ∃ ds, h a = some ds ∧ newL m (cutG ds lo hi) h Q
  | _ => False
abbrev ATO := ASt → AH → (Option Int → AH → Prop) → Prop
def oNo : ATO := fun _ h Q => Q none h
def oPt (t : ATE) : ATO := fun σ h Q => t σ h fun d h1 => ∃ i, d = .int i ∧ Q (some i) h1
structure AO (X : Cx) (e : Option Expr) (t : ATO) : Prop where
  mon : ∀ σ h Q Q', (∀ o h', Q o h' → Q' o h') → t σ h Q → t σ h Q'
  run : PO X e (fun σ H Q => ∃ Z σa h, RS X.K Z h H σa σ ∧ RH X.K Z h H ∧ t σa h fun o h' => ∀ H', RH X.K Z h' H' → Kp h H h' H' → Q o H')
theorem ao_no : AO X none oNo := by
  refine ⟨fun σ h Q Q' w q => w _ _ q, ⟨fun pins s σ H Q I hw => po_none.run pins s σ H Q I ?_⟩⟩
  obtain ⟨Z, σa, h, rs, R, q⟩ := hw
  exact (q : ∀ H', RH X.K Z h H' → Kp h H h H' → Q none H') H R Kp.refl
theorem ao_pt (he : AE X e te) : AO X (some e) (oPt te) := by
  refine ⟨fun σ h Q Q' w q => he.mon _ _ _ _ (fun d h1 ⟨i, e, q1⟩ => ⟨i, e, w _ _ q1⟩) q, ⟨fun pins s σ H Q I hw => (po_some he.run).run pins s σ H Q I ?_⟩⟩
  obtain ⟨Z, σa, h, rs, R, q⟩ := hw
  refine ⟨Z, σa, h, rs, R, he.mon _ _ _ _ (fun d h1 ⟨i, e, q1⟩ => ?_) q⟩
  intro v H1 r1 R1 k1
  subst e
  cases r1
  exact ⟨i, rfl, q1 H1 R1 k1⟩
def aCut (m : Bool) (te : ATE) (tl th : ATO) : ATE := fun σ h Q => te σ h fun x h1 => tl σ h1 fun l h2 => th σ h2 fun u h3 => sCut m x l u h3 Q
theorem slr_any : SlR X (fun x lo hi H Q => ∃ r0, SlR X r0 ∧ r0 x lo hi H Q) := fun pins s σ H x v vl vu lo hi sl Q I rx hs pl pu ⟨r0, o, q⟩ => o pins s σ H x v vl vu lo hi sl Q I rx hs pl pu q
theorem scut_mono {m : Bool} {x : D} {lo hi : Option Int} {h : AH} {Q Q' : AQ} (w : ∀ d h', Q d h' → Q' d h') (q : sCut m x lo hi h Q) : sCut m x lo hi h Q' := by
  cases x with
  | tup ds => exact w _ _ q
  | lst ds => exact newL_mono w q
  | ref a =>
    obtain ⟨ds, e, q⟩ := q
    exact ⟨ds, e, newL_mono w q⟩
  | _ => exact q
theorem ae_cut {m : Bool} {lo hi : Option Expr} {tl th : ATO} {p2 : Pos} (he : AE X e te) (hl : AO X lo tl) (hh : AO X hi th) : AE X (.Subscript e (.Slice lo hi none p2) pos) (aCut m te tl th) := by
  refine ⟨fun σ h Q Q' w q => he.mon _ _ _ _ (fun x h1 q1 => hl.mon _ _ _ _ (fun l h2 q2 => hh.mon _ _ _ _ (fun u h3 q3 => scut_mono w q3) q2) q1) q, pe_weak (pe_slice slr_any he.run hl.run hh.run) ?_⟩
  rintro σ H Q ⟨Z, σa, h, rs, R, q⟩
  refine ⟨Z, σa, h, rs, R, he.mon _ _ _ _ (fun x h1 q1 => ?_) q⟩
  intro v H1 r1 R1 k1
  refine ⟨Z, σa, h1, rs.keep R k1, R1, hl.mon _ _ _ _ (fun l h2 q2 => ?_) q1⟩
  intro H2 R2 k2
  have k12 := k1.trans k2
  refine ⟨Z, σa, h2, rs.keep R k12, R2, hh.mon _ _ _ _ (fun u h3 q3 => ?_) q2⟩
  intro H3 R3 k3
  have k13 := k12.trans k3
  have r3 := RD.keep R1 (k2.trans k3) r1
  cases x with
  | tup ds =>
    simp only [RD] at r3
    obtain ⟨a, xs, rfl, hs, r⟩ := r3
    refine ⟨_, sl_tupA, a, xs, rfl, hs, fun e => ?_, fun _ p n => EndE.tup (EndE.mono k13 q3) (r.cut l u) R3 n⟩
    have e2 : cutG ds l u = ds := by
      unfold cutG
      rw [r.length, e.1, e.2, List.drop_zero, Nat.sub_zero, ← r.length, List.take_length]
    have q4 : EndE X.K Z h H Q (.tup (cutG ds l u)) h3 := q3
    rw [e2] at q4
    exact q4 _ _ ⟨a, xs, rfl, hs, r⟩ R3 k13
  | lst ds =>
    simp only [RD] at r3
    obtain ⟨a, xs, rfl, hs, r⟩ := r3
    exact ⟨_, sl_list, a, xs, rfl, hs.sq, fun p n => EndE.new (newL_mono (fun _ _ e => e.mono k13) q3) (r.cut l u) R3 n⟩
  | ref b =>
    obtain ⟨ds, e, q3⟩ := q3
    obtain ⟨a, xs, rfl, hs, r⟩ := seqL_ok R3 r3 (show seqL h3 (.ref b) = some ds from e)
    exact ⟨_, sl_list, a, xs, rfl, hs, fun p n => EndE.new (newL_mono (fun _ _ e => e.mono k13) q3) (r.cut l u) R3 n⟩
  | _ => exact q3.elim
def aRev (m : Bool) (te : ATE) : ATE := fun σ h Q => te σ h fun x h1 => ∃ ds, seqL h1 x = some ds ∧ newL m ds.reverse h1 Q
theorem ae_rev {m : Bool} {k : Nat} {p1 p2 p3 : Pos} (he : AE X e te) : AE X (.Subscript e (.Slice none none (some (.UnaryOp .USub (.Constant (.int 1) k p1) p2)) p3) pos) (aRev m te) := by
  refine ⟨fun σ h Q Q' w q => he.mon _ _ _ _ (fun x h1 ⟨ds, e, q1⟩ => ⟨ds, e, newL_mono w q1⟩) q, pe_weak (pe_revL he.run) ?_⟩
  rintro σ H Q ⟨Z, σa, h, rs, R, q⟩
  refine ⟨Z, σa, h, rs, R, he.mon _ _ _ _ (fun x h1 ⟨ds, e, q1⟩ => ?_) q⟩
  intro v H1 r1 R1 k1
  obtain ⟨a, xs, rfl, hs, r⟩ := seqL_ok R1 r1 e
  exact ⟨a, xs, rfl, hs, fun p n => EndE.new (newL_mono (fun _ _ e => e.mono k1) q1) r.reverse R1 n⟩
/-! ## a <= b <= c -/
def aChn (r r' : AR2) (ta tb tc : ATE) : ATE := fun σ h Q => ta σ h fun x h1 => tb σ h1 fun y h2 => r x y h2 fun z h3 => ∃ k, z = .bl k ∧ if k = true then tc σ h3 fun w h4 => r' y w h4 Q else Q (.bl false) h3
variable {a b c : Expr} {ta' tb tc : ATE}
theorem achn_mon {r r' : AR2} (mr : MonR2 r) (mr' : MonR2 r') (ha : MonE ta') (hb : MonE tb) (hc : MonE tc) : MonE (aChn r r' ta' tb tc) := fun σ h Q Q' w q =>
  ha _ _ _ _ (fun x h1 q1 => hb _ _ _ _ (fun y h2 q2 => mr _ _ _ _ _ (fun z h3 ⟨k, e, q3⟩ => ⟨k, e, by
    cases k with
    | true => exact hc _ _ _ _ (fun u h4 q4 => mr' _ _ _ _ _ w q4) q3
    | false => exact w _ _ q3⟩) q2) q1) q
theorem achn_w {op op' : CmpOp} {r r' : AR2} (ho : AOp X (compareOp op) r) (ho' : AOp X (compareOp op') r') (ma : MonE ta') (mb : MonE tb) (mc : MonE tc) : ∀ σ H Q, lftE X.K (aChn r r' ta' tb tc) σ H Q →
    tChain (fun x y H Q => ∃ r0, OpR X (compareOp op) r0 ∧ r0 x y H Q) (fun x y H Q => ∃ r0, OpR X (compareOp op') r0 ∧ r0 x y H Q) (lftE X.K ta') (lftE X.K tb) (lftE X.K tc) σ H Q := by
  rintro σ H Q ⟨Z, σa, h, rs, R, q⟩
  refine ⟨Z, σa, h, rs, R, ma _ _ _ _ (fun x h1 q1 => ?_) q⟩
  intro v H1 r1 R1 k1
  refine ⟨Z, σa, h1, rs.keep R k1, R1, mb _ _ _ _ (fun y h2 q2 => ?_) q1⟩
  intro u H2 r2 R2 k2
  refine ho.run Z x y h2 H2 v u _ (RD.keep R1 k2 r1) r2 R2 (ho.mon _ _ _ _ _ (fun z h3 ⟨k, e, q3⟩ => ?_) q2)
  subst e
  intro z H3 rz R3 k3
  cases rz
  have k13 := (k1.trans k2).trans k3
  refine ⟨k, rfl, ?_⟩
  cases k with
  | true =>
    refine ⟨Z, σa, h3, rs.keep R k13, R3, mc _ _ _ _ (fun w h4 q4 => ?_) q3⟩
    intro wv H4 r4 R4 k4
    exact ho'.run Z y w h4 H4 u wv Q (RD.keep R2 (k3.trans k4) r2) r4 R4 (ho'.mon _ _ _ _ _ (fun _ _ e => e.mono (k13.trans k4)) q4)
  | false => exact (q3 : EndE X.K Z h H Q (.bl false) h3) (.bl false) H3 rfl R3 k13
theorem ae_chn {op op' : CmpOp} {r r' : AR2} (ho : AOp X (compareOp op) r) (ho' : AOp X (compareOp op') r') (ha : AE X a ta') (hb : AE X b tb) (hc : AE X c tc) (hm : lastMarks [op, op'] [b, c] = false) : AE X (.Compare a [op, op'] [b, c] pos) (aChn r r' ta' tb tc) :=
  ⟨achn_mon ho.mon ho'.mon ha.mon hb.mon hc.mon, pe_weak (pe_chain opr_any opr_any ha.run hb.run hc.run hm) (achn_w ho ho' ha.mon hb.mon hc.mon)⟩
theorem at_chn {op op' : CmpOp} {r r' : AR2} (ho : AOp X (compareOp op) r) (ho' : AOp X (compareOp op') r') (ha : AE X a ta') (hb : AE X b tb) (hc : AE X c tc) (hm : lastMarks [op, op'] [b, c] = false) : AT X (.Compare a [op, op'] [b, c] pos) (aTst (aChn r r' ta' tb tc)) := by
  refine ⟨atst_mon (achn_mon ho.mon ho'.mon ha.mon hb.mon hc.mon), pt_weak (pt_chain opr_any opr_any ha.run hb.run hc.run hm) ?_⟩
  rintro σ H Q ⟨Z, σa, h, rs, R, q⟩
  refine achn_w ho ho' ha.mon hb.mon hc.mon σ H _ ⟨Z, σa, h, rs, R, achn_mon ho.mon ho'.mon ha.mon hb.mon hc.mon _ _ _ _ (fun d h1 ⟨k, e1, q1⟩ => ?_) q⟩
  intro v H1 r1 R1 k1
  subst e1
  exact ⟨k, r1, q1 H1 R1 k1⟩
/-! ## a, b = x, y -/
def sPar2 (i j : Nat) (ta : ATA) : ATS := fun E σ h => ta σ h fun ds h1 => ∃ v w, ds = [v, w] ∧ E.nx ((σ.set i (some v)).set j (some w)) h1
def sPar3 (i j l : Nat) (ta : ATA) : ATS := fun E σ h => ta σ h fun ds h1 => ∃ u v w, ds = [u, v, w] ∧ E.nx (((σ.set i (some u)).set j (some v)).set l (some w)) h1
theorem as_par2 {i j : Nat} {x y : Str} {tA : ATA} {px py pt : Pos} {kt k2 pt2} (hc : X.calm = true) (hN : X.N.Nodup) (hi : X.N[i]? = some x) (hj : X.N[j]? = some y) (hij : i ≠ j)
    (hx : X.env.scope.names.lookup x = some .local) (hy : X.env.scope.names.lookup y = some .local) (ha : AA X [a, b] tA)
    (hw : swappedStores [.Tuple [.Name x px, .Name y py] kt pt] (.Tuple [a, b] k2 pt2) X.env = pure (some [x, y]))
    (hs : swapsWithSole [.Tuple [.Name x px, .Name y py] kt pt] (.Tuple [a, b] k2 pt2) pos.line X.env = pure false) :
    AS X (.Assign [.Tuple [.Name x px, .Name y py] kt pt] (.Tuple [a, b] k2 pt2) pos) (sPar2 i j tA) := by
  refine ⟨fun D D' σ h l q => ha.mon _ _ _ _ (fun ds h1 ⟨v, w, e, q1⟩ => ⟨v, w, e, l.nx _ _ q1⟩) q, ps_weak (ps_par hc hN hi hj hij hx hy ha.run hw hs) ?_⟩
  rintro D σ H ⟨Z, σa, h, rs, R, q⟩
  refine ⟨Z, σa, h, rs, R, ha.mon _ _ _ _ (fun ds h1 ⟨v, w, e, q1⟩ => ?_) q⟩
  intro vs H1 r1 R1 k1
  subst e
  obtain ⟨v', w', rfl, rv, rw'⟩ := r1.two_of
  exact ⟨v', w', rfl, (q1 : EndS X.K Z h H D.nx _ h1) _ H1 (((rs.keep R k1).put rv).put rw') R1 k1⟩
theorem as_par3 {i j l : Nat} {x y z : Str} {tA : ATA} {px py pz pt : Pos} {kt k2 pt2} (hc : X.calm = true) (hN : X.N.Nodup) (hi : X.N[i]? = some x) (hj : X.N[j]? = some y) (hl : X.N[l]? = some z) (hij : i ≠ j) (hil : i ≠ l) (hjl : j ≠ l)
    (hx : X.env.scope.names.lookup x = some .local) (hy : X.env.scope.names.lookup y = some .local) (hz : X.env.scope.names.lookup z = some .local) (ha : AA X [a, b, c] tA)
    (hw : swappedStores [.Tuple [.Name x px, .Name y py, .Name z pz] kt pt] (.Tuple [a, b, c] k2 pt2) X.env = pure (some [x, y, z]))
    (hs : swapsWithSole [.Tuple [.Name x px, .Name y py, .Name z pz] kt pt] (.Tuple [a, b, c] k2 pt2) pos.line X.env = pure false) :
    AS X (.Assign [.Tuple [.Name x px, .Name y py, .Name z pz] kt pt] (.Tuple [a, b, c] k2 pt2) pos) (sPar3 i j l tA) := by
  refine ⟨fun D D' σ h l q => ha.mon _ _ _ _ (fun ds h1 ⟨u, v, w, e, q1⟩ => ⟨u, v, w, e, l.nx _ _ q1⟩) q, ps_weak (ps_par3 hc hN hi hj hl hij hil hjl hx hy hz ha.run hw hs) ?_⟩
  rintro D σ H ⟨Z, σa, h, rs, R, q⟩
  refine ⟨Z, σa, h, rs, R, ha.mon _ _ _ _ (fun ds h1 ⟨u, v, w, e, q1⟩ => ?_) q⟩
  intro vs H1 r1 R1 k1
  subst e
  simp only [RDs] at r1
  obtain ⟨u', ys, rfl, ru, v', zs, rfl, rv, w', ws, rfl, rw', rfl⟩ := r1
  exact ⟨u', v', w', rfl, (q1 : EndS X.K Z h H D.nx _ h1) _ H1 ((((rs.keep R k1).put ru).put rv).put rw') R1 k1⟩
/-! ## name = a comprehension, on one line -/
theorem as_setLc {m : Bool} {i : Nat} {y : Str} {py spos : Pos} {tg : Expr} {own : List (Str × Nat)} {scope : Scope} {ti : ATI} {g : ATG} {tt : ATE} {ifs : List Expr} (hc : X.calm = true) (hN : X.N.Nodup) (hy : X.N[i]? = some y) (hyl : X.env.scope.names.lookup y = some .local)
    (hsw : swapsWith (.ListComp e [⟨tg, e2, ifs, 0⟩] scope pos) (some (.Name y py)) spos.line X.env = pure true) (hi : AI X tg e2 ti) (ok : BlkOk X.N X.env.scope scope own) (mg : MonG g) (mt : MonE tt) (me : MonE te)
    (hg : ∀ (s : Shared) (H : Hp) (C : Addr) (cl : List (Str × Addr)) (fp : List Addr), AV (X.blk s H scope (compEnvC scope cl C X.env) fp) (own.map (·.2)) tg g)
    (ht : ∀ (s : Shared) (H : Hp) (C : Addr) (cl : List (Str × Addr)) (fp : List Addr), PTs (X.blk s H scope (compEnvC scope cl C X.env) fp) ifs (lftT X.K (aTst tt)))
    (he : ∀ (s : Shared) (H : Hp) (C : Addr) (cl : List (Str × Addr)) (fp : List Addr), AE (X.blk s H scope (compEnvC scope cl C X.env) fp) e te) (hs : ∀ x, foldedSetIterable e2 X.env x = pure x) :
    AS X (.Assign [.Name y py] (.ListComp e [⟨tg, e2, ifs, 0⟩] scope pos) spos) (sAsg (aLc m ti g tt te (own.map (·.2))) (gN i)) := by
  have A : AE X (.ListComp e [⟨tg, e2, ifs, 0⟩] scope pos) (aLc m ti g tt te (own.map (·.2))) := ae_lc hc hN hi ok mg mt me hg ht he hs
  refine ⟨sasg_mon A.mon fun d σ h Q Q' w q => w _ _ q, ps_weak (ps_setLc (te := lftE X.K te) (g := lftV X.K (own.map (·.2)) g) hc hN hy hyl hsw hi.run ok (fun s H C cl fp => (hg s H C cl fp).run) ht (fun s H C cl fp => (he s H C cl fp).run) hs) ?_⟩
  rintro D σ H ⟨Z, σa, h, rs, R, q⟩
  refine lc_w mg mt me hi.mon σ H _ ⟨Z, σa, h, rs, R, A.mon _ _ _ _ (fun d h1 q1 => ?_) q⟩
  intro v H1 r1 R1 k1
  exact (q1 : EndS X.K Z h H D.nx (σa.set i (some d)) h1) _ H1 ((rs.keep R k1).put r1) R1 k1
end
end WF

open PySem L2
set_option Elab.async false
set_option linter.all false
set_option maxRecDepth 100000
set_option maxHeartbeats 1000000
/-! # part 7: repr -/
namespace WF
open PySem PySem.Spec PyProof.Rows L2
mutual
/-- not fewer signs than repr writes -/
def rsz : PyData → Nat
  | .none => 4
  | .bool _ => 5
  | .int _ => 1921
  | .str x => (reprText x).length
  | .list xs => rszAll xs + 4
  | .tuple xs => rszAll xs + 4
  | .dict _ => 2 ^ 30
def rszAll : List PyData → Nat
  | [] => 0
  | x :: xs => rsz x + 2 + rszAll xs
end
theorem piled_shown : ∀ xs : List PyData, (∀ x ∈ xs, x.showable = true → x.hasDict = false → x.shown.length ≤ rsz x) → PyData.showableAll xs = true → PyData.hasDictAll xs = false → piled (PyData.shownAll xs) ≤ rszAll xs
  | [], _, _, _ => by simp [PyData.shownAll, piled, rszAll]
  | x :: xs, h, q, n => by
    simp only [PyData.showableAll, Bool.and_eq_true] at q
    simp only [PyData.hasDictAll, Bool.or_eq_false_iff] at n
    have h1 := h x List.mem_cons_self q.1 n.1
    have h2 := piled_shown xs (fun y hy => h y (List.mem_cons_of_mem _ hy)) q.2 n.2
    simp only [PyData.shownAll, piled_cons, rszAll]
    omega
theorem listText_le (ts : List Str) : (listText ts).length ≤ piled ts + 2 := by
  cases ts with
  | nil => decide +kernel
  | cons t r =>
    have h := textFrom_length_pos r 1 (("[" : Str) ++ (if (0 : Nat) > 0 then ", " else "" : String) ++ t) (Nat.succ_pos 0)
    have e : (listText (t :: r)).length = (textFrom 1 (("[" : Str) ++ (if (0 : Nat) > 0 then ", " else "" : String) ++ t) r).length + 1 := by
      show (textFrom 0 "[" (t :: r) ++ ("]" : Str)).length = _
      rw [strLen_append]
      rfl
    rw [e, h, strLen_append, strLen_append]
    have e1 : (("[" : String) : Str).length = 1 := by decide +kernel
    have e2 : ((if (0 : Nat) > 0 then ", " else "" : String) : Str).length = 0 := by decide +kernel
    rw [e1, e2]
    rw [piled_cons]
    omega
theorem tupleText_le (ts : List Str) : (tupleText ts).length ≤ piled ts + 4 := by
  unfold tupleText
  rw [strLen_append, strLen_append]
  have e1 : (("(" : String) : Str).length = 1 := by decide +kernel
  have e2 : ((if (ts.length == 1) = true then ",)" else ")" : String) : Str).length ≤ 2 := by
    cases ts.length == 1 <;> decide +kernel
  have e3 : (Str.join ", " ts).length ≤ piled ts := by
    cases ts with
    | nil => decide +kernel
    | cons t r =>
      have := join_length_add (t :: r) (by simp)
      omega
  omega
theorem shown_le : ∀ d : PyData, d.showable = true → d.hasDict = false → d.shown.length ≤ rsz d := by
  intro d
  induction h : sizeOf d using Nat.strongRecOn generalizing d with
  | _ n ih =>
    intro hs hn
    cases d with
    | none => decide +kernel
    | bool b => cases b <;> decide +kernel
    | int i =>
      have z := PySem.int_text_length_le (a := i) (k := 1920) (by decide) (of_decide_eq_true hs)
      simp only [PyData.shown, rsz]
      rw [PySem.ofString_length]
      omega
    | str x => exact Nat.le_refl _
    | list xs =>
      simp only [PyData.shown, rsz]
      have := listText_le (PyData.shownAll xs)
      have h2 := piled_shown xs (fun x hx => ih (sizeOf x) (by subst h; have := List.sizeOf_lt_of_mem hx; simp; omega) x rfl) hs hn
      omega
    | tuple xs =>
      simp only [PyData.shown, rsz]
      have := tupleText_le (PyData.shownAll xs)
      have h2 := piled_shown xs (fun x hx => ih (sizeOf x) (by subst h; have := List.sizeOf_lt_of_mem hx; simp; omega) x rfl) hs hn
      omega
    | dict kvs => cases hn
mutual
theorem pd0_nodict : ∀ {d : D} {p : PyData}, pd0 d = some p → p.hasDict = false
  | .non, _, e => by cases e; rfl
  | .bl _, _, e => by cases e; rfl
  | .int _, _, e => by cases e; rfl
  | .str _, _, e => by cases e; rfl
  | .tup ds, _, e => by
    simp only [pd0, Option.map_eq_some_iff] at e
    obtain ⟨ps, e1, rfl⟩ := e
    exact pds_nodict e1
  | .lst ds, _, e => by
    simp only [pd0, Option.map_eq_some_iff] at e
    obtain ⟨ps, e1, rfl⟩ := e
    exact pds_nodict e1
  | .ref _, _, e => by cases e
  | .ty _, _, e => by cases e
theorem pds_nodict : ∀ {ds : List D} {ps : List PyData}, pds ds = some ps → PyData.hasDictAll ps = false
  | [], _, e => by cases e; rfl
  | d :: ds, _, e => by
    simp only [pds, Option.bind_eq_some_iff, Option.map_eq_some_iff] at e
    obtain ⟨p, e1, ps, e2, rfl⟩ := e
    simp only [PyData.hasDictAll, pd0_nodict e1, pds_nodict e2, Bool.or_false]
end
theorem pd_nodict {h : AH} {d : D} {p : PyData} (e : pd h d = some p) : p.hasDict = false := by
  cases d with
  | ref a =>
    simp only [pd, Option.bind_eq_some_iff, Option.map_eq_some_iff] at e
    obtain ⟨ds, _, ps, e2, rfl⟩ := e
    exact pds_nodict e2
  | _ => exact pd0_nodict e
/-- what repr takes -/
def ROk (p : PyData) : Prop := p.showable = true ∧ p.depth ≤ 64 ∧ rsz p ≤ 16777216
def nRepr : ARn := fun xs h Q => match xs with
  | [x] => ∃ p, pd h x = some p ∧ ROk p ∧ Q (.str p.shown) h
  | _ => False
section
variable {X : Cx}
theorem cr_repr (hG : X.A.guards = some []) (hu : X.A.units + 70 < cLine) : CallR X (.builtin "repr") (fun xs H Q => ∃ x p, xs = [x] ∧ Dp X.K H x p ∧ p.hasDict = false ∧ ROk p ∧ Q (.str p.shown) H) := by
  intro pins s σ H xs us Q I r h
  obtain ⟨x, p, rfl, d, nd, ⟨h1, h2, h3⟩, q⟩ := h
  obtain ⟨u, rfl, rx⟩ := vals1 r
  have hs : p.shown.length ≤ sizeLine := by
    have := shown_le p h1 nd
    rw [sizeLine_eq]
    omega
  have fin : ∀ (h' : Heap) (t : Tok) (tk : Nat), (∀ b o, s.heap.get? b = some o → h'.get? b = some o) → EP X pins σ Q (.str p.shown t) { s with heap := h', toks := tk } := fun h' t tk k => ⟨.str p.shown, H, I.kept k, ⟨t, rfl⟩, q⟩
  obtain ⟨as, rd⟩ := d.reads I p x u rx
  cases x with
  | ref a =>
    cases rx
    exact repr_of_reads' rd h1 (PySem.PyData.noDict_hsm nd) hG (by omega) (fun b o e => e) (fun h' u tk k => fin h' u tk k) hs
  | non =>
    cases d
    cases rx
    exact PySem.P.repr_of_none (fin s.heap _ _ fun b o e => e)
  | bl b =>
    cases d
    cases rx
    exact PySem.P.repr_of_bool (by cases b <;> exact fin s.heap _ _ fun b o e => e)
  | int i =>
    cases d
    obtain ⟨t, rfl⟩ := rx
    exact PySem.P.repr_of_int (of_decide_eq_true h1) (fin s.heap _ _ fun b o e => e)
  | str y =>
    cases d
    obtain ⟨t, rfl⟩ := rx
    exact PySem.P.repr_of_str (fin s.heap _ _ fun b o e => e) hs
  | _ => cases d
theorem b_repr (hG : X.A.guards = some []) (hu : X.A.units + 70 < cLine) : ACall X (.builtin "repr") nRepr := by
  refine ⟨fun x h Q Q' w q => ?_, fun Z xs h H vs Q rx R q => ?_⟩
  · unfold nRepr at q ⊢
    split <;> simp only at q
    obtain ⟨p, e, r, q⟩ := q
    exact ⟨p, e, r, w _ _ q⟩
  · unfold nRepr at q
    split at q
    · obtain ⟨p, e, ok, q⟩ := q
      obtain ⟨v, rfl, r1⟩ := rx.one_of
      exact ⟨_, cr_repr hG hu, v, p, rfl, pd_ok R r1 e, pd_nodict e, ok, EndE.fin q rfl R⟩
    · exact q.elim
end
end WF

open PySem L2
set_option Elab.async false
set_option linter.all false
set_option maxRecDepth 100000
set_option maxHeartbeats 1000000
/-! # part 8: the core syntax, what it means, and the check that it is the text -/
namespace WF
open PySem PySem.Spec PyProof.Rows L2
/-! ## syntax -/
inductive BI where
  | len | tuple | list (m : Bool) | abs | int | divmod | all | any | sum | min | max | isi | repr
/-- a module's constant -/
inductive GV where
  | c (c : Const) | t1 (l : List Const) | t2 (l : List (List Const))
  deriving DecidableEq
inductive MT where
  | append | pop | popAt
mutual
inductive CE where
  | cst (c : Const)
  | var (i : Nat)
  | glo (x : Str) (g : GV)
  | ty (n : String)
  | bin (op : Operator) (m : Bool) (a b : CE)
  | neg (a : CE)
  | nt (a : CE)
  | cmp (op : CmpOp) (a b : CE)
  | chn (o1 o2 : CmpOp) (a b c : CE)
  | con (op : BoolOp) (es : CA)
  | ife (c a b : CE)
  | tup (es : CA)
  | lst (m : Bool) (es : CA)
  | idx (a i : CE)
  | cut (m : Bool) (a : CE) (lo hi : CO)
  | rev (m : Bool) (a : CE)
  | fn (k : Nat) (es : CA)
  | fnK (k : Nat) (es : CA) (ks : List Str) (ws : CA) (pm : List Nat)
  | bi (b : BI) (es : CA)
  | gcd (es : CA)
  | met (t : MT) (i : Nat) (es : CA)
  | lc (m : Bool) (p : CP) (it : CI) (tt : CA) (e : CE) (own : List (Str × Nat))
inductive CA where
  | nil | cons (e : CE) (r : CA)
inductive CO where
  | no | pt (e : CE)
inductive CP where
  | nm (i : Nat) | tp (ps : CPs) | sb (o i : CE)
inductive CPs where
  | nil | cons (p : CP) (r : CPs)
inductive CI where
  | seq (e : CE) | rng (es : CA)
end
mutual
inductive CS where
  | asg (p : CP) (e : CE)
  | par2 (i j : Nat) (es : CA)
  | par3 (i j l : Nat) (es : CA)
  | ret (e : CE) | retN
  | expr (e : CE)
  | ife (c : CE) (a b : CSs)
  | for_ (p : CP) (it : CI) (b : CSs)
  | whl (c : CE) (b : CSs)
  | brk | cnt | pas | nev
  | aug (i : Nat) (e : CE)
inductive CSs where
  | nil | cons (s : CS) (r : CSs) | frz (i : Nat) (r : CSs)
end
/-! ## meaning -/
@[simp] def cD : Const → D
  | .none => .non
  | .bool b => .bl b
  | .int i => .int i
  | .str s => .str s
  | _ => .non
@[simp] def gD : GV → D
  | .c c => cD c
  | .t1 l => .tup (l.map cD)
  | .t2 l => .tup (l.map fun m => .tup (m.map cD))
def opS (m : Bool) : Operator → AR2
  | .Add => sAdd m
  | .Sub => sSub
  | .Mult => sMul
  | .FloorDiv => sDiv
  | .Mod => sMod
  | .Pow => sPow
  | _ => fun _ _ _ _ => False
def cmpS : CmpOp → AR2
  | .Eq => sEq false
  | .NotEq => sEq true
  | .Lt => sRel fun i j => decide (i < j)
  | .LtE => sRel fun i j => decide (i ≤ j)
  | .Gt => sRel fun i j => decide (j < i)
  | .GtE => sRel fun i j => decide (j ≤ i)
  | .Is => sIs false
  | .IsNot => sIs true
  | _ => fun _ _ _ _ => False
def biS : BI → ARn
  | .len => nLen
  | .tuple => nTuple
  | .list m => nList m
  | .abs => nAbs
  | .int => nInt
  | .divmod => nDivmod
  | .all => nAll
  | .any => nAny
  | .sum => nSum
  | .min => nMin
  | .max => nMax
  | .isi => nIsi
  | .repr => nRepr
def mtS : MT → AMt
  | .append => mAppend
  | .pop => mPop
  | .popAt => mPopAt
/-- a promise, closed upwards -/
def up (sp : ASp) : ASp := fun ds h Q _ => ∃ Q0 : AQ, (∀ d h', Q0 d h' → Q d h') ∧ sp ds h Q0 noX
theorem up_of {sp : ASp} {ds : List D} {h : AH} {Q : AQ} (q : sp ds h Q noX) : up sp ds h Q noX := ⟨Q, fun _ _ z => z, q⟩
theorem up_mono (sp : ASp) : MonSp (up sp) := fun ds h Q Q' w ⟨Q0, w0, q⟩ => ⟨Q0, fun d h' z => w _ _ (w0 d h' z), q⟩
/-- the promises of the defs, by number: how many arguments, what -/
abbrev Gam := Nat → Nat × ASp
def lenA : CA → Nat
  | .nil => 0
  | .cons _ r => lenA r + 1
@[simp] def lenPs : CPs → Nat
  | .nil => 0
  | .cons _ r => lenPs r + 1
def aTrue : ATE := aC (.bl true)
section
variable (Γ : Gam)
mutual
def aE : CE → ATE
  | .cst c => aC (cD c)
  | .var i => aVar i
  | .glo _ g => aC (gD g)
  | .ty n => aC (.ty n)
  | .bin op m a b => aOp (opS m op) (aE a) (aE b)
  | .neg a => aUn sNeg (aE a)
  | .nt a => aNot (aE a)
  | .cmp op a b => aOp (cmpS op) (aE a) (aE b)
  | .chn o1 o2 a b c => aChn (cmpS o1) (cmpS o2) (aE a) (aE b) (aE c)
  | .con op es => aCon op es
  | .ife c a b => aIf (aE c) (aE a) (aE b)
  | .tup es => aTup (aA es)
  | .lst m es => aLst m (aA es)
  | .idx a i => aOp sIx (aE a) (aE i)
  | .cut m a lo hi => aCut m (aE a) (aO lo) (aO hi)
  | .rev m a => aRev m (aE a)
  | .fn k es => aFn (Γ k).1 (up (Γ k).2) (aA es)
  | .fnK k es _ ws pm => aFnK (Γ k).1 (lenA es) (lenA ws) pm (up (Γ k).2) (aA es) (aA ws)
  | .bi b es => aCall (biS b) (aA es)
  | .gcd es => aCall nGcd (aA es)
  | .met t i es => aMet "list" (mtS t) (aVar i) (aA es)
  | .lc m p it tt e own => aLc m (aI it) (aP p) (match tt with | .nil => aTrue | .cons c _ => aE c) (aE e) (own.map (·.2))
def aCon (op : BoolOp) : CA → ATE
  | .nil => fun _ _ _ => False
  | .cons e .nil => aE e
  | .cons e r => match op with
    | .And => aAnd (aE e) (aCon op r)
    | .Or => aOr (aE e) (aCon op r)
def aA : CA → ATA
  | .nil => aNil
  | .cons e r => aCons (aE e) (aA r)
def aO : CO → ATO
  | .no => oNo
  | .pt e => oPt (aE e)
def aP : CP → ATG
  | .nm i => gN i
  | .tp ps => gT (aPs ps) (lenPs ps)
  | .sb o i => gS (aE o) (aE i)
def aPs : CPs → ATGs
  | .nil => gsNil
  | .cons p r => gsCons (aP p) (aPs r)
def aI : CI → ATI
  | .seq e => aSeq (aE e)
  | .rng es => match es with
    | .cons e .nil => aRng1 (aCons (aE e) aNil)
    | .cons a (.cons b .nil) => aRng2 (aCons (aE a) (aCons (aE b) aNil))
    | _ => fun _ _ _ => False
end
mutual
def aS : CS → ATS
  | .asg p e => sAsg (aE Γ e) (aP Γ p)
  | .par2 i j es => sPar2 i j (aA Γ es)
  | .par3 i j l es => sPar3 i j l (aA Γ es)
  | .ret e => sRet (aE Γ e)
  | .retN => sRetN
  | .expr e => sDrop (aE Γ e)
  | .ife c a b => sIf (aE Γ c) (aSs a) (aSs b)
  | .for_ p it b => sFor (aI Γ it) (aP Γ p) (aSs b)
  | .whl c b => sWhile (aE Γ c) (aSs b)
  | .brk => sBrk
  | .cnt => sCnt
  | .pas => sNext
  | .nev => sNever
  | .aug i e => sAug i (aE Γ e)
def aSs : CSs → ATS
  | .nil => sNext
  | .cons s r => sSeq (aS s) (aSs r)
  | .frz i r => sFrz i (aSs r)
end
end
end WF

open PySem L2
set_option Elab.async false
set_option linter.all false
set_option maxRecDepth 100000
set_option maxHeartbeats 1000000
/-! # part 9: the check -/
namespace WF
open PySem PySem.Spec PyProof.Rows L2
/-! ## taking syntax apart -/
def plainE : Expr → Bool
  | .Constant .. => true
  | .Name .. => true
  | .BinOp .. => true
  | .UnaryOp .. => true
  | .Compare .. => true
  | .BoolOp .. => true
  | .IfExp .. => true
  | .Tuple .. => true
  | .List .. => true
  | .Subscript .. => true
  | .Call .. => true
  | .ListComp .. => true
  | _ => false
def dConst : Expr → Option Const
  | .Constant c _ _ => some c
  | _ => none
def dName : Expr → Option Str
  | .Name x _ => some x
  | _ => none
def dBin : Expr → Option (Expr × Operator × Expr)
  | .BinOp a op b _ => some (a, op, b)
  | _ => none
def dUn : Expr → Option (UnaryOp × Expr)
  | .UnaryOp op a _ => some (op, a)
  | _ => none
def dCmp : Expr → Option (Expr × List CmpOp × List Expr)
  | .Compare a ops bs _ => some (a, ops, bs)
  | _ => none
def dBool : Expr → Option (BoolOp × List Expr)
  | .BoolOp op es _ => some (op, es)
  | _ => none
def dIf : Expr → Option (Expr × Expr × Expr)
  | .IfExp c a b _ => some (c, a, b)
  | _ => none
def dTup : Expr → Option (List Expr)
  | .Tuple es _ _ => some es
  | _ => none
def dList : Expr → Option (List Expr)
  | .List es _ => some es
  | _ => none
def dSub : Expr → Option (Expr × Expr)
  | .Subscript a i _ => some (a, i)
  | _ => none
def dSlice : Expr → Option (Option Expr × Option Expr × Option Expr)
  | .Slice a b c _ => some (a, b, c)
  | _ => none
def dCall : Expr → Option (Expr × List Expr × List Keyword × Pos)
  | .Call f es ks p => some (f, es, ks, p)
  | _ => none
def dAttr : Expr → Option (Expr × Str × Pos)
  | .Attribute o a p => some (o, a, p)
  | _ => none
def dLc : Expr → Option (Expr × List Comprehension × Scope × Pos)
  | .ListComp e gs sc p => some (e, gs, sc, p)
  | _ => none
theorem dConst_ok {e : Expr} {c : Const} (h : dConst e = some c) : ∃ k p, e = .Constant c k p := by cases e <;> simp_all [dConst]
theorem dName_ok {e : Expr} {x : Str} (h : dName e = some x) : ∃ p, e = .Name x p := by cases e <;> simp_all [dName]
theorem dBin_ok {e : Expr} {r} (h : dBin e = some r) : ∃ p, e = .BinOp r.1 r.2.1 r.2.2 p := by cases e <;> simp_all [dBin]; subst h; simp
theorem dUn_ok {e : Expr} {r} (h : dUn e = some r) : ∃ p, e = .UnaryOp r.1 r.2 p := by cases e <;> simp_all [dUn]; subst h; simp
theorem dCmp_ok {e : Expr} {r} (h : dCmp e = some r) : ∃ p, e = .Compare r.1 r.2.1 r.2.2 p := by cases e <;> simp_all [dCmp]; subst h; simp
theorem dBool_ok {e : Expr} {r} (h : dBool e = some r) : ∃ p, e = .BoolOp r.1 r.2 p := by cases e <;> simp_all [dBool]; subst h; simp
theorem dIf_ok {e : Expr} {r} (h : dIf e = some r) : ∃ p, e = .IfExp r.1 r.2.1 r.2.2 p := by cases e <;> simp_all [dIf]; subst h; simp
theorem dTup_ok {e : Expr} {r} (h : dTup e = some r) : ∃ k p, e = .Tuple r k p := by cases e <;> simp_all [dTup]
theorem dList_ok {e : Expr} {r} (h : dList e = some r) : ∃ p, e = .List r p := by cases e <;> simp_all [dList]
theorem dSub_ok {e : Expr} {r} (h : dSub e = some r) : ∃ p, e = .Subscript r.1 r.2 p := by cases e <;> simp_all [dSub]; subst h; simp
theorem dSlice_ok {e : Expr} {r} (h : dSlice e = some r) : ∃ p, e = .Slice r.1 r.2.1 r.2.2 p := by cases e <;> simp_all [dSlice]; subst h; simp
theorem dCall_ok {e : Expr} {r} (h : dCall e = some r) : e = .Call r.1 r.2.1 r.2.2.1 r.2.2.2 := by cases e <;> simp_all [dCall]; subst h; simp
theorem dAttr_ok {e : Expr} {r} (h : dAttr e = some r) : e = .Attribute r.1 r.2.1 r.2.2 := by cases e <;> simp_all [dAttr]; subst h; simp
theorem dLc_ok {e : Expr} {r} (h : dLc e = some r) : e = .ListComp r.1 r.2.1 r.2.2.1 r.2.2.2 := by cases e <;> simp_all [dLc]; subst h; simp
/-! ## the static surroundings -/
structure CC where
  N : List Str
  sc : Scope
  st : Str → Bool
  i : Nat
  nm : List Str
  kw : List (Nat × Nat × List Str × List Nat)
  gl : List (Str × GV)
  gcd : Bool
def CC.kind (cc : CC) (x : Str) : Option NameKind := cc.sc.names.lookup x
def okName (x : Str) : Bool := !(x == ("__debug__" : Str)) && !(x == ("__classdict__" : Str)) && !decide (x = ("__name__" : Str))
/-- a name of the def, read -/
def CC.rd (cc : CC) (i : Nat) (x : Str) : Bool := okName x && decide (cc.N[i]? = some x) && match cc.kind x with
  | some .local => true
  | some .cell => true
  | some .free => true
  | _ => false
/-- .. stored -/
def CC.wr (cc : CC) (i : Nat) (x : Str) : Bool := decide (cc.N[i]? = some x) && match cc.kind x with
  | some .local => true
  | some .cell => cc.st x
  | _ => false
def CC.loc (cc : CC) (x : Str) : Bool := match cc.kind x with
  | some .local => true
  | _ => false
def CC.glob (cc : CC) (x : Str) : Bool := okName x && match cc.kind x with
  | some .globalImplicit => true
  | _ => false
/-! ## built-ins by name -/
def BI.nm : BI → Str
  | .len => "len"
  | .tuple => "tuple"
  | .list _ => "list"
  | .abs => "abs"
  | .int => "int"
  | .divmod => "divmod"
  | .all => "all"
  | .any => "any"
  | .sum => "sum"
  | .min => "min"
  | .max => "max"
  | .isi => "isinstance"
  | .repr => "repr"
def builtinNames : List Str := ["len", "tuple", "list", "abs", "int", "divmod", "all", "any", "sum", "min", "max", "isinstance", "repr", "range", "bool", "str", "dict"]
def tyNames : List String := ["int", "bool", "tuple", "list", "str", "dict"]
def MT.nm : MT → Str
  | .append => "append"
  | .pop => "pop"
  | .popAt => "pop"
def opOk : Operator → Bool
  | .Add => true
  | .Sub => true
  | .Mult => true
  | .FloorDiv => true
  | .Mod => true
  | .Pow => true
  | _ => false
def cmpOk : CmpOp → Bool
  | .In => false
  | .NotIn => false
  | _ => true
def constOk : Const → Bool
  | .none => true
  | .bool _ => true
  | .int _ => true
  | .str _ => true
  | _ => false
/-- a local name of the line ln -/
def locAt (sc : Scope) (ln : Nat) : Expr → Option Str
  | .Name x p => if sc.names.lookup x == some .local && p.line == ln then some x else none
  | _ => none
def isStar : Expr → Bool
  | .Starred .. => true
  | _ => false
def swLine (ts : List Expr) : Nat := (ts.head?.map fun t => t.pos.line).getD 0
/-- how the targets ts take the values vs: some none: one after another; some names: by the swap; none: not told -/
def swN (sc : Scope) (ts vs : List Expr) : Option (Option (List Str)) :=
  let xs := ts.filterMap (locAt sc (swLine ts))
  match (ts.length == 2 || ts.length == 3) && vs.length == ts.length && !vs.any isStar && xs.length == ts.length && xs.eraseDups.length == xs.length && !vs.all (foldedForSure 8), vs.all (constantsAlone 8) with
  | false, _ => some none
  | true, false => some (some xs)
  | true, true => none
theorem swN_ok {env : Env} {ts vs : List Expr} {k k2 : Nat} {p p2 : Pos} {r : Option (List Str)} (hk : env.scope.kind = .function) (h : swN env.scope ts vs = some r) : swappedStores [.Tuple ts k p] (.Tuple vs k2 p2) env = pure r := by
  have hb : (env.blockKind != .function) = false := by unfold Env.blockKind; rw [hk]; rfl
  have e1 : ∀ f : Expr → Bool, (∀ e, f e = isStar e) → vs.any f = vs.any isStar := fun f hf => by rw [funext hf]
  have e2 : ∀ f : Expr → Option Str, (∀ e, f e = locAt env.scope (swLine ts) e) → ts.filterMap f = ts.filterMap (locAt env.scope (swLine ts)) := fun f hf => by rw [funext hf]
  unfold swN at h
  unfold swappedStores
  simp only [hb, Bool.or_false]
  rw [e1 _ fun e => by cases e <;> rfl, e2 _ fun e => by cases e <;> rfl]
  generalize ts.filterMap (locAt env.scope (swLine ts)) = xs at *
  cases c1 : (ts.length == 2 || ts.length == 3) <;> cases c2 : vs.length == ts.length <;> cases c3 : vs.any isStar <;> cases c4 : xs.length == ts.length <;> cases c5 : xs.eraseDups.length == xs.length <;> cases c6 : vs.all (foldedForSure 8) <;>
    cases c7 : vs.all (constantsAlone 8) <;> simp_all [bne]
/-! ## the check itself -/
def isNilL {α : Type} : List α → Bool
  | [] => true
  | _ => false
mutual
def chE (cc : CC) : CE → Expr → Bool
  | .cst c, e => constOk c && decide (dConst e = some c)
  | .var i, e => match dName e with
    | some x => cc.rd i x
    | none => false
  | .glo x g, e => match dName e with
    | some y => decide (x = y) && cc.glob y && decide (cc.gl.lookup y = some g)
    | none => false
  | .ty n, e => match dName e with
    | some y => decide (y = (n : Str)) && cc.glob y && decide (n ∈ tyNames)
    | none => false
  | .bin op _ a b, e => match dBin e with
    | some (x, op', y) => opOk op && decide (op = op') && chE cc a x && chE cc b y
    | none => false
  | .neg a, e => match dUn e with
    | some (.USub, x) => chE cc a x
    | _ => false
  | .nt a, e => match dUn e with
    | some (.Not, x) => chE cc a x
    | _ => false
  | .cmp op a b, e => match dCmp e with
    | some (x, [op'], [y]) => cmpOk op && decide (op = op') && chE cc a x && chE cc b y
    | _ => false
  | .chn o1 o2 a b c, e => match dCmp e with
    | some (x, [p1, p2], [y, z]) => cmpOk o1 && cmpOk o2 && decide (o1 = p1) && decide (o2 = p2) && chE cc a x && chE cc b y && chE cc c z
    | _ => false
  | .con op es, e => match dBool e with
    | some (op', xs) => decide (op = op') && chC cc es xs
    | _ => false
  | .ife c a b, e => match dIf e with
    | some (x, y, z) => chE cc c x && chE cc a y && chE cc b z
    | _ => false
  | .tup es, e => match dTup e with
    | some xs => chA cc es xs
    | _ => false
  | .lst _ es, e => match dList e with
    | some xs => chA cc es xs
    | _ => false
  | .idx a i, e => match dSub e with
    | some (x, y) => plainE y && chE cc a x && chE cc i y
    | _ => false
  | .cut _ a lo hi, e => match dSub e with
    | some (x, y) => (match dSlice y with
      | some (l, u, none) => chE cc a x && chO cc lo l && chO cc hi u
      | _ => false)
    | _ => false
  | .rev _ a, e => match dSub e with
    | some (x, y) => (match dSlice y with
      | some (none, none, some z) => (match dUn z with
        | some (.USub, w) => decide (dConst w = some (.int 1)) && chE cc a x
        | _ => false)
      | _ => false)
    | _ => false
  | .fn k es, e => match dCall e with
    | some (f, xs, [], _) => (match dName f with
      | some y => decide (k < cc.i) && decide (cc.nm[k]? = some y) && cc.glob y && chA cc es xs
      | none => false)
    | _ => false
  | .fnK k es ks ws pm, e => match dCall e with
    | some (f, xs, kws, _) => (match dName f with
      | some y => decide (k < cc.i) && decide (cc.nm[k]? = some y) && cc.glob y && decide ((k, xs.length, ks, pm) ∈ cc.kw) && chA cc es xs && chK cc ws kws ks && !isNilL kws
      | none => false)
    | _ => false
  | .bi b es, e => match dCall e with
    | some (f, x :: xs, [], _) => (match dName f with
      | some y => decide (y = b.nm) && cc.glob y && chA cc es (x :: xs)
      | none => false)
    | _ => false
  | .gcd es, e => match dCall e with
    | some (f, x :: xs, [], _) => (match dName f with
      | some y => decide (y = ("gcd" : Str)) && cc.gcd && cc.glob y && chA cc es (x :: xs)
      | none => false)
    | _ => false
  | .met t i es, e => match dCall e with
    | some (f, xs, [], cp) => (match dAttr f with
      | some (o, a, ap) => decide (a = t.nm) && (ap.endLine == cp.line) && decide (xs.length < 20) && (match t with | .append => decide (xs.length = 1) | .pop => decide (xs.length = 0) | .popAt => decide (xs.length = 1)) && (match dName o with
        | some x => cc.rd i x && chA cc es xs
        | none => false)
      | none => false)
    | _ => false
  | .lc _ p it tt el own, e => match dLc e with
    | some (x, [⟨tg, iter, ifs, 0⟩], scope, _) =>
      let cb : CC := { cc with sc := relS scope cc.sc, st := fun y => scope.names.lookup y == some .cell }
      plainE iter && blkC cc.N cc.sc scope own && chP cb (own.map (·.2)) p tg && chI cc it iter && chE cb el x && (match tt with
        | .nil => isNilL ifs
        | .cons c _ => (match ifs with
          | [y] => chE cb c y
          | _ => false))
    | _ => false
def chC (cc : CC) : CA → List Expr → Bool
  | .nil, _ => false
  | .cons e .nil, xs => match xs with
    | [x] => chE cc e x
    | _ => false
  | .cons e (.cons e2 r), xs => match xs with
    | x :: y :: ys => chE cc e x && chC cc (.cons e2 r) (y :: ys)
    | _ => false
def chA (cc : CC) : CA → List Expr → Bool
  | .nil, xs => isNilL xs
  | .cons e r, xs => match xs with
    | x :: ys => plainE x && chE cc e x && chA cc r ys
    | [] => false
def chK (cc : CC) : CA → List Keyword → List Str → Bool
  | .nil, xs, ks => isNilL xs && isNilL ks
  | .cons e r, xs, ks => match xs, ks with
    | ⟨nm, x, _⟩ :: ys, k :: kt => decide (nm = some k) && chE cc e x && chK cc r ys kt
    | _, _ => false
def chO (cc : CC) : CO → Option Expr → Bool
  | .no, o => match o with
    | none => true
    | some _ => false
  | .pt e, o => match o with
    | some x => chE cc e x
    | none => false
/-- a target; vs: the slots that it may store (of a comprehension), or any -/
def chP (cc : CC) (vs : List Nat) : CP → Expr → Bool
  | .nm i, e => match dName e with
    | some x => cc.wr i x && decide (i ∈ vs)
    | none => false
  | .tp ps, e => match dTup e with
    | some es => chPs cc vs ps es
    | none => false
  | .sb o i, e => false
def chPs (cc : CC) (vs : List Nat) : CPs → List Expr → Bool
  | .nil, es => isNilL es
  | .cons p r, es => match es with
    | x :: ys => (match x with | .Starred .. => false | _ => true) && chP cc vs p x && chPs cc vs r ys
    | [] => false
def chI (cc : CC) : CI → Expr → Bool
  | .seq e, x => chE cc e x
  | .rng es, x => match dCall x with
    | some (f, xs, [], _) => (match dName f with
      | some y => decide (y = ("range" : Str)) && cc.glob y && (match es with
        | .cons a .nil => (match xs with | [x1] => plainE x1 && chE cc a x1 | _ => false)
        | .cons a (.cons b .nil) => (match xs with | [x1, x2] => plainE x1 && plainE x2 && chE cc a x1 && chE cc b x2 | _ => false)
        | _ => false)
      | none => false)
    | _ => false
end
end WF

open PySem L2
set_option Elab.async false
set_option linter.all false
set_option maxRecDepth 100000
set_option maxHeartbeats 2000000
/-! # part 10: what is checked means what it says: expressions -/
namespace WF
open PySem PySem.Spec PyProof.Rows L2
/-- a def of the program, by what the top has left and what it promises -/
structure Callee (P : Program) (w : World) (K : PySem.W.Frag) (mg : Str → Option Value) (base : Heap) (x : Str) (lv n : Nat) (sp : ASp) (kw : List (Nat × List Str × List Nat)) : Prop where
  ok : ∃ (f : Addr) (fd : FuncData) (ps : List Str), mg x = some (.ref f) ∧ PySem.W.keepIn K (.ref f) = true ∧ Binds K fd ps [] ∧ FnG P w K mg base lv f fd ps (lftSp K n (up sp)) ∧
    ∀ q ∈ kw, ∀ (s : Shared) (us ws : List Value), us.length = q.1 → ws.length = q.2.1.length → K.In s.heap → (perm q.2.2 (us ++ ws)).length = ps.length → BindsTo s fd ⟨us, q.2.1.zip ws⟩ (ps.zip (perm q.2.2 (us ++ ws)))
/-- the surroundings: what the module's names stand for -/
structure Facts (Γ : Gam) (P : Program) (w : World) (K : PySem.W.Frag) (mg : Str → Option Value) (base : Heap) (nm : List Str) (kw : List (Nat × Nat × List Str × List Nat)) (gl : List (Str × GV)) (gcd : Bool) (i : Nat) : Prop where
  free : ∀ x ∈ builtinNames, mg x = none
  gcd : gcd = true → mg "gcd" = some (.builtin "math.gcd")
  gl : ∀ x g, gl.lookup x = some g → ∃ u v, mg x = some u ∧ RelV v u ∧ ∀ Z h H, RD K Z h H (gD g) v
  fn : ∀ k x, k < i → nm[k]? = some x → Callee P w K mg base x (k + 1) (Γ k).1 (Γ k).2 ((kw.filter fun q => q.1 == k).map (·.2))
structure Cg (P : Program) (w : World) (K : PySem.W.Frag) (mg : Str → Option Value) (base : Heap) (cc : CC) (X : Cx) : Prop where
  P : X.prog = P
  w : X.w = w
  K : X.K = K
  mg : X.mg = mg
  base : X.base = base
  N : X.N = cc.N
  nd : X.N.Nodup
  sc : X.env.scope = cc.sc
  kd : X.env.scope.kind = .function
  fn : ∀ x, cc.st x = true → X.fn x = true
  calm : X.calm = true
  xe : X.xe = fun _ _ => False
  room : Room cc.i X.A
  g : X.A.guards = some []
theorem okName_ok {x : Str} (h : okName x = true) : (x == ("__debug__" : Str)) = false ∧ (x == ("__classdict__" : Str)) = false ∧ x ≠ "__name__" := by
  simp only [okName, Bool.and_eq_true, Bool.not_eq_true', decide_eq_false_iff_not] at h
  exact ⟨h.1.1, h.1.2, h.2⟩
theorem plain_star {e : Expr} (h : plainE e = true) (es : List Expr) (env : Env) : starEach (e :: es) env = (false, eval e env) :: starEach es env := by
  cases e <;> first | rfl | (exact absurd h Bool.false_ne_true)
theorem plain_ix {e : Expr} (h : plainE e = true) : PlainIx e := by
  intro o i
  cases e <;> first | rfl | (exact absurd h Bool.false_ne_true)
theorem plain_fold {e : Expr} (h : plainE e = true) (env : Env) (x : Value) : foldedSetIterable e env x = pure x := by
  cases e <;> first | rfl | (exact absurd h Bool.false_ne_true)
section
variable {Γ : Gam} {P : Program} {w : World} {K : PySem.W.Frag} {mg : Str → Option Value} {base : Heap} {cc : CC} {X : Cx}
theorem CC.rd_ok {i : Nat} {x : Str} (G : Cg P w K mg base cc X) (h : cc.rd i x = true) : X.N[i]? = some x ∧ Vis X.env.scope x ∧ (x == ("__debug__" : Str)) = false ∧ (x == ("__classdict__" : Str)) = false := by
  unfold CC.rd at h
  rw [Bool.and_eq_true, Bool.and_eq_true, decide_eq_true_eq] at h
  obtain ⟨⟨h1, h2⟩, h3⟩ := h
  obtain ⟨a, b, _⟩ := okName_ok h1
  refine ⟨by rw [G.N]; exact h2, ?_, a, b⟩
  unfold Vis
  rw [G.sc]
  unfold CC.kind at h3
  split at h3
  · rename_i e; exact .inl e
  · rename_i e; exact .inr (.inl e)
  · rename_i e; exact .inr (.inr e)
  · cases h3
theorem CC.wr_ok {i : Nat} {x : Str} (G : Cg P w K mg base cc X) (h : cc.wr i x = true) : X.N[i]? = some x ∧ L2.Loc X.env.scope x ∧ (X.fn x = true ∨ X.env.scope.names.lookup x = some .local) := by
  unfold CC.wr at h
  rw [Bool.and_eq_true, decide_eq_true_eq] at h
  obtain ⟨h2, h3⟩ := h
  refine ⟨by rw [G.N]; exact h2, ?_⟩
  unfold L2.Loc
  rw [G.sc]
  unfold CC.kind at h3
  split at h3
  · rename_i e; exact ⟨.inl e, .inr e⟩
  · rename_i e; exact ⟨.inr e, .inl (G.fn x h3)⟩
  · cases h3
theorem CC.glob_ok {x : Str} (G : Cg P w K mg base cc X) (h : cc.glob x = true) : Gl X x ∧ (x == ("__debug__" : Str)) = false ∧ x ≠ "__name__" := by
  unfold CC.glob at h
  rw [Bool.and_eq_true] at h
  obtain ⟨h1, h3⟩ := h
  obtain ⟨a, _, c⟩ := okName_ok h1
  refine ⟨?_, a, c⟩
  unfold Gl Env.kindOf
  rw [G.sc]
  unfold CC.kind at h3
  split at h3
  · rename_i e; exact e
  · cases h3
theorem isNil_ok {α : Type} {l : List α} (h : isNilL l = true) : l = [] := by cases l <;> simp_all [isNilL]
theorem chA_plain : ∀ {ca : CA} {es : List Expr}, chA cc ca es = true → ∀ e ∈ es, plainE e = true
  | .nil, es, h, e, m => by
    simp only [chA] at h
    rw [isNil_ok h] at m
    cases m
  | .cons c r, [], h, e, m => by cases m
  | .cons c r, x :: ys, h, e, m => by
    simp only [chA, Bool.and_eq_true] at h
    rcases List.mem_cons.mp m with z | z
    · subst z; exact h.1.1
    · exact chA_plain h.2 e z
theorem star_any : ∀ {es : List Expr} (pos : Pos) (env : Env), (∀ e ∈ es, plainE e = true) → (backTo pos (starEach es env)).any (·.1) = false
  | [], _, _, _ => rfl
  | e :: es, pos, env, h => by
    rw [plain_star (h e List.mem_cons_self)]
    unfold backTo
    rw [List.map_cons, List.any_cons]
    exact star_any pos env fun x m => h x (List.mem_cons_of_mem _ m)
theorem star_all : ∀ {es : List Expr} (pos : Pos) (env : Env), (∀ e ∈ es, plainE e = true) → (backTo pos (starEach es env)).all (fun x => !x.1) = true
  | [], _, _, _ => rfl
  | e :: es, pos, env, h => by
    rw [plain_star (h e List.mem_cons_self)]
    unfold backTo
    rw [List.map_cons, List.all_cons]
    exact star_all pos env fun x m => h x (List.mem_cons_of_mem _ m)
theorem o_op {op : Operator} {m : Bool} (h : opOk op = true) : AOp X (binaryOp op) (opS m op) := by
  cases op <;> first | exact o_add | exact o_sub | exact o_mul | exact o_div | exact o_mod | exact o_pow | (exact absurd h Bool.false_ne_true)
theorem o_cmp {op : CmpOp} (hu : X.A.units + 64 < cLine) (h : cmpOk op = true) : AOp X (compareOp op) (cmpS op) := by
  cases op <;> first | exact o_eq hu | exact o_ne hu | exact o_rel op_lt | exact o_rel op_le | exact o_rel op_gt | exact o_rel op_ge | exact o_is | exact o_isnot | (exact absurd h Bool.false_ne_true)
theorem cmp_mark {op : CmpOp} (h : cmpOk op = true) (b : Expr) : behindInMarks op b = false := by
  refine nobehind b (fun e => ?_) (fun e => ?_) <;> subst e <;> exact absurd h Bool.false_ne_true
theorem rd_c {Z : List Addr} {h : AH} {H : Hp} {c : Const} (ok : constOk c = true) : ∃ v, RD K Z h H (cD c) v ∧ (∀ k pos, PE X (.Constant c k pos) (tC v)) ∧ ∀ Z h H, RD K Z h H (cD c) v := by
  cases c with
  | none => exact ⟨.non, rfl, fun _ _ => pe_non, fun _ _ _ => rfl⟩
  | bool b => exact ⟨.bl b, rfl, fun _ _ => pe_bl, fun _ _ _ => rfl⟩
  | int i => exact ⟨.int i, rfl, fun _ _ => pe_int, fun _ _ _ => rfl⟩
  | str s => exact ⟨.str s, rfl, fun _ _ => pe_str, fun _ _ _ => rfl⟩
  | _ => exact absurd ok Bool.false_ne_true
theorem ae_bi {b : BI} {x : Expr} {xs : List Expr} {p pos : Pos} {t : ATA} (G : Cg P w K mg base cc X) (F : ∀ x ∈ builtinNames, mg x = none) (hg : cc.glob b.nm = true) (ha : AA X (x :: xs) t) (hp : ∀ e ∈ x :: xs, plainE e = true) :
    AE X (.Call (.Name b.nm p) (x :: xs) [] pos) (aCall (biS b) t) := by
  obtain ⟨g1, g2, g3⟩ := CC.glob_ok G hg
  have st := plain_star (hp x List.mem_cons_self) xs X.env
  have an := star_any pos X.env fun e m => hp e (List.mem_cons_of_mem _ m)
  have u64 := G.room.units
  cases b with
  | len => exact ae_callB b_len g1 (by rw [G.mg]; exact F _ (by decide +kernel)) (by decide +kernel) ha g3 g2 st an
  | tuple => exact ae_callTy b_tuple g1 (by rw [G.mg]; exact F _ (by decide +kernel)) (by decide +kernel) ha g3 g2 st an
  | list m => exact ae_callTy b_list g1 (by rw [G.mg]; exact F _ (by show ("list" : Str) ∈ _; decide +kernel)) (by show bootBuiltins ("list" : Str) = _; decide +kernel) ha g3 g2 st an
  | abs => exact ae_callB b_abs g1 (by rw [G.mg]; exact F _ (by decide +kernel)) (by decide +kernel) ha g3 g2 st an
  | int => exact ae_callTy b_int g1 (by rw [G.mg]; exact F _ (by decide +kernel)) (by decide +kernel) ha g3 g2 st an
  | divmod => exact ae_callB b_divmod g1 (by rw [G.mg]; exact F _ (by decide +kernel)) (by decide +kernel) ha g3 g2 st an
  | all => exact ae_callB (b_all G.calm) g1 (by rw [G.mg]; exact F _ (by decide +kernel)) (by decide +kernel) ha g3 g2 st an
  | any => exact ae_callB (b_any G.calm) g1 (by rw [G.mg]; exact F _ (by decide +kernel)) (by decide +kernel) ha g3 g2 st an
  | sum => exact ae_callB (b_sum G.calm) g1 (by rw [G.mg]; exact F _ (by decide +kernel)) (by decide +kernel) ha g3 g2 st an
  | min => exact ae_callB (b_min G.calm) g1 (by rw [G.mg]; exact F _ (by decide +kernel)) (by decide +kernel) ha g3 g2 st an
  | max => exact ae_callB (b_max G.calm) g1 (by rw [G.mg]; exact F _ (by decide +kernel)) (by decide +kernel) ha g3 g2 st an
  | isi => exact ae_callB b_isi g1 (by rw [G.mg]; exact F _ (by decide +kernel)) (by decide +kernel) ha g3 g2 st an
  | repr => exact ae_callB (b_repr G.g (by have := G.room.un; omega)) g1 (by rw [G.mg]; exact F _ (by decide +kernel)) (by decide +kernel) ha g3 g2 st an
theorem ae_mt {t : MT} {i : Nat} {x : Str} {xs : List Expr} {p ap cp : Pos} {ta : ATA} (G : Cg P w K mg base cc X) (hr : cc.rd i x = true) (hl : (ap.endLine == cp.line) = true) (h20 : xs.length < 20)
    (hn : (match t with | .append => decide (xs.length = 1) | .pop => decide (xs.length = 0) | .popAt => decide (xs.length = 1)) = true) (ha : AA X xs ta) (hta : xs = [] → ta = aNil) (hp : ∀ e ∈ xs, plainE e = true) :
    AE X (.Call (.Attribute (.Name x p) t.nm ap) xs [] cp) (aMet "list" (mtS t) (aVar i) ta) := by
  obtain ⟨h1, h2, h3, h4⟩ := CC.rd_ok G hr
  have hv : AE X (.Name x p) (aVar i) := ae_var h1 h2 h3 h4
  have few : ∀ {e : Expr} {es : List Expr}, xs = e :: es → ((backTo cp (starEach (e :: es) X.env)).all (fun x => !x.1) && (backToKw cp (keywordEach [] X.env)).all (fun x => x.1.isSome)
      && decide ((e :: es).length + ([] : List Keyword).length + (if ([] : List Keyword).isEmpty then 0 else 1) < 30)) = true := fun {e es} q => by
    rw [star_all cp X.env (by rw [← q]; exact hp)]
    have : (e :: es).length < 20 := by rw [← q]; exact h20
    simp only [Bool.true_and, Bool.and_eq_true, decide_eq_true_eq]
    exact ⟨rfl, by simp at this ⊢; omega⟩
  cases t with
  | append =>
    cases xs with
    | nil => cases hn
    | cons e es => exact ae_met PySem.F.plainAttrs_list PySem.F.slot_list_append PySem.F.type_list_append m_append hv ha rfl (few rfl) hl (plain_star (hp e List.mem_cons_self) es X.env) (star_any cp X.env fun e m => hp e (List.mem_cons_of_mem _ m))
  | pop =>
    cases xs with
    | nil =>
      rw [hta rfl]
      exact ae_met0 PySem.F.plainAttrs_list PySem.F.slot_list_pop PySem.F.type_list_pop m_pop hv rfl hl
    | cons e es => simp at hn
  | popAt =>
    cases xs with
    | nil => cases hn
    | cons e es => exact ae_met PySem.F.plainAttrs_list PySem.F.slot_list_pop PySem.F.type_list_pop m_popAt hv ha rfl (few rfl) hl (plain_star (hp e List.mem_cons_self) es X.env) (star_any cp X.env fun e m => hp e (List.mem_cons_of_mem _ m))
theorem at_ife {c a b : Expr} {tc ta tb : ATE} {pos : Pos} (hc : AT X c (aTst tc)) (ha : AT X a (aTst ta)) (hb : AT X b (aTst tb)) (mc : MonE tc) (ma : MonE ta) (mb : MonE tb) : AT X (.IfExp c a b pos) (aTst (aIf tc ta tb)) := by
  refine ⟨atst_mon (aif_mon mc ma mb), ⟨?_⟩⟩
  intro pins s σ H Q I hq
  obtain ⟨Z, σa, h, rs, R, q⟩ := hq
  have step : lftT X.K (aTst tc) σ H (fun k H1 => if k = true then lftT X.K (aTst ta) σ H1 Q else lftT X.K (aTst tb) σ H1 Q) := by
    refine ⟨Z, σa, h, rs, R, mc _ _ _ _ ?_ q⟩
    rintro d h1 ⟨k, e1, q1⟩
    subst e1
    refine ⟨k, rfl, ?_⟩
    intro H1 R1 k1
    cases k with
    | true =>
      refine ⟨Z, σa, h1, rs.keep R k1, R1, ma _ _ _ _ ?_ q1⟩
      rintro d2 h2 ⟨k2, e2, q2⟩
      exact ⟨k2, e2, q2.mono k1⟩
    | false =>
      refine ⟨Z, σa, h1, rs.keep R k1, R1, mb _ _ _ _ ?_ q1⟩
      rintro d2 h2 ⟨k2, e2, q2⟩
      exact ⟨k2, e2, q2.mono k1⟩
  show wpAny _ _ (do if ← isTrue c X.env (eval c X.env) then isTrue a X.env (eval a X.env) else isTrue b X.env (eval b X.env)) _ _ s
  refine wpAny_bind (thn (hc.run.run pins s σ H _ I step) ?_)
  rintro k s1 ⟨H1, I1, q1⟩
  cases k with
  | true => exact ha.run.run pins s1 σ H1 Q I1 q1
  | false => exact hb.run.run pins s1 σ H1 Q I1 q1
end
end WF

open PySem L2
set_option Elab.async false
set_option linter.all false
set_option maxRecDepth 100000
set_option maxHeartbeats 2000000
/-! # part 11: what is checked means what it says: expressions -/
namespace WF
open PySem PySem.Spec PyProof.Rows L2
section
variable {Γ : Gam} {P : Program} {w : World} {K : PySem.W.Frag} {mg : Str → Option Value} {base : Heap}
/-- the block of a comprehension -/
def CC.blk (cc : CC) (scope : Scope) : CC := { cc with sc := relS scope cc.sc, st := fun y => scope.names.lookup y == some .cell }
theorem Cg.blk {cc : CC} {X : Cx} {scope : Scope} {own : List (Str × Nat)} (G : Cg P w K mg base cc X) (ok : BlkOk X.N X.env.scope scope own) (s : Shared) (H : Hp) (C : Addr) (cl : List (Str × Addr)) (fp : List Addr) :
    Cg P w K mg base (cc.blk scope) (X.blk s H scope (compEnvC scope cl C X.env) fp) :=
  ⟨G.P, G.w, G.K, G.mg, G.base, G.N, G.nd, (by show relS scope X.env.scope = relS scope cc.sc; rw [G.sc]), ok.kind, fun x e => e, G.calm, rfl, G.room, G.g⟩
theorem nostar_assign {e : Expr} (h : (match e with | .Starred .. => false | _ => true) = true) (es : List Expr) (env : Env) : assignEach (e :: es) env = (false, assign e env) :: assignEach es env := by
  cases e <;> first | rfl | (exact absurd h Bool.false_ne_true)
theorem andL {a b : Bool} (h : (a && b) = true) : a = true := (Bool.and_eq_true a b ▸ h).1
theorem andR {a b : Bool} (h : (a && b) = true) : b = true := (Bool.and_eq_true a b ▸ h).2
abbrev FactsC (Γ : Gam) (P : Program) (w : World) (K : PySem.W.Frag) (mg : Str → Option Value) (base : Heap) (cc : CC) : Prop := Facts Γ P w K mg base cc.nm cc.kw cc.gl cc.gcd cc.i
def OkE (Γ : Gam) (X : Cx) (e : Expr) (ce : CE) : Prop := AE X e (aE Γ ce) ∧ AT X e (aTst (aE Γ ce))
def OkC (Γ : Gam) (X : Cx) (op : BoolOp) (xs : List Expr) (es : CA) : Prop := ∀ pos, AE X (.BoolOp op xs pos) (aCon Γ op es) ∧ AW X (.BoolOp op xs pos) (aTst (aCon Γ op es))
theorem OkE.val {X : Cx} {e : Expr} {ce : CE} (a : AE X e (aE Γ ce)) (he : ∀ whole, isTrue e X.env whole = (do let v ← whole; standAt e.pos; holding [v] (truthy v))) : OkE Γ X e ce := ⟨a, at_val a he⟩
theorem ok_name_cst {X : Cx} {x : Str} {p : Pos} {d : D} {v : V} {ce : CE} (hp : PE X (.Name x p) (tC v)) (hr : ∀ Z h H, RD X.K Z h H d v) (e : aE Γ ce = aC d) : OkE Γ X (.Name x p) ce := by
  refine OkE.val ?_ fun _ => rfl
  rw [e]
  exact ae_cst hp hr
theorem tyNames_blt : ∀ n ∈ tyNames, bootBuiltins (n : Str) = some (.type n) := by decide +kernel
theorem tyNames_free : ∀ n ∈ tyNames, (n : Str) ∈ builtinNames := by decide +kernel
theorem backTo_any {pos : Pos} {env : Env} {es : List Expr} (h : ∀ e ∈ es, plainE e = true) : (backTo pos (starEach es env)).any (·.1) = false := star_any pos env h
theorem kw_step {pos : Pos} {env : Env} {nm : Option Str} {x : Expr} {kp : Pos} {ys : List Keyword} : ∃ t, backToKw pos (keywordEach (⟨nm, x, kp⟩ :: ys) env) = (nm, t) :: backToKw pos (keywordEach ys env) := ⟨_, rfl⟩
theorem kw_ok {pos : Pos} {env : Env} : ∀ {cc : CC} {ca : CA} {kws : List Keyword} {ks : List Str}, chK cc ca kws ks = true →
    (backToKw pos (keywordEach kws env)).all (·.1.isSome) = true ∧ (backToKw pos (keywordEach kws env)).filterMap (·.1) = ks ∧ (backToKw pos (keywordEach kws env)).any (·.1.isNone) = false
  | cc, .nil, kws, ks, h => by
    simp only [chK] at h
    have h1 := isNil_ok (andL h)
    have h2 := isNil_ok (andR h)
    subst h1 h2
    exact ⟨rfl, rfl, rfl⟩
  | cc, .cons e r, [], ks, h => by simp [chK] at h
  | cc, .cons e r, _ :: _, [], h => by simp [chK] at h
  | cc, .cons e r, ⟨nm, x, kp⟩ :: ys, k :: kt, h => by
    simp only [chK] at h
    have h1 := of_decide_eq_true (andL (andL h))
    obtain ⟨a, b, c⟩ := kw_ok (andR h) (pos := pos) (env := env)
    subst h1
    obtain ⟨t, e⟩ := kw_step (pos := pos) (env := env) (nm := some k) (x := x) (kp := kp) (ys := ys)
    rw [e]
    exact ⟨a, congrArg (k :: ·) b, c⟩
theorem chA_len {cc : CC} : ∀ {ca : CA} {es : List Expr}, chA cc ca es = true → es.length = lenA ca
  | .nil, es, h => by
    simp only [chA] at h
    rw [isNil_ok h]
    rfl
  | .cons e r, [], h => by simp [chA] at h
  | .cons e r, x :: ys, h => by
    simp only [chA] at h
    exact congrArg (· + 1) (chA_len (andR h))
theorem chK_len {cc : CC} : ∀ {ca : CA} {kws : List Keyword} {ks : List Str}, chK cc ca kws ks = true → ks.length = lenA ca
  | .nil, kws, ks, h => by
    simp only [chK] at h
    rw [isNil_ok (andR h)]
    rfl
  | .cons e r, [], ks, h => by simp [chK] at h
  | .cons e r, _ :: _, [], h => by simp [chK] at h
  | .cons e r, ⟨nm, x, kp⟩ :: ys, k :: kt, h => by
    simp only [chK] at h
    exact congrArg (· + 1) (chK_len (andR h))
theorem chPs_len {cc : CC} {vs : List Nat} {env : Env} : ∀ {ps : CPs} {es : List Expr}, chPs cc vs ps es = true → (assignEach es env).length = lenPs ps ∧ (assignEach es env).findIdx? (·.1) = none
  | .nil, es, h => by
    simp only [chPs] at h
    rw [isNil_ok h]
    exact ⟨rfl, rfl⟩
  | .cons p r, [], h => by simp [chPs] at h
  | .cons p r, x :: ys, h => by
    simp only [chPs] at h
    obtain ⟨a, b⟩ := chPs_len (env := env) (andR h)
    rw [nostar_assign (andL (andL h))]
    exact ⟨congrArg (· + 1) a, by rw [List.findIdx?_cons, b]; rfl⟩
/-- all that a comprehension's rules ask -/
structure LcOk (X : Cx) (x tg iter : Expr) (ifs : List Expr) (scope : Scope) (own : List (Str × Nat)) (ti : ATI) (g : ATG) (tt te : ATE) : Prop where
  hi : AI X tg iter ti
  ok : BlkOk X.N X.env.scope scope own
  mg : MonG g
  mt : MonE tt
  me : MonE te
  hg : ∀ (s : Shared) (H : Hp) (C : Addr) (cl : List (Str × Addr)) (fp : List Addr), AV (X.blk s H scope (compEnvC scope cl C X.env) fp) (own.map (·.2)) tg g
  ht : ∀ (s : Shared) (H : Hp) (C : Addr) (cl : List (Str × Addr)) (fp : List Addr), PTs (X.blk s H scope (compEnvC scope cl C X.env) fp) ifs (lftT X.K (aTst tt))
  he : ∀ (s : Shared) (H : Hp) (C : Addr) (cl : List (Str × Addr)) (fp : List Addr), AE (X.blk s H scope (compEnvC scope cl C X.env) fp) x te
  hs : ∀ v, foldedSetIterable iter X.env v = pure v
theorem pts_true {X : Cx} : PTs X [] (lftT X.K (aTst aTrue)) := by
  refine ⟨fun pins s σ H Q I h => pts_nil.run pins s σ H Q I ?_⟩
  obtain ⟨Z, σa, h, rs, R, k, e, q⟩ := h
  cases e
  exact q H R Kp.refl
abbrev inBlk (P : Program) (w : World) (K : PySem.W.Frag) (mg : Str → Option Value) (base : Heap) (cb : CC) (Xb : Cx) : Prop := Cg P w K mg base cb Xb
theorem lcPack {cc : CC} {X : Cx} {x tg iter : Expr} {ifs : List Expr} {scope : Scope} {own : List (Str × Nat)} {ti : ATI} {g : ATG} {tt te : ATE} (G : Cg P w K mg base cc X) (hp : plainE iter = true) (hb : blkC cc.N cc.sc scope own = true)
    (hi : AI X tg iter ti)
    (hg : ∀ Xb, Cg P w K mg base (cc.blk scope) Xb → AV Xb (own.map (·.2)) tg g) (ht : ∀ Xb, Cg P w K mg base (cc.blk scope) Xb → PTs Xb ifs (lftT Xb.K (aTst tt)) ∧ MonE tt) (he : ∀ Xb, Cg P w K mg base (cc.blk scope) Xb → AE Xb x te) :
    LcOk X x tg iter ifs scope own ti g tt te := by
  have ok : BlkOk X.N X.env.scope scope own := by
    rw [G.N, G.sc]
    exact blkOk_by hb
  have G0 := G.blk ok X.s_0 X.H_0 0 [] []
  exact ⟨hi, ok, (hg _ G0).mon, (ht _ G0).2, (he _ G0).mon, fun s H C cl fp => hg _ (G.blk ok s H C cl fp), fun s H C cl fp => (ht _ (G.blk ok s H C cl fp)).1, fun s H C cl fp => he _ (G.blk ok s H C cl fp), plain_fold hp X.env⟩
theorem LcOk.ae {m : Bool} {X : Cx} {x tg iter : Expr} {ifs : List Expr} {scope : Scope} {own : List (Str × Nat)} {ti : ATI} {g : ATG} {tt te : ATE} {pos : Pos} (L : LcOk X x tg iter ifs scope own ti g tt te) (hc : X.calm = true) (hN : X.N.Nodup) :
    AE X (.ListComp x [⟨tg, iter, ifs, 0⟩] scope pos) (aLc m ti g tt te (own.map (·.2))) := ae_lc hc hN L.hi L.ok L.mg L.mt L.me L.hg L.ht L.he L.hs
mutual
theorem chE_ok : ∀ (ce : CE) (cc : CC) (X : Cx) (e : Expr), Cg P w K mg base cc X → FactsC Γ P w K mg base cc → chE cc ce e = true → OkE Γ X e ce
  | .cst c, cc, X, e, G, F, h => by
    unfold chE at h
    obtain ⟨k, p, rfl⟩ := dConst_ok (of_decide_eq_true (andR h))
    obtain ⟨v, _, hp, hr⟩ := rd_c (K := X.K) (X := X) (Z := []) (h := fun _ => none) (H := fun _ => none) (andL h)
    exact OkE.val (ae_cst (hp k p) hr) fun _ => rfl
  | .var i, cc, X, e, G, F, h => by
    unfold chE at h
    split at h
    · rename_i x q
      obtain ⟨p, rfl⟩ := dName_ok q
      obtain ⟨h1, h2, h3, h4⟩ := CC.rd_ok G h
      exact OkE.val (ae_var h1 h2 h3 h4) fun _ => rfl
    · cases h
  | .glo x g, cc, X, e, G, F, h => by
    unfold chE at h
    split at h
    · rename_i y q
      obtain ⟨p, rfl⟩ := dName_ok q
      obtain ⟨g1, g2, g3⟩ := CC.glob_ok G (andR (andL h))
      obtain ⟨u, v, m1, m2, m3⟩ := F.gl y g (of_decide_eq_true (andR h))
      exact ok_name_cst (pe_glob g1 (by rw [G.mg]; exact m1) m2 g2) (by rw [G.K]; exact m3) rfl
    · cases h
  | .ty n, cc, X, e, G, F, h => by
    unfold chE at h
    split at h
    · rename_i y q
      obtain ⟨p, rfl⟩ := dName_ok q
      obtain ⟨g1, g2, g3⟩ := CC.glob_ok G (andR (andL h))
      have m := of_decide_eq_true (andR h)
      have e := of_decide_eq_true (andL (andL h))
      subst e
      exact ok_name_cst (d := .ty n) (v := .ty n) (pe_bltn g1 (by rw [G.mg]; exact F.free _ (tyNames_free n m)) (tyNames_blt n m) rfl g3 g2) (fun _ _ _ => rfl) rfl
    · cases h
  | .bin op m a b, cc, X, e, G, F, h => by
    unfold chE at h
    split at h
    · rename_i x op' y q
      obtain ⟨p, rfl⟩ := dBin_ok q
      have e := of_decide_eq_true (andR (andL (andL h)))
      subst e
      exact OkE.val (ae_bin (o_op (andL (andL (andL h)))) (chE_ok a cc X x G F (andR (andL h))).1 (chE_ok b cc X y G F (andR h)).1) fun _ => rfl
    · cases h
  | .neg a, cc, X, e, G, F, h => by
    unfold chE at h
    split at h
    · rename_i x q
      obtain ⟨p, rfl⟩ := dUn_ok q
      exact OkE.val (ae_un u_neg (chE_ok a cc X x G F h).1) fun _ => rfl
    · cases h
  | .nt a, cc, X, e, G, F, h => by
    unfold chE at h
    split at h
    · rename_i x q
      obtain ⟨p, rfl⟩ := dUn_ok q
      have A := chE_ok a cc X x G F h
      exact ⟨ae_not A.1, at_not A.2 A.1.mon⟩
    · cases h
  | .cmp op a b, cc, X, e, G, F, h => by
    unfold chE at h
    split at h
    · rename_i x op' y q
      obtain ⟨p, rfl⟩ := dCmp_ok q
      have e := of_decide_eq_true (andR (andL (andL h)))
      subst e
      have c := andL (andL (andL h))
      have u64 := G.room.units
      have A := (chE_ok a cc X x G F (andR (andL h))).1
      have B := (chE_ok b cc X y G F (andR h)).1
      exact ⟨ae_cmp (o_cmp u64 c) A B (cmp_mark c y), at_cmp (o_cmp u64 c) A B (cmp_mark c y)⟩
    · cases h
  | .chn o1 o2 a b c, cc, X, e, G, F, h => by
    unfold chE at h
    split at h
    · rename_i x p1 p2 y z q
      obtain ⟨p, rfl⟩ := dCmp_ok q
      have hc := chE_ok c cc X z G F (andR h)
      replace h := andL h
      have hb := chE_ok b cc X y G F (andR h)
      replace h := andL h
      have ha := chE_ok a cc X x G F (andR h)
      replace h := andL h
      have e2 := of_decide_eq_true (andR h)
      replace h := andL h
      have e1 := of_decide_eq_true (andR h)
      subst e1 e2
      have c1 := andL (andL h)
      have c2 := andR (andL h)
      have u64 := G.room.units
      exact ⟨ae_chn (o_cmp u64 c1) (o_cmp u64 c2) ha.1 hb.1 hc.1 (cmp_mark c2 z), at_chn (o_cmp u64 c1) (o_cmp u64 c2) ha.1 hb.1 hc.1 (cmp_mark c2 z)⟩
    · cases h
  | .con op es, cc, X, e, G, F, h => by
    unfold chE at h
    split at h
    · rename_i op' xs q
      obtain ⟨p, rfl⟩ := dBool_ok q
      have e := of_decide_eq_true (andL h)
      subst e
      have A := chC_ok es cc X op xs G F (andR h) p
      exact ⟨A.1, ⟨A.2.mon, A.2.run.pt⟩⟩
    · cases h
  | .ife c a b, cc, X, e, G, F, h => by
    unfold chE at h
    split at h
    · rename_i x y z q
      obtain ⟨p, rfl⟩ := dIf_ok q
      have hb := chE_ok b cc X z G F (andR h)
      have ha := chE_ok a cc X y G F (andR (andL h))
      have hc := chE_ok c cc X x G F (andL (andL h))
      exact ⟨ae_if hc.2 hc.1.mon ha.1 hb.1, at_ife hc.2 ha.2 hb.2 hc.1.mon ha.1.mon hb.1.mon⟩
    · cases h
  | .tup es, cc, X, e, G, F, h => by
    unfold chE at h
    split at h
    · rename_i xs q
      obtain ⟨k, p, rfl⟩ := dTup_ok q
      exact OkE.val (ae_tup (chA_ok es cc X xs G F h)) fun _ => rfl
    · cases h
  | .lst m es, cc, X, e, G, F, h => by
    unfold chE at h
    split at h
    · rename_i xs q
      obtain ⟨p, rfl⟩ := dList_ok q
      exact OkE.val (ae_lst (chA_ok es cc X xs G F h)) fun _ => rfl
    · cases h
  | .idx a i, cc, X, e, G, F, h => by
    unfold chE at h
    split at h
    · rename_i x y q
      obtain ⟨p, rfl⟩ := dSub_ok q
      exact OkE.val (ae_ix o_ix (chE_ok a cc X x G F (andR (andL h))).1 (chE_ok i cc X y G F (andR h)).1 (plain_ix (andL (andL h)))) fun _ => rfl
    · cases h
  | .cut m a lo hi, cc, X, e, G, F, h => by
    unfold chE at h
    split at h
    · rename_i x y q
      obtain ⟨p, rfl⟩ := dSub_ok q
      split at h
      · rename_i l u q2
        obtain ⟨p2, e2⟩ := dSlice_ok q2
        subst e2
        exact OkE.val (ae_cut (chE_ok a cc X x G F (andL (andL h))).1 (chO_ok lo cc X l G F (andR (andL h))) (chO_ok hi cc X u G F (andR h))) fun _ => rfl
      · cases h
    · cases h
  | .rev m a, cc, X, e, G, F, h => by
    unfold chE at h
    split at h
    · rename_i x y q
      obtain ⟨p, rfl⟩ := dSub_ok q
      split at h
      · rename_i z q2
        obtain ⟨p2, e2⟩ := dSlice_ok q2
        subst e2
        split at h
        · rename_i ww q3
          obtain ⟨p3, e3⟩ := dUn_ok q3
          dsimp only at e3
          subst e3
          obtain ⟨k4, p4, e4⟩ := dConst_ok (of_decide_eq_true (andL h))
          subst e4
          exact OkE.val (ae_rev (chE_ok a cc X x G F (andR h)).1) fun _ => rfl
        · cases h
      · cases h
    · cases h
  | .fn k es, cc, X, e, G, F, h => by
    unfold chE at h
    split at h
    · rename_i f xs p q
      have e := dCall_ok q
      subst e
      split at h
      · rename_i y q2
        obtain ⟨p2, e2⟩ := dName_ok q2
        subst e2
        obtain ⟨g1, g2, g3⟩ := CC.glob_ok G (andR (andL h))
        have hA := andR h
        replace h := andL (andL h)
        obtain ⟨f, fd, ps, c1, c2, c3, c4, _⟩ := (F.fn k y (of_decide_eq_true (andL h)) (of_decide_eq_true (andR h))).ok
        have ha := chA_ok es cc X xs G F hA
        have lt : k + 1 ≤ cc.i := of_decide_eq_true (andL h)
        have FG : FnG X.prog X.w X.K X.mg X.base cc.i f fd ps (lftSp X.K (Γ k).1 (up (Γ k).2)) := by rw [G.P, G.w, G.K, G.mg, G.base]; exact c4.mono lt
        cases xs with
        | nil =>
          cases es with
          | nil => exact OkE.val (ae_fn0 (up_mono _) FG G.g G.room g1 (by rw [G.mg]; exact c1) (by rw [G.K]; exact c2) (by rw [G.K]; exact c3) g2) fun _ => rfl
          | cons _ _ => simp [chA] at hA
        | cons x1 xr =>
          have pl := chA_plain hA
          exact OkE.val (ae_fn (up_mono _) FG G.g G.room g1 (by rw [G.mg]; exact c1) (by rw [G.K]; exact c2) (by rw [G.K]; exact c3) ha g2 (plain_star (pl x1 List.mem_cons_self) xr X.env) (star_any _ _ fun e m => pl e (List.mem_cons_of_mem _ m))) fun _ => rfl
      · cases h
    · cases h
  | .fnK k es ks ws pm, cc, X, e, G, F, h => by
    unfold chE at h
    split at h
    · rename_i f xs kws p q
      have e := dCall_ok q
      subst e
      split at h
      · rename_i y q2
        obtain ⟨p2, e2⟩ := dName_ok q2
        subst e2
        replace h := andL h
        have hK := andR h
        replace h := andL h
        have hA := andR h
        replace h := andL h
        have hm := of_decide_eq_true (andR h)
        obtain ⟨g1, g2, g3⟩ := CC.glob_ok G (andR (andL h))
        replace h := andL (andL h)
        obtain ⟨f, fd, ps, c1, c2, c3, c4, c5⟩ := (F.fn k y (of_decide_eq_true (andL h)) (of_decide_eq_true (andR h))).ok
        have ha := chA_ok es cc X xs G F hA
        have hk := chK_ok ws cc X kws ks G F hK
        have lt : k + 1 ≤ cc.i := of_decide_eq_true (andL h)
        have FG : FnG X.prog X.w X.K X.mg X.base cc.i f fd ps (lftSp X.K (Γ k).1 (up (Γ k).2)) := by rw [G.P, G.w, G.K, G.mg, G.base]; exact c4.mono lt
        have pl := chA_plain hA
        obtain ⟨k1, k2, k3⟩ := kw_ok hK (pos := p) (env := X.env)
        have mem : (xs.length, ks, pm) ∈ (cc.kw.filter fun q => q.1 == k).map (·.2) := List.mem_map.mpr ⟨_, List.mem_filter.mpr ⟨hm, by simp⟩, rfl⟩
        have bnd : ∀ (s : Shared) (us vs : List Value), us.length = lenA es → vs.length = lenA ws → X.K.In s.heap → (perm pm (us ++ vs)).length = ps.length → BindsTo s fd ⟨us, ks.zip vs⟩ (ps.zip (perm pm (us ++ vs))) := by
          intro s us vs l1 l2 ki l
          rw [G.K] at ki
          exact c5 _ mem s us vs (by rw [l1, chA_len hA]) (by rw [l2, chK_len hK]) ki l
        cases xs with
        | nil =>
          cases es with
          | nil => exact OkE.val (ae_fnK0 (n2 := lenA ws) (up_mono _) FG G.g G.room g1 (by rw [G.mg]; exact c1) (by rw [G.K]; exact c2) bnd hk k1 k2 g2 (by rw [Bool.or_eq_false_iff]; exact ⟨rfl, k3⟩)) fun _ => rfl
          | cons _ _ => simp [chA] at hA
        | cons x xs =>
          refine OkE.val (ae_fnK (n1 := lenA es) (n2 := lenA ws) (up_mono _) FG G.g G.room g1 (by rw [G.mg]; exact c1) (by rw [G.K]; exact c2) bnd ha hk k1 k2 g2 (plain_star (pl x List.mem_cons_self) xs X.env) ?_) fun _ => rfl
          rw [Bool.or_eq_false_iff]
          exact ⟨star_any _ _ pl, k3⟩
      · cases h
    · cases h
  | .bi b es, cc, X, e, G, F, h => by
    unfold chE at h
    split at h
    · rename_i f x xs p q
      have e := dCall_ok q
      subst e
      split at h
      · rename_i y q2
        obtain ⟨p2, e2⟩ := dName_ok q2
        subst e2
        have e := of_decide_eq_true (andL (andL h))
        subst e
        exact OkE.val (ae_bi G F.free (andR (andL h)) (chA_ok es cc X (x :: xs) G F (andR h)) (chA_plain (andR h))) fun _ => rfl
      · cases h
    · cases h
  | .gcd es, cc, X, e, G, F, h => by
    unfold chE at h
    split at h
    · rename_i f x xs p q
      have e := dCall_ok q
      subst e
      split at h
      · rename_i y q2
        obtain ⟨p2, e2⟩ := dName_ok q2
        subst e2
        have pl := chA_plain (andR h)
        have ha := chA_ok es cc X (x :: xs) G F (andR h)
        replace h := andL h
        obtain ⟨g1, g2, g3⟩ := CC.glob_ok G (andR h)
        have e := of_decide_eq_true (andL (andL h))
        subst e
        exact OkE.val (ae_callFun b_gcd g1 (by rw [G.mg]; exact F.gcd (andR (andL h))) ha g2 (plain_star (pl x List.mem_cons_self) xs X.env) (star_any _ _ fun e m => pl e (List.mem_cons_of_mem _ m))) fun _ => rfl
      · cases h
    · cases h
  | .met t i es, cc, X, e, G, F, h => by
    unfold chE at h
    split at h
    · rename_i f xs cp q
      have e := dCall_ok q
      subst e
      split at h
      · rename_i o a ap q2
        have e2 := dAttr_ok q2
        subst e2
        have h5 := andR h
        replace h := andL h
        have h4 := andR h
        replace h := andL h
        have h3 := of_decide_eq_true (andR h)
        replace h := andL h
        have h2 := andR h
        have e := of_decide_eq_true (andL h)
        subst e
        split at h5
        · rename_i x q3
          obtain ⟨p3, e3⟩ := dName_ok q3
          subst e3
          have hA := andR h5
          refine OkE.val (ae_mt G (andL h5) h2 h3 h4 (chA_ok es cc X xs G F hA) (fun e => ?_) (chA_plain hA)) fun _ => rfl
          subst e
          cases es with
          | nil => rfl
          | cons _ _ => simp [chA] at hA
        · cases h5
      · cases h
    · cases h
  | .lc m p it .nil el own, cc, X, e, G, F, h => by
    unfold chE at h
    split at h
    · rename_i x tg iter ifs scope pos q
      have e := dLc_ok q
      dsimp only at e
      subst e
      replace h : (plainE iter && blkC cc.N cc.sc scope own && chP (cc.blk scope) (own.map (·.2)) p tg && chI cc it iter && chE (cc.blk scope) el x && isNilL ifs) = true := h
      have hn := isNil_ok (andR h)
      replace h := andL h
      have hE := andR h
      replace h := andL h
      have hI := andR h
      replace h := andL h
      have hP := andR h
      subst hn
      exact OkE.val (LcOk.ae (m := m) (lcPack G (andL (andL h)) (andR (andL h)) (chI_ok it cc X tg iter G F hI) (fun Xb Gb => chP_ok p (cc.blk scope) Xb _ tg Gb F hP) (fun Xb Gb => ⟨pts_true, fun σ h Q Q' w q => w _ _ q⟩) (fun Xb Gb => (chE_ok el (cc.blk scope) Xb x Gb F hE).1)) G.calm G.nd) fun _ => rfl
    · cases h
  | .lc m p it (.cons c r) el own, cc, X, e, G, F, h => by
    unfold chE at h
    split at h
    · rename_i x tg iter ifs scope pos q
      have e := dLc_ok q
      dsimp only at e
      subst e
      have hT := andR h
      replace h : (plainE iter && blkC cc.N cc.sc scope own && chP (cc.blk scope) (own.map (·.2)) p tg && chI cc it iter && chE (cc.blk scope) el x) = true := andL h
      have hE := andR h
      replace h := andL h
      have hI := andR h
      replace h := andL h
      have hP := andR h
      dsimp only at hT
      split at hT
      · rename_i y
        exact OkE.val (LcOk.ae (m := m) (lcPack G (andL (andL h)) (andR (andL h)) (chI_ok it cc X tg iter G F hI) (fun Xb Gb => chP_ok p (cc.blk scope) Xb _ tg Gb F hP) (fun Xb Gb => ⟨pts_one (chE_ok c (cc.blk scope) Xb y Gb F hT).2.run, (chE_ok c (cc.blk scope) Xb y Gb F hT).1.mon⟩) (fun Xb Gb => (chE_ok el (cc.blk scope) Xb x Gb F hE).1)) G.calm G.nd) fun _ => rfl
      · cases hT
    · cases h
theorem chC_ok : ∀ (es : CA) (cc : CC) (X : Cx) (op : BoolOp) (xs : List Expr), Cg P w K mg base cc X → FactsC Γ P w K mg base cc → chC cc es xs = true → OkC Γ X op xs es
  | .nil, cc, X, op, xs, G, F, h => by simp [chC] at h
  | .cons e .nil, cc, X, op, xs, G, F, h => by
    unfold chC at h
    split at h
    · rename_i x
      have A := chE_ok e cc X x G F h
      intro pos
      cases op with
      | And => exact ⟨ae_one A.1, aw_and1 A.2⟩
      | Or => exact ⟨ae_one A.1, aw_or1 A.2⟩
    · cases h
  | .cons e (.cons e2 r), cc, X, op, xs, G, F, h => by
    unfold chC at h
    split at h
    · rename_i x y ys
      have A := chE_ok e cc X x G F (andL h)
      have B := chC_ok (.cons e2 r) cc X op (y :: ys) G F (andR h)
      intro pos
      have B := B pos
      cases op with
      | And => exact ⟨ae_and A.1 B.1, aw_and A.2 B.2 A.1.mon B.1.mon⟩
      | Or => exact ⟨ae_or A.1 B.1, aw_or A.2 B.2 A.1.mon B.1.mon⟩
    · cases h
theorem chA_ok : ∀ (es : CA) (cc : CC) (X : Cx) (xs : List Expr), Cg P w K mg base cc X → FactsC Γ P w K mg base cc → chA cc es xs = true → AA X xs (aA Γ es)
  | .nil, cc, X, xs, G, F, h => by
    unfold chA at h
    rw [isNil_ok h]
    exact aa_nil
  | .cons e r, cc, X, xs, G, F, h => by
    unfold chA at h
    split at h
    · rename_i x ys
      exact aa_cons (chE_ok e cc X x G F (andR (andL h))).1 (chA_ok r cc X ys G F (andR h)) (plain_star (andL (andL h)) ys X.env)
    · cases h
theorem chK_ok : ∀ (es : CA) (cc : CC) (X : Cx) (xs : List Keyword) (ks : List Str), Cg P w K mg base cc X → FactsC Γ P w K mg base cc → chK cc es xs ks = true → AK X xs (aA Γ es)
  | .nil, cc, X, xs, ks, G, F, h => by
    unfold chK at h
    rw [isNil_ok (andL h)]
    exact ak_nil
  | .cons e r, cc, X, [], ks, G, F, h => by simp [chK] at h
  | .cons e r, cc, X, _ :: _, [], G, F, h => by simp [chK] at h
  | .cons e r, cc, X, ⟨nm, x, kp⟩ :: ys, k :: kt, G, F, h => by
    simp only [chK] at h
    exact ak_cons (chE_ok e cc X x G F (andR (andL h))).1 (chK_ok r cc X ys kt G F (andR h))
theorem chO_ok : ∀ (co : CO) (cc : CC) (X : Cx) (o : Option Expr), Cg P w K mg base cc X → FactsC Γ P w K mg base cc → chO cc co o = true → AO X o (aO Γ co)
  | .no, cc, X, o, G, F, h => by
    unfold chO at h
    cases o with
    | none => exact ao_no
    | some _ => cases h
  | .pt e, cc, X, o, G, F, h => by
    unfold chO at h
    cases o with
    | none => cases h
    | some x => exact ao_pt (chE_ok e cc X x G F h).1
theorem chP_ok : ∀ (p : CP) (cc : CC) (X : Cx) (vs : List Nat) (e : Expr), Cg P w K mg base cc X → FactsC Γ P w K mg base cc → chP cc vs p e = true → AV X vs e (aP Γ p)
  | .nm i, cc, X, vs, e, G, F, h => by
    unfold chP at h
    split at h
    · rename_i x q
      obtain ⟨p, rfl⟩ := dName_ok q
      obtain ⟨h1, h2, h3⟩ := CC.wr_ok G (andL h)
      exact av_name G.nd h1 h2 h3 (of_decide_eq_true (andR h))
    · cases h
  | .tp ps, cc, X, vs, e, G, F, h => by
    unfold chP at h
    split at h
    · rename_i es q
      obtain ⟨k, p, rfl⟩ := dTup_ok q
      obtain ⟨a, b⟩ := chPs_len (env := X.env) h
      exact av_tup G.calm (chPs_ok ps cc X vs es G F h) a b
    · cases h
  | .sb o i, cc, X, vs, e, G, F, h => by
    unfold chP at h
    cases h
theorem chPs_ok : ∀ (ps : CPs) (cc : CC) (X : Cx) (vs : List Nat) (es : List Expr), Cg P w K mg base cc X → FactsC Γ P w K mg base cc → chPs cc vs ps es = true → AVs X vs es (aPs Γ ps)
  | .nil, cc, X, vs, es, G, F, h => by
    unfold chPs at h
    rw [isNil_ok h]
    exact avs_nil
  | .cons p r, cc, X, vs, es, G, F, h => by
    unfold chPs at h
    split at h
    · rename_i x ys
      exact avs_cons (chP_ok p cc X vs x G F (andR (andL h))) (chPs_ok r cc X vs ys G F (andR h)) (by rw [nostar_assign (andL (andL h))]; rfl)
    · cases h
theorem chI_ok : ∀ (it : CI) (cc : CC) (X : Cx) (tg e : Expr), Cg P w K mg base cc X → FactsC Γ P w K mg base cc → chI cc it e = true → AI X tg e (aI Γ it)
  | .seq a, cc, X, tg, e, G, F, h => by
    unfold chI at h
    exact ai_seq (chE_ok a cc X e G F h).1
  | .rng .nil, cc, X, tg, e, G, F, h => by
    unfold chI at h
    split at h
    · split at h
      · simp at h
      · cases h
    · cases h
  | .rng (.cons a .nil), cc, X, tg, e, G, F, h => by
    unfold chI at h
    split at h
    · rename_i f xs p q
      have e := dCall_ok q
      subst e
      split at h
      · rename_i y q2
        obtain ⟨p2, e2⟩ := dName_ok q2
        subst e2
        have e := of_decide_eq_true (andL (andL h))
        subst e
        obtain ⟨g1, g2, g3⟩ := CC.glob_ok G (andR (andL h))
        replace h := andR h
        dsimp only at h
        split at h
        · rename_i x1
          exact ai_rng1 g1 (by rw [G.mg]; exact F.free _ (by decide +kernel)) (aa_cons (chE_ok a cc X x1 G F (andR h)).1 aa_nil (plain_star (andL h) [] X.env)) (plain_star (andL h) [] X.env)
        · cases h
      · cases h
    · cases h
  | .rng (.cons a (.cons b .nil)), cc, X, tg, e, G, F, h => by
    unfold chI at h
    split at h
    · rename_i f xs p q
      have e := dCall_ok q
      subst e
      split at h
      · rename_i y q2
        obtain ⟨p2, e2⟩ := dName_ok q2
        subst e2
        have e := of_decide_eq_true (andL (andL h))
        subst e
        obtain ⟨g1, g2, g3⟩ := CC.glob_ok G (andR (andL h))
        replace h := andR h
        dsimp only at h
        split at h
        · rename_i x1 x2
          have p2 := andR (andL (andL h))
          have p1 := andL (andL (andL h))
          exact ai_rng2 g1 (by rw [G.mg]; exact F.free _ (by decide +kernel)) (aa_cons (chE_ok a cc X x1 G F (andR (andL h))).1 (aa_cons (chE_ok b cc X x2 G F (andR h)).1 aa_nil (plain_star p2 [] X.env)) (plain_star p1 [x2] X.env)) (by rw [plain_star p1, plain_star p2]; rfl) (plain_star p2 [] X.env)
        · cases h
      · cases h
    · cases h
  | .rng (.cons a (.cons b (.cons c r))), cc, X, tg, e, G, F, h => by
    unfold chI at h
    split at h
    · split at h
      · simp at h
      · cases h
    · cases h
end
end
end WF

open PySem L2
set_option Elab.async false
set_option linter.all false
set_option maxRecDepth 100000
set_option maxHeartbeats 2000000
/-! # part 12: statements -/
namespace WF
open PySem PySem.Spec PyProof.Rows L2
/-! ## the check -/
mutual
def chG (cc : CC) : CP → Expr → Bool
  | .nm i, e => match dName e with
    | some x => cc.wr i x
    | none => false
  | .tp ps, e => match dTup e with
    | some es => chGs cc ps es
    | none => false
  | .sb o i, e => match dSub e with
    | some (x, y) => plainE y && chE cc o x && chE cc i y
    | none => false
def chGs (cc : CC) : CPs → List Expr → Bool
  | .nil, es => isNilL es
  | .cons p r, es => match es with
    | x :: ys => (match x with | .Starred .. => false | _ => true) && chG cc p x && chGs cc r ys
    | [] => false
end
/-- does the store of a comprehension go by the swap -/
def lcSw (sc scope : Scope) (y : Str) (py pos : Pos) : Bool := sc.names.lookup y == some .local && py.line == pos.line && !(scope.names.any fun (n, k) => n == y && (k == .local || k == .cell))
/-- the stores of an assignment: none by the swap, but a comprehension's under a name -/
def chSw (cc : CC) (tg v : Expr) : Bool := plainE v && (match v with
  | .ListComp x gs scope pos => (match tg with
    | .Name y py => if lcSw cc.sc scope y py pos then true else true
    | _ => true)
  | .Tuple vs _ _ => (match tg with
    | .Tuple ts _ _ => (match swN cc.sc ts vs with | some none => true | _ => false)
    | .Name .. => true
    | .Subscript .. => true
    | _ => false)
  | _ => true)
mutual
def chS (cc : CC) : CS → Stmt → Bool
  | .asg p e, s => match s with
    | .Assign [tg] v _ => chG cc p tg && chE cc e v && chSw cc tg v
    | _ => false
  | .par2 i j es, s => match s with
    | .Assign [.Tuple [.Name x px, .Name y py] _ _] (.Tuple [a, b] _ _) _ => decide (cc.N[i]? = some x) && decide (cc.N[j]? = some y) && decide (i ≠ j) && cc.loc x && cc.loc y && chA cc es [a, b] &&
      decide (swN cc.sc [.Name x px, .Name y py] [a, b] = some (some [x, y]))
    | _ => false
  | .par3 i j l es, s => match s with
    | .Assign [.Tuple [.Name x px, .Name y py, .Name z pz] _ _] (.Tuple [a, b, c] _ _) _ => decide (cc.N[i]? = some x) && decide (cc.N[j]? = some y) && decide (cc.N[l]? = some z) && decide (i ≠ j) && decide (i ≠ l) && decide (j ≠ l) && cc.loc x && cc.loc y && cc.loc z &&
      chA cc es [a, b, c] && decide (swN cc.sc [.Name x px, .Name y py, .Name z pz] [a, b, c] = some (some [x, y, z]))
    | _ => false
  | .ret e, s => match s with
    | .Return (some v) _ => chE cc e v
    | _ => false
  | .retN, s => match s with
    | .Return none _ => true
    | _ => false
  | .expr e, s => match s with
    | .Expr v _ => plainE v && (match dLc v with | none => true | some _ => false) && chE cc e v
    | _ => false
  | .ife c a b, s => match s with
    | .If x y z _ => chE cc c x && chSs cc a y && chSs cc b z
    | _ => false
  | .for_ p it b, s => match s with
    | .For tg e y [] _ => plainE e && chG cc p tg && chI cc it e && chSs cc b y
    | _ => false
  | .whl c b, s => match s with
    | .While x y [] _ => chE cc c x && chSs cc b y
    | _ => false
  | .brk, s => match s with
    | .Break _ => true
    | _ => false
  | .cnt, s => match s with
    | .Continue _ => true
    | _ => false
  | .pas, s => match s with
    | .Pass _ => true
    | _ => false
  | .nev, _ => true
  | .aug i e, s => match s with
    | .AugAssign (.Name x _) .Add v _ => cc.wr i x && chE cc e v
    | _ => false
def chSs (cc : CC) : CSs → List Stmt → Bool
  | .nil, ss => isNilL ss
  | .cons s r, ss => match ss with
    | x :: xs => chS cc s x && chSs cc r xs
    | [] => false
  | .frz _ r, ss => chSs cc r ss
end
/-! ## it is sound -/
section
variable {Γ : Gam} {P : Program} {w : World} {K : PySem.W.Frag} {mg : Str → Option Value} {base : Heap}
theorem plain_assign {o i : Expr} {pos : Pos} {env : Env} (h : plainE i = true) : ∀ v, assign (.Subscript o i pos) env v = (do
      let ov ← holding [v] (eval o env)
      let iv ← holding [v, ov] (eval i env)
      standAt pos
      holding [v, ov, iv] (setItem ov iv v)
      release [v, ov, iv] []) := by
  intro v
  cases i <;> first | rfl | (exact absurd h Bool.false_ne_true)
theorem chGs_len {cc : CC} {env : Env} : ∀ {ps : CPs} {es : List Expr}, chGs cc ps es = true → (assignEach es env).length = lenPs ps ∧ (assignEach es env).findIdx? (·.1) = none
  | .nil, es, h => by
    simp only [chGs] at h
    rw [isNil_ok h]
    exact ⟨rfl, rfl⟩
  | .cons p r, [], h => by simp [chGs] at h
  | .cons p r, x :: ys, h => by
    simp only [chGs] at h
    obtain ⟨a, b⟩ := chGs_len (env := env) (andR h)
    rw [nostar_assign (andL (andL h))]
    exact ⟨congrArg (· + 1) a, by rw [List.findIdx?_cons, b]; rfl⟩
mutual
theorem chG_ok : ∀ (p : CP) (cc : CC) (X : Cx) (e : Expr), Cg P w K mg base cc X → FactsC Γ P w K mg base cc → chG cc p e = true → AG X e (aP Γ p)
  | .nm i, cc, X, e, G, F, h => by
    unfold chG at h
    split at h
    · rename_i x q
      obtain ⟨p, rfl⟩ := dName_ok q
      obtain ⟨h1, h2, h3⟩ := CC.wr_ok G h
      exact ag_name G.nd h1 h2 h3
    · cases h
  | .tp ps, cc, X, e, G, F, h => by
    unfold chG at h
    split at h
    · rename_i es q
      obtain ⟨k, p, rfl⟩ := dTup_ok q
      obtain ⟨a, b⟩ := chGs_len (env := X.env) h
      exact ag_tup G.calm (chGs_ok ps cc X es G F h) a b
    · cases h
  | .sb o i, cc, X, e, G, F, h => by
    unfold chG at h
    split at h
    · rename_i x y q
      obtain ⟨p, rfl⟩ := dSub_ok q
      exact ag_sub (chE_ok o cc X x G F (andR (andL h))).1 (chE_ok i cc X y G F (andR h)).1 (plain_assign (andL (andL h)))
    · cases h
theorem chGs_ok : ∀ (ps : CPs) (cc : CC) (X : Cx) (es : List Expr), Cg P w K mg base cc X → FactsC Γ P w K mg base cc → chGs cc ps es = true → AGs X es (aPs Γ ps)
  | .nil, cc, X, es, G, F, h => by
    unfold chGs at h
    rw [isNil_ok h]
    exact ags_nil
  | .cons p r, cc, X, es, G, F, h => by
    unfold chGs at h
    split at h
    · rename_i x ys
      exact ags_cons (chG_ok p cc X x G F (andR (andL h))) (chGs_ok r cc X ys G F (andR h)) (by rw [nostar_assign (andL (andL h))]; rfl)
    · cases h
end
theorem nolc_sw {v : Expr} (h : (match dLc v with | none => true | some _ => false) = true) (h2 : plainE v = true) (t : Option Expr) (l : Nat) (env : Env) : swapsWith v t l env = pure false := by
  cases v <;> first | rfl | (exact absurd h2 Bool.false_ne_true) | (exact absurd h Bool.false_ne_true)
theorem lc_sw {elt : Expr} {gs : List Comprehension} {scope : Scope} {pos py : Pos} {y : Str} {l : Nat} {env : Env} (hk : env.scope.kind = .function) : swapsWith (.ListComp elt gs scope pos) (some (.Name y py)) l env = pure (lcSw env.scope scope y py pos) := by
  have hb : env.blockKind = .function := by unfold Env.blockKind; rw [hk]; rfl
  unfold swapsWith
  simp only [hb, Expr.pos]
  rfl
theorem chG_nostar {cc : CC} {p : CP} {e : Expr} : chG cc p e = true → (match e with | .Starred .. => false | _ => true) = true := by
  intro h
  cases e <;> first | rfl | (cases p <;> simp [chG, dName, dTup, dSub] at h)
theorem chLc_ok {m : Bool} {p : CP} {it : CI} {tt : CA} {el : CE} {own : List (Str × Nat)} {cc : CC} {X : Cx} {x : Expr} {gs : List Comprehension} {scope : Scope} {pos : Pos} (G : Cg P w K mg base cc X) (F : FactsC Γ P w K mg base cc)
    (h : chE cc (.lc m p it tt el own) (.ListComp x gs scope pos) = true) : ∃ tg iter ifs tt', gs = [⟨tg, iter, ifs, 0⟩] ∧ LcOk X x tg iter ifs scope own (aI Γ it) (aP Γ p) tt' (aE Γ el) ∧ aE Γ (.lc m p it tt el own) = aLc m (aI Γ it) (aP Γ p) tt' (aE Γ el) (own.map (·.2)) := by
  cases tt with
  | nil =>
    unfold chE at h
    split at h
    · rename_i x tg iter ifs scope pos q
      have e := dLc_ok q
      cases e
      replace h : (plainE iter && blkC cc.N cc.sc scope own && chP (cc.blk scope) (own.map (·.2)) p tg && chI cc it iter && chE (cc.blk scope) el x && isNilL ifs) = true := h
      have hn := isNil_ok (andR h)
      replace h := andL h
      have hE := andR h
      replace h := andL h
      have hI := andR h
      replace h := andL h
      have hP := andR h
      subst hn
      exact ⟨tg, iter, [], aTrue, rfl, lcPack G (andL (andL h)) (andR (andL h)) (chI_ok it cc X tg iter G F hI) (fun Xb Gb => chP_ok p (cc.blk scope) Xb _ tg Gb F hP) (fun Xb Gb => ⟨pts_true, fun σ h Q Q' w q => w _ _ q⟩) (fun Xb Gb => (chE_ok el (cc.blk scope) Xb x Gb F hE).1), rfl⟩
    · cases h
  | cons c r =>
    unfold chE at h
    split at h
    · rename_i x tg iter ifs scope pos q
      have e := dLc_ok q
      cases e
      have hT := andR h
      replace h : (plainE iter && blkC cc.N cc.sc scope own && chP (cc.blk scope) (own.map (·.2)) p tg && chI cc it iter && chE (cc.blk scope) el x) = true := andL h
      have hE := andR h
      replace h := andL h
      have hI := andR h
      replace h := andL h
      have hP := andR h
      dsimp only at hT
      split at hT
      · rename_i y
        exact ⟨tg, iter, [y], aE Γ c, rfl, lcPack G (andL (andL h)) (andR (andL h)) (chI_ok it cc X tg iter G F hI) (fun Xb Gb => chP_ok p (cc.blk scope) Xb _ tg Gb F hP) (fun Xb Gb => ⟨pts_one (chE_ok c (cc.blk scope) Xb y Gb F hT).2.run, (chE_ok c (cc.blk scope) Xb y Gb F hT).1.mon⟩) (fun Xb Gb => (chE_ok el (cc.blk scope) Xb x Gb F hE).1), rfl⟩
      · cases hT
    · cases h
theorem asg_ok {p : CP} {e : CE} {cc : CC} {X : Cx} {tg v : Expr} {pos : Pos} (G : Cg P w K mg base cc X) (F : FactsC Γ P w K mg base cc) (hg : chG cc p tg = true) (he : chE cc e v = true) (hs : chSw cc tg v = true) : AS X (.Assign [tg] v pos) (sAsg (aE Γ e) (aP Γ p)) := by
  have A := (chE_ok e cc X v G F he).1
  have B := chG_ok p cc X tg G F hg
  have one : (assignEach [tg] X.env).map (·.2) = [assign tg X.env] := by rw [nostar_assign (chG_nostar hg)]; rfl
  unfold chSw at hs
  have pl := andL hs
  have h2 := andR hs
  clear hs
  cases v with
  | ListComp x gs scope pos2 =>
    have nsw : swappedStores [tg] (.ListComp x gs scope pos2) X.env = pure none := by cases tg <;> rfl
    cases tg with
    | Name y py =>
      have sw := lc_sw (elt := x) (gs := gs) (scope := scope) (pos := pos2) (py := py) (y := y) (l := pos.line) G.kd
      cases b : lcSw X.env.scope scope y py pos2 with
      | false =>
        rw [b] at sw
        exact as_asg A B sw nsw one
      | true =>
        rw [b] at sw
        cases p with
        | nm i =>
          cases e with
          | lc m p2 it tt el own =>
            obtain ⟨tg, iter, ifs, tt', e1, L, e2⟩ := chLc_ok G F he
            subst e1
            rw [e2]
            have hw : cc.wr i y = true := hg
            obtain ⟨w1, _, _⟩ := CC.wr_ok G hw
            have hl : X.env.scope.names.lookup y = some .local := by
              unfold lcSw at b
              exact eq_of_beq (andL (andL b))
            exact as_setLc G.calm G.nd w1 hl sw L.hi L.ok L.mg L.mt L.me L.hg L.ht L.he L.hs
          | _ => simp [chE, dConst, dName, dBin, dUn, dCmp, dBool, dIf, dTup, dList, dSub, dSlice, dCall] at he
        | _ => simp [chG, dTup, dSub] at hg
    | _ => exact as_asg A B rfl nsw one
  | Tuple vs k p2 =>
    have sw : swapsWithSole [tg] (.Tuple vs k p2) pos.line X.env = pure false := rfl
    refine as_asg A B sw ?_ one
    cases tg with
    | Tuple ts k3 p3 =>
      dsimp only at h2
      split at h2
      · rename_i q
        rw [← G.sc] at q
        exact swN_ok G.kd q
      · cases h2
    | Name _ _ => rfl
    | Subscript _ _ _ => rfl
    | _ => exact absurd h2 Bool.false_ne_true
  | _ => first | exact absurd pl Bool.false_ne_true | exact as_asg A B rfl (by cases tg <;> rfl) one
theorem drop_env {env : Env} : True := trivial
mutual
theorem chS_ok : ∀ (c : CS) (cc : CC) (X : Cx) (s : Stmt), Cg P w K mg base cc X → FactsC Γ P w K mg base cc → chS cc c s = true → AS X s (aS Γ c)
  | .asg p e, cc, X, s, G, F, h => by
    unfold chS at h
    split at h
    · exact asg_ok G F (andL (andL h)) (andR (andL h)) (andR h)
    · cases h
  | .par2 i j es, cc, X, s, G, F, h => by
    unfold chS at h
    split at h
    · rename_i x px y py kt pt a b k2 p2 pos
      have e7 := of_decide_eq_true (andR h)
      replace h := andL h
      have hA := chA_ok es cc X [a, b] G F (andR h)
      replace h := andL h
      have hy := andR h
      replace h := andL h
      have hx := andR h
      replace h := andL h
      have hij := of_decide_eq_true (andR h)
      replace h := andL h
      have loc : ∀ {z : Str}, cc.loc z = true → X.env.scope.names.lookup z = some .local := fun {z} q => by
        rw [G.sc]
        unfold CC.loc CC.kind at q
        split at q
        · assumption
        · cases q
      rw [← G.sc] at e7
      exact as_par2 G.calm G.nd (by rw [G.N]; exact of_decide_eq_true (andL h)) (by rw [G.N]; exact of_decide_eq_true (andR h)) hij (loc hx) (loc hy) hA (swN_ok G.kd e7) rfl
    · cases h
  | .par3 i j l es, cc, X, s, G, F, h => by
    unfold chS at h
    split at h
    · rename_i x px y py z pz kt pt a b c k2 p2 pos
      have e7 := of_decide_eq_true (andR h)
      replace h := andL h
      have hA := chA_ok es cc X [a, b, c] G F (andR h)
      replace h := andL h
      have hz := andR h
      replace h := andL h
      have hy := andR h
      replace h := andL h
      have hx := andR h
      replace h := andL h
      have hjl := of_decide_eq_true (andR h)
      replace h := andL h
      have hil := of_decide_eq_true (andR h)
      replace h := andL h
      have hij := of_decide_eq_true (andR h)
      replace h := andL h
      have loc : ∀ {z : Str}, cc.loc z = true → X.env.scope.names.lookup z = some .local := fun {z} q => by
        rw [G.sc]
        unfold CC.loc CC.kind at q
        split at q
        · assumption
        · cases q
      rw [← G.sc] at e7
      exact as_par3 G.calm G.nd (by rw [G.N]; exact of_decide_eq_true (andL (andL h))) (by rw [G.N]; exact of_decide_eq_true (andR (andL h))) (by rw [G.N]; exact of_decide_eq_true (andR h)) hij hil hjl (loc hx) (loc hy) (loc hz) hA (swN_ok G.kd e7) rfl
    · cases h
  | .ret e, cc, X, s, G, F, h => by
    unfold chS at h
    split at h
    · exact as_ret (chE_ok e cc X _ G F h).1
    · cases h
  | .retN, cc, X, s, G, F, h => by
    unfold chS at h
    split at h
    · exact as_retN
    · cases h
  | .expr e, cc, X, s, G, F, h => by
    unfold chS at h
    split at h
    · exact as_expr (chE_ok e cc X _ G F (andR h)).1 (nolc_sw (andR (andL h)) (andL (andL h)) _ _ _)
    · cases h
  | .ife c a b, cc, X, s, G, F, h => by
    unfold chS at h
    split at h
    · have C := chE_ok c cc X _ G F (andL (andL h))
      exact as_if C.2 C.1.mon (chSs_ok a cc X _ G F (andR (andL h))) (chSs_ok b cc X _ G F (andR h))
    · cases h
  | .for_ p it b, cc, X, s, G, F, h => by
    unfold chS at h
    split at h
    · exact as_for (by rw [G.xe]; exact PassesOwn.never) G.calm (chI_ok it cc X _ _ G F (andR (andL h))) (chG_ok p cc X _ G F (andR (andL (andL h)))) (chSs_ok b cc X _ G F (andR h)) (plain_fold (andL (andL (andL h))) X.env)
    · cases h
  | .whl c b, cc, X, s, G, F, h => by
    unfold chS at h
    split at h
    · have C := chE_ok c cc X _ G F (andL h)
      exact as_while (by rw [G.xe]; exact PassesOwn.never) C.2 C.1.mon (chSs_ok b cc X _ G F (andR h))
    · cases h
  | .brk, cc, X, s, G, F, h => by
    unfold chS at h
    split at h
    · exact as_brk
    · cases h
  | .cnt, cc, X, s, G, F, h => by
    unfold chS at h
    split at h
    · exact as_cnt
    · cases h
  | .pas, cc, X, s, G, F, h => by
    unfold chS at h
    split at h
    · exact as_pass
    · cases h
  | .nev, cc, X, s, G, F, h => as_never
  | .aug i e, cc, X, s, G, F, h => by
    unfold chS at h
    split at h
    · obtain ⟨h1, h2, h3⟩ := CC.wr_ok G (andL h)
      exact as_aug G.nd h1 h2 (chE_ok e cc X _ G F (andR h)).1 h3
    · cases h
theorem chSs_ok : ∀ (c : CSs) (cc : CC) (X : Cx) (s : List Stmt), Cg P w K mg base cc X → FactsC Γ P w K mg base cc → chSs cc c s = true → ASs X s (aSs Γ c)
  | .nil, cc, X, ss, G, F, h => by
    unfold chSs at h
    rw [isNil_ok h]
    exact ass_nil
  | .cons c r, cc, X, ss, G, F, h => by
    unfold chSs at h
    split at h
    · exact ass_cons (chS_ok c cc X _ G F (andL h)) (chSs_ok r cc X _ G F (andR h))
    · cases h
  | .frz i r, cc, X, ss, G, F, h => by
    unfold chSs at h
    exact ass_frz (chSs_ok r cc X ss G F h)
end
end
end WF

open PySem L2
set_option Elab.async false
set_option linter.all false
set_option maxRecDepth 100000
set_option maxHeartbeats 2000000
/-! # part 13: defs, the law's entry, the head's facts -/
namespace WF
open PySem PySem.Spec PyProof.Rows L2
/-- the slots at a def's entry -/
@[simp] def ini (n : Nat) (ds : List D) : ASt := ds.map some ++ List.replicate (n - ds.length) none
theorem rs_ini {K : PySem.W.Frag} {Z : List Addr} {h : AH} {H : Hp} {N : List Str} {ds : List D} {vs : List V} (r : RDs K Z h H ds vs) : RS K Z h H (ini N.length ds) (L2.start N vs) := by
  have l := r.length
  unfold ini L2.start
  refine ⟨by simp [l], fun i d e => ?_⟩
  rw [List.getElem?_append] at e
  split at e
  · rename_i hi
    rw [List.getElem?_map] at e
    cases q : ds[i]? with
    | none =>
      rw [q] at e
      cases e
    | some d0 =>
      rw [q] at e
      cases e
      obtain ⟨v, e1, rv⟩ := r.get q
      refine ⟨v, ?_, rv⟩
      rw [List.getElem?_append_left (by simpa [← l] using hi), List.getElem?_map, e1]
      rfl
  · rw [List.getElem?_replicate] at e
    split at e <;> cases e
section
variable {Γ : Gam} {P : Program} {w : World} {K : PySem.W.Frag} {mg : Str → Option Value} {base : Heap}
abbrev KwT : Type := List (Nat × Nat × List Str × List Nat)
/-- a def's static surroundings -/
def ccOf (N : List Str) (scope : Scope) (i : Nat) (nm : List Str) (kw : KwT) (gl : List (Str × GV)) (gcd : Bool) : CC := ⟨N, scope, fun _ => true, i, nm, kw, gl, gcd⟩
theorem fnG_def {N ps nm : List Str} {kw : KwT} {gl : List (Str × GV)} {gcd : Bool} {i : Nat} {x : Str} {params : Arguments} {body : List Stmt} {scope : Scope} {f : Addr} {fd : FuncData} {cs : CSs} (F : FunD K x x params body scope [] [] f fd) (S : FnScope N ps scope)
    (C : Facts Γ P w K mg base nm kw gl gcd i) (hc : chSs (ccOf N scope i nm kw gl gcd) cs body = true) (hl : ps.length = (Γ i).1)
    (hv : ∀ ds h Q, (Γ i).2 ds h Q noX → aSs Γ cs { nx := fun _ h' => Q .non h', rt := Q } (ini N.length ds) h) : FnG P w K mg base (i + 1) f fd ps (lftSp K (Γ i).1 (up (Γ i).2)) := by
  refine fnG_of F S (fun vs H Q E h => ?_) fun cdv A outer s H vs Q hG hr h => ?_
  · obtain ⟨Z, ds, h, l, r, _⟩ := h
    rw [← r.length, l, hl]
  · obtain ⟨Z, ds, h, l, r, R, Q0, w0, q⟩ := h
    have G : Cg P w K mg base (ccOf N scope i nm kw gl gcd) (cxOf CX0 P w K mg base N x scope f cdv A outer s H E0).nox := ⟨rfl, rfl, rfl, rfl, rfl, rfl, S.nd, rfl, S.kind, fun _ _ => rfl, rfl, rfl, hr, hG⟩
    have A0 := chSs_ok cs _ _ body G (show FactsC Γ P w K mg base (ccOf N scope i nm kw gl gcd) from C) hc
    refine ⟨_, A0.run, Z, ini N.length ds, h, rs_ini r, R, A0.mon _ _ _ _ ?_ (hv ds h Q0 q)⟩
    exact ⟨fun σ h' e => fun σ' H' rs R k => w0 _ _ e .non H' rfl R k, fun d h' e => w0 _ _ e, fun _ _ e => e.elim, fun _ _ e => e.elim⟩
theorem FunD.kwB {x qual : Str} {params : Arguments} {body : List Stmt} {scope : Scope} {f : Addr} {fd : FuncData} {ps ks : List Str} {pm : List Nat} {n1 : Nat} (F : FunD K x qual params body scope [] [] f fd)
    (h : ∀ (kV doc pm' : Value) (an : Option Addr) (cdv ct : Value) (us ws : List Value), us.length = n1 → ws.length = ks.length → bindArgs (PySem.W.fnOf x qual params body scope .none kV doc pm' an cdv ct) ⟨us, ks.zip ws⟩ = pure (ps.zip (perm pm (us ++ ws)))) :
    ∀ (s : Shared) (us ws : List Value), us.length = n1 → ws.length = ks.length → K.In s.heap → (perm pm (us ++ ws)).length = ps.length → BindsTo s fd ⟨us, ks.zip ws⟩ (ps.zip (perm pm (us ++ ws))) := by
  obtain ⟨oc, od, dV, kV, doc, pm', an, cdv, ct, osl, rfl, lk, hcd, hD, hK⟩ := F.ex
  rcases hD with ⟨_, rfl⟩ | ⟨e, _⟩
  · exact fun s us ws l1 l2 _ _ => .of_eq (h kV doc pm' an cdv ct us ws l1 l2)
  · exact absurd rfl e
end
/-! ## the module's constants -/
def cB : Const → Value → Bool
  | .none, .none => true
  | .bool b, .bool c => b == c
  | .int i, .int j _ => decide (i = j)
  | .str x, .str y _ => decide (x = y)
  | _, _ => false
def cV : Const → V
  | .none => .non
  | .bool b => .bl b
  | .int i => .int i
  | .str x => .str x
  | _ => .non
theorem cB_ok {K : PySem.W.Frag} {Z : List Addr} {h : AH} {H : Hp} {c : Const} {u : Value} (e : cB c u = true) : RelV (cV c) u ∧ RD K Z h H (cD c) (cV c) := by
  cases c with
  | none => cases u with
    | none => exact ⟨rfl, rfl⟩
    | _ => cases e
  | bool b => cases u with
    | bool c =>
      have q : b = c := eq_of_beq (show (b == c) = true from e)
      subst q
      exact ⟨rfl, rfl⟩
    | _ => cases e
  | int i => cases u with
    | int j t =>
      have q : i = j := of_decide_eq_true e
      subst q
      exact ⟨⟨t, rfl⟩, rfl⟩
    | _ => cases e
  | str x => cases u with
    | str y t =>
      have q : x = y := of_decide_eq_true e
      subst q
      exact ⟨⟨t, rfl⟩, rfl⟩
    | _ => cases e
  | _ => cases u <;> cases e
def csB : List Const → List Value → Bool
  | [], [] => true
  | c :: cs, u :: us => cB c u && csB cs us
  | _, _ => false
theorem csB_ok {K : PySem.W.Frag} {Z : List Addr} {h : AH} {H : Hp} : ∀ {cs : List Const} {us : List Value}, csB cs us = true → Vals (cs.map cV) us ∧ RDs K Z h H (cs.map cD) (cs.map cV)
  | [], [], _ => ⟨.nil, rfl⟩
  | [], _ :: _, e => by cases e
  | _ :: _, [], e => by cases e
  | c :: cs, u :: us, e => by
    obtain ⟨a, b⟩ := cB_ok (K := K) (Z := Z) (h := h) (H := H) (andL (show (cB c u && csB cs us) = true from e))
    obtain ⟨a2, b2⟩ := csB_ok (andR (show (cB c u && csB cs us) = true from e))
    exact ⟨.cons a a2, cV c, cs.map cV, rfl, b, b2⟩
/-- the tuple at a -/
def tupAt (K : PySem.W.Frag) (a : Addr) : Option (List Value) := match K.lookup a with
  | some ⟨.type c, _, .seq its _, _⟩ => if c = "tuple" ∧ its.size ≤ sizeLine then some its.toList else none
  | _ => none
theorem tupAt_ok {K : PySem.W.Frag} {a : Addr} {us : List Value} {vs : List V} {H : Hp} (e : tupAt K a = some us) (r : Vals vs us) : SqT K H a vs := by
  unfold tupAt at e
  split at e
  · rename_i c d its n sl q
    split at e
    · rename_i hh
      cases e
      exact .inr ⟨_, its, n, q, congrArg Value.type hh.1, rfl, hh.2, r⟩
    · cases e
  · cases e
def refOf : Value → Option Addr
  | .ref a => some a
  | _ => none
def t2B (K : PySem.W.Frag) : List (List Const) → List Value → Bool
  | [], [] => true
  | c :: cs, u :: us => (match refOf u with
    | some a => (match tupAt K a with | some ws => csB c ws | none => false)
    | none => false) && t2B K cs us
  | _, _ => false
theorem t2B_ok {K : PySem.W.Frag} : ∀ {cs : List (List Const)} {us : List Value}, t2B K cs us = true → ∃ vs, Vals vs us ∧ ∀ Z h H, RDs K Z h H (cs.map fun m => .tup (m.map cD)) vs
  | [], [], _ => ⟨[], .nil, fun _ _ _ => rfl⟩
  | [], _ :: _, e => by cases e
  | _ :: _, [], e => by cases e
  | c :: cs, u :: us, e => by
    unfold t2B at e
    obtain ⟨vs, a2, b2⟩ := t2B_ok (andR e)
    have e1 := andL e
    cases u with
    | ref a =>
      have e1 : (match tupAt K a with | some ws => csB c ws | none => false) = true := e1
      cases q : tupAt K a with
      | none => rw [q] at e1; cases e1
      | some ws =>
        rw [q] at e1
        exact ⟨.ref a :: vs, .cons rfl a2, fun Z h H => ⟨.ref a, vs, rfl, ⟨a, c.map cV, rfl, tupAt_ok q (csB_ok (K := K) (Z := Z) (h := h) (H := H) e1).1, (csB_ok e1).2⟩, b2 Z h H⟩⟩
    | _ => cases e1
/-- the module's name x stands for g -/
def glB (K : PySem.W.Frag) (x : Str) (g : GV) : Bool := match PySem.W.nsIn K mainGlobals x with
  | some (some u) => (match g with
    | .c c => cB c u
    | .t1 l => (match refOf u with
      | some a => (match tupAt K a with | some ws => csB l ws | none => false)
      | none => false)
    | .t2 l => (match refOf u with
      | some a => (match tupAt K a with | some ws => t2B K l ws | none => false)
      | none => false))
  | _ => false
theorem glB_ok {K : PySem.W.Frag} {h : Heap} {mg : Str → Option Value} (X : K.In h) (G : h.Ns mainGlobals mg) {x : Str} {g : GV} (e : glB K x g = true) : ∃ u v, mg x = some u ∧ RelV v u ∧ ∀ Z h H, RD K Z h H (gD g) v := by
  unfold glB at e
  split at e
  · rename_i u q
    have m := PySem.W.mg_of X G q
    cases g with
    | c c => exact ⟨u, cV c, m, (cB_ok (K := K) (Z := []) (h := fun _ => none) (H := fun _ => none) e).1, fun Z h H => (cB_ok e).2⟩
    | t1 l =>
      cases u with
      | ref a =>
        have e : (match tupAt K a with | some ws => csB l ws | none => false) = true := e
        cases q : tupAt K a with
        | none => rw [q] at e; cases e
        | some ws =>
          rw [q] at e
          exact ⟨.ref a, .ref a, m, rfl, fun Z h H => ⟨a, l.map cV, rfl, tupAt_ok q (csB_ok (K := K) (Z := Z) (h := h) (H := H) e).1, (csB_ok e).2⟩⟩
      | _ => cases e
    | t2 l =>
      cases u with
      | ref a =>
        have e : (match tupAt K a with | some ws => t2B K l ws | none => false) = true := e
        cases q : tupAt K a with
        | none => rw [q] at e; cases e
        | some ws =>
          rw [q] at e
          obtain ⟨vs, r, rr⟩ := t2B_ok e
          exact ⟨.ref a, .ref a, m, rfl, fun Z h H => ⟨a, vs, rfl, tupAt_ok q r, rr Z h H⟩⟩
      | _ => cases e
  · cases e
/-! ## the head's Hook, with the constants -/
def exB (K : PySem.W.Frag) (gl : List (Str × GV)) (gc : Bool) : Bool := (gl.all fun q => glB K q.1 q.2) && (!gc || He.eqO (PySem.W.nsIn K mainGlobals "gcd") (some (some (.builtin "math.gcd"))))
def obsW (fa : List He.Fa) (fn : List He.DefD) (gl : List (Str × GV)) (gc : Bool) (K : PySem.W.Frag) : He.AlD := ((He.obsD fa fn K).1 && exB K gl gc, (He.obsD fa fn K).2)
def obsWG (n : Nat) (fa : List He.Fa) (fn : List He.DefD) (gl : List (Str × GV)) (gc : Bool) (g : Addr → Option Obj) : He.AlD := obsW fa fn gl gc (He.frG g (He.asD g n))
def SaysW (fa : List He.Fa) (fn : List He.DefD) (gl : List (Str × GV)) (gc : Bool) (K : PySem.W.Frag) : Prop := obsW fa fn gl gc K = He.valD fn
def hookW (n : Nat) (fa : List He.Fa) (fn : List He.DefD) (gl : List (Str × GV)) (gc : Bool) : PySem.W.Hook where
  α := He.AlD
  obs := fun s => obsWG n fa fn gl gc s.heap.get?
  val := fun _ => He.valD fn
  says := fun _ h => ∃ K : PySem.W.Frag, K.In h ∧ SaysW fa fn gl gc K
  of := fun _ _ e => ⟨_, He.frG_in, e⟩
  keeps := fun _ _ _ ⟨K, hK, c⟩ k => ⟨K, PySem.W.Frag.In.keeps hK k, c⟩
theorem obsWG_eq {n : Nat} {fa : List He.Fa} {fn : List He.DefD} {gl : List (Str × GV)} {gc : Bool} {g : Addr → Option Obj} {s : Shared} (h : ∀ a, g a = s.heap.get? a) : obsWG n fa fn gl gc g = (hookW n fa fn gl gc).obs s := by
  have e : g = s.heap.get? := funext h
  rw [e] <;> rfl
section
variable {fa : List He.Fa} {fn : List He.DefD} {gl : List (Str × GV)} {gc : Bool} {K : PySem.W.Frag}
theorem SaysW.d (c : SaysW fa fn gl gc K) : He.SaysD fa fn K := by
  have c1 : ((He.obsD fa fn K).1 && exB K gl gc) = true := congrArg Prod.fst (show obsW fa fn gl gc K = He.valD fn from c)
  have c2 := congrArg Prod.snd (show obsW fa fn gl gc K = He.valD fn from c)
  exact Prod.ext (andL c1) c2
theorem SaysW.ex (c : SaysW fa fn gl gc K) : exB K gl gc = true := andR (show ((He.obsD fa fn K).1 && exB K gl gc) = true from congrArg Prod.fst (show obsW fa fn gl gc K = He.valD fn from c))
end
/-! ## the law's entry -/
/-- H tracks the script at a, as an object that no one changes, or nothing at all (then the script is one of the module's own) -/
structure Tracks (P : Program) (w : World) (K : PySem.W.Frag) (H : Hp) (hp : Heap) (a : Addr) (xs : List V) : Prop where
  seq : SqL K H a xs
  hok : HOk P w H hp
  one : ∀ b u, H b = some u → b = a ∧ K.lookup a = none ∧ ∃ o, u = .frz o (.lst xs)
section
variable {P : Program} {w : World} {K : PySem.W.Frag} {H : Hp} {hp : Heap} {a : Addr} {xs : List V} {its : Array Value}
/-- what is no list is not hidden -/
theorem Tracks.free (t : Tracks P w K H hp a xs) (ha : hp.get? a = some { cls := .type "list", data := .seq its }) {b : Addr} {o : Obj} (e : hp.get? b = some o) (n : (∃ es ep, o.data = .dict es ep) ∨ K.lookup b = some o) : H b = none := by
  cases q : H b with
  | none => rfl
  | some u =>
    obtain ⟨rfl, k, _⟩ := t.one b u q
    rcases n with ⟨es, ep, d⟩ | n
    · rw [ha] at e
      cases e
      cases d
    · rw [k] at n
      cases n
theorem Tracks.ns (t : Tracks P w K H hp a xs) (ha : hp.get? a = some { cls := .type "list", data := .seq its }) {b : Addr} {m : Str → Option Value} (h : hp.Ns b m) : (hidT hp H).Ns b m := by
  obtain ⟨o, es, ep, e, d, r⟩ := h
  exact ⟨o, es, ep, hidT_get e (t.free ha e (.inl ⟨es, ep, d⟩)), d, r⟩
theorem Tracks.kin (t : Tracks P w K H hp a xs) (ha : hp.get? a = some { cls := .type "list", data := .seq its }) (h : K.In hp) : K.In (hidT hp H) := fun b o e => hidT_get (h b o e) (t.free ha (h b o e) (.inr e))
/-- a script in the state can be tracked -/
theorem tracks_some {us : List Value} {ns : List Int} (KX : K.In hp) (ha : hp.get? a = some { cls := .type "list", data := .seq us.toArray }) (hi : IntsAre us ns) (hl : ns.length ≤ sizeLine) : ∃ H, Tracks P w K H hp a (ns.map V.int) := by
  have rv := vals_ints hi
  cases q : K.lookup a with
  | some o =>
    have := (KX a o q).symm.trans ha
    cases this
    refine ⟨fun _ => none, ⟨.inr ⟨_, us.toArray, _, q, rfl, rfl, rfl, ?_, by simpa using rv⟩, fun b u z => (nomatch (z : (none : Option HO) = some u)), fun b u z => (nomatch (z : (none : Option HO) = some u))⟩⟩
    simpa [hi.length] using hl
  | none =>
    let F : HO := .frz { cls := .type "list", data := .seq us.toArray } (.lst (ns.map V.int))
    have at_ : ∀ b u, (if b = a then some F else none) = some u → b = a ∧ u = F := fun b u z => by
      split at z
      · cases z
        exact ⟨by assumption, rfl⟩
      · cases z
    refine ⟨fun b => if b = a then some F else none, ⟨.inl (.inr ⟨_, if_pos rfl⟩), fun b u z => ?_, fun b u z => ?_⟩⟩
    · obtain ⟨rfl, rfl⟩ := at_ b u z
      exact ⟨ha, by simpa using hl, us, _, rv, ha⟩
    · obtain ⟨rfl, rfl⟩ := at_ b u z
      exact ⟨rfl, q, _, rfl⟩
end
/-- the law's def, called by the claim on its script: its promise makes the row -/
theorem law_entry {P : Program} {w : World} {K : PySem.W.Frag} {mg mb : Str → Option Value} {k : Nat} {fa a : Addr} {fd : FuncData} {x : Str} {sp : Sp} {s : Shared} {us : List Value} {ns : List Int} (KX : K.In s.heap)
    (g : s.heap.Ns mainGlobals mg) (b : s.heap.Ns builtinsNs mb ∧ ∀ x : Str, x ≠ "__name__" → mb x = bootBuiltins x) (nl : s.heap.NoLimit) (ng : s.gens = #[]) (ha : s.heap.get? a = some { cls := .type "list", data := .seq us.toArray })
    (hi : IntsAre us ns) (hl : ns.length ≤ sizeLine) (hr : Room k callerA) (F : ∀ base : Heap, FnG P w K mg base k fa fd [x] sp) (hb : ∀ (s : Shared) (u : Value), BindsTo s fd ⟨[u], []⟩ [(x, u)])
    (hsp : ∀ H : Hp, SqL K H a (ns.map V.int) → sp [.ref a] H (fun v _ => v = .bl true) E0) :
    codeAny (model P w) callerA (.call (.ref fa) ⟨[.ref a], []⟩) (fun r s' => r = .ok (.ret (.bool true)) ∧ OldK s.heap s'.heap ∧ s'.os = s.os ∧ AllBare s'.gens) s := by
  obtain ⟨H, t⟩ := tracks_some (P := P) (w := w) KX ha hi hl
  have md : Mod K mg (hidT s.heap H) := ⟨t.kin ha KX, t.ns ha g, ⟨mb, t.ns ha b.1, b.2⟩, nl.elim fun mc z => ⟨mc, t.ns ha z.1, z.2⟩⟩
  have env : Env0 P w K mg (hidT s.heap H) callerA [] s H := by
    refine ⟨rfl, md, fun _ _ z => of_hidT z, ?_, trivial, ?_, t.hok, AllBare.of_eq ng⟩
    · exact Nat.le_of_eq (hidT_size s.heap H)
    · intro c hc
      cases hc
  refine codeAny_mono ((F _).run callerA [] s H ⟨[.ref a], []⟩ [.ref a] [.ref a] _ rfl hr env (hb s (.ref a)) (.cons rfl .nil) (hsp H t.seq)) ?_
  intro r s' h
  match r, h with
  | .ok (.ret u), ⟨v, H', os, bare, un, hok2, rv, qv⟩ =>
    have qv : v = .bl true := qv
    subst qv
    cases (rv : u = Value.bool true)
    refine ⟨rfl, OldK.of_keep ?_, os, bare⟩
    intro c o e
    cases q : H c with
    | none => exact un.keep c o e q (fun z => nomatch z) (fun z => nomatch z)
    | some y =>
      obtain ⟨rfl, _, ob, rfl⟩ := t.one c y q
      have before := (t.hok c _ q).1
      have after := (hok2 c _ (un.frzs c ob _ q)).1
      rw [before] at e
      cases e
      exact after
end WF

open PySem L2
set_option Elab.async false
set_option linter.all false
set_option maxRecDepth 100000
set_option maxHeartbeats 2000000
/-! # part 14: a whole law -/
namespace WF
open PySem PySem.Spec PyProof.Rows L2
/-- the def at the head of a row -/
def dd (x : Str) (st : Stmt) : He.DefD := ⟨(x, none), x, x, defArgs st, defBody st, defScope st, [], []⟩
def AllOf {α : Type} (p : α → Prop) : List α → Prop
  | [] => True
  | x :: xs => p x ∧ AllOf p xs
theorem AllOf.get {α : Type} {p : α → Prop} : ∀ {l : List α}, AllOf p l → ∀ x ∈ l, p x
  | [], _, x, m => by cases m
  | y :: ys, h, x, m => by
    rcases List.mem_cons.mp m with e | e
    · rw [e]; exact h.1
    · exact AllOf.get h.2 x e
/-- all that is asked of the i-th def -/
structure DefC (Γ : Gam) (nm : List Str) (kw : KwT) (gl : List (Str × GV)) (gc : Bool) (i : Nat) (x : Str) (st : Stmt) : Prop where
  ex : ∃ (N ps : List Str) (cs : CSs), FnScope N ps (defScope st) ∧ ps.length = (Γ i).1 ∧ chSs (ccOf N (defScope st) i nm kw gl gc) cs (defBody st) = true ∧
    (∀ ds h Q, (Γ i).2 ds h Q noX → aSs Γ cs { nx := fun _ h' => Q .non h', rt := Q } (ini N.length ds) h) ∧
    (∀ (kV doc pm : Value) (an : Option Addr) (cdv ct : Value) (us : List Value), us.length = ps.length → bindArgs (PySem.W.fnOf x x (defArgs st) (defBody st) (defScope st) .none kV doc pm an cdv ct) ⟨us, []⟩ = pure (ps.zip us)) ∧
    AllOf (fun q : Nat × Nat × List Str × List Nat => ∀ (kV doc pm : Value) (an : Option Addr) (cdv ct : Value) (us ws : List Value), us.length = q.2.1 → ws.length = q.2.2.1.length → bindArgs (PySem.W.fnOf x x (defArgs st) (defBody st) (defScope st) .none kV doc pm an cdv ct) ⟨us, q.2.2.1.zip ws⟩ = pure (ps.zip (perm q.2.2.2 (us ++ ws)))) (kw.filter fun q => q.1 == i)
section
variable {Γ : Gam} {P : Program} {w : World} {K : PySem.W.Frag} {mg : Str → Option Value} {base : Heap} {nm : List Str} {kw : KwT} {gl : List (Str × GV)} {gc : Bool}
theorem DefC.fnG {i : Nat} {x : Str} {st : Stmt} (D : DefC Γ nm kw gl gc i x st) (C : Facts Γ P w K mg base nm kw gl gc i) {f : Addr} {fd : FuncData} (F : FunD K x x (defArgs st) (defBody st) (defScope st) [] [] f fd) :
    ∃ ps : List Str, ps.length = (Γ i).1 ∧ FnG P w K mg base (i + 1) f fd ps (lftSp K (Γ i).1 (up (Γ i).2)) ∧ Binds K fd ps [] ∧ (∀ (s : Shared) (us : List Value), us.length = ps.length → BindsTo s fd ⟨us, []⟩ (ps.zip us)) ∧
      ∀ q ∈ (kw.filter fun q => q.1 == i).map (·.2), ∀ (s : Shared) (us ws : List Value), us.length = q.1 → ws.length = q.2.1.length → K.In s.heap → (perm q.2.2 (us ++ ws)).length = ps.length → BindsTo s fd ⟨us, q.2.1.zip ws⟩ (ps.zip (perm q.2.2 (us ++ ws))) := by
  obtain ⟨N, ps, cs, S, l, c, v, b, k⟩ := D.ex
  refine ⟨ps, l, fnG_def F S C c l v, FunD.bindsN F b, FunD.bindsA F b, ?_⟩
  rintro q hq
  obtain ⟨q0, hq0, rfl⟩ := List.mem_map.mp hq
  exact FunD.kwB F (k.get q0 hq0)
/-- the facts grow def by def -/
theorem facts_at {fn : List (Str × Stmt)} {fa : List He.Fa} (X : ∃ h : Heap, K.In h ∧ h.Ns mainGlobals mg) (c : SaysW fa (fn.map fun q => dd q.1 q.2) gl gc K) (hn : nm = fn.map (·.1)) (hg : ∀ x ∈ nm, He.Fa.glo x ∈ fa) (hf : ∀ x ∈ builtinNames, He.Fa.free x ∈ fa)
    (D : ∀ i x st, fn[i]? = some (x, st) → DefC Γ nm kw gl gc i x st) : ∀ i, i ≤ fn.length → Facts Γ P w K mg base nm kw gl gc i := by
  obtain ⟨h, KX, G⟩ := X
  have fact : ∀ f ∈ fa, f.ok K = true := fun f m => by
    obtain ⟨j, hj, e⟩ := List.mem_iff_getElem.mp m
    exact c.d.fact j (by rw [← e]; exact List.getElem?_eq_getElem hj)
  have ex := c.ex
  unfold exB at ex
  have b1 : ∀ x ∈ builtinNames, mg x = none := fun x m => He.free_ok KX G (fact _ (hf x m))
  have b2 : gc = true → mg "gcd" = some (.builtin "math.gcd") := fun e => by
    subst e
    exact PySem.W.mg_of KX G (He.eqO_ok (by simpa using andR ex))
  have b3 : ∀ x g, gl.lookup x = some g → ∃ u v, mg x = some u ∧ RelV v u ∧ ∀ Z h H, RD K Z h H (gD g) v := fun x g e => glB_ok KX G (List.all_eq_true.mp (andL ex) (x, g) (PySem.mem_of_lookup e))
  intro i
  induction i with
  | zero => exact fun _ => ⟨b1, b2, b3, fun k x lt => absurd lt (Nat.not_lt_zero _)⟩
  | succ i ih =>
    intro le
    have C := ih (by omega)
    refine ⟨b1, b2, b3, fun k x lt e => ?_⟩
    by_cases z : k < i
    · exact C.fn k x z e
    · have ek : k = i := by omega
      subst ek
      rw [hn, List.getElem?_map] at e
      cases q : fn[k]? with
      | none => rw [q] at e; cases e
      | some p =>
        obtain ⟨y, st⟩ := p
        rw [q] at e
        cases e
        obtain ⟨fd, F⟩ := c.d.def_ k (d := dd y st) (by rw [List.getElem?_map, q]; rfl)
        have m : mg y = some (.ref (He.ga K y)) := He.glo_ok KX G (fact _ (hg y (by rw [hn]; exact List.mem_map.mpr ⟨_, List.mem_of_getElem? q, rfl⟩)))
        obtain ⟨ps, l, f1, f2, _, f3⟩ := (D k y st q).fnG C F
        exact ⟨⟨_, fd, ps, m, F.kp, f2, f1, f3⟩⟩
end
/-- the promise of a law -/
def spLaw (n : Nat) : ASp := fun ds h Q _ => ∃ ns : List Int, ns.length ≤ n ∧ ds = [.lst (ns.map D.int)] ∧ ∀ h', Q (.bl true) h'
theorem walk_ofW {l : PySem.W.OpenLaw} {n : Nat} {q : Program} {loose : List Str} {XP : (Str → Option Value) → Heap → Prop} {d : DefRec} {Γ : Gam} {nm : List Str} {kw : KwT} {gl : List (Str × GV)} {gc : Bool} {fn : List (Str × Stmt)} {fa : List He.Fa} {k : Nat} {st : Stmt} {x : Str} {ix : Nat}
    (hn : l.most = some n) (hn2 : n ≤ sizeLine) (hdf : d.params.defaults = []) (hr : Room (k + 1) callerA) (hx : d.name = x) (hk : fn[k]? = some (x, st)) (hsp : Γ k = (1, spLaw n))
    (hnm : nm = fn.map (·.1)) (hg : ∀ x ∈ nm, He.Fa.glo x ∈ fa) (hf : ∀ x ∈ builtinNames, He.Fa.free x ∈ fa) (DC : ∀ i x st, fn[i]? = some (x, st) → DefC Γ nm kw gl gc i x st) :
    PySem.W.WalkO q loose XP (fun w h => (hookW ix fa (fn.map fun q => dd q.1 q.2) gl gc).says w h) l.row.toRowW d [] (fun f vs => PySem.call f vs) := by
  refine Att.attach_call hn hdf fun w s₀ s₁ mg mb fad o pm cd doc a vs ns G Y ho hd hcd hmg hobj hints hlen hgn => ?_
  obtain ⟨K, KX, c⟩ := Y
  obtain ⟨fd, F⟩ := c.d.def_ k (d := dd x st) (by rw [List.getElem?_map, hk]; rfl)
  have C : ∀ base : Heap, Facts Γ l.prog w K mg base nm kw gl gc k := fun base => facts_at ⟨_, KX, G.T.g⟩ c hnm hg hf DC k (Nat.le_of_lt (List.getElem?_eq_some_iff.mp hk).1)
  have mm : mg x = some (.ref (He.ga K x)) := by
    have m : He.Fa.glo x ∈ fa := hg x (by rw [hnm]; exact List.mem_map.mpr ⟨_, List.mem_of_getElem? hk, rfl⟩)
    obtain ⟨j, hj, e⟩ := List.mem_iff_getElem.mp m
    exact He.glo_ok KX G.T.g (c.d.fact j (by rw [← e]; exact List.getElem?_eq_getElem hj))
  rw [hx, mm] at hmg
  cases hmg
  obtain ⟨N, ps, cs, S, lp, ch, v, b, kk⟩ := (DC k x st hk).ex
  rw [hsp] at lp
  obtain ⟨p, rfl⟩ : ∃ p, ps = [p] := by
    match ps, lp with
    | [p], _ => exact ⟨p, rfl⟩
  have fg : ∀ base : Heap, FnG l.prog w K mg base (k + 1) (He.ga K x) fd [p] (lftSp K (Γ k).1 (up (Γ k).2)) := fun base => fnG_def F S (C base) ch (by rw [hsp]; rfl) v
  refine law_entry KX G.T.g ⟨G.T.b, G.T.builtins⟩ G.T.nolimit hgn hobj hints (Nat.le_trans hlen hn2) hr fg (fun s u => FunD.bindsA F b s [u] rfl) fun H hS => ?_
  rw [hsp]
  have sl : SL K [] (fun _ => none) H a (ns.map V.int) := by
    rcases hS with z | z
    · exact .inl ⟨z, rfl, by simp⟩
    · exact .inr (.inr z)
  have rd : RDs K [] (fun _ => none) H [D.lst (ns.map D.int)] [.ref a] := RDs.one ⟨a, ns.map V.int, rfl, sl, rds_ints ns⟩
  have rh : RH K [] (fun _ => none) H := ⟨fun a ds e => (by cases e), fun a m => absurd m (by simp)⟩
  refine ⟨[], [D.lst (ns.map D.int)], fun _ => none, rfl, rd, rh, fun d _ => d = .bl true, fun d h' e v H' r _ _ => ?_, ns, hlen, rfl, fun _ => rfl⟩
  subst e
  exact r
end WF

open PySem L2
set_option Elab.async false
set_option linter.all false
set_option maxRecDepth 100000
set_option maxHeartbeats 2000000
/-! # part 15: what has no part in the heap, as a plain function -/
namespace WF
open PySem PySem.Spec PyProof.Rows L2
abbrev PF := List D → Option D
@[simp] def noF : PF := fun _ => none
instance {i j : Int} : Decidable (MulOk i j) := inferInstanceAs (Decidable (_ < _))
instance {j : Int} : Decidable (DivOk j) := inferInstanceAs (Decidable (_ ∧ _))
instance {p : PyData} : Decidable (ROk p) := inferInstanceAs (Decidable (_ ∧ _ ∧ _))
@[simp] def seqE : D → Option (List D)
  | .tup ds => some ds
  | .lst ds => some ds
  | _ => none
@[simp] def lstE : D → Option (List D)
  | .lst ds => some ds
  | _ => none
@[simp] def intE : D → Option Int
  | .int i => some i
  | _ => none
@[simp] def blE : D → Option Bool
  | .bl b => some b
  | _ => none
@[simp] def intsE : List D → Option (List Int)
  | [] => some []
  | d :: ds => (intE d).bind fun i => (intsE ds).map fun r => i :: r
@[simp] def blsE : List D → Option (List Bool)
  | [] => some []
  | d :: ds => (blE d).bind fun i => (blsE ds).map fun r => i :: r
@[simp] def addE : D → D → Option D
  | .int i, .int j => some (.int (i + j))
  | .str a, .str b => if a.length + b.length ≤ sizeLine then some (.str (a ++ b)) else none
  | .tup xs, .tup ys => if xs.length + ys.length ≤ sizeLine then some (.tup (xs ++ ys)) else none
  | .lst xs, .lst ys => if xs.length + ys.length ≤ sizeLine then some (.lst (xs ++ ys)) else none
  | _, _ => none
@[simp] def subE : D → D → Option D
  | .int i, .int j => some (.int (i - j))
  | .bl a, .bl b => some (.int ((if a then 1 else 0) - (if b then 1 else 0)))
  | _, _ => none
@[simp] def mulE : D → D → Option D
  | .int i, .int j => if MulOk i j then some (.int (i * j)) else none
  | _, _ => none
@[simp] def divE : D → D → Option D
  | .int i, .int j => if DivOk j then some (.int (i / j)) else none
  | _, _ => none
@[simp] def modE : D → D → Option D
  | .int i, .int j => if 0 < j then some (.int (i % j)) else none
  | _, _ => none
@[simp] def powE : D → D → Option D
  | .int i, .int j => if 0 ≤ j ∧ j ≤ 1000000 ∧ i.natAbs < 2 ^ 64 then some (.int (i ^ j.toNat)) else none
  | _, _ => none
@[simp] def opE (m : Bool) : Operator → D → D → Option D
  | .Add => fun x y => match m with
    | false => addE x y
    | true => none
  | .Sub => subE
  | .Mult => mulE
  | .FloorDiv => divE
  | .Mod => modE
  | .Pow => powE
  | _ => fun _ _ => none
@[simp] def relE (p : Int → Int → Bool) : D → D → Option D
  | .int i, .int j => some (.bl (p i j))
  | _, _ => none
def eqP (p q : PyData) : Option Bool := if SeqAt.shaped p = true ∧ SeqAt.shaped q = true then some (PyData.eqv p q) else none
def eqD (neg : Bool) (x y : D) : Option D := (pd0 x).bind fun p => (pd0 y).bind fun q => (eqP p q).map fun b => .bl (if neg then !b else b)
def eqE (neg : Bool) (x y : D) : Option D := match x, y with
  | .str a, .str b => some (.bl (if neg then !decide (a = b) else decide (a = b)))
  | x, y => eqD neg x y
@[simp] def isE (neg : Bool) : D → D → Option D
  | x, .non => some (.bl (if neg then !isNon x else isNon x))
  | .bl a, .bl b => some (.bl (if neg then !(decide (a = b)) else decide (a = b)))
  | _, _ => none
@[simp] def cmpE : CmpOp → D → D → Option D
  | .Eq => eqE false
  | .NotEq => eqE true
  | .Lt => relE fun i j => decide (i < j)
  | .LtE => relE fun i j => decide (i ≤ j)
  | .Gt => relE fun i j => decide (j < i)
  | .GtE => relE fun i j => decide (j ≤ i)
  | .Is => isE false
  | .IsNot => isE true
  | _ => fun _ _ => none
@[simp] def negE : D → Option D
  | .int i => some (.int (-i))
  | _ => none
@[simp] def ixE : D → D → Option D
  | x, .int i => (seqE x).bind fun ds => atI ds i
  | _, _ => none
@[simp] def okTyE : D → Bool
  | .ref _ => false
  | .ty _ => false
  | _ => true
def reprE (x : D) : Option D := (pd0 x).bind fun p => if ROk p then some (.str p.shown) else none
@[simp] def biE : BI → List D → Option D
  | .len, [x] => (seqE x).map fun ds => .int ds.length
  | .tuple, [x] => (seqE x).map .tup
  | .list false, [x] => (seqE x).map .lst
  | .abs, [.int i] => some (.int i.natAbs)
  | .int, [.int i] => some (.int i)
  | .int, [.bl b] => some (.int (if b then 1 else 0))
  | .divmod, [.int i, .int j] => if 0 < j ∧ j < 1073741824 then some (.tup [.int (i / j), .int (i % j)]) else none
  | .all, [x] => (lstE x).bind fun ds => (blsE ds).map fun bs => .bl (bs.all id)
  | .any, [x] => (lstE x).bind fun ds => (blsE ds).map fun bs => .bl (bs.any id)
  | .sum, [x] => (lstE x).bind fun ds => (intsE ds).map fun ns => .int ns.sum
  | .min, [.int i, .int j] => some (.int (if j < i then j else i))
  | .min, [.int a, .int b, .int c, .int d] => some (.int (min a (min b (min c d))))
  | .max, [.int i, .int j] => some (.int (if j > i then j else i))
  | .isi, [x, .ty T] => if okTyE x = true ∧ T ∈ ["int", "bool", "tuple", "list", "str", "dict"] then some (.bl (isaB (tyN x) T)) else none
  | .repr, [x] => reprE x
  | _, _ => none
@[simp] def gcdE : List D → Option D
  | [.int i, .int j] => some (.int ((Nat.gcd i.natAbs j.natAbs : Nat) : Int))
  | _ => none
@[simp] def cutE (m : Bool) (x : D) (lo hi : Option Int) : Option D := match x with
  | .tup ds => some (.tup (cutG ds lo hi))
  | .lst ds => if m = true then none else some (.lst (cutG ds lo hi))
  | _ => none
@[simp] def evLc (step : D → Option (Option D)) : List D → Option (List D)
  | [] => some []
  | d :: ds => (step d).bind fun o => (evLc step ds).map fun r => match o with
    | some y => y :: r
    | none => r
mutual
@[simp] def evP : CP → D → ASt → Option ASt
  | .nm i, d, σ => some (σ.set i (some d))
  | .tp ps, d, σ => (seqE d).bind fun ds => if ds.length = lenPs ps then evPs ps ds σ else none
  | .sb _ _, _, _ => none
@[simp] def evPs : CPs → List D → ASt → Option ASt
  | .nil, ds, σ => match ds with
    | [] => some σ
    | _ :: _ => none
  | .cons p r, ds, σ => match ds with
    | d :: ds => (evP p d σ).bind fun σ' => evPs r ds σ'
    | [] => none
end
section
variable (Φ : Nat → PF)
mutual
def ev (σ : ASt) : CE → Option D
  | .cst c => some (cD c)
  | .var i => (σ[i]?).bind id
  | .glo _ g => some (gD g)
  | .ty n => some (.ty n)
  | .bin op m a b => (ev σ a).bind fun x => (ev σ b).bind fun y => opE m op x y
  | .neg a => (ev σ a).bind negE
  | .nt a => (ev σ a).bind fun x => (blE x).map fun b => .bl (!b)
  | .cmp op a b => (ev σ a).bind fun x => (ev σ b).bind fun y => cmpE op x y
  | .chn o1 o2 a b c => (ev σ a).bind fun x => (ev σ b).bind fun y => (cmpE o1 x y).bind fun z => (blE z).bind fun k => if k = true then (ev σ c).bind fun w => cmpE o2 y w else some (.bl false)
  | .con op es => evCon σ op es
  | .ife c a b => (ev σ c).bind fun x => (blE x).bind fun k => if k = true then ev σ a else ev σ b
  | .tup es => (evA σ es).bind fun ds => if ds.length ≤ sizeLine then some (.tup ds) else none
  | .lst m es => (evA σ es).bind fun ds => if ds.length ≤ sizeLine ∧ m = false then some (.lst ds) else none
  | .idx a i => (ev σ a).bind fun x => (ev σ i).bind fun y => ixE x y
  | .cut m a lo hi => (ev σ a).bind fun x => (evO σ lo).bind fun l => (evO σ hi).bind fun u => cutE m x l u
  | .rev m a => (ev σ a).bind fun x => (lstE x).bind fun ds => if m = true then none else some (.lst ds.reverse)
  | .fn k es => (evA σ es).bind (Φ k)
  | .fnK k es _ ws pm => (evA σ es).bind fun ds => (evA σ ws).bind fun us => Φ k (perm pm (ds ++ us))
  | .bi b es => (evA σ es).bind (biE b)
  | .gcd es => (evA σ es).bind gcdE
  | .met _ _ _ => none
  | .lc m p it tt e own => if m = true then none else (evI σ it).bind fun ds => if ds.length ≤ sizeLine then
      (evLc (fun d => (evP p d (wipeA σ (own.map (·.2)))).bind fun σ2 => (match tt with
        | .nil => some true
        | .cons c _ => (ev σ2 c).bind blE).bind fun k => if k = true then (ev σ2 e).map some else some none) ds).map .lst else none
@[simp] def evCon (σ : ASt) (op : BoolOp) : CA → Option D
  | .nil => none
  | .cons e .nil => ev σ e
  | .cons e r => (ev σ e).bind fun x => (blE x).bind fun k => match op with
    | .And => if k = true then evCon σ op r else some (.bl false)
    | .Or => if k = true then some (.bl true) else evCon σ op r
@[simp] def evA (σ : ASt) : CA → Option (List D)
  | .nil => some []
  | .cons e r => (ev σ e).bind fun x => (evA σ r).map fun xs => x :: xs
@[simp] def evO (σ : ASt) : CO → Option (Option Int)
  | .no => some none
  | .pt e => (ev σ e).bind fun x => (intE x).map some
@[simp] def evI (σ : ASt) : CI → Option (List D)
  | .seq e => (ev σ e).bind seqE
  | .rng es => match es with
    | .cons e .nil => (ev σ e).bind fun x => (intE x).bind fun j => if -(2 ^ 62) ≤ j ∧ j < 2 ^ 62 then some (rngD 0 j.toNat) else none
    | .cons a (.cons b .nil) => (ev σ a).bind fun x => (intE x).bind fun i => (ev σ b).bind fun y => (intE y).bind fun j => if -(2 ^ 62) ≤ i ∧ i < 2 ^ 62 ∧ -(2 ^ 62) ≤ j ∧ j < 2 ^ 62 then some (rngD i (j - i).toNat) else none
    | _ => none
end
end
/-! ## statements -/
inductive Res where
  | nx (σ : ASt) | rt (d : D) | bk (σ : ASt) | ct (σ : ASt)
@[simp] def evFor (step : D → ASt → Option Res) : List D → ASt → Option Res
  | [], σ => some (.nx σ)
  | d :: ds, σ => (step d σ).bind fun r => match r with
    | .nx σ' => evFor step ds σ'
    | .ct σ' => evFor step ds σ'
    | .bk σ' => some (.nx σ')
    | .rt d => some (.rt d)
/-- a while loop, n turns at most -/
def evWh (test : ASt → Option Bool) (body : ASt → Option Res) : Nat → ASt → Option Res
  | 0, _ => none
  | n + 1, σ => (test σ).bind fun k => if k = true then (body σ).bind fun r => match r with
      | .nx σ' => evWh test body n σ'
      | .ct σ' => evWh test body n σ'
      | .bk σ' => some (.nx σ')
      | .rt d => some (.rt d)
    else some (.nx σ)
open Classical in
/-- .. as long as it takes -/
noncomputable def evWhile (test : ASt → Option Bool) (body : ASt → Option Res) (σ : ASt) : Option Res := if h : ∃ n r, evWh test body n σ = some r then some (choose (choose_spec h)) else none
theorem evWh_mono {test : ASt → Option Bool} {body : ASt → Option Res} : ∀ {n m : Nat} {σ : ASt} {r : Res}, n ≤ m → evWh test body n σ = some r → evWh test body m σ = some r
  | 0, _, _, _, _, h => by cases h
  | n + 1, 0, _, _, l, _ => by omega
  | n + 1, m + 1, σ, r, l, h => by
    unfold evWh at h ⊢
    cases q : test σ with
    | none => rw [q] at h; cases h
    | some k =>
      rw [q] at h
      simp only [Option.bind_some] at h ⊢
      cases k with
      | false => exact h
      | true =>
        simp only [if_true] at h ⊢
        cases q2 : body σ with
        | none => rw [q2] at h; cases h
        | some r2 =>
          rw [q2] at h
          simp only [Option.bind_some] at h ⊢
          cases r2 with
          | nx σ' => exact evWh_mono (by omega) h
          | ct σ' => exact evWh_mono (by omega) h
          | bk σ' => exact h
          | rt d => exact h
theorem evWhile_of {test : ASt → Option Bool} {body : ASt → Option Res} {n : Nat} {σ : ASt} {r : Res} (h : evWh test body n σ = some r) : evWhile test body σ = some r := by
  have ex : ∃ n r, evWh test body n σ = some r := ⟨n, r, h⟩
  unfold evWhile
  rw [dif_pos ex]
  have s := Classical.choose_spec (Classical.choose_spec ex)
  have a := evWh_mono (Nat.le_max_left n (Classical.choose ex)) h
  have b := evWh_mono (Nat.le_max_right n (Classical.choose ex)) s
  exact b.symm.trans a
theorem evWhile_ex {test : ASt → Option Bool} {body : ASt → Option Res} {σ : ASt} {r : Res} (h : evWhile test body σ = some r) : ∃ n, evWh test body n σ = some r := by
  unfold evWhile at h
  split at h
  · rename_i ex
    cases h
    exact ⟨_, Classical.choose_spec (Classical.choose_spec ex)⟩
  · cases h
def tst (Φ : Nat → PF) (c : CE) : ASt → Option Bool := fun σ => (ev Φ σ c).bind blE
def stp (p : CP) (f : ASt → Option Res) : D → ASt → Option Res := fun d σ => (evP p d σ).bind f
theorem tst_def (Φ : Nat → PF) (c : CE) (σ : ASt) : tst Φ c σ = (ev Φ σ c).bind blE := rfl
@[simp] theorem stp_def (p : CP) (f : ASt → Option Res) (d : D) (σ : ASt) : stp p f d σ = (evP p d σ).bind f := rfl
section
variable (Φ : Nat → PF)
mutual
noncomputable def evS : CS → ASt → Option Res
  | .asg p e, σ => (ev Φ σ e).bind fun d => (evP p d σ).map .nx
  | .par2 i j es, σ => (evA Φ σ es).bind fun ds => match ds with
    | [v, w] => some (.nx ((σ.set i (some v)).set j (some w)))
    | _ => none
  | .par3 i j l es, σ => (evA Φ σ es).bind fun ds => match ds with
    | [u, v, w] => some (.nx (((σ.set i (some u)).set j (some v)).set l (some w)))
    | _ => none
  | .ret e, σ => (ev Φ σ e).map .rt
  | .retN, σ => some (.rt .non)
  | .expr e, σ => (ev Φ σ e).map fun _ => .nx σ
  | .ife c a b, σ => (ev Φ σ c).bind fun x => (blE x).bind fun k => if k = true then evSs a σ else evSs b σ
  | .for_ p it b, σ => (evI Φ σ it).bind fun ds => evFor (stp p (evSs b)) ds σ
  | .whl c b, σ => evWhile (tst Φ c) (evSs b) σ
  | .brk, σ => some (.bk σ)
  | .cnt, σ => some (.ct σ)
  | .pas, σ => some (.nx σ)
  | .nev, _ => none
  | .aug i e, σ => ((σ[i]?).bind id).bind fun x => (intE x).bind fun a => (ev Φ σ e).bind fun y => (intE y).map fun b => .nx (σ.set i (some (.int (a + b))))
@[simp] noncomputable def evSs : CSs → ASt → Option Res
  | .nil, σ => some (.nx σ)
  | .cons s r, σ => (evS s σ).bind fun z => match z with
    | .nx σ' => evSs r σ'
    | .rt d => some (.rt d)
    | .bk σ' => some (.bk σ')
    | .ct σ' => some (.ct σ')
  | .frz _ _, _ => none
end
/-- a def as a function; n: its slots -/
@[simp] noncomputable def evDef (n k : Nat) (c : CSs) : PF := fun ds => if ds.length = k then (evSs Φ c (ini n ds)).bind fun r => match r with
  | .rt d => some d
  | .nx _ => some .non
  | _ => none else none
end
end WF

open PySem L2
set_option Elab.async false
set_option linter.all false
set_option maxRecDepth 100000
set_option maxHeartbeats 2000000
/-! # part 16: .. it is what the text means -/
namespace WF
open PySem PySem.Spec PyProof.Rows L2
theorem bnd {α β : Type} {x : Option α} {f : α → Option β} {b : β} (h : x.bind f = some b) : ∃ a, x = some a ∧ f a = some b := Option.bind_eq_some_iff.mp h
theorem mpd {α β : Type} {x : Option α} {f : α → β} {b : β} (h : x.map f = some b) : ∃ a, x = some a ∧ f a = b := Option.map_eq_some_iff.mp h
theorem iteS {α : Type} {c : Prop} [Decidable c] {x : Option α} {b : α} (h : (if c then x else none) = some b) : c ∧ x = some b := by
  split at h
  · exact ⟨by assumption, h⟩
  · cases h
theorem seqE_ok {x : D} {ds : List D} {h : AH} (e : seqE x = some ds) : seqA h x = some ds := by cases x <;> simp_all [seqE, seqA]
theorem lstE_ok {x : D} {ds : List D} {h : AH} (e : lstE x = some ds) : seqL h x = some ds := by cases x <;> simp_all [lstE, seqL]
theorem lstE_eq {x : D} {ds : List D} (e : lstE x = some ds) : x = .lst ds := by cases x <;> simp_all [lstE]
theorem intE_ok {x : D} {i : Int} (e : intE x = some i) : x = .int i := by cases x <;> simp_all [intE]
theorem blE_ok {x : D} {b : Bool} (e : blE x = some b) : x = .bl b := by cases x <;> simp_all [blE]
theorem intsE_ok : ∀ {ds : List D} {ns : List Int}, intsE ds = some ns → ds = ns.map D.int
  | [], _, e => by cases e; rfl
  | d :: ds, ns, e => by
    obtain ⟨i, e1, e⟩ := bnd e
    obtain ⟨r, e2, e3⟩ := mpd e
    subst e3
    rw [intE_ok e1, intsE_ok e2]
    rfl
theorem blsE_ok : ∀ {ds : List D} {ns : List Bool}, blsE ds = some ns → ds = ns.map D.bl
  | [], _, e => by cases e; rfl
  | d :: ds, ns, e => by
    obtain ⟨i, e1, e⟩ := bnd e
    obtain ⟨r, e2, e3⟩ := mpd e
    subst e3
    rw [blE_ok e1, blsE_ok e2]
    rfl
theorem pd_of {x : D} {p : PyData} {h : AH} (e : pd0 x = some p) : pd h x = some p := by
  cases x with
  | ref a => simp [pd0] at e
  | _ => exact e
theorem opE_ok {m : Bool} {op : Operator} {x y d : D} (e : opE m op x y = some d) {h : AH} {Q : AQ} (q : Q d h) : opS m op x y h Q := by
  cases op with
  | Add =>
    cases m with
    | true => cases e
    | false =>
      simp only [opE] at e
      show sAdd false x y h Q
      unfold addE at e
      split at e
      · cases e; exact q
      · obtain ⟨c, e⟩ := iteS e
        cases e; exact ⟨c, q⟩
      · obtain ⟨c, e⟩ := iteS e
        cases e; exact ⟨c, q⟩
      · obtain ⟨c, e⟩ := iteS e
        cases e; exact ⟨_, _, rfl, rfl, c, q⟩
      · cases e
  | Sub =>
    simp only [opE] at e
    unfold subE at e
    split at e <;> cases e <;> exact q
  | Mult =>
    simp only [opE] at e
    unfold mulE at e
    split at e
    · obtain ⟨c, e⟩ := iteS e
      cases e; exact ⟨c, q⟩
    · cases e
  | FloorDiv =>
    simp only [opE] at e
    unfold divE at e
    split at e
    · obtain ⟨c, e⟩ := iteS e
      cases e; exact ⟨c, q⟩
    · cases e
  | Mod =>
    simp only [opE] at e
    unfold modE at e
    split at e
    · obtain ⟨c, e⟩ := iteS e
      cases e; exact ⟨c, q⟩
    · cases e
  | Pow =>
    simp only [opE] at e
    unfold powE at e
    split at e
    · obtain ⟨c, e⟩ := iteS e
      cases e; exact ⟨c, q⟩
    · cases e
  | _ => cases e
theorem relE_ok {p : Int → Int → Bool} {x y d : D} (e : relE p x y = some d) {h : AH} {Q : AQ} (q : Q d h) : sRel p x y h Q := by
  unfold relE at e
  split at e
  · cases e; exact q
  · cases e
theorem eqD_ok {n : Bool} {x y d : D} (e : eqD n x y = some d) {h : AH} {Q : AQ} (q : Q d h) : sEq n x y h Q := by
  obtain ⟨p, e1, e⟩ := bnd e
  obtain ⟨p2, e2, e⟩ := bnd e
  obtain ⟨b, e3, e⟩ := mpd e
  obtain ⟨c, e3⟩ := iteS e3
  cases e3
  subst e
  exact .inr ⟨p, p2, pd_of e1, pd_of e2, c.1, c.2, q⟩
theorem eqE_ok {n : Bool} {x y d : D} (e : eqE n x y = some d) {h : AH} {Q : AQ} (q : Q d h) : sEq n x y h Q := by
  unfold eqE at e
  split at e
  · cases e
    exact .inl ⟨_, _, rfl, rfl, q⟩
  · exact eqD_ok e q
theorem isE_ok {n : Bool} {x y d : D} (e : isE n x y = some d) {h : AH} {Q : AQ} (q : Q d h) : sIs n x y h Q := by
  unfold isE at e
  split at e
  · cases e; exact q
  · cases e; exact q
  · cases e
theorem cmpE_ok {op : CmpOp} {x y d : D} (e : cmpE op x y = some d) {h : AH} {Q : AQ} (q : Q d h) : cmpS op x y h Q := by
  cases op with
  | Eq => exact eqE_ok e q
  | NotEq => exact eqE_ok e q
  | Lt => exact relE_ok e q
  | LtE => exact relE_ok e q
  | Gt => exact relE_ok e q
  | GtE => exact relE_ok e q
  | Is => exact isE_ok e q
  | IsNot => exact isE_ok e q
  | _ => cases e
theorem ixE_ok {x y d : D} (e : ixE x y = some d) {h : AH} {Q : AQ} (q : Q d h) : sIx x y h Q := by
  unfold ixE at e
  split at e
  · obtain ⟨ds, e1, e2⟩ := bnd e
    exact ⟨ds, d, seqE_ok e1, e2, q⟩
  · cases e
theorem biE_ok {b : BI} {xs : List D} {d : D} (e : biE b xs = some d) {h : AH} {Q : AQ} (q : Q d h) : biS b xs h Q := by
  unfold biE at e
  split at e
  · obtain ⟨ds, e1, e2⟩ := mpd e
    subst e2
    exact ⟨ds, seqE_ok e1, q⟩
  · obtain ⟨ds, e1, e2⟩ := mpd e
    subst e2
    exact ⟨ds, seqE_ok e1, q⟩
  · obtain ⟨ds, e1, e2⟩ := mpd e
    subst e2
    exact ⟨ds, seqE_ok e1, q⟩
  · cases e; exact q
  · cases e; exact q
  · cases e; exact q
  · obtain ⟨c, e⟩ := iteS e
    cases e; exact ⟨c, q⟩
  · obtain ⟨ds, e1, e2⟩ := bnd e
    obtain ⟨bs, e3, e4⟩ := mpd e2
    subst e4
    exact ⟨bs, by rw [lstE_ok e1, blsE_ok e3], q⟩
  · obtain ⟨ds, e1, e2⟩ := bnd e
    obtain ⟨bs, e3, e4⟩ := mpd e2
    subst e4
    exact ⟨bs, by rw [lstE_ok e1, blsE_ok e3], q⟩
  · obtain ⟨ds, e1, e2⟩ := bnd e
    obtain ⟨bs, e3, e4⟩ := mpd e2
    subst e4
    exact ⟨bs, by rw [lstE_ok e1, intsE_ok e3], q⟩
  · cases e; exact q
  · cases e
    intro m h1 h2
    simp only [List.mem_cons, List.not_mem_nil, or_false, forall_eq_or_imp, forall_eq] at h1 h2
    rename_i a b c d
    have : m = min a (min b (min c d)) := by omega
    rw [this]
    exact q
  · cases e; exact q
  · rename_i x T
    obtain ⟨c, e⟩ := iteS e
    cases e
    refine ⟨?_, c.2, q⟩
    have c1 := c.1
    cases x <;> first | trivial | (cases c1)
  · obtain ⟨p, e1, e⟩ := bnd e
    obtain ⟨c, e⟩ := iteS e
    cases e
    exact ⟨p, pd_of e1, c, q⟩
  · cases e
theorem gcdE_ok {xs : List D} {d : D} (e : gcdE xs = some d) {h : AH} {Q : AQ} (q : Q d h) : nGcd xs h Q := by
  unfold gcdE at e
  split at e
  · cases e; exact q
  · cases e
mutual
theorem evP_ok : ∀ (p : CP) (d : D) (σ σ' : ASt), evP p d σ = some σ' → ∀ {Γ : Gam} (h : AH) (Q : ASt → AH → Prop), Q σ' h → aP Γ p d σ h Q
  | .nm i, d, σ, σ', e, Γ, h, Q, q => by
    unfold evP at e
    cases e
    exact q
  | .tp ps, d, σ, σ', e, Γ, h, Q, q => by
    unfold evP at e
    obtain ⟨ds, e0, e⟩ := bnd e
    obtain ⟨c, e⟩ := iteS e
    exact ⟨ds, seqE_ok e0, c, evPs_ok ps ds σ σ' e h Q q⟩
  | .sb _ _, d, σ, σ', e, Γ, h, Q, q => by
    unfold evP at e
    cases e
theorem evPs_ok : ∀ (p : CPs) (d : List D) (σ σ' : ASt), evPs p d σ = some σ' → ∀ {Γ : Gam} (h : AH) (Q : ASt → AH → Prop), Q σ' h → aPs Γ p d σ h Q
  | .nil, ds, σ, σ', e, Γ, h, Q, q => by
    unfold evPs at e
    split at e
    · cases e
      exact ⟨rfl, q⟩
    · cases e
  | .cons p r, ds, σ, σ', e, Γ, h, Q, q => by
    unfold evPs at e
    split at e
    · rename_i d ds
      obtain ⟨σ1, e1, e2⟩ := bnd e
      exact ⟨d, ds, rfl, evP_ok p d σ σ1 e1 h _ (evPs_ok r ds σ1 σ' e2 h Q q)⟩
    · cases e
end
/-- the plain defs keep their promises -/
def PhiOk (Γ : Gam) (Φ : Nat → PF) : Prop := ∀ k ds d, Φ k ds = some d → ds.length = (Γ k).1 ∧ ∀ (h : AH) (Q : AQ), Q d h → (Γ k).2 ds h Q noX
theorem evLc_len {step : D → Option (Option D)} : ∀ {ds r : List D}, evLc step ds = some r → r.length ≤ ds.length
  | [], _, e => by cases e; exact Nat.le_refl _
  | d :: ds, _, e => by
    obtain ⟨o, e1, e⟩ := bnd e
    obtain ⟨r, e2, e3⟩ := mpd e
    subst e3
    have := evLc_len e2
    cases o with
    | none => simp; omega
    | some y => simp; omega
theorem evLc_ok {step : D → Option (Option D)} {st : D → AH → (Option D → AH → Prop) → Prop} (hs : ∀ d o, step d = some o → ∀ (h : AH) (Q : Option D → AH → Prop), Q o h → st d h Q) {ok : AH → Prop} (hok : ∀ h, ok h) : ∀ {ds r : List D}, evLc step ds = some r → ∀ (acc : List D) (h : AH) (Q : List D → AH → Prop), Q (acc ++ r) h → lcD st ok ds acc h Q
  | [], _, e, acc, h, Q, q => by
    cases e
    rw [List.append_nil] at q
    exact ⟨hok h, q⟩
  | d :: ds, _, e, acc, h, Q, q => by
    obtain ⟨o, e1, e⟩ := bnd e
    obtain ⟨r, e2, e3⟩ := mpd e
    subst e3
    refine ⟨hok h, hs d o e1 h _ ?_⟩
    cases o with
    | none => exact evLc_ok hs hok e2 acc h Q q
    | some y => exact evLc_ok hs hok e2 (acc ++ [y]) h Q (by rw [List.append_assoc]; exact q)
section
variable {Γ : Gam} {Φ : Nat → PF}
mutual
theorem ev_ok (G : PhiOk Γ Φ) : ∀ (c : CE) (σ : ASt) (d : D), ev Φ σ c = some d → ∀ (h : AH) (Q : AQ), Q d h → aE Γ c σ h Q
  | .cst c, σ, d, e, h, Q, q => by
    unfold ev at e
    cases e
    exact q
  | .var i, σ, d, e, h, Q, q => by
    unfold ev at e
    obtain ⟨o, e1, e2⟩ := bnd e
    subst e2
    exact ⟨d, e1, q⟩
  | .glo _ g, σ, d, e, h, Q, q => by
    unfold ev at e
    cases e
    exact q
  | .ty n, σ, d, e, h, Q, q => by
    unfold ev at e
    cases e
    exact q
  | .bin op m a b, σ, d, e, h, Q, q => by
    unfold ev at e
    obtain ⟨x, e1, e⟩ := bnd e
    obtain ⟨y, e2, e⟩ := bnd e
    exact ev_ok G a σ x e1 h _ (ev_ok G b σ y e2 h _ (opE_ok e q))
  | .neg a, σ, d, e, h, Q, q => by
    unfold ev at e
    obtain ⟨x, e1, e⟩ := bnd e
    refine ev_ok G a σ x e1 h _ ?_
    unfold negE at e
    split at e
    · cases e; exact q
    · cases e
  | .nt a, σ, d, e, h, Q, q => by
    unfold ev at e
    obtain ⟨x, e1, e⟩ := bnd e
    obtain ⟨b, e2, e⟩ := mpd e
    subst e
    exact ev_ok G a σ x e1 h _ ⟨b, blE_ok e2, q⟩
  | .cmp op a b, σ, d, e, h, Q, q => by
    unfold ev at e
    obtain ⟨x, e1, e⟩ := bnd e
    obtain ⟨y, e2, e⟩ := bnd e
    exact ev_ok G a σ x e1 h _ (ev_ok G b σ y e2 h _ (cmpE_ok e q))
  | .chn o1 o2 a b c, σ, d, e, h, Q, q => by
    unfold ev at e
    obtain ⟨x, e1, e⟩ := bnd e
    obtain ⟨y, e2, e⟩ := bnd e
    obtain ⟨z, e3, e⟩ := bnd e
    obtain ⟨k, e4, e⟩ := bnd e
    refine ev_ok G a σ x e1 h _ (ev_ok G b σ y e2 h _ (cmpE_ok e3 ⟨k, blE_ok e4, ?_⟩))
    cases k with
    | true =>
      obtain ⟨w, e5, e⟩ := bnd e
      exact ev_ok G c σ w e5 h _ (cmpE_ok e q)
    | false =>
      cases e
      exact q
  | .con op es, σ, d, e, h, Q, q => by
    unfold ev at e
    exact evCon_ok G op es σ d e h Q q
  | .ife c a b, σ, d, e, h, Q, q => by
    unfold ev at e
    obtain ⟨x, e1, e⟩ := bnd e
    obtain ⟨k, e2, e⟩ := bnd e
    refine ev_ok G c σ x e1 h _ ⟨k, blE_ok e2, ?_⟩
    cases k with
    | true => exact ev_ok G a σ d e h Q q
    | false => exact ev_ok G b σ d e h Q q
  | .tup es, σ, d, e, h, Q, q => by
    unfold ev at e
    obtain ⟨ds, e1, e⟩ := bnd e
    obtain ⟨c, e⟩ := iteS e
    cases e
    exact evA_ok G es σ ds e1 h _ ⟨c, q⟩
  | .lst m es, σ, d, e, h, Q, q => by
    unfold ev at e
    obtain ⟨ds, e1, e⟩ := bnd e
    obtain ⟨⟨c, c2⟩, e⟩ := iteS e
    cases e
    subst c2
    exact evA_ok G es σ ds e1 h _ ⟨c, q⟩
  | .idx a i, σ, d, e, h, Q, q => by
    unfold ev at e
    obtain ⟨x, e1, e⟩ := bnd e
    obtain ⟨y, e2, e⟩ := bnd e
    exact ev_ok G a σ x e1 h _ (ev_ok G i σ y e2 h _ (ixE_ok e q))
  | .cut m a lo hi, σ, d, e, h, Q, q => by
    unfold ev at e
    obtain ⟨x, e1, e⟩ := bnd e
    obtain ⟨l, e2, e⟩ := bnd e
    obtain ⟨u, e3, e⟩ := bnd e
    refine ev_ok G a σ x e1 h _ (evO_ok G lo σ l e2 h _ (evO_ok G hi σ u e3 h _ ?_))
    unfold cutE at e
    split at e
    · cases e; exact q
    · split at e
      · cases e
      · rename_i hm
        cases e
        simp only [Bool.not_eq_true] at hm
        subst hm
        exact q
    · cases e
  | .rev m a, σ, d, e, h, Q, q => by
    unfold ev at e
    obtain ⟨x, e1, e⟩ := bnd e
    obtain ⟨ds, e2, e⟩ := bnd e
    split at e
    · cases e
    · rename_i hm
      cases e
      simp only [Bool.not_eq_true] at hm
      subst hm
      exact ev_ok G a σ x e1 h _ ⟨ds, lstE_ok e2, q⟩
  | .fn k es, σ, d, e, h, Q, q => by
    unfold ev at e
    obtain ⟨ds, e1, e⟩ := bnd e
    obtain ⟨l, pr⟩ := G k ds d e
    exact evA_ok G es σ ds e1 h _ ⟨l, Q, fun _ _ z => z, pr h Q q⟩
  | .fnK k es _ ws pm, σ, d, e, h, Q, q => by
    unfold ev at e
    obtain ⟨ds, e1, e⟩ := bnd e
    obtain ⟨us, e2, e⟩ := bnd e
    obtain ⟨l, pr⟩ := G k _ d e
    exact evA_ok G es σ ds e1 h _ (evA_ok G ws σ us e2 h _ ⟨evA_len e1, evA_len e2, l, Q, fun _ _ z => z, pr h Q q⟩)
  | .bi b es, σ, d, e, h, Q, q => by
    unfold ev at e
    obtain ⟨ds, e1, e⟩ := bnd e
    exact evA_ok G es σ ds e1 h _ (biE_ok e q)
  | .gcd es, σ, d, e, h, Q, q => by
    unfold ev at e
    obtain ⟨ds, e1, e⟩ := bnd e
    exact evA_ok G es σ ds e1 h _ (gcdE_ok e q)
  | .met _ _ _, σ, d, e, h, Q, q => by
    unfold ev at e
    cases e
  | .lc m p it .nil el own, σ, d, e, h, Q, q => by
    unfold ev at e
    split at e
    · cases e
    · rename_i hm
      simp only [Bool.not_eq_true] at hm
      subst hm
      obtain ⟨ds, e1, e⟩ := bnd e
      obtain ⟨c, e⟩ := iteS e
      obtain ⟨r, e2, e⟩ := mpd e
      subst e
      refine evI_ok G it σ ds e1 h _ ⟨c, evLc_ok (fun d o e => ?_) (fun _ => trivial) e2 [] h _ ?_⟩
      · intro h Q q
        obtain ⟨σ2, e1, e⟩ := bnd e
        obtain ⟨k, e2, e⟩ := bnd e
        cases e2
        simp only [if_true] at e
        obtain ⟨y, e3, e⟩ := mpd e
        subst e
        refine evP_ok p d _ σ2 e1 h _ ⟨true, rfl, ?_⟩
        exact ev_ok G el σ2 y e3 h _ q
      · rw [List.nil_append]
        exact q
  | .lc m p it (.cons c _) el own, σ, d, e, h, Q, q => by
    unfold ev at e
    split at e
    · cases e
    · rename_i hm
      simp only [Bool.not_eq_true] at hm
      subst hm
      obtain ⟨ds, e1, e⟩ := bnd e
      obtain ⟨c0, e⟩ := iteS e
      obtain ⟨r, e2, e⟩ := mpd e
      subst e
      refine evI_ok G it σ ds e1 h _ ⟨c0, evLc_ok (fun d o e => ?_) (fun _ => trivial) e2 [] h _ ?_⟩
      · intro h Q q
        obtain ⟨σ2, e1, e⟩ := bnd e
        obtain ⟨k, e2, e⟩ := bnd e
        obtain ⟨x, e2, e4⟩ := bnd e2
        refine evP_ok p d _ σ2 e1 h _ (ev_ok G c σ2 x e2 h _ ⟨k, blE_ok e4, ?_⟩)
        cases k with
        | true =>
          simp only [if_true] at e
          obtain ⟨y, e3, e⟩ := mpd e
          subst e
          exact ev_ok G el σ2 y e3 h _ q
        | false =>
          cases e
          exact q
      · rw [List.nil_append]
        exact q
theorem evCon_ok (G : PhiOk Γ Φ) (op : BoolOp) : ∀ (c : CA) (σ : ASt) (d : D), evCon Φ σ op c = some d → ∀ (h : AH) (Q : AQ), Q d h → aCon Γ op c σ h Q
  | .nil, σ, d, e, h, Q, q => by
    unfold evCon at e
    cases e
  | .cons c .nil, σ, d, e, h, Q, q => by
    unfold evCon at e
    exact ev_ok G c σ d e h Q q
  | .cons c (.cons c2 r), σ, d, e, h, Q, q => by
    unfold evCon at e
    obtain ⟨x, e1, e⟩ := bnd e
    obtain ⟨k, e2, e⟩ := bnd e
    cases op with
    | And =>
      refine ev_ok G c σ x e1 h _ ⟨k, blE_ok e2, ?_⟩
      cases k with
      | true => exact evCon_ok G .And (.cons c2 r) σ d e h Q q
      | false => cases e; exact q
    | Or =>
      refine ev_ok G c σ x e1 h _ ⟨k, blE_ok e2, ?_⟩
      cases k with
      | true => cases e; exact q
      | false => exact evCon_ok G .Or (.cons c2 r) σ d e h Q q
theorem evA_ok (G : PhiOk Γ Φ) : ∀ (c : CA) (σ : ASt) (ds : List D), evA Φ σ c = some ds → ∀ (h : AH) (Q : List D → AH → Prop), Q ds h → aA Γ c σ h Q
  | .nil, σ, d, e, h, Q, q => by
    unfold evA at e
    cases e
    exact q
  | .cons c r, σ, d, e, h, Q, q => by
    unfold evA at e
    obtain ⟨x, e1, e⟩ := bnd e
    obtain ⟨xs, e2, e⟩ := mpd e
    subst e
    exact ev_ok G c σ x e1 h _ (evA_ok G r σ xs e2 h _ q)
theorem evA_len : ∀ {c : CA} {σ : ASt} {ds : List D}, evA Φ σ c = some ds → ds.length = lenA c
  | .nil, σ, d, e => by
    unfold evA at e
    cases e
    rfl
  | .cons c r, σ, d, e => by
    unfold evA at e
    obtain ⟨x, e1, e⟩ := bnd e
    obtain ⟨xs, e2, e⟩ := mpd e
    subst e
    exact congrArg (· + 1) (evA_len e2)
theorem evO_ok (G : PhiOk Γ Φ) : ∀ (c : CO) (σ : ASt) (o : Option Int), evO Φ σ c = some o → ∀ (h : AH) (Q : Option Int → AH → Prop), Q o h → aO Γ c σ h Q
  | .no, σ, d, e, h, Q, q => by
    unfold evO at e
    cases e
    exact q
  | .pt c, σ, d, e, h, Q, q => by
    unfold evO at e
    obtain ⟨x, e1, e⟩ := bnd e
    obtain ⟨i, e2, e⟩ := mpd e
    subst e
    exact ev_ok G c σ x e1 h _ ⟨i, intE_ok e2, q⟩
theorem evI_ok (G : PhiOk Γ Φ) : ∀ (c : CI) (σ : ASt) (ds : List D), evI Φ σ c = some ds → ∀ (h : AH) (Q : Src → AH → Prop), Q ⟨ds, fun _ => True⟩ h → aI Γ c σ h Q
  | .seq c, σ, ds, e, h, Q, q => by
    unfold evI at e
    obtain ⟨x, e1, e⟩ := bnd e
    refine ev_ok G c σ x e1 h _ ?_
    cases x <;> simp_all [seqE]
  | .rng .nil, σ, ds, e, h, Q, q => by
    unfold evI at e
    cases e
  | .rng (.cons a .nil), σ, ds, e, h, Q, q => by
    unfold evI at e
    obtain ⟨x, e1, e⟩ := bnd e
    obtain ⟨j, e2, e⟩ := bnd e
    obtain ⟨c, e⟩ := iteS e
    cases e
    exact ev_ok G a σ x e1 h _ ⟨j, by rw [intE_ok e2], c, q⟩
  | .rng (.cons a (.cons b .nil)), σ, ds, e, h, Q, q => by
    unfold evI at e
    obtain ⟨x, e1, e⟩ := bnd e
    obtain ⟨i, e2, e⟩ := bnd e
    obtain ⟨y, e3, e⟩ := bnd e
    obtain ⟨j, e4, e⟩ := bnd e
    obtain ⟨c, e⟩ := iteS e
    cases e
    exact ev_ok G a σ x e1 h _ (ev_ok G b σ y e3 h _ ⟨i, j, by rw [intE_ok e2, intE_ok e4], c, q⟩)
  | .rng (.cons a (.cons b (.cons c r))), σ, ds, e, h, Q, q => by
    unfold evI at e
    cases e
end
/-! ## statements -/
def fin : Res → AEnds → AH → Prop
  | .nx σ, E, h => E.nx σ h
  | .rt d, E, h => E.rt d h
  | .bk σ, E, h => E.bk σ h
  | .ct σ, E, h => E.ct σ h
theorem evFor_ok {step : D → ASt → Option Res} {st : D → AEnds → ASt → AH → Prop} (hs : ∀ d σ r, step d σ = some r → ∀ (E : AEnds) (h : AH), fin r E h → st d E σ h) {ok : AH → Prop} (hok : ∀ h, ok h) : ∀ {ds : List D} {σ : ASt} {r : Res}, evFor step ds σ = some r → ∀ (E : AEnds) (h : AH), fin r E h → loopD st ok E ds σ h
  | [], σ, r, e, E, h, q => by
    cases e
    exact ⟨hok h, q⟩
  | d :: ds, σ, r, e, E, h, q => by
    unfold evFor at e
    obtain ⟨r1, e1, e⟩ := bnd e
    refine ⟨hok h, hs d σ r1 e1 _ h ?_⟩
    cases r1 with
    | nx σ' => exact evFor_ok hs hok e E h q
    | ct σ' => exact evFor_ok hs hok e E h q
    | bk σ' => cases e; exact q
    | rt d => cases e; exact q
mutual
theorem evS_ok (G : PhiOk Γ Φ) : ∀ (c : CS) (σ : ASt) (r : Res), evS Φ c σ = some r → ∀ (E : AEnds) (h : AH), fin r E h → aS Γ c E σ h
  | .asg p c, σ, r, e, E, h, q => by
    unfold evS at e
    obtain ⟨d, e1, e⟩ := bnd e
    obtain ⟨σ', e2, e⟩ := mpd e
    subst e
    exact ev_ok G c σ d e1 h _ (evP_ok p d σ σ' e2 h _ q)
  | .par2 i j es, σ, r, e, E, h, q => by
    unfold evS at e
    obtain ⟨ds, e1, e⟩ := bnd e
    refine evA_ok G es σ ds e1 h _ ?_
    split at e
    · cases e
      exact ⟨_, _, rfl, q⟩
    · cases e
  | .par3 i j l es, σ, r, e, E, h, q => by
    unfold evS at e
    obtain ⟨ds, e1, e⟩ := bnd e
    refine evA_ok G es σ ds e1 h _ ?_
    split at e
    · cases e
      exact ⟨_, _, _, rfl, q⟩
    · cases e
  | .ret c, σ, r, e, E, h, q => by
    unfold evS at e
    obtain ⟨d, e1, e⟩ := mpd e
    subst e
    exact ev_ok G c σ d e1 h _ q
  | .retN, σ, r, e, E, h, q => by
    unfold evS at e
    cases e
    exact q
  | .expr c, σ, r, e, E, h, q => by
    unfold evS at e
    obtain ⟨d, e1, e⟩ := mpd e
    subst e
    exact ev_ok G c σ d e1 h _ q
  | .ife c a b, σ, r, e, E, h, q => by
    unfold evS at e
    obtain ⟨x, e1, e⟩ := bnd e
    obtain ⟨k, e2, e⟩ := bnd e
    refine ev_ok G c σ x e1 h _ ⟨k, blE_ok e2, ?_⟩
    cases k with
    | true => exact evSs_ok G a σ r e E h q
    | false => exact evSs_ok G b σ r e E h q
  | .for_ p it b, σ, r, e, E, h, q => by
    unfold evS at e
    obtain ⟨ds, e1, e⟩ := bnd e
    refine evI_ok G it σ ds e1 h _ (evFor_ok (fun d σ r e E h q => ?_) (fun _ => trivial) e E h q)
    obtain ⟨σ', e2, e⟩ := bnd (show (evP p d σ).bind (evSs Φ b) = some r from e)
    exact evP_ok p d σ σ' e2 h _ (evSs_ok G b σ' r e E h q)
  | .whl c b, σ, r, e, E, h, q => by
    unfold evS at e
    obtain ⟨n, e⟩ := evWhile_ex e
    refine ⟨fun m σ' h' => h' = h ∧ evWh (tst Φ c) (evSs Φ b) m σ' = some r, ⟨n, rfl, e⟩, ?_⟩
    rintro m σ' h' ⟨rfl, e⟩
    cases m with
    | zero => cases e
    | succ m =>
      unfold evWh at e
      obtain ⟨k, e1, e⟩ := bnd e
      obtain ⟨x, e1, e2⟩ := bnd (show (ev Φ σ' c).bind blE = some k from e1)
      refine ev_ok G c σ' x e1 h' _ ⟨k, blE_ok e2, ?_⟩
      cases k with
      | false => cases e; exact q
      | true =>
        simp only [if_true] at e ⊢
        obtain ⟨r1, e3, e⟩ := bnd e
        refine evSs_ok G b σ' r1 e3 _ h' ?_
        cases r1 with
        | nx σ2 => exact ⟨m, Nat.lt_succ_self m, rfl, e⟩
        | ct σ2 => exact ⟨m, Nat.lt_succ_self m, rfl, e⟩
        | bk σ2 => cases e; exact q
        | rt d => cases e; exact q
  | .brk, σ, r, e, E, h, q => by
    unfold evS at e
    cases e
    exact q
  | .cnt, σ, r, e, E, h, q => by
    unfold evS at e
    cases e
    exact q
  | .pas, σ, r, e, E, h, q => by
    unfold evS at e
    cases e
    exact q
  | .nev, σ, r, e, E, h, q => by
    unfold evS at e
    cases e
  | .aug i c, σ, r, e, E, h, q => by
    unfold evS at e
    obtain ⟨x, e1, e⟩ := bnd e
    obtain ⟨a, e2, e⟩ := bnd e
    obtain ⟨y, e3, e⟩ := bnd e
    obtain ⟨b, e4, e⟩ := mpd e
    subst e
    obtain ⟨o, e1, e5⟩ := bnd e1
    subst e5
    rw [intE_ok e2] at e1
    exact ⟨a, e1, ev_ok G c σ y e3 h _ ⟨b, intE_ok e4, q⟩⟩
theorem evSs_ok (G : PhiOk Γ Φ) : ∀ (c : CSs) (σ : ASt) (r : Res), evSs Φ c σ = some r → ∀ (E : AEnds) (h : AH), fin r E h → aSs Γ c E σ h
  | .nil, σ, r, e, E, h, q => by
    unfold evSs at e
    cases e
    exact q
  | .cons c r0, σ, r, e, E, h, q => by
    unfold evSs at e
    obtain ⟨r1, e1, e⟩ := bnd e
    refine evS_ok G c σ r1 e1 _ h ?_
    cases r1 with
    | nx σ' => exact evSs_ok G r0 σ' r e E h q
    | rt d => cases e; exact q
    | bk σ' => cases e; exact q
    | ct σ' => cases e; exact q
  | .frz _ _, σ, r, e, E, h, q => by
    unfold evSs at e
    cases e
end
/-- the promise of a plain def -/
def spF (f : PF) : ASp := fun ds h Q _ => ∃ d, f ds = some d ∧ Q d h
theorem vcF (G : PhiOk Γ Φ) {n k : Nat} {c : CSs} : ∀ ds h Q, spF (evDef Φ n k c) ds h Q noX → aSs Γ c { nx := fun _ h' => Q .non h', rt := Q } (ini n ds) h := by
  rintro ds h Q ⟨d, e, q⟩
  unfold evDef at e
  obtain ⟨_, e⟩ := iteS e
  obtain ⟨r, e1, e⟩ := bnd e
  refine evSs_ok G c _ r e1 _ h ?_
  cases r with
  | nx σ => cases e; exact q
  | rt d => cases e; exact q
  | bk σ => cases e
  | ct σ => cases e
theorem phi_nil : PhiOk Γ (fun _ => noF) := fun k ds d e => by cases e
/-- one def more -/
@[simp] def phiUp (Φ : Nat → PF) (k : Nat) (f : PF) : Nat → PF := fun i => if i = k then f else Φ i
theorem phi_up (G : PhiOk Γ Φ) {k n j : Nat} {c : CSs} {Φ' : Nat → PF} (e : Γ k = (j, spF (evDef Φ' n j c))) : PhiOk Γ (phiUp Φ k (evDef Φ' n j c)) := by
  intro i ds d q
  unfold phiUp at q
  split at q
  · rename_i z
    subst z
    rw [e]
    refine ⟨?_, fun h Q z => ⟨d, q, z⟩⟩
    unfold evDef at q
    exact (iteS q).1
  · exact G i ds d q
end
/-! ## small readings for simp -/
section
variable {Φ : Nat → PF} {σ : ASt}
@[simp] theorem ev_cst {c} : ev Φ σ (.cst c) = some (cD c) := by rw [ev]
@[simp] theorem ev_var {i} : ev Φ σ (.var i) = (σ[i]?).bind id := by rw [ev]
@[simp] theorem ev_glo {x g} : ev Φ σ (.glo x g) = some (gD g) := by rw [ev]
@[simp] theorem ev_ty {n} : ev Φ σ (.ty n) = some (.ty n) := by rw [ev]
@[simp] theorem ev_bin {op m a b} : ev Φ σ (.bin op m a b) = (ev Φ σ a).bind fun x => (ev Φ σ b).bind fun y => opE m op x y := by rw [ev]
@[simp] theorem ev_neg {a} : ev Φ σ (.neg a) = (ev Φ σ a).bind negE := by rw [ev]
@[simp] theorem ev_nt {a} : ev Φ σ (.nt a) = (ev Φ σ a).bind fun x => (blE x).map fun b => .bl (!b) := by rw [ev]
@[simp] theorem ev_cmp {op a b} : ev Φ σ (.cmp op a b) = (ev Φ σ a).bind fun x => (ev Φ σ b).bind fun y => cmpE op x y := by rw [ev]
@[simp] theorem ev_chn {o1 o2 a b c} : ev Φ σ (.chn o1 o2 a b c) = (ev Φ σ a).bind fun x => (ev Φ σ b).bind fun y => (cmpE o1 x y).bind fun z => (blE z).bind fun k => if k = true then (ev Φ σ c).bind fun w => cmpE o2 y w else some (.bl false) := by rw [ev]
@[simp] theorem ev_con {op es} : ev Φ σ (.con op es) = evCon Φ σ op es := by rw [ev]
@[simp] theorem ev_ife {c a b} : ev Φ σ (.ife c a b) = (ev Φ σ c).bind fun x => (blE x).bind fun k => if k = true then ev Φ σ a else ev Φ σ b := by rw [ev]
@[simp] theorem ev_tup {es} : ev Φ σ (.tup es) = (evA Φ σ es).bind fun ds => if ds.length ≤ PySem.sizeLine then some (.tup ds) else none := by rw [ev]
@[simp] theorem ev_lst {m es} : ev Φ σ (.lst m es) = (evA Φ σ es).bind fun ds => if ds.length ≤ PySem.sizeLine ∧ m = false then some (.lst ds) else none := by rw [ev]
@[simp] theorem ev_idx {a i} : ev Φ σ (.idx a i) = (ev Φ σ a).bind fun x => (ev Φ σ i).bind fun y => ixE x y := by rw [ev]
@[simp] theorem ev_cut {m a lo hi} : ev Φ σ (.cut m a lo hi) = (ev Φ σ a).bind fun x => (evO Φ σ lo).bind fun l => (evO Φ σ hi).bind fun u => cutE m x l u := by rw [ev]
@[simp] theorem ev_rev {m a} : ev Φ σ (.rev m a) = (ev Φ σ a).bind fun x => (lstE x).bind fun ds => if m = true then none else some (.lst ds.reverse) := by rw [ev]
@[simp] theorem ev_fn {k es} : ev Φ σ (.fn k es) = (evA Φ σ es).bind (Φ k) := by rw [ev]
@[simp] theorem ev_fnK {k es ks ws pm} : ev Φ σ (.fnK k es ks ws pm) = (evA Φ σ es).bind fun ds => (evA Φ σ ws).bind fun us => Φ k (perm pm (ds ++ us)) := by rw [ev]
@[simp] theorem ev_bi {b es} : ev Φ σ (.bi b es) = (evA Φ σ es).bind (biE b) := by rw [ev]
@[simp] theorem ev_gcd {es} : ev Φ σ (.gcd es) = (evA Φ σ es).bind gcdE := by rw [ev]
/-- a comprehension's test -/
def ttE (Φ : Nat → PF) (tt : CA) (σ : ASt) : Option Bool := match tt with
  | .nil => some true
  | .cons c _ => (ev Φ σ c).bind blE
@[simp] theorem ttE_nil : ttE Φ .nil σ = some true := rfl
@[simp] theorem ttE_cons {c r} : ttE Φ (.cons c r) σ = (ev Φ σ c).bind blE := rfl
/-- the items of a comprehension -/
def lcE (Φ : Nat → PF) (p : CP) (tt : CA) (e : CE) (σ : ASt) (ds : List D) : Option (List D) := evLc (fun d => (evP p d σ).bind fun σ2 => (ttE Φ tt σ2).bind fun k => if k = true then (ev Φ σ2 e).map some else some none) ds
@[simp] theorem lcE_nil {p tt e} : lcE Φ p tt e σ [] = some [] := rfl
@[simp] theorem lcE_cons {p tt e d ds} : lcE Φ p tt e σ (d :: ds) = ((evP p d σ).bind fun σ2 => (ttE Φ tt σ2).bind fun k => if k = true then (ev Φ σ2 e).map some else some none).bind fun o => (lcE Φ p tt e σ ds).map fun r => match o with
    | some y => y :: r
    | none => r := by
  show evLc _ (d :: ds) = _
  rw [evLc]
  congr 1
  funext o
  cases o <;> rfl
@[simp] theorem ev_lc {m p it tt e own} : ev Φ σ (.lc m p it tt e own) = if m = true then none else (evI Φ σ it).bind fun ds => if ds.length ≤ PySem.sizeLine then (lcE Φ p tt e (wipeA σ (own.map (·.2))) ds).map .lst else none := by
  rw [ev]
  rfl
/-- a comprehension without a test: a map -/
theorem lcE_map {p : CP} {e : CE} {f : D → D} : ∀ {ds : List D}, (∀ d ∈ ds, ∃ σ2, evP p d σ = some σ2 ∧ ev Φ σ2 e = some (f d)) → lcE Φ p .nil e σ ds = some (ds.map f)
  | [], _ => rfl
  | d :: ds, h => by
    obtain ⟨σ2, h1, h2⟩ := h d List.mem_cons_self
    rw [lcE_cons, lcE_map fun x m => h x (List.mem_cons_of_mem _ m)]
    simp [h1, h2]
/-- .. of a test -/
theorem lcE_filter {p : CP} {c e : CE} {r : CA} {f : D → D} {t : D → Bool} : ∀ {ds : List D}, (∀ d ∈ ds, ∃ σ2, evP p d σ = some σ2 ∧ ev Φ σ2 c = some (.bl (t d)) ∧ (t d = true → ev Φ σ2 e = some (f d))) → lcE Φ p (.cons c r) e σ ds = some ((ds.filter t).map f)
  | [], _ => rfl
  | d :: ds, h => by
    obtain ⟨σ2, h1, h2, h3⟩ := h d List.mem_cons_self
    rw [lcE_cons, lcE_filter (c := c) (r := r) fun x m => h x (List.mem_cons_of_mem _ m)]
    cases q : t d with
    | true => simp [h1, h2, h3 q, q]
    | false => simp [h1, h2, q]
/-- loops -/
noncomputable def whE (Φ : Nat → PF) (c : CE) (b : CSs) (σ : ASt) : Option Res := evWhile (tst Φ c) (evSs Φ b) σ
noncomputable def forE (Φ : Nat → PF) (p : CP) (b : CSs) (ds : List D) (σ : ASt) : Option Res := evFor (stp p (evSs Φ b)) ds σ
@[simp] theorem forE_nil {p b} : forE Φ p b [] σ = some (.nx σ) := rfl
@[simp] theorem forE_cons {p b d ds} : forE Φ p b (d :: ds) σ = ((evP p d σ).bind (evSs Φ b)).bind fun r => match r with
    | .nx σ' => forE Φ p b ds σ'
    | .ct σ' => forE Φ p b ds σ'
    | .bk σ' => some (.nx σ')
    | .rt d => some (.rt d) := rfl
@[simp] theorem evS_asg {p e} : evS Φ (.asg p e) σ = (ev Φ σ e).bind fun d => (evP p d σ).map .nx := by rw [evS]
@[simp] theorem evS_par2 {i j es} : evS Φ (.par2 i j es) σ = (evA Φ σ es).bind fun ds => match ds with
    | [v, w] => some (.nx ((σ.set i (some v)).set j (some w)))
    | _ => none := by rw [evS] <;> rfl
@[simp] theorem evS_par3 {i j l es} : evS Φ (.par3 i j l es) σ = (evA Φ σ es).bind fun ds => match ds with
    | [u, v, w] => some (.nx (((σ.set i (some u)).set j (some v)).set l (some w)))
    | _ => none := by rw [evS] <;> rfl
@[simp] theorem evS_ret {e} : evS Φ (.ret e) σ = (ev Φ σ e).map .rt := by rw [evS]
@[simp] theorem evS_retN : evS Φ .retN σ = some (.rt .non) := by rw [evS]
@[simp] theorem evS_expr {e} : evS Φ (.expr e) σ = (ev Φ σ e).map fun _ => .nx σ := by rw [evS]
@[simp] theorem evS_ife {c a b} : evS Φ (.ife c a b) σ = (ev Φ σ c).bind fun x => (blE x).bind fun k => if k = true then evSs Φ a σ else evSs Φ b σ := by rw [evS]
@[simp] theorem evS_for {p it b} : evS Φ (.for_ p it b) σ = (evI Φ σ it).bind fun ds => forE Φ p b ds σ := by rw [evS] <;> rfl
@[simp] theorem evS_whl {c b} : evS Φ (.whl c b) σ = whE Φ c b σ := by rw [evS] <;> rfl
@[simp] theorem evS_brk : evS Φ .brk σ = some (.bk σ) := by rw [evS]
@[simp] theorem evS_cnt : evS Φ .cnt σ = some (.ct σ) := by rw [evS]
@[simp] theorem evS_pas : evS Φ .pas σ = some (.nx σ) := by rw [evS]
@[simp] theorem evS_nev : evS Φ .nev σ = none := by rw [evS]
@[simp] theorem evS_aug {i e} : evS Φ (.aug i e) σ = ((σ[i]?).bind id).bind fun x => (intE x).bind fun a => (ev Φ σ e).bind fun y => (intE y).map fun b => .nx (σ.set i (some (.int (a + b)))) := by rw [evS]
theorem whE_of {c : CE} {b : CSs} {n : Nat} {σ : ASt} {r : Res} (h : evWh (tst Φ c) (evSs Φ b) n σ = some r) : whE Φ c b σ = some r := evWhile_of h
end
@[simp] theorem atI_def {α : Type} (xs : List α) (i : Int) : atI xs i = (ixN xs.length i).bind fun j => xs[j]? := rfl
@[simp] theorem ixN_def (n : Nat) (i : Int) : ixN n i = if 0 ≤ i then (if i < n then some i.toNat else none) else if -(n : Int) ≤ i then some (i + n).toNat else none := rfl
@[simp] theorem sizeLine_def : PySem.sizeLine = 16777216 := rfl
@[simp] theorem eqE_str (n : Bool) (a b : Str) : eqE n (.str a) (.str b) = some (.bl (if n then !decide (a = b) else decide (a = b))) := rfl
@[simp] theorem eqE_int (n : Bool) (a b : Int) : eqE n (.int a) (.int b) = some (.bl (if n then !decide (a = b) else decide (a = b))) := by
  simp [eqE, eqD, pd0, eqP, SeqAt.shaped, PyData.eqv, PyData.canLay0, PyData.depth]
  rfl
@[simp] theorem eqE_tup2 (n : Bool) (a b c d : Int) : eqE n (.tup [.int a, .int b]) (.tup [.int c, .int d]) = some (.bl (if n then !decide (a = c ∧ b = d) else decide (a = c ∧ b = d))) := by
  simp [eqE, eqD, pd0, pds, eqP, SeqAt.shaped, PyData.eqv, PyData.eqvAll, PyData.canLay0, PyData.canLayAll0, PyData.depth, PyData.depthAll]
  rfl
@[simp] theorem eqE_tup3 (n : Bool) (a b e c d f : Int) : eqE n (.tup [.int a, .int b, .int e]) (.tup [.int c, .int d, .int f]) = some (.bl (if n then !decide (a = c ∧ b = d ∧ e = f) else decide (a = c ∧ b = d ∧ e = f))) := by
  simp [eqE, eqD, pd0, pds, eqP, SeqAt.shaped, PyData.eqv, PyData.eqvAll, PyData.canLay0, PyData.canLayAll0, PyData.depth, PyData.depthAll]
  rfl
/-! ## what repr may be asked of -/
def Shw (d : D) (k e : Nat) : Prop := ∃ p, pd0 d = some p ∧ p.showable = true ∧ p.depth ≤ e ∧ rsz p ≤ k
/-- the text -/
def rp (d : D) : Str := match pd0 d with
  | some p => p.shown
  | none => ""
theorem repr_eq {d : D} {k e : Nat} (h : Shw d k e) (hk : k ≤ 16777216) (he : e ≤ 64) : reprE d = some (.str (rp d)) := by
  obtain ⟨p, h1, h2, h3, h4⟩ := h
  have ok : ROk p := ⟨h2, by omega, by omega⟩
  simp [reprE, rp, h1, ok]
theorem Shw.int {i : Int} (h : i.natAbs.log2 < 1920) : Shw (.int i) 1921 1 := ⟨.int i, rfl, by simpa [PyData.showable] using h, by simp [PyData.depth], Nat.le_refl _⟩
theorem Shw.non : Shw .non 4 1 := ⟨.none, rfl, rfl, by simp [PyData.depth], Nat.le_refl _⟩
theorem Shw.bl {b : Bool} : Shw (.bl b) 5 1 := ⟨.bool b, rfl, rfl, by simp [PyData.depth], Nat.le_refl _⟩
theorem Shws : ∀ {ds : List D} {k e : Nat}, (∀ d ∈ ds, Shw d k e) → ∃ ps, pds ds = some ps ∧ PyData.showableAll ps = true ∧ PyData.depthAll ps ≤ e ∧ rszAll ps ≤ ds.length * (k + 2)
  | [], k, e, h => ⟨[], rfl, rfl, by simp [PyData.depthAll], by simp [rszAll]⟩
  | d :: ds, k, e, h => by
    obtain ⟨p, h1, h2, h3, h4⟩ := h d List.mem_cons_self
    obtain ⟨ps, g1, g2, g3, g4⟩ := Shws fun x m => h x (List.mem_cons_of_mem _ m)
    refine ⟨p :: ps, by simp [pds, h1, g1], by simp [PyData.showableAll, h2, g2], by simp [PyData.depthAll]; omega, ?_⟩
    simp only [rszAll, List.length_cons, Nat.succ_mul]
    omega
theorem Shw.tup {ds : List D} {k e : Nat} (h : ∀ d ∈ ds, Shw d k e) : Shw (.tup ds) (ds.length * (k + 2) + 4) (e + 1) := by
  obtain ⟨ps, g1, g2, g3, g4⟩ := Shws h
  exact ⟨.tuple ps, by simp [pd0, g1], by simpa [PyData.showable] using g2, by simp [PyData.depth]; omega, by simp [rsz]; omega⟩
theorem Shw.lst {ds : List D} {k e : Nat} (h : ∀ d ∈ ds, Shw d k e) : Shw (.lst ds) (ds.length * (k + 2) + 4) (e + 1) := by
  obtain ⟨ps, g1, g2, g3, g4⟩ := Shws h
  exact ⟨.list ps, by simp [pd0, g1], by simpa [PyData.showable] using g2, by simp [PyData.depth]; omega, by simp [rsz]; omega⟩
theorem Shw.mono {d : D} {k e k' e' : Nat} (h : Shw d k e) (a : k ≤ k') (b : e ≤ e') : Shw d k' e' := by
  obtain ⟨p, h1, h2, h3, h4⟩ := h
  exact ⟨p, h1, h2, by omega, by omega⟩
end WF

open PySem L2
set_option Elab.async false
set_option linter.all false
set_option maxRecDepth 100000
set_option maxHeartbeats 1000000
/-! # the plain law, part 1: bounds, lowest terms, points and fractions as rational numbers -/
namespace WV
open PySem PySem.Spec PyProof.Rows L2 WF
/-! ## bounds -/
def B (n : Nat) (x : Int) : Prop := x.natAbs < 2 ^ n
theorem B.mono {n m : Nat} {x : Int} (h : B n x) (l : n ≤ m) : B m x := Nat.lt_of_lt_of_le h (Nat.pow_le_pow_right (by decide) l)
theorem B.neg {n : Nat} {x : Int} (h : B n x) : B n (-x) := by unfold B at *; omega
theorem B.mul {n m : Nat} {x y : Int} (h : B n x) (h' : B m y) : B (n + m) (x * y) := by
  unfold B at *
  rw [Int.natAbs_mul, Nat.pow_add]
  exact Nat.mul_lt_mul'' h h'
theorem B.add {n : Nat} {x y : Int} (h : B n x) (h' : B n y) : B (n + 1) (x + y) := by
  unfold B at *
  rw [Nat.pow_succ]
  omega
theorem B.sub {n : Nat} {x y : Int} (h : B n x) (h' : B n y) : B (n + 1) (x - y) := by
  unfold B at *
  rw [Nat.pow_succ]
  omega
theorem B.log {n : Nat} {x : Int} (h : B n x) : x.natAbs.log2 ≤ n := by
  unfold B at h
  by_cases z : x.natAbs = 0
  · rw [z]; exact Nat.zero_le _
  · exact Nat.le_of_lt ((Nat.log2_lt z).mpr h)
theorem B.mulOk {n m : Nat} {x y : Int} (h : B n x) (h' : B m y) (l : n + m < 1000000) : WF.MulOk x y := by
  have a := h.log
  have b := h'.log
  unfold WF.MulOk
  omega
theorem B.divOk {n : Nat} {x : Int} (h : B n x) (p : 0 < x) (l : n < 9000) : WF.DivOk x := by
  have a := h.log
  exact ⟨p, by omega⟩
theorem B.nat {n k : Nat} (h : k < 2 ^ n) : B n (k : Int) := by unfold B; simpa using h
theorem B.div {n : Nat} {x g : Int} (h : B n x) (p : 0 < g) (d : g ∣ x) : B n (x / g) := by
  obtain ⟨k, rfl⟩ := d
  rw [Int.mul_ediv_cancel_left k (by omega)]
  unfold B at *
  rw [Int.natAbs_mul] at h
  have : 1 ≤ g.natAbs := by omega
  exact Nat.lt_of_le_of_lt (Nat.le_mul_of_pos_left _ this) h
/-! ## lowest terms -/
def G2 (a b : Int) : Nat := Nat.gcd a.natAbs b.natAbs
def G3 (a b c : Int) : Nat := Nat.gcd (Nat.gcd a.natAbs b.natAbs) c.natAbs
theorem g3_d1 (a b c : Int) : (G3 a b c : Int) ∣ a := Int.ofNat_dvd_left.mpr (Nat.dvd_trans (Nat.gcd_dvd_left _ _) (Nat.gcd_dvd_left _ _))
theorem g3_d2 (a b c : Int) : (G3 a b c : Int) ∣ b := Int.ofNat_dvd_left.mpr (Nat.dvd_trans (Nat.gcd_dvd_left _ _) (Nat.gcd_dvd_right _ _))
theorem g3_d3 (a b c : Int) : (G3 a b c : Int) ∣ c := Int.ofNat_dvd_left.mpr (Nat.gcd_dvd_right _ _)
theorem g2_d1 (a b : Int) : (G2 a b : Int) ∣ a := Int.ofNat_dvd_left.mpr (Nat.gcd_dvd_left _ _)
theorem g2_d2 (a b : Int) : (G2 a b : Int) ∣ b := Int.ofNat_dvd_left.mpr (Nat.gcd_dvd_right _ _)
theorem g3_pos {a b c : Int} (h : a ≠ 0 ∨ b ≠ 0 ∨ c ≠ 0) : 0 < G3 a b c := by
  unfold G3
  rcases h with h | h | h
  · exact Nat.gcd_pos_of_pos_left _ (Nat.gcd_pos_of_pos_left _ (by omega))
  · exact Nat.gcd_pos_of_pos_left _ (Nat.gcd_pos_of_pos_right _ (by omega))
  · exact Nat.gcd_pos_of_pos_right _ (by omega)
theorem g2_pos {a b : Int} (h : a ≠ 0 ∨ b ≠ 0) : 0 < G2 a b := by
  unfold G2
  rcases h with h | h
  · exact Nat.gcd_pos_of_pos_left _ (by omega)
  · exact Nat.gcd_pos_of_pos_right _ (by omega)
theorem g3_mul (k a b c : Int) : G3 (k * a) (k * b) (k * c) = k.natAbs * G3 a b c := by
  unfold G3
  rw [Int.natAbs_mul, Int.natAbs_mul, Int.natAbs_mul, Nat.gcd_mul_left, Nat.gcd_mul_left]
theorem g2_mul (k a b : Int) : G2 (k * a) (k * b) = k.natAbs * G2 a b := by
  unfold G2
  rw [Int.natAbs_mul, Int.natAbs_mul, Nat.gcd_mul_left]
theorem g3_le {a b c : Int} {n : Nat} (h : 0 < c) (bc : B n c) : B n (G3 a b c) := by
  refine B.nat ?_
  have : G3 a b c ≤ c.natAbs := Nat.le_of_dvd (by omega) (Nat.gcd_dvd_right _ _)
  unfold B at bc
  omega
/-- a, b, c divided by their greatest divisor -/
theorem low3 {a b c : Int} (h : a ≠ 0 ∨ b ≠ 0 ∨ c ≠ 0) : ∃ x y w : Int, a = G3 a b c * x ∧ b = G3 a b c * y ∧ c = G3 a b c * w ∧ G3 x y w = 1 ∧ a / G3 a b c = x ∧ b / G3 a b c = y ∧ c / G3 a b c = w := by
  obtain ⟨x, hx⟩ := g3_d1 a b c
  obtain ⟨y, hy⟩ := g3_d2 a b c
  obtain ⟨w, hw⟩ := g3_d3 a b c
  have gp := g3_pos h
  generalize hg : G3 a b c = g at *
  have gp' : (g : Int) ≠ 0 := by omega
  refine ⟨x, y, w, hx, hy, hw, ?_, by rw [hx]; exact Int.mul_ediv_cancel_left x gp', by rw [hy]; exact Int.mul_ediv_cancel_left y gp', by rw [hw]; exact Int.mul_ediv_cancel_left w gp'⟩
  rw [hx, hy, hw, g3_mul] at hg
  simp only [Int.natAbs_natCast] at hg
  have : g * G3 x y w = g * 1 := by omega
  exact Nat.eq_of_mul_eq_mul_left gp this
theorem low2 {a b : Int} (h : a ≠ 0 ∨ b ≠ 0) : ∃ x y : Int, a = G2 a b * x ∧ b = G2 a b * y ∧ G2 x y = 1 ∧ a / G2 a b = x ∧ b / G2 a b = y := by
  obtain ⟨x, hx⟩ := g2_d1 a b
  obtain ⟨y, hy⟩ := g2_d2 a b
  have gp := g2_pos h
  generalize hg : G2 a b = g at *
  have gp' : (g : Int) ≠ 0 := by omega
  refine ⟨x, y, hx, hy, ?_, by rw [hx]; exact Int.mul_ediv_cancel_left x gp', by rw [hy]; exact Int.mul_ediv_cancel_left y gp'⟩
  rw [hx, hy, g2_mul] at hg
  simp only [Int.natAbs_natCast] at hg
  have : g * G2 x y = g * 1 := by omega
  exact Nat.eq_of_mul_eq_mul_left gp this
/-- proportional and both lowest: the same -/
theorem uniq3 {j k x y w x' y' w' : Int} (hj : 0 < j) (hk : 0 < k) (e1 : j * x = k * x') (e2 : j * y = k * y') (e3 : j * w = k * w') (l : G3 x y w = 1) (l' : G3 x' y' w' = 1) : x = x' ∧ y = y' ∧ w = w' := by
  have g : G3 (j * x) (j * y) (j * w) = G3 (k * x') (k * y') (k * w') := by rw [e1, e2, e3]
  rw [g3_mul, g3_mul, l, l'] at g
  have : j = k := by omega
  subst this
  have c := fun {u v : Int} (e : j * u = j * v) => Int.eq_of_mul_eq_mul_left (by omega : j ≠ 0) e
  exact ⟨c e1, c e2, c e3⟩
theorem uniq2 {j k x y x' y' : Int} (hj : 0 < j) (hk : 0 < k) (e1 : j * x = k * x') (e2 : j * y = k * y') (l : G2 x y = 1) (l' : G2 x' y' = 1) : x = x' ∧ y = y' := by
  have g : G2 (j * x) (j * y) = G2 (k * x') (k * y') := by rw [e1, e2]
  rw [g2_mul, g2_mul, l, l'] at g
  have : j = k := by omega
  subst this
  have c := fun {u v : Int} (e : j * u = j * v) => Int.eq_of_mul_eq_mul_left (by omega : j ≠ 0) e
  exact ⟨c e1, c e2⟩
/-! ## shapes -/
abbrev V2 (a b : Int) : D := .tup [.int a, .int b]
abbrev V3 (a b c : Int) : D := .tup [.int a, .int b, .int c]
/-- a point: lowest, of a denominator above 0 -/
structure Vc (n : Nat) (x y w : Int) : Prop where
  pos : 0 < w
  lo : G3 x y w = 1
  bx : B n x
  by_ : B n y
  bw : B n w
structure Fc (n : Nat) (a b : Int) : Prop where
  pos : 0 < b
  lo : G2 a b = 1
  ba : B n a
  bb : B n b
/-- d is the point (p, q) -/
def IsV (n : Nat) (p q : Rat) (d : D) : Prop := ∃ x y w : Int, d = V3 x y w ∧ Vc n x y w ∧ (x : Rat) = p * w ∧ (y : Rat) = q * w
def IsF (n : Nat) (r : Rat) (d : D) : Prop := ∃ a b : Int, d = V2 a b ∧ Fc n a b ∧ (a : Rat) = r * b
theorem ratne {w : Int} (h : 0 < w) : (w : Rat) ≠ 0 := by
  have := Rat.intCast_pos.mpr h
  grind
theorem ratpos {w : Int} (h : 0 < w) : 0 < (w : Rat) := Rat.intCast_pos.mpr h
theorem IsV.uniq {n m : Nat} {p q : Rat} {d e : D} (h : IsV n p q d) (h' : IsV m p q e) : d = e := by
  obtain ⟨x, y, w, rfl, v, h1, h2⟩ := h
  obtain ⟨x', y', w', rfl, v', h1', h2'⟩ := h'
  have a1 : (w' : Rat) * x = w * x' := by rw [h1, h1']; grind
  have a2 : (w' : Rat) * y = w * y' := by rw [h2, h2']; grind
  have b1 : w' * x = w * x' := by exact_mod_cast a1
  have b2 : w' * y = w * y' := by exact_mod_cast a2
  obtain ⟨rfl, rfl, rfl⟩ := uniq3 v'.pos v.pos b1 b2 (by rw [Int.mul_comm]) v.lo v'.lo
  rfl
theorem IsF.uniq {n m : Nat} {r : Rat} {d e : D} (h : IsF n r d) (h' : IsF m r e) : d = e := by
  obtain ⟨x, w, rfl, v, h1⟩ := h
  obtain ⟨x', w', rfl, v', h1'⟩ := h'
  have a1 : (w' : Rat) * x = w * x' := by rw [h1, h1']; grind
  have b1 : w' * x = w * x' := by exact_mod_cast a1
  obtain ⟨rfl, rfl⟩ := uniq2 v'.pos v.pos b1 (by rw [Int.mul_comm]) v.lo v'.lo
  rfl
theorem IsV.mono {n m : Nat} {p q : Rat} {d : D} (h : IsV n p q d) (l : n ≤ m) : IsV m p q d := by
  obtain ⟨x, y, w, rfl, v, h1, h2⟩ := h
  exact ⟨x, y, w, rfl, ⟨v.pos, v.lo, v.bx.mono l, v.by_.mono l, v.bw.mono l⟩, h1, h2⟩
theorem IsF.mono {n m : Nat} {r : Rat} {d : D} (h : IsF n r d) (l : n ≤ m) : IsF m r d := by
  obtain ⟨x, w, rfl, v, h1⟩ := h
  exact ⟨x, w, rfl, ⟨v.pos, v.lo, v.ba.mono l, v.bb.mono l⟩, h1⟩
theorem canc {a c g x w p : Rat} (h : g ≠ 0) (e1 : a = g * x) (e3 : c = g * w) (hp : a = p * c) : x = p * w := by
  have : g * x = g * (p * w) := by grind
  grind
theorem castm {a g x : Int} (e : a = g * x) : (a : Rat) = (g : Rat) * (x : Rat) := by rw [e]; exact Rat.intCast_mul g x
/-- from any a, b, c over their divisor -/
theorem isV_low {n : Nat} {a b c : Int} {p q : Rat} (hc : 0 < c) (ba : B n a) (bb : B n b) (bc : B n c) (hp : (a : Rat) = p * c) (hq : (b : Rat) = q * c) : IsV n p q (V3 (a / G3 a b c) (b / G3 a b c) (c / G3 a b c)) := by
  obtain ⟨x, y, w, e1, e2, e3, lo, d1, d2, d3⟩ := low3 (a := a) (b := b) (c := c) (.inr (.inr (by omega)))
  have gp : 0 < G3 a b c := g3_pos (.inr (.inr (by omega)))
  have gp' : (0 : Int) < G3 a b c := by omega
  have B1 := ba.div gp' (g3_d1 a b c)
  have B2 := bb.div gp' (g3_d2 a b c)
  have B3 := bc.div gp' (g3_d3 a b c)
  clear gp
  generalize ((G3 a b c : Nat) : Int) = g at *
  rw [d1] at B1
  rw [d2] at B2
  rw [d3] at B3
  have wp : 0 < w := by
    rcases Int.lt_trichotomy w 0 with z | z | z
    · have := Int.mul_neg_of_pos_of_neg gp' z; omega
    · subst z; simp at e3; omega
    · exact z
  exact ⟨x, y, w, by rw [d1, d2, d3], ⟨wp, lo, B1, B2, B3⟩, canc (ratne gp') (castm e1) (castm e3) hp, canc (ratne gp') (castm e2) (castm e3) hq⟩
theorem isF_low {n : Nat} {a c : Int} {p : Rat} (hc : 0 < c) (ba : B n a) (bc : B n c) (hp : (a : Rat) = p * c) : IsF n p (V2 (a / G2 a c) (c / G2 a c)) := by
  obtain ⟨x, w, e1, e3, lo, d1, d3⟩ := low2 (a := a) (b := c) (.inr (by omega))
  have gp : 0 < G2 a c := g2_pos (.inr (by omega))
  have gp' : (0 : Int) < G2 a c := by omega
  have B1 := ba.div gp' (g2_d1 a c)
  have B3 := bc.div gp' (g2_d2 a c)
  clear gp
  generalize ((G2 a c : Nat) : Int) = g at *
  rw [d1] at B1
  rw [d3] at B3
  have wp : 0 < w := by
    rcases Int.lt_trichotomy w 0 with z | z | z
    · have := Int.mul_neg_of_pos_of_neg gp' z; omega
    · subst z; simp at e3; omega
    · exact z
  exact ⟨x, w, by rw [d1, d3], ⟨wp, lo, B1, B3⟩, canc (ratne gp') (castm e1) (castm e3) hp⟩
/-- a direction -/
def IsD (d : D) : Prop := ∃ a b : Int, d = V2 a b ∧ G2 a b = 1 ∧ B 30 a ∧ B 30 b
/-! ## Euclid's loop -/
theorem euclid (test : ASt → Option Bool) (body : ASt → Option Res) (mk : Nat → Nat → ASt) (ht : ∀ a b, test (mk a b) = some (decide (0 < b))) (hb : ∀ a b, 0 < b → body (mk a b) = some (.nx (mk b (a % b)))) :
    ∀ n a b, b ≤ n → evWh test body (n + 1) (mk a b) = some (.nx (mk (Nat.gcd a b) 0))
  | n, a, b, h => by
    unfold evWh
    rw [ht]
    by_cases z : 0 < b
    · simp only [z, decide_true, Option.bind_some, if_true, hb a b z]
      cases n with
      | zero => omega
      | succ n =>
        rw [euclid test body mk ht hb n b (a % b) (by have := Nat.mod_lt a z; omega)]
        have e : Nat.gcd b (a % b) = Nat.gcd a b := by rw [Nat.gcd_comm a b, Nat.gcd_rec b a, Nat.gcd_comm]
        rw [e]
    · have : b = 0 := by omega
      subst this
      simp
theorem forE_inv {Φ : Nat → PF} {p : CP} {b : CSs} {I : ASt → Prop} : ∀ {ds : List D} {σ : ASt}, (∀ d ∈ ds, ∀ σ, I σ → ∃ σ', ((evP p d σ).bind (evSs Φ b)) = some (.nx σ') ∧ I σ') → I σ → ∃ σ', forE Φ p b ds σ = some (.nx σ') ∧ I σ'
  | [], σ, _, i => ⟨σ, rfl, i⟩
  | d :: ds, σ, h, i => by
    obtain ⟨σ1, e1, i1⟩ := h d List.mem_cons_self σ i
    obtain ⟨σ2, e2, i2⟩ := forE_inv (ds := ds) (fun x m => h x (List.mem_cons_of_mem _ m)) i1
    exact ⟨σ2, by rw [forE_cons, e1]; exact e2, i2⟩
theorem atI_mem {xs : List D} {r : Int} (h0 : 0 ≤ r) (h1 : r < xs.length) : ∃ d, atI xs r = some d ∧ d ∈ xs := by
  have l : r.toNat < xs.length := by omega
  refine ⟨xs[r.toNat], ?_, List.getElem_mem l⟩
  simp [h0, h1, List.getElem?_eq_getElem l]
theorem cut_mem {α : Type} {xs : List α} {lo hi : Option Int} {x : α} (h : x ∈ cutG xs lo hi) : x ∈ xs := List.mem_of_mem_drop (List.mem_of_mem_take h)
theorem mulLt {x y : Int} (h : x.natAbs < 2 ^ 100) (h' : y.natAbs < 2 ^ 100) : WF.MulOk x y := B.mulOk (n := 100) (m := 100) h h' (by decide)
/-! ## repr of small things -/
theorem shw_v3 {a b c : Int} {n : Nat} (ba : B n a) (bb : B n b) (bc : B n c) (l : n ≤ 1900) : Shw (V3 a b c) 5773 2 := by
  refine (Shw.tup (k := 1921) (e := 1) fun d m => ?_).mono (by simp) (by simp)
  simp only [List.mem_cons, List.not_mem_nil, or_false] at m
  rcases m with rfl | rfl | rfl
  · exact Shw.int (by have := ba.log; omega)
  · exact Shw.int (by have := bb.log; omega)
  · exact Shw.int (by have := bc.log; omega)
theorem shw_v2 {a b : Int} {n : Nat} (ba : B n a) (bb : B n b) (l : n ≤ 1900) : Shw (V2 a b) 5773 2 := by
  refine (Shw.tup (k := 1921) (e := 1) fun d m => ?_).mono (by simp) (by simp)
  simp only [List.mem_cons, List.not_mem_nil, or_false] at m
  rcases m with rfl | rfl
  · exact Shw.int (by have := ba.log; omega)
  · exact Shw.int (by have := bb.log; omega)
theorem shw_f {n : Nat} {p : Rat} {d : D} (h : IsF n p d) (l : n ≤ 1900) : Shw d 5773 2 := by
  obtain ⟨x, w, rfl, v, _⟩ := h
  exact shw_v2 v.ba v.bb l
theorem shw_v {n : Nat} {p q : Rat} {d : D} (h : IsV n p q d) (l : n ≤ 1900) : Shw d 5773 2 := by
  obtain ⟨x, y, w, rfl, v, _, _⟩ := h
  exact shw_v3 v.bx v.by_ v.bw l
theorem shw_i {n : Nat} {x : Int} (h : B n x) (l : n ≤ 1900) : Shw (.int x) 5773 2 := (Shw.int (by have := h.log; omega)).mono (by decide) (by decide)
theorem shw_1 {d : D} (h : Shw d 5773 2) : reprE d = some (.str (rp d)) := repr_eq h (by decide) (by decide)
theorem IsF.eqv {n m : Nat} {p p' : Rat} {d e : D} (h : IsF n p d) (h' : IsF m p' e) (e1 : p = p') : d = e := by
  subst e1
  exact IsF.uniq h h'
theorem IsV.eqv {n m : Nat} {p q p' q' : Rat} {d e : D} (h : IsV n p q d) (h' : IsV m p' q' e) (e1 : p = p') (e2 : q = q') : d = e := by
  subst e1 e2
  exact IsV.uniq h h'
end WV

open PySem L2
set_option Elab.async false
set_option linter.all false
set_option maxRecDepth 100000
set_option maxHeartbeats 0
namespace K55
open PySem PySem.Spec PyProof.Rows L2 WF WV
abbrev top (i : Nat) : Stmt := PySem.Challenge.pw_windfigure_k55_whole_dear_shares_counted.main.body.getD i (.Pass ⟨0, 0, 0, 0⟩)
abbrev N_law_gcd : List Str := (["_law_one", "_law_two"] : List Str)
def c_law_gcd : CSs := (.cons (.par2 0 1 (.cons (.bi .abs (.cons (.var 0) .nil)) (.cons (.bi .abs (.cons (.var 1) .nil)) .nil))) (.cons (.whl (.cmp .NotEq (.var 1) (.cst (.int 0))) (.cons (.par2 0 1 (.cons (.var 1) (.cons (.bin .Mod false (.bi .int (.cons (.var 0) .nil)) (.var 1)) .nil))) .nil)) (.cons (.ret (.var 0)) .nil)))
abbrev N_law_ratio : List Str := (["_law_n", "_law_m", "_law_low"] : List Str)
def c_law_ratio : CSs := (.cons (.asg (.nm 2) (.fn 0 (.cons (.var 0) (.cons (.var 1) .nil)))) (.cons (.ret (.ife (.cmp .Gt (.var 1) (.cst (.int 0))) (.tup (.cons (.bin .FloorDiv false (.var 0) (.var 2)) (.cons (.bin .FloorDiv false (.var 1) (.var 2)) .nil))) (.tup (.cons (.bin .Sub false (.cst (.int 0)) (.bin .FloorDiv false (.var 0) (.var 2))) (.cons (.bin .Sub false (.cst (.int 0)) (.bin .FloorDiv false (.var 1) (.var 2))) .nil))))) .nil))
abbrev N_law_draw : List Str := (["_law_sack_here", "_law_size", "_law_blend", "_law_digit"] : List Str)
def c_law_draw : CSs := (.cons (.ife (.cmp .Gt (.idx (.var 0) (.cst (.int 0))) (.cst (.int 0))) (.cons (.asg (.tp (.cons (.sb (.var 0) (.cst (.int 0))) (.cons (.nm 3) .nil))) (.bi .divmod (.cons (.idx (.var 0) (.cst (.int 0))) (.cons (.var 1) .nil)))) (.cons (.ret (.var 3)) .nil)) .nil) (.cons (.asg (.sb (.var 0) (.cst (.int 2))) (.bin .Add false (.idx (.var 0) (.cst (.int 2))) (.cst (.int 1)))) (.cons (.asg (.nm 2) (.bin .Mod false (.bi .int (.cons (.bin .Add false (.bin .Mult false (.idx (.var 0) (.cst (.int 1))) (.cst (.int 16807))) (.bin .Mult false (.idx (.var 0) (.cst (.int 2))) (.cst (.int 48611)))) .nil)) (.cst (.int 2147483543)))) (.cons (.asg (.sb (.var 0) (.cst (.int 1))) (.bin .Mod false (.bi .int (.cons (.bin .Add false (.bin .Mult false (.var 2) (.bin .Add false (.bin .Mod false (.bi .int (.cons (.bin .FloorDiv false (.var 2) (.cst (.int 11))) .nil)) (.cst (.int 3001))) (.cst (.int 10007)))) (.cst (.int 29))) .nil)) (.cst (.int 2147483543)))) (.cons (.ret (.bin .Mod false (.bi .int (.cons (.bin .FloorDiv false (.idx (.var 0) (.cst (.int 1))) (.cst (.int 523))) .nil)) (.var 1))) .nil)))))
abbrev N_law_fewest : List Str := (["_law_up", "_law_here", "_law_there", "_law_wide", "_law_is_first", "_law_base", "_law_found", "_law_goal", "_law_near", "_law_far", "_law_high", "_law_often", "_law_each", "_law_spot", "_law_whole", "_law_is_up"] : List Str)
def c_law_fewest : CSs := (.cons (.asg (.tp (.cons (.nm 5) (.cons (.nm 6) .nil))) (.tup (.cons (.bin .Mult false (.bin .Mult false (.bin .Mult false (.idx (.var 0) (.cst (.int 1))) (.idx (.var 1) (.cst (.int 1)))) (.idx (.var 2) (.cst (.int 1)))) (.idx (.var 3) (.cst (.int 1)))) (.cons (.lst true .nil) .nil)))) (.cons (.asg (.tp (.cons (.nm 7) (.cons (.nm 8) (.cons (.nm 9) (.cons (.nm 10) .nil))))) (.lc false (.nm 12) (.seq (.tup (.cons (.var 0) (.cons (.var 1) (.cons (.var 2) (.cons (.var 3) .nil)))))) .nil (.bin .Mult false (.idx (.var 12) (.cst (.int 0))) (.bin .FloorDiv false (.var 5) (.idx (.var 12) (.cst (.int 1))))) [("_law_each", 12)])) (.cons (.for_ (.nm 4) (.seq (.tup (.cons (.cst (.bool true)) (.cons (.cst (.bool false)) .nil)))) (.cons (.par3 13 14 15 (.cons (.var 8) (.cons (.cst (.int 0)) (.cons (.var 4) .nil)))) (.cons (.for_ (.nm 11) (.rng (.cons (.cst (.int 1)) (.cons (.cst (.int 1000000)) .nil))) (.cons (.ife (.con .And (.cons (.cmp .Gt (.var 11) (.cst (.int 1))) (.cons (.cmp .GtE (.ife (.var 15) (.bin .Sub false (.bin .Add false (.var 14) (.var 9)) (.var 13)) (.var 14)) (.var 7)) .nil))) (.cons (.expr (.met .append 6 (.cons (.var 11) .nil))) (.cons .brk .nil)) .nil) (.cons (.asg (.nm 14) (.ife (.var 15) (.bin .Sub false (.bin .Add false (.var 14) (.var 10)) (.var 13)) (.var 14))) (.cons (.par2 13 15 (.cons (.ife (.var 15) (.var 10) (.cst (.int 0))) (.cons (.nt (.var 15)) .nil))) .nil)))) .nil))) (.cons (.ret (.ife (.cmp .NotEq (.var 6) (.lst false .nil)) (.bi .min (.cons (.var 6) .nil)) (.cst (.int 0)))) .nil))))
abbrev N_is_lower : List Str := (["one", "two"] : List Str)
def c_is_lower : CSs := (.cons (.ret (.cmp .Lt (.bin .Mult false (.idx (.var 0) (.cst (.int 0))) (.idx (.var 1) (.cst (.int 1)))) (.bin .Mult false (.idx (.var 1) (.cst (.int 0))) (.idx (.var 0) (.cst (.int 1)))))) .nil)
abbrev N_is_whole : List Str := (["value"] : List Str)
def c_is_whole : CSs := (.cons (.ret (.con .And (.cons (.bi .isi (.cons (.var 0) (.cons (.ty "int") .nil))) (.cons (.nt (.bi .isi (.cons (.var 0) (.cons (.ty "bool") .nil)))) .nil)))) .nil)
abbrev N_are_wholes : List Str := (["value", "many", "number"] : List Str)
def c_are_wholes : CSs := (.cons (.ret (.con .And (.cons (.bi .isi (.cons (.var 0) (.cons (.ty "tuple") .nil))) (.cons (.cmp .Eq (.bi .len (.cons (.var 0) .nil)) (.var 1)) (.cons (.bi .all (.cons (.lc false (.nm 2) (.seq (.var 0)) .nil (.fn 5 (.cons (.var 2) .nil)) [("number", 2)]) .nil)) .nil))))) .nil)
abbrev N_common_divisor : List Str := (["numbers", "found", "number"] : List Str)
def c_common_divisor : CSs := (.cons (.asg (.nm 1) (.cst (.int 0))) (.cons (.for_ (.nm 2) (.seq (.var 0)) (.cons (.asg (.nm 1) (.gcd (.cons (.var 1) (.cons (.var 2) .nil)))) .nil)) (.cons (.ret (.var 1)) .nil)))
abbrev N_is_lowest : List Str := (["numbers"] : List Str)
def c_is_lowest : CSs := (.cons (.ret (.cmp .Eq (.fn 7 (.cons (.var 0) .nil)) (.cst (.int 1)))) .nil)
abbrev N_is_ratio : List Str := (["value"] : List Str)
def c_is_ratio : CSs := (.cons (.ret (.con .And (.cons (.fn 6 (.cons (.var 0) (.cons (.cst (.int 2)) .nil))) (.cons (.cmp .Gt (.idx (.var 0) (.cst (.int 1))) (.cst (.int 0))) (.cons (.fn 8 (.cons (.var 0) .nil)) .nil))))) .nil)
abbrev N_is_form : List Str := (["value", "number"] : List Str)
def c_is_form : CSs := (.cons (.ife (.con .Or (.cons (.nt (.bi .isi (.cons (.var 0) (.cons (.ty "tuple") .nil)))) (.cons (.cmp .NotEq (.bi .len (.cons (.var 0) .nil)) (.cst (.int 2))) (.cons (.nt (.bi .all (.cons (.lc false (.nm 1) (.seq (.var 0)) .nil (.fn 9 (.cons (.var 1) .nil)) [("number", 1)]) .nil))) .nil)))) (.cons (.ret (.cst (.bool false))) .nil) .nil) (.cons (.ret (.con .And (.cons (.cmp .Gt (.idx (.idx (.var 0) (.cst (.int 0))) (.cst (.int 0))) (.cst (.int 0))) (.cons (.cmp .GtE (.idx (.idx (.var 0) (.cst (.int 1))) (.cst (.int 0))) (.cst (.int 0))) (.cons (.nt (.fn 4 (.cons (.glo "ONE" (.t1 [(.int 1), (.int 1)])) (.cons (.idx (.var 0) (.cst (.int 1))) .nil)))) .nil))))) .nil))
abbrev N_check_form : List Str := (["value"] : List Str)
def c_check_form : CSs := (.cons (.ife (.nt (.fn 10 (.cons (.var 0) .nil))) (.cons .nev .nil) .nil) .nil)
abbrev N_lower_of : List Str := (["one", "two"] : List Str)
def c_lower_of : CSs := (.cons (.ret (.ife (.fn 4 (.cons (.var 1) (.cons (.var 0) .nil))) (.var 1) (.var 0))) .nil)
abbrev N_lowest : List Str := (["numbers", "divisor", "number"] : List Str)
def c_lowest : CSs := (.cons (.asg (.nm 1) (.fn 7 (.cons (.var 0) .nil))) (.cons (.ret (.bi .tuple (.cons (.lc false (.nm 2) (.seq (.var 0)) .nil (.bin .FloorDiv false (.var 2) (.var 1)) [("number", 2)]) .nil))) .nil))
abbrev N_ratio : List Str := (["over", "under"] : List Str)
def c_ratio : CSs := (.cons (.ret (.ife (.cmp .Gt (.var 1) (.cst (.int 0))) (.fn 13 (.cons (.tup (.cons (.var 0) (.cons (.var 1) .nil))) .nil)) (.fn 13 (.cons (.tup (.cons (.neg (.var 0)) (.cons (.neg (.var 1)) .nil))) .nil)))) .nil)
abbrev N_ratio_less : List Str := (["one", "two"] : List Str)
def c_ratio_less : CSs := (.cons (.ret (.fn 14 (.cons (.bin .Sub false (.bin .Mult false (.idx (.var 0) (.cst (.int 0))) (.idx (.var 1) (.cst (.int 1)))) (.bin .Mult false (.idx (.var 1) (.cst (.int 0))) (.idx (.var 0) (.cst (.int 1))))) (.cons (.bin .Mult false (.idx (.var 0) (.cst (.int 1))) (.idx (.var 1) (.cst (.int 1)))) .nil)))) .nil)
abbrev N_up : List Str := (["number"] : List Str)
def c_up : CSs := (.cons (.ret (.neg (.bin .FloorDiv false (.neg (.idx (.var 0) (.cst (.int 0)))) (.idx (.var 0) (.cst (.int 1)))))) .nil)
abbrev N_ratio_product : List Str := (["one", "two"] : List Str)
def c_ratio_product : CSs := (.cons (.ret (.fn 14 (.cons (.bin .Mult false (.idx (.var 0) (.cst (.int 0))) (.idx (.var 1) (.cst (.int 0)))) (.cons (.bin .Mult false (.idx (.var 0) (.cst (.int 1))) (.idx (.var 1) (.cst (.int 1)))) .nil)))) .nil)
abbrev N_dear_share : List Str := (["form", "under", "part"] : List Str)
def c_dear_share : CSs := (.cons (.expr (.fn 11 (.cons (.var 0) .nil))) (.cons (.asg (.nm 1) (.idx (.idx (.var 0) (.cst (.int 0))) (.cst (.int 1)))) (.cons (.asg (.nm 2) (.fn 12 (.cons (.idx (.var 0) (.cst (.int 1))) (.cons (.fn 15 (.cons (.glo "ONE" (.t1 [(.int 1), (.int 1)])) (.cons (.idx (.var 0) (.cst (.int 1))) .nil))) .nil)))) (.cons (.ret (.fn 14 (.cons (.fn 16 (.cons (.fn 17 (.cons (.var 2) (.cons (.tup (.cons (.var 1) (.cons (.cst (.int 1)) .nil))) .nil))) .nil)) (.cons (.var 1) .nil)))) .nil))))
abbrev N_ratio_sum : List Str := (["one", "two"] : List Str)
def c_ratio_sum : CSs := (.cons (.ret (.fn 14 (.cons (.bin .Add false (.bin .Mult false (.idx (.var 0) (.cst (.int 0))) (.idx (.var 1) (.cst (.int 1)))) (.bin .Mult false (.idx (.var 1) (.cst (.int 0))) (.idx (.var 0) (.cst (.int 1))))) (.cons (.bin .Mult false (.idx (.var 0) (.cst (.int 1))) (.idx (.var 1) (.cst (.int 1)))) .nil)))) .nil)
abbrev N_fewest_of : List Str := (["rise", "fall", "start", "here", "there"] : List Str)
def c_fewest_of : CSs := (.cons (.asg (.nm 3) (.bin .Mult false (.cst (.int 2)) (.fn 16 (.cons (.fn 19 (.cons (.var 0) (.cons (.var 2) .nil))) .nil)))) (.cons (.asg (.nm 4) (.bin .Add false (.bin .Mult false (.cst (.int 2)) (.fn 16 (.cons (.fn 15 (.cons (.var 1) (.cons (.var 2) .nil))) .nil))) (.cst (.int 2)))) (.cons (.ret (.bi .min (.cons (.bin .Add false (.bin .Mult false (.cst (.int 2)) (.fn 16 (.cons (.var 0) .nil))) (.cst (.int 1))) (.cons (.bin .Add false (.bin .Mult false (.cst (.int 2)) (.fn 16 (.cons (.var 1) .nil))) (.cst (.int 1))) (.cons (.var 3) (.cons (.var 4) .nil)))))) .nil)))
abbrev N_runs_by_form : List Str := (["form", "many", "length"] : List Str)
def c_runs_by_form : CSs := (.cons (.expr (.fn 11 (.cons (.var 0) .nil))) (.cons (.ife (.con .Or (.cons (.nt (.fn 5 (.cons (.var 1) .nil))) (.cons (.cmp .Lt (.var 1) (.cst (.int 1))) .nil))) (.cons .nev .nil) .nil) (.cons (.asg (.nm 2) (.fn 17 (.cons (.idx (.var 0) (.cst (.int 0))) (.cons (.tup (.cons (.var 1) (.cons (.cst (.int 1)) .nil))) .nil)))) (.cons (.ret (.fn 20 (.cons (.var 2) (.cons (.var 2) (.cons (.idx (.var 0) (.cst (.int 1))) .nil))))) .nil))))
abbrev N_law_right : List Str := (["_law_sack_here", "_law_turn", "_law_slow", "_law_often", "_law_k", "_law_due", "_law_off", "_law_dear", "_law_first", "_law_up", "_law_here", "_law_shut"] : List Str)
def c_law_right : CSs := (.cons (.for_ (.nm 1) (.rng (.cons (.cst (.int 3)) .nil)) (.cons (.asg (.nm 2) (.fn 1 (.cons (.bin .Add false (.cst (.int 1)) (.fn 2 (.cons (.var 0) (.cons (.cst (.int 29)) .nil)))) (.cons (.bin .Add false (.cst (.int 1)) (.fn 2 (.cons (.var 0) (.cons (.cst (.int 9)) .nil)))) .nil)))) (.cons (.asg (.nm 3) (.bin .Add false (.cst (.int 1)) (.fn 2 (.cons (.var 0) (.cons (.cst (.int 8)) .nil))))) (.cons (.par3 6 7 8 (.cons (.fn 1 (.cons (.fn 2 (.cons (.var 0) (.cons (.bin .Add false (.var 3) (.cst (.int 1))) .nil))) (.cons (.var 3) .nil))) (.cons (.cst (.int 0)) (.cons (.bin .Add false (.cst (.int 1)) (.fn 2 (.cons (.var 0) (.cons (.cst (.int 12)) .nil)))) .nil)))) (.cons (.for_ (.nm 4) (.rng (.cons (.var 8) (.cons (.bin .Add false (.var 8) (.idx (.var 2) (.cst (.int 1)))) .nil))) (.cons (.asg (.nm 9) (.fn 1 (.cons (.bin .Mult false (.idx (.var 2) (.cst (.int 0))) (.var 4)) (.cons (.idx (.var 2) (.cst (.int 1))) .nil)))) (.cons (.par2 10 11 (.cons (.fn 3 (.cons (.var 9) (.cons (.var 6) (.cons (.var 6) (.cons (.tup (.cons (.cst (.int 1)) (.cons (.cst (.int 1)) .nil))) .nil))))) (.cons (.fn 3 (.cons (.var 9) (.cons (.tup (.cons (.cst (.int 0)) (.cons (.cst (.int 1)) .nil))) (.cons (.tup (.cons (.cst (.int 0)) (.cons (.cst (.int 1)) .nil))) (.cons (.tup (.cons (.cst (.int 1)) (.cons (.cst (.int 1)) .nil))) .nil))))) .nil))) (.cons (.asg (.nm 7) (.bin .Sub false (.bin .Add false (.var 7) (.var 10)) (.var 11))) (.cons (.ife (.con .And (.cons (.cmp .Lt (.var 4) (.bin .Add false (.var 8) (.cst (.int 3)))) (.cons (.cmp .NotEq (.bi .repr (.cons (.fn 21 (.cons (.tup (.cons (.var 2) (.cons (.var 6) .nil))) (.cons (.var 4) .nil))) .nil)) (.bi .repr (.cons (.var 10) .nil))) .nil))) (.cons (.ret (.cst (.bool false))) .nil) .nil) (.cons (.ife (.con .And (.cons (.cmp .Eq (.var 4) (.var 8)) (.cons (.cmp .NotEq (.bi .repr (.cons (.fnK 21 .nil ["many", "form"] (.cons (.var 4) (.cons (.tup (.cons (.var 2) (.cons (.tup (.cons (.cst (.int 0)) (.cons (.cst (.int 1)) .nil))) .nil))) .nil)) [1, 0]) .nil)) (.bi .repr (.cons (.var 11) .nil))) .nil))) (.cons (.ret (.cst (.bool false))) .nil) .nil) .nil)))))) (.cons (.asg (.nm 5) (.bi .repr (.cons (.fn 1 (.cons (.var 7) (.cons (.idx (.var 2) (.cst (.int 1))) .nil))) .nil))) (.cons (.ife (.con .Or (.cons (.cmp .NotEq (.bi .repr (.cons (.fn 18 (.cons (.tup (.cons (.var 2) (.cons (.var 6) .nil))) .nil)) .nil)) (.var 5)) (.cons (.cmp .NotEq (.bi .repr (.cons (.fnK 18 .nil ["form"] (.cons (.tup (.cons (.var 2) (.cons (.var 6) .nil))) .nil) [0]) .nil)) (.var 5)) .nil))) (.cons (.ret (.cst (.bool false))) .nil) .nil) .nil))))))) (.cons (.ret (.cst (.bool true))) .nil))
abbrev N_law_sack : List Str := (["_law_script", "_law_turn", "_law_cell", "_law_stir", "_law_each"] : List Str)
def c_law_sack : CSs := (.cons (.asg (.nm 2) (.ife (.cmp .Lt (.var 1) (.bi .len (.cons (.var 0) .nil))) (.bi .int (.cons (.idx (.var 0) (.var 1)) .nil)) (.bin .Add false (.bin .Mult false (.cst (.int 7919)) (.var 1)) (.cst (.int 101))))) (.cons (.asg (.nm 3) (.bin .Add false (.cst (.int 30011)) (.bin .Mult false (.cst (.int 1709)) (.var 1)))) (.cons (.for_ (.nm 4) (.seq (.bin .Add false (.bi (.list false) (.cons (.cut false (.var 0) .no (.pt (.cst (.int 7)))) .nil)) (.lst false (.cons (.var 2) .nil)))) (.cons (.asg (.nm 3) (.bin .Mod false (.bi .int (.cons (.bin .Add false (.bin .Add false (.bin .Mult false (.var 3) (.cst (.int 69069))) (.bin .Mod false (.bi .int (.cons (.var 4) .nil)) (.cst (.int 2147483543)))) (.cst (.int 13))) .nil)) (.cst (.int 2147483543)))) .nil)) (.cons (.ret (.lst true (.cons (.ife (.con .Or (.cons (.cmp .Lt (.var 2) (.cst (.int 0))) (.cons (.cmp .GtE (.var 2) (.bin .Pow false (.cst (.int 10)) (.cst (.int 18)))) .nil))) (.bi .abs (.cons (.var 2) .nil)) (.cst (.int 0))) (.cons (.var 3) (.cons (.cst (.int 0)) .nil))))) .nil))))
abbrev N_law : List Str := (["_law_script", "_law_turn"] : List Str)
def c_law : CSs := (.cons (.ret (.bi .all (.cons (.lc false (.nm 1) (.rng (.cons (.bi .max (.cons (.cst (.int 2)) (.cons (.bi .min (.cons (.bi .len (.cons (.var 0) .nil)) (.cons (.cst (.int 3)) .nil))) .nil))) .nil)) .nil (.fn 22 (.cons (.fn 23 (.cons (.var 0) (.cons (.var 1) .nil))) .nil)) [("_law_turn", 1)]) .nil))) .nil)
abbrev nm : List Str := (["_law_gcd", "_law_ratio", "_law_draw", "_law_fewest", "is_lower", "is_whole", "are_wholes", "common_divisor", "is_lowest", "is_ratio", "is_form", "check_form", "lower_of", "lowest", "ratio", "ratio_less", "up", "ratio_product", "dear_share", "ratio_sum", "fewest_of", "runs_by_form", "_law_right", "_law_sack", "law"] : List Str)
abbrev fns : List (Str × Stmt) := ([("_law_gcd", top 30), ("_law_ratio", top 31), ("_law_draw", top 29), ("_law_fewest", top 32), ("is_lower", top 18), ("is_whole", top 6), ("are_wholes", top 7), ("common_divisor", top 8), ("is_lowest", top 10), ("is_ratio", top 13), ("is_form", top 23), ("check_form", top 24), ("lower_of", top 19), ("lowest", top 9), ("ratio", top 14), ("ratio_less", top 16), ("up", top 21), ("ratio_product", top 17), ("dear_share", top 26), ("ratio_sum", top 15), ("fewest_of", top 22), ("runs_by_form", top 25), ("_law_right", top 33), ("_law_sack", top 28), ("law", top 34)] : List (Str × Stmt))
abbrev kws : KwT := ([(18, 0, (["form"] : List Str), [0]), (21, 0, (["many", "form"] : List Str), [1, 0])] : List (Nat × Nat × List Str × List Nat))
abbrev gls : List (Str × GV) := [("ONE", (.t1 [(.int 1), (.int 1)]))]

/-- the source of drawn numbers, a list that changes: at most k draws so far -/
def Sr (k : Nat) (a : Addr) (h : AH) : Prop := ∃ x y z : Int, h a = some [.int x, .int y, .int z] ∧ 0 ≤ x ∧ 0 ≤ y ∧ y < 2147483543 ∧ 0 ≤ z ∧ z ≤ k
/-- c is the least whole number from r on -/
def IsC (r : Rat) (c : Int) : Prop := (c : Rat) - 1 < r ∧ r ≤ c
/-- the number of runs -/
def few (c e g : Int) : Int := min (2 * c + 1) (min (2 * e) (2 * g + 2))
def sp_law_draw : ASp := fun ds h Q _ => ∃ (k : Nat) (a : Addr) (n : Int), k < 100000 ∧ ds = [.ref a, .int n] ∧ 0 < n ∧ n < 1073741824 ∧ Sr k a h ∧ ∀ (r : Int) (h' : AH), 0 ≤ r → r < n → Sr (k + 1) a h' → Q (.int r) h'
def sp_law_fewest : ASp := fun ds h Q _ => ∃ (L s : Rat) (u v : D) (c e g : Int), ds = [u, v, v, V2 1 1] ∧ IsF 100 L u ∧ IsF 100 s v ∧ 0 < L ∧ L ≤ 1000 ∧ 0 ≤ s ∧ s ≤ 1 ∧ IsC L c ∧ IsC (L + s) e ∧ IsC (L - s) g ∧
  ∀ h' : AH, (∀ a xs, h a = some xs → h' a = some xs) → Q (.int (few c e g)) h'
def sp_law_right : ASp := fun ds h Q _ => ∃ (k : Nat) (a : Addr), k < 1000 ∧ ds = [.ref a] ∧ Sr k a h ∧ ∀ h' : AH, Q (.bl true) h'
def sp_law_sack : ASp := fun ds h Q _ => ∃ (ns : List Int) (t : Int), ds = [.lst (ns.map D.int), .int t] ∧ 0 ≤ t ∧ t < 3 ∧ ns.length ≤ 63 ∧ ∀ (a : Addr) (h' : AH), Sr 0 a h' → Q (.ref a) h'

noncomputable abbrev P0 : Nat → PF := fun _ => noF
noncomputable def F_law_gcd : PF := evDef P0 2 2 c_law_gcd
noncomputable abbrev P1 : Nat → PF := phiUp P0 0 F_law_gcd
noncomputable def F_law_ratio : PF := evDef P1 3 2 c_law_ratio
noncomputable abbrev P2 : Nat → PF := phiUp P1 1 F_law_ratio
noncomputable def F_is_lower : PF := evDef P2 2 2 c_is_lower
noncomputable abbrev P5 : Nat → PF := phiUp P2 4 F_is_lower
noncomputable def F_is_whole : PF := evDef P5 1 1 c_is_whole
noncomputable abbrev P6 : Nat → PF := phiUp P5 5 F_is_whole
noncomputable def F_are_wholes : PF := evDef P6 3 2 c_are_wholes
noncomputable abbrev P7 : Nat → PF := phiUp P6 6 F_are_wholes
noncomputable def F_common_divisor : PF := evDef P7 3 1 c_common_divisor
noncomputable abbrev P8 : Nat → PF := phiUp P7 7 F_common_divisor
noncomputable def F_is_lowest : PF := evDef P8 1 1 c_is_lowest
noncomputable abbrev P9 : Nat → PF := phiUp P8 8 F_is_lowest
noncomputable def F_is_ratio : PF := evDef P9 1 1 c_is_ratio
noncomputable abbrev P10 : Nat → PF := phiUp P9 9 F_is_ratio
noncomputable def F_is_form : PF := evDef P10 2 1 c_is_form
noncomputable abbrev P11 : Nat → PF := phiUp P10 10 F_is_form
noncomputable def F_check_form : PF := evDef P11 1 1 c_check_form
noncomputable abbrev P12 : Nat → PF := phiUp P11 11 F_check_form
noncomputable def F_lower_of : PF := evDef P12 2 2 c_lower_of
noncomputable abbrev P13 : Nat → PF := phiUp P12 12 F_lower_of
noncomputable def F_lowest : PF := evDef P13 3 1 c_lowest
noncomputable abbrev P14 : Nat → PF := phiUp P13 13 F_lowest
noncomputable def F_ratio : PF := evDef P14 2 2 c_ratio
noncomputable abbrev P15 : Nat → PF := phiUp P14 14 F_ratio
noncomputable def F_ratio_less : PF := evDef P15 2 2 c_ratio_less
noncomputable abbrev P16 : Nat → PF := phiUp P15 15 F_ratio_less
noncomputable def F_up : PF := evDef P16 1 1 c_up
noncomputable abbrev P17 : Nat → PF := phiUp P16 16 F_up
noncomputable def F_ratio_product : PF := evDef P17 2 2 c_ratio_product
noncomputable abbrev P18 : Nat → PF := phiUp P17 17 F_ratio_product
noncomputable def F_dear_share : PF := evDef P18 3 1 c_dear_share
noncomputable abbrev P19 : Nat → PF := phiUp P18 18 F_dear_share
noncomputable def F_ratio_sum : PF := evDef P19 2 2 c_ratio_sum
noncomputable abbrev P20 : Nat → PF := phiUp P19 19 F_ratio_sum
noncomputable def F_fewest_of : PF := evDef P20 5 3 c_fewest_of
noncomputable abbrev P21 : Nat → PF := phiUp P20 20 F_fewest_of
noncomputable def F_runs_by_form : PF := evDef P21 3 2 c_runs_by_form
noncomputable abbrev P22 : Nat → PF := phiUp P21 21 F_runs_by_form
noncomputable def Γ : Gam
  | 0 => (2, spF F_law_gcd)
  | 1 => (2, spF F_law_ratio)
  | 2 => (2, sp_law_draw)
  | 3 => (4, sp_law_fewest)
  | 4 => (2, spF F_is_lower)
  | 5 => (1, spF F_is_whole)
  | 6 => (2, spF F_are_wholes)
  | 7 => (1, spF F_common_divisor)
  | 8 => (1, spF F_is_lowest)
  | 9 => (1, spF F_is_ratio)
  | 10 => (1, spF F_is_form)
  | 11 => (1, spF F_check_form)
  | 12 => (2, spF F_lower_of)
  | 13 => (1, spF F_lowest)
  | 14 => (2, spF F_ratio)
  | 15 => (2, spF F_ratio_less)
  | 16 => (1, spF F_up)
  | 17 => (2, spF F_ratio_product)
  | 18 => (1, spF F_dear_share)
  | 19 => (2, spF F_ratio_sum)
  | 20 => (3, spF F_fewest_of)
  | 21 => (2, spF F_runs_by_form)
  | 22 => (1, sp_law_right)
  | 23 => (2, sp_law_sack)
  | 24 => (1, spLaw 63)
  | _ => (0, fun _ _ _ _ => False)
theorem gP0 : PhiOk Γ P0 := phi_nil
theorem gP1 : PhiOk Γ P1 := phi_up (n := 2) (c := c_law_gcd) gP0 rfl
theorem gP2 : PhiOk Γ P2 := phi_up (n := 3) (c := c_law_ratio) gP1 rfl
theorem gP5 : PhiOk Γ P5 := phi_up (n := 2) (c := c_is_lower) gP2 rfl
theorem gP6 : PhiOk Γ P6 := phi_up (n := 1) (c := c_is_whole) gP5 rfl
theorem gP7 : PhiOk Γ P7 := phi_up (n := 3) (c := c_are_wholes) gP6 rfl
theorem gP8 : PhiOk Γ P8 := phi_up (n := 3) (c := c_common_divisor) gP7 rfl
theorem gP9 : PhiOk Γ P9 := phi_up (n := 1) (c := c_is_lowest) gP8 rfl
theorem gP10 : PhiOk Γ P10 := phi_up (n := 1) (c := c_is_ratio) gP9 rfl
theorem gP11 : PhiOk Γ P11 := phi_up (n := 2) (c := c_is_form) gP10 rfl
theorem gP12 : PhiOk Γ P12 := phi_up (n := 1) (c := c_check_form) gP11 rfl
theorem gP13 : PhiOk Γ P13 := phi_up (n := 2) (c := c_lower_of) gP12 rfl
theorem gP14 : PhiOk Γ P14 := phi_up (n := 3) (c := c_lowest) gP13 rfl
theorem gP15 : PhiOk Γ P15 := phi_up (n := 2) (c := c_ratio) gP14 rfl
theorem gP16 : PhiOk Γ P16 := phi_up (n := 2) (c := c_ratio_less) gP15 rfl
theorem gP17 : PhiOk Γ P17 := phi_up (n := 1) (c := c_up) gP16 rfl
theorem gP18 : PhiOk Γ P18 := phi_up (n := 2) (c := c_ratio_product) gP17 rfl
theorem gP19 : PhiOk Γ P19 := phi_up (n := 3) (c := c_dear_share) gP18 rfl
theorem gP20 : PhiOk Γ P20 := phi_up (n := 2) (c := c_ratio_sum) gP19 rfl
theorem gP21 : PhiOk Γ P21 := phi_up (n := 5) (c := c_fewest_of) gP20 rfl
theorem gP22 : PhiOk Γ P22 := phi_up (n := 3) (c := c_runs_by_form) gP21 rfl
end K55

open PySem L2
set_option Elab.async false
set_option linter.all false
set_option maxRecDepth 100000
set_option maxHeartbeats 1000000
namespace K55
open PySem PySem.Spec PyProof.Rows L2 WF WV
theorem f_is_whole (x : Int) : F_is_whole [.int x] = some (.bl true) := by simp [F_is_whole, c_is_whole]
theorem f_whole2 (a b : Int) : F_are_wholes [V2 a b, .int 2] = some (.bl true) := by simp [F_are_wholes, c_are_wholes, f_is_whole]
theorem f_gcd2 (a b : Int) : F_common_divisor [V2 a b] = some (.int (G2 a b)) := by simp [F_common_divisor, c_common_divisor, G2]
theorem f_lowest2 {a b : Int} (h : DivOk (G2 a b)) : F_lowest [V2 a b] = some (V2 (a / G2 a b) (b / G2 a b)) := by simp [F_lowest, c_lowest, f_gcd2, h]
theorem f_is_lowest2 {a b : Int} (h : G2 a b = 1) : F_is_lowest [V2 a b] = some (.bl true) := by simp [F_is_lowest, c_is_lowest, f_gcd2, h]
theorem f_is_ratio {n : Nat} {a b : Int} (v : Fc n a b) : F_is_ratio [V2 a b] = some (.bl true) := by simp [F_is_ratio, c_is_ratio, f_whole2, f_is_lowest2 v.lo, v.pos]
theorem g2_le {a c : Int} {n : Nat} (h : 0 < c) (bc : B n c) : B n (G2 a c) := by
  refine B.nat ?_
  have : G2 a c ≤ c.natAbs := Nat.le_of_dvd (by omega) (Nat.gcd_dvd_right _ _)
  unfold B at bc
  omega
theorem low_ok2 {n : Nat} {a c : Int} {p : Rat} (hc : 0 < c) (ba : B n a) (bc : B n c) (hp : (a : Rat) = p * c) (l : n < 9000) : ∃ d, F_lowest [V2 a c] = some d ∧ IsF n p d :=
  ⟨_, f_lowest2 ((g2_le hc bc).divOk (by have := g2_pos (a := a) (b := c) (.inr (by omega)); omega) l), isF_low hc ba bc hp⟩
theorem f_ratio {n : Nat} {a c : Int} {p : Rat} (hc : 0 < c) (ba : B n a) (bc : B n c) (hp : (a : Rat) = p * c) (l : n < 9000) : ∃ d, F_ratio [.int a, .int c] = some d ∧ IsF n p d := by
  obtain ⟨d, e, h⟩ := low_ok2 hc ba bc hp l
  exact ⟨d, by simp [F_ratio, c_ratio, hc, e], h⟩
theorem f_ratio_sum {n m : Nat} {p q : Rat} {d e : D} (h : IsF n p d) (h' : IsF m q e) (l : n + m < 8000) : ∃ z, F_ratio_sum [d, e] = some z ∧ IsF (n + m + 1) (p + q) z := by
  obtain ⟨a, b, rfl, v, h1⟩ := h
  obtain ⟨a', b', rfl, v', h1'⟩ := h'
  have m1 := v.ba.mulOk v'.bb (by omega)
  have m2 := v'.ba.mulOk v.bb (by omega)
  have m3 := v.bb.mulOk v'.bb (by omega)
  obtain ⟨z, e1, e2⟩ := f_ratio (n := n + m + 1) (a := a * b' + a' * b) (c := b * b') (p := p + q) (Int.mul_pos v.pos v'.pos) ((v.ba.mul v'.bb).add ((v'.ba.mul v.bb).mono (by omega))) ((v.bb.mul v'.bb).mono (by omega)) (by push_cast; rw [h1, h1']; grind) (by omega)
  exact ⟨z, by simp [F_ratio_sum, c_ratio_sum, m1, m2, m3, e1], e2⟩
theorem f_ratio_less {n m : Nat} {p q : Rat} {d e : D} (h : IsF n p d) (h' : IsF m q e) (l : n + m < 8000) : ∃ z, F_ratio_less [d, e] = some z ∧ IsF (n + m + 1) (p - q) z := by
  obtain ⟨a, b, rfl, v, h1⟩ := h
  obtain ⟨a', b', rfl, v', h1'⟩ := h'
  have m1 := v.ba.mulOk v'.bb (by omega)
  have m2 := v'.ba.mulOk v.bb (by omega)
  have m3 := v.bb.mulOk v'.bb (by omega)
  obtain ⟨z, e1, e2⟩ := f_ratio (n := n + m + 1) (a := a * b' - a' * b) (c := b * b') (p := p - q) (Int.mul_pos v.pos v'.pos) ((v.ba.mul v'.bb).sub ((v'.ba.mul v.bb).mono (by omega))) ((v.bb.mul v'.bb).mono (by omega)) (by push_cast; rw [h1, h1']; grind) (by omega)
  exact ⟨z, by simp [F_ratio_less, c_ratio_less, m1, m2, m3, e1], e2⟩
theorem f_ratio_product {n m : Nat} {p q : Rat} {d e : D} (h : IsF n p d) (h' : IsF m q e) (l : n + m < 8000) : ∃ z, F_ratio_product [d, e] = some z ∧ IsF (n + m) (p * q) z := by
  obtain ⟨a, b, rfl, v, h1⟩ := h
  obtain ⟨a', b', rfl, v', h1'⟩ := h'
  have m1 := v.ba.mulOk v'.ba (by omega)
  have m3 := v.bb.mulOk v'.bb (by omega)
  obtain ⟨z, e1, e2⟩ := f_ratio (n := n + m) (a := a * a') (c := b * b') (p := p * q) (Int.mul_pos v.pos v'.pos) (v.ba.mul v'.ba) (v.bb.mul v'.bb) (by push_cast; rw [h1, h1']; grind) (by omega)
  exact ⟨z, by simp [F_ratio_product, c_ratio_product, m1, m3, e1], e2⟩
/-! ## the least whole number from a fraction on -/
theorem IsC.uniq {r : Rat} {c d : Int} (h : IsC r c) (h' : IsC r d) : c = d := by
  have a : (c : Rat) - 1 < d := by have := h.1; have := h'.2; grind
  have b : (d : Rat) - 1 < c := by have := h'.1; have := h.2; grind
  have a' : ((c - 1 : Int) : Rat) < (d : Rat) := by push_cast; exact a
  have b' : ((d - 1 : Int) : Rat) < (c : Rat) := by push_cast; exact b
  have a2 := Rat.intCast_lt_intCast.mp a'
  have b2 := Rat.intCast_lt_intCast.mp b'
  omega
theorem isC_div {a b : Int} {r : Rat} (hb : 0 < b) (h : (a : Rat) = r * b) : IsC r (-((-a) / b)) := by
  have e := Int.mul_ediv_add_emod (-a) b
  have l0 := Int.emod_nonneg (-a) (by omega : b ≠ 0)
  have l1 := Int.emod_lt_of_pos (-a) hb
  generalize (-a) / b = q at *
  generalize (-a) % b = m at *
  have bp := ratpos hb
  have ea : a = b * (-q) - m := by grind
  have er : r * b = b * (-(q : Rat)) - m := by rw [← h, ea]; push_cast; grind
  have m0 : (0 : Rat) ≤ m := by exact_mod_cast l0
  have m1 : (m : Rat) < b := by exact_mod_cast l1
  constructor
  · push_cast
    refine Rat.not_le.mp fun z => ?_
    have := Rat.mul_le_mul_of_nonneg_right z (Rat.le_of_lt bp)
    grind
  · push_cast
    refine Rat.not_lt.mp fun z => ?_
    have := Rat.mul_lt_mul_of_pos_right z bp
    grind
theorem f_up {n : Nat} {r : Rat} {d : D} (h : IsF n r d) (l : n < 9000) : ∃ c, F_up [d] = some (.int c) ∧ IsC r c := by
  obtain ⟨a, b, rfl, v, h1⟩ := h
  have k := v.bb.divOk v.pos l
  exact ⟨-((-a) / b), by simp [F_up, c_up, k], isC_div v.pos h1⟩
theorem f_lower {n m : Nat} {p q : Rat} {d e : D} (h : IsF n p d) (h' : IsF m q e) (l : n + m < 8000) : F_is_lower [d, e] = some (.bl (decide (p < q))) := by
  obtain ⟨a, b, rfl, v, h1⟩ := h
  obtain ⟨a', b', rfl, v', h1'⟩ := h'
  have m1 := v.ba.mulOk v'.bb (by omega)
  have m2 := v'.ba.mulOk v.bb (by omega)
  have bp := ratpos v.pos
  have bp' := ratpos v'.pos
  have e : (a * b' < a' * b) ↔ p < q := by
    have c1 : ((a * b' : Int) : Rat) = p * (b * b') := by push_cast; rw [h1]; grind
    have c2 : ((a' * b : Int) : Rat) = q * (b * b') := by push_cast; rw [h1']; grind
    have bb : (0 : Rat) < b * b' := Rat.mul_pos bp bp'
    rw [← Rat.intCast_lt_intCast, c1, c2]
    constructor
    · intro z
      refine Rat.not_le.mp fun y => ?_
      have := Rat.mul_le_mul_of_nonneg_right y (Rat.le_of_lt bb)
      grind
    · intro z
      exact Rat.mul_lt_mul_of_pos_right z bb
  simp [F_is_lower, c_is_lower, m1, m2, e]
theorem isF_one {k : Int} {n : Nat} (h : B n k) (l : 1 ≤ n) : IsF n k (V2 k 1) := ⟨k, 1, rfl, ⟨by decide, by simp [G2], h, (show B 1 1 by unfold B; decide).mono l⟩, by grind⟩
theorem few_eq {c e g : Int} : few c e g = min (2 * c + 1) (min (2 * c + 1) (min (2 * e) (2 * g + 2))) := by unfold few; omega
theorem f_fewest_of {n m : Nat} {p q : Rat} {d e : D} {c i g : Int} (h : IsF n p d) (h' : IsF m q e) (l : n + m < 3000) (hc : IsC p c) (hi : IsC (p + q) i) (hg : IsC (p - q) g) (bc : B 1000 c) (bi : B 1000 i) (bg : B 1000 g) : F_fewest_of [d, d, e] = some (.int (few c i g)) := by
  obtain ⟨z1, a1, b1⟩ := f_ratio_sum h h' (by omega)
  obtain ⟨z2, a2, b2⟩ := f_ratio_less h h' (by omega)
  obtain ⟨x1, u1, v1⟩ := f_up b1 (by omega)
  obtain ⟨x2, u2, v2⟩ := f_up b2 (by omega)
  obtain ⟨x3, u3, v3⟩ := f_up h (by omega)
  cases v1.uniq hi
  cases v2.uniq hg
  cases v3.uniq hc
  have two : B 2 2 := by unfold B; decide
  have m1 := two.mulOk bc (by omega)
  have m2 := two.mulOk bi (by omega)
  have m3 := two.mulOk bg (by omega)
  simp [F_fewest_of, c_fewest_of, a1, a2, u1, u2, u3, m1, m2, m3, few_eq]
/-- what is a form -/
structure Fm (g s : Rat) (u v : D) : Prop where
  u : IsF 100 g u
  v : IsF 100 s v
  g0 : 0 < g
  s0 : 0 ≤ s
  s1 : s ≤ 1
theorem isF_11 : IsF 1 1 (V2 1 1) := ⟨1, 1, rfl, ⟨by decide, by decide, by unfold B; decide, by unfold B; decide⟩, by grind⟩
theorem isF_01 : IsF 1 0 (V2 0 1) := ⟨0, 1, rfl, ⟨by decide, by decide, by unfold B; decide, by unfold B; decide⟩, by grind⟩
theorem f_check_form {g s : Rat} {u v : D} (h : Fm g s u v) : F_check_form [.tup [u, v]] = some .non := by
  have l := f_lower isF_11 h.v (by omega)
  have n1 : ¬ (1 < s) := Rat.not_lt.mpr h.s1
  obtain ⟨a, b, rfl, vf, h1⟩ := h.u
  obtain ⟨a', b', rfl, vf', h1'⟩ := h.v
  have p1 : 0 < a := by
    refine Int.not_le.mp fun z => ?_
    have : (a : Rat) ≤ 0 := by exact_mod_cast z
    have := Rat.mul_pos h.g0 (ratpos vf.pos)
    grind
  have p2 : 0 ≤ a' := by
    have : (0 : Rat) ≤ a' := by rw [h1']; exact Rat.mul_nonneg h.s0 (Rat.le_of_lt (ratpos vf'.pos))
    exact_mod_cast this
  have p2' : ¬ (a' < 0) := by omega
  simp [F_check_form, c_check_form, F_is_form, c_is_form, f_is_ratio vf, f_is_ratio vf', p1, p2, l, n1]
theorem f_runs {g s : Rat} {u v : D} {k : Int} {c e o : Int} (h : Fm g s u v) (k1 : 1 ≤ k) (bk : B 100 k) (hc : IsC (g * k) c) (he : IsC (g * k + s) e) (ho : IsC (g * k - s) o) (bc : B 1000 c) (be : B 1000 e) (bo : B 1000 o) : F_runs_by_form [.tup [u, v], .int k] = some (.int (few c e o)) := by
  obtain ⟨z, e1, hz⟩ := f_ratio_product h.u (isF_one bk (by omega)) (by omega)
  have e2 := f_fewest_of hz h.v (by omega) hc he ho bc be bo
  have nk : ¬ (k < 1) := by omega
  simp [F_runs_by_form, c_runs_by_form, f_check_form h, f_is_whole, nk, e1, e2]
theorem f_dear {g s : Rat} {u v : D} {a b c : Int} (h : Fm g s u v) (hu : u = V2 a b) (hc : IsC ((if 1 - s < s then 1 - s else s) * b) c) (bc : B 1000 c) : ∃ d, F_dear_share [.tup [u, v]] = some d ∧ IsF 1000 ((c : Rat) / b) d := by
  have k0 := f_check_form h
  subst hu
  obtain ⟨a', b', e, vf, h1⟩ := h.u
  simp only [D.tup.injEq, List.cons.injEq, D.int.injEq, and_true] at e
  obtain ⟨rfl, rfl⟩ := e
  obtain ⟨z1, a1, b1⟩ := f_ratio_less isF_11 h.v (by omega)
  have lo := f_lower b1 h.v (by omega)
  have k2 : ∃ y, F_lower_of [v, z1] = some y ∧ IsF (1 + 100 + 1) (if 1 - s < s then 1 - s else s) y := by
    by_cases q : 1 - s < s
    · exact ⟨z1, by simp [F_lower_of, c_lower_of, lo, q], by rw [if_pos q]; exact b1⟩
    · exact ⟨v, by simp [F_lower_of, c_lower_of, lo, q], by rw [if_neg q]; exact h.v.mono (by omega)⟩
  obtain ⟨y, a2, b2⟩ := k2
  obtain ⟨z3, a3, b3⟩ := f_ratio_product b2 (isF_one vf.bb (by omega)) (by omega)
  obtain ⟨c', a4, b4⟩ := f_up b3 (by omega)
  cases b4.uniq hc
  obtain ⟨z5, a5, b5⟩ := f_ratio (n := 1000) (a := c) (c := b) (p := (c : Rat) / b) vf.pos bc (vf.bb.mono (by omega)) (by have := ratne vf.pos; grind) (by omega)
  exact ⟨z5, by simp [F_dear_share, c_dear_share, k0, a1, a2, a3, a4, a5], b5⟩
end K55

open PySem L2
set_option Elab.async false
set_option linter.all false
set_option maxRecDepth 100000
set_option maxHeartbeats 1000000
namespace K55
open PySem PySem.Spec PyProof.Rows L2 WF WV
theorem w_gcd {Φ : Nat → PF} (a b : Nat) : whE Φ (.cmp .NotEq (.var 1) (.cst (.int 0))) (.cons (.par2 0 1 (.cons (.var 1) (.cons (.bin .Mod false (.bi .int (.cons (.var 0) .nil)) (.var 1)) .nil))) .nil)
    [some (.int (a : Int)), some (.int (b : Int))] = some (.nx [some (.int (Nat.gcd a b : Nat)), some (.int 0)]) := by
  refine whE_of (euclid _ _ (fun a b : Nat => [some (.int (a : Int)), some (.int (b : Int))]) (fun a b => ?_) (fun a b z => ?_) b a b (Nat.le_refl b))
  · rcases Nat.eq_zero_or_pos b with rfl | q
    · simp [tst_def]
    · have : b ≠ 0 := by omega
      simp [tst_def, this, q]
  · simp [z]
theorem f_lgcd (a b : Int) : F_law_gcd [.int a, .int b] = some (.int (G2 a b)) := by
  simp [F_law_gcd, c_law_gcd, w_gcd, G2]
theorem f_lratio {n : Nat} {a c : Int} {p : Rat} (hc : 0 < c) (ba : B n a) (bc : B n c) (hp : (a : Rat) = p * c) (l : n < 9000) : ∃ d, F_law_ratio [.int a, .int c] = some d ∧ IsF n p d := by
  have gd : DivOk (G2 a c) := (g2_le hc bc).divOk (by have := g2_pos (a := a) (b := c) (.inr (by omega)); omega) l
  exact ⟨_, by simp [F_law_ratio, c_law_ratio, f_lgcd, gd, hc], isF_low hc ba bc hp⟩
/-! ## counting the turns of a walk between the walls -/
theorem rngD_succ (lo : Int) (n : Nat) : rngD lo (n + 1) = .int lo :: rngD (lo + 1) n := by
  unfold rngD
  rw [List.range_succ_eq_map, List.map_cons, List.map_map]
  rw [List.cons.injEq]
  refine ⟨by simp, List.map_congr_left fun i _ => ?_⟩
  simp
  omega
/-- the first turn's direction, the turn's number: what is gone across, the place, the direction -/
structure Zig (high near : Int) (first : Bool) (i : Nat) (wh sp : Int) (up : Bool) : Prop where
  up_ : up = (if i % 2 = 0 then first else !first)
  wh_ : wh = (if first then (if i % 2 = 0 then (if i = 0 then 0 else (i / 2 : Nat) * high - near) else ((i / 2 : Nat) + 1) * high - near) else (i / 2 : Nat) * high)
  sp_ : sp = (if i = 0 then near else if up then 0 else high)
/-- is the turn i (from 0 on) the last one -/
def lastZ (high near goal : Int) (first : Bool) (i : Nat) : Bool :=
  if first then (if i % 2 = 0 then decide (goal ≤ (i / 2 : Nat) * high) else decide (goal ≤ ((i / 2 : Nat) + 1) * high - near)) else (if i % 2 = 0 then decide (goal ≤ (i / 2 : Nat) * high) else decide (goal ≤ (i / 2 : Nat) * high + near))
theorem zig0 (high near : Int) (first : Bool) : Zig high near first 0 0 near first := by
  constructor <;> simp
theorem zig_next {high near : Int} {first : Bool} {i : Nat} {wh sp : Int} {up : Bool} (z : Zig high near first i wh sp up) : Zig high near first (i + 1) (if up then wh + high - sp else wh) (if up then high else 0) (!up) := by
  obtain ⟨h1, h2, h3⟩ := z
  rcases Nat.mod_two_eq_zero_or_one i with p | p
  · have p1 : (i + 1) % 2 = 1 := by omega
    have q1 : (i + 1) / 2 = i / 2 := by omega
    constructor
    · simp [h1, p, p1]
    · cases first <;> simp [h1, h2, h3, p, p1, q1]
      by_cases i0 : i = 0
      · subst i0; simp
      · simp [i0]; grind
    · cases first <;> simp [h1, p]
  · have p1 : (i + 1) % 2 = 0 := by omega
    have q1 : (i + 1) / 2 = i / 2 + 1 := by omega
    constructor
    · simp [h1, p, p1]
    · have i0 : i ≠ 0 := by omega
      cases first <;> simp [h1, h2, h3, p, p1, q1, i0]
      grind
    · cases first <;> simp [h1, p]
theorem zig_last {high near goal : Int} {first : Bool} {i : Nat} {wh sp : Int} {up : Bool} (z : Zig high near first i wh sp up) (i0 : i ≠ 0) : decide (goal ≤ if up then wh + near - sp else wh) = lastZ high near goal first i := by
  obtain ⟨h1, h2, h3⟩ := z
  unfold lastZ
  rcases Nat.mod_two_eq_zero_or_one i with p | p
  · cases first <;> simp [h1, h2, h3, p, i0]
  · cases first <;> simp [h1, h2, h3, p, i0]
/-- the slots of the counting def -/
abbrev sl (u v : D) (a : Addr) (base goal near high : Int) (first : Bool) (o e : Option D) (sp wh : Int) (up : Bool) : ASt :=
  [some u, some v, some v, some (V2 1 1), some (.bl first), some (.int base), some (.ref a), some (.int goal), some (.int near), some (.int near), some (.int high), o, e, some (.int sp), some (.int wh), some (.bl up)]
abbrev zTest : CE := (.con .And (.cons (.cmp .Gt (.var 11) (.cst (.int 1))) (.cons (.cmp .GtE (.ife (.var 15) (.bin .Sub false (.bin .Add false (.var 14) (.var 9)) (.var 13)) (.var 14)) (.var 7)) .nil)))
abbrev zBody : CSs := (.cons (.ife zTest (.cons (.expr (.met .append 6 (.cons (.var 11) .nil))) (.cons .brk .nil)) .nil) (.cons (.asg (.nm 14) (.ife (.var 15) (.bin .Sub false (.bin .Add false (.var 14) (.var 10)) (.var 13)) (.var 14))) (.cons (.par2 13 15 (.cons (.ife (.var 15) (.var 10) (.cst (.int 0))) (.cons (.nt (.var 15)) .nil))) .nil)))
theorem z_test {u v : D} {a : Addr} {base goal near high : Int} {first : Bool} {e : Option D} {sp wh : Int} {up : Bool} {i : Nat} (z : Zig high near first i wh sp up) :
    ev P22 (sl u v a base goal near high first (some (.int (1 + i))) e sp wh up) zTest = some (.bl (decide (i ≠ 0) && lastZ high near goal first i)) := by
  by_cases i0 : i = 0
  · subst i0
    simp
  · have l := zig_last (goal := goal) z i0
    have p : (1 : Int) < 1 + i := by omega
    rw [← l]
    cases up <;> simp [i0, p]
theorem inner {E : AEnds} {u v : D} {a : Addr} {base goal near high : Int} {first : Bool} {e : Option D} {r : Nat} {xs : List D} {h : AH} (r1 : 1 ≤ r) (r2 : r < 999999) (hl : lastZ high near goal first r = true) (hn : ∀ j, 1 ≤ j → j < r → lastZ high near goal first j = false) (ha : h a = some xs) (hx : xs.length < 100)
    (fin : ∀ o sp wh up, E.nx (sl u v a base goal near high first o e sp wh up) (h.set a (xs ++ [.int (r + 1)]))) :
    ∀ (n i : Nat) (o : Option D) (sp wh : Int) (up : Bool), i + n = 999999 → i ≤ r → Zig high near first i wh sp up →
      loopD (fun d E' σ' h' => gN 11 d σ' h' fun σ2 h2 => aSs Γ zBody E' σ2 h2) (fun _ => True) E (rngD (1 + i) n) (sl u v a base goal near high first o e sp wh up) h
  | 0, i, o, sp, wh, up, hi, ir, z => by omega
  | n + 1, i, o, sp, wh, up, hi, ir, z => by
    rw [rngD_succ]
    refine ⟨trivial, ?_⟩
    refine ev_ok gP22 zTest (sl u v a base goal near high first (some (.int (1 + i))) e sp wh up) _ (z_test z) h _ ⟨_, rfl, ?_⟩
    by_cases q : i = r
    · subst q
      have i0 : i ≠ 0 := by omega
      rw [if_pos (by simp [i0, hl])]
      refine ⟨_, rfl, ⟨rfl, by rw [ha]; exact fun z => (nomatch z)⟩, _, rfl, a, xs, _, rfl, rfl, ha, by have := sizeLine_def; omega, ?_⟩
      have e1 : ((1 : Int) + (i : Int)) = ((i : Int) + 1) := by omega
      rw [e1]
      exact fin _ _ _ _
    · have c : (decide (i ≠ 0) && lastZ high near goal first i) = false := by
        by_cases i0 : i = 0
        · simp [i0]
        · simp [hn i (by omega) (by omega)]
      rw [if_neg (by rw [c]; simp)]
      have zn := zig_next z
      have ih := fun o => inner (E := E) (u := u) (v := v) (base := base) (e := e) r1 r2 hl hn ha hx fin n (i + 1) o (if up then high else 0) (if up then wh + high - sp else wh) (!up) (by omega) (by omega) zn
      have e1 : (1 + ((i + 1 : Nat) : Int)) = 1 + (i : Int) + 1 := by omega
      rw [e1] at ih
      cases up with
      | true => exact ⟨_, rfl, true, rfl, _, rfl, _, rfl, _, rfl, _, rfl, true, rfl, _, rfl, _, rfl, true, rfl, _, _, rfl, ih _⟩
      | false => exact ⟨_, rfl, false, rfl, _, rfl, _, rfl, false, rfl, _, rfl, false, rfl, _, _, rfl, ih _⟩
end K55

open PySem L2
set_option Elab.async false
set_option linter.all false
set_option maxRecDepth 100000
set_option maxHeartbeats 2000000
namespace K55
open PySem PySem.Spec PyProof.Rows L2 WF WV
theorem isC_le {r : Rat} {c j : Int} (h : IsC r c) : c ≤ j ↔ r ≤ (j : Rat) := by
  constructor
  · intro l
    have : (c : Rat) ≤ j := by exact_mod_cast l
    have := h.2
    grind
  · intro l
    have : ((c - 1 : Int) : Rat) < (j : Rat) := by push_cast; have := h.1; grind
    have := Rat.intCast_lt_intCast.mp this
    omega
theorem le_scale {x y : Int} {r b : Rat} (bp : 0 < b) (hx : (x : Rat) = r * b) (hy : (y : Rat) = j * b) : x ≤ y ↔ r ≤ j := by
  rw [← Rat.intCast_le_intCast, hx, hy]
  constructor
  · intro z
    refine Rat.not_lt.mp fun q => ?_
    have := Rat.mul_lt_mul_of_pos_right q bp
    grind
  · intro z
    exact Rat.mul_le_mul_of_nonneg_right z (Rat.le_of_lt bp)
section
variable {L s : Rat} {goal near high c e g : Int} (hp : 0 < high) (hg : (goal : Rat) = L * high) (hn : (near : Rat) = s * high) (hc : IsC L c) (he : IsC (L + s) e) (ho : IsC (L - s) g)
include hp hg hn hc he ho
theorem last_t (i : Nat) : lastZ high near goal true i = (if i % 2 = 0 then decide (c ≤ (i / 2 : Nat)) else decide (e ≤ (i / 2 : Nat) + 1)) := by
  have bp := ratpos hp
  unfold lastZ
  rw [if_pos rfl]
  split
  · congr 1
    rw [isC_le hc, le_scale bp hg (show (((i / 2 : Nat) * high : Int) : Rat) = ((i / 2 : Nat) : Int) * high by push_cast; rfl)]
  · congr 1
    rw [isC_le he]
    have a1 : ((goal + near : Int) : Rat) = (L + s) * high := by push_cast; rw [hg, hn]; grind
    rw [← le_scale (y := ((i / 2 : Nat) + 1) * high) bp a1 (by push_cast; rfl)]
    apply propext
    omega
theorem last_f (i : Nat) : lastZ high near goal false i = (if i % 2 = 0 then decide (c ≤ (i / 2 : Nat)) else decide (g ≤ (i / 2 : Nat))) := by
  have bp := ratpos hp
  unfold lastZ
  rw [if_neg (by simp)]
  split
  · congr 1
    rw [isC_le hc, le_scale bp hg (show (((i / 2 : Nat) * high : Int) : Rat) = ((i / 2 : Nat) : Int) * high by push_cast; rfl)]
  · congr 1
    rw [isC_le ho]
    have a1 : ((goal - near : Int) : Rat) = (L - s) * high := by push_cast; rw [hg, hn]; grind
    rw [← le_scale (y := (i / 2 : Nat) * high) bp a1 (by push_cast; rfl)]
    apply propext
    omega
theorem r_t (c1 : 1 ≤ c) (e1 : 1 ≤ e) (cm : c ≤ 2000) : ∃ r : Nat, 1 ≤ r ∧ r < 999999 ∧ lastZ high near goal true r = true ∧ (∀ j, 1 ≤ j → j < r → lastZ high near goal true j = false) ∧ ((r : Int) + 1 = min (2 * c + 1) (2 * e)) := by
  refine ⟨(min (2 * c) (2 * e - 1)).toNat, by omega, by omega, ?_, ?_, by omega⟩
  · rw [last_t hp hg hn hc he ho]
    split <;> rw [decide_eq_true_eq] <;> omega
  · intro j j1 j2
    rw [last_t hp hg hn hc he ho]
    split <;> rw [decide_eq_false_iff_not] <;> omega
theorem r_f (c1 : 1 ≤ c) (g0 : 0 ≤ g) (cm : c ≤ 2000) : ∃ r : Nat, 1 ≤ r ∧ r < 999999 ∧ lastZ high near goal false r = true ∧ (∀ j, 1 ≤ j → j < r → lastZ high near goal false j = false) ∧ ((r : Int) + 1 = min (2 * c + 1) (2 * g + 2)) := by
  refine ⟨(min (2 * c) (2 * g + 1)).toNat, by omega, by omega, ?_, ?_, by omega⟩
  · rw [last_f hp hg hn hc he ho]
    split <;> rw [decide_eq_true_eq] <;> omega
  · intro j j1 j2
    rw [last_f hp hg hn hc he ho]
    split <;> rw [decide_eq_false_iff_not] <;> omega
end
theorem div_mul {a b : Int} (h : 0 < b) (d : b ∣ a) : ((a / b : Int) : Rat) * b = a := by
  obtain ⟨k, rfl⟩ := d
  rw [Int.mul_ediv_cancel_left k (by omega)]
  push_cast
  grind
theorem inner1 {E : AEnds} {u v : D} {a : Addr} {base goal near high : Int} {first : Bool} {o e : Option D} {r : Nat} {xs : List D} {h : AH} {lst : List D} (hD : rngD 1 ((1000000 : Int) - 1).toNat = lst) (r1 : 1 ≤ r) (r2 : r < 999999) (hl : lastZ high near goal first r = true) (hn : ∀ j, 1 ≤ j → j < r → lastZ high near goal first j = false) (ha : h a = some xs) (hx : xs.length < 100)
    (fin : ∀ o sp wh up, E.nx (sl u v a base goal near high first o e sp wh up) (h.set a (xs ++ [.int (r + 1)]))) :
    loopD (fun d E' σ' h' => gN 11 d σ' h' fun σ2 h2 => aSs Γ zBody E' σ2 h2) (fun _ => True) E lst (sl u v a base goal near high first o e near 0 first) h := by
  subst hD
  have e1 : ((1000000 : Int) - 1).toNat = 999999 := by decide
  rw [e1]
  generalize hm : 999999 = m
  have t := inner (E := E) (u := u) (v := v) (base := base) (e := e) r1 r2 hl hn ha hx fin m 0 o near 0 first (by omega) (by omega) (zig0 high near first)
  have e0 : (1 + ((0 : Nat) : Int)) = 1 := rfl
  rw [e0] at t
  exact t
theorem vc_law_fewest : ∀ ds h Q, (Γ 3).2 ds h Q noX → aSs Γ c_law_fewest { nx := fun _ h' => Q .non h', rt := Q } (ini N_law_fewest.length ds) h := by
  intro ds h Q q
  have q : sp_law_fewest ds h Q noX := q
  obtain ⟨L, s, u, v, c, e, g, rfl, ⟨n1, m1, rfl, v1, f1⟩, ⟨n2, m2, rfl, v2, f2⟩, l0, l1, s0, s1, hc, he, ho, post⟩ := q
  have c1 : 1 ≤ c := by
    refine Int.not_lt.mp fun z => ?_
    have : (c : Rat) ≤ ((0 : Int) : Rat) := Rat.intCast_le_intCast.mpr (by omega)
    have := hc.2
    grind
  have e1 : 1 ≤ e := by
    refine Int.not_lt.mp fun z => ?_
    have : (e : Rat) ≤ ((0 : Int) : Rat) := Rat.intCast_le_intCast.mpr (by omega)
    have := he.2
    grind
  have g0 : 0 ≤ g := by
    refine Int.not_lt.mp fun z => ?_
    have : (g : Rat) ≤ ((-1 : Int) : Rat) := Rat.intCast_le_intCast.mpr (by omega)
    have := ho.2
    grind
  have cm : c ≤ 2000 := by
    refine Int.not_lt.mp fun z => ?_
    have : ((2001 : Int) : Rat) ≤ (c : Rat) := Rat.intCast_le_intCast.mpr (by omega)
    have := hc.1
    grind
  have k1 := v1.bb.mulOk v2.bb (by omega)
  have k2 := (v1.bb.mul v2.bb).mulOk v2.bb (by omega)
  have k3 := ((v1.bb.mul v2.bb).mul v2.bb).mulOk (show B 1 1 by unfold B; decide) (by omega)
  have bb := (v1.bb.mul v2.bb).mul v2.bb
  have bp : 0 < m1 * m2 * m2 := Int.mul_pos (Int.mul_pos v1.pos v2.pos) v2.pos
  have d1 : m1 ∣ m1 * m2 * m2 := ⟨m2 * m2, by grind⟩
  have d2 : m2 ∣ m1 * m2 * m2 := ⟨m1 * m2, by grind⟩
  refine ev_ok gP22 (.bin .Mult false (.bin .Mult false (.bin .Mult false (.idx (.var 0) (.cst (.int 1))) (.idx (.var 1) (.cst (.int 1)))) (.idx (.var 2) (.cst (.int 1)))) (.idx (.var 3) (.cst (.int 1)))) _ (.int (m1 * m2 * m2 * 1)) (by simp [k1, k2, k3]) h _ ?_
  rw [Int.mul_one]
  refine ⟨by decide, fun a na => ⟨by simp, _, rfl, rfl, _, _, rfl, _, _, rfl, rfl, ?_⟩⟩
  have w1 := v1.bb.divOk v1.pos (by omega)
  have w2 := v2.bb.divOk v2.pos (by omega)
  have w3 : WF.DivOk 1 := (show B 1 1 by unfold B; decide).divOk (by decide) (by decide)
  have x1 := v1.ba.mulOk (bb.div v1.pos d1) (by omega)
  have x2 := v2.ba.mulOk (bb.div v2.pos d2) (by omega)
  have x3 : WF.MulOk 1 (m1 * m2 * m2) := (show B 1 1 by unfold B; decide).mulOk bb (by omega)
  generalize hb : m1 * m2 * m2 = base at *
  refine evS_ok gP22 _ _ (.nx [some (V2 n1 m1), some (V2 n2 m2), some (V2 n2 m2), some (V2 1 1), none, some (.int base), some (.ref a), some (.int (n1 * (base / m1))), some (.int (n2 * (base / m2))), some (.int (n2 * (base / m2))), some (.int base), none, none, none, none, none]) ?_ _ _ ?_
  · simp [w1, w2, w3, x1, x2, x3]
  have gr : ((n1 * (base / m1) : Int) : Rat) = L * base := by
    have := div_mul v1.pos d1
    push_cast
    rw [f1]
    grind
  have nr : ((n2 * (base / m2) : Int) : Rat) = s * base := by
    have := div_mul v2.pos d2
    push_cast
    rw [f2]
    grind
  generalize n1 * (base / m1) = goal at *
  generalize n2 * (base / m2) = near at *
  obtain ⟨r, r1, r2, r3, r4, r5⟩ := r_t bp gr nr hc he ho c1 e1 cm
  obtain ⟨t, t1, t2, t3, t4, t5⟩ := r_f bp gr nr hc he ho c1 g0 cm
  refine ⟨by decide, trivial, ?_⟩
  refine ⟨_, rfl, _, rfl, _, _, _, rfl, 1, 1000000, rfl, ⟨by decide, by decide, by decide, by decide⟩, ?_⟩
  dsimp only []
  generalize hD : rngD 1 ((1000000 : Int) - 1).toNat = lst
  refine inner1 hD r1 r2 r3 r4 (AH.set_same (h := h)) (by decide) fun o2 sp2 wh2 up2 => ?_
  refine ⟨trivial, ?_⟩
  refine ⟨_, rfl, _, rfl, _, _, _, rfl, 1, 1000000, rfl, ⟨by decide, by decide, by decide, by decide⟩, ?_⟩
  dsimp only []
  generalize hD2 : rngD 1 ((1000000 : Int) - 1).toNat = lst2
  refine inner1 hD2 (xs := [.int (r + 1)]) t1 t2 t3 t4 AH.set_same (by simp) fun o3 sp3 wh3 up3 => ?_
  refine ⟨trivial, ?_⟩
  generalize hh : (((h.set a []).set a ([] ++ [D.int ((r : Int) + 1)])).set a ([D.int ((r : Int) + 1)] ++ [D.int ((t : Int) + 1)])) = h3
  have e3 : h3 a = some [.int ((r : Int) + 1), .int ((t : Int) + 1)] := by rw [← hh]; exact AH.set_same
  have old : ∀ b xs, h b = some xs → h3 b = some xs := fun b xs e => by
    have ne : b ≠ a := fun z => by rw [z, na] at e; cases e
    rw [← hh, AH.set_ne ne, AH.set_ne ne, AH.set_ne ne]
    exact e
  refine ⟨_, rfl, by decide, .inr ⟨.list [.int ((r : Int) + 1), .int ((t : Int) + 1)], .list [], ?_, rfl, ?_, rfl, true, rfl, ?_⟩⟩
  · show (h3 a).bind _ = _
    rw [e3]
    rfl
  · simp [SeqAt.shaped, PyData.canLay0, PyData.canLayAll0, PyData.depth, PyData.depthAll]
  refine ⟨_, rfl, [(r : Int) + 1, (t : Int) + 1], e3, by simp, fun m hm hl => ?_⟩
  have em : m = few c e g := by
    simp only [List.mem_cons, List.not_mem_nil, or_false, forall_eq_or_imp, forall_eq] at hm hl
    unfold few
    omega
  rw [em]
  exact post h3 old
end K55

open PySem L2
set_option Elab.async false
set_option linter.all false
set_option maxRecDepth 100000
set_option maxHeartbeats 2000000
namespace K55
open PySem PySem.Spec PyProof.Rows L2 WF WV
/-! ## counting a whole turn of lengths -/
def rho (n m k : Int) : Int := (-(n * k)) % m
def cnt (n m f t : Int) : Nat → Int
  | 0 => 0
  | j + 1 => cnt n m f t j + (if rho n m (f + j) < t then 1 else 0)
theorem cnt_all : ((List.range 30).all fun n => (List.range 10).all fun m => (List.range 13).all fun f => (List.range 10).all fun t => (Nat.gcd n m != 1) || m == 0 || decide (m < t) || cnt n m f t m == t) = true := by decide +kernel
theorem cnt_whole {n m f t : Nat} (hn : n < 30) (hm : m < 10) (hf : f < 13) (ht : t ≤ m) (m0 : 0 < m) (co : Nat.gcd n m = 1) : cnt n m f t m = t := by
  have a := cnt_all
  rw [List.all_eq_true] at a
  have b := a n (List.mem_range.mpr hn)
  rw [List.all_eq_true] at b
  have c := b m (List.mem_range.mpr hm)
  rw [List.all_eq_true] at c
  have d := c f (List.mem_range.mpr hf)
  rw [List.all_eq_true] at d
  have e := d t (List.mem_range.mpr (by omega))
  have m1 : (m == 0) = false := by simp; omega
  have t1 : decide (m < t) = false := by simp; omega
  rw [co, m1, t1] at e
  simpa using e
theorem isC_ex {n : Nat} {r : Rat} {d : D} (h : IsF n r d) : ∃ c, IsC r c := by
  obtain ⟨a, b, _, v, h1⟩ := h
  exact ⟨_, isC_div v.pos h1⟩
theorem isC_b {r : Rat} {c : Int} (h : IsC r c) (l : -10 ≤ r) (u : r ≤ 2000) : B 1000 c := by
  have a : (-11 : Int) < c := by
    refine Int.not_le.mp fun z => ?_
    have : (c : Rat) ≤ ((-11 : Int) : Rat) := Rat.intCast_le_intCast.mpr z
    have := h.2
    grind
  have b : c < 2002 := by
    refine Int.not_le.mp fun z => ?_
    have : ((2002 : Int) : Rat) ≤ (c : Rat) := Rat.intCast_le_intCast.mpr z
    have := h.1
    grind
  have p : (2002 : Nat) < 2 ^ 1000 := Nat.lt_of_lt_of_le (by decide : 2002 < 2 ^ 11) (Nat.pow_le_pow_right (by decide) (by decide))
  unfold B
  generalize 2 ^ 1000 = q at *
  omega
/-- is a length dear: by its remainder -/
theorem few_rho {L s : Rat} {n m k c e g t : Int} (mp : 0 < m) (hL : L * m = n * k) (s0 : 0 ≤ s) (s1 : s ≤ 1) (hc : IsC L c) (he : IsC (L + s) e) (hg : IsC (L - s) g) (ht : IsC ((if 1 - s < s then 1 - s else s) * m) t) : few c e g - 2 * c = if rho n m k < t then 1 else 0 := by
  have mr := ratpos mp
  -- the remainder
  have y0 : 0 ≤ c * m - n * k := by
    have : ((n * k : Int) : Rat) ≤ ((c * m : Int) : Rat) := by
      push_cast
      rw [← hL]
      exact Rat.mul_le_mul_of_nonneg_right hc.2 (Rat.le_of_lt mr)
    have := Rat.intCast_le_intCast.mp this
    omega
  have y1 : c * m - n * k < m := by
    have : (((c - 1) * m : Int) : Rat) < ((n * k : Int) : Rat) := by
      push_cast
      rw [← hL]
      exact Rat.mul_lt_mul_of_pos_right hc.1 mr
    have := Rat.intCast_lt_intCast.mp this
    have q : (c - 1) * m = c * m - m := by grind
    omega
  have er : rho n m k = c * m - n * k := by
    unfold rho
    have q : -(n * k) = (c * m - n * k) + m * (-c) := by grind
    rw [q, Int.add_mul_emod_self_left, Int.emod_eq_of_lt y0 y1]
  have ry : ((c * m - n * k : Int) : Rat) = (c - L) * m := by push_cast; grind
  -- e, g against c
  have e0 : c ≤ e := (isC_le hc).mpr (by have := he.2; grind)
  have g0 : c - 1 ≤ g := by
    have : ((c - 1 : Int) : Rat) < ((g + 1 : Int) : Rat) := by push_cast; have := hc.1; have := hg.2; grind
    have := Rat.intCast_lt_intCast.mp this
    omega
  have e2 : e ≤ c ↔ L + s ≤ c := isC_le he
  have g2 : g ≤ c - 1 ↔ L - s ≤ ((c - 1 : Int) : Rat) := isC_le hg
  have t2 : t ≤ c * m - n * k ↔ (if 1 - s < s then 1 - s else s) * m ≤ ((c * m - n * k : Int) : Rat) := isC_le ht
  have sc : ∀ p : Rat, p * m ≤ (c - L) * m ↔ p ≤ c - L := fun p => by
    constructor
    · intro z
      refine Rat.not_lt.mp fun q => ?_
      have := Rat.mul_lt_mul_of_pos_right q mr
      grind
    · intro z
      exact Rat.mul_le_mul_of_nonneg_right z (Rat.le_of_lt mr)
  rw [ry, sc] at t2
  push_cast at g2
  have key : t ≤ c * m - n * k ↔ e ≤ c ∨ g ≤ c - 1 := by
    rw [t2, e2, g2]
    split <;> grind
  rw [er]
  unfold few
  split
  · have : ¬ (e ≤ c ∨ g ≤ c - 1) := fun z => by have := key.mpr z; omega
    omega
  · have := key.mp (by omega)
    omega
end K55

open PySem L2
set_option Elab.async false
set_option linter.all false
set_option maxRecDepth 100000
set_option maxHeartbeats 2000000
namespace K55
open PySem PySem.Spec PyProof.Rows L2 WF WV
theorem sr_next {k : Nat} {a : Addr} {h : AH} {x y z : Int} (hx : 0 ≤ x) (hy : 0 ≤ y) (hy2 : y < 2147483543) (hz : 0 ≤ z) (hz2 : z ≤ k) : Sr k a (h.set a [.int x, .int y, .int z]) := ⟨x, y, z, AH.set_same, hx, hy, hy2, hz, hz2⟩
theorem vc_law_draw : ∀ ds h Q, (Γ 2).2 ds h Q noX → aSs Γ c_law_draw { nx := fun _ h' => Q .non h', rt := Q } (ini N_law_draw.length ds) h := by
  intro ds h Q q
  have q : sp_law_draw ds h Q noX := q
  obtain ⟨k, a, n, lk, rfl, n0, n1, ⟨x, y, z, e, hx, hy, hy2, hz, hz2⟩, post⟩ := q
  refine ⟨_, rfl, _, _, e, rfl, _, rfl, ?_⟩
  by_cases c : 0 < x
  · rw [if_pos (by simpa using c)]
    refine ⟨_, rfl, _, _, e, rfl, _, rfl, ⟨n0, n1⟩, _, rfl, rfl, _, _, rfl, ⟨_, rfl, a, 0, 0, _, rfl, rfl, e, rfl, _, _, rfl, rfl, _, rfl, ?_⟩⟩
    exact post _ _ (Int.emod_nonneg _ (by omega)) (Int.emod_lt_of_pos _ n0) (sr_next (Int.ediv_nonneg hx (by omega)) hy hy2 hz (by omega))
  · rw [if_neg (by simpa using c)]
    have e1 : (h.set a [.int x, .int y, .int (z + 1)]) a = some [.int x, .int y, .int (z + 1)] := AH.set_same
    refine ⟨_, rfl, _, _, e, rfl, _, rfl, a, 2, 2, _, rfl, rfl, e, rfl, ?_⟩
    refine ⟨_, rfl, _, _, e1, rfl, mulLt (by omega) (by decide), _, rfl, _, _, e1, rfl, mulLt (by omega) (by decide), by decide, ?_⟩
    have s0 := Int.emod_nonneg (y * 16807 + (z + 1) * 48611) (by decide : (2147483543 : Int) ≠ 0)
    have s1 := Int.emod_lt_of_pos (y * 16807 + (z + 1) * 48611) (by decide : (0 : Int) < 2147483543)
    generalize hs : (y * 16807 + (z + 1) * 48611) % 2147483543 = st at *
    have t0 := Int.emod_nonneg (st / 11) (by decide : (3001 : Int) ≠ 0)
    have t1 := Int.emod_lt_of_pos (st / 11) (by decide : (0 : Int) < 3001)
    refine ⟨_, rfl, _, rfl, ⟨by decide, by decide⟩, by decide, mulLt (by omega) (by omega), by decide, _, rfl, a, 1, 1, _, rfl, rfl, e1, rfl, ?_⟩
    have u0 := Int.emod_nonneg (st * (st / 11 % 3001 + 10007) + 29) (by decide : (2147483543 : Int) ≠ 0)
    have u1 := Int.emod_lt_of_pos (st * (st / 11 % 3001 + 10007) + 29) (by decide : (0 : Int) < 2147483543)
    generalize (st * (st / 11 % 3001 + 10007) + 29) % 2147483543 = y' at *
    have e2 : ((h.set a [.int x, .int y, .int (z + 1)]).set a [.int x, .int y', .int (z + 1)]) a = some [.int x, .int y', .int (z + 1)] := AH.set_same
    refine ⟨_, rfl, _, _, e2, rfl, ⟨by decide, by decide⟩, _, rfl, n0, ?_⟩
    exact post _ _ (Int.emod_nonneg _ (by omega)) (Int.emod_lt_of_pos _ n0) (sr_next hx u0 u1 (by omega) (by omega))
theorem vc_law_sack : ∀ ds h Q, (Γ 23).2 ds h Q noX → aSs Γ c_law_sack { nx := fun _ h' => Q .non h', rt := Q } (ini N_law_sack.length ds) h := by
  intro ds h Q q
  have q : sp_law_sack ds h Q noX := q
  obtain ⟨ns, t, rfl, t0, t3, l63, post⟩ := q
  have mk : WF.MulOk 1709 t := mulLt (by decide) (by omega)
  have mk0 : WF.MulOk 7919 t := mulLt (by decide) (by omega)
  obtain ⟨cell, e0⟩ : ∃ cell : Int, evS P22 (.asg (.nm 2) (.ife (.cmp .Lt (.var 1) (.bi .len (.cons (.var 0) .nil))) (.bi .int (.cons (.idx (.var 0) (.var 1)) .nil)) (.bin .Add false (.bin .Mult false (.cst (.int 7919)) (.var 1)) (.cst (.int 101))))) (ini 5 [.lst (ns.map D.int), .int t]) = some (.nx [some (.lst (ns.map D.int)), some (.int t), some (.int cell), none, none]) := by
    by_cases c : t < ns.length
    · have l : t.toNat < ns.length := by omega
      exact ⟨ns[t.toNat], by simp [c, t0, List.getElem?_eq_getElem l]⟩
    · exact ⟨7919 * t + 101, by simp [c, mk0]⟩
  refine evS_ok gP22 _ _ _ e0 _ h ?_
  refine evS_ok gP22 _ _ (.nx [some (.lst (ns.map D.int)), some (.int t), some (.int cell), some (.int (30011 + 1709 * t)), none]) (by simp [mk]) _ h ?_
  have lc : (cutG (ns.map D.int) none (some 7)).length ≤ 63 := by
    simp [cutG, HT.sIx]
    omega
  obtain ⟨σ2, e2, m, o, rfl, m0, m1⟩ := forE_inv (Φ := P22) (p := .nm 4) (b := (.cons (.asg (.nm 3) (.bin .Mod false (.bi .int (.cons (.bin .Add false (.bin .Add false (.bin .Mult false (.var 3) (.cst (.int 69069))) (.bin .Mod false (.bi .int (.cons (.var 4) .nil)) (.cst (.int 2147483543)))) (.cst (.int 13))) .nil)) (.cst (.int 2147483543)))) .nil))
    (I := fun σ => ∃ (m : Int) (o : Option D), σ = [some (.lst (ns.map D.int)), some (.int t), some (.int cell), some (.int m), o] ∧ 0 ≤ m ∧ m < 2147483543) (ds := cutG (ns.map D.int) none (some 7) ++ [.int cell]) (σ := [some (.lst (ns.map D.int)), some (.int t), some (.int cell), some (.int (30011 + 1709 * t)), none]) (by
      rintro d md σ ⟨m, o, rfl, m0, m1⟩
      obtain ⟨c, rfl⟩ : ∃ c, d = .int c := by
        rcases List.mem_append.mp md with md | md
        · obtain ⟨c, _, rfl⟩ := List.mem_map.mp (cut_mem md)
          exact ⟨c, rfl⟩
        · exact ⟨cell, by simpa using md⟩
      have mk : WF.MulOk m 69069 := mulLt (by omega) (by decide)
      refine ⟨[some (.lst (ns.map D.int)), some (.int t), some (.int cell), some (.int ((m * 69069 + c % 2147483543 + 13) % 2147483543)), some (.int c)], by simp [mk], _, _, rfl, ?_, ?_⟩
      · exact Int.emod_nonneg _ (by decide)
      · exact Int.emod_lt_of_pos _ (by decide)) ⟨_, _, rfl, by omega, by omega⟩
  have l2 : (cutG (ns.map D.int) none (some 7)).length + 1 ≤ 16777216 := by omega
  refine evS_ok gP22 _ _ (.nx [some (.lst (ns.map D.int)), some (.int t), some (.int cell), some (.int m), o]) (by simp [cutE, e2, l2]) _ h ?_
  obtain ⟨big, e4, b0⟩ : ∃ big : Int, ev P22 [some (.lst (ns.map D.int)), some (.int t), some (.int cell), some (.int m), o] (.ife (.con .Or (.cons (.cmp .Lt (.var 2) (.cst (.int 0))) (.cons (.cmp .GtE (.var 2) (.bin .Pow false (.cst (.int 10)) (.cst (.int 18)))) .nil))) (.bi .abs (.cons (.var 2) .nil)) (.cst (.int 0))) = some (.int big) ∧ 0 ≤ big := by
    by_cases c : cell < 0
    · exact ⟨cell.natAbs, by simp [c], by omega⟩
    · by_cases c2 : (1000000000000000000 : Int) ≤ cell
      · exact ⟨cell.natAbs, by simp [c, c2], by omega⟩
      · exact ⟨0, by simp [c, c2], by omega⟩
  refine ev_ok gP22 _ _ _ e4 h _ ?_
  refine ⟨_, rfl, by simp, fun p np => post p _ (sr_next b0 m0 m1 (by omega) (by omega))⟩
end K55

open PySem L2
set_option Elab.async false
set_option linter.all false
set_option maxRecDepth 100000
set_option maxHeartbeats 2000000
namespace K55
open PySem PySem.Spec PyProof.Rows L2 WF WV
theorem vc_law : ∀ ds h Q, (Γ 24).2 ds h Q noX → aSs Γ c_law { nx := fun _ h' => Q .non h', rt := Q } (ini N_law.length ds) h := by
  intro ds h Q q
  have q : spLaw 63 ds h Q noX := q
  obtain ⟨ns, l63, rfl, post⟩ := q
  obtain ⟨r, er, r2, r3⟩ : ∃ r : Int, ev P22 (ini 2 [.lst (ns.map D.int)]) (.bi .max (.cons (.cst (.int 2)) (.cons (.bi .min (.cons (.bi .len (.cons (.var 0) .nil)) (.cons (.cst (.int 3)) .nil))) .nil))) = some (.int r) ∧ 2 ≤ r ∧ r ≤ 3 := by
    refine ⟨if (if (3 : Int) < ns.length then 3 else (ns.length : Int)) > 2 then (if (3 : Int) < ns.length then 3 else (ns.length : Int)) else 2, by simp, ?_, ?_⟩
    · split <;> omega
    · split <;> split <;> omega
  refine ev_ok gP22 _ _ _ er h _ ?_
  refine ⟨r, rfl, ⟨by omega, by omega⟩, ?_⟩
  have items : ∀ d ∈ rngD 0 r.toNat, ∃ t : Int, d = .int t ∧ 0 ≤ t ∧ t < 3 := by
    intro d m
    unfold rngD at m
    obtain ⟨i, hi, rfl⟩ := List.mem_map.mp m
    have := List.mem_range.mp hi
    exact ⟨_, rfl, by omega, by omega⟩
  have len : (rngD 0 r.toNat).length ≤ PySem.sizeLine := by
    have := sizeLine_def
    simp only [rngD, List.length_map, List.length_range]
    omega
  refine ⟨len, ?_⟩
  dsimp only []
  generalize rngD 0 r.toNat = l at items
  clear len
  have all : ∀ (l : List D) (j : Nat) (h : AH), (∀ d ∈ l, ∃ t : Int, d = .int t ∧ 0 ≤ t ∧ t < 3) →
      lcD (lcStep (gN 1) aTrue (aE Γ (.fn 22 (.cons (.fn 23 (.cons (.var 0) (.cons (.var 1) .nil))) .nil))) [1] (ini 2 [.lst (ns.map D.int)])) (fun _ => True) l (List.replicate j (.bl true)) h
        fun acc h2 => newL false acc h2 fun d h3 => biS .all [d] h3 Q := by
    intro l
    induction l with
    | nil =>
      intro j h _
      refine ⟨trivial, ?_⟩
      refine ⟨List.replicate j true, ?_, ?_⟩
      · show some _ = some _
        rw [List.map_replicate]
      · have : (List.replicate j true).all id = true := by simp
        rw [this]
        exact post h
    | cons d l ih =>
      intro j h hm
      obtain ⟨t, rfl, t0, t3⟩ := hm d List.mem_cons_self
      refine ⟨trivial, true, rfl, ?_⟩
      refine ⟨_, rfl, _, rfl, rfl, _, fun _ _ z => z, ns, t, rfl, t0, t3, l63, fun a h1 S => ?_⟩
      refine ⟨rfl, _, fun _ _ z => z, 0, a, by omega, rfl, S, fun h2 => ?_⟩
      have e : List.replicate j (D.bl true) ++ [D.bl true] = List.replicate (j + 1) (D.bl true) := List.replicate_succ'.symm
      show lcD _ _ l (List.replicate j (D.bl true) ++ [D.bl true]) h2 _
      rw [e]
      exact ih (j + 1) h2 fun x m => hm x (List.mem_cons_of_mem _ m)
  exact all l 0 h items
/-! ## one round -/
abbrev rs (a : Addr) (o1 o2 o3 o4 o5 o6 o7 o8 o9 o10 o11 : Option D) : ASt := [some (.ref a), o1, o2, o3, o4, o5, o6, o7, o8, o9, o10, o11]
abbrev kBody : CSs := (.cons (.asg (.nm 9) (.fn 1 (.cons (.bin .Mult false (.idx (.var 2) (.cst (.int 0))) (.var 4)) (.cons (.idx (.var 2) (.cst (.int 1))) .nil)))) (.cons (.par2 10 11 (.cons (.fn 3 (.cons (.var 9) (.cons (.var 6) (.cons (.var 6) (.cons (.tup (.cons (.cst (.int 1)) (.cons (.cst (.int 1)) .nil))) .nil))))) (.cons (.fn 3 (.cons (.var 9) (.cons (.tup (.cons (.cst (.int 0)) (.cons (.cst (.int 1)) .nil))) (.cons (.tup (.cons (.cst (.int 0)) (.cons (.cst (.int 1)) .nil))) (.cons (.tup (.cons (.cst (.int 1)) (.cons (.cst (.int 1)) .nil))) .nil))))) .nil))) (.cons (.asg (.nm 7) (.bin .Sub false (.bin .Add false (.var 7) (.var 10)) (.var 11))) (.cons (.ife (.con .And (.cons (.cmp .Lt (.var 4) (.bin .Add false (.var 8) (.cst (.int 3)))) (.cons (.cmp .NotEq (.bi .repr (.cons (.fn 21 (.cons (.tup (.cons (.var 2) (.cons (.var 6) .nil))) (.cons (.var 4) .nil))) .nil)) (.bi .repr (.cons (.var 10) .nil))) .nil))) (.cons (.ret (.cst (.bool false))) .nil) .nil) (.cons (.ife (.con .And (.cons (.cmp .Eq (.var 4) (.var 8)) (.cons (.cmp .NotEq (.bi .repr (.cons (.fnK 21 .nil ["many", "form"] (.cons (.var 4) (.cons (.tup (.cons (.var 2) (.cons (.tup (.cons (.cst (.int 0)) (.cons (.cst (.int 1)) .nil))) .nil))) .nil)) [1, 0]) .nil)) (.bi .repr (.cons (.var 11) .nil))) .nil))) (.cons (.ret (.cst (.bool false))) .nil) .nil) .nil)))))
theorem few0 {c : Int} : few c c c = 2 * c := by unfold few; omega
/-- one length of the turn -/
theorem turn_k {E : AEnds} {a : Addr} {o1 o3 o5 o9 o10 o11 : Option D} {n m f k dear t : Int} {g s : Rat} {v : D} {h : AH} {kk : Nat} (S : Sr kk a h) (hF : Fm g s (V2 n m) v) (n0 : 0 < n) (n29 : n ≤ 29) (mp : 0 < m) (m9 : m ≤ 9) (gm : (n : Rat) = g * m) (k1 : 1 ≤ k) (k21 : k ≤ 21) (ht : IsC ((if 1 - s < s then 1 - s else s) * m) t)
    (fin : ∀ o9 o10 o11 h', Sr kk a h' → E.nx (rs a o1 (some (V2 n m)) o3 (some (.int k)) o5 (some v) (some (.int (dear + (if rho n m k < t then 1 else 0)))) (some (.int f)) o9 o10 o11) h') :
    aSs Γ kBody E (rs a o1 (some (V2 n m)) o3 (some (.int k)) o5 (some v) (some (.int dear)) (some (.int f)) o9 o10 o11) h := by
  have bk : B 10 k := by unfold B; omega
  have bn : B 10 n := by unfold B; omega
  have bm : B 10 m := by unfold B; omega
  have kr : (1 : Rat) ≤ k := by exact_mod_cast k1
  have mk := bn.mulOk bk (by omega)
  have mr := ratpos mp
  obtain ⟨d, e, hd⟩ := f_lratio (n := 20) (a := n * k) (c := m) (p := g * k) mp (bn.mul bk) (bm.mono (by omega)) (by push_cast; rw [gm]; grind) (by omega)
  have hL : (g * k) * m = n * k := by rw [gm]; grind
  have nk : n * k ≤ 29 * 21 := Int.mul_le_mul n29 k21 (by omega) (by omega)
  have nk0 : 0 < n * k := Int.mul_pos n0 (by omega)
  have L0 : 0 < g * k := Rat.mul_pos hF.g0 (by grind)
  have L1 : g * k ≤ 1000 := by
    refine Rat.not_lt.mp fun z => ?_
    have q := Rat.mul_lt_mul_of_pos_right z mr
    rw [hL] at q
    have q1 : ((n * k : Int) : Rat) ≤ ((609 : Int) : Rat) := Rat.intCast_le_intCast.mpr (by omega)
    have q2 : ((1 : Int) : Rat) ≤ (m : Rat) := Rat.intCast_le_intCast.mpr (by omega)
    push_cast at q1
    grind
  obtain ⟨c, hc⟩ := isC_ex hd
  obtain ⟨z1, _, i1⟩ := f_ratio_sum hd hF.v (by omega)
  obtain ⟨z2, _, i2⟩ := f_ratio_less hd hF.v (by omega)
  obtain ⟨x, hx⟩ := isC_ex i1
  obtain ⟨y, hy⟩ := isC_ex i2
  have s0 := hF.s0
  have s1 := hF.s1
  have bc := isC_b hc (by grind) (by grind)
  have bx := isC_b hx (by grind) (by grind)
  have by_ := isC_b hy (by grind) (by grind)
  have hc1 : IsC (g * k + 0) c := by rw [Rat.add_zero]; exact hc
  have hc2 : IsC (g * k - 0) c := by rw [Rat.sub_eq_add_neg, Rat.neg_zero, Rat.add_zero]; exact hc
  have hF0 : Fm g 0 (V2 n m) (V2 0 1) := ⟨hF.u, isF_01.mono (by omega), hF.g0, by grind, by grind⟩
  have run1 := f_runs hF k1 (bk.mono (by omega)) hc hx hy bc bx by_
  have run2 := f_runs hF0 k1 (bk.mono (by omega)) hc hc1 hc2 bc bc bc
  have two : B 2 2 := by unfold B; decide
  have bf : B 1100 (few c x y) := by
    have a1 := bc.mono (show 1000 ≤ 1098 by omega)
    have a2 := bx.mono (show 1000 ≤ 1098 by omega)
    have a3 := by_.mono (show 1000 ≤ 1098 by omega)
    have p : (2 : Nat) ^ 1100 = 4 * 2 ^ 1098 := by rw [show 1100 = 1098 + 2 from rfl, Nat.pow_add, Nat.mul_comm]
    have p0 : 4 ≤ 2 ^ 1098 := Nat.le_trans (by decide : 4 ≤ 2 ^ 2) (Nat.pow_le_pow_right (by decide) (by decide))
    unfold B few at *
    rw [p]
    generalize 2 ^ 1098 = q at *
    omega
  have bf0 : B 1100 (few c c c) := by
    have a1 := bc.mono (show 1000 ≤ 1098 by omega)
    have p : (2 : Nat) ^ 1100 = 4 * 2 ^ 1098 := by rw [show 1100 = 1098 + 2 from rfl, Nat.pow_add, Nat.mul_comm]
    have p0 : 4 ≤ 2 ^ 1098 := Nat.le_trans (by decide : 4 ≤ 2 ^ 2) (Nat.pow_le_pow_right (by decide) (by decide))
    unfold B few at *
    rw [p]
    generalize 2 ^ 1098 = q at *
    omega
  have r1 := shw_1 (shw_i bf (by omega))
  have r2 := shw_1 (shw_i bf0 (by omega))
  have fr := few_rho mp hL s0 s1 hc hx hy ht
  refine evS_ok gP22 _ _ (.nx (rs a o1 (some (V2 n m)) o3 (some (.int k)) o5 (some v) (some (.int dear)) (some (.int f)) (some d) o10 o11)) (by simp [mk, e]) _ h ?_
  refine ⟨_, rfl, _, rfl, _, rfl, by decide, rfl, _, fun _ _ z => z, g * k, s, d, v, c, x, y, rfl, hd.mono (by omega), hF.v, L0, L1, s0, s1, hc, hx, hy, fun h1 old1 => ?_⟩
  refine ⟨_, rfl, by decide, by decide, by decide, rfl, _, fun _ _ z => z, g * k, 0, d, V2 0 1, c, c, c, rfl, hd.mono (by omega), isF_01.mono (by omega), L0, L1, by grind, by grind, hc, hc1, hc2, fun h2 old2 => ⟨_, _, rfl, ?_⟩⟩
  have S2 : Sr kk a h2 := by
    obtain ⟨x, y, z, e, rest⟩ := S
    exact ⟨x, y, z, old2 _ _ (old1 _ _ e), rest⟩
  refine evS_ok gP22 _ _ (.nx (rs a o1 (some (V2 n m)) o3 (some (.int k)) o5 (some v) (some (.int (dear + few c x y - few c c c))) (some (.int f)) (some d) (some (.int (few c x y))) (some (.int (few c c c))))) (by simp) _ h2 ?_
  refine evS_ok gP22 _ _ (.nx (rs a o1 (some (V2 n m)) o3 (some (.int k)) o5 (some v) (some (.int (dear + few c x y - few c c c))) (some (.int f)) (some d) (some (.int (few c x y))) (some (.int (few c c c))))) (by
    by_cases q : k < f + 3
    · simp [q, run1, r1]
    · simp [q]) _ h2 ?_
  refine evS_ok gP22 _ _ (.nx (rs a o1 (some (V2 n m)) o3 (some (.int k)) o5 (some v) (some (.int (dear + few c x y - few c c c))) (some (.int f)) (some d) (some (.int (few c x y))) (some (.int (few c c c))))) (by
    by_cases q : k = f
    · subst q
      simp [run2, r2]
    · simp [q]) _ h2 ?_
  have ed : dear + few c x y - few c c c = dear + (if rho n m k < t then 1 else 0) := by
    rw [few0]
    omega
  rw [ed]
  exact fin _ _ _ h2 S2
/-- the whole turn of lengths -/
theorem turns {E : AEnds} {a : Addr} {o1 o3 o5 : Option D} {n m f t : Int} {g s : Rat} {v : D} {kk : Nat} (hF : Fm g s (V2 n m) v) (n0 : 0 < n) (n29 : n ≤ 29) (mp : 0 < m) (m9 : m ≤ 9) (gm : (n : Rat) = g * m) (f1 : 1 ≤ f) (f12 : f ≤ 12) (ht : IsC ((if 1 - s < s then 1 - s else s) * m) t)
    (fin : ∀ o4 o9 o10 o11 h', Sr kk a h' → E.nx (rs a o1 (some (V2 n m)) o3 o4 o5 (some v) (some (.int (cnt n m f t m.toNat))) (some (.int f)) o9 o10 o11) h') :
    ∀ (j i : Nat) (o4 o9 o10 o11 : Option D) (h : AH), ((i + j : Nat) : Int) = m → Sr kk a h →
      loopD (fun d E' σ' h' => gN 4 d σ' h' fun σ2 h2 => aSs Γ kBody E' σ2 h2) (fun _ => True) E (rngD (f + i) j) (rs a o1 (some (V2 n m)) o3 o4 o5 (some v) (some (.int (cnt n m f t i))) (some (.int f)) o9 o10 o11) h
  | 0, i, o4, o9, o10, o11, h, hi, S => by
    have e : i = m.toNat := by omega
    rw [e]
    exact ⟨trivial, fin _ _ _ _ h S⟩
  | j + 1, i, o4, o9, o10, o11, h, hi, S => by
    rw [rngD_succ]
    refine ⟨trivial, ?_⟩
    refine turn_k (k := f + i) (g := g) (s := s) S hF n0 n29 mp m9 gm (by omega) (by omega) ht fun p9 p10 p11 h' S' => ?_
    have ih := turns (E := E) (o1 := o1) (o3 := o3) (o5 := o5) hF n0 n29 mp m9 gm f1 f12 ht fin j (i + 1) (some (.int (f + i))) p9 p10 p11 h' (by omega) S'
    have e1 : f + ((i + 1 : Nat) : Int) = f + (i : Int) + 1 := by omega
    rw [e1] at ih
    exact ih
theorem rdiv_mul {x y : Rat} (hy : 0 < y) : x / y * y = x := by
  have : y ≠ 0 := by grind
  grind
theorem rdiv_pos {x y : Rat} (hx : 0 < x) (hy : 0 < y) : 0 < x / y := by
  refine Rat.not_le.mp fun z => ?_
  have q := Rat.mul_le_mul_of_nonneg_right z (Rat.le_of_lt hy)
  rw [rdiv_mul hy] at q
  grind
theorem rdiv_nonneg {x y : Rat} (hx : 0 ≤ x) (hy : 0 < y) : 0 ≤ x / y := by
  refine Rat.not_lt.mp fun z => ?_
  have q := Rat.mul_lt_mul_of_pos_right z hy
  rw [rdiv_mul hy] at q
  grind
theorem rdiv_le1 {x y : Rat} (hx : x ≤ y) (hy : 0 < y) : x / y ≤ 1 := by
  refine Rat.not_lt.mp fun z => ?_
  have q := Rat.mul_lt_mul_of_pos_right z hy
  rw [rdiv_mul hy] at q
  grind
theorem f_lratio_le {n : Nat} {a c : Int} {p : Rat} (ha : 0 ≤ a) (hc : 0 < c) (ba : B n a) (bc : B n c) (hp : (a : Rat) = p * c) (l : n < 9000) : ∃ x y, F_law_ratio [.int a, .int c] = some (V2 x y) ∧ IsF n p (V2 x y) ∧ x ≤ a ∧ y ≤ c := by
  have gd : DivOk (G2 a c) := (g2_le hc bc).divOk (by have := g2_pos (a := a) (b := c) (.inr (by omega)); omega) l
  exact ⟨_, _, by simp [F_law_ratio, c_law_ratio, f_lgcd, gd, hc], isF_low hc ba bc hp, Int.ediv_le_self _ ha, Int.ediv_le_self _ (by omega)⟩
theorem isF_at {n : Nat} {p : Rat} {x w : Int} (h : IsF n p (V2 x w)) : Fc n x w ∧ (x : Rat) = p * w := by
  obtain ⟨x', w', e, v, h1⟩ := h
  simp only [D.tup.injEq, List.cons.injEq, D.int.injEq, and_true] at e
  obtain ⟨rfl, rfl⟩ := e
  exact ⟨v, h1⟩
theorem part_ex {g s : Rat} {n m : Int} {v : D} (hF : Fm g s (V2 n m) v) (mp : 0 < m) (m9 : m ≤ 9) : ∃ t, IsC ((if 1 - s < s then 1 - s else s) * m) t ∧ 0 ≤ t ∧ t ≤ m := by
  have bm : B 10 m := by unfold B; omega
  have mr := ratpos mp
  obtain ⟨z1, _, b1⟩ := f_ratio_less isF_11 hF.v (by omega)
  obtain ⟨y, hy⟩ : ∃ y, IsF 200 (if 1 - s < s then 1 - s else s) y := by
    by_cases q : 1 - s < s
    · exact ⟨z1, by rw [if_pos q]; exact b1.mono (by omega)⟩
    · exact ⟨v, by rw [if_neg q]; exact hF.v.mono (by omega)⟩
  obtain ⟨z3, _, b3⟩ := f_ratio_product hy (isF_one bm (by omega)) (by omega)
  obtain ⟨t, ht⟩ := isC_ex b3
  have s0 := hF.s0
  have s1 := hF.s1
  have p0 : 0 ≤ (if 1 - s < s then 1 - s else s) := by split <;> grind
  have p1 : (if 1 - s < s then 1 - s else s) ≤ 1 := by split <;> grind
  refine ⟨t, ht, ?_, ?_⟩
  · have a := Rat.mul_nonneg p0 (Rat.le_of_lt mr)
    have : ((0 : Int) : Rat) ≤ (t : Rat) := by have := ht.2; grind
    exact Rat.intCast_le_intCast.mp this
  · rw [isC_le ht]
    have := Rat.mul_le_mul_of_nonneg_right p1 (Rat.le_of_lt mr)
    grind
theorem cnt_wholeZ {n m f t : Int} (n0 : 0 < n) (n29 : n ≤ 29) (mp : 0 < m) (m9 : m ≤ 9) (f1 : 1 ≤ f) (f12 : f ≤ 12) (t0 : 0 ≤ t) (tm : t ≤ m) (co : G2 n m = 1) : cnt n m f t m.toNat = t := by
  obtain ⟨n', rfl⟩ := Int.eq_ofNat_of_zero_le (by omega : 0 ≤ n)
  obtain ⟨m', rfl⟩ := Int.eq_ofNat_of_zero_le (by omega : 0 ≤ m)
  obtain ⟨f', rfl⟩ := Int.eq_ofNat_of_zero_le (by omega : 0 ≤ f)
  obtain ⟨t', rfl⟩ := Int.eq_ofNat_of_zero_le t0
  exact cnt_whole (by omega) (by omega) (by omega) (by omega) (by omega) (by simpa [G2] using co)
abbrev tBody : CSs := (.cons (.asg (.nm 2) (.fn 1 (.cons (.bin .Add false (.cst (.int 1)) (.fn 2 (.cons (.var 0) (.cons (.cst (.int 29)) .nil)))) (.cons (.bin .Add false (.cst (.int 1)) (.fn 2 (.cons (.var 0) (.cons (.cst (.int 9)) .nil)))) .nil)))) (.cons (.asg (.nm 3) (.bin .Add false (.cst (.int 1)) (.fn 2 (.cons (.var 0) (.cons (.cst (.int 8)) .nil))))) (.cons (.par3 6 7 8 (.cons (.fn 1 (.cons (.fn 2 (.cons (.var 0) (.cons (.bin .Add false (.var 3) (.cst (.int 1))) .nil))) (.cons (.var 3) .nil))) (.cons (.cst (.int 0)) (.cons (.bin .Add false (.cst (.int 1)) (.fn 2 (.cons (.var 0) (.cons (.cst (.int 12)) .nil)))) .nil)))) (.cons (.for_ (.nm 4) (.rng (.cons (.var 8) (.cons (.bin .Add false (.var 8) (.idx (.var 2) (.cst (.int 1)))) .nil))) kBody) (.cons (.asg (.nm 5) (.bi .repr (.cons (.fn 1 (.cons (.var 7) (.cons (.idx (.var 2) (.cst (.int 1))) .nil))) .nil))) (.cons (.ife (.con .Or (.cons (.cmp .NotEq (.bi .repr (.cons (.fn 18 (.cons (.tup (.cons (.var 2) (.cons (.var 6) .nil))) .nil)) .nil)) (.var 5)) (.cons (.cmp .NotEq (.bi .repr (.cons (.fnK 18 .nil ["form"] (.cons (.tup (.cons (.var 2) (.cons (.var 6) .nil))) .nil) [0]) .nil)) (.var 5)) .nil))) (.cons (.ret (.cst (.bool false))) .nil) .nil) .nil))))))
theorem turn_one {E : AEnds} {a : Addr} {k : Nat} {o1 o2 o3 o4 o5 o6 o7 o8 o9 o10 o11 : Option D} {h : AH} (lk : k < 1100) (S : Sr k a h) (fin : ∀ o1 o2 o3 o4 o5 o6 o7 o8 o9 o10 o11 h', Sr (k + 5) a h' → E.nx (rs a o1 o2 o3 o4 o5 o6 o7 o8 o9 o10 o11) h') :
    aSs Γ tBody E (rs a o1 o2 o3 o4 o5 o6 o7 o8 o9 o10 o11) h := by
  refine ⟨_, rfl, rfl, _, fun _ _ z => z, k, a, _, by omega, rfl, by decide, by decide, S, fun r1 h1 p1 q1 S1 => ?_⟩
  refine ⟨_, rfl, rfl, _, fun _ _ z => z, k + 1, a, _, by omega, rfl, by decide, by decide, S1, fun r2 h2 p2 q2 S2 => ?_⟩
  have c2 := ratne (show 0 < 1 + r2 by omega)
  have c2p := ratpos (show 0 < 1 + r2 by omega)
  have c1p := ratpos (show 0 < 1 + r1 by omega)
  obtain ⟨n, m, e1, u1, nl, ml⟩ := f_lratio_le (n := 10) (a := 1 + r1) (c := 1 + r2) (p := ((1 + r1 : Int) : Rat) / ((1 + r2 : Int) : Rat)) (by omega) (by omega) (by unfold B; omega) (by unfold B; omega) (by grind) (by omega)
  have g0 : 0 < ((1 + r1 : Int) : Rat) / ((1 + r2 : Int) : Rat) := rdiv_pos c1p c2p
  generalize hg : ((1 + r1 : Int) : Rat) / ((1 + r2 : Int) : Rat) = g at *
  refine ⟨rfl, _, fun _ _ z => z, _, e1, ?_⟩
  refine ⟨_, rfl, rfl, _, fun _ _ z => z, k + 1 + 1, a, _, by omega, rfl, by decide, by decide, S2, fun r3 h3 p3 q3 S3 => ?_⟩
  refine ⟨_, rfl, _, rfl, rfl, _, fun _ _ z => z, k + 1 + 1 + 1, a, _, by omega, rfl, by omega, by omega, S3, fun r4 h4 p4 q4 S4 => ?_⟩
  have c3 := ratne (show 0 < 1 + r3 by omega)
  have c3p := ratpos (show 0 < 1 + r3 by omega)
  obtain ⟨v, e2, u2⟩ := f_lratio (n := 10) (a := r4) (c := 1 + r3) (p := (r4 : Rat) / ((1 + r3 : Int) : Rat)) (by omega) (by unfold B; omega) (by unfold B; omega) (by grind) (by omega)
  have s0 : 0 ≤ (r4 : Rat) / ((1 + r3 : Int) : Rat) := rdiv_nonneg (by exact_mod_cast p4) c3p
  have s1 : (r4 : Rat) / ((1 + r3 : Int) : Rat) ≤ 1 := rdiv_le1 (Rat.intCast_le_intCast.mpr (by omega)) c3p
  generalize (r4 : Rat) / ((1 + r3 : Int) : Rat) = s at *
  refine ⟨_, rfl, rfl, _, fun _ _ z => z, v, e2, _, rfl, rfl, _, fun _ _ z => z, k + 1 + 1 + 1 + 1, a, _, by omega, rfl, by decide, by decide, S4, fun r5 h5 p5 q5 S5 => ⟨_, _, _, rfl, ?_⟩⟩
  obtain ⟨vf, gm⟩ := isF_at u1
  have mp := vf.pos
  have n0 : 0 < n := by
    have : ((0 : Int) : Rat) < (n : Rat) := by
      rw [gm]
      have := Rat.mul_pos g0 (ratpos mp)
      push_cast
      exact this
    exact Rat.intCast_lt_intCast.mp this
  have hF : Fm g s (V2 n m) v := ⟨u1.mono (by omega), u2.mono (by omega), g0, s0, s1⟩
  obtain ⟨t, ht, t0, tm⟩ := part_ex hF mp (by omega)
  refine ⟨_, rfl, _, rfl, _, rfl, _, _, rfl, rfl, 1 + r5, 1 + r5 + m, rfl, ⟨by omega, by omega, by omega, by omega⟩, ?_⟩
  have bt : B 1000 t := isC_b ht (by have := (isC_le ht (j := t)).mp (Int.le_refl t); have : ((0 : Int) : Rat) ≤ (t : Rat) := Rat.intCast_le_intCast.mpr t0; have := ht.1; have p0 : 0 ≤ (if 1 - s < s then 1 - s else s) := (by split <;> grind); have := Rat.mul_nonneg p0 (Rat.le_of_lt (ratpos mp)); grind) (by have : (t : Rat) ≤ ((9 : Int) : Rat) := Rat.intCast_le_intCast.mpr (by omega); have := ht.2; grind)
  obtain ⟨dd, e4, u4⟩ := f_dear hF rfl ht bt
  obtain ⟨de, e5, u5⟩ := f_lratio (n := 1000) (a := t) (c := m) (p := (t : Rat) / m) mp bt (vf.bb.mono (by omega)) (by have := ratne mp; grind) (by omega)
  rw [IsF.eqv u5 u4 rfl] at e5
  have r6 := shw_1 (shw_f u4 (by omega))
  have es : (1 + r5 + m - (1 + r5)).toNat = m.toNat := by omega
  dsimp only []
  rw [es]
  have lp := turns (o1 := o1) (o3 := some (.int (1 + r3))) (o5 := o5) (kk := k + 5) (a := a) hF n0 (by omega) mp (by omega) gm (show 1 ≤ 1 + r5 by omega) (by omega) ht (E := { E with nx := fun σ' h' => aSs Γ (.cons (.asg (.nm 5) (.bi .repr (.cons (.fn 1 (.cons (.var 7) (.cons (.idx (.var 2) (.cst (.int 1))) .nil))) .nil))) (.cons (.ife (.con .Or (.cons (.cmp .NotEq (.bi .repr (.cons (.fn 18 (.cons (.tup (.cons (.var 2) (.cons (.var 6) .nil))) .nil)) .nil)) (.var 5)) (.cons (.cmp .NotEq (.bi .repr (.cons (.fnK 18 .nil ["form"] (.cons (.tup (.cons (.var 2) (.cons (.var 6) .nil))) .nil) [0]) .nil)) (.var 5)) .nil))) (.cons (.ret (.cst (.bool false))) .nil) .nil) .nil)) E σ' h' }) (fun p4 p9 p10 p11 h' S' => ?_) m.toNat 0 o4 o9 o10 o11 h5 (by omega) S5
  · have e0 : 1 + r5 + ((0 : Nat) : Int) = 1 + r5 := by omega
    rw [e0] at lp
    exact lp
  · rw [cnt_wholeZ n0 (by omega) mp (by omega) (show 1 ≤ 1 + r5 by omega) (by omega) t0 tm vf.lo]
    refine evS_ok gP22 _ _ (.nx (rs a o1 (some (V2 n m)) (some (.int (1 + r3))) p4 (some (.str (rp dd))) (some v) (some (.int t)) (some (.int (1 + r5))) p9 p10 p11)) (by simp [e5, r6]) _ h' ?_
    refine evS_ok gP22 _ _ (.nx (rs a o1 (some (V2 n m)) (some (.int (1 + r3))) p4 (some (.str (rp dd))) (some v) (some (.int t)) (some (.int (1 + r5))) p9 p10 p11)) (by simp [e4, r6]) _ h' ?_
    exact fin _ _ _ _ _ _ _ _ _ _ _ h' S'
theorem vc_law_right : ∀ ds h Q, (Γ 22).2 ds h Q noX → aSs Γ c_law_right { nx := fun _ h' => Q .non h', rt := Q } (ini N_law_right.length ds) h := by
  intro ds h Q q
  have q : sp_law_right ds h Q noX := q
  obtain ⟨k, a, lk, rfl, S, post⟩ := q
  refine ⟨3, rfl, ⟨by decide, by decide⟩, trivial, ?_⟩
  refine turn_one (by omega) S fun o1 o2 o3 o4 o5 o6 o7 o8 o9 o10 o11 h1 S1 => ⟨trivial, ?_⟩
  refine turn_one (by omega) S1 fun o1 o2 o3 o4 o5 o6 o7 o8 o9 o10 o11 h2 S2 => ⟨trivial, ?_⟩
  refine turn_one (by omega) S2 fun o1 o2 o3 o4 o5 o6 o7 o8 o9 o10 o11 h3 S3 => ⟨trivial, ?_⟩
  exact post h3
end K55

open PySem L2
set_option Elab.async false
set_option linter.all false
set_option maxRecDepth 100000
set_option maxHeartbeats 0
namespace K55
open PySem PySem.Spec PyProof.Rows L2 WF WV
theorem d_law_gcd : DefC Γ nm kws gls true 0 "_law_gcd" (top 30) :=
  ⟨N_law_gcd, (["_law_one", "_law_two"] : List Str), c_law_gcd, ⟨rfl, rfl, rfl, by decide +kernel, rfl, by decide +kernel, by decide +kernel⟩, rfl, by decide +kernel, vcF gP0, fun _ _ _ _ _ _ us hl => match us, hl with | [_, _], _ => rfl, trivial⟩
theorem d_law_ratio : DefC Γ nm kws gls true 1 "_law_ratio" (top 31) :=
  ⟨N_law_ratio, (["_law_n", "_law_m"] : List Str), c_law_ratio, ⟨rfl, rfl, rfl, by decide +kernel, rfl, by decide +kernel, by decide +kernel⟩, rfl, by decide +kernel, vcF gP1, fun _ _ _ _ _ _ us hl => match us, hl with | [_, _], _ => rfl, trivial⟩
theorem d_law_draw : DefC Γ nm kws gls true 2 "_law_draw" (top 29) :=
  ⟨N_law_draw, (["_law_sack_here", "_law_size"] : List Str), c_law_draw, ⟨rfl, rfl, rfl, by decide +kernel, rfl, by decide +kernel, by decide +kernel⟩, rfl, by decide +kernel, vc_law_draw, fun _ _ _ _ _ _ us hl => match us, hl with | [_, _], _ => rfl, trivial⟩
theorem d_law_fewest : DefC Γ nm kws gls true 3 "_law_fewest" (top 32) :=
  ⟨N_law_fewest, (["_law_up", "_law_here", "_law_there", "_law_wide"] : List Str), c_law_fewest, ⟨rfl, rfl, rfl, by decide +kernel, rfl, by decide +kernel, by decide +kernel⟩, rfl, by decide +kernel, vc_law_fewest, fun _ _ _ _ _ _ us hl => match us, hl with | [_, _, _, _], _ => rfl, trivial⟩
theorem d_is_lower : DefC Γ nm kws gls true 4 "is_lower" (top 18) :=
  ⟨N_is_lower, (["one", "two"] : List Str), c_is_lower, ⟨rfl, rfl, rfl, by decide +kernel, rfl, by decide +kernel, by decide +kernel⟩, rfl, by decide +kernel, vcF gP2, fun _ _ _ _ _ _ us hl => match us, hl with | [_, _], _ => rfl, trivial⟩
theorem d_is_whole : DefC Γ nm kws gls true 5 "is_whole" (top 6) :=
  ⟨N_is_whole, (["value"] : List Str), c_is_whole, ⟨rfl, rfl, rfl, by decide +kernel, rfl, by decide +kernel, by decide +kernel⟩, rfl, by decide +kernel, vcF gP5, fun _ _ _ _ _ _ us hl => match us, hl with | [_], _ => rfl, trivial⟩
theorem d_are_wholes : DefC Γ nm kws gls true 6 "are_wholes" (top 7) :=
  ⟨N_are_wholes, (["value", "many"] : List Str), c_are_wholes, ⟨rfl, rfl, rfl, by decide +kernel, rfl, by decide +kernel, by decide +kernel⟩, rfl, by decide +kernel, vcF gP6, fun _ _ _ _ _ _ us hl => match us, hl with | [_, _], _ => rfl, trivial⟩
theorem d_common_divisor : DefC Γ nm kws gls true 7 "common_divisor" (top 8) :=
  ⟨N_common_divisor, (["numbers"] : List Str), c_common_divisor, ⟨rfl, rfl, rfl, by decide +kernel, rfl, by decide +kernel, by decide +kernel⟩, rfl, by decide +kernel, vcF gP7, fun _ _ _ _ _ _ us hl => match us, hl with | [_], _ => rfl, trivial⟩
theorem d_is_lowest : DefC Γ nm kws gls true 8 "is_lowest" (top 10) :=
  ⟨N_is_lowest, (["numbers"] : List Str), c_is_lowest, ⟨rfl, rfl, rfl, by decide +kernel, rfl, by decide +kernel, by decide +kernel⟩, rfl, by decide +kernel, vcF gP8, fun _ _ _ _ _ _ us hl => match us, hl with | [_], _ => rfl, trivial⟩
theorem d_is_ratio : DefC Γ nm kws gls true 9 "is_ratio" (top 13) :=
  ⟨N_is_ratio, (["value"] : List Str), c_is_ratio, ⟨rfl, rfl, rfl, by decide +kernel, rfl, by decide +kernel, by decide +kernel⟩, rfl, by decide +kernel, vcF gP9, fun _ _ _ _ _ _ us hl => match us, hl with | [_], _ => rfl, trivial⟩
theorem d_is_form : DefC Γ nm kws gls true 10 "is_form" (top 23) :=
  ⟨N_is_form, (["value"] : List Str), c_is_form, ⟨rfl, rfl, rfl, by decide +kernel, rfl, by decide +kernel, by decide +kernel⟩, rfl, by decide +kernel, vcF gP10, fun _ _ _ _ _ _ us hl => match us, hl with | [_], _ => rfl, trivial⟩
theorem d_check_form : DefC Γ nm kws gls true 11 "check_form" (top 24) :=
  ⟨N_check_form, (["value"] : List Str), c_check_form, ⟨rfl, rfl, rfl, by decide +kernel, rfl, by decide +kernel, by decide +kernel⟩, rfl, by decide +kernel, vcF gP11, fun _ _ _ _ _ _ us hl => match us, hl with | [_], _ => rfl, trivial⟩
theorem d_lower_of : DefC Γ nm kws gls true 12 "lower_of" (top 19) :=
  ⟨N_lower_of, (["one", "two"] : List Str), c_lower_of, ⟨rfl, rfl, rfl, by decide +kernel, rfl, by decide +kernel, by decide +kernel⟩, rfl, by decide +kernel, vcF gP12, fun _ _ _ _ _ _ us hl => match us, hl with | [_, _], _ => rfl, trivial⟩
theorem d_lowest : DefC Γ nm kws gls true 13 "lowest" (top 9) :=
  ⟨N_lowest, (["numbers"] : List Str), c_lowest, ⟨rfl, rfl, rfl, by decide +kernel, rfl, by decide +kernel, by decide +kernel⟩, rfl, by decide +kernel, vcF gP13, fun _ _ _ _ _ _ us hl => match us, hl with | [_], _ => rfl, trivial⟩
theorem d_ratio : DefC Γ nm kws gls true 14 "ratio" (top 14) :=
  ⟨N_ratio, (["over", "under"] : List Str), c_ratio, ⟨rfl, rfl, rfl, by decide +kernel, rfl, by decide +kernel, by decide +kernel⟩, rfl, by decide +kernel, vcF gP14, fun _ _ _ _ _ _ us hl => match us, hl with | [_, _], _ => rfl, trivial⟩
theorem d_ratio_less : DefC Γ nm kws gls true 15 "ratio_less" (top 16) :=
  ⟨N_ratio_less, (["one", "two"] : List Str), c_ratio_less, ⟨rfl, rfl, rfl, by decide +kernel, rfl, by decide +kernel, by decide +kernel⟩, rfl, by decide +kernel, vcF gP15, fun _ _ _ _ _ _ us hl => match us, hl with | [_, _], _ => rfl, trivial⟩
theorem d_up : DefC Γ nm kws gls true 16 "up" (top 21) :=
  ⟨N_up, (["number"] : List Str), c_up, ⟨rfl, rfl, rfl, by decide +kernel, rfl, by decide +kernel, by decide +kernel⟩, rfl, by decide +kernel, vcF gP16, fun _ _ _ _ _ _ us hl => match us, hl with | [_], _ => rfl, trivial⟩
theorem d_ratio_product : DefC Γ nm kws gls true 17 "ratio_product" (top 17) :=
  ⟨N_ratio_product, (["one", "two"] : List Str), c_ratio_product, ⟨rfl, rfl, rfl, by decide +kernel, rfl, by decide +kernel, by decide +kernel⟩, rfl, by decide +kernel, vcF gP17, fun _ _ _ _ _ _ us hl => match us, hl with | [_, _], _ => rfl, trivial⟩
theorem d_dear_share : DefC Γ nm kws gls true 18 "dear_share" (top 26) :=
  ⟨N_dear_share, (["form"] : List Str), c_dear_share, ⟨rfl, rfl, rfl, by decide +kernel, rfl, by decide +kernel, by decide +kernel⟩, rfl, by decide +kernel, vcF gP18, fun _ _ _ _ _ _ us hl => match us, hl with | [_], _ => rfl, ⟨(fun _ _ _ _ _ _ us ws l1 l2 => match us, ws, l1, l2 with | [], [_], _, _ => rfl), trivial⟩⟩
theorem d_ratio_sum : DefC Γ nm kws gls true 19 "ratio_sum" (top 15) :=
  ⟨N_ratio_sum, (["one", "two"] : List Str), c_ratio_sum, ⟨rfl, rfl, rfl, by decide +kernel, rfl, by decide +kernel, by decide +kernel⟩, rfl, by decide +kernel, vcF gP19, fun _ _ _ _ _ _ us hl => match us, hl with | [_, _], _ => rfl, trivial⟩
theorem d_fewest_of : DefC Γ nm kws gls true 20 "fewest_of" (top 22) :=
  ⟨N_fewest_of, (["rise", "fall", "start"] : List Str), c_fewest_of, ⟨rfl, rfl, rfl, by decide +kernel, rfl, by decide +kernel, by decide +kernel⟩, rfl, by decide +kernel, vcF gP20, fun _ _ _ _ _ _ us hl => match us, hl with | [_, _, _], _ => rfl, trivial⟩
theorem d_runs_by_form : DefC Γ nm kws gls true 21 "runs_by_form" (top 25) :=
  ⟨N_runs_by_form, (["form", "many"] : List Str), c_runs_by_form, ⟨rfl, rfl, rfl, by decide +kernel, rfl, by decide +kernel, by decide +kernel⟩, rfl, by decide +kernel, vcF gP21, fun _ _ _ _ _ _ us hl => match us, hl with | [_, _], _ => rfl, ⟨(fun _ _ _ _ _ _ us ws l1 l2 => match us, ws, l1, l2 with | [], [_, _], _, _ => rfl), trivial⟩⟩
theorem d_law_right : DefC Γ nm kws gls true 22 "_law_right" (top 33) :=
  ⟨N_law_right, (["_law_sack_here"] : List Str), c_law_right, ⟨rfl, rfl, rfl, by decide +kernel, rfl, by decide +kernel, by decide +kernel⟩, rfl, by decide +kernel, vc_law_right, fun _ _ _ _ _ _ us hl => match us, hl with | [_], _ => rfl, trivial⟩
theorem d_law_sack : DefC Γ nm kws gls true 23 "_law_sack" (top 28) :=
  ⟨N_law_sack, (["_law_script", "_law_turn"] : List Str), c_law_sack, ⟨rfl, rfl, rfl, by decide +kernel, rfl, by decide +kernel, by decide +kernel⟩, rfl, by decide +kernel, vc_law_sack, fun _ _ _ _ _ _ us hl => match us, hl with | [_, _], _ => rfl, trivial⟩
theorem d_law : DefC Γ nm kws gls true 24 "law" (top 34) :=
  ⟨N_law, (["_law_script"] : List Str), c_law, ⟨rfl, rfl, rfl, by decide +kernel, rfl, by decide +kernel, by decide +kernel⟩, rfl, by decide +kernel, vc_law, fun _ _ _ _ _ _ us hl => match us, hl with | [_], _ => rfl, trivial⟩
abbrev fas : List He.Fa := nm.map He.Fa.glo ++ builtinNames.map He.Fa.free
abbrev dfs : List He.DefD := fns.map fun q => dd q.1 q.2
abbrev RR : PySem.W.OpenRow := PySem.W.OpenLaw.row PySem.Challenge.rw_windfigure_k55_whole_dear_shares_counted
abbrev hk : PySem.W.Hook := hookW 4 fas dfs gls true
def ob (s : PySem.W.SharedT) : He.AlD := obsWG 4 fas dfs gls true (HandSHeadRun.getT s)
theorem ob_eq (s : PySem.W.SharedT) : ob s = hk.obs s.abs := obsWG_eq (HandSHeadRun.getT_eq s)
abbrev lo0 : List Str := (["__name__", "WindError", "InvalidNumber", "InvalidForm", "is_whole", "are_wholes", "common_divisor", "lowest", "is_lowest", "ONE", "is_ratio", "ratio", "ratio_sum", "ratio_less", "ratio_product", "is_lower", "lower_of", "up", "fewest_of", "is_form", "check_form", "runs_by_form", "dear_share", "_law_sack", "_law_draw", "_law_gcd", "_law_ratio", "_law_fewest", "_law_right"] : List Str)
abbrev loo : List Str := lo0
abbrev vw : Program := PySem.W.view RR.prog [0, 34]
theorem runW (w : World) : HandSHeadRun.RunEqI RR vw hk ob 12000 loo w := by
  unfold HandSHeadRun.RunEqI
  kernel_rfl
theorem all_defs : ∀ i x st, fns[i]? = some (x, st) → DefC Γ nm kws gls true i x st := by
  intro i x st h
  match i, h with
  | 0, h => cases h; exact d_law_gcd
  | 1, h => cases h; exact d_law_ratio
  | 2, h => cases h; exact d_law_draw
  | 3, h => cases h; exact d_law_fewest
  | 4, h => cases h; exact d_is_lower
  | 5, h => cases h; exact d_is_whole
  | 6, h => cases h; exact d_are_wholes
  | 7, h => cases h; exact d_common_divisor
  | 8, h => cases h; exact d_is_lowest
  | 9, h => cases h; exact d_is_ratio
  | 10, h => cases h; exact d_is_form
  | 11, h => cases h; exact d_check_form
  | 12, h => cases h; exact d_lower_of
  | 13, h => cases h; exact d_lowest
  | 14, h => cases h; exact d_ratio
  | 15, h => cases h; exact d_ratio_less
  | 16, h => cases h; exact d_up
  | 17, h => cases h; exact d_ratio_product
  | 18, h => cases h; exact d_dear_share
  | 19, h => cases h; exact d_ratio_sum
  | 20, h => cases h; exact d_fewest_of
  | 21, h => cases h; exact d_runs_by_form
  | 22, h => cases h; exact d_law_right
  | 23, h => cases h; exact d_law_sack
  | 24, h => cases h; exact d_law
  | i + 25, h => cases h
end K55
open PySem PySem.W PySem.Calls PyProof.Rows WF K55 in
theorem PySem.Challenge.cw_windfigure_k55_whole_dear_shares_counted_holds : PySem.Challenge.rw_windfigure_k55_whole_dear_shares_counted.Holds := by
  w_on; o_law
  refine HandSHeadRun.head_imp (r := OpenLaw.row PySem.Challenge.rw_windfigure_k55_whole_dear_shares_counted) (q := vw) (H := hk) (ob := ob) (M := 12000) (loose := loo) (d := HandSHeadRun.topDef (OpenLaw.row PySem.Challenge.rw_windfigure_k55_whole_dear_shares_counted).prog 34) (kwd := []) ob_eq runW (by kernel_rfl) (by kernel_rfl) (by kernel_rfl) (by rfl) (by first | assumption | decide +kernel) (by decide +kernel) ⟨rfl, rfl, rfl, rfl, rfl, by decide +kernel⟩ ?hw ?hc
  case hw => w_witness2
  case hc => exact walk_ofW (l := PySem.Challenge.rw_windfigure_k55_whole_dear_shares_counted) (n := 63) (k := 24) (x := "law") (st := top 34) (Γ := Γ) (nm := nm) (kw := kws) (gl := gls) (fn := fns) (fa := fas) rfl (by decide) (by kernel_rfl) ⟨rfl, by decide, by decide⟩ (by kernel_rfl) rfl rfl rfl (fun x h => List.mem_append_left _ (List.mem_map.mpr ⟨x, h, rfl⟩)) (fun x h => List.mem_append_right _ (List.mem_map.mpr ⟨x, h, rfl⟩)) all_defs

