import PyProof.Rows.All
import Wide.All
import OpenK.AllK
import Wide.FinOn
import KE.KStateDown
import HandS.ForMost
import HandS.WordsExc
import HandS.Head0
import HandS.Head1
import HandS.Head2
import HandS.HeadEnd
import HandS.HeadHook1
import HandS.HeadHook2
import HandS.Wide
import HandS.Exc
import HandS.Ends
import HandS.Defaults
import HandS.WideMore
import HandS.TupAny
import HandS.Small
import HandS.Style
import HandS.Replace
import HandS.RaiseMore
import HandS.Deep
import HandS.More
import PyProof.ReprRoads
import PyProof.EnumMake
import PyProof.Draws
import PyProof.Rows.CallKwBuiltin
import HandS.Rev
import HandS.Zip
import PyProof.ReprLen
import HandS.Codes
import PySem.Challenge.RW_roadsettings_k02_marks_and_digits
set_option Elab.async false
set_option linter.all false
set_option maxRecDepth 100000
set_option maxHeartbeats 4000000
/-! AL: a ledger of assertions over the abstract heap, and the readings stepped over it. -/
namespace AL
open PySem L2

/-- may stand in two parts of the ledger at once -/
def Shr : HO → Prop
  | .tup _ => True
  | .frz _ (.lst _) => True
  | _ => False
abbrev Asn := Hp → Prop
structure Sep (H H1 H2 : Hp) : Prop where
  l : ∀ a o, H1 a = some o → H a = some o
  r : ∀ a o, H2 a = some o → H a = some o
  d : ∀ a o u, H1 a = some o → H2 a = some u → Shr o
def Star : List Asn → Asn
  | [] => fun _ => True
  | A :: L => fun H => ∃ H1 H2, Sep H H1 H2 ∧ A H1 ∧ Star L H2
def un (H1 H2 : Hp) : Hp := fun a => match H1 a with
  | some o => some o
  | none => H2 a
def one (p : Addr) (o : HO) : Hp := fun a => if a = p then some o else none
theorem un_some {H1 H2 : Hp} {a : Addr} {o : HO} (h : un H1 H2 a = some o) : H1 a = some o ∨ H2 a = some o := by
  unfold un at h
  cases e : H1 a with
  | none => rw [e] at h; exact .inr h
  | some u => rw [e] at h; exact .inl h
theorem un_l {H1 H2 : Hp} {a : Addr} {o : HO} (h : H1 a = some o) : un H1 H2 a = some o := by
  unfold un; rw [h]
theorem un_r {H H1 H2 : Hp} (hl : ∀ a o, H1 a = some o → H a = some o) (hr : ∀ a o, H2 a = some o → H a = some o) {a : Addr} {o : HO} (h : H2 a = some o) : un H1 H2 a = some o := by
  unfold un
  cases e : H1 a with
  | none => exact h
  | some u =>
    have h1 := hl a u e
    have h2 := hr a o h
    rw [h1] at h2
    exact h2
theorem one_same {p : Addr} {o : HO} : one p o p = some o := by unfold one; rw [if_pos rfl]
theorem one_some {p a : Addr} {o u : HO} (h : one p o a = some u) : a = p ∧ u = o := by
  unfold one at h
  split at h
  · exact ⟨‹_›, (Option.some.inj h).symm⟩
  · cases h
theorem Star.mono {H H' : Hp} : ∀ {L : List Asn}, Star L H → (∀ a o, H a = some o → H' a = some o) → Star L H'
  | [], _, _ => trivial
  | _ :: _, ⟨H1, H2, s, a, t⟩, h => ⟨H1, H2, ⟨fun a o e => h a o (s.l a o e), fun a o e => h a o (s.r a o e), s.d⟩, a, t⟩
theorem Star.swap {A B : Asn} {L : List Asn} {H : Hp} (h : Star (A :: B :: L) H) : Star (B :: A :: L) H := by
  obtain ⟨H1, H2, s, a, H3, H4, s', b, t⟩ := h
  refine ⟨H3, un H1 H4, ⟨fun x o e => s.r x o (s'.l x o e), fun x o e => ?_, fun x o u e e2 => ?_⟩, b, H1, H4, ⟨fun x o e => un_l e, fun x o e => un_r s.l (fun x o e => s.r x o (s'.r x o e)) e, fun x o u e e2 => s.d x o u e (s'.r x u e2)⟩, a, t⟩
  · rcases un_some e with e | e
    · exact s.l x o e
    · exact s.r x o (s'.r x o e)
  · rcases un_some e2 with e2 | e2
    · have q := s.d x u o e2 (s'.l x o e)
      have q1 := s.l x u e2
      have q2 := s.r x o (s'.l x o e)
      rw [q1] at q2
      rw [← Option.some.inj q2]
      exact q
    · exact s'.d x o u e e2
/-- the tail changed -/
theorem Star.tail {A : Asn} {L M : List Asn} {H : Hp} (h : Star (A :: L) H) (k : ∀ H, Star L H → Star M H) : Star (A :: M) H := by
  obtain ⟨H1, H2, s, a, t⟩ := h
  exact ⟨H1, H2, s, a, k _ t⟩
theorem Star.head {A B : Asn} {L : List Asn} {H : Hp} (h : Star (A :: L) H) (k : ∀ H, A H → B H) : Star (B :: L) H := by
  obtain ⟨H1, H2, s, a, t⟩ := h
  exact ⟨H1, H2, s, k _ a, t⟩
theorem Star.drop {A : Asn} {L : List Asn} {H : Hp} (h : Star (A :: L) H) : Star L H := by
  obtain ⟨H1, H2, s, _, t⟩ := h
  exact t.mono s.r
theorem Star.get {A : Asn} {L : List Asn} {H : Hp} (h : Star (A :: L) H) : ∃ H1, (∀ a o, H1 a = some o → H a = some o) ∧ A H1 := by
  obtain ⟨H1, H2, s, a, _⟩ := h
  exact ⟨H1, s.l, a⟩
/-- a part of the ledger as one -/
theorem Star.join : ∀ {M L : List Asn} {H : Hp}, Star (M ++ L) H → Star (Star M :: L) H
  | [], L, H, h => ⟨fun _ => none, H, ⟨fun _ _ e => (nomatch e), fun _ _ e => e, fun _ _ _ e => (nomatch e)⟩, trivial, h⟩
  | A :: M, L, H, h => by
    have h1 : Star (A :: (M ++ L)) H := h
    obtain ⟨H1, H2, s, a, t⟩ := h1
    obtain ⟨H3, H4, s', b, t'⟩ := Star.join t
    refine ⟨un H1 H3, H4, ⟨fun x o e => ?_, fun x o e => s.r x o (s'.r x o e), fun x o u e e2 => ?_⟩, ⟨H1, H3, ⟨fun x o e => un_l e, fun x o e => un_r s.l (fun x o e => s.r x o (s'.l x o e)) e, fun x o u e e2 => s.d x o u e (s'.l x u e2)⟩, a, b⟩, t'⟩
    · rcases un_some e with e | e
      · exact s.l x o e
      · exact s.r x o (s'.l x o e)
    · rcases un_some e with e | e
      · exact s.d x o u e (s'.r x u e2)
      · exact s'.d x o u e e2
theorem Star.split : ∀ {M L : List Asn} {H : Hp}, Star (Star M :: L) H → Star (M ++ L) H
  | [], L, H, h => h.drop
  | A :: M, L, H, ⟨H1, H2, s, ⟨H3, H4, s', a, t'⟩, t⟩ => by
    show Star (A :: (M ++ L)) H
    refine ⟨H3, un H4 H2, ⟨fun x o e => s.l x o (s'.l x o e), fun x o e => ?_, fun x o u e e2 => ?_⟩, a, Star.split ⟨H4, H2, ⟨fun x o e => un_l e, fun x o e => un_r (fun x o e => s.l x o (s'.r x o e)) s.r e, fun x o u e e2 => s.d x o u (s'.r x o e) e2⟩, t', t⟩⟩
    · rcases un_some e with e | e
      · exact s.l x o (s'.r x o e)
      · exact s.r x o e
    · rcases un_some e2 with e2 | e2
      · exact s'.d x o u e e2
      · exact s.d x o u (s'.l x o e) e2
/-- o stands at p, and it is ours -/
def pt (p : Addr) (o : HO) : Asn := fun H => H p = some o
def pur (φ : Prop) : Asn := fun _ => φ
/-- the list at a can be read -/
def sq (K : PySem.W.Frag) (a : Addr) (xs : List V) : Asn := fun H => SqL K H a xs
theorem Star.new {L : List Asn} {H : Hp} {p : Addr} {o : HO} (h : Star L H) (hp : H p = none) : Star (pt p o :: L) (upd H p o) := by
  refine ⟨one p o, H, ⟨fun a u e => ?_, fun a u e => ?_, fun a u v e e2 => ?_⟩, one_same, h⟩
  · obtain ⟨rfl, rfl⟩ := one_some e; exact upd_same
  · rw [upd_ne (ne_of_none e hp)]; exact e
  · obtain ⟨rfl, rfl⟩ := one_some e; rw [hp] at e2; cases e2
theorem Star.set {L : List Asn} {H : Hp} {p : Addr} {o : HO} (o' : HO) (h : Star (pt p o :: L) H) (hs : ¬ Shr o) : Star (pt p o' :: L) (upd H p o') := by
  obtain ⟨H1, H2, s, a, t⟩ := h
  have a' : H1 p = some o := a
  have n : H2 p = none := by
    cases e : H2 p with
    | none => rfl
    | some u => exact absurd (s.d p o u a' e) hs
  refine ⟨one p o', H2, ⟨fun x u e => ?_, fun x u e => ?_, fun x u v e e2 => ?_⟩, one_same, t⟩
  · obtain ⟨rfl, rfl⟩ := one_some e; exact upd_same
  · rw [upd_ne (ne_of_none e n)]; exact s.r x u e
  · obtain ⟨rfl, rfl⟩ := one_some e; rw [n] at e2; cases e2
theorem Star.at {L : List Asn} {H : Hp} {p : Addr} {o : HO} (h : Star (pt p o :: L) H) : H p = some o := by
  obtain ⟨H1, k, a⟩ := h.get
  exact k _ _ a
/-- can be had twice -/
def Dup (A : Asn) : Prop := ∀ H, A H → ∃ H1, (∀ a o, H1 a = some o → H a = some o ∧ Shr o) ∧ A H1
theorem Star.dup {A : Asn} {L : List Asn} {H : Hp} (h : Star (A :: L) H) (d : Dup A) : Star (A :: A :: L) H := by
  obtain ⟨H1, H2, s, a, t⟩ := h
  obtain ⟨H3, k, b⟩ := d _ a
  refine ⟨H3, un H1 H2, ⟨fun x o e => s.l x o (k x o e).1, fun x o e => ?_, fun x o u e e2 => (k x o e).2⟩, b, H1, H2, ⟨fun x o e => un_l e, fun x o e => un_r s.l s.r e, s.d⟩, a, t⟩
  rcases un_some e with e | e
  · exact s.l x o e
  · exact s.r x o e
theorem Dup.pt {p : Addr} {o : HO} (h : Shr o) : Dup (pt p o) := fun H a => ⟨one p o, fun x u e => by obtain ⟨rfl, rfl⟩ := one_some e; exact ⟨a, h⟩, one_same⟩
theorem Dup.tup (p : Addr) (xs : List V) : Dup (AL.pt p (.tup xs)) := Dup.pt trivial
theorem Dup.pur {φ : Prop} : Dup (pur φ) := fun _ a => ⟨fun _ => none, fun _ _ e => (nomatch e), a⟩

/-! ### the ledger's places -/
/-- A is taken out of L, L0 is left -/
inductive Rem : List Asn → Asn → List Asn → Prop where
  | here {A : Asn} {L : List Asn} : Rem (A :: L) A L
  | dup {A : Asn} {L : List Asn} : Dup A → Rem (A :: L) A (A :: L)
  | there {A C : Asn} {L L0 : List Asn} : Rem L A L0 → Rem (C :: L) A (C :: L0)
theorem Rem.ok {L L0 : List Asn} {A : Asn} (r : Rem L A L0) : ∀ {H : Hp}, Star L H → Star (A :: L0) H := by
  induction r with
  | here => intro H h; exact h
  | dup d => intro H h; exact h.dup d
  | there _ ih => intro H h; exact (h.tail fun _ t => ih t).swap
inductive Sub : List Asn → List Asn → List Asn → Prop where
  | nil {L : List Asn} : Sub L [] L
  | cons {L L1 R As : List Asn} {A : Asn} : Rem L A L1 → Sub L1 As R → Sub L (A :: As) R
theorem Sub.ok {L M R : List Asn} (s : Sub L M R) : ∀ {H : Hp}, Star L H → Star (M ++ R) H := by
  induction s with
  | nil => intro H h; exact h
  | cons r _ ih => intro H h; exact (r.ok h).tail fun _ t => ih t
/-- what the ledger L says, P says -/
def Al (L : List Asn) (P : Hp → Prop) : Prop := ∀ H, Star L H → P H
def Ent (L M : List Asn) : Prop := ∀ H, Star L H → Star M H
theorem Star.dropR : ∀ {M R : List Asn} {H : Hp}, Star (M ++ R) H → Star M H
  | [], _, _, _ => trivial
  | _ :: _, _, _, h => Star.tail h fun _ t => Star.dropR t
theorem Ent.of {L M R : List Asn} (s : Sub L M R) : Ent L M := fun _ h => (s.ok h).dropR
theorem Ent.refl {L : List Asn} : Ent L L := fun _ h => h
theorem Ent.trans {L M N : List Asn} (a : Ent L M) (b : Ent M N) : Ent L N := fun H h => b H (a H h)
theorem Al.ent {L M : List Asn} {P : Hp → Prop} (e : Ent L M) (k : Al M P) : Al L P := fun H h => k H (e H h)
theorem Al.pick {L L0 : List Asn} {A : Asn} {P : Hp → Prop} (r : Rem L A L0) (k : Al (A :: L0) P) : Al L P := fun H h => k H (r.ok h)
theorem Al.mono {L : List Asn} {P P' : Hp → Prop} (k : Al L P) (h : ∀ H, P H → P' H) : Al L P' := fun H s => h H (k H s)
theorem Al.pur {L : List Asn} {φ : Prop} {P : Hp → Prop} (k : φ → Al L P) : Al (pur φ :: L) P := fun H h => by
  obtain ⟨_, _, a⟩ := h.get
  exact k a H h.drop
theorem Al.split {M L : List Asn} {P : Hp → Prop} (k : Al (M ++ L) P) : Al (Star M :: L) P := fun H h => k H h.split
/-- an assertion opened -/
theorem Al.open {A B : Asn} {L : List Asn} {P : Hp → Prop} (h : ∀ H, A H → B H) (k : Al (B :: L) P) : Al (A :: L) P := fun H s => k H (s.head h)
theorem Al.ex {α : Type} {A : α → Asn} {L : List Asn} {P : Hp → Prop} (k : ∀ x, Al (A x :: L) P) : Al ((fun H => ∃ x, A x H) :: L) P := fun H h => by
  obtain ⟨H1, H2, s, ⟨x, a⟩, t⟩ := h
  exact k x H ⟨H1, H2, s, a, t⟩
theorem Al.at {L L0 : List Asn} {p : Addr} {o : HO} {P : Hp → Prop} (r : Rem L (pt p o) L0) (k : Al L (fun H => H p = some o → P H)) : Al L P := fun H h => k H h (r.ok h).at
theorem Al.start {α β : Type} {L : List Asn} {t : α → β → Hp → Prop} {D : α} {σ : β} (σ' : β) (e : σ = σ') (k : Al L (fun H => t D σ' H)) : Al L (fun H => t D σ H) := by rw [e]; exact k
end AL

namespace AL
open PySem L2

/-! ### slots -/
inductive SetAt : L2.St → Nat → Option V → L2.St → Prop where
  | z {a v : Option V} {r : L2.St} : SetAt (a :: r) 0 v (v :: r)
  | s {a v : Option V} {r r' : L2.St} {i : Nat} : SetAt r i v r' → SetAt (a :: r) (i + 1) v (a :: r')
theorem SetAt.eq {σ σ' : L2.St} {i : Nat} {v : Option V} (h : SetAt σ i v σ') : σ.set i v = σ' := by
  induction h with
  | z => rfl
  | s _ ih => rw [List.set_cons_succ, ih]
inductive GetAt : L2.St → Nat → V → Prop where
  | z {v : V} {r : L2.St} : GetAt (some v :: r) 0 v
  | s {a : Option V} {v : V} {r : L2.St} {i : Nat} : GetAt r i v → GetAt (a :: r) (i + 1) v
theorem GetAt.eq {σ : L2.St} {i : Nat} {v : V} (h : GetAt σ i v) : σ[i]? = some (some v) := by
  induction h with
  | z => rfl
  | s _ ih => rw [List.getElem?_cons_succ]; exact ih

/-! ### continuations with names -/
def BlK (Q : Bool → Hp → Prop) : VK := fun x H => ∃ c, x = .bl c ∧ Q c H
def IfK (P1 P2 : Hp → Prop) : Bool → Hp → Prop := fun b H => if b = true then P1 H else P2 H
def NewK (o : HO) (Q : VK) : Hp → Prop := fun H => ∀ p, H p = none → Q (.ref p) (upd H p o)
def TupK (Q : VK) (xs : List V) : Hp → Prop := fun H => xs.length ≤ sizeLine ∧ NewK (.tup xs) Q H
def LstK (Q : VK) (xs : List V) : Hp → Prop := fun H => xs.length ≤ sizeLine ∧ NewK (.lst xs) Q H
def FldK (K : PySem.W.Frag) (f : Str) (Q : VK) : VK := fun x H1 => ∃ a C dx fs v, x = .ref a ∧ H1 a = some (.ins C dx fs) ∧ Cls K C ∧ NoAttr K C f ∧ fs.lookup f = some v ∧ Q v H1
def MethK (C : Addr) (m : Str) (P : V → Hp → Prop) : VK := fun x H1 => ∃ a dx fs, x = .ref a ∧ H1 a = some (.ins C dx fs) ∧ fs.lookup m = none ∧ P x H1
def ForW (J : It) (g : TG) (tb : TS) (D : Ends) (σ : L2.St) (H1 : Hp) : Prop := ∃ W : Nat → Nat → L2.St → Hp → Prop, (∃ m, W 0 m σ H1) ∧ ∀ i m σ H, W i m σ H → (J.stop i H ∧ D.nx σ H) ∨ (J.go i H ∧ ∃ N : L2.St → Hp → Prop, (∀ σ' H', N σ' H' → ∃ m', m' < m ∧ W (i + 1) m' σ' H') ∧ ∀ x H', J.yld i H x H' → g x σ H' fun σ2 H2 => tb { D with nx := N, ct := N, bk := D.nx } σ2 H2)
def LcW (J : It) (g : TG) (tt : TT) (te : TE) (vs : List Nat) (σ : L2.St) (Q : VK) (H1 : Hp) : Prop := ∀ D, H1 D = none → ∃ W : Nat → Nat → Hp → Prop, (∃ m, W 0 m (upd H1 D (.lst []))) ∧ ∀ i m H, W i m H →
  (J.stop i H ∧ Q (.ref D) H) ∨ (J.go i H ∧ ∃ Nx : Hp → Prop, (∀ H', Nx H' → ∃ m', m' < m ∧ W (i + 1) m' H') ∧ ∀ x H', J.yld i H x H' → g x (wipe σ vs) H' fun σ2 H2 => wipe σ2 vs = wipe σ vs ∧ tt σ2 H2 fun b H3 =>
    if b = true then te σ2 H3 fun y H4 => ∃ acc, H4 D = some (.lst acc) ∧ acc.length < sizeLine ∧ Nx (upd H4 D (.lst (acc ++ [y]))) else Nx H3)
/-- what is wanted of a list item: read by the ledger's list or by what is written -/
structure Ldg (L : List Asn) (K : PySem.W.Frag) (a : Addr) (xs : List V) : Prop where
  q : ∀ H, Star L H → SqL K H a xs
structure LdgT (L : List Asn) (K : PySem.W.Frag) (a : Addr) (xs : List V) : Prop where
  q : ∀ H, Star L H → SqT K H a xs

section
variable {L L0 : List Asn} {σ σ' : L2.St} {Q : VK} {nx : L2.St → Hp → Prop} {rt : VK} {bk ct : L2.St → Hp → Prop} {K : PySem.W.Frag} {te ta tb tc : TE} {tt tu : TT} {t : TA} {ts tv : TS} {v x y : V} {i j : Int} {b : Bool} {P P1 P2 : Hp → Prop} {QB : Bool → Hp → Prop} {a p C dx : Addr} {xs ys : List V} {fs : List (Str × V)} {r r' : R2} {QA : List V → Hp → Prop}

/-! ### expressions -/
theorem a_var {i : Nat} (h : GetAt σ i v) (k : Al L (Q v)) : Al L (fun H => tVar i σ H Q) := fun H s => ⟨v, h.eq, k H s⟩
theorem a_c (k : Al L (Q v)) : Al L (fun H => tC v σ H Q) := k
theorem a_op (k : Al L (fun H => ta σ H fun x H1 => tb σ H1 fun y H2 => r x y H2 Q)) : Al L (fun H => tOp r ta tb σ H Q) := k
theorem a_un {r : V → Hp → VK → Prop} (k : Al L (fun H => ta σ H fun x H1 => r x H1 Q)) : Al L (fun H => tUn r ta σ H Q) := k
theorem a_cb {r : List V → Hp → VK → Prop} (k : Al L (fun H => t σ H fun vs H1 => r vs H1 Q)) : Al L (fun H => tCB r t σ H Q) := k
theorem a_cons (k : Al L (fun H => te σ H fun x H1 => t σ H1 fun xs H2 => QA (x :: xs) H2)) : Al L (fun H => tCons te t σ H QA) := k
theorem a_nil (k : Al L (QA [])) : Al L (fun H => tNil σ H QA) := k
theorem a_test (k : Al L (fun H => te σ H (BlK QB))) : Al L (fun H => tTest te σ H QB) := k
theorem a_tB (k : Al L (fun H => te σ H (BlK QB))) : Al L (fun H => tB te σ H QB) := k
theorem a_bl (k : Al L (QB b)) : Al L (BlK QB (.bl b)) := fun H s => ⟨b, rfl, k H s⟩
theorem a_and (k : Al L (fun H => tt σ H (IfK (fun H1 => tu σ H1 QB) (QB false)))) : Al L (fun H => tAnd tt tu σ H QB) := k
theorem a_or (k : Al L (fun H => tt σ H (IfK (QB true) (fun H1 => tu σ H1 QB)))) : Al L (fun H => tOr tt tu σ H QB) := k
theorem a_not (k : Al L (fun H => tt σ H fun c H1 => QB (!c) H1)) : Al L (fun H => tNot tt σ H QB) := k
theorem a_andV (k : Al L (fun H => ta σ H (BlK (IfK (fun H1 => tb σ H1 Q) (Q (.bl false)))))) : Al L (fun H => tAndV ta tb σ H Q) := k
theorem a_orV (k : Al L (fun H => ta σ H (BlK (IfK (Q (.bl true)) (fun H1 => tb σ H1 Q))))) : Al L (fun H => tOrV ta tb σ H Q) := k
theorem a_notV (k : Al L (fun H => ta σ H (BlK fun c H1 => Q (.bl (!c)) H1))) : Al L (fun H => tNotV ta σ H Q) := k
theorem a_ifx (k : Al L (fun H => tt σ H (IfK (fun H1 => ta σ H1 Q) (fun H1 => tb σ H1 Q)))) : Al L (fun H => tIf tt ta tb σ H Q) := k
theorem a_chain (k : Al L (fun H => ta σ H fun x H1 => tb σ H1 fun y H2 => r x y H2 (BlK (IfK (fun H3 => tc σ H3 fun w' H4 => r' y w' H4 Q) (Q (.bl false)))))) : Al L (fun H => tChain r r' ta tb tc σ H Q) := k
theorem a_tup (k : Al L (fun H => t σ H (TupK Q))) : Al L (fun H => tTup t σ H Q) := k
theorem a_lst (k : Al L (fun H => t σ H (LstK Q))) : Al L (fun H => tLst t σ H Q) := k
theorem a_new {o : HO} (k : ∀ p, Al (pt p o :: L) (Q (.ref p))) : Al L (NewK o Q) := fun H s p hp => k p _ (s.new hp)
theorem a_new' {o : HO} (k : ∀ p, Al (pt p o :: L) (Q (.ref p))) : Al L (fun H => ∀ p, H p = none → Q (.ref p) (upd H p o)) := fun H s p hp => k p _ (s.new hp)
theorem a_tupK (hz : xs.length ≤ sizeLine) (k : ∀ p, Al (pt p (.tup xs) :: L) (Q (.ref p))) : Al L (TupK Q xs) := fun H s => ⟨hz, fun p hp => k p _ (s.new hp)⟩
theorem a_lstK (hz : xs.length ≤ sizeLine) (k : ∀ p, Al (pt p (.lst xs) :: L) (Q (.ref p))) : Al L (LstK Q xs) := fun H s => ⟨hz, fun p hp => k p _ (s.new hp)⟩
theorem a_fld {f : Str} (k : Al L (fun H => ta σ H (FldK K f Q))) : Al L (fun H => tFld K ta f σ H Q) := k
theorem a_fldK {f : Str} (r : Rem L (pt a (.ins C dx fs)) L0) (hc : Cls K C) (hn : NoAttr K C f) (hl : fs.lookup f = some v) (k : Al L (Q v)) : Al L (FldK K f Q (.ref a)) :=
  fun H s => ⟨a, C, dx, fs, v, rfl, (r.ok s).at, hc, hn, hl, k H s⟩
theorem a_meth {m : Str} {sp : Sp} {dvs : List V} {E : XK} (k : Al L (fun H => ta σ H (MethK C m fun x H1 => t σ H1 fun vs H2 => sp (x :: (vs ++ dvs)) H2 Q E))) : Al L (fun H => tMeth C m sp dvs E ta t σ H Q) := k
theorem a_methK {m : Str} {PV : V → Hp → Prop} (r : Rem L (pt a (.ins C dx fs)) L0) (hl : fs.lookup m = none) (k : Al L (PV (.ref a))) : Al L (MethK C m PV (.ref a)) :=
  fun H s => ⟨a, dx, fs, rfl, (r.ok s).at, hl, k H s⟩
/-- the object as an assertion of one's own -/
theorem a_methA {A : Asn} {m : Str} {PV : V → Hp → Prop} (r : Rem L A L0) (hi : ∀ H, A H → ∃ dx fs, H a = some (.ins C dx fs) ∧ fs.lookup m = none) (k : Al L (PV (.ref a))) : Al L (MethK C m PV (.ref a)) := fun H s => by
  obtain ⟨H1, h1, a1⟩ := (r.ok s).get
  obtain ⟨dx, fs, e, hl⟩ := hi H1 a1
  exact ⟨a, dx, fs, rfl, h1 _ _ e, hl, k H s⟩
theorem a_call {sp : Sp} {dvs : List V} {E : XK} (k : Al L (fun H => t σ H fun vs H1 => sp (vs ++ dvs) H1 Q E)) : Al L (fun H => tCall sp dvs E t σ H Q) := k
def MakeK (C : Addr) (sp : Sp) (dvs : List V) (E : XK) (Q : VK) (vs : List V) : Hp → Prop := fun H1 => ∀ x dx, H1 x = none → H1 dx = none → dx ≠ x →
  sp (.ref x :: (vs ++ dvs)) (upd (upd H1 dx (.own x)) x (.ins C dx [])) (fun v H2 => v = .non ∧ Q (.ref x) H2) E
theorem a_make {sp : Sp} {dvs : List V} {E : XK} (k : Al L (fun H => t σ H (MakeK C sp dvs E Q))) : Al L (fun H => tMake C sp dvs E t σ H Q) := k
theorem a_makeK {sp : Sp} {dvs : List V} {E : XK} (k : ∀ x dx, Al (pt x (.ins C dx []) :: pt dx (.own x) :: L) (fun H => sp (.ref x :: (xs ++ dvs)) H (fun v H2 => v = .non ∧ Q (.ref x) H2) E)) : Al L (MakeK C sp dvs E Q xs) := fun H s x dx hx hdx ne =>
  k x dx _ ((s.new hdx).new (by rw [upd_ne (Ne.symm ne)]; exact hx))
theorem a_nonQ (k : Al L (Q x)) : Al L (fun H2 => V.non = V.non ∧ Q x H2) := fun H s => ⟨rfl, k H s⟩

/-! ### statements -/
theorem a_seq (k : Al L (fun H => ts ⟨tv ⟨nx, rt, bk, ct⟩, rt, bk, ct⟩ σ H)) : Al L (fun H => tSeq ts tv ⟨nx, rt, bk, ct⟩ σ H) := k
theorem a_next (k : Al L (nx σ)) : Al L (fun H => tNext ⟨nx, rt, bk, ct⟩ σ H) := k
theorem a_brk (k : Al L (bk σ)) : Al L (fun H => tBreak ⟨nx, rt, bk, ct⟩ σ H) := k
theorem a_cont (k : Al L (ct σ)) : Al L (fun H => tCont ⟨nx, rt, bk, ct⟩ σ H) := k
theorem a_ret (k : Al L (fun H => te σ H rt)) : Al L (fun H => tRet te ⟨nx, rt, bk, ct⟩ σ H) := k
theorem a_retN (k : Al L (rt .non)) : Al L (fun H => tRetN ⟨nx, rt, bk, ct⟩ σ H) := k
theorem a_drop (k : Al L (fun H => te σ H fun _ H1 => nx σ H1)) : Al L (fun H => tDrop te ⟨nx, rt, bk, ct⟩ σ H) := k
theorem a_asg {g : TG} (k : Al L (fun H => te σ H fun x H1 => g x σ H1 nx)) : Al L (fun H => tAsg te g ⟨nx, rt, bk, ct⟩ σ H) := k
theorem a_ifs (k : Al L (fun H => tt σ H (IfK (ts ⟨nx, rt, bk, ct⟩ σ) (tv ⟨nx, rt, bk, ct⟩ σ)))) : Al L (fun H => tIfS tt ts tv ⟨nx, rt, bk, ct⟩ σ H) := k
theorem a_if {p : Prop} [Decidable p] (h1 : p → Al L P1) (h2 : ¬ p → Al L P2) : Al L (IfK P1 P2 (decide p)) := fun H s => by
  by_cases h : p
  · show if decide p = true then P1 H else P2 H
    rw [decide_eq_true h]; exact h1 h H s
  · show if decide p = true then P1 H else P2 H
    rw [decide_eq_false h]; exact h2 h H s
theorem a_ifn {p : Prop} [Decidable p] (h1 : ¬ p → Al L P1) (h2 : p → Al L P2) : Al L (IfK P1 P2 (!decide p)) := fun H s => by
  by_cases h : p
  · show if (!decide p) = true then P1 H else P2 H
    rw [decide_eq_true h]; exact h2 h H s
  · show if (!decide p) = true then P1 H else P2 H
    rw [decide_eq_false h]; exact h1 h H s
theorem a_ifT (k : Al L P1) : Al L (IfK P1 P2 true) := k
theorem a_ifF (k : Al L P2) : Al L (IfK P1 P2 false) := k
theorem a_ifb (h1 : b = true → Al L P1) (h2 : b = false → Al L P2) : Al L (IfK P1 P2 b) := by
  cases b with
  | true => exact h1 rfl
  | false => exact h2 rfl
theorem a_eqb {b' : Bool} (e : b = b') (k : Al L (QB b')) : Al L (QB b) := by rw [e]; exact k
theorem a_eqv {x' : V} (e : x = x') (k : Al L (Q x')) : Al L (Q x) := by rw [e]; exact k
theorem a_gN {i : Nat} {QS : L2.St → Hp → Prop} (h : SetAt σ i (some v) σ') (k : Al L (QS σ')) : Al L (fun H => gName i v σ H QS) := fun H s => by
  show QS (σ.set i (some v)) H
  rw [h.eq]; exact k H s
theorem a_gT {n : Nat} {u : TGs} {QS : L2.St → Hp → Prop} (h : LdgT L K a xs) (hn : xs.length = n) (k : Al L (fun H => u xs σ H QS)) : Al L (fun H => gTup K n u (.ref a) σ H QS) := fun H s => ⟨a, xs, rfl, h.q H s, hn, k H s⟩
theorem a_gC {g : TG} {u : TGs} {QS : L2.St → Hp → Prop} (k : Al L (fun H => g v σ H fun σ' H' => u xs σ' H' QS)) : Al L (fun H => gCons g u (v :: xs) σ H QS) := fun H s => ⟨v, xs, rfl, k H s⟩
theorem a_g0 {QS : L2.St → Hp → Prop} (k : Al L (QS σ)) : Al L (fun H => gNil [] σ H QS) := fun H s => ⟨rfl, k H s⟩
def ParK (i j : Nat) (D : Ends) (σ : L2.St) : List V → Hp → Prop := fun vs H1 => ∃ v w, vs = [v, w] ∧ D.nx ((σ.set i (some v)).set j (some w)) H1
theorem a_par {i j : Nat} (k : Al L (fun H => t σ H (ParK i j ⟨nx, rt, bk, ct⟩ σ))) : Al L (fun H => tPar i j t ⟨nx, rt, bk, ct⟩ σ H) := k
theorem a_parK {i j : Nat} {w : V} {σ1 : L2.St} (h1 : SetAt σ i (some v) σ1) (h2 : SetAt σ1 j (some w) σ') (k : Al L (nx σ')) : Al L (ParK i j ⟨nx, rt, bk, ct⟩ σ [v, w]) := fun H s => ⟨v, w, rfl, by rw [h1.eq, h2.eq]; exact k H s⟩
theorem a_aug {i : Nat} {ti : TIp} (h : GetAt σ i x) (k : Al L (fun H => te σ H fun y H1 => ti x y H1 fun z H2 => gName i z σ H2 nx)) : Al L (fun H => tAug i te ti ⟨nx, rt, bk, ct⟩ σ H) := fun H s => ⟨x, h.eq, k H s⟩
theorem a_ipI {f : Int → Int → Int} (k : Al L (Q (.int (f i j)))) : Al L (fun H => ipI f (.int i) (.int j) H Q) := fun H s => ⟨i, j, rfl, rfl, k H s⟩
def GSubK (t : TSet) (o v : V) (D : L2.St → Hp → Prop) (σ : L2.St) : VK := fun i H2 => t o i v H2 fun H3 => D σ H3
theorem a_gSub {to ti : TE} {st : TSet} {QS : L2.St → Hp → Prop} (k : Al L (fun H => to σ H fun o H1 => ti σ H1 (GSubK st o v QS σ))) : Al L (fun H => gSub to ti st v σ H QS) := k
theorem a_setL {k j : Int} {n : Nat} {QS : L2.St → Hp → Prop} (r : Rem L (pt p (.lst xs)) L0) (hi : ixN xs.length j = some n) (k : Al (pt p (.lst (xs.set n v)) :: L0) (QS σ)) : Al L (GSubK rSetL (.ref p) v QS σ (.int j)) := fun H s => ⟨p, xs, j, n, rfl, rfl, (r.ok s).at, hi, k _ ((r.ok s).set _ id)⟩
def SFldK (K : PySem.W.Frag) (f : Str) (y : V) (D : Ends) (σ : L2.St) : VK := fun x H2 => ∃ a C dx fs, x = .ref a ∧ H2 a = some (.ins C dx fs) ∧ Cls K C ∧ NoAttr K C f ∧ fs.length < 1000 ∧ D.nx σ (upd H2 a (.ins C dx (putF f y fs)))
theorem a_sfld {f : Str} (k : Al L (fun H => te σ H fun y H1 => ta σ H1 (SFldK K f y ⟨nx, rt, bk, ct⟩ σ))) : Al L (fun H => sFld K ta te f ⟨nx, rt, bk, ct⟩ σ H) := k
theorem a_sfldK {f : Str} {fs' : List (Str × V)} (r : Rem L (pt a (.ins C dx fs)) L0) (hc : Cls K C) (hn : NoAttr K C f) (hz : fs.length < 1000) (hp : putF f y fs = fs') (k : Al (pt a (.ins C dx fs') :: L0) (nx σ)) : Al L (SFldK K f y ⟨nx, rt, bk, ct⟩ σ (.ref a)) :=
  fun H s => ⟨a, C, dx, fs, rfl, (r.ok s).at, hc, hn, hz, k _ (by rw [hp]; exact (r.ok s).set _ id)⟩

/-! ### operators by values -/
theorem a_I {Cd : Int → Int → Prop} {g : Int → Int → V} (hc : Cd i j) (k : Al L (Q (g i j))) : Al L (fun H => rI Cd g (.int i) (.int j) H Q) := fun H s => ⟨i, j, rfl, rfl, hc, k H s⟩
theorem a_I0 {g : Int → Int → V} (k : Al L (Q (g i j))) : Al L (fun H => rI0 g (.int i) (.int j) H Q) := fun H s => ⟨i, j, rfl, rfl, k H s⟩
theorem a_eq (hs : scal x y = true) (k : Al L (Q (.bl (decide (x = y))))) : Al L (fun H => rEq x y H Q) := fun H s => ⟨hs, k H s⟩
theorem a_ne (hs : scal x y = true) (k : Al L (Q (.bl (!decide (x = y))))) : Al L (fun H => rNe x y H Q) := fun H s => ⟨hs, k H s⟩
theorem a_orL {R1 R2 : Hp → Prop} (k : Al L R1) : Al L (fun H => R1 H ∨ R2 H) := fun H s => .inl (k H s)
theorem a_orR {R1 R2 : Hp → Prop} (k : Al L R2) : Al L (fun H => R1 H ∨ R2 H) := fun H s => .inr (k H s)
theorem Ldg.pt (r : Rem L (pt a (.lst xs)) L0) : Ldg L K a xs := ⟨fun H s => SqL.of (r.ok s).at⟩
theorem Ldg.sq (r : Rem L (sq K a xs) L0) : Ldg L K a xs := ⟨fun H s => by
  obtain ⟨H1, h1, q⟩ := (r.ok s).get
  rcases (show SqL K H1 a xs from q) with (q | ⟨o, q⟩) | q
  · exact .inl (.inl (h1 _ _ q))
  · exact .inl (.inr ⟨o, h1 _ _ q⟩)
  · exact .inr q⟩
theorem Ldg.wr (h : ∀ H, SqL K H a xs) : Ldg L K a xs := ⟨fun H _ => h H⟩
theorem LdgT.pt (r : Rem L (pt a (.tup xs)) L0) : LdgT L K a xs := ⟨fun H s => SqT.of (r.ok s).at⟩
theorem LdgT.wr (h : ∀ H, SqT K H a xs) : LdgT L K a xs := ⟨fun H _ => h H⟩
theorem a_ixL (h : Ldg L K a xs) (hv : atI xs i = some v) (k : Al L (Q v)) : Al L (fun H => rIx K (.ref a) (.int i) H Q) := fun H s => .inl ⟨a, xs, i, v, rfl, rfl, h.q H s, hv, k H s⟩
theorem a_ixT (h : LdgT L K a xs) (hv : atI xs i = some v) (k : Al L (Q v)) : Al L (fun H => rIx K (.ref a) (.int i) H Q) := fun H s => .inr (.inl ⟨a, xs, i, v, rfl, rfl, h.q H s, hv, k H s⟩)
theorem a_ixS {z : Str} {c : Nat} (hz : z.length ≤ sizeLine) (hv : atI z.cps.toList i = some c) (k : Al L (Q (.str ⟨#[c]⟩))) : Al L (fun H => rIx K (.str z) (.int i) H Q) := fun H s => .inr (.inr ⟨z, i, c, rfl, rfl, hz, hv, k H s⟩)
theorem a_append (r : Rem L (pt a (.lst xs)) L0) (hz : xs.length < sizeLine) (k : Al (pt a (.lst (xs ++ [y])) :: L0) (Q .non)) : Al L (fun H => rAppend (.ref a) [y] H Q) := fun H s => ⟨a, xs, y, rfl, rfl, (r.ok s).at, hz, k _ ((r.ok s).set _ id)⟩
theorem a_pop (r : Rem L (pt a (.lst xs)) L0) (hy : xs[xs.length - 1]? = some y) (k : Al (pt a (.lst xs.dropLast) :: L0) (Q y)) : Al L (fun H => rPop (.ref a) [] H Q) := fun H s => ⟨a, xs, y, rfl, rfl, (r.ok s).at, hy, k _ ((r.ok s).set _ id)⟩
theorem a_bm {T : String} {r : V → List V → Hp → VK → Prop} (k : Al L (fun H => ta σ H fun x H1 => tyV K T x H1 ∧ t σ H1 fun xs H2 => r x xs H2 Q)) : Al L (fun H => tBM K T r ta t σ H Q) := k
theorem a_tyL (h : Ldg L K a xs) (k : Al L P) : Al L (fun H1 => tyV K "list" (.ref a) H1 ∧ P H1) := fun H s => ⟨.inl ⟨rfl, xs, h.q H s⟩, k H s⟩
theorem a_tyS {z : Str} (k : Al L P) : Al L (fun H1 => tyV K "str" (.str z) H1 ∧ P H1) := fun H s => ⟨rfl, k H s⟩
end

/-! ### loops -/
def Nx (I : L2.St → List Asn → Prop) : L2.St → Hp → Prop := fun σ H => ∃ L, I σ L ∧ Star L H
theorem a_nx {I : L2.St → List Asn → Prop} {σ : L2.St} {L M : List Asn} (h : I σ M) (e : Ent L M) : Al L (Nx I σ) := fun H s => ⟨M, h, e H s⟩
section
variable {L : List Asn} {σ : L2.St} {nx : L2.St → Hp → Prop} {rt : VK} {bk ct : L2.St → Hp → Prop} {g : TG} {tb : TS} {K : PySem.W.Frag} {J : It}
theorem a_for {wi : TI} (k : Al L (fun H => wi σ H fun J H1 => ForW J g tb ⟨nx, rt, bk, ct⟩ σ H1)) : Al L (fun H => tFor wi g tb ⟨nx, rt, bk, ct⟩ σ H) := k
/-- a loop of n turns: I holds ahead of each -/
theorem a_loop (n : Nat) (I : Nat → L2.St → List Asn → Prop) (h0 : Nx (I 0) σ = Nx (I 0) σ) (h0' : ∃ M, I 0 σ M ∧ Ent L M)
    (hgo : ∀ i σ M, i < n → I i σ M → ∀ H, Star M H → J.go i H) (hst : ∀ σ M, I n σ M → ∀ H, Star M H → J.stop n H)
    (hs : ∀ i σ M, i < n → I i σ M → ∀ H, Star M H → ∀ x H', J.yld i H x H' → g x σ H' fun σ2 H2 => tb ⟨Nx (I (i + 1)), rt, nx, Nx (I (i + 1))⟩ σ2 H2)
    (hd : ∀ σ M, I n σ M → Al M (nx σ)) : Al L (ForW J g tb ⟨nx, rt, bk, ct⟩ σ) := by
  intro H s
  obtain ⟨M0, i0, e0⟩ := h0'
  refine ⟨fun i m σ H => m = n - i ∧ i ≤ n ∧ ∃ M, I i σ M ∧ Star M H, ⟨n, by simp, Nat.zero_le _, M0, i0, e0 H s⟩, ?_⟩
  rintro i m σ H ⟨rfl, hi, M, hI, hM⟩
  by_cases hlt : i < n
  · refine .inr ⟨hgo i σ M hlt hI H hM, Nx (I (i + 1)), fun σ' H' ⟨M', a, b⟩ => ⟨n - (i + 1), by omega, rfl, hlt, M', a, b⟩, fun x H' y => hs i σ M hlt hI H hM x H' y⟩
  · have e : i = n := by omega
    subst e
    exact .inl ⟨hst σ M hI H hM, hd σ M hI H hM⟩
theorem a_forR {lo : Int} {n : Nat} (I : Nat → L2.St → List Asn → Prop) (h0 : ∃ M, I 0 σ M ∧ Ent L M)
    (hs : ∀ i σ M, i < n → I i σ M → Al M (fun H => g (.int (lo + i)) σ H fun σ2 H2 => tb ⟨Nx (I (i + 1)), rt, nx, Nx (I (i + 1))⟩ σ2 H2))
    (hd : ∀ σ M, I n σ M → Al M (nx σ)) : Al L (ForW (Itr lo n) g tb ⟨nx, rt, bk, ct⟩ σ) :=
  a_loop n I rfl h0 (fun i _ _ h _ _ _ => h) (fun _ _ _ _ _ => Nat.le_refl n) (fun i σ M h hI H s x H' y => by
    obtain ⟨rfl, rfl⟩ := y
    exact hs i σ M h hI H' s) hd
theorem a_forRC {lo c : Int} {n : Nat} (I : Nat → L2.St → List Asn → Prop) (h0 : ∃ M, I 0 σ M ∧ Ent L M)
    (hs : ∀ i σ M, i < n → I i σ M → Al M (fun H => g (.int (lo + (i : Nat) * c)) σ H fun σ2 H2 => tb ⟨Nx (I (i + 1)), rt, nx, Nx (I (i + 1))⟩ σ2 H2))
    (hd : ∀ σ M, I n σ M → Al M (nx σ)) : Al L (ForW (Itc lo c n) g tb ⟨nx, rt, bk, ct⟩ σ) :=
  a_loop n I rfl h0 (fun i _ _ h _ _ _ => h) (fun _ _ _ _ _ => Nat.le_refl n) (fun i σ M h hI H s x H' y => by
    obtain ⟨rfl, rfl⟩ := y
    exact hs i σ M h hI H' s) hd
theorem a_forL {a : Addr} {xs : List V} (I : Nat → L2.St → List Asn → Prop) (h0 : ∃ M, I 0 σ M ∧ Ent L M) (hl : ∀ i σ M, I i σ M → Ldg M K a xs)
    (hs : ∀ i x σ M, xs[i]? = some x → I i σ M → Al M (fun H => g x σ H fun σ2 H2 => tb ⟨Nx (I (i + 1)), rt, nx, Nx (I (i + 1))⟩ σ2 H2))
    (hd : ∀ σ M, I xs.length σ M → Al M (nx σ)) : Al L (ForW (Itl K a) g tb ⟨nx, rt, bk, ct⟩ σ) :=
  a_loop xs.length I rfl h0 (fun i σ M h hI H s => ⟨xs, xs[i], (hl i σ M hI).q H s, by simp [h]⟩) (fun σ M hI H s => ⟨xs, (hl _ σ M hI).q H s, Nat.le_refl _⟩) (fun i σ M h hI H s x H' y => by
    obtain ⟨rfl, y⟩ := y
    exact hs i x σ M (y xs ((hl i σ M hI).q _ s)) hI H' s) hd
theorem a_forT {a : Addr} {xs : List V} (I : Nat → L2.St → List Asn → Prop) (h0 : ∃ M, I 0 σ M ∧ Ent L M) (hl : ∀ i σ M, I i σ M → LdgT M K a xs)
    (hs : ∀ i x σ M, xs[i]? = some x → I i σ M → Al M (fun H => g x σ H fun σ2 H2 => tb ⟨Nx (I (i + 1)), rt, nx, Nx (I (i + 1))⟩ σ2 H2))
    (hd : ∀ σ M, I xs.length σ M → Al M (nx σ)) : Al L (ForW (Itt K a) g tb ⟨nx, rt, bk, ct⟩ σ) :=
  a_loop xs.length I rfl h0 (fun i σ M h hI H s => ⟨xs, xs[i], (hl i σ M hI).q H s, by simp [h]⟩) (fun σ M hI H s => ⟨xs, (hl _ σ M hI).q H s, Nat.le_refl _⟩) (fun i σ M h hI H s x H' y => by
    obtain ⟨rfl, y⟩ := y
    exact hs i x σ M (y xs ((hl i σ M hI).q _ s)) hI H' s) hd
theorem a_forS {z : Str} (I : Nat → L2.St → List Asn → Prop) (h0 : ∃ M, I 0 σ M ∧ Ent L M)
    (hs : ∀ i c σ M, z.cps[i]? = some c → I i σ M → Al M (fun H => g (.str ⟨#[c]⟩) σ H fun σ2 H2 => tb ⟨Nx (I (i + 1)), rt, nx, Nx (I (i + 1))⟩ σ2 H2))
    (hd : ∀ σ M, I z.cps.size σ M → Al M (nx σ)) : Al L (ForW (Its z) g tb ⟨nx, rt, bk, ct⟩ σ) :=
  a_loop z.cps.size I rfl h0 (fun i _ _ h _ _ _ => h) (fun _ _ _ _ _ => Nat.le_refl _) (fun i σ M h hI H s x H' y => by
    obtain ⟨rfl, c, e, rfl⟩ := y
    exact hs i c σ M e hI H' s) hd
/-- what a for walks -/
theorem a_iR1 {t : TA} {R : It → Hp → Prop} (k : Al L (fun H => t σ H fun vs H1 => ∃ j : Int, vs = [.int j] ∧ -(2 ^ 62) ≤ j ∧ j < 2 ^ 62 ∧ R (Itr 0 j.toNat) H1)) : Al L (fun H => iRng1 t σ H R) := k
theorem a_iR1K {j : Int} {R : It → Hp → Prop} (h1 : -(2 ^ 62) ≤ j) (h2 : j < 2 ^ 62) (k : Al L (R (Itr 0 j.toNat))) : Al L (fun H1 => ∃ i : Int, [V.int j] = [V.int i] ∧ -(2 ^ 62) ≤ i ∧ i < 2 ^ 62 ∧ R (Itr 0 i.toNat) H1) := fun H s => ⟨j, rfl, h1, h2, k H s⟩
theorem a_iL {tl : TE} {R : It → Hp → Prop} (k : Al L (fun H => tl σ H fun x H1 => ∃ a, x = .ref a ∧ (∃ xs, SqL K H1 a xs) ∧ R (Itl K a) H1)) : Al L (fun H => iList K tl σ H R) := k
theorem a_iLK {a : Addr} {xs : List V} {R : It → Hp → Prop} (h : Ldg L K a xs) (k : Al L (R (Itl K a))) : Al L (fun H1 => ∃ b, V.ref a = V.ref b ∧ (∃ xs, SqL K H1 b xs) ∧ R (Itl K b) H1) := fun H s => ⟨a, rfl, ⟨xs, h.q H s⟩, k H s⟩
end
/-! ### while -/
def WhW (I : Nat → L2.St → List Asn → Prop) : Nat → L2.St → Hp → Prop := fun m σ H => ∃ M, I m σ M ∧ Star M H
def WhNx (I : Nat → L2.St → List Asn → Prop) (m : Nat) : L2.St → Hp → Prop := fun σ H => ∃ m', m' < m ∧ ∃ M, I m' σ M ∧ Star M H
def WhK (I : Nat → L2.St → List Asn → Prop) (m : Nat) (tb : TS) (D : Ends) (σ : L2.St) : Bool → Hp → Prop := fun b H1 => if b = true then ∃ N : L2.St → Hp → Prop, (∀ σ' H', N σ' H' → ∃ m', m' < m ∧ WhW I m' σ' H') ∧ tb { D with nx := N, ct := N, bk := D.nx } σ H1 else D.nx σ H1
section
variable {L : List Asn} {σ : L2.St} {nx : L2.St → Hp → Prop} {rt : VK} {bk ct : L2.St → Hp → Prop} {tb : TS} {tc : TT} {I : Nat → L2.St → List Asn → Prop} {m : Nat} {b : Bool}
theorem a_while (I : Nat → L2.St → List Asn → Prop) (h0 : ∃ m M, I m σ M ∧ Ent L M) (hs : ∀ m σ M, I m σ M → Al M (fun H => tc σ H (WhK I m tb ⟨nx, rt, bk, ct⟩ σ))) : Al L (fun H => tWhile tc tb ⟨nx, rt, bk, ct⟩ σ H) := fun H s => by
  obtain ⟨m, M, i, e⟩ := h0
  exact ⟨WhW I, ⟨m, M, i, e H s⟩, fun m σ H ⟨M, i, s⟩ => hs m σ M i H s⟩
theorem a_whT (k : Al L (fun H => tb ⟨WhNx I m, rt, nx, WhNx I m⟩ σ H)) : Al L (WhK I m tb ⟨nx, rt, bk, ct⟩ σ true) := fun H s => ⟨WhNx I m, fun _ _ ⟨m', a, M, b, c⟩ => ⟨m', a, M, b, c⟩, k H s⟩
theorem a_whF (k : Al L (nx σ)) : Al L (WhK I m tb ⟨nx, rt, bk, ct⟩ σ false) := fun H s => k H s
theorem a_wh {p : Prop} [Decidable p] (h1 : p → Al L (fun H => tb ⟨WhNx I m, rt, nx, WhNx I m⟩ σ H)) (h2 : ¬ p → Al L (nx σ)) : Al L (WhK I m tb ⟨nx, rt, bk, ct⟩ σ (decide p)) := by
  by_cases h : p
  · rw [decide_eq_true h]; exact a_whT (h1 h)
  · rw [decide_eq_false h]; exact a_whF (h2 h)
theorem a_whnx {M : List Asn} {m' : Nat} (hm : m' < m) (h : I m' σ M) (e : Ent L M) : Al L (WhNx I m σ) := fun H s => ⟨m', hm, M, h, e H s⟩
end
end AL

/-! Defs that run where nothing of a repr is under way; their promises by ledgers. -/
namespace AL
open PySem PySem.Spec PyProof.Rows L2

/-- room, and no repr under way -/
structure Rm (k : Nat) (A : Around) : Prop where
  r : Room k A
  g : A.guards = some []
theorem Rm.mono {j k : Nat} {A : Around} (r : Rm k A) (h : j ≤ k := by decide) : Rm j A := ⟨r.r.mono h, r.g⟩
structure FnG (P : Program) (w : World) (K : PySem.W.Frag) (mg : Str → Option Value) (base : Heap)
    (k : Nat) (f : Addr) (ps : List Str) (sp : Sp) : Prop where
  len : ∀ vs H Q E, sp vs H Q E → vs.length = ps.length
  keep : PySem.W.keepIn K (.ref f) = true
  run : ∀ (A : Around) (outer : List Env) (s : Shared) (H : Hp) (us : List Value) (vs : List V) (Q : VK) (E : XK),
    Rm k A → Env0 P w K mg base A outer s H → K.In s.heap → Vals vs us → sp vs H Q E →
    codeAny (model P w) A (.call (.ref f) ⟨us, []⟩) (CR (CX P w) outer P w H s Q E) s
theorem FnG.mono {P : Program} {w : World} {K : PySem.W.Frag} {mg : Str → Option Value} {base : Heap} {j k : Nat} {f : Addr} {ps : List Str} {sp : Sp}
    (F : FnG P w K mg base j f ps sp) (h : j ≤ k) : FnG P w K mg base k f ps sp :=
  ⟨F.len, F.keep, fun A o s H us vs Q E r => F.run A o s H us vs Q E (r.mono h)⟩
theorem FnG.imp {P : Program} {w : World} {K : PySem.W.Frag} {mg : Str → Option Value} {base : Heap} {k : Nat} {f : Addr} {ps : List Str} {sp sp' : Sp}
    (F : FnG P w K mg base k f ps sp) (h : ∀ vs H Q E, sp' vs H Q E → sp vs H Q E) : FnG P w K mg base k f ps sp' :=
  ⟨fun vs H Q E q => F.len vs H Q E (h _ _ _ _ q), F.keep, fun A o s H us vs Q E r e x v q => F.run A o s H us vs Q E r e x v (h _ _ _ _ q)⟩

/-- a result that a callee hands on -/
theorem cr_ep {X : Cx} {E : XK} {pins : List (Addr × Obj)} {σ : L2.St} {H : Hp} {s s' : Shared} {Q : VK} {r : Result}
    (hx : Passes (CX X.prog X.w) X E) (I : Inv X pins σ H s) (h : CR (CX X.prog X.w) X.stack X.prog X.w H s Q E r s') :
    (∃ e, r = .error e ∧ X.xe e s') ∨ ∃ u, r = .ok (.ret u) ∧ EP X pins σ Q u s' := by
  cases r with
  | error e => exact .inl ⟨e, rfl, hx pins σ H s e s' I h⟩
  | ok fl => cases fl with
    | ret u => exact .inr ⟨u, rfl, I.after h⟩
    | next => exact False.elim h
    | brk => exact False.elim h
    | cont => exact False.elim h
section
variable {X : Cx} {k : Nat} {f C : Addr} {ps : List Str} {sp : Sp} {E : XK} {x m : Str} {p pos apos : Pos} {e o : Expr} {es : List Expr} {ta : TE} {t : TA}
theorem run_g {pins : List (Addr × Obj)} {σ : L2.St} {H : Hp} {s : Shared} {Q : VK} {us : List Value} {vs : List V}
    (F : FnG X.prog X.w X.K X.mg X.base k f ps sp) (hr : Rm k X.A) (hx : Passes (CX X.prog X.w) X E)
    (I : Inv X pins σ H s) (r : Vals vs us) (h : sp (vs ++ []) H Q E) : wpAny (model X.prog X.w) X.A (call (.ref f) us) (EP X pins σ Q) X.xe s := by
  rw [List.append_nil] at h
  have z := F.run X.A X.stack s H us vs Q E hr I.env0 I.kIn r h
  exact wpAny_call (codeAny_mono z fun r s' q => by
    rcases cr_ep hx I q with ⟨e, rfl, y⟩ | ⟨u, rfl, y⟩ <;> exact y)
theorem ge_call (F : FnG X.prog X.w X.K X.mg X.base k f ps sp) (hr : Rm k X.A) (hg : Gl X x) (hm : X.mg x = some (.ref f))
    (hx : Passes (CX X.prog X.w) X E) (ha : PA X (e :: es) t) (hdb : (x == ("__debug__" : Str)) = false := by decide)
    (he : starEach (e :: es) X.env = (false, eval e X.env) :: starEach es X.env := by rfl)
    (hpl : (backTo pos (starEach es X.env)).any (·.1) = false := by rfl) :
    PE X (.Call (.Name x p) (e :: es) [] pos) (tCall sp [] E t) := ⟨fun pins s σ H Q I h =>
  wpAny_Call_Name_kw (ld_glob I hg hm (PySem.W.callWith_K (h₀ := X.base) I.ok.mod.kin F.keep
    (thn (ha.run pos pins s σ H _ I h) fun us s1 ⟨vs, H1, I1, r, q⟩ => ⟨I1.kIn, run_g F hr hx I1 r q⟩) he hpl) hdb)⟩
theorem ge_call0 (F : FnG X.prog X.w X.K X.mg X.base k f ps sp) (hr : Rm k X.A) (hg : Gl X x) (hm : X.mg x = some (.ref f))
    (hx : Passes (CX X.prog X.w) X E) (hdb : (x == ("__debug__" : Str)) = false := by decide) :
    PE X (.Call (.Name x p) [] [] pos) (tCall sp [] E tNil) := ⟨fun pins s σ H Q I h =>
  wpAny_Call_Name_kw (ld_glob I hg hm (PySem.W.callWith_K0 I.kIn F.keep (run_g (us := []) F hr hx I .nil h)) hdb)⟩
theorem ge_meth {pl : Sem Bool} (he : PE X o ta) (c : Cls X.K C) (hm : Meth X.K C m f) (F : FnG X.prog X.w X.K X.mg X.base k f ps sp)
    (hr : Rm k X.A) (hx : Passes (CX X.prog X.w) X E) (ha : PA X (e :: es) t)
    (hst : starEach (e :: es) X.env = (false, eval e X.env) :: starEach es X.env := by rfl)
    (hpl : (backTo pos (starEach es X.env)).any (·.1) = false := by rfl)
    (ht : eval (.Call (.Attribute o m apos) (e :: es) [] pos) X.env = (do
        let ov ← eval o X.env
        standAt apos.atName
        let (f, first) ← holding [ov] (getMethod ov m pl)
        callWith pos f first (backTo pos (starEach (e :: es) X.env)) (backToKw pos (keywordEach [] X.env))) := by rfl) :
    PE X (.Call (.Attribute o m apos) (e :: es) [] pos) (tMeth C m sp [] E ta t) := ⟨fun pins s σ H Q I h =>
  PySem.W.methodCall_KW (pl := pl) (thn (he.run pins s σ H _ I h) fun u s1 ⟨x, H1, I1, rx, a, dx, fs, ex, ea, l, q⟩ => by
    subst ex
    obtain rfl : u = Value.ref a := rx
    exact getmeth_ok I1 ea c hm l (PySem.W.callWith_K (first := [.ref a]) (h₀ := X.base) I.ok.mod.kin hm.kp
      (thn (ha.run pos pins s1 σ H1 _ I1 q) fun us s2 ⟨vs, H2, I2, r, q2⟩ => ⟨I2.kIn, run_g (us := .ref a :: us) (vs := .ref a :: vs) F hr hx I2 (.cons (show RelV (.ref a) (.ref a) from rfl) r) q2⟩) hst hpl)) ht⟩
theorem ge_meth0 {pl : Sem Bool} (he : PE X o ta) (c : Cls X.K C) (hm : Meth X.K C m f) (F : FnG X.prog X.w X.K X.mg X.base k f ps sp)
    (hr : Rm k X.A) (hx : Passes (CX X.prog X.w) X E)
    (ht : eval (.Call (.Attribute o m apos) [] [] pos) X.env = (do
        let ov ← eval o X.env
        standAt apos.atName
        let (f, first) ← holding [ov] (getMethod ov m pl)
        callWith pos f first (backTo pos (starEach [] X.env)) (backToKw pos (keywordEach [] X.env))) := by rfl) :
    PE X (.Call (.Attribute o m apos) [] [] pos) (tMeth C m sp [] E ta tNil) := ⟨fun pins s σ H Q I h =>
  PySem.W.methodCall_KW (pl := pl) (thn (he.run pins s σ H _ I h) fun u s1 ⟨x, H1, I1, rx, a, dx, fs, ex, ea, l, q⟩ => by
    subst ex
    obtain rfl : u = Value.ref a := rx
    exact getmeth_ok I1 ea c hm l (PySem.W.callWith_K0 (first := [.ref a]) I1.kIn hm.kp (run_g (us := [.ref a]) (vs := [.ref a]) F hr hx I1 (.cons (show RelV (.ref a) (.ref a) from rfl) .nil) q))) ht⟩
theorem run_gm {pins : List (Addr × Obj)} {σ : L2.St} {H : Hp} {s : Shared} {Q : VK} {us : List Value} {vs : List V}
    (M : Mk X.K C f) (F : FnG X.prog X.w X.K X.mg X.base k f ps sp) (hr : Rm (k + 1) X.A) (hx : Passes (CX X.prog X.w) X E)
    (I : Inv X pins σ H s) (r : Vals vs us) (h : MakeK C sp [] E Q vs H) :
    wpAny (model X.prog X.w) X.A (call (.ref C) us) (EP X pins σ Q) X.xe s := by
  have n := s.heap.objs.size
  have I2 := Inv.made (C := C) I
  have q := h (s.heap.objs.size + 1) s.heap.objs.size (I.hok.fresh (Nat.le_succ _)) (I.hok.fresh (Nat.le_refl _)) (Nat.ne_of_lt (Nat.lt_succ_self _))
  rw [List.append_nil] at q
  have gd : (X.A.under (.builtin "type.__call__" ⟨.ref C :: us, []⟩)).guards = some [] := by
    have e1 : (Code.builtin "type.__call__" ⟨.ref C :: us, []⟩).isGuard = false := by
      show guardIds.contains "type.__call__" = false
      decide +kernel
    simp [Around.under, Code.guards, e1, pushGuards, hr.g]
  have z := F.run _ X.stack _ _ (Value.ref (s.heap.objs.size + 1) :: us) (V.ref (s.heap.objs.size + 1) :: vs) _ E
    ⟨hr.r.make C us [], gd⟩ (I2.env0.make C us []) I2.kIn (.cons rfl r) q
  exact wpAny_call (make_map (f := f) I.kIn M.makes M.init (beq_iff_eq.mp M.fn) (codeAny_mono z fun r s' y => by
    rcases cr_ep hx I2 y with ⟨e, er, y2⟩ | ⟨u, er, v, H', I3, rv, ev, q3⟩
    · subst er; exact y2
    · subst er; subst ev
      exact ⟨rv, V.ref (s.heap.objs.size + 1), H', I3, rfl, q3⟩))
theorem ge_make (M : Mk X.K C f) (F : FnG X.prog X.w X.K X.mg X.base k f ps sp) (hr : Rm (k + 1) X.A) (hg : Gl X x) (hm : X.mg x = some (.ref C))
    (hx : Passes (CX X.prog X.w) X E) (ha : PA X (e :: es) t) (hdb : (x == ("__debug__" : Str)) = false := by decide)
    (he : starEach (e :: es) X.env = (false, eval e X.env) :: starEach es X.env := by rfl)
    (hpl : (backTo pos (starEach es X.env)).any (·.1) = false := by rfl) :
    PE X (.Call (.Name x p) (e :: es) [] pos) (tMake C sp [] E t) := ⟨fun pins s σ H Q I h =>
  wpAny_Call_Name_kw (ld_glob I hg hm (PySem.W.callWith_K (h₀ := X.base) I.ok.mod.kin M.kp
    (thn (ha.run pos pins s σ H _ I h) fun us s1 ⟨vs, H1, I1, r, q⟩ => ⟨I1.kIn, run_gm M F hr hx I1 r q⟩) he hpl) hdb)⟩
theorem ge_make0 (M : Mk X.K C f) (F : FnG X.prog X.w X.K X.mg X.base k f ps sp) (hr : Rm (k + 1) X.A) (hg : Gl X x) (hm : X.mg x = some (.ref C))
    (hx : Passes (CX X.prog X.w) X E) (hdb : (x == ("__debug__" : Str)) = false := by decide) :
    PE X (.Call (.Name x p) [] [] pos) (tMake C sp [] E tNil) := ⟨fun pins s σ H Q I h =>
  wpAny_Call_Name_kw (ld_glob I hg hm (PySem.W.callWith_K0 I.kIn M.kp (run_gm (us := []) M F hr hx I .nil h)) hdb)⟩
/-- nothing is raised -/
theorem px0 : Passes (CX X.prog X.w) X E0 := fun _ _ _ _ _ _ _ ⟨_, _, _, _, _, _, _, _, _, _, _, _, h⟩ => h.elim
end

/-! ### a def's promise by its body -/
section
variable {P : Program} {w : World} {K : PySem.W.Frag} {mg : Str → Option Value} {base : Heap} {x qual : Str} {params : Arguments} {body : List Stmt} {scope : Scope} {f : Addr} {N ps : List Str} {k : Nat} {sp : Sp}
theorem fn_g {fd : FuncData} (F : FunD K x qual params body scope [] [] f fd) (S : FnScope N ps scope) (len : ∀ vs H Q E, sp vs H Q E → vs.length = ps.length)
    (hb : ∀ (kV doc pm : Value) (an : Option Addr) (cdv ct : Value) (us : List Value), us.length = ps.length →
      bindArgs (PySem.W.fnOf x qual params body scope .none kV doc pm an cdv ct) ⟨us, []⟩ = pure (ps.zip us))
    (hbody : ∀ (cdv : Value) (A : Around) (outer : List Env) (s : Shared) (H : Hp) (vs : List V) (Q : VK) (E : XK),
      Rm k (A.deeper (envOfC qual scope s.heap.objs.size f cdv)) → sp vs H Q E →
      ∃ t, PSs (cxOf (CX P w) P w K mg base N qual scope f cdv A outer s H E) body t ∧ t { nx := fun _ H' => Q .non H', rt := Q } (start N vs) H) :
    FnG P w K mg base (k + 1) f ps sp := by
  have bb := FunD.bindsA F hb
  obtain ⟨oc, od, dV, kV, doc, pm, an, cdv, ct, osl, rfl, lk, hcd, _, _⟩ := F.ex
  refine ⟨len, F.kp, fun A outer s H us vs Q E hr e0 KX r hsp => ?_⟩
  have hl := len _ _ _ _ hsp
  have lim : s.heap.NoLimit := e0.mod.nolimit.keeps fun b o e => (e0.bs b o e).1
  have kinds : ∀ y ∈ ps.zip us, scope.names.lookup y.1 = some .local ∨
      (scope.names.lookup y.1 = some .cell ∧ ((cellsFrom (s.heap.objs.size + 1) scope.names []).lookup y.1).isSome = true) := fun ⟨n, v⟩ hy =>
    (S.par n (List.of_mem_zip hy).1).imp id fun q => ⟨q, PySem.W.cellsFrom_some _ _ _ (.inl q)⟩
  refine codeAny_call_function hr.r.depth (KX _ _ lk) rfl S.co S.gen rfl (PySem.W.codeRec_of KX hcd) (bb s us (by rw [← r.length]; exact hl) _ _ _ _ ?_)
  refine wpAny_newFunctionEnv_cells S.kind kinds fun env he s1 z => ?_
  subst he
  refine ⟨lim.keeps z.toInCall.keep, codeAny_func ?_⟩
  obtain ⟨t, ht, hq⟩ := hbody cdv A outer s H vs Q E ⟨hr.r.deeper _, hr.g⟩ hsp
  have I := inv_start (CX := CX P w) (E := E) (N := N) (qual := qual) (f := f) (cd := cdv) S hr.r.hd e0 hl r z
  exact wpAny_mono (ht.run [] s1 (start N vs) H _ I hq) (fun fl s' hs => by
    cases fl with
    | ret u => exact let ⟨v, _, H', J, rv, q⟩ := hs; ⟨v, H', J.os, J.bare, J.base, J.hok, rv, q⟩
    | next => exact let ⟨_, H', J, q⟩ := hs; ⟨V.non, H', J.os, J.bare, J.base, J.hok, rfl, q⟩
    | brk => exact let ⟨_, _, _, q⟩ := hs; False.elim q
    | cont => exact let ⟨_, _, _, q⟩ := hs; False.elim q) fun _ _ hs => hs
end

/-! ### promises by ledgers -/
structure Tri where
  G : Type
  O : Type
  args : G → List V
  cond : G → Prop := fun _ => True
  pre : G → List Asn := fun _ => []
  ok : G → O → Prop := fun _ _ => True
  res : G → O → V
  post : G → O → List Asn := fun _ _ => []
  exc : G → Value → Option Addr → List Asn → Prop := fun _ _ _ _ => False
def Tri.sp (S : Tri) : Sp := fun vs H Q E => ∃ (g : S.G) (R : Asn), vs = S.args g ∧ S.cond g ∧ Star (S.pre g ++ [R]) H ∧
  (∀ o, S.ok g o → Al (S.post g o ++ [R]) (Q (S.res g o))) ∧ ∀ c d M, S.exc g c d M → Al (M ++ [R]) (E c d)
theorem Ent.wrap {M R : List Asn} : Ent (M ++ R) (M ++ [Star R]) := by
  induction M with
  | nil => intro H h; exact Star.join (M := R) (L := []) (by rw [List.append_nil]; exact h)
  | cons A M ih => intro H h; exact Star.tail h fun _ t => ih _ t
theorem Ent.unwrap {M R : List Asn} : Ent (M ++ [Star R]) (M ++ R) := by
  induction M with
  | nil =>
    intro H h
    have z := Star.split (M := R) (L := []) h
    rw [List.append_nil] at z
    exact z
  | cons A M ih => intro H h; exact Star.tail h fun _ t => ih _ t
/-- a call by its promise -/
theorem Tri.use (S : Tri) {L R : List Asn} {vs : List V} {Q : VK} {E : XK} (g : S.G) (hv : vs = S.args g) (hc : S.cond g) (s : Sub L (S.pre g) R)
    (k : ∀ o, S.ok g o → Al (S.post g o ++ R) (Q (S.res g o))) (kx : ∀ c d M, S.exc g c d M → Al (M ++ R) (E c d) := by intro _ _ _ h; exact h.elim) :
    Al L (fun H => S.sp vs H Q E) := fun H h =>
  ⟨g, Star R, hv, hc, Ent.wrap _ (s.ok h), fun o ho => (k o ho).ent Ent.unwrap, fun c d M hm => (kx c d M hm).ent Ent.unwrap⟩
section
variable {P : Program} {w : World} {K : PySem.W.Frag} {mg : Str → Option Value} {base : Heap} {f : Addr} {N ps : List Str} {k : Nat}
/-- what a body's proof is handed: the place (no repr under way), the ghost, the frame, the ends -/
theorem Tri.fn (S : Tri) {x qual : Str} {params : Arguments} {body : List Stmt} {scope : Scope} (F : ∃ fd, FunD K x qual params body scope [] [] f fd) (sc : FnScope N ps scope) (len : ∀ g, (S.args g).length = ps.length)
    (hb : ∀ (kV doc pm : Value) (an : Option Addr) (cdv ct : Value) (us : List Value), us.length = ps.length →
      bindArgs (PySem.W.fnOf x qual params body scope .none kV doc pm an cdv ct) ⟨us, []⟩ = pure (ps.zip us))
    (hbody : ∀ (cdv : Value) (A : Around) (outer : List Env) (s : Shared) (H : Hp) (E : XK) (Q : VK) (g : S.G) (R : Asn),
      Rm k (A.deeper (envOfC qual scope s.heap.objs.size f cdv)) → S.cond g → (∀ o, S.ok g o → Al (S.post g o ++ [R]) (Q (S.res g o))) → (∀ c d M, S.exc g c d M → Al (M ++ [R]) (E c d)) →
      ∃ t, PSs (cxOf (CX P w) P w K mg base N qual scope f cdv A outer s H E) body t ∧ Al (S.pre g ++ [R]) (fun H => t { nx := fun _ H' => Q .non H', rt := Q } (start N (S.args g)) H)) :
    FnG P w K mg base (k + 1) f ps S.sp := by
  obtain ⟨fd, F⟩ := F
  refine fn_g F sc (fun vs H Q E ⟨g, _, e, _⟩ => by rw [e]; exact len g) hb fun cdv A outer s H vs Q E hr ⟨g, R, e, c, st, k, kx⟩ => ?_
  subst e
  obtain ⟨t, h1, h2⟩ := hbody cdv A outer s H E Q g R hr c k kx
  exact ⟨t, h1, h2 H st⟩
end
/-- the end of a body -/
theorem a_end {L M R : List Asn} {Q : Hp → Prop} (s : Sub L M R) (k : Al M Q) : Al L Q := k.ent (Ent.of s)
end AL

/-! Rules by values that serve several kinds at once, and their steps over a ledger. -/
namespace AL
open PySem PySem.Spec PyProof.Rows L2

/-! ### rules -/
theorem Rm.u1 {k : Nat} {A : Around} (r : Rm k A) : A.units + 1 < cLine := by have := r.r.un; omega
theorem Rm.u64 {k : Nat} {A : Around} (r : Rm k A) : A.units + 64 < cLine := by have := r.r.un; omega
theorem Rm.u65 {k : Nat} {A : Around} (r : Rm k A) : A.units + 65 < cLine := by have := r.r.un; omega
section
variable {X : Cx}
theorem ge_int {x : Str} {i : Int} {pos : Pos} (hg : Gl X x) (h : ∃ t, X.mg x = some (.int i t)) (hd : (x == ("__debug__" : Str)) = false := by decide) : PE X (.Name x pos) (tC (.int i)) :=
  let ⟨t, e⟩ := h
  pe_glob hg e ⟨t, rfl⟩ hd
theorem ge_str {x z : Str} {pos : Pos} (hg : Gl X x) (h : ∃ t, X.mg x = some (.str z t)) (hd : (x == ("__debug__" : Str)) = false := by decide) : PE X (.Name x pos) (tC (.str z)) :=
  let ⟨t, e⟩ := h
  pe_glob hg e ⟨t, rfl⟩ hd
def kAbs : List V → Hp → VK → Prop := fun xs H Q => ∃ i, xs = [.int i] ∧ Q (.int (if i < 0 then -i else i)) H
theorem k_abs : CallR X (.builtin "abs") kAbs := call_abs
def kMin : List V → Hp → VK → Prop := fun xs H Q => ∃ i j, xs = [.int i, .int j] ∧ Q (.int (if j < i then j else i)) H
theorem k_min (hc : X.calm = true) : CallR X (.builtin "min") kMin := call_min2 hc
def kMax : List V → Hp → VK → Prop := fun xs H Q => ∃ i j, xs = [.int i, .int j] ∧ Q (.int (if j > i then j else i)) H
theorem k_max (hc : X.calm = true) : CallR X (.builtin "max") kMax := call_max2 hc
def kDivmod : List V → Hp → VK → Prop := fun xs H Q => ∃ i j, xs = [.int i, .int j] ∧ CDiv i j ∧ NewK (.tup [.int (i / j), .int (i % j)]) Q H
theorem k_divmod : CallR X (.builtin "divmod") kDivmod := call_divmod
def kOrd : List V → Hp → VK → Prop := fun xs H Q => ∃ x, xs = [.str x] ∧ x.length = 1 ∧ Q (.int (x.cps.getD 0 0 : Nat)) H
theorem k_ord : CallR X (.builtin "ord") kOrd := call_ord
def mJoin (K : PySem.W.Frag) : V → List V → Hp → VK → Prop := fun x xs H Q => ∃ a p, ∃ ys : List Str, x = .str a ∧ xs = [.ref p] ∧ (SqL K H p (ys.map V.str) ∨ SqT K H p (ys.map V.str)) ∧ (ys.map (·.length)).sum + ys.length * a.length ≤ 16777216 ∧ Q (.str (Txt.join a ys)) H
theorem m_join : MtR X "str.join" (mJoin X.K) := mt_join
def mSIndex : V → List V → Hp → VK → Prop := fun x xs H Q => ∃ a b i rest, x = .str a ∧ xs = [.str b] ∧ Builtin.Str.occurrences a b 0 a.length 1 = i :: rest ∧ Q (.int (i : Nat)) H
theorem m_sindex : MtR X "str.index" mSIndex := mt_sindex
def kInt : List V → Hp → VK → Prop := fun xs H Q => ((∃ i, xs = [.int i] ∧ Q (.int i) H) ∨ ∃ k, xs = [.bl k] ∧ Q (.int (if k then 1 else 0)) H) ∨ ∃ a n, xs = [.str a] ∧ PySem.intText? a = some n ∧ a.length ≤ 640 ∧ Q (.int n) H
theorem k_int : CallR X (.type "int") kInt := call_int1.or call_int_str
def kStr : List V → Hp → VK → Prop := fun xs H Q => (∃ i, xs = [.int i] ∧ i.natAbs.log2 < 1920 ∧ Q (.str (toString i)) H) ∨ ∃ a, xs = [.str a] ∧ Q (.str a) H
theorem k_str : CallR X (.type "str") kStr := call_str_int.or SkE.call_str_str
def kList (K : PySem.W.Frag) : List V → Hp → VK → Prop := fun xs H Q => (∃ p ys, xs = [.ref p] ∧ (SqL K H p ys ∨ SqT K H p ys) ∧ NewK (.lst ys) Q H) ∨ ∃ (a : Addr) (kvs : List (Key × V)), xs = [.ref a] ∧ Rd H a (.dK kvs) ∧ NewK (.lst (kvs.map fun kv => kV kv.1)) Q H
theorem k_list (hc : X.calm = true) : CallR X (.type "list") (kList X.K) := call_list_of.or (call_listD hc)
abbrev SAdd : R2 := fun x y H Q => ∃ i j, x = .str i ∧ y = .str j ∧ i.length + j.length ≤ sizeLine ∧ Q (.str (i ++ j)) H
def bAdd (K : PySem.W.Frag) : R2 := fun x y H Q => rI0 (fun i j => .int (i + j)) x y H Q ∨ SAdd x y H Q ∨ rCat x y H Q ∨ rCatA K x y H Q
theorem o_add : OpR X (binaryOp .Add) (bAdd X.K) := op_add.or (op_add_str.or (op_cat.or op_catA))
def bSub : R2 := rI0 fun i j => .int (i - j)
theorem o_sub : OpR X (binaryOp .Sub) bSub := op_sub
def bMul : R2 := fun x y H Q => rI CMul (fun i j => .int (i * j)) x y H Q ∨ rRep x y H Q
theorem o_mul : OpR X (binaryOp .Mult) bMul := op_mul.or op_rep
def bDiv : R2 := rI CDivW fun i j => .int (i / j)
theorem o_fdiv : OpR X (binaryOp .FloorDiv) bDiv := op_fdivW
def bMod : R2 := rI (fun _ j => 0 < j) fun i j => .int (i % j)
theorem o_mod : OpR X (binaryOp .Mod) bMod := op_mod
def bPow : R2 := rI CPow fun i j => .int (i ^ j.toNat)
theorem o_pow : OpR X (binaryOp .Pow) bPow := op_pow
def bShl : R2 := rI CPow fun i j => .int (i * 2 ^ j.toNat)
theorem o_shl : OpR X (binaryOp .LShift) bShl := op_shl
def bShr : R2 := rI (fun _ j => 0 ≤ j) fun i j => .int (i / 2 ^ j.toNat)
theorem o_shr : OpR X (binaryOp .RShift) bShr := op_shr
def iAdd : TIp := fun x y H Q => rI0 (fun i j => .int (i + j)) x y H Q ∨ SAdd x y H Q
theorem p_add : PIp X .Add iAdd := iop_add.or iop_add_str
def iSub : TIp := rI0 fun i j => .int (i - j)
theorem p_sub : PIp X .Sub iSub := iop_sub
def iDiv : TIp := rI CDivW fun i j => .int (i / j)
theorem p_fdiv : PIp X .FloorDiv iDiv := iop_fdivW
abbrev SLt : R2 := fun x y H Q => ∃ i j, x = .str i ∧ y = .str j ∧ Q (.bl (decide (i.cps.toList < j.cps.toList))) H
abbrev SLe : R2 := fun x y H Q => ∃ i j, x = .str i ∧ y = .str j ∧ Q (.bl (!decide (j.cps.toList < i.cps.toList))) H
def cLt : R2 := fun x y H Q => rI0 (fun i j => .bl (decide (i < j))) x y H Q ∨ SLt x y H Q
theorem o_lt : OpR X (compareOp .Lt) cLt := op_lt.or op_lt_str
def cLe : R2 := fun x y H Q => rI0 (fun i j => .bl (decide (i ≤ j))) x y H Q ∨ SLe x y H Q
theorem o_le : OpR X (compareOp .LtE) cLe := op_le.or op_le_str
def cGt : R2 := rI0 fun i j => .bl (decide (j < i))
theorem o_gt : OpR X (compareOp .Gt) cGt := op_gt
def cGe : R2 := rI0 fun i j => .bl (decide (j ≤ i))
theorem o_ge : OpR X (compareOp .GtE) cGe := op_ge
def cEq (K : PySem.W.Frag) : R2 := fun x y H Q => rEq x y H Q ∨ rEqD K x y H Q
theorem o_eq (hu : X.A.units + 64 < cLine) : OpR X (compareOp .Eq) (cEq X.K) := op_eq.or (op_eqD hu)
def cNe (K : PySem.W.Frag) : R2 := fun x y H Q => rNe x y H Q ∨ rNeD K x y H Q
theorem o_ne (hu : X.A.units + 64 < cLine) : OpR X (compareOp .NotEq) (cNe X.K) := op_ne.or (op_neD hu)
/-- y in d -/
def rDIn : R2 := fun y x H Q => ∃ a o, x = .ref a ∧ DGet H a y o ∧ Q (.bl o.isSome) H
def rDNotIn : R2 := fun y x H Q => ∃ a o, x = .ref a ∧ DGet H a y o ∧ Q (.bl (!o.isSome)) H
theorem op_din (hu : X.A.units + 1 < cLine) : OpR X (compareOp .In) rDIn := by
  intro pins s σ H y x u v Q I ry rx ⟨a, o, e, g, q⟩
  subst e
  cases (show v = Value.ref a from rx)
  exact d_in hu I g ry fun s3 I3 => ⟨.bl o.isSome, H, I3, rfl, q⟩
theorem op_dnotin (hu : X.A.units + 1 < cLine) : OpR X (compareOp .NotIn) rDNotIn := by
  intro pins s σ H y x u v Q I ry rx ⟨a, o, e, g, q⟩
  subst e
  cases (show v = Value.ref a from rx)
  exact d_notIn hu I g ry fun s3 I3 => ⟨.bl (!o.isSome), H, I3, rfl, q⟩
abbrev SIn : R2 := fun x y H Q => ∃ (c : Nat) (z : Str), x = .str ⟨#[c]⟩ ∧ y = .str z ∧ Q (.bl (decide (c ∈ z.cps.toList))) H
abbrev SNotIn : R2 := fun x y H Q => ∃ (c : Nat) (z : Str), x = .str ⟨#[c]⟩ ∧ y = .str z ∧ Q (.bl (!decide (c ∈ z.cps.toList))) H
def cIn (K : PySem.W.Frag) : R2 := fun x y H Q => rDIn x y H Q ∨ rIn K false x y H Q ∨ SIn x y H Q ∨ rInD K x y H Q
theorem o_in (hu : X.A.units + 65 < cLine) : OpR X (compareOp .In) (cIn X.K) := (op_din (by omega)).or (op_in_seq.or (op_in_sign.or (op_inD hu)))
def cNotIn (K : PySem.W.Frag) : R2 := fun x y H Q => rDNotIn x y H Q ∨ rIn K true x y H Q ∨ SNotIn x y H Q ∨ rNotInD K x y H Q
theorem o_notin (hu : X.A.units + 65 < cLine) : OpR X (compareOp .NotIn) (cNotIn X.K) := (op_dnotin (by omega)).or (op_notIn_seq.or (op_notIn_sign.or (op_notInD hu)))
abbrev NIs : R2 := fun x y H Q => y = .non ∧ Q (.bl (decide (x = .non))) H
abbrev NNot : R2 := fun x y H Q => y = .non ∧ Q (.bl (!decide (x = .non))) H
def cIs : R2 := fun x y H Q => NIs x y H Q ∨ rIsB x y H Q
theorem o_is : OpR X (compareOp .Is) cIs := op_isN.or op_isBl
def cNot : R2 := fun x y H Q => NNot x y H Q ∨ rNotB x y H Q
theorem o_isnot : OpR X (compareOp .IsNot) cNot := op_notN.or op_notBl
/-- d[y] -/
def rIxDd : R2 := fun x y H Q => ∃ a v, x = .ref a ∧ DGet H a y (some v) ∧ Q v H
theorem ix_dd (hu : X.A.units + 1 < cLine) : IxR X rIxDd := by
  intro value slice pins s σ H x y v u Q I rx ry ⟨a, r, e, g, q⟩ hs
  subst e
  cases (show v = Value.ref a from rx)
  exact tail_any (dict_typeIs I g) PySem.F.slot_dict_getitem.lookup (d_getItem hu I g ry fun w' s' I' rw' => ⟨r, H, I', rw', q⟩) hs
def xIx (K : PySem.W.Frag) : R2 := fun x y H Q => rIx K x y H Q ∨ rIxDd x y H Q
theorem o_ix (hu : X.A.units + 1 < cLine) : IxR X (xIx X.K) := ix_seq.or (ix_dd hu)
def sIx (K : PySem.W.Frag) : V → Option Int → Option Int → Hp → VK → Prop := fun x lo hi H Q => rSlL K x lo hi H Q ∨ rSlS x lo hi H Q ∨ rSlA K x lo hi H Q
theorem o_sl : SlR X (sIx X.K) := sl_list.or (sl_str.or sl_tupA)
/-- o[i] = v -/
def sSet : TSet := fun o i v H Q => rSetL o i v H Q ∨ rSetD o i v H Q
theorem o_set (hu : X.A.units + 1 < cLine) : PSet X sSet := fun pins s σ H o i v ov iv u Q I a b c h => h.elim (set_list pins s σ H o i v ov iv u Q I a b c) (set_dict hu pins s σ H o i v ov iv u Q I a b c)
/-- calls of what is built in -/
abbrev rLenDd : List V → Hp → VK → Prop := fun xs H Q => ∃ a kvs, xs = [V.ref a] ∧ H a = some (.dK kvs) ∧ Q (.int kvs.length) H
def kLen (K : PySem.W.Frag) : List V → Hp → VK → Prop := fun xs H Q => (∃ x n, xs = [x] ∧ LenV K x H n ∧ Q (.int n) H) ∨ rLenDd xs H Q
theorem k_len : CallR X (.builtin "len") (kLen X.K) := call_len.or call_lenD
/-- repr of data -/
def kRepr (K : PySem.W.Frag) : List V → Hp → VK → Prop := fun xs H Q => ∃ x d, xs = [x] ∧ Dp K H x d ∧ d.showable = true ∧ d.hasDict = false ∧ d.depth ≤ 40 ∧ d.shown.length ≤ sizeLine ∧ Q (.str d.shown) H
theorem k_repr (hg : X.A.guards = some []) (hu : X.A.units + 64 < cLine) : CallR X (.builtin "repr") (kRepr X.K) := by
  intro pins s σ H xs us Q I r ⟨x, d, e, dp, hs, hd, hb, hz, q⟩
  subst e
  obtain ⟨u, eu, ru⟩ := vals1 r
  subst eu
  have fin : ∀ (h' : Heap) (t tk : Tok), (∀ b o, s.heap.get? b = some o → h'.get? b = some o) → EP X pins σ Q (.str d.shown t) { s with heap := h', toks := tk } :=
    fun h' t tk kp => ⟨.str d.shown, H, I.kept kp, ⟨t, rfl⟩, q⟩
  obtain ⟨as, rd⟩ := Dp.reads I d x u dp ru
  cases dp with
  | non => cases ru; exact PySem.P.repr_of_none (fin s.heap _ _ fun _ _ e => e)
  | bl b => cases ru; exact PySem.P.repr_of_bool (fin s.heap _ _ fun _ _ e => e)
  | int i => obtain ⟨t, rfl⟩ := ru; exact PySem.P.repr_of_int (by simpa [PyData.showable] using hs) (fin s.heap _ _ fun _ _ e => e)
  | str z => obtain ⟨t, rfl⟩ := ru; exact PySem.P.repr_of_str (fin s.heap _ _ fun _ _ e => e) hz
  | lst h1 h2 => cases ru; exact repr_of_reads' rd hs (PyData.noDict_hsm hd) hg (by omega) (fun _ _ e => e) fin hz
  | tup h1 h2 => cases ru; exact repr_of_reads' rd hs (PyData.noDict_hsm hd) hg (by omega) (fun _ _ e => e) fin hz
end
theorem bit_nonneg (b : Bool) : (0 : Int) ≤ if b = true then 1 else 0 := by cases b <;> decide
theorem cmul_bit {i : Int} {b : Bool} : CMul i (if b = true then 1 else 0) := by
  cases b
  · exact .inr ⟨by decide, by decide⟩
  · exact .inr ⟨by decide, by decide⟩
/-! ### steps over a ledger -/
section
variable {L L0 R : List Asn} {σ σ' : L2.St} {Q : VK} {D : Ends} {K : PySem.W.Frag} {te ta tb : TE} {t : TA} {v x y : V} {i j : Int} {n : Nat} {b : Bool} {P : Hp → Prop} {a p q : Addr} {xs ys : List V} {z w : Str}
theorem a_add_ii (k : Al L (Q (.int (i + j)))) : Al L (fun H => bAdd K (.int i) (.int j) H Q) := fun H s => .inl ⟨i, j, rfl, rfl, k H s⟩
theorem a_add_ss (hz : z.length + w.length ≤ sizeLine) (k : Al L (Q (.str (z ++ w)))) : Al L (fun H => bAdd K (.str z) (.str w) H Q) := fun H s => .inr (.inl ⟨z, w, rfl, rfl, hz, k H s⟩)
theorem a_add_ll {L1 : List Asn} (r : Rem L (pt p (.lst xs)) L0) (r' : Rem L (pt q (.lst ys)) L1) (hz : xs.length + ys.length ≤ sizeLine) (k : ∀ c, Al (pt c (.lst (xs ++ ys)) :: L) (Q (.ref c))) : Al L (fun H => bAdd K (.ref p) (.ref q) H Q) :=
  fun H s => .inr (.inr (.inl ⟨p, q, xs, ys, rfl, rfl, (r.ok s).at, (r'.ok s).at, hz, fun c hc => k c _ (s.new hc)⟩))
theorem a_add_tt (h : LdgT L K p xs) (h' : LdgT L K q ys) (hz : xs.length + ys.length ≤ sizeLine) (hx : xs ≠ []) (hy : ys ≠ []) (k : ∀ c, Al (pt c (.tup (xs ++ ys)) :: L) (Q (.ref c))) : Al L (fun H => bAdd K (.ref p) (.ref q) H Q) :=
  fun H s => .inr (.inr (.inr ⟨p, q, xs, ys, rfl, rfl, h.q H s, h'.q H s, hz, fun e => absurd e hx, fun _ e => absurd e hy, fun _ _ c hc => k c _ (s.new hc)⟩))
theorem a_sub (k : Al L (Q (.int (i - j)))) : Al L (fun H => bSub (.int i) (.int j) H Q) := a_I0 k
theorem a_mul (hc : CMul i j) (k : Al L (Q (.int (i * j)))) : Al L (fun H => bMul (.int i) (.int j) H Q) := fun H s => .inl ⟨i, j, rfl, rfl, hc, k H s⟩
theorem a_rep (r : Rem L (pt p (.lst xs)) L0) (h1 : -(2 ^ 63) ≤ j) (h2 : j < 2 ^ 63) (hz : xs.length * j.toNat ≤ sizeLine) (k : ∀ c, Al (pt c (.lst (List.replicate j.toNat xs).flatten) :: L) (Q (.ref c))) : Al L (fun H => bMul (.ref p) (.int j) H Q) :=
  fun H s => .inr ⟨p, j, xs, rfl, rfl, (r.ok s).at, h1, h2, hz, fun c hc => k c _ (s.new hc)⟩
theorem a_fdiv (hc : CDivW i j) (k : Al L (Q (.int (i / j)))) : Al L (fun H => bDiv (.int i) (.int j) H Q) := a_I hc k
theorem a_mod (hc : 0 < j) (k : Al L (Q (.int (i % j)))) : Al L (fun H => bMod (.int i) (.int j) H Q) := a_I (Cd := fun _ j => 0 < j) hc k
theorem a_pow (hc : CPow i j) (k : Al L (Q (.int (i ^ j.toNat)))) : Al L (fun H => bPow (.int i) (.int j) H Q) := a_I hc k
theorem a_shl (hc : CPow i j) (k : Al L (Q (.int (i * 2 ^ j.toNat)))) : Al L (fun H => bShl (.int i) (.int j) H Q) := a_I hc k
theorem a_shr (hc : 0 ≤ j) (k : Al L (Q (.int (i / 2 ^ j.toNat)))) : Al L (fun H => bShr (.int i) (.int j) H Q) := a_I (Cd := fun _ j => 0 ≤ j) hc k
theorem a_iadd (k : Al L (Q (.int (i + j)))) : Al L (fun H => iAdd (.int i) (.int j) H Q) := fun H s => .inl ⟨i, j, rfl, rfl, k H s⟩
theorem a_iadds (hz : z.length + w.length ≤ sizeLine) (k : Al L (Q (.str (z ++ w)))) : Al L (fun H => iAdd (.str z) (.str w) H Q) := fun H s => .inr ⟨z, w, rfl, rfl, hz, k H s⟩
theorem a_isub (k : Al L (Q (.int (i - j)))) : Al L (fun H => iSub (.int i) (.int j) H Q) := fun H s => ⟨i, j, rfl, rfl, k H s⟩
theorem a_idiv (hc : CDivW i j) (k : Al L (Q (.int (i / j)))) : Al L (fun H => iDiv (.int i) (.int j) H Q) := fun H s => ⟨i, j, rfl, rfl, hc, k H s⟩
theorem a_lt (k : Al L (Q (.bl (decide (i < j))))) : Al L (fun H => cLt (.int i) (.int j) H Q) := fun H s => .inl ⟨i, j, rfl, rfl, k H s⟩
theorem a_lts (k : Al L (Q (.bl (decide (z.cps.toList < w.cps.toList))))) : Al L (fun H => cLt (.str z) (.str w) H Q) := fun H s => .inr ⟨z, w, rfl, rfl, k H s⟩
theorem a_le (k : Al L (Q (.bl (decide (i ≤ j))))) : Al L (fun H => cLe (.int i) (.int j) H Q) := fun H s => .inl ⟨i, j, rfl, rfl, k H s⟩
theorem a_les (k : Al L (Q (.bl (!decide (w.cps.toList < z.cps.toList))))) : Al L (fun H => cLe (.str z) (.str w) H Q) := fun H s => .inr ⟨z, w, rfl, rfl, k H s⟩
theorem a_gt (k : Al L (Q (.bl (decide (j < i))))) : Al L (fun H => cGt (.int i) (.int j) H Q) := a_I0 k
theorem a_ge (k : Al L (Q (.bl (decide (j ≤ i))))) : Al L (fun H => cGe (.int i) (.int j) H Q) := a_I0 k
theorem a_ceq (hs : scal x y = true) (k : Al L (Q (.bl (decide (x = y))))) : Al L (fun H => cEq K x y H Q) := fun H s => .inl ⟨hs, k H s⟩
theorem a_cne (hs : scal x y = true) (k : Al L (Q (.bl (!decide (x = y))))) : Al L (fun H => cNe K x y H Q) := fun H s => .inl ⟨hs, k H s⟩
theorem a_isN (k : Al L (Q (.bl (decide (x = .non))))) : Al L (fun H => cIs x .non H Q) := fun H s => .inl ⟨rfl, k H s⟩
theorem a_notN (k : Al L (Q (.bl (!decide (x = .non))))) : Al L (fun H => cNot x .non H Q) := fun H s => .inl ⟨rfl, k H s⟩
theorem a_inC {c : Nat} (k : Al L (Q (.bl (decide (c ∈ z.cps.toList))))) : Al L (fun H => cIn K (.str ⟨#[c]⟩) (.str z) H Q) := fun H s => .inr (.inr (.inl ⟨c, z, rfl, rfl, k H s⟩))
theorem a_notinC {c : Nat} (k : Al L (Q (.bl (!decide (c ∈ z.cps.toList))))) : Al L (fun H => cNotIn K (.str ⟨#[c]⟩) (.str z) H Q) := fun H s => .inr (.inr (.inl ⟨c, z, rfl, rfl, k H s⟩))
theorem a_inD {kvs : List (Key × V)} {κ : Key} (r : Rem L (pt p (.dK kvs)) L0) (e : x = kV κ) (k : Al L (Q (.bl (valV kvs κ).isSome))) : Al L (fun H => cIn K x (.ref p) H Q) := fun H s => .inl ⟨p, _, rfl, by rw [e]; exact DGet.k (r.ok s).at, k H s⟩
theorem a_notinD {kvs : List (Key × V)} {κ : Key} (r : Rem L (pt p (.dK kvs)) L0) (e : x = kV κ) (k : Al L (Q (.bl (!(valV kvs κ).isSome)))) : Al L (fun H => cNotIn K x (.ref p) H Q) := fun H s => .inl ⟨p, _, rfl, by rw [e]; exact DGet.k (r.ok s).at, k H s⟩
theorem a_inL (h : Ldg L K p xs) (hx : flatV x = true) (hf : xs.all flatV = true) (k : Al L (Q (.bl (inV x xs)))) : Al L (fun H => cIn K x (.ref p) H Q) := fun H s => .inr (.inl ⟨p, xs, rfl, .inl (h.q H s), hx, hf, k H s⟩)
theorem a_inT (h : LdgT L K p xs) (hx : flatV x = true) (hf : xs.all flatV = true) (k : Al L (Q (.bl (inV x xs)))) : Al L (fun H => cIn K x (.ref p) H Q) := fun H s => .inr (.inl ⟨p, xs, rfl, .inr (h.q H s), hx, hf, k H s⟩)
theorem a_notinL (h : Ldg L K p xs) (hx : flatV x = true) (hf : xs.all flatV = true) (k : Al L (Q (.bl (!inV x xs)))) : Al L (fun H => cNotIn K x (.ref p) H Q) := fun H s => .inr (.inl ⟨p, xs, rfl, .inl (h.q H s), hx, hf, k H s⟩)
/-- items -/
theorem a_xL (h : Ldg L K a xs) (hv : atI xs i = some v) (k : Al L (Q v)) : Al L (fun H => xIx K (.ref a) (.int i) H Q) := fun H s => .inl (a_ixL h hv k H s)
theorem a_xT (h : LdgT L K a xs) (hv : atI xs i = some v) (k : Al L (Q v)) : Al L (fun H => xIx K (.ref a) (.int i) H Q) := fun H s => .inl (a_ixT h hv k H s)
theorem a_xS {c : Nat} (hz : z.length ≤ sizeLine) (hv : atI z.cps.toList i = some c) (k : Al L (Q (.str ⟨#[c]⟩))) : Al L (fun H => xIx K (.str z) (.int i) H Q) := fun H s => .inl (a_ixS hz hv k H s)
theorem a_xD {kvs : List (Key × V)} {κ : Key} (r : Rem L (pt p (.dK kvs)) L0) (e : x = kV κ) (hv : valV kvs κ = some v) (k : Al L (Q v)) : Al L (fun H => xIx K (.ref p) x H Q) := fun H s => .inr ⟨p, v, rfl, by rw [e, ← hv]; exact DGet.k (r.ok s).at, k H s⟩
/-- slices -/
theorem a_sl {r : V → Option Int → Option Int → Hp → VK → Prop} {tl th : TO} (k : Al L (fun H => te σ H fun x H1 => tl σ H1 fun l H2 => th σ H2 fun u H3 => r x l u H3 Q)) : Al L (fun H => tSl r te tl th σ H Q) := k
def PartK (QO : Option Int → Hp → Prop) : VK := fun x H1 => ∃ i, x = .int i ∧ QO (some i) H1
theorem a_part {QO : Option Int → Hp → Prop} (k : Al L (fun H => te σ H (PartK QO))) : Al L (fun H => tPart te σ H QO) := k
theorem a_partK {QO : Option Int → Hp → Prop} (k : Al L (QO (some i))) : Al L (PartK QO (.int i)) := fun H s => ⟨i, rfl, k H s⟩
theorem a_nopart {QO : Option Int → Hp → Prop} (k : Al L (QO none)) : Al L (fun H => tNoPart σ H QO) := k
theorem a_slL {lo hi : Option Int} (h : Ldg L K a xs) (k : ∀ c, Al (pt c (.lst (cutV xs lo hi)) :: L) (Q (.ref c))) : Al L (fun H => sIx K (.ref a) lo hi H Q) := fun H s => .inl ⟨a, xs, rfl, h.q H s, fun c hc => k c _ (s.new hc)⟩
theorem a_slS {lo hi : Option Int} (hz : z.length ≤ sizeLine) (k : Al L (Q (.str (cutS z lo hi)))) : Al L (fun H => sIx K (.str z) lo hi H Q) := fun H s => .inr (.inl ⟨z, rfl, hz, k H s⟩)
/-- stores -/
theorem a_setLl {QS : L2.St → Hp → Prop} (r : Rem L (pt p (.lst xs)) L0) (hi : ixN xs.length j = some n) (k : Al (pt p (.lst (xs.set n v)) :: L0) (QS σ)) : Al L (GSubK sSet (.ref p) v QS σ (.int j)) := fun H s => .inl ⟨p, xs, j, n, rfl, rfl, (r.ok s).at, hi, k _ ((r.ok s).set _ id)⟩
theorem a_setD {QS : L2.St → Hp → Prop} {kvs : List (Key × V)} {κ : Key} (r : Rem L (pt p (.dK kvs)) L0) (e : x = kV κ) (hz : kvs.length < sizeLine) (k : Al (pt p (.dK (putK kvs κ v)) :: L0) (QS σ)) : Al L (GSubK sSet (.ref p) v QS σ x) := fun H s => .inr ⟨p, _, rfl, by rw [e]; exact DPut.k (r.ok s).at hz, k _ ((r.ok s).set _ id)⟩
/-- built-in calls -/
theorem a_len_s (hz : z.length ≤ sizeLine) (k : Al L (Q (.int z.length))) : Al L (fun H => kLen K [.str z] H Q) := fun H s => .inl ⟨_, _, rfl, ⟨hz, rfl⟩, k H s⟩
theorem a_len_l (h : Ldg L K a xs) (k : Al L (Q (.int xs.length))) : Al L (fun H => kLen K [.ref a] H Q) := fun H s => .inl ⟨_, _, rfl, .inl ⟨xs, h.q H s, rfl⟩, k H s⟩
theorem a_len_t (h : LdgT L K a xs) (k : Al L (Q (.int xs.length))) : Al L (fun H => kLen K [.ref a] H Q) := fun H s => .inl ⟨_, _, rfl, .inr ⟨xs, h.q H s, rfl⟩, k H s⟩
theorem a_len_d {kvs : List (Key × V)} (r : Rem L (pt a (.dK kvs)) L0) (k : Al L (Q (.int kvs.length))) : Al L (fun H => kLen K [.ref a] H Q) := fun H s => .inr ⟨a, kvs, rfl, (r.ok s).at, k H s⟩
theorem a_int_b {b : Bool} (k : Al L (Q (.int (if b then 1 else 0)))) : Al L (fun H => kInt [.bl b] H Q) := fun H s => .inl (.inr ⟨b, rfl, k H s⟩)
theorem a_str_i (hz : i.natAbs.log2 < 1920) (k : Al L (Q (.str (toString i)))) : Al L (fun H => kStr [.int i] H Q) := fun H s => .inl ⟨i, rfl, hz, k H s⟩
theorem a_list_l (h : Ldg L K a xs) (k : ∀ c, Al (pt c (.lst xs) :: L) (Q (.ref c))) : Al L (fun H => kList K [.ref a] H Q) := fun H s => .inl ⟨a, xs, rfl, .inl (h.q H s), fun c hc => k c _ (s.new hc)⟩
theorem a_list_d {kvs : List (Key × V)} (r : Rem L (pt a (.dK kvs)) L0) (k : ∀ c, Al (pt c (.lst (kvs.map fun kv => kV kv.1)) :: L) (Q (.ref c))) : Al L (fun H => kList K [.ref a] H Q) := fun H s => .inr ⟨a, kvs, rfl, .inl (r.ok s).at, fun c hc => k c _ (s.new hc)⟩
theorem a_abs (k : Al L (Q (.int (if i < 0 then -i else i)))) : Al L (fun H => kAbs [.int i] H Q) := fun H s => ⟨i, rfl, k H s⟩
theorem a_min (k : Al L (Q (.int (if j < i then j else i)))) : Al L (fun H => kMin [.int i, .int j] H Q) := fun H s => ⟨i, j, rfl, k H s⟩
theorem a_max (k : Al L (Q (.int (if j > i then j else i)))) : Al L (fun H => kMax [.int i, .int j] H Q) := fun H s => ⟨i, j, rfl, k H s⟩
theorem a_divmod (hc : CDiv i j) (k : ∀ c, Al (pt c (.tup [.int (i / j), .int (i % j)]) :: L) (Q (.ref c))) : Al L (fun H => kDivmod [.int i, .int j] H Q) := fun H s => ⟨i, j, rfl, hc, fun c hc => k c _ (s.new hc)⟩
theorem a_ord (hz : z.length = 1) (k : Al L (Q (.int (z.cps.getD 0 0 : Nat)))) : Al L (fun H => kOrd [.str z] H Q) := fun H s => ⟨z, rfl, hz, k H s⟩
theorem a_join {ys : List Str} (h : Ldg L K p (ys.map V.str)) (hz : (ys.map (·.length)).sum + ys.length * z.length ≤ 16777216) (k : Al L (Q (.str (Txt.join z ys)))) : Al L (fun H => mJoin K (.str z) [.ref p] H Q) := fun H s => ⟨z, p, ys, rfl, rfl, .inl (h.q H s), hz, k H s⟩
theorem a_sindex {c : Nat} {rest : List Nat} (e : Builtin.Str.occurrences z w 0 z.length 1 = c :: rest) (k : Al L (Q (.int (c : Nat)))) : Al L (fun H => mSIndex (.str z) [.str w] H Q) := fun H s => ⟨z, w, c, rest, rfl, rfl, e, k H s⟩
theorem a_sum {ns : List Int} (h : Ldg L K p (ns.map V.int)) (k : Al L (Q (.int ns.sum))) : Al L (fun H => rSum K [.ref p] H Q) := fun H s => ⟨p, ns, rfl, h.q H s, k H s⟩
theorem a_all {bs : List Bool} (h : Ldg L K p (bs.map V.bl)) (k : Al L (Q (.bl (bs.all id)))) : Al L (fun H => rAll K [.ref p] H Q) := fun H s => ⟨p, bs, rfl, h.q H s, k H s⟩
theorem a_any {bs : List Bool} (h : Ldg L K p (bs.map V.bl)) (k : Al L (Q (.bl (bs.any id)))) : Al L (fun H => rAny K [.ref p] H Q) := fun H s => ⟨p, bs, rfl, h.q H s, k H s⟩
/-- data -/
structure LdD (L : List Asn) (K : PySem.W.Frag) (x : V) (d : PyData) : Prop where
  q : ∀ H, Star L H → Dp K H x d
theorem a_repr {d : PyData} (h : LdD L K x d) (hs : d.showable = true) (hd : d.hasDict = false) (hb : d.depth ≤ 40) (hz : d.shown.length ≤ sizeLine) (k : Al L (Q (.str d.shown))) : Al L (fun H => kRepr K [x] H Q) := fun H s => ⟨x, d, rfl, h.q H s, hs, hd, hb, hz, k H s⟩
end
end AL

/-! The law's own end. -/
namespace AL
open PySem PySem.Spec PyProof.Rows L2
section
variable {P : Program} {w : World} {K : PySem.W.Frag} {mg mb : Str → Option Value} {k : Nat} {fa a : Addr} {x : Str} {sp : Sp} {s₁ : Shared} {vs : List Value} {ns : List Int}
/-- from an abstract heap that holds at most the script -/
theorem law_core (KX : K.In s₁.heap) (hns : s₁.heap.Ns mainGlobals mg) (hb : s₁.heap.Ns builtinsNs mb) (hbb : ∀ x : Str, x ≠ "__name__" → mb x = bootBuiltins x)
    (hlim : s₁.heap.NoLimit) (hg : s₁.gens = #[]) (ha : s₁.heap.get? a = some { cls := .type "list", data := .seq vs.toArray }) (hr : Rm k callerA)
    (F : ∀ base : Heap, FnG P w K mg base k fa [x] sp) (hsp : ∀ H : Hp, Only H → SqL K H a (ns.map V.int) → sp [.ref a] H (fun v _ => v = .bl true) fun _ _ _ => False)
    (H : Hp) (hO : Only H) (hS : SqL K H a (ns.map V.int)) (hok : HOk P w H s₁.heap) (hA : ∀ b, H b ≠ none → b = a) (hK : H a ≠ none → K.lookup a = none) :
    codeAny (model P w) callerA (.call (.ref fa) ⟨[.ref a], []⟩) (fun r s' => r = .ok (.ret (.bool true)) ∧ OldK s₁.heap s'.heap ∧ s'.os = s₁.os ∧ AllBare s'.gens) s₁ := by
  have dict_out : ∀ {b : Addr} {o : Obj} {es : Array DictEntry} {ep : Nat}, s₁.heap.get? b = some o → o.data = .dict es ep → H b = none := by
    intro b o es ep e d
    cases q : H b with
    | none => rfl
    | some u =>
      obtain rfl := hA b (by rw [q]; simp)
      rw [ha] at e
      cases e
      exact nomatch (show Data.seq vs.toArray _ = Data.dict es ep from d)
  have ns_in : ∀ {b : Addr} {m : Str → Option Value}, s₁.heap.Ns b m → (hidT s₁.heap H).Ns b m := by
    intro b m ⟨o, es, ep, e, d, r⟩
    exact ⟨o, es, ep, hidT_get e (dict_out e d), d, r⟩
  have k_in : K.In (hidT s₁.heap H) := by
    intro b o e
    refine hidT_get (KX b o e) ?_
    cases q : H b with
    | none => rfl
    | some u =>
      obtain rfl := hA b (by rw [q]; simp)
      rw [hK (by rw [q]; simp)] at e
      cases e
  have lim : (hidT s₁.heap H).NoLimit := let ⟨mc, h1, h2⟩ := hlim; ⟨mc, ns_in h1, h2⟩
  have e0 : Env0 P w K mg (hidT s₁.heap H) callerA [] s₁ H := by
    refine ⟨rfl, ⟨k_in, ns_in hns, ⟨mb, ns_in hb, hbb⟩, lim⟩, fun b o e => of_hidT e, Nat.le_of_eq (hidT_size _ _), trivial, ?_, hok, .of_eq hg⟩
    intro b hb
    exact nomatch (show b ∈ ([] : List Addr) from hb)
  have z := (F (hidT s₁.heap H)).run callerA [] s₁ H [.ref a] [.ref a] _ _ hr e0 KX (.cons rfl .nil) (hsp H hO hS)
  refine codeAny_mono z fun r s' h => ?_
  cases r with
  | error e => exact let ⟨_, _, _, _, _, _, _, _, _, _, _, _, h⟩ := h; h.elim
  | ok fl =>
    cases fl with
    | next => exact False.elim h
    | brk => exact False.elim h
    | cont => exact False.elim h
    | ret u =>
      obtain ⟨v, H', os, bare, un, hok', rv, q⟩ := h
      obtain rfl : v = .bl true := q
      obtain rfl : u = Value.bool true := rv
      refine ⟨rfl, OldK.of_keep ?_, os, bare⟩
      intro b o e
      cases q : H b with
      | none => exact un.keep b o e q (fun z => nomatch (show b ∈ ([] : List Addr) from z)) (fun z => nomatch (show b ∈ ([] : List Addr) from z))
      | some u =>
        rcases hO b with z | ⟨ob, xs, z⟩
        · rw [q] at z; cases z
        · have e1 := (hok b _ z).1
          have e2 := (hok' b _ (un.frzs b ob _ z)).1
          rw [e] at e1
          cases e1
          exact e2
theorem law_g (KX : K.In s₁.heap) (hns : s₁.heap.Ns mainGlobals mg) (hb : s₁.heap.Ns builtinsNs mb) (hbb : ∀ x : Str, x ≠ "__name__" → mb x = bootBuiltins x)
    (hlim : s₁.heap.NoLimit) (hg : s₁.gens = #[]) (ha : s₁.heap.get? a = some { cls := .type "list", data := .seq vs.toArray }) (hi : IntsAre vs ns) (hl : ns.length ≤ sizeLine) (hr : Rm k callerA)
    (F : ∀ base : Heap, FnG P w K mg base k fa [x] sp) (hsp : ∀ H : Hp, Only H → SqL K H a (ns.map V.int) → sp [.ref a] H (fun v _ => v = .bl true) fun _ _ _ => False) :
    codeAny (model P w) callerA (.call (.ref fa) ⟨[.ref a], []⟩) (fun r s' => r = .ok (.ret (.bool true)) ∧ OldK s₁.heap s'.heap ∧ s'.os = s₁.os ∧ AllBare s'.gens) s₁ := by
  have rv := vals_ints hi
  have lenV := hi.length
  cases hk : K.lookup a with
  | some o =>
    obtain rfl := Option.some.inj (ha.symm.trans (KX a o hk))
    refine law_core KX hns hb hbb hlim hg ha hr F hsp (fun _ => none) (fun _ => .inl rfl) (.inr ⟨_, vs.toArray, _, hk, rfl, rfl, rfl, ?_, by simpa using rv⟩) ?_ (fun b z => absurd rfl z) fun z => absurd rfl z
    · rw [List.size_toArray, lenV]; exact hl
    · intro b u z
      exact nomatch (show (none : Option HO) = some u from z)
  | none =>
    have at_ : ∀ {b : Addr} {u : HO}, (if b = a then some (HO.frz { cls := .type "list", data := .seq vs.toArray } (.lst (ns.map V.int))) else none) = some u → b = a ∧ u = HO.frz { cls := .type "list", data := .seq vs.toArray } (.lst (ns.map V.int)) := by
      intro b u z
      by_cases hb : b = a
      · rw [if_pos hb] at z; exact ⟨hb, (Option.some.inj z).symm⟩
      · rw [if_neg hb] at z; cases z
    refine law_core KX hns hb hbb hlim hg ha hr F hsp (fun b => if b = a then some (.frz { cls := .type "list", data := .seq vs.toArray } (.lst (ns.map V.int))) else none) ?_ (.inl (.inr ⟨_, if_pos rfl⟩)) ?_ ?_ fun _ => hk
    · intro b
      by_cases hb : b = a
      · exact .inr ⟨_, _, if_pos hb⟩
      · exact .inl (if_neg hb)
    · intro b u z
      obtain ⟨rfl, rfl⟩ := at_ z
      exact ⟨ha, by rw [List.length_map]; exact hl, vs, _, rv, ha⟩
    · intro b z
      by_cases hb : b = a
      · exact hb
      · exact absurd (if_neg hb) z
end
theorem walk_g {l : PySem.W.OpenLaw} {n k : Nat} {q : Program} {loose : List Str} {XP : (Str → Option Value) → Heap → Prop} {YP : World → Heap → Prop} {d : DefRec}
    (hn : l.most = some n) (hn2 : n ≤ sizeLine) (hdf : d.params.defaults = []) (hr : Room k callerA)
    (F : ∀ (w : World) (mg : Str → Option Value) (fa : Addr) (h : Heap), YP w h → h.Ns mainGlobals mg → mg d.name = some (.ref fa) →
      ∃ K : PySem.W.Frag, K.In h ∧ ∃ (x : Str) (sp : Sp), (∀ base : Heap, FnG l.prog w K mg base k fa [x] sp) ∧
        ∀ (H : Hp) (a : Addr) (ns : List Int), ns.length ≤ n → Only H → SqL K H a (ns.map V.int) → sp [.ref a] H (fun v _ => v = .bl true) fun _ _ _ => False) :
    PySem.W.WalkO q loose XP YP l.row.toRowW d [] (fun f vs => PySem.call f vs) := by
  refine Att.attach_call hn hdf fun w s₀ s₁ mg mb fa o pm cd doc a vs ns G Y ho hd hcd hmg hobj hints hlen hg => ?_
  obtain ⟨K, KX, x, sp, hF, hsp⟩ := F w mg fa _ Y G.T.g hmg
  exact law_g KX G.T.g G.T.b G.T.builtins G.T.nolimit hg hobj hints (Nat.le_trans hlen hn2) ⟨hr, rfl⟩ hF fun H hO hS => hsp H a ns hlen hO hS
/-- a law's promise: a script of at most so many ints, True -/
def S_law (K : PySem.W.Frag) : Tri where
  G := Addr × List Int
  O := Unit
  args g := [.ref g.1]
  cond g := g.2.length ≤ 63
  pre g := [sq K g.1 (g.2.map V.int)]
  res _ _ := .bl true
theorem sp_law (K : PySem.W.Frag) (H : Hp) (a : Addr) (ns : List Int) (hl : ns.length ≤ 63) (_ : Only H) (hs : SqL K H a (ns.map V.int)) : (S_law K).sp [.ref a] H (fun v _ => v = .bl true) fun _ _ _ => False :=
  ⟨(a, ns), fun _ => True, rfl, hl, ⟨H, fun _ => none, ⟨fun _ _ e => e, fun _ _ e => (nomatch e), fun _ _ _ _ e => (nomatch e)⟩, hs, ⟨fun _ => none, fun _ => none, ⟨fun _ _ e => (nomatch e), fun _ _ e => (nomatch e), fun _ _ _ e => (nomatch e)⟩, trivial, trivial⟩⟩,
    fun _ _ _ _ => rfl, fun _ _ _ h => h.elim⟩
end AL

/-! enumerate of a text, from one on. -/
namespace EnS
open PySem
open Sem (wp)
open AutoSeq1 (wpAny_loadPart')
theorem tc (a b : Value) : checkTypeCall "enumerate" ⟨[a], [("start", b)]⟩ = pure () := by kernel_rfl
theorem nc (a b : Value) : checkBuiltinCall "enumerate.__new__" ⟨[.type "enumerate", a], [("start", b)]⟩ = pure () := by kernel_rfl
theorem ic (a b c : Value) : argsOk "object.__init__" ⟨[a, b], [("start", c)]⟩ := by
  first | exact F.args_object_init_2 _ _ | kernel_rfl
theorem init_kw {T newId : String} {self : Value} {rest : List Value} {kw : List (Str × Value)} (hl : typeLookup (.type T) "__init__" = pure (some (.builtin "object.__init__")))
    (hm : Bind.madeBy (.type T) = pure (some newId)) (hne : (some newId != some "object.__new__") = true) :
    Meets (Builtin.«object.__init__» ⟨self :: rest, kw⟩) (fun _ R s => s.TypeIs self T ∧ R (.ok (.ret .none)) s) := by
  refine Meets.of_wp fun prog w A R s hs => ?_
  obtain ⟨hT, hq⟩ := hs
  cases rest with
  | nil => cases kw with
    | nil => exact wpAny_pure ⟨_, rfl, hq⟩
    | cons k ks =>
      repeat (any_goals (first | assumption | wp_step))
      exact ⟨_, rfl, hq⟩
  | cons a rest =>
    repeat (any_goals (first | assumption | wp_step))
    exact ⟨_, rfl, hq⟩
section
variable {prog : Program} {w : World} {A : Around} {E : Value → Shared → Prop} {s : Shared}
theorem call_kw {T newId : String} {Bn : Builtin} {args : List Value} {kw : List (Str × Value)} {S : Spec} {Q : Value → Shared → Prop} (ft : TypeCalled T newId "object.__init__")
    (hne : (some newId != some "object.__new__") = true) (hct : checkTypeCall T ⟨args, kw⟩ = pure ()) (hcn : checkBuiltinCall newId ⟨.type T :: args, kw⟩ = pure ())
    (hok : ∀ obj, argsOk "object.__init__" ⟨obj :: args, kw⟩) (entryN : entryFor table newId = some Bn) (g : Meets (Bn ⟨.type T :: args, kw⟩) S)
    (h : S A.in1 (wants (fun obj s₁ => s₁.TypeIs obj T ∧ Q obj s₁) E) s) : wpAny (model prog w) A (call (.type T) args kw) Q E s := by
  obtain ⟨c, tl, hmro⟩ := ft.mro
  have made := ft.made
  have sub := ft.sub
  refine wpAny_call (codeAny_of_tree ?_)
  show wpAny _ _ (callAny (.type T) _) _ _ _
  refine wpAny_pure ⟨Code.quiet_builtin _ (by decide +kernel), codeAny_builtin F.entry_type_call ?_⟩
  rw [Around.under_plain (weight_type_call_type T args kw) (units_type_call_type T args kw)]
  have n1 := ft.notType
  have n2 := ft.canCreate
  repeat (any_goals (first | assumption | wp_step))
  refine codeAny_mono (codeAny_call_builtin ft.plain entryN (wpAny_of_eq hcn (g prog w A.in1 _ s h))) fun r s₁ hr => ?_
  cases r with
  | error e => exact hr
  | ok fl => cases fl with
    | ret obj =>
      obtain ⟨hT, hq⟩ := hr
      have li := ft.init.lookup
      have bi := ft.init.bind obj
      repeat (any_goals (first | assumption | wp_step))
      refine codeAny_mono (codeAny_call_builtin ft.init.plain F.entry_object_init (ft.init.check _ _ _ _ _ _ _ _ hT (hok obj) (init_kw ft.init.lookup ft.made hne prog w A.in1 _ s₁ ⟨hT, show wants (fun r s₂ => r = .none ∧ Q obj s₂) E (.ok (.ret .none)) s₁ from ⟨rfl, hq⟩⟩))) fun r₂ s₂ hr₂ => ?_
      cases r₂ with
      | error e => exact hr₂
      | ok fl₂ => cases fl₂ with
        | ret r =>
          obtain ⟨rfl, hq⟩ := hr₂
          repeat (any_goals (first | assumption | wp_step))
        | _ => exact hr₂.elim
    | _ => exact hr.elim
end
theorem meets_1 (x : Str) (t u : Tok) :
    Meets (Builtin.«enumerate.__new__» ⟨[.type "enumerate", .str x t], [("start", .int 1 u)]⟩) (fun _ R s =>
      R (.ok (.ret (.ref (s.heap.push { cls := .type (strIterType x), data := .fields #[.str x t, .int 0 0] }).objs.size)))
        { s with heap := (s.heap.push { cls := .type (strIterType x), data := .fields #[.str x t, .int 0 0] }).push { cls := .type "enumerate", data := .fields #[.none, .bool false, .ref s.heap.objs.size, rawInt 1, .none, .none] } }) :=
  .of_wp fun prog w A R s h => by
    obtain ⟨hp, g, d, tk, os⟩ := s
    have hsub := sub_enumerate
    wp_walk
    refine wpAny_stack_any fun st => wpAny_pure ?_
    split
    · rename_i c _ _ _ _ _
      cases (c == Value.type "enumerate")
      · wp_walk using wpAny_pyIter_strU
        exact ⟨_, rfl, h⟩
      · wp_walk using wpAny_pyIter_strU
        exact ⟨_, rfl, h⟩
    · wp_walk using wpAny_pyIter_strU
      exact ⟨_, rfl, h⟩

section
variable {prog : Program} {w : World} {A : Around} {E : Value → Shared → Prop} {s : Shared}
theorem call_1 {x : Str} {t u : Tok} {Q : Value → Shared → Prop}
    (h : ∀ h', IsEnum h' (s.heap.objs.size + 1) s.heap.objs.size 1 .none → h'.IsStrIter s.heap.objs.size (strIterType x) x t 0 →
      (∀ b o, s.heap.get? b = some o → h'.get? b = some o) → Q (.ref (s.heap.objs.size + 1)) { s with heap := h' }) :
    wpAny (model prog w) A (call (.type "enumerate") [.str x t] [("start", .int 1 u)]) Q E s := by
  refine call_kw F.called_enumerate (by decide) (tc _ _) (nc _ _) (fun obj => ic obj _ _) F.entry_enumerate_new (meets_1 x t u) ?_
  have hz : (s.heap.push { cls := .type (strIterType x), data := .fields #[.str x t, .int 0 0] }).objs.size = s.heap.objs.size + 1 := Heap.size_push ..
  show _ ∧ _
  rw [hz]
  generalize e1 : s.heap.push { cls := .type (strIterType x), data := .fields #[.str x t, .int 0 0] } = g1 at hz
  have q1 : g1.get? s.heap.objs.size = some { cls := .type (strIterType x), data := .fields #[.str x t, .int 0 0] } := by rw [← e1]; exact Heap.get?_push_size _ rfl
  have k1 : ∀ b o, s.heap.get? b = some o → g1.get? b = some o := fun b o y => by rw [← e1]; exact Heap.get?_push_of_some _ y
  have q2 : IsEnum (g1.push { cls := .type "enumerate", data := .fields #[.none, .bool false, .ref s.heap.objs.size, rawInt 1, .none, .none] }) (s.heap.objs.size + 1) s.heap.objs.size 1 .none := by
    have z := Heap.get?_push_size g1 (o := { cls := .type "enumerate", data := .fields #[.none, .bool false, .ref s.heap.objs.size, rawInt 1, .none, .none] }) rfl
    rw [hz] at z
    exact z
  exact ⟨⟨_, q2, rfl⟩, h _ q2 ⟨_, Heap.get?_push_of_some _ q1, rfl, rfl⟩ fun b o y => Heap.get?_push_of_some _ (k1 b o y)⟩
end
/-- the same draws, counted from one -/
theorem later {prog : Program} {w : World} {A : Around} {it : Addr} {fp : List Addr} {n : Nat} {P : Nat → Value → Prop} {St : Nat → Heap → Prop} (D : Draws prog w A it fp n P St) :
    Draws prog w A it fp (n + 1) (fun i v => ∃ j, i = j + 1 ∧ P j v) (fun i h => ∃ j, i = j + 1 ∧ St j h) where
  live := fun i h ⟨j, _, st⟩ => D.live j h st
  frame := fun i h h' ⟨j, e, st⟩ k => ⟨j, e, D.frame j h h' st k⟩
  item := fun i s Q E hi ⟨j, e, st⟩ hQ => D.item j s Q E (by omega) st fun x h' tk p st' sb => hQ x h' tk ⟨j, e, p⟩ ⟨j + 1, by omega, st'⟩ sb
  done := fun s Q E ⟨j, e, st⟩ hE => by
    obtain rfl : n = j := by omega
    exact D.done s Q E st hE
end EnS

namespace AL
open PySem PySem.Spec PyProof.Rows L2
theorem draws_str {P : Program} {w : World} {A : Around} (hh : A.handled = none) (it : Addr) (x : Str) (t : Tok) :
    Draws P w A it [it] x.cps.size (fun i v => ∃ c u, x.cps[i]? = some c ∧ v = .str ⟨#[c]⟩ u) (fun i h => h.IsStrIter it (strIterType x) x t i) := by
  unfold strIterType
  split
  · exact Draws.strAscii hh it x t
  · exact Draws.strWide hh it x t
/-- a text's signs, each in a new pair behind its place from one on -/
def Ites (x : Str) : It :=
  ⟨fun i _ => i < x.cps.size, fun i H v H' => ∃ T c, v = .ref T ∧ H T = none ∧ x.cps[i]? = some c ∧ H' = upd H T (.tup [.int ((i : Nat) + 1), .str ⟨#[c]⟩]), fun i _ => i = x.cps.size⟩
theorem turn_es {P : Program} {w : World} {K : PySem.W.Frag} {elts : List Expr} {kk : Nat} {tpos : Pos} (x : Str) (t : Tok) (e it : Addr) :
    Turn P w K (.Tuple elts kk tpos) (Ites x) [e, it] e (fun i h => (∃ old, IsEnum h e it ((i + 1 : Nat) : Int) old) ∧ h.IsStrIter it (strIterType x) x t i ∧ e ≠ it) where
  mem := by simp
  obj := by
    intro i h st b hb
    obtain ⟨⟨old, he⟩, ⟨o, ho, hc, hd⟩, _⟩ := st
    rcases (show b = e ∨ b = it by simpa using hb) with z | z
    · rw [z]; exact ⟨_, he, fun v q => by cases q⟩
    · rw [z]; exact ⟨o, ho, fun v q => by rw [hd] at q; cases q⟩
  keep := by
    intro i h h' st k
    obtain ⟨⟨old, he⟩, ⟨o, ho, r⟩, hne⟩ := st
    exact ⟨⟨old, k e (by simp) _ he⟩, ⟨o, k it (by simp) o ho, r⟩, hne⟩
  item := by
    intro X hP hw hK hc i pins s σ H E I hf st hg
    obtain ⟨⟨old, he⟩, hit, hne⟩ := st
    subst hP hw hK
    have hel : e < s.heap.objs.size := Heap.lt_size he
    have hil : it < s.heap.objs.size := by obtain ⟨_, q, _⟩ := hit; exact Heap.lt_size q
    have D := EnS.later (draws_str (P := X.prog) (w := X.w) (A := X.A.in1) (I.ok.hd hc) it x t)
    refine wpAny_pyNext_enum_itemD (i := i + 1) D he ⟨i, rfl, hit⟩ (Nat.succ_lt_succ hg) hne (fun z => hne (List.mem_singleton.mp z)) ?_
    intro u h' tk hu ho hi hT hsz hk
    obtain ⟨j, ej, c, u', hcx, eu⟩ := hu
    obtain ⟨j', ej', hit'⟩ := hi
    obtain rfl : i = j := by omega
    obtain rfl : j' = i + 1 := by omega
    subst eu
    refine ⟨_, rfl, wpAny_letOwnedTupleGo_enum (s := { s with heap := h', toks := tk + 1 }) ho ?_⟩
    intro h'' he' sb
    have hT2 := (sb.2 _ (Nat.ne_of_gt hel)).trans hT
    have new : ObjOk X.prog X.w (upd H s.heap.objs.size (.tup [.int ((i : Nat) + 1), .str ⟨#[c]⟩])) h'' s.heap.objs.size (.tup [.int ((i : Nat) + 1), .str ⟨#[c]⟩]) :=
      ⟨by show 2 ≤ sizeLine; decide, [.int ((i + 1 : Nat) : Int) tk, .str ⟨#[c]⟩ u'], .cons ⟨_, by rw [Int.natCast_add]; rfl⟩ (.cons ⟨_, rfl⟩ .nil), ⟨_, hT2, rfl, _, rfl⟩⟩
    have I1 := I.turnedNew (h' := h'') (t' := tk + 1) (ch := [e, it]) (fun b ob hb q => (sb.2 b (fun z => hb (by simp [z]))).trans (hk b ob (fun z => hb (by simp [z])) (fun z => hb (by simp [z])) q)) hf (Nat.le_refl _) new
    refine ⟨.ref s.heap.objs.size, _, I1, rfl, ⟨_, c, rfl, I.hok.fresh (Nat.le_refl _), hcx, rfl⟩, ⟨⟨.str ⟨#[c]⟩ u', ?_⟩, ?_, hne⟩, ?_⟩
    · have e1 : (((i + 1) + 1 : Nat) : Int) = ((i + 1 : Nat) : Int) + 1 := by omega
      rw [e1]; exact he'
    · obtain ⟨o, q, r⟩ := hit'
      exact ⟨o, (sb.2 it (Ne.symm hne)).trans q, r⟩
    · intro b hb
      have hb' : b < s.heap.objs.size := by
        rcases (show b = e ∨ b = it by simpa using hb) with z | z <;> (rw [z]; assumption)
      rw [upd_ne (Nat.ne_of_lt hb')]
      exact (hf b hb).1
  done := by
    intro X hP hw hK hc i pins s σ H E I hf st hg
    obtain ⟨⟨old, he⟩, hit, hne⟩ := st
    subst hP hw hK
    obtain ⟨f0, f1, f2, f3, f4, f5⟩ := hf it (by simp)
    obtain rfl : i = x.cps.size := hg
    exact wpAny_pyNext_enum_endD (draws_str (P := X.prog) (w := X.w) (A := X.A.in1) (I.ok.hd hc) it x t) he hit fun h' eb => ⟨rfl, I.turned (t' := s.toks) (fun b o hb q => eb b o hb q) f0 f1 f3 f4 f5⟩
  self := by
    intro A i s Q E st h
    obtain ⟨⟨_, he⟩, _⟩ := st
    exact wpAny_pyIter_enum he h
theorem callTypeKw {M : Model} {A : Around} {E : Value → Shared → Prop} {s : Shared} {env : Env} {pos : Pos} {T : String} {e : Expr} {name : Str} {value : Expr} {kp : Pos} {Q : Value → Shared → Prop}
    (h : wpAny M A (spliced (backTo pos (starEach [e] env))) (fun vs s1 => wpAny M A (eval value env) (fun c s2 => wpAny M A (call (.type T) vs [(name, c)]) Q E s2) E s1) E s)
    (he : starEach [e] env = [(false, eval e env)]) :
    wpAny M A (callWith pos (.type T) [] (backTo pos (starEach [e] env)) (backToKw pos (keywordEach [⟨some name, value, kp⟩] env))) Q E s := by
  rw [he] at h ⊢
  unfold callWith
  have ev : wpAny M A (evalArgs (.type T) true (backTo pos [(false, eval e env)]) (backToKw pos (keywordEach [⟨some name, value, kp⟩] env))) (fun a s₁ => wpAny M A (call (.type T) ([] ++ a.pos) a.kw) Q E s₁) E s := by
    refine evalArgs_kwB rfl ?_
    refine wpAny_mono h (fun vs s1 h1 => ?_) fun _ _ z => z
    exact kws_cons (wpAny_mono h1 (fun c s2 h2 => kws_nil h2) fun _ _ z => z)
  refine wpAny_bind (wpAny_holding (wpAny_mono ev (fun a s₁ h₁ => wpAny_bind (wpAny_standAt ?_)) fun _ _ x => x))
  refine wpAny_bind (wpAny_pure ?_)
  exact wpAny_bind (wpAny_mono h₁ (fun r s₂ hr => wpAny_bind (wpAny_holding (wpAny_point (wpAny_pure hr)))) fun _ _ x => x)
def iEnumS (ta : TA) : TI := fun σ H R => ta σ H fun vs H1 => ∃ x, vs = [.str x] ∧ R (Ites x) H1
theorem pi_enumS {X : Cx} {e : Expr} {ta : TA} {p kp cp pos tpos : Pos} {elts : List Expr} {kk : Nat} {j} (hg : Gl X "enumerate") (hm : X.mg "enumerate" = none) (ha : PA X [e] ta) (hs : starEach [e] X.env = [(false, eval e X.env)] := by rfl) :
    PI X (.Tuple elts kk tpos) (.Call (.Name "enumerate" p) [e] [⟨some "start", .Constant (.int 1) j cp, kp⟩] pos) (iEnumS ta) := by
  refine ⟨fun pins s σ H R I h => ?_⟩
  refine wpAny_Call_Name_kw (ld_blt I hg hm boot_enumerate (callTypeKw (thn (ha.run pos pins s σ H _ I h) fun us s1 ⟨vs, H1, I1, r1, x, ex, q⟩ => ?_) hs))
  subst ex
  cases r1 with
  | cons r rr =>
    cases rr
    obtain ⟨t, rfl⟩ := r
    refine wpAny_Constant_int ?_
    refine EnS.call_1 fun h' he hit hk => wpAny_pyIter_enum he ?_
    have I2 : Inv X pins σ H1 { s1 with heap := h', toks := s1.toks + 1 } := I1.kept (t' := s1.toks + 1) hk
    refine ⟨s1.heap.objs.size + 1, [s1.heap.objs.size + 1, s1.heap.objs.size], _, _, H1, rfl, I2, turn_es x t (s1.heap.objs.size + 1) s1.heap.objs.size, ⟨⟨.none, he⟩, hit, Nat.succ_ne_self _⟩, fun b hb => ?_, q⟩
    have hle : s1.heap.objs.size ≤ b := by
      rcases (show b = s1.heap.objs.size + 1 ∨ b = s1.heap.objs.size by simpa using hb) with z | z
      · rw [z]; exact Nat.le_add_right _ _
      · rw [z]; exact Nat.le_refl _
    exact I1.fpOk hle (I1.hok.fresh hle)
end AL

/-! What a loop walks, and comprehensions, over a ledger. -/
namespace AL
open PySem PySem.Spec PyProof.Rows L2

/-! ### a loop over any kind of thing -/
def IterK (K : PySem.W.Frag) (R : It → Hp → Prop) : VK := fun x H => (∃ a xs, x = .ref a ∧ SqL K H a xs ∧ R (Itl K a) H) ∨ (∃ a xs, x = .ref a ∧ SqT K H a xs ∧ R (Itt K a) H) ∨ ∃ z, x = .str z ∧ R (Its z) H
def iAny (K : PySem.W.Frag) (te : TE) : TI := fun σ H R => te σ H (IterK K R)
theorem pi_any {X : Cx} {tg e : Expr} {te : TE} (he : PE X e te) : PI X tg e (iAny X.K te) := by
  refine ⟨fun pins s σ H R I h => ?_⟩
  refine thn (he.run pins s σ H _ I h) fun v s1 ⟨x, H1, I1, r1, q1⟩ => ?_
  rcases q1 with ⟨a, xs, e, hq, q⟩ | ⟨a, xs, e, hq, q⟩ | ⟨z, e, q⟩
  · subst e
    cases r1
    obtain ⟨its, rv, p, hz⟩ := I1.list hq
    exact wpAny_pyIter_list p.isList (pi_one (tk := s1.toks) I1 _ (turn_list a _) ⟨_, Heap.get?_push_size _ rfl, rfl, rfl⟩ q)
  · subst e
    cases r1
    obtain ⟨its, rv, p, hz⟩ := I1.tuple hq
    exact wpAny_pyIter_tuple (show s1.heap.IsTuple a its.toArray from p) (pi_one (tk := s1.toks) I1 _ (turn_tuple a _) ⟨_, Heap.get?_push_size _ rfl, rfl, rfl⟩ q)
  · subst e
    obtain ⟨t, rfl⟩ := r1
    cases ha : z.cps.all (· < 128)
    · exact wpAny_pyIter_wide ha (pi_one (tk := s1.toks) I1 _ (turn_str _ z t "str_iterator" (.inr rfl)) ⟨_, Heap.get?_push_size _ rfl, rfl, rfl⟩ q)
    · exact wpAny_pyIter_ascii ha (pi_one (tk := s1.toks) I1 _ (turn_str _ z t "str_ascii_iterator" (.inl rfl)) ⟨_, Heap.get?_push_size _ rfl, rfl, rfl⟩ q)
section
variable {L L0 : List Asn} {σ σ' : L2.St} {K : PySem.W.Frag} {R : It → Hp → Prop} {te : TE} {t : TA} {a b : Addr} {xs ys : List V}
theorem a_iAny (k : Al L (fun H => te σ H (IterK K R))) : Al L (fun H => iAny K te σ H R) := k
theorem a_itL (h : Ldg L K a xs) (k : Al L (R (Itl K a))) : Al L (IterK K R (.ref a)) := fun H s => .inl ⟨a, xs, rfl, h.q H s, k H s⟩
theorem a_itT (h : LdgT L K a xs) (k : Al L (R (Itt K a))) : Al L (IterK K R (.ref a)) := fun H s => .inr (.inl ⟨a, xs, rfl, h.q H s, k H s⟩)
theorem a_itS {z : Str} (k : Al L (R (Its z))) : Al L (IterK K R (.str z)) := fun H s => .inr (.inr ⟨z, rfl, k H s⟩)
def Rng1K (R : It → Hp → Prop) : List V → Hp → Prop := fun vs H1 => ∃ j : Int, vs = [.int j] ∧ -(2 ^ 62) ≤ j ∧ j < 2 ^ 62 ∧ R (Itr 0 j.toNat) H1
theorem a_r1 (k : Al L (fun H => t σ H (Rng1K R))) : Al L (fun H => iRng1 t σ H R) := k
theorem a_r1K {j : Int} (h : -(2 ^ 62) ≤ j ∧ j < 2 ^ 62) (k : Al L (R (Itr 0 j.toNat))) : Al L (Rng1K R [.int j]) := fun H s => ⟨j, rfl, h.1, h.2, k H s⟩
def Rng2K (R : It → Hp → Prop) : List V → Hp → Prop := fun vs H1 => ∃ i j : Int, vs = [.int i, .int j] ∧ (-(2 ^ 62) ≤ i ∧ i < 2 ^ 62 ∧ -(2 ^ 62) ≤ j ∧ j < 2 ^ 62) ∧ R (Itr i (j - i).toNat) H1
theorem a_r2 (k : Al L (fun H => t σ H (Rng2K R))) : Al L (fun H => iRng2 t σ H R) := k
theorem a_r2K {i j : Int} (h : -(2 ^ 62) ≤ i ∧ i < 2 ^ 62 ∧ -(2 ^ 62) ≤ j ∧ j < 2 ^ 62) (k : Al L (R (Itr i (j - i).toNat))) : Al L (Rng2K R [.int i, .int j]) := fun H s => ⟨i, j, rfl, h, k H s⟩
def Rng3K (R : It → Hp → Prop) : List V → Hp → Prop := fun vs H1 => ∃ (i j c : Int) (n : Nat), vs = [.int i, .int j, .int c] ∧ RgC i j c n ∧ R (Itc i c n) H1
theorem a_r3 (k : Al L (fun H => t σ H (Rng3K R))) : Al L (fun H => iRng3 t σ H R) := k
theorem a_r3K {i j c : Int} (n : Nat) (h : RgC i j c n) (k : Al L (R (Itc i c n))) : Al L (Rng3K R [.int i, .int j, .int c]) := fun H s => ⟨i, j, c, n, rfl, h, k H s⟩
def EnumSK (R : It → Hp → Prop) : List V → Hp → Prop := fun vs H1 => ∃ x, vs = [.str x] ∧ R (Ites x) H1
theorem a_enS (k : Al L (fun H => t σ H (EnumSK R))) : Al L (fun H => iEnumS t σ H R) := k
theorem a_enSK {x : Str} (k : Al L (R (Ites x))) : Al L (EnumSK R [.str x]) := fun H s => ⟨x, rfl, k H s⟩
def EnumK (K : PySem.W.Frag) (R : It → Hp → Prop) : List V → Hp → Prop := fun vs H1 => ∃ a xs, vs = [.ref a] ∧ SqL K H1 a xs ∧ R (Ite K a) H1
theorem a_en (k : Al L (fun H => t σ H (EnumK K R))) : Al L (fun H => iEnum K t σ H R) := k
theorem a_enK (h : Ldg L K a xs) (k : Al L (R (Ite K a))) : Al L (EnumK K R [.ref a]) := fun H s => ⟨a, xs, rfl, h.q H s, k H s⟩
end

/-! ### comprehensions -/
/-- the names of a comprehension are none of the frame's -/
inductive Wp (σ : L2.St) : List Nat → L2.St → Prop where
  | nil : Wp σ [] σ
  | cons {v : Nat} {vs : List Nat} {σ1 σ2 : L2.St} : Wp σ vs σ1 → SetAt σ1 v none σ2 → Wp σ (v :: vs) σ2
theorem Wp.eq {σ σ' : L2.St} {vs : List Nat} (h : Wp σ vs σ') : wipe σ vs = σ' := by
  induction h with
  | nil => rfl
  | cons _ hs ih => rw [L2.wipe, ih]; exact hs.eq
/-- acc stands at D, and I holds ahead of turn i -/
def LcN (I : Nat → List V → List Asn → Prop) (i : Nat) (D : Addr) : Hp → Prop := fun H => ∃ acc M, I i acc M ∧ Star (pt D (.lst acc) :: M) H
def LcA (D : Addr) (N : Hp → Prop) : VK := fun y H4 => ∃ acc, H4 D = some (.lst acc) ∧ acc.length < sizeLine ∧ N (upd H4 D (.lst (acc ++ [y])))
def LcB (tt : TT) (te : TE) (D : Addr) (N : Hp → Prop) (vs : List Nat) (σ : L2.St) : L2.St → Hp → Prop := fun σ2 H2 => wipe σ2 vs = wipe σ vs ∧ tt σ2 H2 (IfK (fun H3 => te σ2 H3 (LcA D N)) N)
section
variable {L L0 : List Asn} {σ σ' : L2.St} {K : PySem.W.Frag} {tt : TT} {te : TE} {vs : List Nat} {Q : VK} {J : It} {g : TG} {D : Addr} {acc : List V} {y : V} {I : Nat → List V → List Asn → Prop} {i : Nat} {M : List Asn} {N : Hp → Prop}
theorem a_lc {wi : TI} (k : Al L (fun H => wi σ H fun J H1 => LcW J g tt te vs σ Q H1)) : Al L (fun H => tLc wi g tt te vs σ H Q) := k
theorem a_yes {QB : Bool → Hp → Prop} (k : Al L (QB true)) : Al L (fun H => tYes σ H QB) := k
theorem a_lcB (e : wipe σ' vs = wipe σ vs) (k : Al L (fun H => tt σ' H (IfK (fun H3 => te σ' H3 (LcA D N)) N))) : Al L (LcB tt te D N vs σ σ') := fun H s => ⟨e, k H s⟩
theorem a_lcA (r : Rem L (pt D (.lst acc)) L0) (hz : acc.length < sizeLine) (h : I i (acc ++ [y]) M) (e : Ent L0 M) : Al L (LcA D (LcN I i D) y) := fun H s =>
  ⟨acc, (r.ok s).at, hz, acc ++ [y], M, h, ((r.ok s).set _ id).tail fun H t => e H t⟩
theorem a_lcN (r : Rem L (pt D (.lst acc)) L0) (h : I i acc M) (e : Ent L0 M) : Al L (LcN I i D) := fun H s => ⟨acc, M, h, (r.ok s).tail fun H t => e H t⟩
theorem a_lcG (n : Nat) (I : Nat → List V → List Asn → Prop) (h0 : ∃ M, I 0 [] M ∧ Ent L M)
    (hgo : ∀ i acc M, i < n → I i acc M → ∀ H, Star M H → J.go i H) (hst : ∀ acc M, I n acc M → ∀ H, Star M H → J.stop n H)
    (hs : ∀ i acc M D, i < n → I i acc M → ∀ H, Star (pt D (.lst acc) :: M) H → ∀ x H', J.yld i H x H' → g x (wipe σ vs) H' (LcB tt te D (LcN I (i + 1) D) vs σ))
    (hd : ∀ acc M D, I n acc M → Al (pt D (.lst acc) :: M) (Q (.ref D))) : Al L (LcW J g tt te vs σ Q) := by
  intro H s D hD
  obtain ⟨M0, i0, e0⟩ := h0
  refine ⟨fun i m H => m = n - i ∧ i ≤ n ∧ LcN I i D H, ⟨n, by simp, Nat.zero_le _, [], M0, i0, (s.new hD).tail fun H t => e0 H t⟩, ?_⟩
  rintro i m H ⟨rfl, hi, acc, M, hI, hM⟩
  by_cases hlt : i < n
  · refine .inr ⟨hgo i acc M hlt hI H hM.drop, LcN I (i + 1) D, fun H' h' => ⟨n - (i + 1), by omega, rfl, hlt, h'⟩, fun x H' y => ?_⟩
    exact hs i acc M D hlt hI H hM x H' y
  · have e : i = n := by omega
    subst e
    exact .inl ⟨hst acc M hI H hM.drop, hd acc M D hI H hM⟩
theorem a_lcR {lo : Int} {n : Nat} {σw : L2.St} (hw : Wp σ vs σw) (I : Nat → List V → List Asn → Prop) (h0 : ∃ M, I 0 [] M ∧ Ent L M)
    (hs : ∀ i acc M D, i < n → I i acc M → Al (pt D (.lst acc) :: M) (fun H => g (.int (lo + i)) σw H (LcB tt te D (LcN I (i + 1) D) vs σ)))
    (hd : ∀ acc M D, I n acc M → Al (pt D (.lst acc) :: M) (Q (.ref D))) : Al L (LcW (Itr lo n) g tt te vs σ Q) :=
  a_lcG n I h0 (fun i _ _ h _ _ _ => h) (fun _ _ _ _ _ => Nat.le_refl n) (fun i acc M D h hI H s x H' y => by
    obtain ⟨rfl, rfl⟩ := y
    rw [hw.eq]
    exact hs i acc M D h hI H' s) hd
theorem a_lcC {lo c : Int} {n : Nat} {σw : L2.St} (hw : Wp σ vs σw) (I : Nat → List V → List Asn → Prop) (h0 : ∃ M, I 0 [] M ∧ Ent L M)
    (hs : ∀ i acc M D, i < n → I i acc M → Al (pt D (.lst acc) :: M) (fun H => g (.int (lo + (i : Nat) * c)) σw H (LcB tt te D (LcN I (i + 1) D) vs σ)))
    (hd : ∀ acc M D, I n acc M → Al (pt D (.lst acc) :: M) (Q (.ref D))) : Al L (LcW (Itc lo c n) g tt te vs σ Q) :=
  a_lcG n I h0 (fun i _ _ h _ _ _ => h) (fun _ _ _ _ _ => Nat.le_refl n) (fun i acc M D h hI H s x H' y => by
    obtain ⟨rfl, rfl⟩ := y
    rw [hw.eq]
    exact hs i acc M D h hI H' s) hd
theorem a_lcL {a : Addr} {xs : List V} {σw : L2.St} (hw : Wp σ vs σw) (I : Nat → List V → List Asn → Prop) (h0 : ∃ M, I 0 [] M ∧ Ent L M) (hl : ∀ i acc M, I i acc M → Ldg M K a xs)
    (hs : ∀ i x acc M D, xs[i]? = some x → I i acc M → Al (pt D (.lst acc) :: M) (fun H => g x σw H (LcB tt te D (LcN I (i + 1) D) vs σ)))
    (hd : ∀ acc M D, I xs.length acc M → Al (pt D (.lst acc) :: M) (Q (.ref D))) : Al L (LcW (Itl K a) g tt te vs σ Q) :=
  a_lcG xs.length I h0 (fun i acc M h hI H s => ⟨xs, xs[i], (hl i acc M hI).q H s, by simp [h]⟩) (fun acc M hI H s => ⟨xs, (hl _ acc M hI).q H s, Nat.le_refl _⟩) (fun i acc M D h hI H s x H' y => by
    obtain ⟨rfl, y⟩ := y
    rw [hw.eq]
    exact hs i x acc M D (y xs ((hl i acc M hI).q _ s.drop)) hI H' s) hd
theorem a_lcT {a : Addr} {xs : List V} {σw : L2.St} (hw : Wp σ vs σw) (I : Nat → List V → List Asn → Prop) (h0 : ∃ M, I 0 [] M ∧ Ent L M) (hl : ∀ i acc M, I i acc M → LdgT M K a xs)
    (hs : ∀ i x acc M D, xs[i]? = some x → I i acc M → Al (pt D (.lst acc) :: M) (fun H => g x σw H (LcB tt te D (LcN I (i + 1) D) vs σ)))
    (hd : ∀ acc M D, I xs.length acc M → Al (pt D (.lst acc) :: M) (Q (.ref D))) : Al L (LcW (Itt K a) g tt te vs σ Q) :=
  a_lcG xs.length I h0 (fun i acc M h hI H s => ⟨xs, xs[i], (hl i acc M hI).q H s, by simp [h]⟩) (fun acc M hI H s => ⟨xs, (hl _ acc M hI).q H s, Nat.le_refl _⟩) (fun i acc M D h hI H s x H' y => by
    obtain ⟨rfl, y⟩ := y
    rw [hw.eq]
    exact hs i x acc M D (y xs ((hl i acc M hI).q _ s.drop)) hI H' s) hd
theorem a_lcS {z : Str} {σw : L2.St} (hw : Wp σ vs σw) (I : Nat → List V → List Asn → Prop) (h0 : ∃ M, I 0 [] M ∧ Ent L M)
    (hs : ∀ i c acc M D, z.cps[i]? = some c → I i acc M → Al (pt D (.lst acc) :: M) (fun H => g (.str ⟨#[c]⟩) σw H (LcB tt te D (LcN I (i + 1) D) vs σ)))
    (hd : ∀ acc M D, I z.cps.size acc M → Al (pt D (.lst acc) :: M) (Q (.ref D))) : Al L (LcW (Its z) g tt te vs σ Q) :=
  a_lcG z.cps.size I h0 (fun i _ _ h _ _ _ => h) (fun _ _ _ _ _ => Nat.le_refl _) (fun i acc M D h hI H s x H' y => by
    obtain ⟨rfl, c, e, rfl⟩ := y
    rw [hw.eq]
    exact hs i c acc M D e hI H' s) hd
theorem a_lcE {z : Str} {σw : L2.St} (hw : Wp σ vs σw) (I : Nat → List V → List Asn → Prop) (h0 : ∃ M, I 0 [] M ∧ Ent L M)
    (hs : ∀ i c acc M D T, z.cps[i]? = some c → I i acc M → Al (pt T (.tup [.int ((i : Nat) + 1), .str ⟨#[c]⟩]) :: pt D (.lst acc) :: M) (fun H => g (.ref T) σw H (LcB tt te D (LcN I (i + 1) D) vs σ)))
    (hd : ∀ acc M D, I z.cps.size acc M → Al (pt D (.lst acc) :: M) (Q (.ref D))) : Al L (LcW (Ites z) g tt te vs σ Q) :=
  a_lcG z.cps.size I h0 (fun i _ _ h _ _ _ => h) (fun _ _ _ _ _ => rfl) (fun i acc M D h hI H s x H' y => by
    obtain ⟨T, c, rfl, hT, e, rfl⟩ := y
    rw [hw.eq]
    exact hs i c acc M D T e hI _ (s.new hT)) hd
/-- every item by its place, nothing else touched -/
def Pure (f : Nat → V) (M0 : List Asn) : Nat → List V → List Asn → Prop := fun i acc M => acc = (List.range i).map f ∧ M = M0
theorem pure_next {f : Nat → V} {i : Nat} {M0 : List Asn} {y : V} (e : y = f i) : Pure f M0 (i + 1) ((List.range i).map f ++ [y]) M0 := ⟨by rw [List.range_succ, List.map_append, e]; rfl, rfl⟩
theorem a_lcP {f : Nat → V} (r : Rem L (pt D (.lst ((List.range i).map f))) L0) (hz : i < sizeLine) (hy : y = f i) (e : Ent L0 M) : Al L (LcA D (LcN (Pure f M) (i + 1) D) y) :=
  a_lcA r (by rw [List.length_map, List.length_range]; exact hz) (pure_next hy) e
end
end AL

/-! The rules once more, the fragment named (a comprehension's reading may not speak of its frame). -/
namespace AL
open PySem PySem.Spec PyProof.Rows L2 RT RZ
def kTup (K : PySem.W.Frag) : List V → Hp → VK → Prop := fun xs H Q => ∃ p ys, xs = [.ref p] ∧ ((SqL K H p ys ∧ NewK (.tup ys) Q H) ∨ (SqT K H p ys ∧ Q (.ref p) H))
section
variable {X : Cx} {K : PySem.W.Frag} {tg : Expr} {pos p2 : Pos}
theorem q_add (h : X.K = K) : OpR X (binaryOp .Add) (bAdd K) := h ▸ o_add
theorem q_eq (h : X.K = K) (hu : X.A.units + 64 < cLine) : OpR X (compareOp .Eq) (cEq K) := h ▸ o_eq hu
theorem q_ne (h : X.K = K) (hu : X.A.units + 64 < cLine) : OpR X (compareOp .NotEq) (cNe K) := h ▸ o_ne hu
theorem q_in (h : X.K = K) (hu : X.A.units + 65 < cLine) : OpR X (compareOp .In) (cIn K) := h ▸ o_in hu
theorem q_notin (h : X.K = K) (hu : X.A.units + 65 < cLine) : OpR X (compareOp .NotIn) (cNotIn K) := h ▸ o_notin hu
theorem q_ix (h : X.K = K) (hu : X.A.units + 1 < cLine) : IxR X (xIx K) := h ▸ o_ix hu
theorem q_sl (h : X.K = K) : SlR X (sIx K) := h ▸ o_sl
theorem q_len (h : X.K = K) : CallR X (.builtin "len") (kLen K) := h ▸ k_len
theorem q_repr (h : X.K = K) (hg : X.A.guards = some []) (hu : X.A.units + 64 < cLine) : CallR X (.builtin "repr") (kRepr K) := h ▸ k_repr hg hu
theorem q_list (h : X.K = K) (hc : X.calm = true) : CallR X (.type "list") (kList K) := h ▸ k_list hc
theorem q_tup (h : X.K = K) : CallR X (.type "tuple") (kTup K) := h ▸ call_tuple_of
theorem q_join (h : X.K = K) : MtR X "str.join" (mJoin K) := h ▸ m_join
theorem q_sum (h : X.K = K) (hc : X.calm = true) : CallR X (.builtin "sum") (rSum K) := h ▸ cr_sum hc
theorem q_all (h : X.K = K) (hc : X.calm = true) : CallR X (.builtin "all") (rAll K) := h ▸ cr_all hc
theorem q_any (h : X.K = K) (hc : X.calm = true) : CallR X (.builtin "any") (rAny K) := h ▸ cr_any hc
theorem q_fld {e : Expr} {f : Str} {ta : TE} (h : X.K = K) (he : PE X e ta) (hb : attributeBase e f X.env (eval e X.env) = eval e X.env) : PE X (.Attribute e f pos) (tFld K ta f) := h ▸ pe_fld he hb
theorem qg_tup {es : List Expr} {k : Nat} {t : TGs} {n : Nat} (e : X.K = K) (hc : X.calm = true) (h : PGs X es t)
    (hn : (assignEach es X.env).length = n := by rfl) (hst : (assignEach es X.env).findIdx? (·.1) = none := by rfl) : PG X (.Tuple es k pos) (gTup K n t) := e ▸ pg_tup hc h hn hst
theorem qi_any {e : Expr} {te : TE} (h : X.K = K) (he : PE X e te) : PI X tg e (iAny K te) := h ▸ pi_any he
theorem qi_rev {e : Expr} {te : TE} {p : Pos} (h : X.K = K) (hg : Gl X "reversed") (hm : X.mg "reversed" = none) (he : PE X e te) (hs : starEach [e] X.env = (false, eval e X.env) :: starEach [] X.env := by rfl) : PI X tg (.Call (.Name "reversed" p) [e] [] pos) (iRevA K te) := h ▸ pi_revA hg hm he hs
theorem qi_enum {e : Expr} {ta : TA} {p tpos : Pos} {elts : List Expr} {kk : Nat} (h : X.K = K) (hg : Gl X "enumerate") (hm : X.mg "enumerate" = none) (ha : PA X [e] ta) (hs : starEach [e] X.env = [(false, eval e X.env)] := by rfl) :
    PI X (.Tuple elts kk tpos) (.Call (.Name "enumerate" p) [e] [] pos) (iEnum K ta) := h ▸ pi_enum hg hm ha hs
theorem qi_zip {e e2 : Expr} {ta : TA} {p tpos : Pos} {elts : List Expr} {kk : Nat} (h : X.K = K) (hg : Gl X "zip") (hm : X.mg "zip" = none) (ha : PA X [e, e2] ta)
    (hs : starEach [e, e2] X.env = (false, eval e X.env) :: starEach [e2] X.env := by rfl) (hpl : (backTo pos (starEach [e2] X.env)).any (·.1) = false := by rfl) :
    PI X (.Tuple elts kk tpos) (.Call (.Name "zip" p) [e, e2] [] pos) (iZipA K ta) := h ▸ pi_zipA hg hm ha hs hpl
theorem q_bm0 {o : Expr} {to : TE} {name : Str} {apos cpos : Pos} {T id : String} {r : V → List V → Hp → VK → Prop} (h : X.K = K) (pa : PlainAttrs T) (slot : Slot T name id) (hty : typeOf (.builtin id) = pure (.type "method_descriptor")) (hm : MtR X id r) (ho : PE X o to)
    (hbase : attributeBase o name X.env (eval o X.env) = eval o X.env := by rfl) (hline : (apos.endLine == cpos.line) = true := by rfl) : PE X (.Call (.Attribute o name apos) [] [] cpos) (tBM0 K T r to) := h ▸ pe_bm0 pa slot hty hm ho hbase hline
theorem q_bm {o e : Expr} {es : List Expr} {to : TE} {t : TA} {name : Str} {apos cpos : Pos} {T id : String} {r : V → List V → Hp → VK → Prop} (h : X.K = K) (pa : PlainAttrs T) (slot : Slot T name id) (hty : typeOf (.builtin id) = pure (.type "method_descriptor")) (hm : MtR X id r) (ho : PE X o to) (ha : PA X (e :: es) t)
    (hbase : attributeBase o name X.env (eval o X.env) = eval o X.env := by rfl)
    (hfew : ((backTo cpos (starEach (e :: es) X.env)).all (fun x => !x.1) && (backToKw cpos (keywordEach [] X.env)).all (fun x => x.1.isSome)
      && decide ((e :: es).length + ([] : List Keyword).length + (if ([] : List Keyword).isEmpty then 0 else 1) < 30)) = true := by rfl)
    (hline : (apos.endLine == cpos.line) = true := by rfl) (hs : starEach (e :: es) X.env = (false, eval e X.env) :: starEach es X.env := by rfl) (hplain : (backTo cpos (starEach es X.env)).any (·.1) = false := by rfl) :
    PE X (.Call (.Attribute o name apos) (e :: es) [] cpos) (tBM K T r to t) := h ▸ pe_bm pa slot hty hm ho ha hbase hfew hline hs hplain
end
section
variable {L L0 : List Asn} {K : PySem.W.Frag} {Q : VK} {p : Addr} {n : Nat}
theorem a_sumP {f : Nat → Int} (r : Rem L (pt p (.lst ((List.range n).map fun i => V.int (f i)))) L0) (k : Al L (Q (.int ((List.range n).map f).sum))) : Al L (fun H => rSum K [.ref p] H Q) :=
  a_sum (ns := (List.range n).map f) (by rw [List.map_map]; exact Ldg.pt r) k
theorem a_allP {f : Nat → Bool} (r : Rem L (pt p (.lst ((List.range n).map fun i => V.bl (f i)))) L0) (k : Al L (Q (.bl (((List.range n).map f).all id)))) : Al L (fun H => rAll K [.ref p] H Q) :=
  a_all (bs := (List.range n).map f) (by rw [List.map_map]; exact Ldg.pt r) k
end
end AL

/-! What a repr is asked for: data small enough, by its parts. Lists of numbers, of texts. -/
namespace AL
open PySem PySem.Spec PyProof.Rows L2
structure Sh (k w : Nat) (d : PyData) : Prop where
  sh : d.showable = true
  nd : d.hasDict = false
  dp : d.depth ≤ k
  lv : d.leavesShort 41 = true
  wt : d.weight ≤ w
theorem Sh.non {k w : Nat} : Sh k w .none := ⟨rfl, rfl, Nat.zero_le _, rfl, Nat.zero_le _⟩
theorem Sh.bl {k w : Nat} {b : Bool} : Sh k w (.bool b) := ⟨rfl, rfl, Nat.zero_le _, rfl, Nat.zero_le _⟩
theorem log_of {i : Int} (h : i.natAbs < 10 ^ 40) : i.natAbs.log2 < 140 := by
  by_cases h0 : i.natAbs = 0
  · rw [h0]; decide
  · exact (Nat.log2_lt h0).mpr (Nat.lt_trans h (by decide))
theorem Sh.int {k w : Nat} {i : Int} (h : i.natAbs < 10 ^ 40) (hw : 140 ≤ w := by decide) : Sh k w (.int i) := by
  have hl := log_of h
  refine ⟨?_, rfl, Nat.zero_le _, ?_, ?_⟩
  · show decide (i.natAbs.log2 < 1920) = true
    exact decide_eq_true (by omega)
  · show decide ((PyData.shown (.int i)).length ≤ 41) = true
    have e : (toString i).length ≤ 40 + 1 := PySem.int_text_length_le10 (by decide) h
    have e2 := PySem.ofString_length (toString i)
    exact decide_eq_true (by show (Str.ofString (toString i)).length ≤ 41; omega)
  · show (if i == 0 then 0 else i.natAbs.log2 + 1) ≤ w
    split <;> omega
theorem Sh.str {k w : Nat} {x : Str} (h : ∀ c ∈ x.cps.toList, c < 16 ^ 8) (hw : x.cps.size ≤ w) : Sh k w (.str x) := by
  refine ⟨rfl, rfl, Nat.zero_le _, ?_, hw⟩
  show (x.cps.toList.all fun c => decide (c < 16 ^ 8)) = true
  exact List.all_eq_true.mpr fun c hc => decide_eq_true (h c hc)
theorem Sh.alls {k w : Nat} : ∀ {ds : List PyData}, (∀ d ∈ ds, Sh k w d) → PyData.showableAll ds = true ∧ PyData.hasDictAll ds = false ∧ PyData.depthAll ds ≤ k ∧ PyData.leavesShortAll 41 ds = true ∧ PyData.weightAll ds ≤ ds.length * (w + 1)
  | [], _ => ⟨rfl, rfl, Nat.zero_le _, rfl, Nat.zero_le _⟩
  | d :: ds, h => by
    have h1 := h d (List.mem_cons_self ..)
    obtain ⟨a1, a2, a3, a4, a5⟩ := Sh.alls fun x hx => h x (List.mem_cons_of_mem _ hx)
    refine ⟨?_, ?_, ?_, ?_, ?_⟩
    · simp only [PyData.showableAll, h1.sh, a1, Bool.and_self]
    · simp only [PyData.hasDictAll, h1.nd, a2, Bool.or_self]
    · simp only [PyData.depthAll]
      have := h1.dp
      omega
    · simp only [PyData.leavesShortAll, h1.lv, a4, Bool.and_self]
    · simp only [PyData.weightAll, List.length_cons, Nat.add_mul, Nat.one_mul]
      have := h1.wt
      rw [Nat.mul_add, Nat.mul_one] at *
      omega
theorem Sh.list {k w : Nat} {ds : List PyData} (h : ∀ d ∈ ds, Sh k w d) : Sh (k + 1) (ds.length * (w + 1)) (.list ds) := by
  obtain ⟨a1, a2, a3, a4, a5⟩ := Sh.alls h
  exact ⟨a1, a2, Nat.succ_le_succ a3, a4, a5⟩
theorem Sh.tup {k w : Nat} {ds : List PyData} (h : ∀ d ∈ ds, Sh k w d) : Sh (k + 1) (ds.length * (w + 1)) (.tuple ds) := by
  obtain ⟨a1, a2, a3, a4, a5⟩ := Sh.alls h
  exact ⟨a1, a2, Nat.succ_le_succ a3, a4, a5⟩
theorem Sh.mono {k k' w w' : Nat} {d : PyData} (h : Sh k w d) (hk : k ≤ k') (hw : w ≤ w') : Sh k' w' d := ⟨h.sh, h.nd, Nat.le_trans h.dp hk, h.lv, Nat.le_trans h.wt hw⟩
theorem Sh.fits {k w : Nat} {d : PyData} (h : Sh k w d) (hw : w ≤ 300000) : d.shown.length ≤ sizeLine := by
  have e := PyData.shown_le 41 (by decide) d h.lv
  have h2 : (41 + 2) * d.weight ≤ 43 * 300000 := Nat.mul_le_mul_left _ (Nat.le_trans h.wt hw)
  rw [sizeLine_eq]; omega
/-- a list of numbers -/
theorem Sh.ints {ns : List Int} (h : ∀ n ∈ ns, n.natAbs < 10 ^ 40) : Sh 1 (ns.length * 141) (.list (ns.map PyData.int)) := by
  have q := Sh.list (k := 0) (w := 140) (ds := ns.map PyData.int) fun d hd => by
    obtain ⟨n, hn, rfl⟩ := List.mem_map.mp hd
    exact Sh.int (h n hn)
  rw [List.length_map] at q
  exact q
theorem DpAll.ints {K : PySem.W.Frag} {H : Hp} : ∀ (ns : List Int), DpAll K H (ns.map V.int) (ns.map PyData.int)
  | [] => .nil
  | n :: ns => .cons (.int n) (DpAll.ints ns)
section
variable {L L0 : List Asn} {K : PySem.W.Frag} {Q : VK} {p a : Addr} {n : Nat} {x : V} {d : PyData}
theorem LdD.ints {ns : List Int} (h : Ldg L K a (ns.map V.int)) : LdD L K (.ref a) (.list (ns.map PyData.int)) := ⟨fun H s => .lst (h.q H s) (DpAll.ints ns)⟩
theorem a_reprS {k w : Nat} (h : LdD L K x d) (s : Sh k w d) (hk : k ≤ 40) (hw : w ≤ 300000) (q : Al L (Q (.str d.shown))) : Al L (fun H => kRepr K [x] H Q) :=
  a_repr h s.sh s.nd (Nat.le_trans s.dp hk) (s.fits hw) q
theorem a_reprI {ns : List Int} (h : Ldg L K a (ns.map V.int)) (hb : ∀ n ∈ ns, n.natAbs < 10 ^ 40) (hz : ns.length ≤ 2000) (q : Al L (Q (.str (PyData.shown (.list (ns.map PyData.int)))))) : Al L (fun H => kRepr K [.ref a] H Q) :=
  a_reprS (LdD.ints h) (Sh.ints hb) (by decide) (by omega) q
end
/-- the two ways of an if meet again where I holds -/
theorem a_ifsJ {L : List Asn} {σ : L2.St} {nx : L2.St → Hp → Prop} {rt : VK} {bk ct : L2.St → Hp → Prop} {tt : TT} {ts tv : TS} (I : L2.St → List Asn → Prop) (k1 : ∀ F : L2.St → Hp → Prop, (∀ σ M, I σ M → Al M (F σ)) → Al L (fun H => tIfS tt ts tv ⟨F, rt, bk, ct⟩ σ H))
    (k2 : ∀ σ M, I σ M → Al M (nx σ)) : Al L (fun H => tIfS tt ts tv ⟨nx, rt, bk, ct⟩ σ H) := k1 nx k2
theorem join_ones : ∀ cs : List Nat, TL.joinL [] (cs.map fun c => [c]) = cs
  | [] => rfl
  | [c] => rfl
  | c :: d :: r => by
    have e := join_ones (d :: r)
    show [c] ++ ([] ++ TL.joinL [] ((d :: r).map fun c => [c])) = _
    rw [e]; rfl
theorem txt_ones (cs : List Nat) : Txt.join "" (cs.map fun c => (⟨#[c]⟩ : Str)) = ⟨cs.toArray⟩ := by
  have e := SX.join_S [] (cs.map fun c => [c])
  rw [join_ones, List.map_map] at e
  exact e
theorem sum_ones (cs : List Nat) : ((cs.map fun c => (⟨#[c]⟩ : Str)).map (·.length)).sum = cs.length := by
  induction cs with
  | nil => rfl
  | cons c cs ih => rw [List.map_cons, List.map_cons, List.sum_cons, ih, List.length_cons]; show 1 + _ = _; omega
/-- ''.join of single signs -/
theorem a_joinC {L L0 : List Asn} {K : PySem.W.Frag} {Q : VK} {p : Addr} {n : Nat} {f : Nat → Nat} (r : Rem L (pt p (.lst ((List.range n).map fun i => V.str ⟨#[f i]⟩))) L0) (hn : n ≤ 1000) (k : Al L (Q (.str ⟨((List.range n).map f).toArray⟩))) : Al L (fun H => mJoin K (.str "") [.ref p] H Q) := by
  refine a_join (ys := ((List.range n).map f).map fun c => (⟨#[c]⟩ : Str)) (by rw [List.map_map, List.map_map]; exact Ldg.pt r) ?_ (by rw [txt_ones]; exact k)
  rw [sum_ones, List.length_map, List.length_map, List.length_range]
  show n + n * 0 ≤ _
  omega
theorem a_dnew {L : List Asn} {σ : L2.St} {Q : VK} (k : ∀ p, Al (pt p (.dK []) :: L) (Q (.ref p))) : Al L (fun H => tDNewK σ H Q) := fun H s p hp => k p _ (s.new hp)
theorem a_neg {L : List Asn} {i : Int} {Q : VK} (k : Al L (Q (.int (-i)))) : Al L (fun H => rU (fun i => .int (-i)) (.int i) H Q) := fun H s => ⟨i, rfl, k H s⟩
theorem a_r3D {L : List Asn} {R : It → Hp → Prop} {i j : Int} (h : -(2 ^ 62) ≤ i ∧ i < 2 ^ 62 ∧ -(2 ^ 62) ≤ j ∧ j < 2 ^ 62) (k : Al L (R (Itc i (-1) (i - j).toNat))) : Al L (Rng3K R [.int i, .int j, .int (-1)]) := a_r3K _ (RgC.neg h.1 h.2.1 h.2.2.1 h.2.2.2) k
/-! ### items of a list that is written -/
theorem at0 {α : Type} {v : α} {r : List α} : atI (v :: r) 0 = some v := by
  show (ixN (r.length + 1) 0).bind _ = _
  have e : ixN (r.length + 1) 0 = some 0 := by
    show (if (0 : Int) ≤ 0 then (if (0 : Int) < ((r.length + 1 : Nat) : Int) then some (Int.toNat 0) else none) else _) = _
    rw [if_pos (by decide), if_pos (by omega)]; rfl
  rw [e]; rfl
theorem ix0 {v : V} {r : List V} : ixN (v :: r).length 0 = some 0 := by
  show (if (0 : Int) ≤ 0 then (if (0 : Int) < ((r.length + 1 : Nat) : Int) then some (Int.toNat 0) else none) else _) = _
  rw [if_pos (by decide), if_pos (by omega)]; rfl
theorem at1 {α : Type} {v0 v : α} {r : List α} : atI (v0 :: v :: r) 1 = some v := by
  show (ixN (r.length + 2) 1).bind _ = _
  have e : ixN (r.length + 2) 1 = some 1 := by
    show (if (0 : Int) ≤ 1 then (if (1 : Int) < ((r.length + 2 : Nat) : Int) then some (Int.toNat 1) else none) else _) = _
    rw [if_pos (by decide), if_pos (by omega)]; rfl
  rw [e]; rfl
theorem ix1 {v0 v : V} {r : List V} : ixN (v0 :: v :: r).length 1 = some 1 := by
  show (if (0 : Int) ≤ 1 then (if (1 : Int) < ((r.length + 2 : Nat) : Int) then some (Int.toNat 1) else none) else _) = _
  rw [if_pos (by decide), if_pos (by omega)]; rfl
theorem at2 {α : Type} {v0 v1 v : α} {r : List α} : atI (v0 :: v1 :: v :: r) 2 = some v := by
  show (ixN (r.length + 3) 2).bind _ = _
  have e : ixN (r.length + 3) 2 = some 2 := by
    show (if (0 : Int) ≤ 2 then (if (2 : Int) < ((r.length + 3 : Nat) : Int) then some (Int.toNat 2) else none) else _) = _
    rw [if_pos (by decide), if_pos (by omega)]; rfl
  rw [e]; rfl
theorem ix2 {v0 v1 v : V} {r : List V} : ixN (v0 :: v1 :: v :: r).length 2 = some 2 := by
  show (if (0 : Int) ≤ 2 then (if (2 : Int) < ((r.length + 3 : Nat) : Int) then some (Int.toNat 2) else none) else _) = _
  rw [if_pos (by decide), if_pos (by omega)]; rfl
theorem at3 {α : Type} {v0 v1 v2 v : α} {r : List α} : atI (v0 :: v1 :: v2 :: v :: r) 3 = some v := by
  show (ixN (r.length + 4) 3).bind _ = _
  have e : ixN (r.length + 4) 3 = some 3 := by
    show (if (0 : Int) ≤ 3 then (if (3 : Int) < ((r.length + 4 : Nat) : Int) then some (Int.toNat 3) else none) else _) = _
    rw [if_pos (by decide), if_pos (by omega)]; rfl
  rw [e]; rfl
theorem ix3 {v0 v1 v2 v : V} {r : List V} : ixN (v0 :: v1 :: v2 :: v :: r).length 3 = some 3 := by
  show (if (0 : Int) ≤ 3 then (if (3 : Int) < ((r.length + 4 : Nat) : Int) then some (Int.toNat 3) else none) else _) = _
  rw [if_pos (by decide), if_pos (by omega)]; rfl
theorem at4 {α : Type} {v0 v1 v2 v3 v : α} {r : List α} : atI (v0 :: v1 :: v2 :: v3 :: v :: r) 4 = some v := by
  show (ixN (r.length + 5) 4).bind _ = _
  have e : ixN (r.length + 5) 4 = some 4 := by
    show (if (0 : Int) ≤ 4 then (if (4 : Int) < ((r.length + 5 : Nat) : Int) then some (Int.toNat 4) else none) else _) = _
    rw [if_pos (by decide), if_pos (by omega)]; rfl
  rw [e]; rfl
theorem ix4 {v0 v1 v2 v3 v : V} {r : List V} : ixN (v0 :: v1 :: v2 :: v3 :: v :: r).length 4 = some 4 := by
  show (if (0 : Int) ≤ 4 then (if (4 : Int) < ((r.length + 5 : Nat) : Int) then some (Int.toNat 4) else none) else _) = _
  rw [if_pos (by decide), if_pos (by omega)]; rfl
theorem at5 {α : Type} {v0 v1 v2 v3 v4 v : α} {r : List α} : atI (v0 :: v1 :: v2 :: v3 :: v4 :: v :: r) 5 = some v := by
  show (ixN (r.length + 6) 5).bind _ = _
  have e : ixN (r.length + 6) 5 = some 5 := by
    show (if (0 : Int) ≤ 5 then (if (5 : Int) < ((r.length + 6 : Nat) : Int) then some (Int.toNat 5) else none) else _) = _
    rw [if_pos (by decide), if_pos (by omega)]; rfl
  rw [e]; rfl
theorem ix5 {v0 v1 v2 v3 v4 v : V} {r : List V} : ixN (v0 :: v1 :: v2 :: v3 :: v4 :: v :: r).length 5 = some 5 := by
  show (if (0 : Int) ≤ 5 then (if (5 : Int) < ((r.length + 6 : Nat) : Int) then some (Int.toNat 5) else none) else _) = _
  rw [if_pos (by decide), if_pos (by omega)]; rfl
theorem at6 {α : Type} {v0 v1 v2 v3 v4 v5 v : α} {r : List α} : atI (v0 :: v1 :: v2 :: v3 :: v4 :: v5 :: v :: r) 6 = some v := by
  show (ixN (r.length + 7) 6).bind _ = _
  have e : ixN (r.length + 7) 6 = some 6 := by
    show (if (0 : Int) ≤ 6 then (if (6 : Int) < ((r.length + 7 : Nat) : Int) then some (Int.toNat 6) else none) else _) = _
    rw [if_pos (by decide), if_pos (by omega)]; rfl
  rw [e]; rfl
theorem ix6 {v0 v1 v2 v3 v4 v5 v : V} {r : List V} : ixN (v0 :: v1 :: v2 :: v3 :: v4 :: v5 :: v :: r).length 6 = some 6 := by
  show (if (0 : Int) ≤ 6 then (if (6 : Int) < ((r.length + 7 : Nat) : Int) then some (Int.toNat 6) else none) else _) = _
  rw [if_pos (by decide), if_pos (by omega)]; rfl
theorem at7 {α : Type} {v0 v1 v2 v3 v4 v5 v6 v : α} {r : List α} : atI (v0 :: v1 :: v2 :: v3 :: v4 :: v5 :: v6 :: v :: r) 7 = some v := by
  show (ixN (r.length + 8) 7).bind _ = _
  have e : ixN (r.length + 8) 7 = some 7 := by
    show (if (0 : Int) ≤ 7 then (if (7 : Int) < ((r.length + 8 : Nat) : Int) then some (Int.toNat 7) else none) else _) = _
    rw [if_pos (by decide), if_pos (by omega)]; rfl
  rw [e]; rfl
theorem ix7 {v0 v1 v2 v3 v4 v5 v6 v : V} {r : List V} : ixN (v0 :: v1 :: v2 :: v3 :: v4 :: v5 :: v6 :: v :: r).length 7 = some 7 := by
  show (if (0 : Int) ≤ 7 then (if (7 : Int) < ((r.length + 8 : Nat) : Int) then some (Int.toNat 7) else none) else _) = _
  rw [if_pos (by decide), if_pos (by omega)]; rfl
/-- a list that is written, one item set -/
structure SetL (xs : List V) (j : Int) (v : V) (ys : List V) : Prop where
  h : ∃ n, ixN xs.length j = some n ∧ xs.set n v = ys
theorem st0 {a v : V} {r : List V} : SetL (a :: r) 0 v (v :: r) := ⟨0, ix0, rfl⟩
theorem st1 {v0 a v : V} {r : List V} : SetL (v0 :: a :: r) 1 v (v0 :: v :: r) := ⟨1, ix1, rfl⟩
theorem st2 {v0 v1 a v : V} {r : List V} : SetL (v0 :: v1 :: a :: r) 2 v (v0 :: v1 :: v :: r) := ⟨2, ix2, rfl⟩
theorem st3 {v0 v1 v2 a v : V} {r : List V} : SetL (v0 :: v1 :: v2 :: a :: r) 3 v (v0 :: v1 :: v2 :: v :: r) := ⟨3, ix3, rfl⟩
theorem st4 {v0 v1 v2 v3 a v : V} {r : List V} : SetL (v0 :: v1 :: v2 :: v3 :: a :: r) 4 v (v0 :: v1 :: v2 :: v3 :: v :: r) := ⟨4, ix4, rfl⟩
theorem st5 {v0 v1 v2 v3 v4 a v : V} {r : List V} : SetL (v0 :: v1 :: v2 :: v3 :: v4 :: a :: r) 5 v (v0 :: v1 :: v2 :: v3 :: v4 :: v :: r) := ⟨5, ix5, rfl⟩
theorem st6 {v0 v1 v2 v3 v4 v5 a v : V} {r : List V} : SetL (v0 :: v1 :: v2 :: v3 :: v4 :: v5 :: a :: r) 6 v (v0 :: v1 :: v2 :: v3 :: v4 :: v5 :: v :: r) := ⟨6, ix6, rfl⟩
theorem st7 {v0 v1 v2 v3 v4 v5 v6 a v : V} {r : List V} : SetL (v0 :: v1 :: v2 :: v3 :: v4 :: v5 :: v6 :: a :: r) 7 v (v0 :: v1 :: v2 :: v3 :: v4 :: v5 :: v6 :: v :: r) := ⟨7, ix7, rfl⟩
theorem a_setT {L L0 : List Asn} {σ : L2.St} {p : Addr} {xs ys : List V} {j : Int} {v : V} {QS : L2.St → Hp → Prop} (r : Rem L (pt p (.lst xs)) L0) (h : SetL xs j v ys) (q : Al (pt p (.lst ys) :: L0) (QS σ)) : Al L (GSubK sSet (.ref p) v QS σ (.int j)) := by
  obtain ⟨n, h1, h2⟩ := h.h
  exact a_setLl r h1 (by rw [h2]; exact q)
/-- one of a few -/
theorem pick2 {a b : V} {o : Int} (h0 : 0 ≤ o) (h1 : o < 2) : ∃ v, (v = a ∨ v = b) ∧ atI [a, b] o = some v := by
  obtain rfl | rfl : o = 0 ∨ o = 1 := by omega
  · exact ⟨a, .inl rfl, at0⟩
  · exact ⟨b, .inr rfl, at1⟩
theorem pick3 {a b c : V} {o : Int} (h0 : 0 ≤ o) (h1 : o < 3) : ∃ v, (v = a ∨ v = b ∨ v = c) ∧ atI [a, b, c] o = some v := by
  obtain rfl | rfl | rfl : o = 0 ∨ o = 1 ∨ o = 2 := by omega
  · exact ⟨a, .inl rfl, at0⟩
  · exact ⟨b, .inr (.inl rfl), at1⟩
  · exact ⟨c, .inr (.inr rfl), at2⟩
theorem pick4 {a b c d : V} {o : Int} (h0 : 0 ≤ o) (h1 : o < 4) : ∃ v, (v = a ∨ v = b ∨ v = c ∨ v = d) ∧ atI [a, b, c, d] o = some v := by
  obtain rfl | rfl | rfl | rfl : o = 0 ∨ o = 1 ∨ o = 2 ∨ o = 3 := by omega
  · exact ⟨a, .inl rfl, at0⟩
  · exact ⟨b, .inr (.inl rfl), at1⟩
  · exact ⟨c, .inr (.inr (.inl rfl)), at2⟩
  · exact ⟨d, .inr (.inr (.inr rfl)), at3⟩
/-- a dict that is a set of texts -/
def setOf (ws : List Str) : List (Key × V) := ws.map fun z => (.inr z, .bl true)
theorem setOf_put (ws : List Str) (z : Str) : ∃ ws', putK (setOf ws) (.inr z) (.bl true) = setOf ws' ∧ (∀ x ∈ ws', x = z ∨ x ∈ ws) ∧ ws'.length ≤ ws.length + 1 ∧ (ws.Nodup → ws'.Nodup) ∧ z ∈ ws' ∧ ∀ x ∈ ws, x ∈ ws' := by
  by_cases h : z ∈ ws
  · refine ⟨ws, ?_, fun x hx => .inr hx, by omega, fun n => n, h, fun x hx => hx⟩
    have e : ((setOf ws).any fun kv => decide (kv.1 = (.inr z : Key))) = true := List.any_eq_true.mpr ⟨(.inr z, .bl true), List.mem_map.mpr ⟨z, h, rfl⟩, decide_eq_true rfl⟩
    show (if ((setOf ws).any fun kv => decide (kv.1 = (.inr z : Key))) = true then _ else _) = _
    rw [if_pos e]
    unfold setOf
    rw [List.map_map]
    refine List.map_congr_left fun x _ => ?_
    show (if _ then _ else _) = _
    split <;> rfl
  · refine ⟨ws ++ [z], ?_, fun x hx => ?_, by rw [List.length_append]; exact Nat.le_refl _, fun n => ?_, List.mem_append_right _ (List.mem_singleton.mpr rfl), fun x hx => List.mem_append_left _ hx⟩
    · have e : ¬ ((setOf ws).any fun kv => decide (kv.1 = (.inr z : Key))) = true := fun q => by
        obtain ⟨kv, hk, e⟩ := List.any_eq_true.mp q
        obtain ⟨x, hx, rfl⟩ := List.mem_map.mp hk
        have e := of_decide_eq_true e
        injection e with e
        exact h (e ▸ hx)
      show (if ((setOf ws).any fun kv => decide (kv.1 = (.inr z : Key))) = true then _ else _) = _
      rw [if_neg e]
      unfold setOf
      rw [List.map_append]; rfl
    · rcases List.mem_append.mp hx with q | q
      · exact .inr q
      · exact .inl (List.mem_singleton.mp q)
    · exact List.nodup_append.mpr ⟨n, by simp, fun a ha b hb => by rw [List.mem_singleton.mp hb]; exact fun e => h (e ▸ ha)⟩
theorem setOf_keys (ws : List Str) : ((setOf ws).map fun kv => kV kv.1) = ws.map V.str := by
  unfold setOf
  rw [List.map_map]; rfl
theorem setOf_length (ws : List Str) : (setOf ws).length = ws.length := by unfold setOf; rw [List.length_map]
/-! ### lists of numbers by place -/
theorem atI_int {ns : List Int} {k : Nat} {j : Int} (e : j = k) (h : k < ns.length) : atI (ns.map V.int) j = some (.int (ns.getD k 0)) := by
  subst e
  exact atI_nat (by rw [List.getElem?_map, List.getD_eq_getElem?_getD, List.getElem?_eq_getElem h]; rfl)
theorem set_int {ns : List Int} {k : Nat} {v : Int} : (ns.map V.int).set k (.int v) = (ns.set k v).map V.int := by rw [List.map_set]
theorem ixN_of {n k : Nat} {j : Int} (e : j = k) (h : k < n) : ixN n j = some k := by
  have h0 : (0 : Int) ≤ j := by omega
  have h1 : j < (n : Int) := by omega
  show (if 0 ≤ j then (if j < n then some j.toNat else none) else _) = _
  rw [if_pos h0, if_pos h1, e]; rfl
section
variable {L L0 : List Asn} {K : PySem.W.Frag} {Q : VK} {p a : Addr} {σ : L2.St} {ns : List Int} {j v : Int}
theorem a_xI (k : Nat) (h : Ldg L K a (ns.map V.int)) (e : j = k) (hk : k < ns.length) (q : Al L (Q (.int (ns.getD k 0)))) : Al L (fun H => xIx K (.ref a) (.int j) H Q) := a_xL h (atI_int e hk) q
theorem a_setI {QS : L2.St → Hp → Prop} (k : Nat) (r : Rem L (pt p (.lst (ns.map V.int))) L0) (e : j = k) (hk : k < ns.length) (q : Al (pt p (.lst ((ns.set k v).map V.int)) :: L0) (QS σ)) : Al L (GSubK sSet (.ref p) (.int v) QS σ (.int j)) :=
  a_setLl r (ixN_of e (by rw [List.length_map]; exact hk)) (by rw [set_int]; exact q)
end
end AL

/-! Sums over places; parts of texts; reprs of lists by place. -/
namespace AL
open PySem PySem.Spec PyProof.Rows L2
/-- the sum of f over the first n places -/
def sg (n : Nat) (f : Nat → Int) : Int := ((List.range n).map f).sum
theorem sg_zero {f : Nat → Int} : sg 0 f = 0 := rfl
theorem sg_succ {n : Nat} {f : Nat → Int} : sg (n + 1) f = sg n f + f n := by
  unfold sg
  rw [List.range_succ, List.map_append, List.sum_append]
  show _ + (f n + 0) = _
  rw [Int.add_zero]
theorem sg_congr {n : Nat} {f g : Nat → Int} (h : ∀ i, i < n → f i = g i) : sg n f = sg n g := by
  induction n with
  | zero => rfl
  | succ n ih => rw [sg_succ, sg_succ, ih fun i hi => h i (by omega), h n (by omega)]
theorem sg_add {n : Nat} {f g : Nat → Int} : sg n (fun i => f i + g i) = sg n f + sg n g := by
  induction n with
  | zero => rfl
  | succ n ih => rw [sg_succ, sg_succ, sg_succ, ih]; omega
theorem sg_const {n : Nat} {c : Int} : sg n (fun _ => c) = n * c := by
  induction n with
  | zero => rw [sg_zero]; simp
  | succ n ih => rw [sg_succ, ih, Int.natCast_add, Int.add_mul]; simp
/-- every tail summed: each place once more than its place -/
theorem sg_tails (v : Nat → Int) : ∀ n : Nat, sg n (fun f => sg (n - f) fun j => v (f + j)) = sg n fun i => ((i : Int) + 1) * v i
  | 0 => rfl
  | n + 1 => by
    have e : sg (n + 1) (fun f => sg (n + 1 - f) fun j => v (f + j)) = sg (n + 1) fun f => (sg (n - f) fun j => v (f + j)) + v n := by
      refine sg_congr fun f hf => ?_
      rw [show n + 1 - f = (n - f) + 1 by omega, sg_succ, show f + (n - f) = n by omega]
    rw [e, sg_add, sg_const, sg_succ, show n - n = 0 by omega, sg_zero, Int.add_zero, sg_tails v n, sg_succ, Int.natCast_add]
    rfl
theorem sg_bound {n : Nat} {f : Nat → Int} {c : Int} (h : ∀ i, i < n → 0 ≤ f i ∧ f i ≤ c) : 0 ≤ sg n f ∧ sg n f ≤ n * c := by
  induction n with
  | zero => rw [sg_zero]; simp
  | succ n ih =>
    have h1 := ih fun i hi => h i (by omega)
    have h2 := h n (by omega)
    rw [sg_succ, Int.natCast_add, Int.add_mul]
    simp
    omega
theorem map_succ {α : Type} {g : Nat → α} {i : Nat} : (List.range i).map g ++ [g i] = (List.range (i + 1)).map g := by
  rw [List.range_succ, List.map_append]; rfl
theorem pow4_le {a b : Nat} (h : a ≤ b) : (4 : Int) ^ a ≤ 4 ^ b := by
  have e : (4 : Nat) ^ a ≤ 4 ^ b := Nat.pow_le_pow_right (by decide) h
  exact_mod_cast e
theorem sg_le {n : Nat} {f g : Nat → Int} (h : ∀ i, i < n → f i ≤ g i) : sg n f ≤ sg n g := by
  induction n with
  | zero => exact Int.le_refl _
  | succ n ih =>
    have h1 := ih fun i hi => h i (by omega)
    have h2 := h n (by omega)
    rw [sg_succ, sg_succ]; omega
theorem a_ifFe {L : List Asn} {P1 P2 : Hp → Prop} {b : Bool} (e : b = false) (k : Al L P2) : Al L (IfK P1 P2 b) := by subst e; exact a_ifF k
theorem a_ifTe {L : List Asn} {P1 P2 : Hp → Prop} {b : Bool} (e : b = true) (k : Al L P1) : Al L (IfK P1 P2 b) := by subst e; exact a_ifT k
theorem a_reprL {L : List Asn} {K : PySem.W.Frag} {Q : VK} {a : Addr} {xs : List V} {ns : List Int} (h : Ldg L K a xs) (e : xs = ns.map V.int) (hb : ∀ n ∈ ns, n.natAbs < 10 ^ 40) (hz : ns.length ≤ 2000) (q : Al L (Q (.str (PyData.shown (.list (ns.map PyData.int)))))) : Al L (fun H => kRepr K [.ref a] H Q) :=
  a_reprI (ns := ns) (by rw [← e]; exact h) hb hz q
theorem a_joinS {L L0 : List Asn} {K : PySem.W.Frag} {Q : VK} {p : Addr} {cs : List Nat} (r : Rem L (pt p (.lst (cs.map fun c => V.str ⟨#[c]⟩))) L0) (hn : cs.length ≤ 1000) (k : Al L (Q (.str ⟨cs.toArray⟩))) : Al L (fun H => mJoin K (.str "") [.ref p] H Q) := by
  refine a_join (ys := cs.map fun c => (⟨#[c]⟩ : Str)) (by rw [List.map_map]; exact Ldg.pt r) ?_ (by rw [txt_ones]; exact k)
  rw [sum_ones, List.length_map]
  show cs.length + cs.length * 0 ≤ _
  omega
theorem map_push {α β : Type} {g : α → β} {cs : List α} {c : α} : cs.map g ++ [g c] = (cs ++ [c]).map g := by rw [List.map_append]; rfl
/-! ### parts of a text -/
theorem cut_from {z : Str} {k : Nat} (h : k ≤ z.cps.size) : (cutS z (some (k : Int)) none).cps.toList = z.cps.toList.drop k := by
  unfold cutS
  rw [HT.sIx_nat, HT.sIx_none]
  show ((z.cps.toList.drop (min k z.cps.size)).take (z.cps.size - min k z.cps.size)).toArray.toList = _
  rw [Nat.min_eq_left h, List.take_of_length_le (by rw [List.length_drop, Array.length_toList]; exact Nat.le_refl _)]
theorem cut_to {z : Str} {k : Nat} : (cutS z none (some (k : Int))).cps.toList = z.cps.toList.take k := by
  unfold cutS
  rw [HT.sIx_nat]
  show ((z.cps.toList.drop 0).take (min k z.cps.size - 0)).toArray.toList = _
  rw [List.drop_zero, Nat.sub_zero]
  show z.cps.toList.take (min k z.cps.size) = _
  by_cases hk : k ≤ z.cps.size
  · rw [Nat.min_eq_left hk]
  · rw [Nat.min_eq_right (by omega), List.take_of_length_le (by rw [Array.length_toList]; exact Nat.le_refl _), List.take_of_length_le (by rw [Array.length_toList]; omega)]
theorem cutV_to {xs : List V} {k : Nat} (h : k ≤ xs.length) : cutV xs none (some (k : Int)) = xs.take k := by
  unfold cutV
  rw [HT.sIx_nat]
  show (xs.drop 0).take (min k xs.length - 0) = _
  rw [List.drop_zero, Nat.sub_zero, Nat.min_eq_left h]
theorem cutV_from {xs : List V} {k : Nat} (h : k ≤ xs.length) : cutV xs (some (k : Int)) none = xs.drop k := by
  unfold cutV
  rw [HT.sIx_nat, Nat.min_eq_left h]
  show (xs.drop k).take (xs.length - k) = _
  rw [List.take_of_length_le (by rw [List.length_drop]; exact Nat.le_refl _)]
theorem str_ext {x y : Str} (h : x.cps.toList = y.cps.toList) : x = y := by
  obtain ⟨⟨x⟩⟩ := x
  obtain ⟨⟨y⟩⟩ := y
  simpa using h
theorem getD_toList {a : Array Nat} {i : Nat} : a.getD i 0 = a.toList.getD i 0 := by
  rw [Array.getD_eq_getD_getElem?, List.getD_eq_getElem?_getD, Array.getElem?_toList]
section
variable {L L0 : List Asn} {K : PySem.W.Frag} {Q : VK} {p : Addr} {n : Nat}
theorem a_sumS {f : Nat → Int} (r : Rem L (pt p (.lst ((List.range n).map fun i => V.int (f i)))) L0) (k : Al L (Q (.int (sg n f)))) : Al L (fun H => rSum K [.ref p] H Q) := a_sumP r k
theorem a_reprP {f : Nat → Int} (r : Rem L (pt p (.lst ((List.range n).map fun i => V.int (f i)))) L0) (hb : ∀ i, i < n → (f i).natAbs < 10 ^ 40) (hz : n ≤ 2000) (k : Al L (Q (.str (PyData.shown (.list (((List.range n).map f).map PyData.int)))))) : Al L (fun H => kRepr K [.ref p] H Q) :=
  a_reprI (ns := (List.range n).map f) (by rw [List.map_map]; exact Ldg.pt r) (fun m hm => by
    obtain ⟨i, hi, rfl⟩ := List.mem_map.mp hm
    exact hb i (List.mem_range.mp hi)) (by rw [List.length_map, List.length_range]; exact hz) k
end
end AL

namespace My
open PySem PySem.Spec PyProof.Rows L2 AL
local macro_rules | `(tactic| tb_rel) => `(tactic| first
  | (with_reducible first
    | apply Rem.here | apply GetAt.z | apply SetAt.z | (apply Rem.dup; apply Dup.tup; done) | apply Sub.nil | apply Wp.nil)
  | ((with_reducible first | apply Rem.there | apply GetAt.s | apply SetAt.s); tb_rel) | ((with_reducible apply Sub.cons); tb_rel; tb_rel) | ((with_reducible apply Wp.cons); tb_rel; tb_rel)
  | (apply Sub.cons; tb_rel; tb_rel) | (apply Wp.cons; tb_rel; tb_rel) | apply Sub.nil | apply Wp.nil)
local macro_rules | `(tactic| top_args) => `(tactic| first | (focus ((with_reducible apply Ldg.pt); tb_rel; done)) | (focus ((with_reducible apply Ldg.sq); tb_rel; done)) | (focus ((with_reducible apply LdgT.pt); tb_rel; done)) | assumption)
local macro_rules | `(tactic| tb_start) => `(tactic| repeat (first
  | (with_reducible first
  | apply a_seq | apply a_asg | apply a_ret | apply a_drop | apply a_next | apply a_retN | apply a_op | apply a_c | apply a_cb | apply a_cons | apply a_nil | apply a_un | apply a_test 
  | apply a_tB | apply a_bl | apply a_bm | apply a_tyS | apply a_gC | apply a_g0 | apply a_gSub | apply a_call | apply a_meth | apply a_fld | apply a_add_ii | apply a_sub | apply a_lt 
  | apply a_le | apply a_gt | apply a_ge | apply a_iadd | apply a_isub | apply a_for | apply a_and | apply a_or | apply a_not | apply a_andV | apply a_orV | apply a_notV | apply a_ifx 
  | apply a_chain | apply a_tup | apply a_lst | apply a_make | apply a_par | apply a_sl | apply a_part | apply a_partK | apply a_nopart | apply a_sfld | apply a_neg | apply a_r1 | apply a_r2 
  | apply a_r3 | apply a_iAny | apply a_itS | apply a_lc | apply a_yes | apply a_ifT | apply a_ifF | apply a_enS | apply a_enSK | apply a_en | apply a_brk | apply a_cont | apply a_abs 
  | apply a_min | apply a_max | apply a_int_b | apply a_isN | apply a_notN | apply a_inC | apply a_notinC | (apply a_new; intro _) | (apply a_dnew; intro _))
  | ((with_reducible apply a_var); tb_rel) | ((with_reducible apply a_gN); tb_rel) | ((with_reducible apply a_aug); tb_rel) | ((with_reducible apply a_parK); tb_rel; tb_rel)
  | ((with_reducible first | apply a_ceq | apply a_cne | apply a_lcB); rfl) | ((with_reducible first | apply a_len_l | apply a_tyL); top_args) | ((with_reducible apply a_len_t); top_args)
  | ((with_reducible apply a_mod); (first | omega | decide)) | ((with_reducible first | apply a_fdiv | apply a_idiv); (first | exact ⟨by decide, by decide⟩ | exact wide_div (b := 62) (by omega) (by omega) (by decide) (by decide)))
  | ((with_reducible apply a_mul); (first | exact cmul_bit | exact Or.inl ⟨by omega, by omega⟩ | exact Or.inr ⟨by omega, by omega⟩ | exact Or.inl ⟨by decide, by decide⟩ | exact Or.inr ⟨by decide, by decide⟩))
  | ((with_reducible first | apply a_pow | apply a_shl); (first | exact ⟨by decide, by decide, by decide⟩ | exact ⟨by omega, by omega, by first | decide | omega⟩))
  | ((with_reducible apply a_shr); (first | omega | decide))
  | ((with_reducible first | apply a_tupK | apply a_lstK); (first | exact Nat.le_of_ble_eq_true rfl | omega); intro _)
  | ((with_reducible apply a_xL); top_args; (with_reducible first | apply at0 | apply at1 | apply at2 | apply at3 | apply at4 | apply at5 | apply at6 | apply at7)) | ((with_reducible apply a_xT); top_args; (with_reducible first | apply at0 | apply at1 | apply at2 | apply at3 | apply at4 | apply at5 | apply at6 | apply at7)) | ((with_reducible apply a_setT); tb_rel; (with_reducible first | apply st0 | apply st1 | apply st2 | apply st3 | apply st4 | apply st5 | apply st6 | apply st7))
  | ((with_reducible apply a_gT); top_args; rfl) | ((with_reducible apply a_itL); top_args) | ((with_reducible apply a_itT); top_args)
  | ((with_reducible first | apply a_r3D | apply a_r2K); exact ⟨by omega, by omega, by omega, by omega⟩) | ((with_reducible apply a_r1K); exact ⟨by omega, by omega⟩)))
local macro_rules | `(tactic| top_name) => `(tactic| exact a_end (by tb_rel) (by assumption))

def top (i : Nat) : Stmt := PySem.Challenge.pw_roadsettings_k02_marks_and_digits.main.body.getD i (.Pass ⟨0, 0, 0, 0⟩)
abbrev s_mark : Stmt := top 3
abbrev s_digit : Stmt := top 4
abbrev s__law_cell_at : Stmt := top 6
abbrev s__law_box : Stmt := top 7
abbrev s__law_take : Stmt := top 8
abbrev s__law_of_mark : Stmt := top 9
abbrev s__law_names : Stmt := top 10
abbrev s__law_added : Stmt := top 11
abbrev s__law_figures : Stmt := top 12
abbrev s__law_number : Stmt := top 13
abbrev s__law_numbers_right : Stmt := top 14
abbrev s_law : Stmt := top 15
def d_mark : He.DefD := ⟨("mark", none), "mark", "mark", defArgs s_mark, defBody s_mark, defScope s_mark, [], []⟩
def d_digit : He.DefD := ⟨("digit", none), "digit", "digit", defArgs s_digit, defBody s_digit, defScope s_digit, [], []⟩
def d__law_cell_at : He.DefD := ⟨("_law_cell_at", none), "_law_cell_at", "_law_cell_at", defArgs s__law_cell_at, defBody s__law_cell_at, defScope s__law_cell_at, [], []⟩
def d__law_box : He.DefD := ⟨("_law_box", none), "_law_box", "_law_box", defArgs s__law_box, defBody s__law_box, defScope s__law_box, [], []⟩
def d__law_take : He.DefD := ⟨("_law_take", none), "_law_take", "_law_take", defArgs s__law_take, defBody s__law_take, defScope s__law_take, [], []⟩
def d__law_of_mark : He.DefD := ⟨("_law_of_mark", none), "_law_of_mark", "_law_of_mark", defArgs s__law_of_mark, defBody s__law_of_mark, defScope s__law_of_mark, [], []⟩
def d__law_names : He.DefD := ⟨("_law_names", none), "_law_names", "_law_names", defArgs s__law_names, defBody s__law_names, defScope s__law_names, [], []⟩
def d__law_added : He.DefD := ⟨("_law_added", none), "_law_added", "_law_added", defArgs s__law_added, defBody s__law_added, defScope s__law_added, [], []⟩
def d__law_figures : He.DefD := ⟨("_law_figures", none), "_law_figures", "_law_figures", defArgs s__law_figures, defBody s__law_figures, defScope s__law_figures, [], []⟩
def d__law_number : He.DefD := ⟨("_law_number", none), "_law_number", "_law_number", defArgs s__law_number, defBody s__law_number, defScope s__law_number, [], []⟩
def d__law_numbers_right : He.DefD := ⟨("_law_numbers_right", none), "_law_numbers_right", "_law_numbers_right", defArgs s__law_numbers_right, defBody s__law_numbers_right, defScope s__law_numbers_right, [], []⟩
def d_law : He.DefD := ⟨("law", none), "law", "law", defArgs s_law, defBody s_law, defScope s_law, [], []⟩
def fn : List He.DefD := [d_mark, d_digit, d__law_cell_at, d__law_box, d__law_take, d__law_of_mark, d__law_names, d__law_added, d__law_figures, d__law_number, d__law_numbers_right, d_law]
def fa0 : List He.Fa := [.glo "mark", .glo "digit", .glo "_law_cell_at", .glo "_law_box", .glo "_law_take", .glo "_law_of_mark", .glo "_law_names", .glo "_law_added", .glo "_law_figures", .glo "_law_number", .glo "_law_numbers_right", .glo "law", .free "sum", .free "enumerate", .free "range", .free "len", .free "abs", .free "int", .free "min", .free "list", .free "divmod", .free "repr", .free "all", .str "LETTERS" "abcdefghijklmnopqrstuvwxyz", .int "BASE" 4]
def fa : List He.Fa := fa0
structure Fx (K : PySem.W.Frag) (mg : Str → Option Value) : Prop where
  g_mark : mg "mark" = some (.ref (He.ga K "mark"))
  g_digit : mg "digit" = some (.ref (He.ga K "digit"))
  g__law_cell_at : mg "_law_cell_at" = some (.ref (He.ga K "_law_cell_at"))
  g__law_box : mg "_law_box" = some (.ref (He.ga K "_law_box"))
  g__law_take : mg "_law_take" = some (.ref (He.ga K "_law_take"))
  g__law_of_mark : mg "_law_of_mark" = some (.ref (He.ga K "_law_of_mark"))
  g__law_names : mg "_law_names" = some (.ref (He.ga K "_law_names"))
  g__law_added : mg "_law_added" = some (.ref (He.ga K "_law_added"))
  g__law_figures : mg "_law_figures" = some (.ref (He.ga K "_law_figures"))
  g__law_number : mg "_law_number" = some (.ref (He.ga K "_law_number"))
  g__law_numbers_right : mg "_law_numbers_right" = some (.ref (He.ga K "_law_numbers_right"))
  g_law : mg "law" = some (.ref (He.ga K "law"))
  b_sum : mg "sum" = none
  b_enumerate : mg "enumerate" = none
  b_range : mg "range" = none
  b_len : mg "len" = none
  b_abs : mg "abs" = none
  b_int : mg "int" = none
  b_min : mg "min" = none
  b_list : mg "list" = none
  b_divmod : mg "divmod" = none
  b_repr : mg "repr" = none
  b_all : mg "all" = none
  i_LETTERS : ∃ t, mg "LETTERS" = some (.str "abcdefghijklmnopqrstuvwxyz" t)
  i_BASE : ∃ t, mg "BASE" = some (.int 4 t)
  d_mark : ∃ fd, FunD K "mark" "mark" (defArgs s_mark) (defBody s_mark) (defScope s_mark) [] [] (He.fAd K ("mark", none)) fd
  d_digit : ∃ fd, FunD K "digit" "digit" (defArgs s_digit) (defBody s_digit) (defScope s_digit) [] [] (He.fAd K ("digit", none)) fd
  d__law_cell_at : ∃ fd, FunD K "_law_cell_at" "_law_cell_at" (defArgs s__law_cell_at) (defBody s__law_cell_at) (defScope s__law_cell_at) [] [] (He.fAd K ("_law_cell_at", none)) fd
  d__law_box : ∃ fd, FunD K "_law_box" "_law_box" (defArgs s__law_box) (defBody s__law_box) (defScope s__law_box) [] [] (He.fAd K ("_law_box", none)) fd
  d__law_take : ∃ fd, FunD K "_law_take" "_law_take" (defArgs s__law_take) (defBody s__law_take) (defScope s__law_take) [] [] (He.fAd K ("_law_take", none)) fd
  d__law_of_mark : ∃ fd, FunD K "_law_of_mark" "_law_of_mark" (defArgs s__law_of_mark) (defBody s__law_of_mark) (defScope s__law_of_mark) [] [] (He.fAd K ("_law_of_mark", none)) fd
  d__law_names : ∃ fd, FunD K "_law_names" "_law_names" (defArgs s__law_names) (defBody s__law_names) (defScope s__law_names) [] [] (He.fAd K ("_law_names", none)) fd
  d__law_added : ∃ fd, FunD K "_law_added" "_law_added" (defArgs s__law_added) (defBody s__law_added) (defScope s__law_added) [] [] (He.fAd K ("_law_added", none)) fd
  d__law_figures : ∃ fd, FunD K "_law_figures" "_law_figures" (defArgs s__law_figures) (defBody s__law_figures) (defScope s__law_figures) [] [] (He.fAd K ("_law_figures", none)) fd
  d__law_number : ∃ fd, FunD K "_law_number" "_law_number" (defArgs s__law_number) (defBody s__law_number) (defScope s__law_number) [] [] (He.fAd K ("_law_number", none)) fd
  d__law_numbers_right : ∃ fd, FunD K "_law_numbers_right" "_law_numbers_right" (defArgs s__law_numbers_right) (defBody s__law_numbers_right) (defScope s__law_numbers_right) [] [] (He.fAd K ("_law_numbers_right", none)) fd
  d_law : ∃ fd, FunD K "law" "law" (defArgs s_law) (defBody s_law) (defScope s_law) [] [] (He.fAd K ("law", none)) fd
theorem fx_of {K : PySem.W.Frag} {h : Heap} {mg : Str → Option Value} (X : K.In h) (G : h.Ns mainGlobals mg) (c : He.SaysD fa fn K) : Fx K mg :=
  ⟨He.glo_ok X G (c.fact 0 (f := .glo "mark") rfl),
   He.glo_ok X G (c.fact 1 (f := .glo "digit") rfl),
   He.glo_ok X G (c.fact 2 (f := .glo "_law_cell_at") rfl),
   He.glo_ok X G (c.fact 3 (f := .glo "_law_box") rfl),
   He.glo_ok X G (c.fact 4 (f := .glo "_law_take") rfl),
   He.glo_ok X G (c.fact 5 (f := .glo "_law_of_mark") rfl),
   He.glo_ok X G (c.fact 6 (f := .glo "_law_names") rfl),
   He.glo_ok X G (c.fact 7 (f := .glo "_law_added") rfl),
   He.glo_ok X G (c.fact 8 (f := .glo "_law_figures") rfl),
   He.glo_ok X G (c.fact 9 (f := .glo "_law_number") rfl),
   He.glo_ok X G (c.fact 10 (f := .glo "_law_numbers_right") rfl),
   He.glo_ok X G (c.fact 11 (f := .glo "law") rfl),
   He.free_ok X G (c.fact 12 (f := .free "sum") rfl),
   He.free_ok X G (c.fact 13 (f := .free "enumerate") rfl),
   He.free_ok X G (c.fact 14 (f := .free "range") rfl),
   He.free_ok X G (c.fact 15 (f := .free "len") rfl),
   He.free_ok X G (c.fact 16 (f := .free "abs") rfl),
   He.free_ok X G (c.fact 17 (f := .free "int") rfl),
   He.free_ok X G (c.fact 18 (f := .free "min") rfl),
   He.free_ok X G (c.fact 19 (f := .free "list") rfl),
   He.free_ok X G (c.fact 20 (f := .free "divmod") rfl),
   He.free_ok X G (c.fact 21 (f := .free "repr") rfl),
   He.free_ok X G (c.fact 22 (f := .free "all") rfl),
   He.str_ok X G (c.fact 23 (f := .str "LETTERS" "abcdefghijklmnopqrstuvwxyz") rfl),
   He.int_ok X G (c.fact 24 (f := .int "BASE" 4) rfl),
   c.def_ 0 (d := d_mark) rfl,
   c.def_ 1 (d := d_digit) rfl,
   c.def_ 2 (d := d__law_cell_at) rfl,
   c.def_ 3 (d := d__law_box) rfl,
   c.def_ 4 (d := d__law_take) rfl,
   c.def_ 5 (d := d__law_of_mark) rfl,
   c.def_ 6 (d := d__law_names) rfl,
   c.def_ 7 (d := d__law_added) rfl,
   c.def_ 8 (d := d__law_figures) rfl,
   c.def_ 9 (d := d__law_number) rfl,
   c.def_ 10 (d := d__law_numbers_right) rfl,
   c.def_ 11 (d := d_law) rfl⟩

section
variable {P : Program} {w : World} {K : PySem.W.Frag} {mg : Str → Option Value} {base : Heap}
/-! ### the law's draws -/
/-- a box of draws: three numbers, the last one how many were mixed, at most n -/
def Box (b : Addr) (n : Nat) : Asn := fun H => ∃ x y z : Int, (0 ≤ x ∧ 0 ≤ y ∧ y < 2 ^ 62 ∧ 0 ≤ z ∧ z ≤ n) ∧ H b = some (.lst [.int x, .int y, .int z])
theorem Box.open {b : Addr} {n : Nat} {L : List Asn} {P : Hp → Prop} (k : ∀ x y z : Int, 0 ≤ x → 0 ≤ y → y < 2 ^ 62 → 0 ≤ z → z ≤ n → Al (pt b (.lst [.int x, .int y, .int z]) :: L) P) : Al (Box b n :: L) P :=
  fun H ⟨H1, H2, s, ⟨x, y, z, ⟨h1, h2, h3, h4, h5⟩, e⟩, t⟩ => k x y z h1 h2 h3 h4 h5 H ⟨H1, H2, s, e, t⟩
theorem Box.fold {b : Addr} {n : Nat} {x y z : Int} {L : List Asn} {P : Hp → Prop} (h1 : 0 ≤ x) (h2 : 0 ≤ y) (h3 : y < 2 ^ 62) (h4 : 0 ≤ z) (h5 : z ≤ n) (k : Al (Box b n :: L) P) : Al (pt b (.lst [.int x, .int y, .int z]) :: L) P :=
  fun H h => k H (h.head fun H a => ⟨x, y, z, ⟨h1, h2, h3, h4, h5⟩, a⟩)
theorem Box.up {b : Addr} {n m : Nat} {L : List Asn} {P : Hp → Prop} (h : n ≤ m) (k : Al (Box b m :: L) P) : Al (Box b n :: L) P :=
  Box.open fun x y z h1 h2 h3 h4 h5 => Box.fold (n := m) h1 h2 h3 h4 (by omega) k
def S_cell (K : PySem.W.Frag) : Tri where
  G := (Addr × List Int) × Nat
  O := Unit
  args g := [.ref g.1.1, .int g.2]
  pre g := [sq K g.1.1 (g.1.2.map V.int)]
  res g o := .int (g.1.2.getD g.2 0)
  post g o := [sq K g.1.1 (g.1.2.map V.int)]
theorem use_cell {K : PySem.W.Frag} {L L0 : List Asn} {a : Addr} {ns : List Int} {k : Nat} {Q : VK} {E : XK} (r : Rem L (sq K a (ns.map V.int)) L0)
    (q : Al (sq K a (ns.map V.int) :: L0) (Q (.int (ns.getD k 0)))) : Al L (fun H => (S_cell K).sp ([.ref a, .int k] ++ []) H Q E) :=
  Tri.use (S_cell K) (((a, ns), k) : (Addr × List Int) × Nat) rfl trivial (.cons r .nil) fun _ _ => q
abbrev N__law_cell_at : List Str := ["_law_script", "_law_k"]
theorem sc__law_cell_at : FnScope N__law_cell_at ["_law_script", "_law_k"] (defScope s__law_cell_at) := ⟨rfl, rfl, rfl, by decide +kernel, rfl, by decide +kernel, by decide +kernel⟩
theorem ok__law_cell_at (T : Fx K mg) : FnG P w K mg base 1 (He.fAd K ("_law_cell_at", none)) ["_law_script", "_law_k"] (S_cell K).sp := by
  refine Tri.fn (N := N__law_cell_at) (k := 0) (S_cell K) T.d__law_cell_at sc__law_cell_at (fun g => rfl) (fun _ _ _ _ _ _ us hl => match us, hl with | [_, _], _ => rfl) fun cdv A outer s H E Q g R hr hc ke kx => ⟨_, PSs.nox ((pss_cons (ps_if (pt_cmpR o_lt (pv 1) (pe_callB (q_len (K := K) rfl) (by rfl) T.b_len (by decide +kernel) (pa_cons (pv 0) pa_nil)) (nomark _)) (pss_one (ps_ret (pe_ix (q_ix (K := K) rfl hr.u1) (pv 0) (pv 1) (fun _ _ => rfl)))) pss_nil)
    (pss_one (ps_ret pe_int)))), ?_⟩
  obtain ⟨⟨a, ns⟩, k⟩ := g
  try dsimp only [cxOf]
  refine Al.start (L := [sq K a (ns.map V.int), R]) [some (.ref a), some (.int k)] rfl ?_
  tb_start
  refine a_ifs ?_
  tb_start
  rw [List.length_map]
  refine a_if ?_ ?_ <;> intro h
  · tb_start
    refine a_xL (by top_args) (atI_nat (j := k) (v := .int (ns.getD k 0)) (by rw [List.getElem?_map, List.getD_eq_getElem?_getD, List.getElem?_eq_getElem (by omega)]; rfl)) ?_
    exact a_end (by tb_rel) (ke () trivial)
  · tb_start
    have e : ns.getD k 0 = 0 := by rw [List.getD_eq_getElem?_getD, List.getElem?_eq_none (by omega)]; rfl
    rw [← e]
    exact a_end (by tb_rel) (ke () trivial)
def S_box (K : PySem.W.Frag) : Tri where
  G := (Addr × List Int) × Nat
  O := Addr
  args g := [.ref g.1.1, .int g.2]
  cond g := g.2 ≤ 63
  pre g := [sq K g.1.1 (g.1.2.map V.int)]
  res g o := .ref o
  post g o := [Box o 0, sq K g.1.1 (g.1.2.map V.int)]
abbrev N__law_box : List Str := ["_law_script", "_law_k", "_law_cell"]
theorem sc__law_box : FnScope N__law_box ["_law_script", "_law_k"] (defScope s__law_box) := ⟨rfl, rfl, rfl, by decide +kernel, rfl, by decide +kernel, by decide +kernel⟩
theorem ok__law_box (T : Fx K mg) : FnG P w K mg base 2 (He.fAd K ("_law_box", none)) ["_law_script", "_law_k"] (S_box K).sp := by
  refine Tri.fn (N := N__law_box) (k := 1) (S_box K) T.d__law_box sc__law_box (fun g => rfl) (fun _ _ _ _ _ _ us hl => match us, hl with | [_, _], _ => rfl) fun cdv A outer s H E Q g R hr hc ke kx => ⟨_, PSs.nox ((pss_cons (ps_set (i := 2) sc__law_box.nd rfl (.inl rfl) (ge_call (ok__law_cell_at T) hr.mono rfl T.g__law_cell_at px0 (pa_cons (pv 0) (pa_cons (pv 1) pa_nil))))
    (pss_one (ps_ret (pe_lst (pa_cons (pe_op o_mul (pe_callB k_abs (by rfl) T.b_abs (by decide +kernel) (pa_cons (pv 2) pa_nil)) (pe_callTy k_int (by rfl) T.b_int (by decide +kernel) (pa_cons (pe_cmpR o_ge (pe_callB k_abs (by rfl) T.b_abs (by decide +kernel) (pa_cons (pv 2) pa_nil)) (pe_op o_pow pe_int pe_int) (nomark _)) pa_nil))) (pa_cons (pe_op (q_add (K := K) rfl) (pe_op (q_add (K := K) rfl) (pe_op o_mod (pv 2) pe_int) (pe_op o_mul pe_int (pv 1))) pe_int) (pa_cons pe_int pa_nil)))))))), ?_⟩
  obtain ⟨⟨a, ns⟩, k⟩ := g
  have hk : k ≤ 63 := hc
  try dsimp only [cxOf]
  refine Al.start (L := [sq K a (ns.map V.int), R]) [some (.ref a), some (.int k), none] rfl ?_
  tb_start
  refine use_cell (by tb_rel) ?_
  generalize ns.getD k 0 = c
  tb_start
  rename_i b
  have h1 : 0 ≤ c % 2305843009213693951 := Int.emod_nonneg _ (by decide)
  have h2 : c % 2305843009213693951 < 2305843009213693951 := Int.emod_lt_of_pos _ (by decide)
  refine Box.fold (n := 0) (Int.mul_nonneg (by omega) (bit_nonneg _)) (by omega) (by omega) (by omega) (by omega) ?_
  exact a_end (by tb_rel) (ke b trivial)
def S_take : Tri where
  G := Addr × Nat × Int
  O := Int
  args g := [.ref g.1, .int g.2.2]
  cond g := g.2.1 < 2 ^ 40 ∧ 0 < g.2.2 ∧ g.2.2 < 2 ^ 62
  pre g := [Box g.1 g.2.1]
  ok g o := 0 ≤ o ∧ o < g.2.2
  res g o := .int o
  post g o := [Box g.1 (g.2.1 + 1)]
theorem use_take {L L0 : List Asn} {b : Addr} {n : Nat} {m : Int} {Q : VK} {E : XK} (h1 : 0 < m) (r : Rem L (Box b n) L0) (h0 : n < 2 ^ 40) (h2 : m < 2 ^ 62)
    (q : ∀ o, 0 ≤ o → o < m → Al (Box b (n + 1) :: L0) (Q (.int o))) : Al L (fun H => S_take.sp ([.ref b, .int m] ++ []) H Q E) :=
  Tri.use S_take ((b, n, m) : Addr × Nat × Int) rfl ⟨h0, h1, h2⟩ (.cons r .nil) fun o ho => q o ho.1 ho.2
abbrev N__law_take : List Str := ["_law_box_here", "_law_many", "_law_found", "_law_once", "_law_twice"]
theorem sc__law_take : FnScope N__law_take ["_law_box_here", "_law_many"] (defScope s__law_take) := ⟨rfl, rfl, rfl, by decide +kernel, rfl, by decide +kernel, by decide +kernel⟩
theorem ok__law_take (T : Fx K mg) : FnG P w K mg base 1 (He.fAd K ("_law_take", none)) ["_law_box_here", "_law_many"] (S_take).sp := by
  refine Tri.fn (N := N__law_take) (k := 0) (S_take) T.d__law_take sc__law_take (fun g => rfl) (fun _ _ _ _ _ _ us hl => match us, hl with | [_, _], _ => rfl) fun cdv A outer s H E Q g R hr hc ke kx => ⟨_, PSs.nox ((pss_cons (ps_if (pt_cmpR o_gt (pe_ix (q_ix (K := K) rfl hr.u1) (pv 0) pe_int (fun _ _ => rfl)) pe_int (nomark _)) (pss_cons (ps_set (i := 2) sc__law_take.nd rfl (.inl rfl) (pe_op o_mod (pe_ix (q_ix (K := K) rfl hr.u1) (pv 0) pe_int (fun _ _ => rfl)) (pv 1)))
    (pss_cons (ps_asg (pe_op o_fdiv (pe_ix (q_ix (K := K) rfl hr.u1) (pv 0) pe_int (fun _ _ => rfl)) (pv 1)) (pg_sub (pv 0) pe_int (o_set hr.u1)))
    (pss_one (ps_ret (pv 2))))) pss_nil)
    (pss_cons (ps_asg (pe_op (q_add (K := K) rfl) (pe_ix (q_ix (K := K) rfl hr.u1) (pv 0) pe_int (fun _ _ => rfl)) pe_int) (pg_sub (pv 0) pe_int (o_set hr.u1)))
    (pss_cons (ps_set (i := 3) sc__law_take.nd rfl (.inl rfl) (pe_op o_mod (pe_op o_mul (pe_op (q_add (K := K) rfl) (pe_ix (q_ix (K := K) rfl hr.u1) (pv 0) pe_int (fun _ _ => rfl)) (pe_op o_mul pe_int (pe_ix (q_ix (K := K) rfl hr.u1) (pv 0) pe_int (fun _ _ => rfl)))) (pe_op (q_add (K := K) rfl) pe_int (pe_ix (q_ix (K := K) rfl hr.u1) (pv 0) pe_int (fun _ _ => rfl)))) pe_int))
    (pss_cons (ps_set (i := 4) sc__law_take.nd rfl (.inl rfl) (pe_op o_mod (pe_op o_mul (pe_op (q_add (K := K) rfl) (pv 3) (pe_ix (q_ix (K := K) rfl hr.u1) (pv 0) pe_int (fun _ _ => rfl))) (pe_op (q_add (K := K) rfl) (pe_op o_mod (pv 3) pe_int) pe_int)) pe_int))
    (pss_one (ps_ret (pe_op o_mod (pe_op o_fdiv (pe_op o_mod (pe_op (q_add (K := K) rfl) (pe_op o_mul (pv 4) pe_int) (pv 3)) pe_int) pe_int) (pv 1))))))))), ?_⟩
  obtain ⟨b, n, m⟩ := g
  obtain ⟨h0, h1, h2⟩ : n < 2 ^ 40 ∧ 0 < m ∧ m < 2 ^ 62 := hc
  try dsimp only [cxOf]
  refine Al.start (L := [Box b n, R]) [some (.ref b), some (.int m), none, none, none] rfl ?_
  refine Box.open fun x y z hx hy hy2 hz hzn => ?_
  tb_start
  refine a_ifs ?_
  tb_start
  refine a_if ?_ ?_ <;> intro h
  · tb_start
    refine Box.fold (n := n + 1) (Int.ediv_nonneg hx (by omega)) hy hy2 hz (by omega) ?_
    exact a_end (by tb_rel) (ke (x % m) ⟨Int.emod_nonneg _ (by omega), Int.emod_lt_of_pos _ (by omega)⟩)
  · tb_start
    refine Box.fold (n := n + 1) hx hy hy2 (by omega) (by omega) ?_
    exact a_end (by tb_rel) (ke _ ⟨Int.emod_nonneg _ (by omega), Int.emod_lt_of_pos _ (by omega)⟩)
end

section
variable {P : Program} {w : World} {K : PySem.W.Frag} {mg : Str → Option Value} {base : Heap}
/-! ### marks and digits -/
def S_digit : Tri where
  G := Int × Nat
  O := Unit
  args g := [.int g.1, .int g.2]
  cond g := g.2 ≤ 1000
  pre _ := []
  res g _ := .int (g.1 / 4 ^ g.2 % 4)
  post _ _ := []
theorem use_digit {L : List Asn} {n : Int} {l : Nat} {Q : VK} {E : XK} (hl : l ≤ 1000) (q : Al L (Q (.int (n / 4 ^ l % 4)))) : Al L (fun H => S_digit.sp ([.int n, .int l] ++ []) H Q E) :=
  Tri.use S_digit ((n, l) : Int × Nat) rfl hl .nil fun _ _ => q
abbrev N_digit : List Str := ["number", "level", "turn"]
theorem sc_digit : FnScope N_digit ["number", "level"] (defScope s_digit) := ⟨rfl, rfl, rfl, by decide +kernel, rfl, by decide +kernel, by decide +kernel⟩
theorem ok_digit (T : Fx K mg) : FnG P w K mg base 1 (He.fAd K ("digit", none)) ["number", "level"] (S_digit).sp := by
  refine Tri.fn (N := N_digit) (k := 0) (S_digit) T.d_digit sc_digit (fun g => rfl) (fun _ _ _ _ _ _ us hl => match us, hl with | [_, _], _ => rfl) fun cdv A outer s H E Q g R hr hc ke kx => ⟨_, PSs.nox ((pss_cons (ps_for PassesOwn.never rfl (pi_range1 (by rfl) T.b_range (pa_cons (pv 1) pa_nil)) (pg_name (i := 2) sc_digit.nd rfl (.inl rfl)) (pss_one (ps_aug (i := 0) sc_digit.nd rfl (.inl rfl) (ge_int rfl T.i_BASE) p_fdiv)))
    (pss_one (ps_ret (pe_op o_mod (pv 0) (ge_int rfl T.i_BASE)))))), ?_⟩
  obtain ⟨n, l⟩ := g
  have hl : l ≤ 1000 := hc
  try dsimp only [cxOf]
  refine Al.start (L := [R]) [some (.int n), some (.int l), none] rfl ?_
  tb_start
  refine a_forR (fun i σ M => ∃ o, σ = [some (.int (n / 4 ^ i)), some (.int l), o] ∧ M = [R]) ⟨[R], ⟨none, by rw [Int.pow_zero, Int.ediv_one], rfl⟩, Ent.refl⟩ ?_ ?_
  · rintro i σ M hi ⟨o, rfl, rfl⟩
    tb_start
    rw [Int.ediv_ediv_of_nonneg (Int.pow_nonneg (by decide)), ← Int.pow_succ]
    exact a_nx ⟨_, rfl, rfl⟩ Ent.refl
  · rintro σ M ⟨o, rfl, rfl⟩
    tb_start
    exact a_end (by tb_rel) (ke () trivial)
/-- a name: small letters -/
def Nm (z : Str) : Prop := ∀ (i c : Nat), z.cps[i]? = some c → 97 ≤ c ∧ c ≤ 122
theorem occ_ok : ∀ k < 26, (Builtin.Str.occurrences "abcdefghijklmnopqrstuvwxyz" ⟨#[97 + k]⟩ 0 26 1).head? = some k := by decide +kernel
theorem occ_at {c : Nat} (h1 : 97 ≤ c) (h2 : c ≤ 122) : ∃ rest, Builtin.Str.occurrences "abcdefghijklmnopqrstuvwxyz" ⟨#[c]⟩ 0 (Str.length "abcdefghijklmnopqrstuvwxyz") 1 = (c - 97) :: rest := by
  have e := occ_ok (c - 97) (by omega)
  rw [show 97 + (c - 97) = c by omega] at e
  have l : Str.length "abcdefghijklmnopqrstuvwxyz" = 26 := by decide +kernel
  rw [l]
  cases q : Builtin.Str.occurrences "abcdefghijklmnopqrstuvwxyz" ⟨#[c]⟩ 0 26 1 with
  | nil => rw [q] at e; cases e
  | cons a r => rw [q] at e; exact ⟨r, by rw [Option.some.inj e]⟩
/-- the mark's part by place -/
def vAt (z : Str) (i : Nat) : Int := ((z.cps.getD i 0 - 97 : Nat) : Int) + 1
def mkAt (z : Str) (i : Nat) : Int := ((i : Int) + 1) * vAt z i
def mkS (z : Str) : Int := sg z.cps.size (mkAt z)
def S_mark : Tri where
  G := Str
  O := Unit
  args z := [.str z]
  cond z := Nm z ∧ z.cps.size ≤ 8
  pre _ := []
  res z _ := .int (mkS z)
  post _ _ := []
theorem use_mark {L : List Asn} {z : Str} {Q : VK} {E : XK} (hn : Nm z) (hz : z.cps.size ≤ 8) (q : Al L (Q (.int (mkS z)))) : Al L (fun H => S_mark.sp ([.str z] ++ []) H Q E) :=
  Tri.use S_mark z rfl ⟨hn, hz⟩ .nil fun _ _ => q
abbrev N_mark : List Str := ["name", "place", "sign"]
theorem sc_mark : FnScope N_mark ["name"] (defScope s_mark) := ⟨rfl, rfl, rfl, by decide +kernel, rfl, by decide +kernel, by decide +kernel⟩
theorem ok_mark (T : Fx K mg) : FnG P w K mg base 1 (He.fAd K ("mark", none)) ["name"] (S_mark).sp := by
  refine Tri.fn (N := N_mark) (k := 0) (S_mark) T.d_mark sc_mark (fun g => rfl) (fun _ _ _ _ _ _ us hl => match us, hl with | [_], _ => rfl) fun cdv A outer s H E Q g R hr hc ke kx => ⟨_, PSs.nox ((pss_one (ps_ret (pe_callB (q_sum (K := K) rfl rfl) (by rfl) T.b_sum (by decide +kernel) (pa_cons (pe_lc (own := [("place", 1), ("sign", 2)]) rfl sc_mark.nd (pi_enumS (by rfl) T.b_enumerate (pa_cons (pv 0) pa_nil)) (blkOk_by (N := N_mark) (sc := defScope s_mark) (by decide +kernel)) (fun _ _ _ _ _ => (qg_tup (K := K) (n := 2) rfl rfl (pgs_cons (pg_name (i := 1) sc_mark.nd rfl (.inl rfl)) (pgs_cons (pg_name (i := 2) sc_mark.nd rfl (.inl rfl)) pgs_nil)))) (fun _ _ _ _ _ => pts_nil) (fun _ _ _ _ _ => (pe_op o_mul (pv 1) (pe_op (q_add (K := K) rfl) (q_bm (K := K) rfl PySem.F.plainAttrs_str PySem.F.slot_str_index PySem.F.type_str_index m_sindex (ge_str rfl T.i_LETTERS) (pa_cons (pv 2) pa_nil)) pe_int)))) pa_nil))))), ?_⟩
  obtain ⟨z, rfl⟩ : ∃ z : Str, z = g := ⟨g, rfl⟩
  obtain ⟨hn, hz⟩ : Nm z ∧ z.cps.size ≤ 8 := hc
  try dsimp only [cxOf]
  refine Al.start (L := [R]) [some (.str z), none, none] rfl ?_
  tb_start
  refine a_lcE (by tb_rel) (Pure (fun i => .int (mkAt z i)) [R]) ⟨[R], ⟨rfl, rfl⟩, Ent.refl⟩ ?_ ?_
  · rintro i c acc M D T hx ⟨rfl, rfl⟩
    have hb := (Array.getElem?_eq_some_iff.mp hx).1
    have hl := line63
    tb_start
    obtain ⟨rest, ho⟩ := occ_at (hn i c hx).1 (hn i c hx).2
    refine a_sindex ho ?_
    tb_start
    refine a_lcP (by tb_rel) (by rw [sizeLine_eq]; omega) ?_ (.of (by tb_rel))
    unfold mkAt vAt
    rw [Array.getD_eq_getD_getElem?, hx]
    rfl
  · rintro acc M D ⟨rfl, rfl⟩
    tb_start
    refine a_sumS (by tb_rel) ?_
    tb_start
    exact a_end (by tb_rel) (ke () trivial)
end

section
variable {P : Program} {w : World} {K : PySem.W.Frag} {mg : Str → Option Value} {base : Heap}
theorem getD_set_same {ns : List Int} {k : Nat} {v : Int} (h : k < ns.length) : (ns.set k v).getD k 0 = v := by
  rw [List.getD_eq_getElem?_getD, List.getElem?_set_self h]; rfl
theorem getD_set_ne {ns : List Int} {k j : Nat} {v : Int} (h : k ≠ j) : (ns.set k v).getD j 0 = ns.getD j 0 := by
  rw [List.getD_eq_getElem?_getD, List.getD_eq_getElem?_getD, List.getElem?_set_ne h]
theorem sign_at : ∀ k : Nat, 1 ≤ k → k ≤ 26 → atI ("_abcdefghijklmnopqrstuvwxyz" : Str).cps.toList (k : Int) = some (96 + k) := by
  have h : ∀ k : Nat, k < 27 → 1 ≤ k → atI ("_abcdefghijklmnopqrstuvwxyz" : Str).cps.toList (k : Int) = some (96 + k) := by decide +kernel
  exact fun k h1 h2 => h k (by omega) h1
/-! ### names with a mark that is set -/
def S_ofm : Tri where
  G := Addr × Nat × Int
  O := Str
  args g := [.ref g.1, .int g.2.2]
  cond g := g.2.1 < 2 ^ 39 ∧ 36 ≤ g.2.2 ∧ g.2.2 ≤ 936
  pre g := [Box g.1 g.2.1]
  ok g z := Nm z ∧ z.cps.size = 8
  res g z := .str z
  post g z := [Box g.1 (g.2.1 + 32)]
abbrev N__law_of_mark : List Str := ["_law_box_here", "_law_own", "_law_letters", "_law_left", "_law_turn", "_law_place", "_law_more", "_law_letter"]
theorem sc__law_of_mark : FnScope N__law_of_mark ["_law_box_here", "_law_own"] (defScope s__law_of_mark) := ⟨rfl, rfl, rfl, by decide +kernel, rfl, by decide +kernel, by decide +kernel⟩
theorem ok__law_of_mark (T : Fx K mg) : FnG P w K mg base 2 (He.fAd K ("_law_of_mark", none)) ["_law_box_here", "_law_own"] (S_ofm).sp := by
  refine Tri.fn (N := N__law_of_mark) (k := 1) (S_ofm) T.d__law_of_mark sc__law_of_mark (fun g => rfl) (fun _ _ _ _ _ _ us hl => match us, hl with | [_, _], _ => rfl) fun cdv A outer s H E Q g R hr hc ke kx => ⟨_, PSs.nox ((pss_cons (ps_par (i := 2) (j := 3) (by rfl) sc__law_of_mark.nd rfl rfl (by decide) rfl rfl (pa_cons (pe_op o_mul (pe_lst (pa_cons pe_int pa_nil)) pe_int) (pa_cons (pe_op o_sub (pv 1) pe_int) pa_nil)) (by rfl))
    (pss_cons (ps_for PassesOwn.never rfl (pi_range1 (by rfl) T.b_range (pa_cons pe_int pa_nil)) (pg_name (i := 4) sc__law_of_mark.nd rfl (.inl rfl)) (pss_one (ps_for PassesOwn.never rfl (pi_range3 (by rfl) T.b_range (pa_cons pe_int (pa_cons pe_int (pa_cons (pe_un un_neg pe_int) pa_nil)))) (pg_name (i := 5) sc__law_of_mark.nd rfl (.inl rfl)) (pss_cons (ps_set (i := 6) sc__law_of_mark.nd rfl (.inl rfl) (pe_callB (k_min rfl) (by rfl) T.b_min (by decide +kernel) (pa_cons (pe_op o_sub pe_int (pe_ix (q_ix (K := K) rfl hr.u1) (pv 2) (pe_op o_sub (pv 5) pe_int) (fun _ _ => rfl))) (pa_cons (pe_op o_fdiv (pv 3) (pv 5)) pa_nil))))
    (pss_cons (ps_if (PW.pt (pw_and (pt_cmpR (q_eq (K := K) rfl hr.u64) (pv 4) pe_int (nomark _)) (pw_and (pt_cmpR o_gt (pv 6) pe_int (nomark _)) (pw_and1 (pt_cmpR (q_eq (K := K) rfl hr.u64) (ge_call (ok__law_take T) hr.mono rfl T.g__law_take px0 (pa_cons (pv 0) (pa_cons pe_int pa_nil))) pe_int (nomark _)))))) (pss_one (ps_set (i := 6) sc__law_of_mark.nd rfl (.inl rfl) (ge_call (ok__law_take T) hr.mono rfl T.g__law_take px0 (pa_cons (pv 0) (pa_cons (pv 6) pa_nil))))) pss_nil)
    (pss_cons (ps_asg (pe_op (q_add (K := K) rfl) (pe_ix (q_ix (K := K) rfl hr.u1) (pv 2) (pe_op o_sub (pv 5) pe_int) (fun _ _ => rfl)) (pv 6)) (pg_sub (pv 2) (pe_op o_sub (pv 5) pe_int) (o_set hr.u1)))
    (pss_one (ps_set (i := 3) sc__law_of_mark.nd rfl (.inl rfl) (pe_op o_sub (pv 3) (pe_op o_mul (pv 6) (pv 5)))))))))))
    (pss_one (ps_ret (q_bm (K := K) rfl PySem.F.plainAttrs_str PySem.F.slot_str_join PySem.F.type_str_join (q_join (K := K) rfl) pe_str (pa_cons (pe_lc (own := [("_law_letter", 7)]) rfl sc__law_of_mark.nd (qi_any (K := K) rfl (pv 2)) (blkOk_by (N := N__law_of_mark) (sc := defScope s__law_of_mark) (by decide +kernel)) (fun _ _ _ _ _ => (pg_name (i := 7) sc__law_of_mark.nd rfl (.inl rfl))) (fun _ _ _ _ _ => pts_nil) (fun _ _ _ _ _ => (pe_ix (q_ix (K := K) rfl hr.u1) pe_str (pv 7) (fun _ _ => rfl)))) pa_nil))))))), ?_⟩
  obtain ⟨b, n, own⟩ := g
  obtain ⟨hn, h1, h2⟩ : n < 2 ^ 39 ∧ 36 ≤ own ∧ own ≤ 936 := hc
  try dsimp only [cxOf]
  refine Al.start (L := [Box b n, R]) [some (.ref b), some (.int own), none, none, none, none, none, none] rfl ?_
  tb_start
  refine a_rep (by tb_rel) (by decide) (by decide) (by rw [sizeLine_eq]; decide) fun c => ?_
  change Al (pt c (.lst ((List.replicate 8 (1 : Int)).map V.int)) :: _) _
  tb_start
  refine Al.ent (M := [Box b n, pt c (.lst ((List.replicate 8 (1 : Int)).map V.int)), R]) (.of (by tb_rel)) ?_
  refine Box.up (m := n + 16 * 0) (by omega) ?_
  refine a_forR (fun i σ M => ∃ (ls : List Int) (left : Int) (o4 o5 o6 : Option V), (ls.length = 8 ∧ (∀ k, k < 8 → 1 ≤ ls.getD k 0 ∧ ls.getD k 0 ≤ 26) ∧ 0 ≤ left ∧ left ≤ 900) ∧ σ = [some (.ref b), some (.int own), some (.ref c), some (.int left), o4, o5, o6, none] ∧ M = [Box b (n + 16 * i), pt c (.lst (ls.map V.int)), R])
    ⟨_, ⟨List.replicate 8 1, own - 36, none, none, none, ⟨rfl, by decide, by omega, by omega⟩, rfl, rfl⟩, .of (by tb_rel)⟩ ?_ ?_
  · rintro i σ M hi ⟨ls, left, o4, o5, o6, ⟨hl, hg, hl0, hl9⟩, rfl, rfl⟩
    tb_start
    refine Box.up (m := n + 16 * i + 2 * 0) (by omega) ?_
    refine a_forRC (fun k σ M => ∃ (ls : List Int) (left : Int) (o5 o6 : Option V), (ls.length = 8 ∧ (∀ k, k < 8 → 1 ≤ ls.getD k 0 ∧ ls.getD k 0 ≤ 26) ∧ 0 ≤ left ∧ left ≤ 900) ∧ σ = [some (.ref b), some (.int own), some (.ref c), some (.int left), some (.int (0 + i)), o5, o6, none] ∧ M = [Box b (n + 16 * i + 2 * k), pt c (.lst (ls.map V.int)), R])
      ⟨_, ⟨ls, left, o5, o6, ⟨hl, hg, hl0, hl9⟩, rfl, rfl⟩, .refl⟩ ?_ ?_
    · rintro k σ M hk ⟨ls, left, o5, o6, ⟨hl, hg, hl0, hl9⟩, rfl, rfl⟩
      have hk : k < 8 := hk
      have hi : i < 2 := hi
      generalize hp : (8 + (k : Int) * -1) = p
      tb_start
      refine a_xI (7 - k) (by top_args) (by omega) (by omega) ?_
      have hx := hg (7 - k) (by omega)
      tb_start
      generalize hm : (if left / p < 26 - ls.getD (7 - k) 0 then left / p else 26 - ls.getD (7 - k) 0) = m
      have hq : 0 ≤ left / p := Int.ediv_nonneg hl0 (by omega)
      have hq2 : left / p * p ≤ left := Int.ediv_mul_le left (by omega)
      have hm0 : 0 ≤ m ∧ m ≤ left / p ∧ m ≤ 26 - ls.getD (7 - k) 0 := by split at hm <;> omega
      refine a_ifsJ (fun σ M => ∃ m' : Int, (0 ≤ m' ∧ m' ≤ m) ∧ σ = [some (.ref b), some (.int own), some (.ref c), some (.int left), some (.int (0 + i)), some (.int p), some (.int m'), none] ∧ M = [Box b (n + 16 * i + 2 * (k + 1)), pt c (.lst (ls.map V.int)), R]) (fun F hF => ?_) ?_
      · refine a_ifs ?_
        tb_start
        refine a_if ?_ ?_ <;> intro h1
        · tb_start
          refine a_if ?_ ?_ <;> intro h2
          · tb_start
            refine use_take (by decide) (by tb_rel) (by omega) (by decide) fun o _ _ => ?_
            tb_start
            refine a_if ?_ ?_ <;> intro h3
            · tb_start
              refine use_take h2 (by tb_rel) (by omega) (by omega) fun o h4 h5 => ?_
              tb_start
              exact hF _ _ ⟨o, ⟨h4, by omega⟩, rfl, rfl⟩
            · tb_start
              refine Box.up (m := n + 16 * i + 2 * (k + 1)) (by omega) ?_
              exact hF _ _ ⟨m, ⟨hm0.1, Int.le_refl _⟩, rfl, rfl⟩
          · tb_start
            refine Box.up (m := n + 16 * i + 2 * (k + 1)) (by omega) ?_
            exact hF _ _ ⟨m, ⟨hm0.1, Int.le_refl _⟩, rfl, rfl⟩
        · tb_start
          refine Box.up (m := n + 16 * i + 2 * (k + 1)) (by omega) ?_
          exact hF _ _ ⟨m, ⟨hm0.1, Int.le_refl _⟩, rfl, rfl⟩
      · rintro σ M ⟨m', ⟨hn0, hn1⟩, rfl, rfl⟩
        tb_start
        refine a_xI (7 - k) (by top_args) (by omega) (by omega) ?_
        tb_start
        refine a_setI (7 - k) (by tb_rel) (by omega) (by omega) ?_
        tb_start
        have hmp : m' * p ≤ left := Int.le_trans (Int.mul_le_mul_of_nonneg_right (by omega : m' ≤ left / p) (by omega)) hq2
        have hmq : 0 ≤ m' * p := Int.mul_nonneg hn0 (by omega)
        refine a_nx ⟨ls.set (7 - k) (ls.getD (7 - k) 0 + m'), left - m' * p, _, _, ⟨by rw [List.length_set]; exact hl, fun j hj => ?_, by omega, by omega⟩, rfl, rfl⟩ (.of (by tb_rel))
        by_cases e : 7 - k = j
        · subst e
          rw [getD_set_same (by omega)]
          omega
        · rw [getD_set_ne e]
          exact hg j hj
    · rintro σ M ⟨ls, left, o5, o6, hl, rfl, rfl⟩
      tb_start
      refine Box.up (m := n + 16 * (i + 1)) (by show n + 16 * i + 2 * 8 ≤ _; omega) ?_
      exact a_nx ⟨_, _, _, _, _, hl, rfl, rfl⟩ .refl
  · rintro σ M ⟨ls, left, o4, o5, o6, ⟨hl, hg, hl0, hl9⟩, rfl, rfl⟩
    tb_start
    refine Box.up (m := n + 32) (by show n + 16 * 2 ≤ _; omega) ?_
    refine a_lcL (by tb_rel) (Pure (fun i => .str ⟨#[96 + (ls.getD i 0).toNat]⟩) [Box b (n + 32), pt c (.lst (ls.map V.int)), R]) ⟨_, ⟨rfl, rfl⟩, .refl⟩ (fun i acc M ⟨_, e⟩ => by rw [e]; top_args) ?_ ?_
    · rintro i x acc M D hx ⟨rfl, rfl⟩
      have hi : i < 8 := by
        have := (List.getElem?_eq_some_iff.mp hx).1
        rw [List.length_map] at this
        omega
      obtain rfl : x = .int (ls.getD i 0) := by
        rw [List.getElem?_map, List.getElem?_eq_getElem (by omega)] at hx
        rw [List.getD_eq_getElem?_getD, List.getElem?_eq_getElem (by omega)]
        exact (Option.some.inj hx).symm
      have hg' := hg i hi
      tb_start
      refine a_xS (c := 96 + (ls.getD i 0).toNat) (by rw [sizeLine_eq]; decide +kernel) ?_ ?_
      · have e := sign_at (ls.getD i 0).toNat (by omega) (by omega)
        rw [Int.toNat_of_nonneg (by omega)] at e
        exact e
      tb_start
      exact a_lcP (by tb_rel) (by rw [sizeLine_eq]; omega) rfl (.of (by tb_rel))
    · rintro acc M D ⟨rfl, rfl⟩
      tb_start
      refine a_joinC (by tb_rel) (by rw [List.length_map]; omega) ?_
      rw [List.length_map, hl]
      refine a_end (by tb_rel) (ke _ ⟨fun i c hc => ?_, rfl⟩)
      have hi : i < 8 := (Array.getElem?_eq_some_iff.mp hc).1
      have e : c = 96 + (ls.getD i 0).toNat := by
        have e := (List.getElem?_toArray (xs := (List.range 8).map fun i => 96 + (ls.getD i 0).toNat) (i := i)).symm.trans hc
        rw [List.getElem?_map, List.getElem?_range hi] at e
        exact (Option.some.inj e).symm
      have hg' := hg i hi
      omega
end

section
variable {P : Program} {w : World} {K : PySem.W.Frag} {mg : Str → Option Value} {base : Heap}
theorem Nm.push {z : Str} {c : Nat} (h : Nm z) (h1 : 97 ≤ c) (h2 : c ≤ 122) : Nm (z ++ (⟨#[c]⟩ : Str)) := by
  intro i d hd
  have e : (z.cps ++ #[c])[i]? = some d := hd
  rw [Array.getElem?_append] at e
  split at e
  · exact h i d e
  · have e' : i - z.cps.size < 1 := (Array.getElem?_eq_some_iff.mp e).1
    have e0 : i - z.cps.size = 0 := by omega
    rw [e0] at e
    obtain rfl : c = d := Option.some.inj e
    exact ⟨h1, h2⟩
theorem push_size {z : Str} {c : Nat} : (z ++ (⟨#[c]⟩ : Str)).cps.size = z.cps.size + 1 := by
  show (z.cps ++ #[c]).size = _
  rw [Array.size_append]; rfl
theorem Nm.nil : Nm "" := fun i c h => by
  have e : (#[] : Array Nat)[i]? = some c := h
  rw [Array.getElem?_empty] at e
  cases e
theorem abc_at : ∀ k : Nat, k < 26 → atI ("abcdefghijklmnopqrstuvwxyz" : Str).cps.toList (k : Int) = some (97 + k) := by decide +kernel
theorem abf_at : ∀ k : Nat, k < 6 → atI ("abcdef" : Str).cps.toList (k : Int) = some (97 + k) := by decide +kernel
theorem a_abc {L : List Asn} {K : PySem.W.Frag} {Q : VK} {i : Int} (h0 : 0 ≤ i) (h1 : i < 26) (k : Al L (Q (.str ⟨#[97 + i.toNat]⟩))) : Al L (fun H => xIx K (.str "abcdefghijklmnopqrstuvwxyz") (.int i) H Q) := by
  refine a_xS (by rw [sizeLine_eq]; decide +kernel) ?_ k
  have e := abc_at i.toNat (by omega)
  rw [Int.toNat_of_nonneg h0] at e
  exact e
theorem a_abf {L : List Asn} {K : PySem.W.Frag} {Q : VK} {i : Int} (h0 : 0 ≤ i) (h1 : i < 6) (k : Al L (Q (.str ⟨#[97 + i.toNat]⟩))) : Al L (fun H => xIx K (.str "abcdef") (.int i) H Q) := by
  refine a_xS (by rw [sizeLine_eq]; decide +kernel) ?_ k
  have e := abf_at i.toNat (by omega)
  rw [Int.toNat_of_nonneg h0] at e
  exact e
theorem shr_k02 {o : Int} (h0 : 0 ≤ o) (h1 : o < 18) : 0 < (26 : Int) ^ Int.toNat 8 / 2 ^ (2 * o).toNat ∧ (26 : Int) ^ Int.toNat 8 / 2 ^ (2 * o).toNat < 2 ^ 62 := by
  have e : ∀ k : Nat, k < 18 → 0 < (26 : Int) ^ Int.toNat 8 / 2 ^ (2 * (k : Int)).toNat ∧ (26 : Int) ^ Int.toNat 8 / 2 ^ (2 * (k : Int)).toNat < 2 ^ 62 := by decide +kernel
  have := e o.toNat (by omega)
  rwa [Int.toNat_of_nonneg h0] at this
theorem use_ofm {L L0 : List Asn} {b : Addr} {n : Nat} {m : Int} {Q : VK} {E : XK} (r : Rem L (Box b n) L0) (hn : n < 2 ^ 39) (h1 : 36 ≤ m) (h2 : m ≤ 936)
    (q : ∀ z, Nm z → z.cps.size = 8 → Al (Box b (n + 32) :: L0) (Q (.str z))) : Al L (fun H => S_ofm.sp ([.ref b, .int m] ++ []) H Q E) :=
  Tri.use S_ofm ((b, n, m) : Addr × Nat × Int) rfl ⟨hn, h1, h2⟩ (.cons r .nil) fun o ho => q o ho.1 ho.2
/-- names of one to eight small letters -/
def Nms (ws : List Str) : Prop := ∀ z ∈ ws, Nm z ∧ 1 ≤ z.cps.size ∧ z.cps.size ≤ 8
def S_names : Tri where
  G := Addr × Nat × Nat
  O := Addr × List Str
  args g := [.ref g.1, .int g.2.2]
  cond g := g.2.1 < 2 ^ 38 ∧ g.2.2 ≤ 100
  pre g := [Box g.1 g.2.1]
  ok g o := Nms o.2 ∧ o.2.length ≤ g.2.2
  res g o := .ref o.1
  post g o := [pt o.1 (.lst (o.2.map V.str)), Box g.1 (g.2.1 + 5 + 34 * g.2.2)]
abbrev N__law_names : List Str := ["_law_box_here", "_law_many", "_law_way", "_law_found", "_law_step", "_law_low", "_law_size", "_law_first", "_law_k", "_law_number_here", "_law_letters", "_law_place"]
theorem sc__law_names : FnScope N__law_names ["_law_box_here", "_law_many"] (defScope s__law_names) := ⟨rfl, rfl, rfl, by decide +kernel, rfl, by decide +kernel, by decide +kernel⟩
theorem ok__law_names (T : Fx K mg) : FnG P w K mg base 3 (He.fAd K ("_law_names", none)) ["_law_box_here", "_law_many"] (S_names).sp := by
  refine Tri.fn (N := N__law_names) (k := 2) (S_names) T.d__law_names sc__law_names (fun g => rfl) (fun _ _ _ _ _ _ us hl => match us, hl with | [_, _], _ => rfl) fun cdv A outer s H E Q g R hr hc ke kx => ⟨_, PSs.nox ((pss_cons (ps_par (i := 2) (j := 3) (by rfl) sc__law_names.nd rfl rfl (by decide) rfl rfl (pa_cons (ge_call (ok__law_take T) hr.mono rfl T.g__law_take px0 (pa_cons (pv 0) (pa_cons pe_int pa_nil))) (pa_cons pe_dnewK pa_nil)) (by rfl))
    (pss_cons (ps_par (i := 4) (j := 5) (by rfl) sc__law_names.nd rfl rfl (by decide) rfl rfl (pa_cons (pe_ix (q_ix (K := K) rfl hr.u1) (pe_lst (pa_cons pe_int (pa_cons pe_int (pa_cons pe_int (pa_cons pe_int pa_nil))))) (ge_call (ok__law_take T) hr.mono rfl T.g__law_take px0 (pa_cons (pv 0) (pa_cons pe_int pa_nil))) (fun _ _ => rfl)) (pa_cons (pe_op (q_add (K := K) rfl) pe_int (ge_call (ok__law_take T) hr.mono rfl T.g__law_take px0 (pa_cons (pv 0) (pa_cons pe_int pa_nil)))) pa_nil)) (by rfl))
    (pss_cons (ps_par (i := 6) (j := 7) (by rfl) sc__law_names.nd rfl rfl (by decide) rfl rfl (pa_cons (pe_op (q_add (K := K) rfl) pe_int (ge_call (ok__law_take T) hr.mono rfl T.g__law_take px0 (pa_cons (pv 0) (pa_cons pe_int pa_nil)))) (pa_cons (ge_call (ok__law_take T) hr.mono rfl T.g__law_take px0 (pa_cons (pv 0) (pa_cons pe_int pa_nil))) pa_nil)) (by rfl))
    (pss_cons (ps_for PassesOwn.never rfl (pi_range1 (by rfl) T.b_range (pa_cons (pv 1) pa_nil)) (pg_name (i := 8) sc__law_names.nd rfl (.inl rfl)) (pss_one (ps_if (pt_cmpR (q_eq (K := K) rfl hr.u64) (pv 2) pe_int (nomark _)) (pss_cons (ps_par (i := 9) (j := 10) (by rfl) sc__law_names.nd rfl rfl (by decide) rfl rfl (pa_cons (pe_op (q_add (K := K) rfl) pe_int (ge_call (ok__law_take T) hr.mono rfl T.g__law_take px0 (pa_cons (pv 0) (pa_cons (pe_op o_shr (pe_op o_pow pe_int pe_int) (pe_op o_mul pe_int (ge_call (ok__law_take T) hr.mono rfl T.g__law_take px0 (pa_cons (pv 0) (pa_cons pe_int pa_nil))))) pa_nil)))) (pa_cons pe_str pa_nil)) (by rfl))
    (pss_cons (ps_while PassesOwn.never (PW.pt (pw_and (pt_cmpR o_gt (pv 9) pe_int (nomark _)) (pw_and1 (pt_cmpR o_lt (pe_callB (q_len (K := K) rfl) (by rfl) T.b_len (by decide +kernel) (pa_cons (pv 10) pa_nil)) pe_int (nomark _))))) (pss_cons (ps_set (i := 10) sc__law_names.nd rfl (.inl rfl) (pe_op (q_add (K := K) rfl) (pv 10) (pe_ix (q_ix (K := K) rfl hr.u1) pe_str (pe_op o_mod (pv 9) pe_int) (fun _ _ => rfl))))
    (pss_one (ps_set (i := 9) sc__law_names.nd rfl (.inl rfl) (pe_op o_fdiv (pv 9) pe_int)))))
    (pss_one (ps_asg pe_bl (pg_sub (pv 3) (pv 10) (o_set hr.u1)))))) (pss_one (ps_if (pt_cmpR (q_eq (K := K) rfl hr.u64) (pv 2) pe_int (nomark _)) (pss_cons (ps_par (i := 9) (j := 10) (by rfl) sc__law_names.nd rfl rfl (by decide) rfl rfl (pa_cons (pe_op o_mod (pe_op (q_add (K := K) rfl) (pv 7) (pe_op o_mul pe_int (pv 8))) pe_int) (pa_cons pe_str pa_nil)) (by rfl))
    (pss_cons (ps_for PassesOwn.never rfl (pi_range1 (by rfl) T.b_range (pa_cons (pv 6) pa_nil)) (pg_name (i := 11) sc__law_names.nd rfl (.inl rfl)) (pss_one (ps_par (i := 10) (j := 9) (by rfl) sc__law_names.nd rfl rfl (by decide) rfl rfl (pa_cons (pe_op (q_add (K := K) rfl) (pv 10) (pe_ix (q_ix (K := K) rfl hr.u1) pe_str (pe_op o_mod (pv 9) pe_int) (fun _ _ => rfl))) (pa_cons (pe_op o_fdiv (pv 9) pe_int) pa_nil)) (by rfl))))
    (pss_one (ps_asg pe_bl (pg_sub (pv 3) (pv 10) (o_set hr.u1)))))) (pss_one (ps_asg pe_bl (pg_sub (pv 3) (ge_call (ok__law_of_mark T) hr.mono rfl T.g__law_of_mark px0 (pa_cons (pv 0) (pa_cons (pe_op (q_add (K := K) rfl) (pv 5) (pe_op o_mul (pv 4) (ge_call (ok__law_take T) hr.mono rfl T.g__law_take px0 (pa_cons (pv 0) (pa_cons (pe_op (q_add (K := K) rfl) pe_int (pe_op o_fdiv (pe_op o_sub pe_int (pv 5)) (pv 4))) pa_nil))))) pa_nil))) (o_set hr.u1)))))))))
    (pss_one (ps_ret (pe_callTy (q_list (K := K) rfl rfl) (by rfl) T.b_list (by decide +kernel) (pa_cons (pv 3) pa_nil))))))))), ?_⟩
  obtain ⟨b, n, many⟩ := g
  obtain ⟨hn, hm⟩ : n < 2 ^ 38 ∧ many ≤ 100 := hc
  try dsimp only [cxOf]
  refine Al.start (L := [Box b n, R]) [some (.ref b), some (.int many), none, none, none, none, none, none, none, none, none, none] rfl ?_
  tb_start
  refine use_take (by decide) (by tb_rel) (by omega) (by decide) fun way w1 w2 => ?_
  tb_start
  rename_i d l
  refine use_take (by decide) (by tb_rel) (by omega) (by decide) fun o a1 a2 => ?_
  obtain ⟨v, hv, ha⟩ := pick4 (a := .int 4) (b := .int 16) (c := .int 64) (d := .int 256) a1 a2
  refine a_xL (by top_args) ha ?_
  obtain ⟨st, hs, rfl⟩ : ∃ st : Int, (4 ≤ st ∧ st ≤ 256) ∧ v = V.int st := by
    rcases hv with rfl | rfl | rfl | rfl
    · exact ⟨4, by decide, rfl⟩
    · exact ⟨16, by decide, rfl⟩
    · exact ⟨64, by decide, rfl⟩
    · exact ⟨256, by decide, rfl⟩
  clear hv ha
  tb_start
  refine use_take (by decide) (by tb_rel) (by omega) (by decide) fun low l1 l2 => ?_
  tb_start
  refine use_take (by decide) (by tb_rel) (by omega) (by decide) fun sz s1 s2 => ?_
  tb_start
  refine use_take (by decide) (by tb_rel) (by omega) (by decide) fun fst f1 f2 => ?_
  tb_start
  refine Al.ent (M := [Box b (n + 1 + 1 + 1 + 1 + 1), pt d (.dK []), R]) (.of (by tb_rel)) ?_
  change Al [Box b (n + 1 + 1 + 1 + 1 + 1), pt d (.dK (setOf [])), R] _
  refine Box.up (m := n + 5 + 34 * 0) (by omega) ?_
  refine a_forR (fun i σ M => ∃ (ws : List Str) (o8 o9 o10 o11 : Option V), (Nms ws ∧ ws.length ≤ i) ∧ σ = [some (.ref b), some (.int many), some (.int way), some (.ref d), some (.int st), some (.int (36 + low)), some (.int (3 + sz)), some (.int fst), o8, o9, o10, o11] ∧ M = [Box b (n + 5 + 34 * i), pt d (.dK (setOf ws)), R])
    ⟨_, ⟨[], none, none, none, none, ⟨(fun z hz => by cases hz), Nat.le_refl _⟩, rfl, rfl⟩, .refl⟩ ?_ ?_
  · rintro i σ M hi ⟨ws, o8, o9, o10, o11, ⟨hw, hl⟩, rfl, rfl⟩
    have hi : i < many := by simpa using hi
    tb_start
    refine a_ifs ?_
    tb_start
    refine a_if ?_ ?_ <;> intro c1
    · tb_start
      refine use_take (by decide) (by tb_rel) (by omega) (by decide) fun o b1 b2 => ?_
      tb_start
      refine use_take (shr_k02 b1 b2).1 (by tb_rel) (by omega) (shr_k02 b1 b2).2 fun nu n1 n2 => ?_
      tb_start
      refine a_while (fun m σ M => ∃ (x : Int) (z : Str), (0 ≤ x ∧ (0 < x ∨ 1 ≤ z.cps.size) ∧ Nm z ∧ z.cps.size + m = 8) ∧ σ = [some (.ref b), some (.int many), some (.int way), some (.ref d), some (.int st), some (.int (36 + low)), some (.int (3 + sz)), some (.int fst), some (.int (0 + i)), some (.int x), some (.str z), o11] ∧ M = [Box b (n + 5 + 34 * i + 1 + 1), pt d (.dK (setOf ws)), R])
        ⟨8, _, ⟨1 + nu, "", ⟨by omega, .inl (by omega), .nil, rfl⟩, rfl, rfl⟩, .refl⟩ ?_
      rintro m σ M ⟨x, z, ⟨hx0, hx1, hz, hzm⟩, rfl, rfl⟩
      tb_start
      refine a_if ?_ ?_ <;> intro c2
      · tb_start
        refine a_len_s (show z.cps.size ≤ _ by rw [sizeLine_eq]; omega) ?_
        tb_start
        refine a_wh ?_ ?_ <;> intro c3
        · tb_start
          have q0 : 0 ≤ x % 26 := Int.emod_nonneg _ (by decide)
          have q1 : x % 26 < 26 := Int.emod_lt_of_pos _ (by decide)
          refine a_abc q0 q1 ?_
          refine a_add_ss (show z.cps.size + 1 ≤ _ by rw [sizeLine_eq]; omega) ?_
          tb_start
          refine a_whnx (m' := m - 1) ?_ ⟨x / 26, _, ⟨Int.ediv_nonneg hx0 (by decide), .inr (by rw [push_size]; omega), hz.push (by omega) (by omega), ?_⟩, rfl, rfl⟩ .refl
          · have : (z.cps.size : Int) < 8 := c3
            omega
          · have : (z.cps.size : Int) < 8 := c3
            rw [push_size]; omega
        · have c3 : ¬ (z.cps.size : Int) < 8 := c3
          tb_start
          obtain ⟨ws', e1, e2, e3, _⟩ := setOf_put ws z
          refine a_setD (κ := .inr z) (by tb_rel) rfl (by rw [setOf_length, sizeLine_eq]; omega) ?_
          rw [e1]
          tb_start
          refine Al.ent (M := [Box b (n + 5 + 34 * i + 1 + 1), pt d (.dK (setOf ws')), R]) (.of (by tb_rel)) ?_
          refine Box.up (m := n + 5 + 34 * (i + 1)) (by omega) ?_
          refine a_nx ⟨ws', some (.int (0 + i)), some (.int x), some (.str z), o11, ⟨fun y hy => ?_, by omega⟩, rfl, rfl⟩ .refl
          rcases e2 y hy with rfl | q
          · exact ⟨hz, by omega, by omega⟩
          · exact hw y q
      · refine a_whF ?_
        tb_start
        obtain ⟨ws', e1, e2, e3, _⟩ := setOf_put ws z
        refine a_setD (κ := .inr z) (by tb_rel) rfl (by rw [setOf_length, sizeLine_eq]; omega) ?_
        rw [e1]
        tb_start
        refine Al.ent (M := [Box b (n + 5 + 34 * i + 1 + 1), pt d (.dK (setOf ws')), R]) (.of (by tb_rel)) ?_
        refine Box.up (m := n + 5 + 34 * (i + 1)) (by omega) ?_
        refine a_nx ⟨ws', some (.int (0 + i)), some (.int x), some (.str z), o11, ⟨fun y hy => ?_, by omega⟩, rfl, rfl⟩ .refl
        rcases e2 y hy with rfl | q
        · exact ⟨hz, by omega, by omega⟩
        · exact hw y q
    · tb_start
      refine a_ifs ?_
      tb_start
      refine a_if ?_ ?_ <;> intro c2
      · tb_start
        refine a_forR (fun k σ M => ∃ (x : Int) (z : Str) (o11 : Option V), (Nm z ∧ z.cps.size = k) ∧ σ = [some (.ref b), some (.int many), some (.int way), some (.ref d), some (.int st), some (.int (36 + low)), some (.int (3 + sz)), some (.int fst), some (.int (0 + i)), some (.int x), some (.str z), o11] ∧ M = [Box b (n + 5 + 34 * i), pt d (.dK (setOf ws)), R])
          ⟨_, ⟨_, "", o11, ⟨.nil, rfl⟩, rfl, rfl⟩, .refl⟩ ?_ ?_
        · rintro k σ M hk ⟨x, z, o11, ⟨hz, hzk⟩, rfl, rfl⟩
          have hk : k < 6 := by omega
          tb_start
          have q0 : 0 ≤ x % 6 := Int.emod_nonneg _ (by decide)
          have q1 : x % 6 < 6 := Int.emod_lt_of_pos _ (by decide)
          refine a_abf q0 q1 ?_
          refine a_add_ss (show z.cps.size + 1 ≤ _ by rw [sizeLine_eq]; omega) ?_
          tb_start
          exact a_nx ⟨_, _, _, ⟨hz.push (by omega) (by omega), by rw [push_size]; omega⟩, rfl, rfl⟩ .refl
        · rintro σ M ⟨x, z, o11, ⟨hz, hzk⟩, rfl, rfl⟩
          have hzk : (z.cps.size : Int) = 3 + sz := by rw [hzk]; omega
          tb_start
          obtain ⟨ws', e1, e2, e3, _⟩ := setOf_put ws z
          refine a_setD (κ := .inr z) (by tb_rel) rfl (by rw [setOf_length, sizeLine_eq]; omega) ?_
          rw [e1]
          tb_start
          refine Al.ent (M := [Box b (n + 5 + 34 * i), pt d (.dK (setOf ws')), R]) (.of (by tb_rel)) ?_
          refine Box.up (m := n + 5 + 34 * (i + 1)) (by omega) ?_
          refine a_nx ⟨ws', some (.int (0 + i)), some (.int x), some (.str z), o11, ⟨fun y hy => ?_, by omega⟩, rfl, rfl⟩ .refl
          rcases e2 y hy with rfl | q
          · exact ⟨hz, by omega, by omega⟩
          · exact hw y q
      · tb_start
        have k1 : 0 ≤ (936 - (36 + low)) / st := Int.ediv_nonneg (by omega) (by omega)
        have k2 : (936 - (36 + low)) / st ≤ 936 - (36 + low) := Int.ediv_le_self _ (by omega)
        have k3 : st * ((936 - (36 + low)) / st) ≤ 936 - (36 + low) := Int.mul_ediv_self_le (by omega)
        refine use_take (by omega) (by tb_rel) (by omega) (by omega) fun t t1 t2 => ?_
        have k4 : st * t ≤ st * ((936 - (36 + low)) / st) := Int.mul_le_mul_of_nonneg_left (by omega) (by omega)
        have k5 : 0 ≤ st * t := Int.mul_nonneg (by omega) t1
        tb_start
        refine use_ofm (by tb_rel) (by omega) (by omega) (by omega) fun z hz hz8 => ?_
        tb_start
        obtain ⟨ws', e1, e2, e3, _⟩ := setOf_put ws z
        refine a_setD (κ := .inr z) (by tb_rel) rfl (by rw [setOf_length, sizeLine_eq]; omega) ?_
        rw [e1]
        tb_start
        refine Al.ent (M := [Box b (n + 5 + 34 * i + 1 + 32), pt d (.dK (setOf ws')), R]) (.of (by tb_rel)) ?_
        refine Box.up (m := n + 5 + 34 * (i + 1)) (by omega) ?_
        refine a_nx ⟨ws', some (.int (0 + i)), o9, o10, o11, ⟨fun y hy => ?_, by omega⟩, rfl, rfl⟩ .refl
        rcases e2 y hy with rfl | q
        · exact ⟨hz, by omega, by omega⟩
        · exact hw y q
  · rintro σ M ⟨ws, o8, o9, o10, o11, ⟨hw, hl⟩, rfl, rfl⟩
    tb_start
    refine a_list_d (by tb_rel) fun c => ?_
    rw [setOf_keys]
    tb_start
    rw [Int.toNat_natCast] at hl ⊢
    exact a_end (by tb_rel) (ke (c, ws) ⟨hw, hl⟩)
end

section
variable {P : Program} {w : World} {K : PySem.W.Frag} {mg : Str → Option Value} {base : Heap}
theorem pow4 : (4 : Int) ^ 50 = 1267650600228229401496703205376 := by decide +kernel
def S_added : Tri where
  G := Str
  O := Unit
  args z := [.str z]
  cond z := Nm z ∧ z.cps.size ≤ 8
  pre _ := []
  res z _ := .int (mkS z)
  post _ _ := []
theorem use_added {L : List Asn} {z : Str} {Q : VK} {E : XK} (hn : Nm z) (hz : z.cps.size ≤ 8) (q : Al L (Q (.int (mkS z)))) : Al L (fun H => S_added.sp ([.str z] ++ []) H Q E) :=
  Tri.use S_added z rfl ⟨hn, hz⟩ .nil fun _ _ => q
theorem cut_size {z : Str} {k : Nat} (h : k ≤ z.cps.size) : (cutS z (some (k : Int)) none).cps.size = z.cps.size - k := by
  rw [← Array.length_toList, cut_from h, List.length_drop, Array.length_toList]
theorem cut_getD {z : Str} {k j : Nat} (h : k ≤ z.cps.size) : (cutS z (some (k : Int)) none).cps.getD j 0 = z.cps.getD (k + j) 0 := by
  rw [getD_toList, getD_toList, cut_from h, List.getD_eq_getElem?_getD, List.getD_eq_getElem?_getD, List.getElem?_drop]
theorem cut_get {z : Str} {k j : Nat} (h : k ≤ z.cps.size) : (cutS z (some (k : Int)) none).cps[j]? = z.cps[k + j]? := by
  rw [← Array.getElem?_toList, cut_from h, List.getElem?_drop, Array.getElem?_toList]
abbrev N__law_added : List Str := ["_law_name", "_law_total", "_law_first", "_law_sign"]
theorem sc__law_added : FnScope N__law_added ["_law_name"] (defScope s__law_added) := ⟨rfl, rfl, rfl, by decide +kernel, rfl, by decide +kernel, by decide +kernel⟩
theorem ok__law_added (T : Fx K mg) : FnG P w K mg base 1 (He.fAd K ("_law_added", none)) ["_law_name"] (S_added).sp := by
  refine Tri.fn (N := N__law_added) (k := 0) (S_added) T.d__law_added sc__law_added (fun g => rfl) (fun _ _ _ _ _ _ us hl => match us, hl with | [_], _ => rfl) fun cdv A outer s H E Q g R hr hc ke kx => ⟨_, PSs.nox ((pss_cons (ps_set (i := 1) sc__law_added.nd rfl (.inl rfl) pe_int)
    (pss_cons (ps_for PassesOwn.never rfl (pi_range1 (by rfl) T.b_range (pa_cons (pe_callB (q_len (K := K) rfl) (by rfl) T.b_len (by decide +kernel) (pa_cons (pv 0) pa_nil)) pa_nil)) (pg_name (i := 2) sc__law_added.nd rfl (.inl rfl)) (pss_one (ps_set (i := 1) sc__law_added.nd rfl (.inl rfl) (pe_op (q_add (K := K) rfl) (pv 1) (pe_callB (q_sum (K := K) rfl rfl) (by rfl) T.b_sum (by decide +kernel) (pa_cons (pe_lc (own := [("_law_sign", 3)]) rfl sc__law_added.nd (qi_any (K := K) rfl (pe_slice (q_sl (K := K) rfl) (pv 0) (po_some (pv 2)) po_none)) (blkOk_by (N := N__law_added) (sc := defScope s__law_added) (by decide +kernel)) (fun _ _ _ _ _ => (pg_name (i := 3) sc__law_added.nd rfl (.inl rfl))) (fun _ _ _ _ _ => pts_nil) (fun _ _ _ _ _ => (pe_op (q_add (K := K) rfl) (q_bm (K := K) rfl PySem.F.plainAttrs_str PySem.F.slot_str_index PySem.F.type_str_index m_sindex pe_str (pa_cons (pv 3) pa_nil)) pe_int))) pa_nil))))))
    (pss_one (ps_ret (pv 1)))))), ?_⟩
  obtain ⟨z, rfl⟩ : ∃ z : Str, z = g := ⟨g, rfl⟩
  obtain ⟨hn, hz⟩ : Nm z ∧ z.cps.size ≤ 8 := hc
  have hz' : z.length ≤ sizeLine := by
    rw [sizeLine_eq]
    show z.cps.size ≤ _
    omega
  have hl : (z.length : Int) = z.cps.size := rfl
  try dsimp only [cxOf]
  refine Al.start (L := [R]) [some (.str z), none, none, none] rfl ?_
  tb_start
  refine a_len_s hz' ?_
  tb_start
  refine a_forR (fun i σ M => ∃ o : Option V, σ = [some (.str z), some (.int (sg i fun f => sg (z.cps.size - f) fun j => vAt z (f + j))), o, none] ∧ M = [R]) ⟨[R], ⟨none, rfl, rfl⟩, .refl⟩ ?_ ?_
  · rintro i σ M hi ⟨o, rfl, rfl⟩
    have hi : i < z.cps.size := hi
    rw [Int.zero_add]
    tb_start
    refine a_slS hz' ?_
    tb_start
    refine a_lcS (by tb_rel) (Pure (fun j => .int (vAt z (i + j))) [R]) ⟨[R], ⟨rfl, rfl⟩, .refl⟩ ?_ ?_
    · rintro j c acc M D hx ⟨rfl, rfl⟩
      have hj := (Array.getElem?_eq_some_iff.mp hx).1
      rw [cut_size (by omega)] at hj
      rw [cut_get (by omega)] at hx
      tb_start
      obtain ⟨rest, ho⟩ := occ_at (hn _ c hx).1 (hn _ c hx).2
      refine a_sindex ho ?_
      tb_start
      refine a_lcP (by tb_rel) (by rw [sizeLine_eq]; omega) ?_ (.of (by tb_rel))
      unfold vAt
      rw [Array.getD_eq_getD_getElem?, hx]
      rfl
    · rintro acc M D ⟨rfl, rfl⟩
      rw [cut_size (by omega)]
      tb_start
      refine a_sumS (by tb_rel) ?_
      tb_start
      refine a_nx ⟨some (.int i), ?_, rfl⟩ (.of (by tb_rel))
      rw [sg_succ]
  · rintro σ M ⟨o, rfl, rfl⟩
    tb_start
    refine a_eqv ?_ (a_end (by tb_rel) (ke () trivial))
    show V.int (sg z.cps.size _) = V.int (mkS z)
    rw [sg_tails]; rfl
def S_figs : Tri where
  G := Int
  O := Addr × Nat
  args n := [.int n]
  cond n := 0 ≤ n ∧ n < 4 ^ 50
  res n o := .ref o.1
  post n o := [pt o.1 (.lst ((List.range (o.2 + 5)).map fun l => V.int (n / 4 ^ l % 4)))]
theorem use_figs {L : List Asn} {n : Int} {Q : VK} {E : XK} (h0 : 0 ≤ n) (h1 : n < 4 ^ 50) (q : ∀ p m, Al (pt p (.lst ((List.range (m + 5)).map fun l => V.int (n / 4 ^ l % 4))) :: L) (Q (.ref p))) : Al L (fun H => S_figs.sp ([.int n] ++ []) H Q E) :=
  Tri.use S_figs n rfl ⟨h0, h1⟩ .nil fun o _ => q o.1 o.2
abbrev N__law_figures : List Str := ["_law_number_here", "_law_found", "_law_figure"]
theorem sc__law_figures : FnScope N__law_figures ["_law_number_here"] (defScope s__law_figures) := ⟨rfl, rfl, rfl, by decide +kernel, rfl, by decide +kernel, by decide +kernel⟩
theorem ok__law_figures (T : Fx K mg) : FnG P w K mg base 1 (He.fAd K ("_law_figures", none)) ["_law_number_here"] (S_figs).sp := by
  refine Tri.fn (N := N__law_figures) (k := 0) (S_figs) T.d__law_figures sc__law_figures (fun g => rfl) (fun _ _ _ _ _ _ us hl => match us, hl with | [_], _ => rfl) fun cdv A outer s H E Q g R hr hc ke kx => ⟨_, PSs.nox ((pss_cons (ps_set (i := 1) sc__law_figures.nd rfl (.inl rfl) (pe_lst pa_nil))
    (pss_cons (ps_while PassesOwn.never (pt_cmpR o_gt (pv 0) pe_int (nomark _)) (pss_cons (ps_asg (pe_callB k_divmod (by rfl) T.b_divmod (by decide +kernel) (pa_cons (pv 0) (pa_cons pe_int pa_nil))) (qg_tup (K := K) (n := 2) rfl rfl (pgs_cons (pg_name (i := 0) sc__law_figures.nd rfl (.inl rfl)) (pgs_cons (pg_name (i := 2) sc__law_figures.nd rfl (.inl rfl)) pgs_nil))))
    (pss_one (ps_expr (q_bm (K := K) rfl PySem.F.plainAttrs_list PySem.F.slot_list_append PySem.F.type_list_append mt_append (pv 1) (pa_cons (pv 2) pa_nil))))))
    (pss_one (ps_ret (pe_op (q_add (K := K) rfl) (pv 1) (pe_op o_mul (pe_lst (pa_cons pe_int pa_nil)) pe_int))))))), ?_⟩
  obtain ⟨n, rfl⟩ : ∃ n : Int, n = g := ⟨g, rfl⟩
  obtain ⟨h0, h1⟩ : 0 ≤ n ∧ n < 4 ^ 50 := hc
  try dsimp only [cxOf]
  refine Al.start (L := [R]) [some (.int n), none, none] rfl ?_
  tb_start
  rename_i f
  refine a_while (fun m σ M => ∃ (i : Nat) (o : Option V), ((n / 4 ^ i).toNat = m ∧ i ≤ 50) ∧ σ = [some (.int (n / 4 ^ i)), some (.ref f), o] ∧ M = [pt f (.lst ((List.range i).map fun l => V.int (n / 4 ^ l % 4))), R])
    ⟨n.toNat, _, ⟨0, none, ⟨by rw [Int.pow_zero, Int.ediv_one], by decide⟩, by rw [Int.pow_zero, Int.ediv_one], rfl⟩, .refl⟩ ?_
  rintro m σ M ⟨i, o, ⟨hm, hi50⟩, rfl, rfl⟩
  have hd : 0 ≤ n / 4 ^ i := Int.ediv_nonneg h0 (Int.pow_nonneg (by decide))
  tb_start
  refine a_wh ?_ ?_ <;> intro c1
  · have hi : i < 50 := by
      by_cases q : i < 50
      · exact q
      · have e : n / 4 ^ i = 0 := Int.ediv_eq_zero_of_lt h0 (Int.lt_of_lt_of_le h1 (pow4_le (by omega)))
        omega
    tb_start
    refine a_divmod ⟨by decide, by decide⟩ fun t => ?_
    tb_start
    refine a_append (by tb_rel) (by rw [List.length_map, List.length_range, sizeLine_eq]; omega) ?_
    tb_start
    have e : n / 4 ^ i / 4 = n / 4 ^ (i + 1) := by rw [Int.ediv_ediv_of_nonneg (Int.pow_nonneg (by decide)), ← Int.pow_succ]
    rw [e, map_succ (g := fun l => V.int (n / 4 ^ l % 4))]
    have q1 : n / 4 ^ (i + 1) ≤ n / 4 ^ i / 4 := Int.le_of_eq e.symm
    refine a_whnx (m' := (n / 4 ^ (i + 1)).toNat) (by omega) ⟨i + 1, _, ⟨rfl, hi⟩, rfl, rfl⟩ (.of (by tb_rel))
  · tb_start
    have e0 : n / 4 ^ i = 0 := by omega
    refine a_rep (by tb_rel) (by decide) (by decide) (by rw [sizeLine_eq]; decide) fun c => ?_
    refine a_add_ll (by tb_rel) (by tb_rel) (by rw [List.length_map, List.length_range, sizeLine_eq]; show i + 5 ≤ _; omega) fun p => ?_
    have e : ((List.range i).map fun l => V.int (n / 4 ^ l % 4)) ++ (List.replicate (Int.toNat 5) [V.int 0]).flatten = (List.range (i + 5)).map fun l => V.int (n / 4 ^ l % 4) := by
      have z : ∀ k, V.int 0 = V.int (n / 4 ^ (i + k) % 4) := fun k => by
        rw [Int.pow_add, ← Int.ediv_ediv_of_nonneg (Int.pow_nonneg (by decide)), e0, Int.zero_ediv]; rfl
      rw [← map_succ, ← map_succ, ← map_succ, ← map_succ, ← map_succ]
      show _ ++ [V.int 0, V.int 0, V.int 0, V.int 0, V.int 0] = ((((_ ++ [V.int (n / 4 ^ (i + 0) % 4)]) ++ [V.int (n / 4 ^ (i + 1) % 4)]) ++ [V.int (n / 4 ^ (i + 2) % 4)]) ++ [V.int (n / 4 ^ (i + 3) % 4)]) ++ [V.int (n / 4 ^ (i + 4) % 4)]
      rw [← z, ← z, ← z, ← z, ← z]
      simp
    rw [e]
    exact a_end (by tb_rel) (ke (p, i) trivial)
def S_num : Tri where
  G := Addr × Nat
  O := Int
  args g := [.ref g.1]
  cond g := g.2 < 2 ^ 38
  pre g := [Box g.1 g.2]
  ok g o := 0 ≤ o ∧ o < 4 ^ 50
  res g o := .int o
  post g o := [Box g.1 (g.2 + 4)]
theorem use_num {L L0 : List Asn} {b : Addr} {n : Nat} {Q : VK} {E : XK} (r : Rem L (Box b n) L0) (hn : n < 2 ^ 38)
    (q : ∀ o, 0 ≤ o → o < 4 ^ 50 → Al (Box b (n + 4) :: L0) (Q (.int o))) : Al L (fun H => S_num.sp ([.ref b] ++ []) H Q E) :=
  Tri.use S_num ((b, n) : Addr × Nat) rfl hn (.cons r .nil) fun o ho => q o ho.1 ho.2
theorem shl_k02 {o : Int} (h0 : 0 ≤ o) (h1 : o < 40) : 0 < (1 : Int) * 2 ^ (2 * o).toNat ∧ (1 : Int) * 2 ^ (2 * o).toNat < 4 ^ 50 := by
  have e : ∀ k : Nat, k < 40 → 0 < (1 : Int) * 2 ^ (2 * (k : Int)).toNat ∧ (1 : Int) * 2 ^ (2 * (k : Int)).toNat < 4 ^ 50 := by decide +kernel
  have := e o.toNat (by omega)
  rwa [Int.toNat_of_nonneg h0] at this
theorem ten30 : (10 : Int) ^ Int.toNat 30 = 1000000000000000000000000000000 := by decide +kernel
abbrev N__law_number : List Str := ["_law_box_here", "_law_way", "_law_power"]
theorem sc__law_number : FnScope N__law_number ["_law_box_here"] (defScope s__law_number) := ⟨rfl, rfl, rfl, by decide +kernel, rfl, by decide +kernel, by decide +kernel⟩
theorem ok__law_number (T : Fx K mg) : FnG P w K mg base 2 (He.fAd K ("_law_number", none)) ["_law_box_here"] (S_num).sp := by
  refine Tri.fn (N := N__law_number) (k := 1) (S_num) T.d__law_number sc__law_number (fun g => rfl) (fun _ _ _ _ _ _ us hl => match us, hl with | [_], _ => rfl) fun cdv A outer s H E Q g R hr hc ke kx => ⟨_, PSs.nox ((pss_cons (ps_par (i := 1) (j := 2) (by rfl) sc__law_number.nd rfl rfl (by decide) rfl rfl (pa_cons (ge_call (ok__law_take T) hr.mono rfl T.g__law_take px0 (pa_cons (pv 0) (pa_cons pe_int pa_nil))) (pa_cons (pe_op o_shl pe_int (pe_op o_mul pe_int (ge_call (ok__law_take T) hr.mono rfl T.g__law_take px0 (pa_cons (pv 0) (pa_cons pe_int pa_nil))))) pa_nil)) (by rfl))
    (pss_one (ps_ret (pe_ix (q_ix (K := K) rfl hr.u1) (pe_lst (pa_cons (ge_call (ok__law_take T) hr.mono rfl T.g__law_take px0 (pa_cons (pv 0) (pa_cons pe_int pa_nil))) (pa_cons (pv 2) (pa_cons (pe_op o_sub (pv 2) pe_int) (pa_cons (pe_op o_sub (pe_op o_sub (pe_op o_pow pe_int pe_int) pe_int) (ge_call (ok__law_take T) hr.mono rfl T.g__law_take px0 (pa_cons (pv 0) (pa_cons pe_int pa_nil)))) pa_nil))))) (pv 1) (fun _ _ => rfl)))))), ?_⟩
  obtain ⟨b, n⟩ := g
  have hn : n < 2 ^ 38 := hc
  try dsimp only [cxOf]
  refine Al.start (L := [Box b n, R]) [some (.ref b), none, none] rfl ?_
  tb_start
  refine use_take (by decide) (by tb_rel) (by omega) (by decide) fun way w1 w2 => ?_
  tb_start
  refine use_take (by decide) (by tb_rel) (by omega) (by decide) fun o o1 o2 => ?_
  have p4 := pow4
  have hp := shl_k02 o1 o2
  tb_start
  refine use_take (by decide) (by tb_rel) (by omega) (by decide) fun s s1 s2 => ?_
  tb_start
  refine use_take (by decide) (by tb_rel) (by omega) (by decide) fun t t1 t2 => ?_
  tb_start
  have ht := ten30
  obtain ⟨v, hv, ha⟩ := pick4 (a := .int s) (b := .int (1 * 2 ^ (2 * o).toNat)) (c := .int (1 * 2 ^ (2 * o).toNat - 1)) (d := .int (10 ^ Int.toNat 30 - 1 - t)) w1 w2
  refine a_xL (by top_args) ha ?_
  obtain ⟨x, ⟨x1, x2⟩, rfl⟩ : ∃ x : Int, (0 ≤ x ∧ x < 4 ^ 50) ∧ v = V.int x := by
    rcases hv with rfl | rfl | rfl | rfl
    · exact ⟨_, ⟨s1, by omega⟩, rfl⟩
    · exact ⟨_, ⟨by omega, by omega⟩, rfl⟩
    · exact ⟨_, ⟨by omega, by omega⟩, rfl⟩
    · exact ⟨_, ⟨by omega, by omega⟩, rfl⟩
  exact a_end (by tb_rel) (ke x ⟨x1, x2⟩)
def S_nr : Tri where
  G := Addr × Nat
  O := Unit
  args g := [.ref g.1]
  cond g := g.2 < 2 ^ 38
  pre g := [Box g.1 g.2]
  res g o := .bl true
  post g o := [Box g.1 (g.2 + 4)]
theorem use_nr {L L0 : List Asn} {b : Addr} {n : Nat} {Q : VK} {E : XK} (r : Rem L (Box b n) L0) (hn : n < 2 ^ 38)
    (q : Al (Box b (n + 4) :: L0) (Q (.bl true))) : Al L (fun H => S_nr.sp ([.ref b] ++ []) H Q E) :=
  Tri.use S_nr ((b, n) : Addr × Nat) rfl hn (.cons r .nil) fun o ho => q
abbrev N__law_numbers_right : List Str := ["_law_box_here", "_law_number_here", "_law_figures_here", "_law_level"]
theorem sc__law_numbers_right : FnScope N__law_numbers_right ["_law_box_here"] (defScope s__law_numbers_right) := ⟨rfl, rfl, rfl, by decide +kernel, rfl, by decide +kernel, by decide +kernel⟩
theorem ok__law_numbers_right (T : Fx K mg) : FnG P w K mg base 3 (He.fAd K ("_law_numbers_right", none)) ["_law_box_here"] (S_nr).sp := by
  refine Tri.fn (N := N__law_numbers_right) (k := 2) (S_nr) T.d__law_numbers_right sc__law_numbers_right (fun g => rfl) (fun _ _ _ _ _ _ us hl => match us, hl with | [_], _ => rfl) fun cdv A outer s H E Q g R hr hc ke kx => ⟨_, PSs.nox ((pss_cons (ps_set (i := 1) sc__law_numbers_right.nd rfl (.inr rfl) (ge_call (ok__law_number T) hr.mono rfl T.g__law_number px0 (pa_cons (pv 0) pa_nil)))
    (pss_cons (ps_set (i := 2) sc__law_numbers_right.nd rfl (.inl rfl) (ge_call (ok__law_figures T) hr.mono rfl T.g__law_figures px0 (pa_cons (pv 1) pa_nil)))
    (pss_one (ps_ret (pe_cmpR (q_eq (K := K) rfl hr.u64) (pe_callB (q_repr (K := K) rfl hr.g hr.u64) (by rfl) T.b_repr (by decide +kernel) (pa_cons (pe_lc (own := [("_law_level", 3)]) rfl sc__law_numbers_right.nd (pi_range1 (by rfl) T.b_range (pa_cons pe_int pa_nil)) (blkOk_by (N := N__law_numbers_right) (sc := defScope s__law_numbers_right) (by decide +kernel)) (fun _ _ _ _ _ => (pg_name (i := 3) sc__law_numbers_right.nd rfl (.inl rfl))) (fun _ _ _ _ _ => pts_nil) (fun _ _ _ _ _ => (ge_call (ok_digit T) hr.mono rfl T.g_digit px0 (pa_cons (pv 1) (pa_cons (pv 3) pa_nil))))) pa_nil)) (pe_callB (q_repr (K := K) rfl hr.g hr.u64) (by rfl) T.b_repr (by decide +kernel) (pa_cons (pe_slice (q_sl (K := K) rfl) (pv 2) po_none (po_some pe_int)) pa_nil)) (nomark _))))))), ?_⟩
  obtain ⟨b, n⟩ := g
  have hn : n < 2 ^ 38 := hc
  try dsimp only [cxOf]
  refine Al.start (L := [Box b n, R]) [some (.ref b), none, none, none] rfl ?_
  tb_start
  refine use_num (by tb_rel) hn fun x x1 x2 => ?_
  tb_start
  refine use_figs x1 x2 fun f m => ?_
  have hd : ∀ l : Nat, (x / 4 ^ l % 4).natAbs < 10 ^ 40 := fun l => by
    have a1 := Int.emod_nonneg (x / 4 ^ l) (b := 4) (by decide)
    have a2 := Int.emod_lt_of_pos (x / 4 ^ l) (b := 4) (by decide)
    omega
  tb_start
  refine a_lcR (by tb_rel) (Pure (fun l => .int (x / 4 ^ l % 4)) [pt f (.lst ((List.range (m + 5)).map fun l => V.int (x / 4 ^ l % 4))), Box b (n + 4), R]) ⟨_, ⟨rfl, rfl⟩, .refl⟩ ?_ ?_
  · rintro i acc M D hi ⟨rfl, rfl⟩
    have hi : i < 5 := hi
    rw [Int.zero_add]
    tb_start
    refine use_digit (by omega) ?_
    exact a_lcP (by tb_rel) (by rw [sizeLine_eq]; omega) rfl (.of (by tb_rel))
  · rintro acc M D ⟨rfl, rfl⟩
    tb_start
    refine a_reprP (by tb_rel) (fun i _ => hd i) (by decide) ?_
    tb_start
    refine a_slL (by top_args) fun c => ?_
    have e : cutV ((List.range (m + 5)).map fun l => V.int (x / 4 ^ l % 4)) none (some 5) = (List.range 5).map fun l => V.int (x / 4 ^ l % 4) := by
      rw [show (some 5 : Option Int) = some ((5 : Nat) : Int) from rfl, cutV_to (by rw [List.length_map, List.length_range]; omega), ← List.map_take, List.take_range, Nat.min_eq_left (by omega)]
    rw [e]
    tb_start
    refine a_reprP (by tb_rel) (fun i _ => hd i) (by decide) ?_
    tb_start
    refine a_eqv (congrArg V.bl (decide_eq_true rfl)) ?_
    exact a_end (by tb_rel) (ke () trivial)
end

section
variable {P : Program} {w : World} {K : PySem.W.Frag} {mg : Str → Option Value} {base : Heap}
theorem Nm.iff {z : Str} : Nm z ↔ ∀ c ∈ z.cps.toList, 97 ≤ c ∧ c ≤ 122 := by
  constructor
  · intro h c hc
    obtain ⟨i, hi⟩ := List.mem_iff_getElem?.mp hc
    exact h i c (by rw [← Array.getElem?_toList]; exact hi)
  · intro h i c hc
    rw [← Array.getElem?_toList] at hc
    exact h c (List.mem_iff_getElem?.mpr ⟨i, hc⟩)
theorem Nm.app {x y : Str} (h1 : Nm x) (h2 : Nm y) : Nm (x ++ y) := by
  rw [Nm.iff] at h1 h2 ⊢
  intro c hc
  have e : c ∈ (x.cps ++ y.cps).toList := hc
  rw [Array.toList_append] at e
  rcases List.mem_append.mp e with q | q
  · exact h1 c q
  · exact h2 c q
theorem Nm.cutF {z : Str} {k : Nat} (h : Nm z) (hk : k ≤ z.cps.size) : Nm (cutS z (some (k : Int)) none) := by
  rw [Nm.iff] at h ⊢
  rw [cut_from hk]
  exact fun c hc => h c (List.mem_of_mem_drop hc)
theorem Nm.cutT {z : Str} {k : Nat} (h : Nm z) : Nm (cutS z none (some (k : Int))) := by
  rw [Nm.iff] at h ⊢
  rw [cut_to]
  exact fun c hc => h c (List.mem_of_mem_take hc)
theorem cutT_size {z : Str} {k : Nat} : (cutS z none (some (k : Int))).cps.size = min k z.cps.size := by
  rw [← Array.length_toList, cut_to, List.length_take, Array.length_toList]
theorem app_size {x y : Str} : (x ++ y).cps.size = x.cps.size + y.cps.size := by
  show (x.cps ++ y.cps).size = _
  rw [Array.size_append]
theorem Nm.lit {z : Str} (h : (z.cps.toList.all fun c => decide (97 ≤ c ∧ c ≤ 122)) = true) : Nm z := by
  rw [Nm.iff]
  exact fun c hc => of_decide_eq_true (List.all_eq_true.mp h c hc)
theorem vAt_le {z : Str} {i : Nat} (h : Nm z) (hi : i < z.cps.size) : 1 ≤ vAt z i ∧ vAt z i ≤ 26 := by
  have e : z.cps[i]? = some z.cps[i] := Array.getElem?_eq_getElem hi
  have q := h i _ e
  unfold vAt
  rw [Array.getD_eq_getD_getElem?, e]
  rw [Option.getD_some]
  generalize z.cps[i] = c at q
  omega
theorem mk_bound {z : Str} (h : Nm z) (hz : z.cps.size ≤ 8) : 0 ≤ mkS z ∧ mkS z ≤ 936 := by
  have e : ∀ n : Nat, n < 9 → sg n (fun i => ((i : Int) + 1) * 26) ≤ 936 := by decide +kernel
  constructor
  · refine (sg_bound (c := 1000000) fun i hi => ?_).1
    have q := vAt_le h hi
    refine ⟨Int.mul_nonneg (by omega) (by omega), ?_⟩
    have : ((i : Int) + 1) * vAt z i ≤ ((i : Int) + 1) * 26 := Int.mul_le_mul_of_nonneg_left q.2 (by omega)
    unfold mkAt
    omega
  · refine Int.le_trans (sg_le fun i hi => ?_) (e z.cps.size (by omega))
    exact Int.mul_le_mul_of_nonneg_left (vAt_le h hi).2 (by omega)
theorem dig5 {F : Int} (h0 : 0 ≤ F) (h1 : F < 1024) : sg 5 (fun l => F / 4 ^ l % 4 * 2 ^ (2 * (l : Int)).toNat) = F := by
  have e : sg 5 (fun l => F / 4 ^ l % 4 * 2 ^ (2 * (l : Int)).toNat) = F / 1 % 4 * 1 + (F / 4 % 4 * 4 + (F / 16 % 4 * 16 + (F / 64 % 4 * 64 + (F / 256 % 4 * 256 + 0)))) := rfl
  rw [e]; omega
theorem use_box {K : PySem.W.Frag} {L L0 : List Asn} {a : Addr} {ns : List Int} {k : Nat} {Q : VK} {E : XK} (hk : k ≤ 63) (r : Rem L (sq K a (ns.map V.int)) L0)
    (q : ∀ b, Al (Box b 0 :: sq K a (ns.map V.int) :: L0) (Q (.ref b))) : Al L (fun H => (S_box K).sp ([.ref a, .int k] ++ []) H Q E) :=
  Tri.use (S_box K) (((a, ns), k) : (Addr × List Int) × Nat) rfl hk (.cons r .nil) fun o _ => q o
theorem use_names {L L0 : List Asn} {b : Addr} {n m : Nat} {Q : VK} {E : XK} (r : Rem L (Box b n) L0) (hn : n < 2 ^ 38) (hm : m ≤ 100)
    (q : ∀ p ws, Nms ws → ws.length ≤ m → Al (pt p (.lst (ws.map V.str)) :: Box b (n + 5 + 34 * m) :: L0) (Q (.ref p))) : Al L (fun H => S_names.sp ([.ref b, .int m] ++ []) H Q E) :=
  Tri.use S_names ((b, n, m) : Addr × Nat × Nat) rfl ⟨hn, hm⟩ (.cons r .nil) fun o ho => q o.1 o.2 ho.1 ho.2
abbrev N_law : List Str := ["_law_script", "_law_k", "_law_box_here", "_law_names_here", "_law_name", "_law_found", "_law_at", "_law_more", "_law_turned_about", "_law_due", "_law_one", "_law_level", "_law_turn"]
theorem sc_law : FnScope N_law ["_law_script"] (defScope s_law) := ⟨rfl, rfl, rfl, by decide +kernel, rfl, by decide +kernel, by decide +kernel⟩
theorem ok_law (T : Fx K mg) : FnG P w K mg base 4 (He.fAd K ("law", none)) ["_law_script"] ((S_law K)).sp := by
  refine Tri.fn (N := N_law) (k := 3) ((S_law K)) T.d_law sc_law (fun g => rfl) (fun _ _ _ _ _ _ us hl => match us, hl with | [_], _ => rfl) fun cdv A outer s H E Q g R hr hc ke kx => ⟨_, PSs.nox ((pss_cons (ps_for PassesOwn.never rfl (pi_range1 (by rfl) T.b_range (pa_cons (pe_op (q_add (K := K) rfl) pe_int (pe_callB (k_min rfl) (by rfl) T.b_min (by decide +kernel) (pa_cons pe_int (pa_cons (pe_callB (q_len (K := K) rfl) (by rfl) T.b_len (by decide +kernel) (pa_cons (pv 0) pa_nil)) pa_nil)))) pa_nil)) (pg_name (i := 1) sc_law.nd rfl (.inl rfl)) (pss_cons (ps_set (i := 2) sc_law.nd rfl (.inr rfl) (ge_call (ok__law_box T) hr.mono rfl T.g__law_box px0 (pa_cons (pv 0) (pa_cons (pv 1) pa_nil))))
    (pss_cons (ps_set (i := 3) sc_law.nd rfl (.inl rfl) (pe_op (q_add (K := K) rfl) (ge_call (ok__law_names T) hr.mono rfl T.g__law_names px0 (pa_cons (pv 2) (pa_cons pe_int pa_nil))) (pe_lst (pa_cons pe_str (pa_cons pe_str (pa_cons pe_str (pa_cons pe_str pa_nil)))))))
    (pss_cons (ps_for PassesOwn.never rfl (qi_any (K := K) rfl (pv 3)) (pg_name (i := 4) sc_law.nd rfl (.inl rfl)) (pss_cons (ps_asg (pe_tup (pa_cons (ge_call (ok_mark T) hr.mono rfl T.g_mark px0 (pa_cons (pv 4) pa_nil)) (pa_cons (ge_call (ok__law_take T) hr.mono rfl T.g__law_take px0 (pa_cons (pv 2) (pa_cons (pe_callB (q_len (K := K) rfl) (by rfl) T.b_len (by decide +kernel) (pa_cons (pv 4) pa_nil)) pa_nil))) pa_nil))) (qg_tup (K := K) (n := 2) rfl rfl (pgs_cons (pg_name (i := 5) sc_law.nd rfl (.inr rfl)) (pgs_cons (pg_name (i := 6) sc_law.nd rfl (.inl rfl)) pgs_nil))))
    (pss_cons (ps_set (i := 7) sc_law.nd rfl (.inl rfl) (pe_op (q_add (K := K) rfl) (pe_slice (q_sl (K := K) rfl) (pv 4) po_none (po_some pe_int)) (pe_ix (q_ix (K := K) rfl hr.u1) pe_str (ge_call (ok__law_take T) hr.mono rfl T.g__law_take px0 (pa_cons (pv 2) (pa_cons pe_int pa_nil))) (fun _ _ => rfl))))
    (pss_cons (ps_set (i := 8) sc_law.nd rfl (.inl rfl) (pe_op (q_add (K := K) rfl) (pe_slice (q_sl (K := K) rfl) (pv 4) (po_some (pv 6)) po_none) (pe_slice (q_sl (K := K) rfl) (pv 4) po_none (po_some (pv 6)))))
    (pss_cons (ps_setLc (i := 9) (own := [("_law_one", 10)]) rfl sc_law.nd rfl rfl (sw_true rfl rfl rfl (by decide +kernel)) (qi_any (K := K) rfl (pe_tup (pa_cons (pv 4) (pa_cons (pv 7) (pa_cons (pv 8) pa_nil))))) (blkOk_by (N := N_law) (sc := defScope s_law) (by decide +kernel)) (fun _ _ _ _ _ => (pg_name (i := 10) sc_law.nd rfl (.inl rfl))) (fun _ _ _ _ _ => pts_nil) (fun _ _ _ _ _ => (ge_call (ok__law_added T) hr.mono rfl T.g__law_added px0 (pa_cons (pv 10) pa_nil))))
    (pss_cons (ps_if (pt_cmpR (q_ne (K := K) rfl hr.u64) (pe_callB (q_repr (K := K) rfl hr.g hr.u64) (by rfl) T.b_repr (by decide +kernel) (pa_cons (pe_lst (pa_cons (pv 5) (pa_cons (ge_call (ok_mark T) hr.mono rfl T.g_mark px0 (pa_cons (pv 7) pa_nil)) (pa_cons (ge_call (ok_mark T) hr.mono rfl T.g_mark px0 (pa_cons (pv 8) pa_nil)) pa_nil)))) pa_nil)) (pe_callB (q_repr (K := K) rfl hr.g hr.u64) (by rfl) T.b_repr (by decide +kernel) (pa_cons (pv 9) pa_nil)) (nomark _)) (pss_one (ps_ret pe_bl)) pss_nil)
    (pss_one (ps_if (pt_cmpR (q_ne (K := K) rfl hr.u64) (pe_callB (q_sum (K := K) rfl rfl) (by rfl) T.b_sum (by decide +kernel) (pa_cons (pe_lc (own := [("_law_level", 11)]) rfl sc_law.nd (pi_range1 (by rfl) T.b_range (pa_cons pe_int pa_nil)) (blkOk_by (N := N_law) (sc := defScope s_law) (by decide +kernel)) (fun _ _ _ _ _ => (pg_name (i := 11) sc_law.nd rfl (.inl rfl))) (fun _ _ _ _ _ => pts_nil) (fun _ _ _ _ _ => (pe_op o_shl (ge_call (ok_digit T) hr.mono rfl T.g_digit px0 (pa_cons (pv 5) (pa_cons (pv 11) pa_nil))) (pe_op o_mul pe_int (pv 11))))) pa_nil)) (pv 5) (nomark _)) (pss_one (ps_ret pe_bl)) pss_nil))))))))
    (pss_one (ps_if (PW.pt (pw_or (pt_cmpR (q_ne (K := K) rfl hr.u64) (ge_call (ok_mark T) hr.mono rfl T.g_mark px0 (pa_cons pe_str pa_nil)) pe_int (nomark _)) (pw_or1 (pt_not (pt_val (pe_callB (q_all (K := K) rfl rfl) (by rfl) T.b_all (by decide +kernel) (pa_cons (pe_lc (own := [("_law_turn", 12)]) rfl sc_law.nd (pi_range1 (by rfl) T.b_range (pa_cons pe_int pa_nil)) (blkOk_by (N := N_law) (sc := defScope s_law) (by decide +kernel)) (fun _ _ _ _ _ => (pg_name (i := 12) sc_law.nd rfl (.inl rfl))) (fun _ _ _ _ _ => pts_nil) (fun _ _ _ _ _ => (ge_call (ok__law_numbers_right T) hr.mono rfl T.g__law_numbers_right px0 (pa_cons (pv 2) pa_nil)))) pa_nil))))))) (pss_one (ps_ret pe_bl)) pss_nil))))))
    (pss_one (ps_ret pe_bl)))), ?_⟩
  obtain ⟨a, ns⟩ := g
  have hns : ns.length ≤ 63 := hc
  try dsimp only [cxOf]
  refine Al.start (L := [sq K a (ns.map V.int), R]) [some (.ref a), none, none, none, none, none, none, none, none, none, none, none, none] rfl ?_
  tb_start
  rw [List.length_map]
  generalize hq : (if (ns.length : Int) < 8 then (ns.length : Int) else 8) = q
  have hq8 : 0 ≤ q ∧ q ≤ 8 := by split at hq <;> omega
  tb_start
  refine a_forR (fun i σ M => ∃ (o1 o2 o3 o4 o5 o6 o7 o8 o9 : Option V), σ = [some (.ref a), o1, o2, o3, o4, o5, o6, o7, o8, o9, none, none, none] ∧ M = [sq K a (ns.map V.int), R]) ⟨_, ⟨none, none, none, none, none, none, none, none, none, rfl, rfl⟩, .refl⟩ ?_ ?_
  · rintro k σ M hk ⟨o1, o2, o3, o4, o5, o6, o7, o8, o9, rfl, rfl⟩
    rw [Int.zero_add]
    tb_start
    refine use_box (by omega) (by tb_rel) fun b => ?_
    tb_start
    refine use_names (m := 10) (by tb_rel) (by decide) (by decide) fun p ws hw hl => ?_
    tb_start
    refine a_add_ll (by tb_rel) (by tb_rel) (by rw [List.length_map, sizeLine_eq]; show ws.length + 4 ≤ _; omega) fun c => ?_
    have e : ws.map V.str ++ [V.str "a", V.str "z", V.str "zzzzzzzz", V.str "cab"] = (ws ++ (["a", "z", "zzzzzzzz", "cab"] : List Str)).map V.str := by rw [List.map_append]; rfl
    rw [e]
    have hv : Nms (ws ++ (["a", "z", "zzzzzzzz", "cab"] : List Str)) := by
      intro z hz
      rcases List.mem_append.mp hz with q | q
      · exact hw z q
      · have q' : z = "a" ∨ z = "z" ∨ z = "zzzzzzzz" ∨ z = "cab" := by simpa using q
        rcases q' with rfl | rfl | rfl | rfl
        · exact ⟨Nm.lit (by decide +kernel), by decide +kernel, by decide +kernel⟩
        · exact ⟨Nm.lit (by decide +kernel), by decide +kernel, by decide +kernel⟩
        · exact ⟨Nm.lit (by decide +kernel), by decide +kernel, by decide +kernel⟩
        · exact ⟨Nm.lit (by decide +kernel), by decide +kernel, by decide +kernel⟩
    have hvl : (ws ++ (["a", "z", "zzzzzzzz", "cab"] : List Str)).length ≤ 14 := by rw [List.length_append]; show ws.length + 4 ≤ 14; omega
    generalize (ws ++ (["a", "z", "zzzzzzzz", "cab"] : List Str)) = vs at hv hvl
    tb_start
    refine Al.ent (M := [pt c (.lst (vs.map V.str)), Box b (0 + 5 + 34 * 10), sq K a (ns.map V.int), R]) (.of (by tb_rel)) ?_
    refine a_forL (fun i σ M => ∃ (o4 o5 o6 o7 o8 o9 : Option V), σ = [some (.ref a), some (.int k), some (.ref b), some (.ref c), o4, o5, o6, o7, o8, o9, none, none, none] ∧ M = [pt c (.lst (vs.map V.str)), Box b (345 + 2 * i), sq K a (ns.map V.int), R])
      ⟨_, ⟨o4, o5, o6, o7, o8, o9, rfl, rfl⟩, .refl⟩ (fun i σ M ⟨_, _, _, _, _, _, _, e⟩ => by rw [e]; top_args) ?_ ?_
    · rintro i x σ M hx ⟨o4, o5, o6, o7, o8, o9, rfl, rfl⟩
      have hi : i < 14 := by
        have := (List.getElem?_eq_some_iff.mp hx).1
        rw [List.length_map] at this
        omega
      obtain ⟨z, hz, rfl⟩ : ∃ z, z ∈ vs ∧ x = .str z := by
        rw [List.getElem?_map] at hx
        obtain ⟨z, hz, e⟩ := Option.map_eq_some_iff.mp hx
        exact ⟨z, List.mem_of_getElem? hz, e.symm⟩
      obtain ⟨hz0, hz1, hz8⟩ := hv z hz
      have hzl : z.length ≤ sizeLine := by
        rw [sizeLine_eq]
        show z.cps.size ≤ _
        omega
      have hze : (z.length : Int) = z.cps.size := rfl
      tb_start
      refine use_mark hz0 hz8 ?_
      tb_start
      refine a_len_s hzl ?_
      tb_start
      refine use_take (by omega) (by tb_rel) (by omega) (by omega) fun t t1 t2 => ?_
      obtain ⟨t, rfl⟩ : ∃ j : Nat, t = j := ⟨t.toNat, by omega⟩
      tb_start
      refine a_slS hzl ?_
      tb_start
      refine use_take (by decide) (by tb_rel) (by omega) (by decide) fun s s1 s2 => ?_
      refine a_abc s1 s2 ?_
      have z7 : (cutS z none (some 7)).cps.size = min 7 z.cps.size := cutT_size (k := 7)
      refine a_add_ss (show (cutS z none (some 7)).cps.size + 1 ≤ _ by rw [sizeLine_eq]; omega) ?_
      have hy0 : Nm (cutS z none (some 7) ++ (⟨#[97 + s.toNat]⟩ : Str)) := (hz0.cutT (k := 7)).push (by omega) (by omega)
      have hy8 : (cutS z none (some 7) ++ (⟨#[97 + s.toNat]⟩ : Str)).cps.size ≤ 8 := by rw [push_size]; omega
      generalize (cutS z none (some 7) ++ (⟨#[97 + s.toNat]⟩ : Str)) = y at hy0 hy8
      tb_start
      refine a_slS hzl ?_
      tb_start
      refine a_slS hzl ?_
      have zt : t ≤ z.cps.size := by omega
      have w1 := cut_size zt
      have w2 := cutT_size (z := z) (k := t)
      refine a_add_ss (show (cutS z (some (t : Int)) none).cps.size + (cutS z none (some (t : Int))).cps.size ≤ _ by rw [sizeLine_eq]; omega) ?_
      have hu0 : Nm (cutS z (some (t : Int)) none ++ cutS z none (some (t : Int))) := (hz0.cutF zt).app hz0.cutT
      have hu8 : (cutS z (some (t : Int)) none ++ cutS z none (some (t : Int))).cps.size ≤ 8 := by rw [app_size]; omega
      generalize (cutS z (some (t : Int)) none ++ cutS z none (some (t : Int))) = u at hu0 hu8
      tb_start
      rename_i t3
      refine Al.ent (M := [pt t3 (.tup [.str z, .str y, .str u]), Box b (345 + 2 * i + 1 + 1), pt c (.lst (vs.map V.str)), sq K a (ns.map V.int), R]) (.of (by tb_rel)) ?_
      refine a_lcT (by tb_rel) (Pure (fun j => .int (mkS ([z, y, u].getD j ""))) [pt t3 (.tup [.str z, .str y, .str u]), Box b (345 + 2 * i + 1 + 1), pt c (.lst (vs.map V.str)), sq K a (ns.map V.int), R]) ⟨_, ⟨rfl, rfl⟩, .refl⟩ (fun i acc M ⟨_, e⟩ => by rw [e]; top_args) ?_ ?_
      · rintro j x acc M D hx ⟨rfl, rfl⟩
        have hj : j < 3 := (List.getElem?_eq_some_iff.mp hx).1
        obtain rfl | rfl | rfl : j = 0 ∨ j = 1 ∨ j = 2 := by omega
        · obtain rfl : V.str z = x := Option.some.inj hx
          tb_start
          refine use_added hz0 hz8 ?_
          exact a_lcP (by tb_rel) (by rw [sizeLine_eq]; decide) rfl (.of (by tb_rel))
        · obtain rfl : V.str y = x := Option.some.inj hx
          tb_start
          refine use_added hy0 hy8 ?_
          exact a_lcP (by tb_rel) (by rw [sizeLine_eq]; decide) rfl (.of (by tb_rel))
        · obtain rfl : V.str u = x := Option.some.inj hx
          tb_start
          refine use_added hu0 hu8 ?_
          exact a_lcP (by tb_rel) (by rw [sizeLine_eq]; decide) rfl (.of (by tb_rel))
      · rintro acc M D ⟨rfl, rfl⟩
        change Al (pt D (.lst ((List.range 3).map fun j => V.int (mkS ([z, y, u].getD j "")))) :: _) _
        have bz := mk_bound hz0 hz8
        have bY := mk_bound hy0 hy8
        have bu := mk_bound hu0 hu8
        tb_start
        refine a_ifs ?_
        tb_start
        refine use_mark hy0 hy8 ?_
        tb_start
        refine use_mark hu0 hu8 ?_
        tb_start
        refine a_reprL (xs := [.int (mkS z), .int (mkS y), .int (mkS u)]) (ns := [mkS z, mkS y, mkS u]) (by top_args) rfl (fun m hm => ?_) (show 3 ≤ 2000 by decide) ?_
        · have hm' : m = mkS z ∨ m = mkS y ∨ m = mkS u := by simpa using hm
          omega
        tb_start
        refine a_reprP (by tb_rel) (fun j hj => ?_) (show 3 ≤ 2000 by decide) ?_
        · have hj : j < 3 := hj
          obtain rfl | rfl | rfl : j = 0 ∨ j = 1 ∨ j = 2 := by omega
          · show (mkS z).natAbs < _
            omega
          · show (mkS y).natAbs < _
            omega
          · show (mkS u).natAbs < _
            omega
        tb_start
        refine a_ifFe (congrArg not (decide_eq_true rfl)) ?_
        tb_start
        refine a_ifs ?_
        tb_start
        refine Al.ent (M := [Box b (345 + 2 * i + 1 + 1), pt c (.lst (vs.map V.str)), sq K a (ns.map V.int), R]) (.of (by tb_rel)) ?_
        refine a_lcR (by tb_rel) (Pure (fun l => .int (mkS z / 4 ^ l % 4 * 2 ^ (2 * (l : Int)).toNat)) [Box b (345 + 2 * i + 1 + 1), pt c (.lst (vs.map V.str)), sq K a (ns.map V.int), R]) ⟨_, ⟨rfl, rfl⟩, .refl⟩ ?_ ?_
        · rintro l acc M D hl ⟨rfl, rfl⟩
          have hl : l < 5 := hl
          rw [Int.zero_add]
          tb_start
          refine use_digit (by omega) ?_
          have a1 := Int.emod_nonneg (mkS z / 4 ^ l) (b := 4) (by decide)
          have a2 := Int.emod_lt_of_pos (mkS z / 4 ^ l) (b := 4) (by decide)
          tb_start
          exact a_lcP (by tb_rel) (by rw [sizeLine_eq]; omega) rfl (.of (by tb_rel))
        · rintro acc M D ⟨rfl, rfl⟩
          tb_start
          refine a_sumS (by tb_rel) ?_
          rw [show sg (Int.toNat 5) (fun l => mkS z / 4 ^ l % 4 * 2 ^ (2 * (l : Int)).toNat) = mkS z from dig5 bz.1 (by omega)]
          tb_start
          refine a_ifFe (congrArg not (decide_eq_true rfl)) ?_
          tb_start
          refine Al.ent (M := [Box b (345 + 2 * i + 1 + 1), pt c (.lst (vs.map V.str)), sq K a (ns.map V.int), R]) (.of (by tb_rel)) ?_
          refine Box.up (m := 345 + 2 * (i + 1)) (by omega) ?_
          exact a_nx ⟨_, _, _, _, _, _, rfl, rfl⟩ (.of (by tb_rel))
    · rintro σ M ⟨o4, o5, o6, o7, o8, o9, rfl, rfl⟩
      rw [List.length_map]
      tb_start
      refine a_ifs ?_
      tb_start
      refine use_mark (z := "cab") (Nm.lit (by decide +kernel)) (by decide +kernel) ?_
      rw [show mkS "cab" = 11 by decide +kernel]
      tb_start
      refine a_ifFe (congrArg not (decide_eq_true rfl)) ?_
      tb_start
      have hn : 345 + 2 * vs.length < 1000 := by omega
      generalize 345 + 2 * vs.length = n at hn ⊢
      refine Al.ent (M := [Box b n, sq K a (ns.map V.int), R]) (.of (by tb_rel)) ?_
      refine Box.up (m := n + 4 * 0) (by omega) ?_
      refine a_lcR (by tb_rel) (fun j acc M => acc = (List.range j).map (fun _ => V.bl true) ∧ M = [Box b (n + 4 * j), sq K a (ns.map V.int), R]) ⟨_, ⟨rfl, rfl⟩, .refl⟩ ?_ ?_
      · rintro j acc M D hj ⟨rfl, rfl⟩
        have hj : j < 10 := hj
        tb_start
        refine use_nr (by tb_rel) (by omega) ?_
        refine Box.up (m := n + 4 * (j + 1)) (by omega) ?_
        exact a_lcA (by tb_rel) (by rw [List.length_map, List.length_range, sizeLine_eq]; omega) ⟨map_succ (g := fun _ => V.bl true), rfl⟩ (.of (by tb_rel))
      · rintro acc M D ⟨rfl, rfl⟩
        tb_start
        refine a_allP (f := fun _ => true) (by tb_rel) ?_
        tb_start
        refine a_ifFe rfl ?_
        tb_start
        exact a_nx ⟨_, _, _, _, _, _, _, _, _, rfl, rfl⟩ (.of (by tb_rel))
  · rintro σ M ⟨o1, o2, o3, o4, o5, o6, o7, o8, o9, rfl, rfl⟩
    tb_start
    exact a_end (by tb_rel) (ke () trivial)
end


abbrev R : PySem.W.OpenRow := PySem.W.OpenLaw.row PySem.Challenge.rw_roadsettings_k02_marks_and_digits
abbrev hk : PySem.W.Hook := He.hookD 4 fa fn
def ob (s : PySem.W.SharedT) : He.AlD := He.obsDG 4 fa fn (HandSHeadRun.getT s)
theorem ob_eq (s : PySem.W.SharedT) : ob s = hk.obs s.abs := He.obsDG_eq (HandSHeadRun.getT_eq s)
def loose : List PySem.Str := ((["LETTERS", "BASE", "mark", "digit", "_law_cell_at", "_law_box", "_law_take", "_law_of_mark", "_law_names", "_law_added", "_law_figures", "_law_number", "_law_numbers_right"] : List PySem.Str))
theorem run (w : World) : HandSHeadRun.RunEq R (PySem.W.view R.prog [15]) hk ob 1200 loose w := by
  intro os
  kernel_rfl
end My
open PySem PySem.W PySem.Calls PyProof.Rows
theorem PySem.Challenge.cw_roadsettings_k02_marks_and_digits_holds : PySem.Challenge.rw_roadsettings_k02_marks_and_digits.Holds := by
  w_on; o_law
  refine HandSHeadRun.head_any (r := OpenLaw.row PySem.Challenge.rw_roadsettings_k02_marks_and_digits) (q := view (OpenLaw.row PySem.Challenge.rw_roadsettings_k02_marks_and_digits).prog [15]) (H := My.hk) (ob := My.ob) (M := 1200) (loose := My.loose) (d := HandSHeadRun.topDef (OpenLaw.row PySem.Challenge.rw_roadsettings_k02_marks_and_digits).prog 15) (kwd := []) My.ob_eq
    (by kernel_rfl) (fun s => by kernel_rfl) My.run (by kernel_rfl) (by kernel_rfl) (by kernel_rfl) (by rfl) (by first | assumption | decide +kernel) (by decide +kernel) ⟨rfl, rfl, rfl, rfl, rfl, by decide +kernel⟩ ?hw ?hc
  case hw => w_witness2
  case hc =>
    refine AL.walk_g (l := PySem.Challenge.rw_roadsettings_k02_marks_and_digits) (n := 63) (k := 4) rfl (by decide) (by kernel_rfl) ⟨rfl, by decide, by decide⟩ ?F
    intro w mg fa h Y G hmg0
    obtain ⟨K, KX, c⟩ := Y
    have T := My.fx_of KX G c
    have hmg : mg ("law" : PySem.Str) = some (.ref fa) := by
      have e : (HandSHeadRun.topDef (OpenLaw.row PySem.Challenge.rw_roadsettings_k02_marks_and_digits).prog 15).name = ("law" : PySem.Str) := by kernel_rfl
      rw [← e]
      exact hmg0
    have ea := hmg.symm.trans T.g_law
    cases ea
    exact ⟨K, KX, "_law_script", (AL.S_law K).sp, fun base => My.ok_law T, AL.sp_law K⟩
