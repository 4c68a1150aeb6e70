import PyProof.Rows.All
import Wide.All
import OpenK.AllK
import Wide.FinOn
import KE.KStateDown
import HandS.ForMost
import HandS.WordsExc
import HandS.Head0
import HandS.Head1
import HandS.Head2
import HandS.HeadEnd
import HandS.HeadHook1
import HandS.HeadHook2
import HandS.DictTup
import KE.SortCalls
import HandS.Wide
import HandS.Exc
import HandS.Ends
import HandS.Defaults
import HandS.WideMore
import HandS.TupAny
import HandS.Small
import HandS.Style
import HandS.Replace
import HandS.RaiseMore
import HandS.Deep
import HandS.More
import PyProof.ReprRoads
import PyProof.EnumMake
import PyProof.Draws
import PyProof.Rows.CallKwBuiltin
import HandS.Rev
import HandS.Zip
import PyProof.ReprLen
import HandS.Codes
import HandS.IsInst
import HandS.Lambda
import HandS.SortKw
import KE.SortKeyHeap
import HandS.NestedK
import HandS.EndBits
import HandS.SortInts
import HandS.Dict
import HandS.Walk
import PyProof.Rows.ReprOcc
import PyProof.P3Eq
import PyProof.Rows.SortShellAny
import HandS.Text
import HandS.ExcInit
import HandS.ExcField
import KE.KExcIs
import PySem.Challenge.RW_roadsettings_k29_papers_of_what_is_betwe
set_option Elab.async false
set_option linter.all false
set_option maxRecDepth 100000
set_option maxHeartbeats 40000000
set_option pp.maxSteps 1200
set_option pp.deepTerms false
/-! AL: a ledger of assertions over the abstract heap, and the readings stepped over it. -/
namespace AL
open PySem L2

/-- may stand in two parts of the ledger at once -/
def Shr : HO → Prop
  | .tup _ => True
  | .frz _ (.lst _) => True
  | _ => False
abbrev Asn := Hp → Prop
structure Sep (H H1 H2 : Hp) : Prop where
  l : ∀ a o, H1 a = some o → H a = some o
  r : ∀ a o, H2 a = some o → H a = some o
  d : ∀ a o u, H1 a = some o → H2 a = some u → Shr o
def Star : List Asn → Asn
  | [] => fun _ => True
  | A :: L => fun H => ∃ H1 H2, Sep H H1 H2 ∧ A H1 ∧ Star L H2
def un (H1 H2 : Hp) : Hp := fun a => match H1 a with
  | some o => some o
  | none => H2 a
def one (p : Addr) (o : HO) : Hp := fun a => if a = p then some o else none
theorem un_some {H1 H2 : Hp} {a : Addr} {o : HO} (h : un H1 H2 a = some o) : H1 a = some o ∨ H2 a = some o := by
  unfold un at h
  cases e : H1 a with
  | none => rw [e] at h; exact .inr h
  | some u => rw [e] at h; exact .inl h
theorem un_l {H1 H2 : Hp} {a : Addr} {o : HO} (h : H1 a = some o) : un H1 H2 a = some o := by
  unfold un; rw [h]
theorem un_r {H H1 H2 : Hp} (hl : ∀ a o, H1 a = some o → H a = some o) (hr : ∀ a o, H2 a = some o → H a = some o) {a : Addr} {o : HO} (h : H2 a = some o) : un H1 H2 a = some o := by
  unfold un
  cases e : H1 a with
  | none => exact h
  | some u =>
    have h1 := hl a u e
    have h2 := hr a o h
    rw [h1] at h2
    exact h2
theorem one_same {p : Addr} {o : HO} : one p o p = some o := by unfold one; rw [if_pos rfl]
theorem one_some {p a : Addr} {o u : HO} (h : one p o a = some u) : a = p ∧ u = o := by
  unfold one at h
  split at h
  · exact ⟨‹_›, (Option.some.inj h).symm⟩
  · cases h
theorem Star.mono {H H' : Hp} : ∀ {L : List Asn}, Star L H → (∀ a o, H a = some o → H' a = some o) → Star L H'
  | [], _, _ => trivial
  | _ :: _, ⟨H1, H2, s, a, t⟩, h => ⟨H1, H2, ⟨fun a o e => h a o (s.l a o e), fun a o e => h a o (s.r a o e), s.d⟩, a, t⟩
theorem Star.swap {A B : Asn} {L : List Asn} {H : Hp} (h : Star (A :: B :: L) H) : Star (B :: A :: L) H := by
  obtain ⟨H1, H2, s, a, H3, H4, s', b, t⟩ := h
  refine ⟨H3, un H1 H4, ⟨fun x o e => s.r x o (s'.l x o e), fun x o e => ?_, fun x o u e e2 => ?_⟩, b, H1, H4, ⟨fun x o e => un_l e, fun x o e => un_r s.l (fun x o e => s.r x o (s'.r x o e)) e, fun x o u e e2 => s.d x o u e (s'.r x u e2)⟩, a, t⟩
  · rcases un_some e with e | e
    · exact s.l x o e
    · exact s.r x o (s'.r x o e)
  · rcases un_some e2 with e2 | e2
    · have q := s.d x u o e2 (s'.l x o e)
      have q1 := s.l x u e2
      have q2 := s.r x o (s'.l x o e)
      rw [q1] at q2
      rw [← Option.some.inj q2]
      exact q
    · exact s'.d x o u e e2
/-- the tail changed -/
theorem Star.tail {A : Asn} {L M : List Asn} {H : Hp} (h : Star (A :: L) H) (k : ∀ H, Star L H → Star M H) : Star (A :: M) H := by
  obtain ⟨H1, H2, s, a, t⟩ := h
  exact ⟨H1, H2, s, a, k _ t⟩
theorem Star.head {A B : Asn} {L : List Asn} {H : Hp} (h : Star (A :: L) H) (k : ∀ H, A H → B H) : Star (B :: L) H := by
  obtain ⟨H1, H2, s, a, t⟩ := h
  exact ⟨H1, H2, s, k _ a, t⟩
theorem Star.drop {A : Asn} {L : List Asn} {H : Hp} (h : Star (A :: L) H) : Star L H := by
  obtain ⟨H1, H2, s, _, t⟩ := h
  exact t.mono s.r
theorem Star.get {A : Asn} {L : List Asn} {H : Hp} (h : Star (A :: L) H) : ∃ H1, (∀ a o, H1 a = some o → H a = some o) ∧ A H1 := by
  obtain ⟨H1, H2, s, a, _⟩ := h
  exact ⟨H1, s.l, a⟩
/-- a part of the ledger as one -/
theorem Star.join : ∀ {M L : List Asn} {H : Hp}, Star (M ++ L) H → Star (Star M :: L) H
  | [], L, H, h => ⟨fun _ => none, H, ⟨fun _ _ e => (nomatch e), fun _ _ e => e, fun _ _ _ e => (nomatch e)⟩, trivial, h⟩
  | A :: M, L, H, h => by
    have h1 : Star (A :: (M ++ L)) H := h
    obtain ⟨H1, H2, s, a, t⟩ := h1
    obtain ⟨H3, H4, s', b, t'⟩ := Star.join t
    refine ⟨un H1 H3, H4, ⟨fun x o e => ?_, fun x o e => s.r x o (s'.r x o e), fun x o u e e2 => ?_⟩, ⟨H1, H3, ⟨fun x o e => un_l e, fun x o e => un_r s.l (fun x o e => s.r x o (s'.l x o e)) e, fun x o u e e2 => s.d x o u e (s'.l x u e2)⟩, a, b⟩, t'⟩
    · rcases un_some e with e | e
      · exact s.l x o e
      · exact s.r x o (s'.l x o e)
    · rcases un_some e with e | e
      · exact s.d x o u e (s'.r x u e2)
      · exact s'.d x o u e e2
theorem Star.split : ∀ {M L : List Asn} {H : Hp}, Star (Star M :: L) H → Star (M ++ L) H
  | [], L, H, h => h.drop
  | A :: M, L, H, ⟨H1, H2, s, ⟨H3, H4, s', a, t'⟩, t⟩ => by
    show Star (A :: (M ++ L)) H
    refine ⟨H3, un H4 H2, ⟨fun x o e => s.l x o (s'.l x o e), fun x o e => ?_, fun x o u e e2 => ?_⟩, a, Star.split ⟨H4, H2, ⟨fun x o e => un_l e, fun x o e => un_r (fun x o e => s.l x o (s'.r x o e)) s.r e, fun x o u e e2 => s.d x o u (s'.r x o e) e2⟩, t', t⟩⟩
    · rcases un_some e with e | e
      · exact s.l x o (s'.r x o e)
      · exact s.r x o e
    · rcases un_some e2 with e2 | e2
      · exact s'.d x o u e e2
      · exact s.d x o u (s'.l x o e) e2
/-- o stands at p, and it is ours -/
def pt (p : Addr) (o : HO) : Asn := fun H => H p = some o
def pur (φ : Prop) : Asn := fun _ => φ
/-- the list at a can be read -/
def sq (K : PySem.W.Frag) (a : Addr) (xs : List V) : Asn := fun H => SqL K H a xs
theorem Star.new {L : List Asn} {H : Hp} {p : Addr} {o : HO} (h : Star L H) (hp : H p = none) : Star (pt p o :: L) (upd H p o) := by
  refine ⟨one p o, H, ⟨fun a u e => ?_, fun a u e => ?_, fun a u v e e2 => ?_⟩, one_same, h⟩
  · obtain ⟨rfl, rfl⟩ := one_some e; exact upd_same
  · rw [upd_ne (ne_of_none e hp)]; exact e
  · obtain ⟨rfl, rfl⟩ := one_some e; rw [hp] at e2; cases e2
theorem Star.set {L : List Asn} {H : Hp} {p : Addr} {o : HO} (o' : HO) (h : Star (pt p o :: L) H) (hs : ¬ Shr o) : Star (pt p o' :: L) (upd H p o') := by
  obtain ⟨H1, H2, s, a, t⟩ := h
  have a' : H1 p = some o := a
  have n : H2 p = none := by
    cases e : H2 p with
    | none => rfl
    | some u => exact absurd (s.d p o u a' e) hs
  refine ⟨one p o', H2, ⟨fun x u e => ?_, fun x u e => ?_, fun x u v e e2 => ?_⟩, one_same, t⟩
  · obtain ⟨rfl, rfl⟩ := one_some e; exact upd_same
  · rw [upd_ne (ne_of_none e n)]; exact s.r x u e
  · obtain ⟨rfl, rfl⟩ := one_some e; rw [n] at e2; cases e2
theorem Star.at {L : List Asn} {H : Hp} {p : Addr} {o : HO} (h : Star (pt p o :: L) H) : H p = some o := by
  obtain ⟨H1, k, a⟩ := h.get
  exact k _ _ a
/-- can be had twice -/
def Dup (A : Asn) : Prop := ∀ H, A H → ∃ H1, (∀ a o, H1 a = some o → H a = some o ∧ Shr o) ∧ A H1
theorem Star.dup {A : Asn} {L : List Asn} {H : Hp} (h : Star (A :: L) H) (d : Dup A) : Star (A :: A :: L) H := by
  obtain ⟨H1, H2, s, a, t⟩ := h
  obtain ⟨H3, k, b⟩ := d _ a
  refine ⟨H3, un H1 H2, ⟨fun x o e => s.l x o (k x o e).1, fun x o e => ?_, fun x o u e e2 => (k x o e).2⟩, b, H1, H2, ⟨fun x o e => un_l e, fun x o e => un_r s.l s.r e, s.d⟩, a, t⟩
  rcases un_some e with e | e
  · exact s.l x o e
  · exact s.r x o e
theorem Dup.pt {p : Addr} {o : HO} (h : Shr o) : Dup (pt p o) := fun H a => ⟨one p o, fun x u e => by obtain ⟨rfl, rfl⟩ := one_some e; exact ⟨a, h⟩, one_same⟩
theorem Dup.tup (p : Addr) (xs : List V) : Dup (AL.pt p (.tup xs)) := Dup.pt trivial
theorem Dup.pur {φ : Prop} : Dup (pur φ) := fun _ a => ⟨fun _ => none, fun _ _ e => (nomatch e), a⟩

/-! ### the ledger's places -/
/-- A is taken out of L, L0 is left -/
inductive Rem : List Asn → Asn → List Asn → Prop where
  | here {A : Asn} {L : List Asn} : Rem (A :: L) A L
  | dup {A : Asn} {L : List Asn} : Dup A → Rem (A :: L) A (A :: L)
  | there {A C : Asn} {L L0 : List Asn} : Rem L A L0 → Rem (C :: L) A (C :: L0)
theorem Rem.ok {L L0 : List Asn} {A : Asn} (r : Rem L A L0) : ∀ {H : Hp}, Star L H → Star (A :: L0) H := by
  induction r with
  | here => intro H h; exact h
  | dup d => intro H h; exact h.dup d
  | there _ ih => intro H h; exact (h.tail fun _ t => ih t).swap
inductive Sub : List Asn → List Asn → List Asn → Prop where
  | nil {L : List Asn} : Sub L [] L
  | cons {L L1 R As : List Asn} {A : Asn} : Rem L A L1 → Sub L1 As R → Sub L (A :: As) R
theorem Sub.ok {L M R : List Asn} (s : Sub L M R) : ∀ {H : Hp}, Star L H → Star (M ++ R) H := by
  induction s with
  | nil => intro H h; exact h
  | cons r _ ih => intro H h; exact (r.ok h).tail fun _ t => ih t
/-- what the ledger L says, P says -/
def Al (L : List Asn) (P : Hp → Prop) : Prop := ∀ H, Star L H → P H
def Ent (L M : List Asn) : Prop := ∀ H, Star L H → Star M H
theorem Star.dropR : ∀ {M R : List Asn} {H : Hp}, Star (M ++ R) H → Star M H
  | [], _, _, _ => trivial
  | _ :: _, _, _, h => Star.tail h fun _ t => Star.dropR t
theorem Ent.of {L M R : List Asn} (s : Sub L M R) : Ent L M := fun _ h => (s.ok h).dropR
theorem Ent.refl {L : List Asn} : Ent L L := fun _ h => h
theorem Ent.trans {L M N : List Asn} (a : Ent L M) (b : Ent M N) : Ent L N := fun H h => b H (a H h)
theorem Al.ent {L M : List Asn} {P : Hp → Prop} (e : Ent L M) (k : Al M P) : Al L P := fun H h => k H (e H h)
theorem Al.pick {L L0 : List Asn} {A : Asn} {P : Hp → Prop} (r : Rem L A L0) (k : Al (A :: L0) P) : Al L P := fun H h => k H (r.ok h)
theorem Al.mono {L : List Asn} {P P' : Hp → Prop} (k : Al L P) (h : ∀ H, P H → P' H) : Al L P' := fun H s => h H (k H s)
theorem Al.pur {L : List Asn} {φ : Prop} {P : Hp → Prop} (k : φ → Al L P) : Al (pur φ :: L) P := fun H h => by
  obtain ⟨_, _, a⟩ := h.get
  exact k a H h.drop
theorem Al.split {M L : List Asn} {P : Hp → Prop} (k : Al (M ++ L) P) : Al (Star M :: L) P := fun H h => k H h.split
/-- an assertion opened -/
theorem Al.open {A B : Asn} {L : List Asn} {P : Hp → Prop} (h : ∀ H, A H → B H) (k : Al (B :: L) P) : Al (A :: L) P := fun H s => k H (s.head h)
theorem Al.ex {α : Type} {A : α → Asn} {L : List Asn} {P : Hp → Prop} (k : ∀ x, Al (A x :: L) P) : Al ((fun H => ∃ x, A x H) :: L) P := fun H h => by
  obtain ⟨H1, H2, s, ⟨x, a⟩, t⟩ := h
  exact k x H ⟨H1, H2, s, a, t⟩
theorem Al.at {L L0 : List Asn} {p : Addr} {o : HO} {P : Hp → Prop} (r : Rem L (pt p o) L0) (k : Al L (fun H => H p = some o → P H)) : Al L P := fun H h => k H h (r.ok h).at
theorem Al.start {α β : Type} {L : List Asn} {t : α → β → Hp → Prop} {D : α} {σ : β} (σ' : β) (e : σ = σ') (k : Al L (fun H => t D σ' H)) : Al L (fun H => t D σ H) := by rw [e]; exact k
end AL

namespace AL
open PySem L2

/-! ### slots -/
inductive SetAt : L2.St → Nat → Option V → L2.St → Prop where
  | z {a v : Option V} {r : L2.St} : SetAt (a :: r) 0 v (v :: r)
  | s {a v : Option V} {r r' : L2.St} {i : Nat} : SetAt r i v r' → SetAt (a :: r) (i + 1) v (a :: r')
theorem SetAt.eq {σ σ' : L2.St} {i : Nat} {v : Option V} (h : SetAt σ i v σ') : σ.set i v = σ' := by
  induction h with
  | z => rfl
  | s _ ih => rw [List.set_cons_succ, ih]
inductive GetAt : L2.St → Nat → V → Prop where
  | z {v : V} {r : L2.St} : GetAt (some v :: r) 0 v
  | s {a : Option V} {v : V} {r : L2.St} {i : Nat} : GetAt r i v → GetAt (a :: r) (i + 1) v
theorem GetAt.eq {σ : L2.St} {i : Nat} {v : V} (h : GetAt σ i v) : σ[i]? = some (some v) := by
  induction h with
  | z => rfl
  | s _ ih => rw [List.getElem?_cons_succ]; exact ih

/-! ### continuations with names -/
def BlK (Q : Bool → Hp → Prop) : VK := fun x H => ∃ c, x = .bl c ∧ Q c H
def IfK (P1 P2 : Hp → Prop) : Bool → Hp → Prop := fun b H => if b = true then P1 H else P2 H
def NewK (o : HO) (Q : VK) : Hp → Prop := fun H => ∀ p, H p = none → Q (.ref p) (upd H p o)
def TupK (Q : VK) (xs : List V) : Hp → Prop := fun H => xs.length ≤ sizeLine ∧ NewK (.tup xs) Q H
def LstK (Q : VK) (xs : List V) : Hp → Prop := fun H => xs.length ≤ sizeLine ∧ NewK (.lst xs) Q H
def FldK (K : PySem.W.Frag) (f : Str) (Q : VK) : VK := fun x H1 => ∃ a C dx fs v, x = .ref a ∧ H1 a = some (.ins C dx fs) ∧ Cls K C ∧ NoAttr K C f ∧ fs.lookup f = some v ∧ Q v H1
def MethK (C : Addr) (m : Str) (P : V → Hp → Prop) : VK := fun x H1 => ∃ a dx fs, x = .ref a ∧ H1 a = some (.ins C dx fs) ∧ fs.lookup m = none ∧ P x H1
def ForW (J : It) (g : TG) (tb : TS) (D : Ends) (σ : L2.St) (H1 : Hp) : Prop := ∃ W : Nat → Nat → L2.St → Hp → Prop, (∃ m, W 0 m σ H1) ∧ ∀ i m σ H, W i m σ H → (J.stop i H ∧ D.nx σ H) ∨ (J.go i H ∧ ∃ N : L2.St → Hp → Prop, (∀ σ' H', N σ' H' → ∃ m', m' < m ∧ W (i + 1) m' σ' H') ∧ ∀ x H', J.yld i H x H' → g x σ H' fun σ2 H2 => tb { D with nx := N, ct := N, bk := D.nx } σ2 H2)
def LcW (J : It) (g : TG) (tt : TT) (te : TE) (vs : List Nat) (σ : L2.St) (Q : VK) (H1 : Hp) : Prop := ∀ D, H1 D = none → ∃ W : Nat → Nat → Hp → Prop, (∃ m, W 0 m (upd H1 D (.lst []))) ∧ ∀ i m H, W i m H →
  (J.stop i H ∧ Q (.ref D) H) ∨ (J.go i H ∧ ∃ Nx : Hp → Prop, (∀ H', Nx H' → ∃ m', m' < m ∧ W (i + 1) m' H') ∧ ∀ x H', J.yld i H x H' → g x (wipe σ vs) H' fun σ2 H2 => wipe σ2 vs = wipe σ vs ∧ tt σ2 H2 fun b H3 =>
    if b = true then te σ2 H3 fun y H4 => ∃ acc, H4 D = some (.lst acc) ∧ acc.length < sizeLine ∧ Nx (upd H4 D (.lst (acc ++ [y]))) else Nx H3)
/-- what is wanted of a list item: read by the ledger's list or by what is written -/
structure Ldg (L : List Asn) (K : PySem.W.Frag) (a : Addr) (xs : List V) : Prop where
  q : ∀ H, Star L H → SqL K H a xs
structure LdgT (L : List Asn) (K : PySem.W.Frag) (a : Addr) (xs : List V) : Prop where
  q : ∀ H, Star L H → SqT K H a xs

section
variable {L L0 : List Asn} {σ σ' : L2.St} {Q : VK} {nx : L2.St → Hp → Prop} {rt : VK} {bk ct : L2.St → Hp → Prop} {K : PySem.W.Frag} {te ta tb tc : TE} {tt tu : TT} {t : TA} {ts tv : TS} {v x y : V} {i j : Int} {b : Bool} {P P1 P2 : Hp → Prop} {QB : Bool → Hp → Prop} {a p C dx : Addr} {xs ys : List V} {fs : List (Str × V)} {r r' : R2} {QA : List V → Hp → Prop}

/-! ### expressions -/
theorem a_var {i : Nat} (h : GetAt σ i v) (k : Al L (Q v)) : Al L (fun H => tVar i σ H Q) := fun H s => ⟨v, h.eq, k H s⟩
theorem a_c (k : Al L (Q v)) : Al L (fun H => tC v σ H Q) := k
theorem a_op (k : Al L (fun H => ta σ H fun x H1 => tb σ H1 fun y H2 => r x y H2 Q)) : Al L (fun H => tOp r ta tb σ H Q) := k
theorem a_un {r : V → Hp → VK → Prop} (k : Al L (fun H => ta σ H fun x H1 => r x H1 Q)) : Al L (fun H => tUn r ta σ H Q) := k
theorem a_cb {r : List V → Hp → VK → Prop} (k : Al L (fun H => t σ H fun vs H1 => r vs H1 Q)) : Al L (fun H => tCB r t σ H Q) := k
theorem a_cons (k : Al L (fun H => te σ H fun x H1 => t σ H1 fun xs H2 => QA (x :: xs) H2)) : Al L (fun H => tCons te t σ H QA) := k
theorem a_nil (k : Al L (QA [])) : Al L (fun H => tNil σ H QA) := k
theorem a_test (k : Al L (fun H => te σ H (BlK QB))) : Al L (fun H => tTest te σ H QB) := k
theorem a_tB (k : Al L (fun H => te σ H (BlK QB))) : Al L (fun H => tB te σ H QB) := k
theorem a_bl (k : Al L (QB b)) : Al L (BlK QB (.bl b)) := fun H s => ⟨b, rfl, k H s⟩
theorem a_and (k : Al L (fun H => tt σ H (IfK (fun H1 => tu σ H1 QB) (QB false)))) : Al L (fun H => tAnd tt tu σ H QB) := k
theorem a_or (k : Al L (fun H => tt σ H (IfK (QB true) (fun H1 => tu σ H1 QB)))) : Al L (fun H => tOr tt tu σ H QB) := k
theorem a_not (k : Al L (fun H => tt σ H fun c H1 => QB (!c) H1)) : Al L (fun H => tNot tt σ H QB) := k
theorem a_andV (k : Al L (fun H => ta σ H (BlK (IfK (fun H1 => tb σ H1 Q) (Q (.bl false)))))) : Al L (fun H => tAndV ta tb σ H Q) := k
theorem a_orV (k : Al L (fun H => ta σ H (BlK (IfK (Q (.bl true)) (fun H1 => tb σ H1 Q))))) : Al L (fun H => tOrV ta tb σ H Q) := k
theorem a_notV (k : Al L (fun H => ta σ H (BlK fun c H1 => Q (.bl (!c)) H1))) : Al L (fun H => tNotV ta σ H Q) := k
theorem a_ifx (k : Al L (fun H => tt σ H (IfK (fun H1 => ta σ H1 Q) (fun H1 => tb σ H1 Q)))) : Al L (fun H => tIf tt ta tb σ H Q) := k
theorem a_chain (k : Al L (fun H => ta σ H fun x H1 => tb σ H1 fun y H2 => r x y H2 (BlK (IfK (fun H3 => tc σ H3 fun w' H4 => r' y w' H4 Q) (Q (.bl false)))))) : Al L (fun H => tChain r r' ta tb tc σ H Q) := k
theorem a_tup (k : Al L (fun H => t σ H (TupK Q))) : Al L (fun H => tTup t σ H Q) := k
theorem a_lst (k : Al L (fun H => t σ H (LstK Q))) : Al L (fun H => tLst t σ H Q) := k
theorem a_new {o : HO} (k : ∀ p, Al (pt p o :: L) (Q (.ref p))) : Al L (NewK o Q) := fun H s p hp => k p _ (s.new hp)
theorem a_new' {o : HO} (k : ∀ p, Al (pt p o :: L) (Q (.ref p))) : Al L (fun H => ∀ p, H p = none → Q (.ref p) (upd H p o)) := fun H s p hp => k p _ (s.new hp)
theorem a_tupK (hz : xs.length ≤ sizeLine) (k : ∀ p, Al (pt p (.tup xs) :: L) (Q (.ref p))) : Al L (TupK Q xs) := fun H s => ⟨hz, fun p hp => k p _ (s.new hp)⟩
theorem a_lstK (hz : xs.length ≤ sizeLine) (k : ∀ p, Al (pt p (.lst xs) :: L) (Q (.ref p))) : Al L (LstK Q xs) := fun H s => ⟨hz, fun p hp => k p _ (s.new hp)⟩
theorem a_fld {f : Str} (k : Al L (fun H => ta σ H (FldK K f Q))) : Al L (fun H => tFld K ta f σ H Q) := k
theorem a_fldK {f : Str} (r : Rem L (pt a (.ins C dx fs)) L0) (hc : Cls K C) (hn : NoAttr K C f) (hl : fs.lookup f = some v) (k : Al L (Q v)) : Al L (FldK K f Q (.ref a)) :=
  fun H s => ⟨a, C, dx, fs, v, rfl, (r.ok s).at, hc, hn, hl, k H s⟩
theorem a_meth {m : Str} {sp : Sp} {dvs : List V} {E : XK} (k : Al L (fun H => ta σ H (MethK C m fun x H1 => t σ H1 fun vs H2 => sp (x :: (vs ++ dvs)) H2 Q E))) : Al L (fun H => tMeth C m sp dvs E ta t σ H Q) := k
theorem a_methK {m : Str} {PV : V → Hp → Prop} (r : Rem L (pt a (.ins C dx fs)) L0) (hl : fs.lookup m = none) (k : Al L (PV (.ref a))) : Al L (MethK C m PV (.ref a)) :=
  fun H s => ⟨a, dx, fs, rfl, (r.ok s).at, hl, k H s⟩
/-- the object as an assertion of one's own -/
theorem a_methA {A : Asn} {m : Str} {PV : V → Hp → Prop} (r : Rem L A L0) (hi : ∀ H, A H → ∃ dx fs, H a = some (.ins C dx fs) ∧ fs.lookup m = none) (k : Al L (PV (.ref a))) : Al L (MethK C m PV (.ref a)) := fun H s => by
  obtain ⟨H1, h1, a1⟩ := (r.ok s).get
  obtain ⟨dx, fs, e, hl⟩ := hi H1 a1
  exact ⟨a, dx, fs, rfl, h1 _ _ e, hl, k H s⟩
theorem a_call {sp : Sp} {dvs : List V} {E : XK} (k : Al L (fun H => t σ H fun vs H1 => sp (vs ++ dvs) H1 Q E)) : Al L (fun H => tCall sp dvs E t σ H Q) := k
def MakeK (C : Addr) (sp : Sp) (dvs : List V) (E : XK) (Q : VK) (vs : List V) : Hp → Prop := fun H1 => ∀ x dx, H1 x = none → H1 dx = none → dx ≠ x →
  sp (.ref x :: (vs ++ dvs)) (upd (upd H1 dx (.own x)) x (.ins C dx [])) (fun v H2 => v = .non ∧ Q (.ref x) H2) E
theorem a_make {sp : Sp} {dvs : List V} {E : XK} (k : Al L (fun H => t σ H (MakeK C sp dvs E Q))) : Al L (fun H => tMake C sp dvs E t σ H Q) := k
theorem a_makeK {sp : Sp} {dvs : List V} {E : XK} (k : ∀ x dx, Al (pt x (.ins C dx []) :: pt dx (.own x) :: L) (fun H => sp (.ref x :: (xs ++ dvs)) H (fun v H2 => v = .non ∧ Q (.ref x) H2) E)) : Al L (MakeK C sp dvs E Q xs) := fun H s x dx hx hdx ne =>
  k x dx _ ((s.new hdx).new (by rw [upd_ne (Ne.symm ne)]; exact hx))
theorem a_nonQ (k : Al L (Q x)) : Al L (fun H2 => V.non = V.non ∧ Q x H2) := fun H s => ⟨rfl, k H s⟩

/-! ### statements -/
theorem a_seq (k : Al L (fun H => ts ⟨tv ⟨nx, rt, bk, ct⟩, rt, bk, ct⟩ σ H)) : Al L (fun H => tSeq ts tv ⟨nx, rt, bk, ct⟩ σ H) := k
theorem a_next (k : Al L (nx σ)) : Al L (fun H => tNext ⟨nx, rt, bk, ct⟩ σ H) := k
theorem a_brk (k : Al L (bk σ)) : Al L (fun H => tBreak ⟨nx, rt, bk, ct⟩ σ H) := k
theorem a_cont (k : Al L (ct σ)) : Al L (fun H => tCont ⟨nx, rt, bk, ct⟩ σ H) := k
theorem a_ret (k : Al L (fun H => te σ H rt)) : Al L (fun H => tRet te ⟨nx, rt, bk, ct⟩ σ H) := k
theorem a_retN (k : Al L (rt .non)) : Al L (fun H => tRetN ⟨nx, rt, bk, ct⟩ σ H) := k
theorem a_drop (k : Al L (fun H => te σ H fun _ H1 => nx σ H1)) : Al L (fun H => tDrop te ⟨nx, rt, bk, ct⟩ σ H) := k
theorem a_asg {g : TG} (k : Al L (fun H => te σ H fun x H1 => g x σ H1 nx)) : Al L (fun H => tAsg te g ⟨nx, rt, bk, ct⟩ σ H) := k
theorem a_ifs (k : Al L (fun H => tt σ H (IfK (ts ⟨nx, rt, bk, ct⟩ σ) (tv ⟨nx, rt, bk, ct⟩ σ)))) : Al L (fun H => tIfS tt ts tv ⟨nx, rt, bk, ct⟩ σ H) := k
theorem a_if {p : Prop} [Decidable p] (h1 : p → Al L P1) (h2 : ¬ p → Al L P2) : Al L (IfK P1 P2 (decide p)) := fun H s => by
  by_cases h : p
  · show if decide p = true then P1 H else P2 H
    rw [decide_eq_true h]; exact h1 h H s
  · show if decide p = true then P1 H else P2 H
    rw [decide_eq_false h]; exact h2 h H s
theorem a_ifn {p : Prop} [Decidable p] (h1 : ¬ p → Al L P1) (h2 : p → Al L P2) : Al L (IfK P1 P2 (!decide p)) := fun H s => by
  by_cases h : p
  · show if (!decide p) = true then P1 H else P2 H
    rw [decide_eq_true h]; exact h2 h H s
  · show if (!decide p) = true then P1 H else P2 H
    rw [decide_eq_false h]; exact h1 h H s
theorem a_ifT (k : Al L P1) : Al L (IfK P1 P2 true) := k
theorem a_ifF (k : Al L P2) : Al L (IfK P1 P2 false) := k
theorem a_ifb (h1 : b = true → Al L P1) (h2 : b = false → Al L P2) : Al L (IfK P1 P2 b) := by
  cases b with
  | true => exact h1 rfl
  | false => exact h2 rfl
theorem a_eqb {b' : Bool} (e : b = b') (k : Al L (QB b')) : Al L (QB b) := by rw [e]; exact k
theorem a_eqv {x' : V} (e : x = x') (k : Al L (Q x')) : Al L (Q x) := by rw [e]; exact k
theorem a_gN {i : Nat} {QS : L2.St → Hp → Prop} (h : SetAt σ i (some v) σ') (k : Al L (QS σ')) : Al L (fun H => gName i v σ H QS) := fun H s => by
  show QS (σ.set i (some v)) H
  rw [h.eq]; exact k H s
theorem a_gT {n : Nat} {u : TGs} {QS : L2.St → Hp → Prop} (h : LdgT L K a xs) (hn : xs.length = n) (k : Al L (fun H => u xs σ H QS)) : Al L (fun H => gTup K n u (.ref a) σ H QS) := fun H s => ⟨a, xs, rfl, h.q H s, hn, k H s⟩
theorem a_gC {g : TG} {u : TGs} {QS : L2.St → Hp → Prop} (k : Al L (fun H => g v σ H fun σ' H' => u xs σ' H' QS)) : Al L (fun H => gCons g u (v :: xs) σ H QS) := fun H s => ⟨v, xs, rfl, k H s⟩
theorem a_g0 {QS : L2.St → Hp → Prop} (k : Al L (QS σ)) : Al L (fun H => gNil [] σ H QS) := fun H s => ⟨rfl, k H s⟩
def ParK (i j : Nat) (D : Ends) (σ : L2.St) : List V → Hp → Prop := fun vs H1 => ∃ v w, vs = [v, w] ∧ D.nx ((σ.set i (some v)).set j (some w)) H1
theorem a_par {i j : Nat} (k : Al L (fun H => t σ H (ParK i j ⟨nx, rt, bk, ct⟩ σ))) : Al L (fun H => tPar i j t ⟨nx, rt, bk, ct⟩ σ H) := k
theorem a_parK {i j : Nat} {w : V} {σ1 : L2.St} (h1 : SetAt σ i (some v) σ1) (h2 : SetAt σ1 j (some w) σ') (k : Al L (nx σ')) : Al L (ParK i j ⟨nx, rt, bk, ct⟩ σ [v, w]) := fun H s => ⟨v, w, rfl, by rw [h1.eq, h2.eq]; exact k H s⟩
theorem a_aug {i : Nat} {ti : TIp} (h : GetAt σ i x) (k : Al L (fun H => te σ H fun y H1 => ti x y H1 fun z H2 => gName i z σ H2 nx)) : Al L (fun H => tAug i te ti ⟨nx, rt, bk, ct⟩ σ H) := fun H s => ⟨x, h.eq, k H s⟩
theorem a_ipI {f : Int → Int → Int} (k : Al L (Q (.int (f i j)))) : Al L (fun H => ipI f (.int i) (.int j) H Q) := fun H s => ⟨i, j, rfl, rfl, k H s⟩
def GSubK (t : TSet) (o v : V) (D : L2.St → Hp → Prop) (σ : L2.St) : VK := fun i H2 => t o i v H2 fun H3 => D σ H3
theorem a_gSub {to ti : TE} {st : TSet} {QS : L2.St → Hp → Prop} (k : Al L (fun H => to σ H fun o H1 => ti σ H1 (GSubK st o v QS σ))) : Al L (fun H => gSub to ti st v σ H QS) := k
theorem a_setL {k j : Int} {n : Nat} {QS : L2.St → Hp → Prop} (r : Rem L (pt p (.lst xs)) L0) (hi : ixN xs.length j = some n) (k : Al (pt p (.lst (xs.set n v)) :: L0) (QS σ)) : Al L (GSubK rSetL (.ref p) v QS σ (.int j)) := fun H s => ⟨p, xs, j, n, rfl, rfl, (r.ok s).at, hi, k _ ((r.ok s).set _ id)⟩
def SFldK (K : PySem.W.Frag) (f : Str) (y : V) (D : Ends) (σ : L2.St) : VK := fun x H2 => ∃ a C dx fs, x = .ref a ∧ H2 a = some (.ins C dx fs) ∧ Cls K C ∧ NoAttr K C f ∧ fs.length < 1000 ∧ D.nx σ (upd H2 a (.ins C dx (putF f y fs)))
theorem a_sfld {f : Str} (k : Al L (fun H => te σ H fun y H1 => ta σ H1 (SFldK K f y ⟨nx, rt, bk, ct⟩ σ))) : Al L (fun H => sFld K ta te f ⟨nx, rt, bk, ct⟩ σ H) := k
theorem a_sfldK {f : Str} {fs' : List (Str × V)} (r : Rem L (pt a (.ins C dx fs)) L0) (hc : Cls K C) (hn : NoAttr K C f) (hz : fs.length < 1000) (hp : putF f y fs = fs') (k : Al (pt a (.ins C dx fs') :: L0) (nx σ)) : Al L (SFldK K f y ⟨nx, rt, bk, ct⟩ σ (.ref a)) :=
  fun H s => ⟨a, C, dx, fs, rfl, (r.ok s).at, hc, hn, hz, k _ (by rw [hp]; exact (r.ok s).set _ id)⟩

/-! ### operators by values -/
theorem a_I {Cd : Int → Int → Prop} {g : Int → Int → V} (hc : Cd i j) (k : Al L (Q (g i j))) : Al L (fun H => rI Cd g (.int i) (.int j) H Q) := fun H s => ⟨i, j, rfl, rfl, hc, k H s⟩
theorem a_I0 {g : Int → Int → V} (k : Al L (Q (g i j))) : Al L (fun H => rI0 g (.int i) (.int j) H Q) := fun H s => ⟨i, j, rfl, rfl, k H s⟩
theorem a_eq (hs : scal x y = true) (k : Al L (Q (.bl (decide (x = y))))) : Al L (fun H => rEq x y H Q) := fun H s => ⟨hs, k H s⟩
theorem a_ne (hs : scal x y = true) (k : Al L (Q (.bl (!decide (x = y))))) : Al L (fun H => rNe x y H Q) := fun H s => ⟨hs, k H s⟩
theorem a_orL {R1 R2 : Hp → Prop} (k : Al L R1) : Al L (fun H => R1 H ∨ R2 H) := fun H s => .inl (k H s)
theorem a_orR {R1 R2 : Hp → Prop} (k : Al L R2) : Al L (fun H => R1 H ∨ R2 H) := fun H s => .inr (k H s)
theorem Ldg.pt (r : Rem L (pt a (.lst xs)) L0) : Ldg L K a xs := ⟨fun H s => SqL.of (r.ok s).at⟩
theorem Ldg.sq (r : Rem L (sq K a xs) L0) : Ldg L K a xs := ⟨fun H s => by
  obtain ⟨H1, h1, q⟩ := (r.ok s).get
  rcases (show SqL K H1 a xs from q) with (q | ⟨o, q⟩) | q
  · exact .inl (.inl (h1 _ _ q))
  · exact .inl (.inr ⟨o, h1 _ _ q⟩)
  · exact .inr q⟩
theorem Ldg.wr (h : ∀ H, SqL K H a xs) : Ldg L K a xs := ⟨fun H _ => h H⟩
theorem LdgT.pt (r : Rem L (pt a (.tup xs)) L0) : LdgT L K a xs := ⟨fun H s => SqT.of (r.ok s).at⟩
theorem LdgT.wr (h : ∀ H, SqT K H a xs) : LdgT L K a xs := ⟨fun H _ => h H⟩
theorem a_ixL (h : Ldg L K a xs) (hv : atI xs i = some v) (k : Al L (Q v)) : Al L (fun H => rIx K (.ref a) (.int i) H Q) := fun H s => .inl ⟨a, xs, i, v, rfl, rfl, h.q H s, hv, k H s⟩
theorem a_ixT (h : LdgT L K a xs) (hv : atI xs i = some v) (k : Al L (Q v)) : Al L (fun H => rIx K (.ref a) (.int i) H Q) := fun H s => .inr (.inl ⟨a, xs, i, v, rfl, rfl, h.q H s, hv, k H s⟩)
theorem a_ixS {z : Str} {c : Nat} (hz : z.length ≤ sizeLine) (hv : atI z.cps.toList i = some c) (k : Al L (Q (.str ⟨#[c]⟩))) : Al L (fun H => rIx K (.str z) (.int i) H Q) := fun H s => .inr (.inr ⟨z, i, c, rfl, rfl, hz, hv, k H s⟩)
theorem a_append (r : Rem L (pt a (.lst xs)) L0) (hz : xs.length < sizeLine) (k : Al (pt a (.lst (xs ++ [y])) :: L0) (Q .non)) : Al L (fun H => rAppend (.ref a) [y] H Q) := fun H s => ⟨a, xs, y, rfl, rfl, (r.ok s).at, hz, k _ ((r.ok s).set _ id)⟩
theorem a_pop (r : Rem L (pt a (.lst xs)) L0) (hy : xs[xs.length - 1]? = some y) (k : Al (pt a (.lst xs.dropLast) :: L0) (Q y)) : Al L (fun H => rPop (.ref a) [] H Q) := fun H s => ⟨a, xs, y, rfl, rfl, (r.ok s).at, hy, k _ ((r.ok s).set _ id)⟩
theorem a_bm {T : String} {r : V → List V → Hp → VK → Prop} (k : Al L (fun H => ta σ H fun x H1 => tyV K T x H1 ∧ t σ H1 fun xs H2 => r x xs H2 Q)) : Al L (fun H => tBM K T r ta t σ H Q) := k
theorem a_tyL (h : Ldg L K a xs) (k : Al L P) : Al L (fun H1 => tyV K "list" (.ref a) H1 ∧ P H1) := fun H s => ⟨.inl ⟨rfl, xs, h.q H s⟩, k H s⟩
theorem a_tyS {z : Str} (k : Al L P) : Al L (fun H1 => tyV K "str" (.str z) H1 ∧ P H1) := fun H s => ⟨rfl, k H s⟩
end

/-! ### loops -/
def Nx (I : L2.St → List Asn → Prop) : L2.St → Hp → Prop := fun σ H => ∃ L, I σ L ∧ Star L H
theorem a_nx {I : L2.St → List Asn → Prop} {σ : L2.St} {L M : List Asn} (h : I σ M) (e : Ent L M) : Al L (Nx I σ) := fun H s => ⟨M, h, e H s⟩
section
variable {L : List Asn} {σ : L2.St} {nx : L2.St → Hp → Prop} {rt : VK} {bk ct : L2.St → Hp → Prop} {g : TG} {tb : TS} {K : PySem.W.Frag} {J : It}
theorem a_for {wi : TI} (k : Al L (fun H => wi σ H fun J H1 => ForW J g tb ⟨nx, rt, bk, ct⟩ σ H1)) : Al L (fun H => tFor wi g tb ⟨nx, rt, bk, ct⟩ σ H) := k
/-- a loop of n turns: I holds ahead of each -/
theorem a_loop (n : Nat) (I : Nat → L2.St → List Asn → Prop) (h0 : Nx (I 0) σ = Nx (I 0) σ) (h0' : ∃ M, I 0 σ M ∧ Ent L M)
    (hgo : ∀ i σ M, i < n → I i σ M → ∀ H, Star M H → J.go i H) (hst : ∀ σ M, I n σ M → ∀ H, Star M H → J.stop n H)
    (hs : ∀ i σ M, i < n → I i σ M → ∀ H, Star M H → ∀ x H', J.yld i H x H' → g x σ H' fun σ2 H2 => tb ⟨Nx (I (i + 1)), rt, nx, Nx (I (i + 1))⟩ σ2 H2)
    (hd : ∀ σ M, I n σ M → Al M (nx σ)) : Al L (ForW J g tb ⟨nx, rt, bk, ct⟩ σ) := by
  intro H s
  obtain ⟨M0, i0, e0⟩ := h0'
  refine ⟨fun i m σ H => m = n - i ∧ i ≤ n ∧ ∃ M, I i σ M ∧ Star M H, ⟨n, by simp, Nat.zero_le _, M0, i0, e0 H s⟩, ?_⟩
  rintro i m σ H ⟨rfl, hi, M, hI, hM⟩
  by_cases hlt : i < n
  · refine .inr ⟨hgo i σ M hlt hI H hM, Nx (I (i + 1)), fun σ' H' ⟨M', a, b⟩ => ⟨n - (i + 1), by omega, rfl, hlt, M', a, b⟩, fun x H' y => hs i σ M hlt hI H hM x H' y⟩
  · have e : i = n := by omega
    subst e
    exact .inl ⟨hst σ M hI H hM, hd σ M hI H hM⟩
theorem a_forR {lo : Int} {n : Nat} (I : Nat → L2.St → List Asn → Prop) (h0 : ∃ M, I 0 σ M ∧ Ent L M)
    (hs : ∀ i σ M, i < n → I i σ M → Al M (fun H => g (.int (lo + i)) σ H fun σ2 H2 => tb ⟨Nx (I (i + 1)), rt, nx, Nx (I (i + 1))⟩ σ2 H2))
    (hd : ∀ σ M, I n σ M → Al M (nx σ)) : Al L (ForW (Itr lo n) g tb ⟨nx, rt, bk, ct⟩ σ) :=
  a_loop n I rfl h0 (fun i _ _ h _ _ _ => h) (fun _ _ _ _ _ => Nat.le_refl n) (fun i σ M h hI H s x H' y => by
    obtain ⟨rfl, rfl⟩ := y
    exact hs i σ M h hI H' s) hd
theorem a_forRC {lo c : Int} {n : Nat} (I : Nat → L2.St → List Asn → Prop) (h0 : ∃ M, I 0 σ M ∧ Ent L M)
    (hs : ∀ i σ M, i < n → I i σ M → Al M (fun H => g (.int (lo + (i : Nat) * c)) σ H fun σ2 H2 => tb ⟨Nx (I (i + 1)), rt, nx, Nx (I (i + 1))⟩ σ2 H2))
    (hd : ∀ σ M, I n σ M → Al M (nx σ)) : Al L (ForW (Itc lo c n) g tb ⟨nx, rt, bk, ct⟩ σ) :=
  a_loop n I rfl h0 (fun i _ _ h _ _ _ => h) (fun _ _ _ _ _ => Nat.le_refl n) (fun i σ M h hI H s x H' y => by
    obtain ⟨rfl, rfl⟩ := y
    exact hs i σ M h hI H' s) hd
theorem a_forL {a : Addr} {xs : List V} (I : Nat → L2.St → List Asn → Prop) (h0 : ∃ M, I 0 σ M ∧ Ent L M) (hl : ∀ i σ M, I i σ M → Ldg M K a xs)
    (hs : ∀ i x σ M, xs[i]? = some x → I i σ M → Al M (fun H => g x σ H fun σ2 H2 => tb ⟨Nx (I (i + 1)), rt, nx, Nx (I (i + 1))⟩ σ2 H2))
    (hd : ∀ σ M, I xs.length σ M → Al M (nx σ)) : Al L (ForW (Itl K a) g tb ⟨nx, rt, bk, ct⟩ σ) :=
  a_loop xs.length I rfl h0 (fun i σ M h hI H s => ⟨xs, xs[i], (hl i σ M hI).q H s, by simp [h]⟩) (fun σ M hI H s => ⟨xs, (hl _ σ M hI).q H s, Nat.le_refl _⟩) (fun i σ M h hI H s x H' y => by
    obtain ⟨rfl, y⟩ := y
    exact hs i x σ M (y xs ((hl i σ M hI).q _ s)) hI H' s) hd
theorem a_forT {a : Addr} {xs : List V} (I : Nat → L2.St → List Asn → Prop) (h0 : ∃ M, I 0 σ M ∧ Ent L M) (hl : ∀ i σ M, I i σ M → LdgT M K a xs)
    (hs : ∀ i x σ M, xs[i]? = some x → I i σ M → Al M (fun H => g x σ H fun σ2 H2 => tb ⟨Nx (I (i + 1)), rt, nx, Nx (I (i + 1))⟩ σ2 H2))
    (hd : ∀ σ M, I xs.length σ M → Al M (nx σ)) : Al L (ForW (Itt K a) g tb ⟨nx, rt, bk, ct⟩ σ) :=
  a_loop xs.length I rfl h0 (fun i σ M h hI H s => ⟨xs, xs[i], (hl i σ M hI).q H s, by simp [h]⟩) (fun σ M hI H s => ⟨xs, (hl _ σ M hI).q H s, Nat.le_refl _⟩) (fun i σ M h hI H s x H' y => by
    obtain ⟨rfl, y⟩ := y
    exact hs i x σ M (y xs ((hl i σ M hI).q _ s)) hI H' s) hd
theorem a_forS {z : Str} (I : Nat → L2.St → List Asn → Prop) (h0 : ∃ M, I 0 σ M ∧ Ent L M)
    (hs : ∀ i c σ M, z.cps[i]? = some c → I i σ M → Al M (fun H => g (.str ⟨#[c]⟩) σ H fun σ2 H2 => tb ⟨Nx (I (i + 1)), rt, nx, Nx (I (i + 1))⟩ σ2 H2))
    (hd : ∀ σ M, I z.cps.size σ M → Al M (nx σ)) : Al L (ForW (Its z) g tb ⟨nx, rt, bk, ct⟩ σ) :=
  a_loop z.cps.size I rfl h0 (fun i _ _ h _ _ _ => h) (fun _ _ _ _ _ => Nat.le_refl _) (fun i σ M h hI H s x H' y => by
    obtain ⟨rfl, c, e, rfl⟩ := y
    exact hs i c σ M e hI H' s) hd
/-- what a for walks -/
theorem a_iR1 {t : TA} {R : It → Hp → Prop} (k : Al L (fun H => t σ H fun vs H1 => ∃ j : Int, vs = [.int j] ∧ -(2 ^ 62) ≤ j ∧ j < 2 ^ 62 ∧ R (Itr 0 j.toNat) H1)) : Al L (fun H => iRng1 t σ H R) := k
theorem a_iR1K {j : Int} {R : It → Hp → Prop} (h1 : -(2 ^ 62) ≤ j) (h2 : j < 2 ^ 62) (k : Al L (R (Itr 0 j.toNat))) : Al L (fun H1 => ∃ i : Int, [V.int j] = [V.int i] ∧ -(2 ^ 62) ≤ i ∧ i < 2 ^ 62 ∧ R (Itr 0 i.toNat) H1) := fun H s => ⟨j, rfl, h1, h2, k H s⟩
theorem a_iL {tl : TE} {R : It → Hp → Prop} (k : Al L (fun H => tl σ H fun x H1 => ∃ a, x = .ref a ∧ (∃ xs, SqL K H1 a xs) ∧ R (Itl K a) H1)) : Al L (fun H => iList K tl σ H R) := k
theorem a_iLK {a : Addr} {xs : List V} {R : It → Hp → Prop} (h : Ldg L K a xs) (k : Al L (R (Itl K a))) : Al L (fun H1 => ∃ b, V.ref a = V.ref b ∧ (∃ xs, SqL K H1 b xs) ∧ R (Itl K b) H1) := fun H s => ⟨a, rfl, ⟨xs, h.q H s⟩, k H s⟩
end
/-! ### while -/
def WhW (I : Nat → L2.St → List Asn → Prop) : Nat → L2.St → Hp → Prop := fun m σ H => ∃ M, I m σ M ∧ Star M H
def WhNx (I : Nat → L2.St → List Asn → Prop) (m : Nat) : L2.St → Hp → Prop := fun σ H => ∃ m', m' < m ∧ ∃ M, I m' σ M ∧ Star M H
def WhK (I : Nat → L2.St → List Asn → Prop) (m : Nat) (tb : TS) (D : Ends) (σ : L2.St) : Bool → Hp → Prop := fun b H1 => if b = true then ∃ N : L2.St → Hp → Prop, (∀ σ' H', N σ' H' → ∃ m', m' < m ∧ WhW I m' σ' H') ∧ tb { D with nx := N, ct := N, bk := D.nx } σ H1 else D.nx σ H1
section
variable {L : List Asn} {σ : L2.St} {nx : L2.St → Hp → Prop} {rt : VK} {bk ct : L2.St → Hp → Prop} {tb : TS} {tc : TT} {I : Nat → L2.St → List Asn → Prop} {m : Nat} {b : Bool}
theorem a_while (I : Nat → L2.St → List Asn → Prop) (h0 : ∃ m M, I m σ M ∧ Ent L M) (hs : ∀ m σ M, I m σ M → Al M (fun H => tc σ H (WhK I m tb ⟨nx, rt, bk, ct⟩ σ))) : Al L (fun H => tWhile tc tb ⟨nx, rt, bk, ct⟩ σ H) := fun H s => by
  obtain ⟨m, M, i, e⟩ := h0
  exact ⟨WhW I, ⟨m, M, i, e H s⟩, fun m σ H ⟨M, i, s⟩ => hs m σ M i H s⟩
theorem a_whT (k : Al L (fun H => tb ⟨WhNx I m, rt, nx, WhNx I m⟩ σ H)) : Al L (WhK I m tb ⟨nx, rt, bk, ct⟩ σ true) := fun H s => ⟨WhNx I m, fun _ _ ⟨m', a, M, b, c⟩ => ⟨m', a, M, b, c⟩, k H s⟩
theorem a_whF (k : Al L (nx σ)) : Al L (WhK I m tb ⟨nx, rt, bk, ct⟩ σ false) := fun H s => k H s
theorem a_wh {p : Prop} [Decidable p] (h1 : p → Al L (fun H => tb ⟨WhNx I m, rt, nx, WhNx I m⟩ σ H)) (h2 : ¬ p → Al L (nx σ)) : Al L (WhK I m tb ⟨nx, rt, bk, ct⟩ σ (decide p)) := by
  by_cases h : p
  · rw [decide_eq_true h]; exact a_whT (h1 h)
  · rw [decide_eq_false h]; exact a_whF (h2 h)
theorem a_whnx {M : List Asn} {m' : Nat} (hm : m' < m) (h : I m' σ M) (e : Ent L M) : Al L (WhNx I m σ) := fun H s => ⟨m', hm, M, h, e H s⟩
end
end AL

/-! Defs that run where nothing of a repr is under way; their promises by ledgers. -/
namespace AL
open PySem PySem.Spec PyProof.Rows L2

/-- room, and no repr under way -/
structure Rm (k : Nat) (A : Around) : Prop where
  r : Room k A
  g : A.guards = some []
theorem Rm.mono {j k : Nat} {A : Around} (r : Rm k A) (h : j ≤ k := by decide) : Rm j A := ⟨r.r.mono h, r.g⟩
structure FnG (P : Program) (w : World) (K : PySem.W.Frag) (mg : Str → Option Value) (base : Heap)
    (k : Nat) (f : Addr) (ps : List Str) (sp : Sp) : Prop where
  len : ∀ vs H Q E, sp vs H Q E → vs.length = ps.length
  keep : PySem.W.keepIn K (.ref f) = true
  run : ∀ (A : Around) (outer : List Env) (s : Shared) (H : Hp) (us : List Value) (vs : List V) (Q : VK) (E : XK),
    Rm k A → Env0 P w K mg base A outer s H → K.In s.heap → Vals vs us → sp vs H Q E →
    codeAny (model P w) A (.call (.ref f) ⟨us, []⟩) (CR (CX P w) outer P w H s Q E) s
theorem FnG.mono {P : Program} {w : World} {K : PySem.W.Frag} {mg : Str → Option Value} {base : Heap} {j k : Nat} {f : Addr} {ps : List Str} {sp : Sp}
    (F : FnG P w K mg base j f ps sp) (h : j ≤ k) : FnG P w K mg base k f ps sp :=
  ⟨F.len, F.keep, fun A o s H us vs Q E r => F.run A o s H us vs Q E (r.mono h)⟩
theorem FnG.imp {P : Program} {w : World} {K : PySem.W.Frag} {mg : Str → Option Value} {base : Heap} {k : Nat} {f : Addr} {ps : List Str} {sp sp' : Sp}
    (F : FnG P w K mg base k f ps sp) (h : ∀ vs H Q E, sp' vs H Q E → sp vs H Q E) : FnG P w K mg base k f ps sp' :=
  ⟨fun vs H Q E q => F.len vs H Q E (h _ _ _ _ q), F.keep, fun A o s H us vs Q E r e x v q => F.run A o s H us vs Q E r e x v (h _ _ _ _ q)⟩

/-- a result that a callee hands on -/
theorem cr_ep {X : Cx} {E : XK} {pins : List (Addr × Obj)} {σ : L2.St} {H : Hp} {s s' : Shared} {Q : VK} {r : Result}
    (hx : Passes (CX X.prog X.w) X E) (I : Inv X pins σ H s) (h : CR (CX X.prog X.w) X.stack X.prog X.w H s Q E r s') :
    (∃ e, r = .error e ∧ X.xe e s') ∨ ∃ u, r = .ok (.ret u) ∧ EP X pins σ Q u s' := by
  cases r with
  | error e => exact .inl ⟨e, rfl, hx pins σ H s e s' I h⟩
  | ok fl => cases fl with
    | ret u => exact .inr ⟨u, rfl, I.after h⟩
    | next => exact False.elim h
    | brk => exact False.elim h
    | cont => exact False.elim h
section
variable {X : Cx} {k : Nat} {f C : Addr} {ps : List Str} {sp : Sp} {E : XK} {x m : Str} {p pos apos : Pos} {e o : Expr} {es : List Expr} {ta : TE} {t : TA}
theorem run_g {pins : List (Addr × Obj)} {σ : L2.St} {H : Hp} {s : Shared} {Q : VK} {us : List Value} {vs : List V}
    (F : FnG X.prog X.w X.K X.mg X.base k f ps sp) (hr : Rm k X.A) (hx : Passes (CX X.prog X.w) X E)
    (I : Inv X pins σ H s) (r : Vals vs us) (h : sp (vs ++ []) H Q E) : wpAny (model X.prog X.w) X.A (call (.ref f) us) (EP X pins σ Q) X.xe s := by
  rw [List.append_nil] at h
  have z := F.run X.A X.stack s H us vs Q E hr I.env0 I.kIn r h
  exact wpAny_call (codeAny_mono z fun r s' q => by
    rcases cr_ep hx I q with ⟨e, rfl, y⟩ | ⟨u, rfl, y⟩ <;> exact y)
theorem ge_call (F : FnG X.prog X.w X.K X.mg X.base k f ps sp) (hr : Rm k X.A) (hg : Gl X x) (hm : X.mg x = some (.ref f))
    (hx : Passes (CX X.prog X.w) X E) (ha : PA X (e :: es) t) (hdb : (x == ("__debug__" : Str)) = false := by decide)
    (he : starEach (e :: es) X.env = (false, eval e X.env) :: starEach es X.env := by rfl)
    (hpl : (backTo pos (starEach es X.env)).any (·.1) = false := by rfl) :
    PE X (.Call (.Name x p) (e :: es) [] pos) (tCall sp [] E t) := ⟨fun pins s σ H Q I h =>
  wpAny_Call_Name_kw (ld_glob I hg hm (PySem.W.callWith_K (h₀ := X.base) I.ok.mod.kin F.keep
    (thn (ha.run pos pins s σ H _ I h) fun us s1 ⟨vs, H1, I1, r, q⟩ => ⟨I1.kIn, run_g F hr hx I1 r q⟩) he hpl) hdb)⟩
theorem ge_call0 (F : FnG X.prog X.w X.K X.mg X.base k f ps sp) (hr : Rm k X.A) (hg : Gl X x) (hm : X.mg x = some (.ref f))
    (hx : Passes (CX X.prog X.w) X E) (hdb : (x == ("__debug__" : Str)) = false := by decide) :
    PE X (.Call (.Name x p) [] [] pos) (tCall sp [] E tNil) := ⟨fun pins s σ H Q I h =>
  wpAny_Call_Name_kw (ld_glob I hg hm (PySem.W.callWith_K0 I.kIn F.keep (run_g (us := []) F hr hx I .nil h)) hdb)⟩
theorem ge_meth {pl : Sem Bool} (he : PE X o ta) (c : Cls X.K C) (hm : Meth X.K C m f) (F : FnG X.prog X.w X.K X.mg X.base k f ps sp)
    (hr : Rm k X.A) (hx : Passes (CX X.prog X.w) X E) (ha : PA X (e :: es) t)
    (hst : starEach (e :: es) X.env = (false, eval e X.env) :: starEach es X.env := by rfl)
    (hpl : (backTo pos (starEach es X.env)).any (·.1) = false := by rfl)
    (ht : eval (.Call (.Attribute o m apos) (e :: es) [] pos) X.env = (do
        let ov ← eval o X.env
        standAt apos.atName
        let (f, first) ← holding [ov] (getMethod ov m pl)
        callWith pos f first (backTo pos (starEach (e :: es) X.env)) (backToKw pos (keywordEach [] X.env))) := by rfl) :
    PE X (.Call (.Attribute o m apos) (e :: es) [] pos) (tMeth C m sp [] E ta t) := ⟨fun pins s σ H Q I h =>
  PySem.W.methodCall_KW (pl := pl) (thn (he.run pins s σ H _ I h) fun u s1 ⟨x, H1, I1, rx, a, dx, fs, ex, ea, l, q⟩ => by
    subst ex
    obtain rfl : u = Value.ref a := rx
    exact getmeth_ok I1 ea c hm l (PySem.W.callWith_K (first := [.ref a]) (h₀ := X.base) I.ok.mod.kin hm.kp
      (thn (ha.run pos pins s1 σ H1 _ I1 q) fun us s2 ⟨vs, H2, I2, r, q2⟩ => ⟨I2.kIn, run_g (us := .ref a :: us) (vs := .ref a :: vs) F hr hx I2 (.cons (show RelV (.ref a) (.ref a) from rfl) r) q2⟩) hst hpl)) ht⟩
theorem ge_meth0 {pl : Sem Bool} (he : PE X o ta) (c : Cls X.K C) (hm : Meth X.K C m f) (F : FnG X.prog X.w X.K X.mg X.base k f ps sp)
    (hr : Rm k X.A) (hx : Passes (CX X.prog X.w) X E)
    (ht : eval (.Call (.Attribute o m apos) [] [] pos) X.env = (do
        let ov ← eval o X.env
        standAt apos.atName
        let (f, first) ← holding [ov] (getMethod ov m pl)
        callWith pos f first (backTo pos (starEach [] X.env)) (backToKw pos (keywordEach [] X.env))) := by rfl) :
    PE X (.Call (.Attribute o m apos) [] [] pos) (tMeth C m sp [] E ta tNil) := ⟨fun pins s σ H Q I h =>
  PySem.W.methodCall_KW (pl := pl) (thn (he.run pins s σ H _ I h) fun u s1 ⟨x, H1, I1, rx, a, dx, fs, ex, ea, l, q⟩ => by
    subst ex
    obtain rfl : u = Value.ref a := rx
    exact getmeth_ok I1 ea c hm l (PySem.W.callWith_K0 (first := [.ref a]) I1.kIn hm.kp (run_g (us := [.ref a]) (vs := [.ref a]) F hr hx I1 (.cons (show RelV (.ref a) (.ref a) from rfl) .nil) q))) ht⟩
theorem run_gm {pins : List (Addr × Obj)} {σ : L2.St} {H : Hp} {s : Shared} {Q : VK} {us : List Value} {vs : List V}
    (M : Mk X.K C f) (F : FnG X.prog X.w X.K X.mg X.base k f ps sp) (hr : Rm (k + 1) X.A) (hx : Passes (CX X.prog X.w) X E)
    (I : Inv X pins σ H s) (r : Vals vs us) (h : MakeK C sp [] E Q vs H) :
    wpAny (model X.prog X.w) X.A (call (.ref C) us) (EP X pins σ Q) X.xe s := by
  have n := s.heap.objs.size
  have I2 := Inv.made (C := C) I
  have q := h (s.heap.objs.size + 1) s.heap.objs.size (I.hok.fresh (Nat.le_succ _)) (I.hok.fresh (Nat.le_refl _)) (Nat.ne_of_lt (Nat.lt_succ_self _))
  rw [List.append_nil] at q
  have gd : (X.A.under (.builtin "type.__call__" ⟨.ref C :: us, []⟩)).guards = some [] := by
    have e1 : (Code.builtin "type.__call__" ⟨.ref C :: us, []⟩).isGuard = false := by
      show guardIds.contains "type.__call__" = false
      decide +kernel
    simp [Around.under, Code.guards, e1, pushGuards, hr.g]
  have z := F.run _ X.stack _ _ (Value.ref (s.heap.objs.size + 1) :: us) (V.ref (s.heap.objs.size + 1) :: vs) _ E
    ⟨hr.r.make C us [], gd⟩ (I2.env0.make C us []) I2.kIn (.cons rfl r) q
  exact wpAny_call (make_map (f := f) I.kIn M.makes M.init (beq_iff_eq.mp M.fn) (codeAny_mono z fun r s' y => by
    rcases cr_ep hx I2 y with ⟨e, er, y2⟩ | ⟨u, er, v, H', I3, rv, ev, q3⟩
    · subst er; exact y2
    · subst er; subst ev
      exact ⟨rv, V.ref (s.heap.objs.size + 1), H', I3, rfl, q3⟩))
theorem ge_make (M : Mk X.K C f) (F : FnG X.prog X.w X.K X.mg X.base k f ps sp) (hr : Rm (k + 1) X.A) (hg : Gl X x) (hm : X.mg x = some (.ref C))
    (hx : Passes (CX X.prog X.w) X E) (ha : PA X (e :: es) t) (hdb : (x == ("__debug__" : Str)) = false := by decide)
    (he : starEach (e :: es) X.env = (false, eval e X.env) :: starEach es X.env := by rfl)
    (hpl : (backTo pos (starEach es X.env)).any (·.1) = false := by rfl) :
    PE X (.Call (.Name x p) (e :: es) [] pos) (tMake C sp [] E t) := ⟨fun pins s σ H Q I h =>
  wpAny_Call_Name_kw (ld_glob I hg hm (PySem.W.callWith_K (h₀ := X.base) I.ok.mod.kin M.kp
    (thn (ha.run pos pins s σ H _ I h) fun us s1 ⟨vs, H1, I1, r, q⟩ => ⟨I1.kIn, run_gm M F hr hx I1 r q⟩) he hpl) hdb)⟩
theorem ge_make0 (M : Mk X.K C f) (F : FnG X.prog X.w X.K X.mg X.base k f ps sp) (hr : Rm (k + 1) X.A) (hg : Gl X x) (hm : X.mg x = some (.ref C))
    (hx : Passes (CX X.prog X.w) X E) (hdb : (x == ("__debug__" : Str)) = false := by decide) :
    PE X (.Call (.Name x p) [] [] pos) (tMake C sp [] E tNil) := ⟨fun pins s σ H Q I h =>
  wpAny_Call_Name_kw (ld_glob I hg hm (PySem.W.callWith_K0 I.kIn M.kp (run_gm (us := []) M F hr hx I .nil h)) hdb)⟩
/-- nothing is raised -/
theorem px0 : Passes (CX X.prog X.w) X E0 := fun _ _ _ _ _ _ _ ⟨_, _, _, _, _, _, _, _, _, _, _, _, h⟩ => h.elim
end

/-! ### a def's promise by its body -/
section
variable {P : Program} {w : World} {K : PySem.W.Frag} {mg : Str → Option Value} {base : Heap} {x qual : Str} {params : Arguments} {body : List Stmt} {scope : Scope} {f : Addr} {N ps : List Str} {k : Nat} {sp : Sp}
theorem fn_g {fd : FuncData} (F : FunD K x qual params body scope [] [] f fd) (S : FnScope N ps scope) (len : ∀ vs H Q E, sp vs H Q E → vs.length = ps.length)
    (hb : ∀ (kV doc pm : Value) (an : Option Addr) (cdv ct : Value) (us : List Value), us.length = ps.length →
      bindArgs (PySem.W.fnOf x qual params body scope .none kV doc pm an cdv ct) ⟨us, []⟩ = pure (ps.zip us))
    (hbody : ∀ (cdv : Value) (A : Around) (outer : List Env) (s : Shared) (H : Hp) (vs : List V) (Q : VK) (E : XK),
      Rm k (A.deeper (envOfC qual scope s.heap.objs.size f cdv)) → sp vs H Q E →
      ∃ t, PSs (cxOf (CX P w) P w K mg base N qual scope f cdv A outer s H E) body t ∧ t { nx := fun _ H' => Q .non H', rt := Q } (start N vs) H) :
    FnG P w K mg base (k + 1) f ps sp := by
  have bb := FunD.bindsA F hb
  obtain ⟨oc, od, dV, kV, doc, pm, an, cdv, ct, osl, rfl, lk, hcd, _, _⟩ := F.ex
  refine ⟨len, F.kp, fun A outer s H us vs Q E hr e0 KX r hsp => ?_⟩
  have hl := len _ _ _ _ hsp
  have lim : s.heap.NoLimit := e0.mod.nolimit.keeps fun b o e => (e0.bs b o e).1
  have kinds : ∀ y ∈ ps.zip us, scope.names.lookup y.1 = some .local ∨
      (scope.names.lookup y.1 = some .cell ∧ ((cellsFrom (s.heap.objs.size + 1) scope.names []).lookup y.1).isSome = true) := fun ⟨n, v⟩ hy =>
    (S.par n (List.of_mem_zip hy).1).imp id fun q => ⟨q, PySem.W.cellsFrom_some _ _ _ (.inl q)⟩
  refine codeAny_call_function hr.r.depth (KX _ _ lk) rfl S.co S.gen rfl (PySem.W.codeRec_of KX hcd) (bb s us (by rw [← r.length]; exact hl) _ _ _ _ ?_)
  refine wpAny_newFunctionEnv_cells S.kind kinds fun env he s1 z => ?_
  subst he
  refine ⟨lim.keeps z.toInCall.keep, codeAny_func ?_⟩
  obtain ⟨t, ht, hq⟩ := hbody cdv A outer s H vs Q E ⟨hr.r.deeper _, hr.g⟩ hsp
  have I := inv_start (CX := CX P w) (E := E) (N := N) (qual := qual) (f := f) (cd := cdv) S hr.r.hd e0 hl r z
  exact wpAny_mono (ht.run [] s1 (start N vs) H _ I hq) (fun fl s' hs => by
    cases fl with
    | ret u => exact let ⟨v, _, H', J, rv, q⟩ := hs; ⟨v, H', J.os, J.bare, J.base, J.hok, rv, q⟩
    | next => exact let ⟨_, H', J, q⟩ := hs; ⟨V.non, H', J.os, J.bare, J.base, J.hok, rfl, q⟩
    | brk => exact let ⟨_, _, _, q⟩ := hs; False.elim q
    | cont => exact let ⟨_, _, _, q⟩ := hs; False.elim q) fun _ _ hs => hs
end

/-! ### promises by ledgers -/
structure Tri where
  G : Type
  O : Type
  args : G → List V
  cond : G → Prop := fun _ => True
  pre : G → List Asn := fun _ => []
  ok : G → O → Prop := fun _ _ => True
  res : G → O → V
  post : G → O → List Asn := fun _ _ => []
  exc : G → Value → Option Addr → List Asn → Prop := fun _ _ _ _ => False
def Tri.sp (S : Tri) : Sp := fun vs H Q E => ∃ (g : S.G) (R : Asn), vs = S.args g ∧ S.cond g ∧ Star (S.pre g ++ [R]) H ∧
  (∀ o, S.ok g o → Al (S.post g o ++ [R]) (Q (S.res g o))) ∧ ∀ c d M, S.exc g c d M → Al (M ++ [R]) (E c d)
theorem Ent.wrap {M R : List Asn} : Ent (M ++ R) (M ++ [Star R]) := by
  induction M with
  | nil => intro H h; exact Star.join (M := R) (L := []) (by rw [List.append_nil]; exact h)
  | cons A M ih => intro H h; exact Star.tail h fun _ t => ih _ t
theorem Ent.unwrap {M R : List Asn} : Ent (M ++ [Star R]) (M ++ R) := by
  induction M with
  | nil =>
    intro H h
    have z := Star.split (M := R) (L := []) h
    rw [List.append_nil] at z
    exact z
  | cons A M ih => intro H h; exact Star.tail h fun _ t => ih _ t
/-- a call by its promise -/
theorem Tri.use (S : Tri) {L R : List Asn} {vs : List V} {Q : VK} {E : XK} (g : S.G) (hv : vs = S.args g) (hc : S.cond g) (s : Sub L (S.pre g) R)
    (k : ∀ o, S.ok g o → Al (S.post g o ++ R) (Q (S.res g o))) (kx : ∀ c d M, S.exc g c d M → Al (M ++ R) (E c d) := by intro _ _ _ h; exact h.elim) :
    Al L (fun H => S.sp vs H Q E) := fun H h =>
  ⟨g, Star R, hv, hc, Ent.wrap _ (s.ok h), fun o ho => (k o ho).ent Ent.unwrap, fun c d M hm => (kx c d M hm).ent Ent.unwrap⟩
section
variable {P : Program} {w : World} {K : PySem.W.Frag} {mg : Str → Option Value} {base : Heap} {f : Addr} {N ps : List Str} {k : Nat}
/-- what a body's proof is handed: the place (no repr under way), the ghost, the frame, the ends -/
theorem Tri.fn (S : Tri) {x qual : Str} {params : Arguments} {body : List Stmt} {scope : Scope} (F : ∃ fd, FunD K x qual params body scope [] [] f fd) (sc : FnScope N ps scope) (len : ∀ g, (S.args g).length = ps.length)
    (hb : ∀ (kV doc pm : Value) (an : Option Addr) (cdv ct : Value) (us : List Value), us.length = ps.length →
      bindArgs (PySem.W.fnOf x qual params body scope .none kV doc pm an cdv ct) ⟨us, []⟩ = pure (ps.zip us))
    (hbody : ∀ (cdv : Value) (A : Around) (outer : List Env) (s : Shared) (H : Hp) (E : XK) (Q : VK) (g : S.G) (R : Asn),
      Rm k (A.deeper (envOfC qual scope s.heap.objs.size f cdv)) → S.cond g → (∀ o, S.ok g o → Al (S.post g o ++ [R]) (Q (S.res g o))) → (∀ c d M, S.exc g c d M → Al (M ++ [R]) (E c d)) →
      ∃ t, PSs (cxOf (CX P w) P w K mg base N qual scope f cdv A outer s H E) body t ∧ Al (S.pre g ++ [R]) (fun H => t { nx := fun _ H' => Q .non H', rt := Q } (start N (S.args g)) H)) :
    FnG P w K mg base (k + 1) f ps S.sp := by
  obtain ⟨fd, F⟩ := F
  refine fn_g F sc (fun vs H Q E ⟨g, _, e, _⟩ => by rw [e]; exact len g) hb fun cdv A outer s H vs Q E hr ⟨g, R, e, c, st, k, kx⟩ => ?_
  subst e
  obtain ⟨t, h1, h2⟩ := hbody cdv A outer s H E Q g R hr c k kx
  exact ⟨t, h1, h2 H st⟩
end
/-- the end of a body -/
theorem a_end {L M R : List Asn} {Q : Hp → Prop} (s : Sub L M R) (k : Al M Q) : Al L Q := k.ent (Ent.of s)
end AL

/-! Rules by values that serve several kinds at once, and their steps over a ledger. -/
namespace AL
open PySem PySem.Spec PyProof.Rows L2

/-! ### rules -/
theorem Rm.u1 {k : Nat} {A : Around} (r : Rm k A) : A.units + 1 < cLine := by have := r.r.un; omega
theorem Rm.u64 {k : Nat} {A : Around} (r : Rm k A) : A.units + 64 < cLine := by have := r.r.un; omega
theorem Rm.u65 {k : Nat} {A : Around} (r : Rm k A) : A.units + 65 < cLine := by have := r.r.un; omega
section
variable {X : Cx}
theorem ge_int {x : Str} {i : Int} {pos : Pos} (hg : Gl X x) (h : ∃ t, X.mg x = some (.int i t)) (hd : (x == ("__debug__" : Str)) = false := by decide) : PE X (.Name x pos) (tC (.int i)) :=
  let ⟨t, e⟩ := h
  pe_glob hg e ⟨t, rfl⟩ hd
theorem ge_str {x z : Str} {pos : Pos} (hg : Gl X x) (h : ∃ t, X.mg x = some (.str z t)) (hd : (x == ("__debug__" : Str)) = false := by decide) : PE X (.Name x pos) (tC (.str z)) :=
  let ⟨t, e⟩ := h
  pe_glob hg e ⟨t, rfl⟩ hd
def kAbs : List V → Hp → VK → Prop := fun xs H Q => ∃ i, xs = [.int i] ∧ Q (.int (if i < 0 then -i else i)) H
theorem k_abs : CallR X (.builtin "abs") kAbs := call_abs
def kMin : List V → Hp → VK → Prop := fun xs H Q => ∃ i j, xs = [.int i, .int j] ∧ Q (.int (if j < i then j else i)) H
theorem k_min (hc : X.calm = true) : CallR X (.builtin "min") kMin := call_min2 hc
def kMax : List V → Hp → VK → Prop := fun xs H Q => ∃ i j, xs = [.int i, .int j] ∧ Q (.int (if j > i then j else i)) H
theorem k_max (hc : X.calm = true) : CallR X (.builtin "max") kMax := call_max2 hc
def kDivmod : List V → Hp → VK → Prop := fun xs H Q => ∃ i j, xs = [.int i, .int j] ∧ CDiv i j ∧ NewK (.tup [.int (i / j), .int (i % j)]) Q H
theorem k_divmod : CallR X (.builtin "divmod") kDivmod := call_divmod
def kOrd : List V → Hp → VK → Prop := fun xs H Q => ∃ x, xs = [.str x] ∧ x.length = 1 ∧ Q (.int (x.cps.getD 0 0 : Nat)) H
theorem k_ord : CallR X (.builtin "ord") kOrd := call_ord
def mJoin (K : PySem.W.Frag) : V → List V → Hp → VK → Prop := fun x xs H Q => ∃ a p, ∃ ys : List Str, x = .str a ∧ xs = [.ref p] ∧ (SqL K H p (ys.map V.str) ∨ SqT K H p (ys.map V.str)) ∧ (ys.map (·.length)).sum + ys.length * a.length ≤ 16777216 ∧ Q (.str (Txt.join a ys)) H
theorem m_join : MtR X "str.join" (mJoin X.K) := mt_join
def mSIndex : V → List V → Hp → VK → Prop := fun x xs H Q => ∃ a b i rest, x = .str a ∧ xs = [.str b] ∧ Builtin.Str.occurrences a b 0 a.length 1 = i :: rest ∧ Q (.int (i : Nat)) H
theorem m_sindex : MtR X "str.index" mSIndex := mt_sindex
def kInt : List V → Hp → VK → Prop := fun xs H Q => ((∃ i, xs = [.int i] ∧ Q (.int i) H) ∨ ∃ k, xs = [.bl k] ∧ Q (.int (if k then 1 else 0)) H) ∨ ∃ a n, xs = [.str a] ∧ PySem.intText? a = some n ∧ a.length ≤ 640 ∧ Q (.int n) H
theorem k_int : CallR X (.type "int") kInt := call_int1.or call_int_str
def kStr : List V → Hp → VK → Prop := fun xs H Q => (∃ i, xs = [.int i] ∧ i.natAbs.log2 < 1920 ∧ Q (.str (toString i)) H) ∨ ∃ a, xs = [.str a] ∧ Q (.str a) H
theorem k_str : CallR X (.type "str") kStr := call_str_int.or SkE.call_str_str
def kList (K : PySem.W.Frag) : List V → Hp → VK → Prop := fun xs H Q => (∃ p ys, xs = [.ref p] ∧ (SqL K H p ys ∨ SqT K H p ys) ∧ NewK (.lst ys) Q H) ∨ ∃ (a : Addr) (kvs : List (Key × V)), xs = [.ref a] ∧ Rd H a (.dK kvs) ∧ NewK (.lst (kvs.map fun kv => kV kv.1)) Q H
theorem k_list (hc : X.calm = true) : CallR X (.type "list") (kList X.K) := call_list_of.or (call_listD hc)
abbrev SAdd : R2 := fun x y H Q => ∃ i j, x = .str i ∧ y = .str j ∧ i.length + j.length ≤ sizeLine ∧ Q (.str (i ++ j)) H
def bAdd (K : PySem.W.Frag) : R2 := fun x y H Q => rI0 (fun i j => .int (i + j)) x y H Q ∨ SAdd x y H Q ∨ rCat x y H Q ∨ rCatA K x y H Q
theorem o_add : OpR X (binaryOp .Add) (bAdd X.K) := op_add.or (op_add_str.or (op_cat.or op_catA))
def bSub : R2 := rI0 fun i j => .int (i - j)
theorem o_sub : OpR X (binaryOp .Sub) bSub := op_sub
def bMul : R2 := fun x y H Q => rI CMul (fun i j => .int (i * j)) x y H Q ∨ rRep x y H Q
theorem o_mul : OpR X (binaryOp .Mult) bMul := op_mul.or op_rep
def bDiv : R2 := rI CDivW fun i j => .int (i / j)
theorem o_fdiv : OpR X (binaryOp .FloorDiv) bDiv := op_fdivW
def bMod : R2 := rI (fun _ j => 0 < j) fun i j => .int (i % j)
theorem o_mod : OpR X (binaryOp .Mod) bMod := op_mod
def bPow : R2 := rI CPow fun i j => .int (i ^ j.toNat)
theorem o_pow : OpR X (binaryOp .Pow) bPow := op_pow
def bShl : R2 := rI CPow fun i j => .int (i * 2 ^ j.toNat)
theorem o_shl : OpR X (binaryOp .LShift) bShl := op_shl
def bShr : R2 := rI (fun _ j => 0 ≤ j) fun i j => .int (i / 2 ^ j.toNat)
theorem o_shr : OpR X (binaryOp .RShift) bShr := op_shr
def iAdd : TIp := fun x y H Q => rI0 (fun i j => .int (i + j)) x y H Q ∨ SAdd x y H Q
theorem p_add : PIp X .Add iAdd := iop_add.or iop_add_str
def iSub : TIp := rI0 fun i j => .int (i - j)
theorem p_sub : PIp X .Sub iSub := iop_sub
def iDiv : TIp := rI CDivW fun i j => .int (i / j)
theorem p_fdiv : PIp X .FloorDiv iDiv := iop_fdivW
abbrev SLt : R2 := fun x y H Q => ∃ i j, x = .str i ∧ y = .str j ∧ Q (.bl (decide (i.cps.toList < j.cps.toList))) H
abbrev SLe : R2 := fun x y H Q => ∃ i j, x = .str i ∧ y = .str j ∧ Q (.bl (!decide (j.cps.toList < i.cps.toList))) H
def cLt : R2 := fun x y H Q => rI0 (fun i j => .bl (decide (i < j))) x y H Q ∨ SLt x y H Q
theorem o_lt : OpR X (compareOp .Lt) cLt := op_lt.or op_lt_str
def cLe : R2 := fun x y H Q => rI0 (fun i j => .bl (decide (i ≤ j))) x y H Q ∨ SLe x y H Q
theorem o_le : OpR X (compareOp .LtE) cLe := op_le.or op_le_str
def cGt : R2 := rI0 fun i j => .bl (decide (j < i))
theorem o_gt : OpR X (compareOp .Gt) cGt := op_gt
def cGe : R2 := rI0 fun i j => .bl (decide (j ≤ i))
theorem o_ge : OpR X (compareOp .GtE) cGe := op_ge
def cEq (K : PySem.W.Frag) : R2 := fun x y H Q => rEq x y H Q ∨ rEqD K x y H Q
theorem o_eq (hu : X.A.units + 64 < cLine) : OpR X (compareOp .Eq) (cEq X.K) := op_eq.or (op_eqD hu)
def cNe (K : PySem.W.Frag) : R2 := fun x y H Q => rNe x y H Q ∨ rNeD K x y H Q
theorem o_ne (hu : X.A.units + 64 < cLine) : OpR X (compareOp .NotEq) (cNe X.K) := op_ne.or (op_neD hu)
/-- y in d -/
def rDIn : R2 := fun y x H Q => ∃ a o, x = .ref a ∧ DGet H a y o ∧ Q (.bl o.isSome) H
def rDNotIn : R2 := fun y x H Q => ∃ a o, x = .ref a ∧ DGet H a y o ∧ Q (.bl (!o.isSome)) H
theorem op_din (hu : X.A.units + 1 < cLine) : OpR X (compareOp .In) rDIn := by
  intro pins s σ H y x u v Q I ry rx ⟨a, o, e, g, q⟩
  subst e
  cases (show v = Value.ref a from rx)
  exact d_in hu I g ry fun s3 I3 => ⟨.bl o.isSome, H, I3, rfl, q⟩
theorem op_dnotin (hu : X.A.units + 1 < cLine) : OpR X (compareOp .NotIn) rDNotIn := by
  intro pins s σ H y x u v Q I ry rx ⟨a, o, e, g, q⟩
  subst e
  cases (show v = Value.ref a from rx)
  exact d_notIn hu I g ry fun s3 I3 => ⟨.bl (!o.isSome), H, I3, rfl, q⟩
abbrev SIn : R2 := fun x y H Q => ∃ (c : Nat) (z : Str), x = .str ⟨#[c]⟩ ∧ y = .str z ∧ Q (.bl (decide (c ∈ z.cps.toList))) H
abbrev SNotIn : R2 := fun x y H Q => ∃ (c : Nat) (z : Str), x = .str ⟨#[c]⟩ ∧ y = .str z ∧ Q (.bl (!decide (c ∈ z.cps.toList))) H
/-- in a tuple of data -/
def rInDT (K : PySem.W.Frag) : R2 := fun x y H Q => ∃ d ds, Dp K H x d ∧ Dp K H y (.tuple ds) ∧ SeqAt.shaped d = true ∧ SeqAt.shaped (.tuple ds) = true ∧ Q (.bl (ds.any fun z => PyData.eqv z d)) H
def rNotInDT (K : PySem.W.Frag) : R2 := fun x y H Q => ∃ d ds, Dp K H x d ∧ Dp K H y (.tuple ds) ∧ SeqAt.shaped d = true ∧ SeqAt.shaped (.tuple ds) = true ∧ Q (.bl (!ds.any fun z => PyData.eqv z d)) H
theorem op_inDT (hu : X.A.units + 65 < cLine) : OpR X (compareOp .In) (rInDT X.K) := by
  intro pins s σ H x y v u Q I rx ry h
  obtain ⟨d, ds, hd, he, sd, se, q⟩ := h
  obtain ⟨as, r1⟩ := Dp.reads I d x v hd rx
  obtain ⟨bs, r2⟩ := Dp.reads I (.tuple ds) y u he ry
  exact SeqAt.in_tuple_reads r2 r1 (SeqAt.canLay_of_shaped se) (SeqAt.canLay_of_shaped sd) (room_in_shaped sd hu) ⟨.bl _, H, I, rfl, q⟩
theorem op_notInDT (hu : X.A.units + 65 < cLine) : OpR X (compareOp .NotIn) (rNotInDT X.K) := by
  intro pins s σ H x y v u Q I rx ry h
  obtain ⟨d, ds, hd, he, sd, se, q⟩ := h
  obtain ⟨as, r1⟩ := Dp.reads I d x v hd rx
  obtain ⟨bs, r2⟩ := Dp.reads I (.tuple ds) y u he ry
  exact SeqAt.notIn_tuple_reads r2 r1 (SeqAt.canLay_of_shaped se) (SeqAt.canLay_of_shaped sd) (room_in_shaped sd hu) ⟨.bl _, H, I, rfl, q⟩
def cIn (K : PySem.W.Frag) : R2 := fun x y H Q => rDIn x y H Q ∨ rIn K false x y H Q ∨ SIn x y H Q ∨ rInD K x y H Q ∨ rInDT K x y H Q
theorem o_in (hu : X.A.units + 65 < cLine) : OpR X (compareOp .In) (cIn X.K) := (op_din (by omega)).or (op_in_seq.or (op_in_sign.or ((op_inD hu).or (op_inDT hu))))
def cNotIn (K : PySem.W.Frag) : R2 := fun x y H Q => rDNotIn x y H Q ∨ rIn K true x y H Q ∨ SNotIn x y H Q ∨ rNotInD K x y H Q ∨ rNotInDT K x y H Q
theorem o_notin (hu : X.A.units + 65 < cLine) : OpR X (compareOp .NotIn) (cNotIn X.K) := (op_dnotin (by omega)).or (op_notIn_seq.or (op_notIn_sign.or ((op_notInD hu).or (op_notInDT hu))))
abbrev NIs : R2 := fun x y H Q => y = .non ∧ Q (.bl (decide (x = .non))) H
abbrev NNot : R2 := fun x y H Q => y = .non ∧ Q (.bl (!decide (x = .non))) H
def cIs : R2 := fun x y H Q => NIs x y H Q ∨ rIsB x y H Q
theorem o_is : OpR X (compareOp .Is) cIs := op_isN.or op_isBl
def cNot : R2 := fun x y H Q => NNot x y H Q ∨ rNotB x y H Q
theorem o_isnot : OpR X (compareOp .IsNot) cNot := op_notN.or op_notBl
/-- d[y] -/
def rIxDd : R2 := fun x y H Q => ∃ a v, x = .ref a ∧ DGet H a y (some v) ∧ Q v H
theorem ix_dd (hu : X.A.units + 1 < cLine) : IxR X rIxDd := by
  intro value slice pins s σ H x y v u Q I rx ry ⟨a, r, e, g, q⟩ hs
  subst e
  cases (show v = Value.ref a from rx)
  exact tail_any (dict_typeIs I g) PySem.F.slot_dict_getitem.lookup (d_getItem hu I g ry fun w' s' I' rw' => ⟨r, H, I', rw', q⟩) hs
def xIx (K : PySem.W.Frag) : R2 := fun x y H Q => rIx K x y H Q ∨ rIxDd x y H Q
theorem o_ix (hu : X.A.units + 1 < cLine) : IxR X (xIx X.K) := ix_seq.or (ix_dd hu)
def sIx (K : PySem.W.Frag) : V → Option Int → Option Int → Hp → VK → Prop := fun x lo hi H Q => rSlL K x lo hi H Q ∨ rSlS x lo hi H Q ∨ rSlA K x lo hi H Q
theorem o_sl : SlR X (sIx X.K) := sl_list.or (sl_str.or sl_tupA)
/-- o[i] = v -/
def sSet : TSet := fun o i v H Q => rSetL o i v H Q ∨ rSetD o i v H Q
theorem o_set (hu : X.A.units + 1 < cLine) : PSet X sSet := fun pins s σ H o i v ov iv u Q I a b c h => h.elim (set_list pins s σ H o i v ov iv u Q I a b c) (set_dict hu pins s σ H o i v ov iv u Q I a b c)
/-- calls of what is built in -/
abbrev rLenDd : List V → Hp → VK → Prop := fun xs H Q => ∃ a kvs, xs = [V.ref a] ∧ H a = some (.dK kvs) ∧ Q (.int kvs.length) H
def kLen (K : PySem.W.Frag) : List V → Hp → VK → Prop := fun xs H Q => (∃ x n, xs = [x] ∧ LenV K x H n ∧ Q (.int n) H) ∨ rLenDd xs H Q
theorem k_len : CallR X (.builtin "len") (kLen X.K) := call_len.or call_lenD
/-- repr of data -/
def kRepr (K : PySem.W.Frag) : List V → Hp → VK → Prop := fun xs H Q => ∃ x d, xs = [x] ∧ Dp K H x d ∧ d.showable = true ∧ d.hasDict = false ∧ d.depth ≤ 40 ∧ d.shown.length ≤ sizeLine ∧ Q (.str d.shown) H
theorem k_repr (hg : X.A.guards = some []) (hu : X.A.units + 64 < cLine) : CallR X (.builtin "repr") (kRepr X.K) := by
  intro pins s σ H xs us Q I r ⟨x, d, e, dp, hs, hd, hb, hz, q⟩
  subst e
  obtain ⟨u, eu, ru⟩ := vals1 r
  subst eu
  have fin : ∀ (h' : Heap) (t tk : Tok), (∀ b o, s.heap.get? b = some o → h'.get? b = some o) → EP X pins σ Q (.str d.shown t) { s with heap := h', toks := tk } :=
    fun h' t tk kp => ⟨.str d.shown, H, I.kept kp, ⟨t, rfl⟩, q⟩
  obtain ⟨as, rd⟩ := Dp.reads I d x u dp ru
  cases dp with
  | non => cases ru; exact PySem.P.repr_of_none (fin s.heap _ _ fun _ _ e => e)
  | bl b => cases ru; exact PySem.P.repr_of_bool (fin s.heap _ _ fun _ _ e => e)
  | int i => obtain ⟨t, rfl⟩ := ru; exact PySem.P.repr_of_int (by simpa [PyData.showable] using hs) (fin s.heap _ _ fun _ _ e => e)
  | str z => obtain ⟨t, rfl⟩ := ru; exact PySem.P.repr_of_str (fin s.heap _ _ fun _ _ e => e) hz
  | lst h1 h2 => cases ru; exact repr_of_reads' rd hs (PyData.noDict_hsm hd) hg (by omega) (fun _ _ e => e) fin hz
  | tup h1 h2 => cases ru; exact repr_of_reads' rd hs (PyData.noDict_hsm hd) hg (by omega) (fun _ _ e => e) fin hz
end
theorem bit_nonneg (b : Bool) : (0 : Int) ≤ if b = true then 1 else 0 := by cases b <;> decide
theorem cmul_bit {i : Int} {b : Bool} : CMul i (if b = true then 1 else 0) := by
  cases b
  · exact .inr ⟨by decide, by decide⟩
  · exact .inr ⟨by decide, by decide⟩
/-! ### steps over a ledger -/
section
variable {L L0 R : List Asn} {σ σ' : L2.St} {Q : VK} {D : Ends} {K : PySem.W.Frag} {te ta tb : TE} {t : TA} {v x y : V} {i j : Int} {n : Nat} {b : Bool} {P : Hp → Prop} {a p q : Addr} {xs ys : List V} {z w : Str}
theorem a_add_ii (k : Al L (Q (.int (i + j)))) : Al L (fun H => bAdd K (.int i) (.int j) H Q) := fun H s => .inl ⟨i, j, rfl, rfl, k H s⟩
theorem a_add_ss (hz : z.length + w.length ≤ sizeLine) (k : Al L (Q (.str (z ++ w)))) : Al L (fun H => bAdd K (.str z) (.str w) H Q) := fun H s => .inr (.inl ⟨z, w, rfl, rfl, hz, k H s⟩)
theorem a_add_ll {L1 : List Asn} (r : Rem L (pt p (.lst xs)) L0) (r' : Rem L (pt q (.lst ys)) L1) (hz : xs.length + ys.length ≤ sizeLine) (k : ∀ c, Al (pt c (.lst (xs ++ ys)) :: L) (Q (.ref c))) : Al L (fun H => bAdd K (.ref p) (.ref q) H Q) :=
  fun H s => .inr (.inr (.inl ⟨p, q, xs, ys, rfl, rfl, (r.ok s).at, (r'.ok s).at, hz, fun c hc => k c _ (s.new hc)⟩))
theorem a_add_tt (h : LdgT L K p xs) (h' : LdgT L K q ys) (hz : xs.length + ys.length ≤ sizeLine) (hx : xs ≠ []) (hy : ys ≠ []) (k : ∀ c, Al (pt c (.tup (xs ++ ys)) :: L) (Q (.ref c))) : Al L (fun H => bAdd K (.ref p) (.ref q) H Q) :=
  fun H s => .inr (.inr (.inr ⟨p, q, xs, ys, rfl, rfl, h.q H s, h'.q H s, hz, fun e => absurd e hx, fun _ e => absurd e hy, fun _ _ c hc => k c _ (s.new hc)⟩))
theorem a_sub (k : Al L (Q (.int (i - j)))) : Al L (fun H => bSub (.int i) (.int j) H Q) := a_I0 k
theorem a_mul (hc : CMul i j) (k : Al L (Q (.int (i * j)))) : Al L (fun H => bMul (.int i) (.int j) H Q) := fun H s => .inl ⟨i, j, rfl, rfl, hc, k H s⟩
theorem a_rep (r : Rem L (pt p (.lst xs)) L0) (h1 : -(2 ^ 63) ≤ j) (h2 : j < 2 ^ 63) (hz : xs.length * j.toNat ≤ sizeLine) (k : ∀ c, Al (pt c (.lst (List.replicate j.toNat xs).flatten) :: L) (Q (.ref c))) : Al L (fun H => bMul (.ref p) (.int j) H Q) :=
  fun H s => .inr ⟨p, j, xs, rfl, rfl, (r.ok s).at, h1, h2, hz, fun c hc => k c _ (s.new hc)⟩
theorem a_fdiv (hc : CDivW i j) (k : Al L (Q (.int (i / j)))) : Al L (fun H => bDiv (.int i) (.int j) H Q) := a_I hc k
theorem a_mod (hc : 0 < j) (k : Al L (Q (.int (i % j)))) : Al L (fun H => bMod (.int i) (.int j) H Q) := a_I (Cd := fun _ j => 0 < j) hc k
theorem a_pow (hc : CPow i j) (k : Al L (Q (.int (i ^ j.toNat)))) : Al L (fun H => bPow (.int i) (.int j) H Q) := a_I hc k
theorem a_shl (hc : CPow i j) (k : Al L (Q (.int (i * 2 ^ j.toNat)))) : Al L (fun H => bShl (.int i) (.int j) H Q) := a_I hc k
theorem a_shr (hc : 0 ≤ j) (k : Al L (Q (.int (i / 2 ^ j.toNat)))) : Al L (fun H => bShr (.int i) (.int j) H Q) := a_I (Cd := fun _ j => 0 ≤ j) hc k
theorem a_iadd (k : Al L (Q (.int (i + j)))) : Al L (fun H => iAdd (.int i) (.int j) H Q) := fun H s => .inl ⟨i, j, rfl, rfl, k H s⟩
theorem a_iadds (hz : z.length + w.length ≤ sizeLine) (k : Al L (Q (.str (z ++ w)))) : Al L (fun H => iAdd (.str z) (.str w) H Q) := fun H s => .inr ⟨z, w, rfl, rfl, hz, k H s⟩
theorem a_isub (k : Al L (Q (.int (i - j)))) : Al L (fun H => iSub (.int i) (.int j) H Q) := fun H s => ⟨i, j, rfl, rfl, k H s⟩
theorem a_idiv (hc : CDivW i j) (k : Al L (Q (.int (i / j)))) : Al L (fun H => iDiv (.int i) (.int j) H Q) := fun H s => ⟨i, j, rfl, rfl, hc, k H s⟩
theorem a_lt (k : Al L (Q (.bl (decide (i < j))))) : Al L (fun H => cLt (.int i) (.int j) H Q) := fun H s => .inl ⟨i, j, rfl, rfl, k H s⟩
theorem a_lts (k : Al L (Q (.bl (decide (z.cps.toList < w.cps.toList))))) : Al L (fun H => cLt (.str z) (.str w) H Q) := fun H s => .inr ⟨z, w, rfl, rfl, k H s⟩
theorem a_le (k : Al L (Q (.bl (decide (i ≤ j))))) : Al L (fun H => cLe (.int i) (.int j) H Q) := fun H s => .inl ⟨i, j, rfl, rfl, k H s⟩
theorem a_les (k : Al L (Q (.bl (!decide (w.cps.toList < z.cps.toList))))) : Al L (fun H => cLe (.str z) (.str w) H Q) := fun H s => .inr ⟨z, w, rfl, rfl, k H s⟩
theorem a_gt (k : Al L (Q (.bl (decide (j < i))))) : Al L (fun H => cGt (.int i) (.int j) H Q) := a_I0 k
theorem a_ge (k : Al L (Q (.bl (decide (j ≤ i))))) : Al L (fun H => cGe (.int i) (.int j) H Q) := a_I0 k
theorem a_ceq (hs : scal x y = true) (k : Al L (Q (.bl (decide (x = y))))) : Al L (fun H => cEq K x y H Q) := fun H s => .inl ⟨hs, k H s⟩
theorem a_cne (hs : scal x y = true) (k : Al L (Q (.bl (!decide (x = y))))) : Al L (fun H => cNe K x y H Q) := fun H s => .inl ⟨hs, k H s⟩
theorem a_isN (k : Al L (Q (.bl (decide (x = .non))))) : Al L (fun H => cIs x .non H Q) := fun H s => .inl ⟨rfl, k H s⟩
theorem a_notN (k : Al L (Q (.bl (!decide (x = .non))))) : Al L (fun H => cNot x .non H Q) := fun H s => .inl ⟨rfl, k H s⟩
theorem a_inC {c : Nat} (k : Al L (Q (.bl (decide (c ∈ z.cps.toList))))) : Al L (fun H => cIn K (.str ⟨#[c]⟩) (.str z) H Q) := fun H s => .inr (.inr (.inl ⟨c, z, rfl, rfl, k H s⟩))
theorem a_notinC {c : Nat} (k : Al L (Q (.bl (!decide (c ∈ z.cps.toList))))) : Al L (fun H => cNotIn K (.str ⟨#[c]⟩) (.str z) H Q) := fun H s => .inr (.inr (.inl ⟨c, z, rfl, rfl, k H s⟩))
theorem a_inD {kvs : List (Key × V)} {κ : Key} (r : Rem L (pt p (.dK kvs)) L0) (e : x = kV κ) (k : Al L (Q (.bl (valV kvs κ).isSome))) : Al L (fun H => cIn K x (.ref p) H Q) := fun H s => .inl ⟨p, _, rfl, by rw [e]; exact DGet.k (r.ok s).at, k H s⟩
theorem a_notinD {kvs : List (Key × V)} {κ : Key} (r : Rem L (pt p (.dK kvs)) L0) (e : x = kV κ) (k : Al L (Q (.bl (!(valV kvs κ).isSome)))) : Al L (fun H => cNotIn K x (.ref p) H Q) := fun H s => .inl ⟨p, _, rfl, by rw [e]; exact DGet.k (r.ok s).at, k H s⟩
theorem a_inL (h : Ldg L K p xs) (hx : flatV x = true) (hf : xs.all flatV = true) (k : Al L (Q (.bl (inV x xs)))) : Al L (fun H => cIn K x (.ref p) H Q) := fun H s => .inr (.inl ⟨p, xs, rfl, .inl (h.q H s), hx, hf, k H s⟩)
theorem a_inT (h : LdgT L K p xs) (hx : flatV x = true) (hf : xs.all flatV = true) (k : Al L (Q (.bl (inV x xs)))) : Al L (fun H => cIn K x (.ref p) H Q) := fun H s => .inr (.inl ⟨p, xs, rfl, .inr (h.q H s), hx, hf, k H s⟩)
theorem a_notinL (h : Ldg L K p xs) (hx : flatV x = true) (hf : xs.all flatV = true) (k : Al L (Q (.bl (!inV x xs)))) : Al L (fun H => cNotIn K x (.ref p) H Q) := fun H s => .inr (.inl ⟨p, xs, rfl, .inl (h.q H s), hx, hf, k H s⟩)
/-- items -/
theorem a_xL (h : Ldg L K a xs) (hv : atI xs i = some v) (k : Al L (Q v)) : Al L (fun H => xIx K (.ref a) (.int i) H Q) := fun H s => .inl (a_ixL h hv k H s)
theorem a_xT (h : LdgT L K a xs) (hv : atI xs i = some v) (k : Al L (Q v)) : Al L (fun H => xIx K (.ref a) (.int i) H Q) := fun H s => .inl (a_ixT h hv k H s)
theorem a_xS {c : Nat} (hz : z.length ≤ sizeLine) (hv : atI z.cps.toList i = some c) (k : Al L (Q (.str ⟨#[c]⟩))) : Al L (fun H => xIx K (.str z) (.int i) H Q) := fun H s => .inl (a_ixS hz hv k H s)
theorem a_xD {kvs : List (Key × V)} {κ : Key} (r : Rem L (pt p (.dK kvs)) L0) (e : x = kV κ) (hv : valV kvs κ = some v) (k : Al L (Q v)) : Al L (fun H => xIx K (.ref p) x H Q) := fun H s => .inr ⟨p, v, rfl, by rw [e, ← hv]; exact DGet.k (r.ok s).at, k H s⟩
/-- slices -/
theorem a_sl {r : V → Option Int → Option Int → Hp → VK → Prop} {tl th : TO} (k : Al L (fun H => te σ H fun x H1 => tl σ H1 fun l H2 => th σ H2 fun u H3 => r x l u H3 Q)) : Al L (fun H => tSl r te tl th σ H Q) := k
def PartK (QO : Option Int → Hp → Prop) : VK := fun x H1 => ∃ i, x = .int i ∧ QO (some i) H1
theorem a_part {QO : Option Int → Hp → Prop} (k : Al L (fun H => te σ H (PartK QO))) : Al L (fun H => tPart te σ H QO) := k
theorem a_partK {QO : Option Int → Hp → Prop} (k : Al L (QO (some i))) : Al L (PartK QO (.int i)) := fun H s => ⟨i, rfl, k H s⟩
theorem a_nopart {QO : Option Int → Hp → Prop} (k : Al L (QO none)) : Al L (fun H => tNoPart σ H QO) := k
theorem a_slL {lo hi : Option Int} (h : Ldg L K a xs) (k : ∀ c, Al (pt c (.lst (cutV xs lo hi)) :: L) (Q (.ref c))) : Al L (fun H => sIx K (.ref a) lo hi H Q) := fun H s => .inl ⟨a, xs, rfl, h.q H s, fun c hc => k c _ (s.new hc)⟩
theorem a_slS {lo hi : Option Int} (hz : z.length ≤ sizeLine) (k : Al L (Q (.str (cutS z lo hi)))) : Al L (fun H => sIx K (.str z) lo hi H Q) := fun H s => .inr (.inl ⟨z, rfl, hz, k H s⟩)
/-- stores -/
theorem a_setLl {QS : L2.St → Hp → Prop} (r : Rem L (pt p (.lst xs)) L0) (hi : ixN xs.length j = some n) (k : Al (pt p (.lst (xs.set n v)) :: L0) (QS σ)) : Al L (GSubK sSet (.ref p) v QS σ (.int j)) := fun H s => .inl ⟨p, xs, j, n, rfl, rfl, (r.ok s).at, hi, k _ ((r.ok s).set _ id)⟩
theorem a_setD {QS : L2.St → Hp → Prop} {kvs : List (Key × V)} {κ : Key} (r : Rem L (pt p (.dK kvs)) L0) (e : x = kV κ) (hz : kvs.length < sizeLine) (k : Al (pt p (.dK (putK kvs κ v)) :: L0) (QS σ)) : Al L (GSubK sSet (.ref p) v QS σ x) := fun H s => .inr ⟨p, _, rfl, by rw [e]; exact DPut.k (r.ok s).at hz, k _ ((r.ok s).set _ id)⟩
/-- built-in calls -/
theorem a_len_s (hz : z.length ≤ sizeLine) (k : Al L (Q (.int z.length))) : Al L (fun H => kLen K [.str z] H Q) := fun H s => .inl ⟨_, _, rfl, ⟨hz, rfl⟩, k H s⟩
theorem a_len_l (h : Ldg L K a xs) (k : Al L (Q (.int xs.length))) : Al L (fun H => kLen K [.ref a] H Q) := fun H s => .inl ⟨_, _, rfl, .inl ⟨xs, h.q H s, rfl⟩, k H s⟩
theorem a_len_t (h : LdgT L K a xs) (k : Al L (Q (.int xs.length))) : Al L (fun H => kLen K [.ref a] H Q) := fun H s => .inl ⟨_, _, rfl, .inr ⟨xs, h.q H s, rfl⟩, k H s⟩
theorem a_len_d {kvs : List (Key × V)} (r : Rem L (pt a (.dK kvs)) L0) (k : Al L (Q (.int kvs.length))) : Al L (fun H => kLen K [.ref a] H Q) := fun H s => .inr ⟨a, kvs, rfl, (r.ok s).at, k H s⟩
theorem a_int_b {b : Bool} (k : Al L (Q (.int (if b then 1 else 0)))) : Al L (fun H => kInt [.bl b] H Q) := fun H s => .inl (.inr ⟨b, rfl, k H s⟩)
theorem a_str_i (hz : i.natAbs.log2 < 1920) (k : Al L (Q (.str (toString i)))) : Al L (fun H => kStr [.int i] H Q) := fun H s => .inl ⟨i, rfl, hz, k H s⟩
theorem a_list_l (h : Ldg L K a xs) (k : ∀ c, Al (pt c (.lst xs) :: L) (Q (.ref c))) : Al L (fun H => kList K [.ref a] H Q) := fun H s => .inl ⟨a, xs, rfl, .inl (h.q H s), fun c hc => k c _ (s.new hc)⟩
theorem a_list_d {kvs : List (Key × V)} (r : Rem L (pt a (.dK kvs)) L0) (k : ∀ c, Al (pt c (.lst (kvs.map fun kv => kV kv.1)) :: L) (Q (.ref c))) : Al L (fun H => kList K [.ref a] H Q) := fun H s => .inr ⟨a, kvs, rfl, .inl (r.ok s).at, fun c hc => k c _ (s.new hc)⟩
theorem a_abs (k : Al L (Q (.int (if i < 0 then -i else i)))) : Al L (fun H => kAbs [.int i] H Q) := fun H s => ⟨i, rfl, k H s⟩
theorem a_min (k : Al L (Q (.int (if j < i then j else i)))) : Al L (fun H => kMin [.int i, .int j] H Q) := fun H s => ⟨i, j, rfl, k H s⟩
theorem a_max (k : Al L (Q (.int (if j > i then j else i)))) : Al L (fun H => kMax [.int i, .int j] H Q) := fun H s => ⟨i, j, rfl, k H s⟩
theorem a_divmod (hc : CDiv i j) (k : ∀ c, Al (pt c (.tup [.int (i / j), .int (i % j)]) :: L) (Q (.ref c))) : Al L (fun H => kDivmod [.int i, .int j] H Q) := fun H s => ⟨i, j, rfl, hc, fun c hc => k c _ (s.new hc)⟩
theorem a_ord (hz : z.length = 1) (k : Al L (Q (.int (z.cps.getD 0 0 : Nat)))) : Al L (fun H => kOrd [.str z] H Q) := fun H s => ⟨z, rfl, hz, k H s⟩
theorem a_join {ys : List Str} (h : Ldg L K p (ys.map V.str)) (hz : (ys.map (·.length)).sum + ys.length * z.length ≤ 16777216) (k : Al L (Q (.str (Txt.join z ys)))) : Al L (fun H => mJoin K (.str z) [.ref p] H Q) := fun H s => ⟨z, p, ys, rfl, rfl, .inl (h.q H s), hz, k H s⟩
theorem a_sindex {c : Nat} {rest : List Nat} (e : Builtin.Str.occurrences z w 0 z.length 1 = c :: rest) (k : Al L (Q (.int (c : Nat)))) : Al L (fun H => mSIndex (.str z) [.str w] H Q) := fun H s => ⟨z, w, c, rest, rfl, rfl, e, k H s⟩
theorem a_sum {ns : List Int} (h : Ldg L K p (ns.map V.int)) (k : Al L (Q (.int ns.sum))) : Al L (fun H => rSum K [.ref p] H Q) := fun H s => ⟨p, ns, rfl, h.q H s, k H s⟩
theorem a_all {bs : List Bool} (h : Ldg L K p (bs.map V.bl)) (k : Al L (Q (.bl (bs.all id)))) : Al L (fun H => rAll K [.ref p] H Q) := fun H s => ⟨p, bs, rfl, h.q H s, k H s⟩
theorem a_any {bs : List Bool} (h : Ldg L K p (bs.map V.bl)) (k : Al L (Q (.bl (bs.any id)))) : Al L (fun H => rAny K [.ref p] H Q) := fun H s => ⟨p, bs, rfl, h.q H s, k H s⟩
/-- data -/
structure LdD (L : List Asn) (K : PySem.W.Frag) (x : V) (d : PyData) : Prop where
  q : ∀ H, Star L H → Dp K H x d
theorem a_repr {d : PyData} (h : LdD L K x d) (hs : d.showable = true) (hd : d.hasDict = false) (hb : d.depth ≤ 40) (hz : d.shown.length ≤ sizeLine) (k : Al L (Q (.str d.shown))) : Al L (fun H => kRepr K [x] H Q) := fun H s => ⟨x, d, rfl, h.q H s, hs, hd, hb, hz, k H s⟩
end
end AL

/-! The law's own end. -/
namespace AL
open PySem PySem.Spec PyProof.Rows L2
section
variable {P : Program} {w : World} {K : PySem.W.Frag} {mg mb : Str → Option Value} {k : Nat} {fa a : Addr} {x : Str} {sp : Sp} {s₁ : Shared} {vs : List Value} {ns : List Int}
/-- from an abstract heap that holds at most the script -/
theorem law_core (KX : K.In s₁.heap) (hns : s₁.heap.Ns mainGlobals mg) (hb : s₁.heap.Ns builtinsNs mb) (hbb : ∀ x : Str, x ≠ "__name__" → mb x = bootBuiltins x)
    (hlim : s₁.heap.NoLimit) (hg : s₁.gens = #[]) (ha : s₁.heap.get? a = some { cls := .type "list", data := .seq vs.toArray }) (hr : Rm k callerA)
    (F : ∀ base : Heap, FnG P w K mg base k fa [x] sp) (hsp : ∀ H : Hp, Only H → SqL K H a (ns.map V.int) → sp [.ref a] H (fun v _ => v = .bl true) fun _ _ _ => False)
    (H : Hp) (hO : Only H) (hS : SqL K H a (ns.map V.int)) (hok : HOk P w H s₁.heap) (hA : ∀ b, H b ≠ none → b = a) (hK : H a ≠ none → K.lookup a = none) :
    codeAny (model P w) callerA (.call (.ref fa) ⟨[.ref a], []⟩) (fun r s' => r = .ok (.ret (.bool true)) ∧ OldK s₁.heap s'.heap ∧ s'.os = s₁.os ∧ AllBare s'.gens) s₁ := by
  have dict_out : ∀ {b : Addr} {o : Obj} {es : Array DictEntry} {ep : Nat}, s₁.heap.get? b = some o → o.data = .dict es ep → H b = none := by
    intro b o es ep e d
    cases q : H b with
    | none => rfl
    | some u =>
      obtain rfl := hA b (by rw [q]; simp)
      rw [ha] at e
      cases e
      exact nomatch (show Data.seq vs.toArray _ = Data.dict es ep from d)
  have ns_in : ∀ {b : Addr} {m : Str → Option Value}, s₁.heap.Ns b m → (hidT s₁.heap H).Ns b m := by
    intro b m ⟨o, es, ep, e, d, r⟩
    exact ⟨o, es, ep, hidT_get e (dict_out e d), d, r⟩
  have k_in : K.In (hidT s₁.heap H) := by
    intro b o e
    refine hidT_get (KX b o e) ?_
    cases q : H b with
    | none => rfl
    | some u =>
      obtain rfl := hA b (by rw [q]; simp)
      rw [hK (by rw [q]; simp)] at e
      cases e
  have lim : (hidT s₁.heap H).NoLimit := let ⟨mc, h1, h2⟩ := hlim; ⟨mc, ns_in h1, h2⟩
  have e0 : Env0 P w K mg (hidT s₁.heap H) callerA [] s₁ H := by
    refine ⟨rfl, ⟨k_in, ns_in hns, ⟨mb, ns_in hb, hbb⟩, lim⟩, fun b o e => of_hidT e, Nat.le_of_eq (hidT_size _ _), trivial, ?_, hok, .of_eq hg⟩
    intro b hb
    exact nomatch (show b ∈ ([] : List Addr) from hb)
  have z := (F (hidT s₁.heap H)).run callerA [] s₁ H [.ref a] [.ref a] _ _ hr e0 KX (.cons rfl .nil) (hsp H hO hS)
  refine codeAny_mono z fun r s' h => ?_
  cases r with
  | error e => exact let ⟨_, _, _, _, _, _, _, _, _, _, _, _, h⟩ := h; h.elim
  | ok fl =>
    cases fl with
    | next => exact False.elim h
    | brk => exact False.elim h
    | cont => exact False.elim h
    | ret u =>
      obtain ⟨v, H', os, bare, un, hok', rv, q⟩ := h
      obtain rfl : v = .bl true := q
      obtain rfl : u = Value.bool true := rv
      refine ⟨rfl, OldK.of_keep ?_, os, bare⟩
      intro b o e
      cases q : H b with
      | none => exact un.keep b o e q (fun z => nomatch (show b ∈ ([] : List Addr) from z)) (fun z => nomatch (show b ∈ ([] : List Addr) from z))
      | some u =>
        rcases hO b with z | ⟨ob, xs, z⟩
        · rw [q] at z; cases z
        · have e1 := (hok b _ z).1
          have e2 := (hok' b _ (un.frzs b ob _ z)).1
          rw [e] at e1
          cases e1
          exact e2
theorem law_g (KX : K.In s₁.heap) (hns : s₁.heap.Ns mainGlobals mg) (hb : s₁.heap.Ns builtinsNs mb) (hbb : ∀ x : Str, x ≠ "__name__" → mb x = bootBuiltins x)
    (hlim : s₁.heap.NoLimit) (hg : s₁.gens = #[]) (ha : s₁.heap.get? a = some { cls := .type "list", data := .seq vs.toArray }) (hi : IntsAre vs ns) (hl : ns.length ≤ sizeLine) (hr : Rm k callerA)
    (F : ∀ base : Heap, FnG P w K mg base k fa [x] sp) (hsp : ∀ H : Hp, Only H → SqL K H a (ns.map V.int) → sp [.ref a] H (fun v _ => v = .bl true) fun _ _ _ => False) :
    codeAny (model P w) callerA (.call (.ref fa) ⟨[.ref a], []⟩) (fun r s' => r = .ok (.ret (.bool true)) ∧ OldK s₁.heap s'.heap ∧ s'.os = s₁.os ∧ AllBare s'.gens) s₁ := by
  have rv := vals_ints hi
  have lenV := hi.length
  cases hk : K.lookup a with
  | some o =>
    obtain rfl := Option.some.inj (ha.symm.trans (KX a o hk))
    refine law_core KX hns hb hbb hlim hg ha hr F hsp (fun _ => none) (fun _ => .inl rfl) (.inr ⟨_, vs.toArray, _, hk, rfl, rfl, rfl, ?_, by simpa using rv⟩) ?_ (fun b z => absurd rfl z) fun z => absurd rfl z
    · rw [List.size_toArray, lenV]; exact hl
    · intro b u z
      exact nomatch (show (none : Option HO) = some u from z)
  | none =>
    have at_ : ∀ {b : Addr} {u : HO}, (if b = a then some (HO.frz { cls := .type "list", data := .seq vs.toArray } (.lst (ns.map V.int))) else none) = some u → b = a ∧ u = HO.frz { cls := .type "list", data := .seq vs.toArray } (.lst (ns.map V.int)) := by
      intro b u z
      by_cases hb : b = a
      · rw [if_pos hb] at z; exact ⟨hb, (Option.some.inj z).symm⟩
      · rw [if_neg hb] at z; cases z
    refine law_core KX hns hb hbb hlim hg ha hr F hsp (fun b => if b = a then some (.frz { cls := .type "list", data := .seq vs.toArray } (.lst (ns.map V.int))) else none) ?_ (.inl (.inr ⟨_, if_pos rfl⟩)) ?_ ?_ fun _ => hk
    · intro b
      by_cases hb : b = a
      · exact .inr ⟨_, _, if_pos hb⟩
      · exact .inl (if_neg hb)
    · intro b u z
      obtain ⟨rfl, rfl⟩ := at_ z
      exact ⟨ha, by rw [List.length_map]; exact hl, vs, _, rv, ha⟩
    · intro b z
      by_cases hb : b = a
      · exact hb
      · exact absurd (if_neg hb) z
end
theorem walk_g {l : PySem.W.OpenLaw} {n k : Nat} {q : Program} {loose : List Str} {XP : (Str → Option Value) → Heap → Prop} {YP : World → Heap → Prop} {d : DefRec}
    (hn : l.most = some n) (hn2 : n ≤ sizeLine) (hdf : d.params.defaults = []) (hr : Room k callerA)
    (F : ∀ (w : World) (mg : Str → Option Value) (fa : Addr) (h : Heap), YP w h → h.Ns mainGlobals mg → mg d.name = some (.ref fa) →
      ∃ K : PySem.W.Frag, K.In h ∧ ∃ (x : Str) (sp : Sp), (∀ base : Heap, FnG l.prog w K mg base k fa [x] sp) ∧
        ∀ (H : Hp) (a : Addr) (ns : List Int), ns.length ≤ n → Only H → SqL K H a (ns.map V.int) → sp [.ref a] H (fun v _ => v = .bl true) fun _ _ _ => False) :
    PySem.W.WalkO q loose XP YP l.row.toRowW d [] (fun f vs => PySem.call f vs) := by
  refine Att.attach_call hn hdf fun w s₀ s₁ mg mb fa o pm cd doc a vs ns G Y ho hd hcd hmg hobj hints hlen hg => ?_
  obtain ⟨K, KX, x, sp, hF, hsp⟩ := F w mg fa _ Y G.T.g hmg
  exact law_g KX G.T.g G.T.b G.T.builtins G.T.nolimit hg hobj hints (Nat.le_trans hlen hn2) ⟨hr, rfl⟩ hF fun H hO hS => hsp H a ns hlen hO hS
/-- a law's promise: a script of at most so many ints, True -/
def S_law (K : PySem.W.Frag) : Tri where
  G := Addr × List Int
  O := Unit
  args g := [.ref g.1]
  cond g := g.2.length ≤ 63
  pre g := [sq K g.1 (g.2.map V.int)]
  res _ _ := .bl true
theorem sp_law (K : PySem.W.Frag) (H : Hp) (a : Addr) (ns : List Int) (hl : ns.length ≤ 63) (_ : Only H) (hs : SqL K H a (ns.map V.int)) : (S_law K).sp [.ref a] H (fun v _ => v = .bl true) fun _ _ _ => False :=
  ⟨(a, ns), fun _ => True, rfl, hl, ⟨H, fun _ => none, ⟨fun _ _ e => e, fun _ _ e => (nomatch e), fun _ _ _ _ e => (nomatch e)⟩, hs, ⟨fun _ => none, fun _ => none, ⟨fun _ _ e => (nomatch e), fun _ _ e => (nomatch e), fun _ _ _ e => (nomatch e)⟩, trivial, trivial⟩⟩,
    fun _ _ _ _ => rfl, fun _ _ _ h => h.elim⟩
end AL

/-! enumerate of a text, from one on. -/
namespace EnS
open PySem
open Sem (wp)
open AutoSeq1 (wpAny_loadPart')
theorem tc (a b : Value) : checkTypeCall "enumerate" ⟨[a], [("start", b)]⟩ = pure () := by kernel_rfl
theorem nc (a b : Value) : checkBuiltinCall "enumerate.__new__" ⟨[.type "enumerate", a], [("start", b)]⟩ = pure () := by kernel_rfl
theorem ic (a b c : Value) : argsOk "object.__init__" ⟨[a, b], [("start", c)]⟩ := by
  first | exact F.args_object_init_2 _ _ | kernel_rfl
theorem init_kw {T newId : String} {self : Value} {rest : List Value} {kw : List (Str × Value)} (hl : typeLookup (.type T) "__init__" = pure (some (.builtin "object.__init__")))
    (hm : Bind.madeBy (.type T) = pure (some newId)) (hne : (some newId != some "object.__new__") = true) :
    Meets (Builtin.«object.__init__» ⟨self :: rest, kw⟩) (fun _ R s => s.TypeIs self T ∧ R (.ok (.ret .none)) s) := by
  refine Meets.of_wp fun prog w A R s hs => ?_
  obtain ⟨hT, hq⟩ := hs
  cases rest with
  | nil => cases kw with
    | nil => exact wpAny_pure ⟨_, rfl, hq⟩
    | cons k ks =>
      repeat (any_goals (first | assumption | wp_step))
      exact ⟨_, rfl, hq⟩
  | cons a rest =>
    repeat (any_goals (first | assumption | wp_step))
    exact ⟨_, rfl, hq⟩
section
variable {prog : Program} {w : World} {A : Around} {E : Value → Shared → Prop} {s : Shared}
theorem call_kw {T newId : String} {Bn : Builtin} {args : List Value} {kw : List (Str × Value)} {S : Spec} {Q : Value → Shared → Prop} (ft : TypeCalled T newId "object.__init__")
    (hne : (some newId != some "object.__new__") = true) (hct : checkTypeCall T ⟨args, kw⟩ = pure ()) (hcn : checkBuiltinCall newId ⟨.type T :: args, kw⟩ = pure ())
    (hok : ∀ obj, argsOk "object.__init__" ⟨obj :: args, kw⟩) (entryN : entryFor table newId = some Bn) (g : Meets (Bn ⟨.type T :: args, kw⟩) S)
    (h : S A.in1 (wants (fun obj s₁ => s₁.TypeIs obj T ∧ Q obj s₁) E) s) : wpAny (model prog w) A (call (.type T) args kw) Q E s := by
  obtain ⟨c, tl, hmro⟩ := ft.mro
  have made := ft.made
  have sub := ft.sub
  refine wpAny_call (codeAny_of_tree ?_)
  show wpAny _ _ (callAny (.type T) _) _ _ _
  refine wpAny_pure ⟨Code.quiet_builtin _ (by decide +kernel), codeAny_builtin F.entry_type_call ?_⟩
  rw [Around.under_plain (weight_type_call_type T args kw) (units_type_call_type T args kw)]
  have n1 := ft.notType
  have n2 := ft.canCreate
  repeat (any_goals (first | assumption | wp_step))
  refine codeAny_mono (codeAny_call_builtin ft.plain entryN (wpAny_of_eq hcn (g prog w A.in1 _ s h))) fun r s₁ hr => ?_
  cases r with
  | error e => exact hr
  | ok fl => cases fl with
    | ret obj =>
      obtain ⟨hT, hq⟩ := hr
      have li := ft.init.lookup
      have bi := ft.init.bind obj
      repeat (any_goals (first | assumption | wp_step))
      refine codeAny_mono (codeAny_call_builtin ft.init.plain F.entry_object_init (ft.init.check _ _ _ _ _ _ _ _ hT (hok obj) (init_kw ft.init.lookup ft.made hne prog w A.in1 _ s₁ ⟨hT, show wants (fun r s₂ => r = .none ∧ Q obj s₂) E (.ok (.ret .none)) s₁ from ⟨rfl, hq⟩⟩))) fun r₂ s₂ hr₂ => ?_
      cases r₂ with
      | error e => exact hr₂
      | ok fl₂ => cases fl₂ with
        | ret r =>
          obtain ⟨rfl, hq⟩ := hr₂
          repeat (any_goals (first | assumption | wp_step))
        | _ => exact hr₂.elim
    | _ => exact hr.elim
end
theorem meets_1 (x : Str) (t u : Tok) :
    Meets (Builtin.«enumerate.__new__» ⟨[.type "enumerate", .str x t], [("start", .int 1 u)]⟩) (fun _ R s =>
      R (.ok (.ret (.ref (s.heap.push { cls := .type (strIterType x), data := .fields #[.str x t, .int 0 0] }).objs.size)))
        { s with heap := (s.heap.push { cls := .type (strIterType x), data := .fields #[.str x t, .int 0 0] }).push { cls := .type "enumerate", data := .fields #[.none, .bool false, .ref s.heap.objs.size, rawInt 1, .none, .none] } }) :=
  .of_wp fun prog w A R s h => by
    obtain ⟨hp, g, d, tk, os⟩ := s
    have hsub := sub_enumerate
    wp_walk
    refine wpAny_stack_any fun st => wpAny_pure ?_
    split
    · rename_i c _ _ _ _ _
      cases (c == Value.type "enumerate")
      · wp_walk using wpAny_pyIter_strU
        exact ⟨_, rfl, h⟩
      · wp_walk using wpAny_pyIter_strU
        exact ⟨_, rfl, h⟩
    · wp_walk using wpAny_pyIter_strU
      exact ⟨_, rfl, h⟩

section
variable {prog : Program} {w : World} {A : Around} {E : Value → Shared → Prop} {s : Shared}
theorem call_1 {x : Str} {t u : Tok} {Q : Value → Shared → Prop}
    (h : ∀ h', IsEnum h' (s.heap.objs.size + 1) s.heap.objs.size 1 .none → h'.IsStrIter s.heap.objs.size (strIterType x) x t 0 →
      (∀ b o, s.heap.get? b = some o → h'.get? b = some o) → Q (.ref (s.heap.objs.size + 1)) { s with heap := h' }) :
    wpAny (model prog w) A (call (.type "enumerate") [.str x t] [("start", .int 1 u)]) Q E s := by
  refine call_kw F.called_enumerate (by decide) (tc _ _) (nc _ _) (fun obj => ic obj _ _) F.entry_enumerate_new (meets_1 x t u) ?_
  have hz : (s.heap.push { cls := .type (strIterType x), data := .fields #[.str x t, .int 0 0] }).objs.size = s.heap.objs.size + 1 := Heap.size_push ..
  show _ ∧ _
  rw [hz]
  generalize e1 : s.heap.push { cls := .type (strIterType x), data := .fields #[.str x t, .int 0 0] } = g1 at hz
  have q1 : g1.get? s.heap.objs.size = some { cls := .type (strIterType x), data := .fields #[.str x t, .int 0 0] } := by rw [← e1]; exact Heap.get?_push_size _ rfl
  have k1 : ∀ b o, s.heap.get? b = some o → g1.get? b = some o := fun b o y => by rw [← e1]; exact Heap.get?_push_of_some _ y
  have q2 : IsEnum (g1.push { cls := .type "enumerate", data := .fields #[.none, .bool false, .ref s.heap.objs.size, rawInt 1, .none, .none] }) (s.heap.objs.size + 1) s.heap.objs.size 1 .none := by
    have z := Heap.get?_push_size g1 (o := { cls := .type "enumerate", data := .fields #[.none, .bool false, .ref s.heap.objs.size, rawInt 1, .none, .none] }) rfl
    rw [hz] at z
    exact z
  exact ⟨⟨_, q2, rfl⟩, h _ q2 ⟨_, Heap.get?_push_of_some _ q1, rfl, rfl⟩ fun b o y => Heap.get?_push_of_some _ (k1 b o y)⟩
end
/-- the same draws, counted from one -/
theorem later {prog : Program} {w : World} {A : Around} {it : Addr} {fp : List Addr} {n : Nat} {P : Nat → Value → Prop} {St : Nat → Heap → Prop} (D : Draws prog w A it fp n P St) :
    Draws prog w A it fp (n + 1) (fun i v => ∃ j, i = j + 1 ∧ P j v) (fun i h => ∃ j, i = j + 1 ∧ St j h) where
  live := fun i h ⟨j, _, st⟩ => D.live j h st
  frame := fun i h h' ⟨j, e, st⟩ k => ⟨j, e, D.frame j h h' st k⟩
  item := fun i s Q E hi ⟨j, e, st⟩ hQ => D.item j s Q E (by omega) st fun x h' tk p st' sb => hQ x h' tk ⟨j, e, p⟩ ⟨j + 1, by omega, st'⟩ sb
  done := fun s Q E ⟨j, e, st⟩ hE => by
    obtain rfl : n = j := by omega
    exact D.done s Q E st hE
end EnS

namespace AL
open PySem PySem.Spec PyProof.Rows L2
theorem draws_str {P : Program} {w : World} {A : Around} (hh : A.handled = none) (it : Addr) (x : Str) (t : Tok) :
    Draws P w A it [it] x.cps.size (fun i v => ∃ c u, x.cps[i]? = some c ∧ v = .str ⟨#[c]⟩ u) (fun i h => h.IsStrIter it (strIterType x) x t i) := by
  unfold strIterType
  split
  · exact Draws.strAscii hh it x t
  · exact Draws.strWide hh it x t
/-- a text's signs, each in a new pair behind its place from one on -/
def Ites (x : Str) : It :=
  ⟨fun i _ => i < x.cps.size, fun i H v H' => ∃ T c, v = .ref T ∧ H T = none ∧ x.cps[i]? = some c ∧ H' = upd H T (.tup [.int ((i : Nat) + 1), .str ⟨#[c]⟩]), fun i _ => i = x.cps.size⟩
theorem turn_es {P : Program} {w : World} {K : PySem.W.Frag} {elts : List Expr} {kk : Nat} {tpos : Pos} (x : Str) (t : Tok) (e it : Addr) :
    Turn P w K (.Tuple elts kk tpos) (Ites x) [e, it] e (fun i h => (∃ old, IsEnum h e it ((i + 1 : Nat) : Int) old) ∧ h.IsStrIter it (strIterType x) x t i ∧ e ≠ it) where
  mem := by simp
  obj := by
    intro i h st b hb
    obtain ⟨⟨old, he⟩, ⟨o, ho, hc, hd⟩, _⟩ := st
    rcases (show b = e ∨ b = it by simpa using hb) with z | z
    · rw [z]; exact ⟨_, he, fun v q => by cases q⟩
    · rw [z]; exact ⟨o, ho, fun v q => by rw [hd] at q; cases q⟩
  keep := by
    intro i h h' st k
    obtain ⟨⟨old, he⟩, ⟨o, ho, r⟩, hne⟩ := st
    exact ⟨⟨old, k e (by simp) _ he⟩, ⟨o, k it (by simp) o ho, r⟩, hne⟩
  item := by
    intro X hP hw hK hc i pins s σ H E I hf st hg
    obtain ⟨⟨old, he⟩, hit, hne⟩ := st
    subst hP hw hK
    have hel : e < s.heap.objs.size := Heap.lt_size he
    have hil : it < s.heap.objs.size := by obtain ⟨_, q, _⟩ := hit; exact Heap.lt_size q
    have D := EnS.later (draws_str (P := X.prog) (w := X.w) (A := X.A.in1) (I.ok.hd hc) it x t)
    refine wpAny_pyNext_enum_itemD (i := i + 1) D he ⟨i, rfl, hit⟩ (Nat.succ_lt_succ hg) hne (fun z => hne (List.mem_singleton.mp z)) ?_
    intro u h' tk hu ho hi hT hsz hk
    obtain ⟨j, ej, c, u', hcx, eu⟩ := hu
    obtain ⟨j', ej', hit'⟩ := hi
    obtain rfl : i = j := by omega
    obtain rfl : j' = i + 1 := by omega
    subst eu
    refine ⟨_, rfl, wpAny_letOwnedTupleGo_enum (s := { s with heap := h', toks := tk + 1 }) ho ?_⟩
    intro h'' he' sb
    have hT2 := (sb.2 _ (Nat.ne_of_gt hel)).trans hT
    have new : ObjOk X.prog X.w (upd H s.heap.objs.size (.tup [.int ((i : Nat) + 1), .str ⟨#[c]⟩])) h'' s.heap.objs.size (.tup [.int ((i : Nat) + 1), .str ⟨#[c]⟩]) :=
      ⟨by show 2 ≤ sizeLine; decide, [.int ((i + 1 : Nat) : Int) tk, .str ⟨#[c]⟩ u'], .cons ⟨_, by rw [Int.natCast_add]; rfl⟩ (.cons ⟨_, rfl⟩ .nil), ⟨_, hT2, rfl, _, rfl⟩⟩
    have I1 := I.turnedNew (h' := h'') (t' := tk + 1) (ch := [e, it]) (fun b ob hb q => (sb.2 b (fun z => hb (by simp [z]))).trans (hk b ob (fun z => hb (by simp [z])) (fun z => hb (by simp [z])) q)) hf (Nat.le_refl _) new
    refine ⟨.ref s.heap.objs.size, _, I1, rfl, ⟨_, c, rfl, I.hok.fresh (Nat.le_refl _), hcx, rfl⟩, ⟨⟨.str ⟨#[c]⟩ u', ?_⟩, ?_, hne⟩, ?_⟩
    · have e1 : (((i + 1) + 1 : Nat) : Int) = ((i + 1 : Nat) : Int) + 1 := by omega
      rw [e1]; exact he'
    · obtain ⟨o, q, r⟩ := hit'
      exact ⟨o, (sb.2 it (Ne.symm hne)).trans q, r⟩
    · intro b hb
      have hb' : b < s.heap.objs.size := by
        rcases (show b = e ∨ b = it by simpa using hb) with z | z <;> (rw [z]; assumption)
      rw [upd_ne (Nat.ne_of_lt hb')]
      exact (hf b hb).1
  done := by
    intro X hP hw hK hc i pins s σ H E I hf st hg
    obtain ⟨⟨old, he⟩, hit, hne⟩ := st
    subst hP hw hK
    obtain ⟨f0, f1, f2, f3, f4, f5⟩ := hf it (by simp)
    obtain rfl : i = x.cps.size := hg
    exact wpAny_pyNext_enum_endD (draws_str (P := X.prog) (w := X.w) (A := X.A.in1) (I.ok.hd hc) it x t) he hit fun h' eb => ⟨rfl, I.turned (t' := s.toks) (fun b o hb q => eb b o hb q) f0 f1 f3 f4 f5⟩
  self := by
    intro A i s Q E st h
    obtain ⟨⟨_, he⟩, _⟩ := st
    exact wpAny_pyIter_enum he h
theorem callTypeKw {M : Model} {A : Around} {E : Value → Shared → Prop} {s : Shared} {env : Env} {pos : Pos} {T : String} {e : Expr} {name : Str} {value : Expr} {kp : Pos} {Q : Value → Shared → Prop}
    (h : wpAny M A (spliced (backTo pos (starEach [e] env))) (fun vs s1 => wpAny M A (eval value env) (fun c s2 => wpAny M A (call (.type T) vs [(name, c)]) Q E s2) E s1) E s)
    (he : starEach [e] env = [(false, eval e env)]) :
    wpAny M A (callWith pos (.type T) [] (backTo pos (starEach [e] env)) (backToKw pos (keywordEach [⟨some name, value, kp⟩] env))) Q E s := by
  rw [he] at h ⊢
  unfold callWith
  have ev : wpAny M A (evalArgs (.type T) true (backTo pos [(false, eval e env)]) (backToKw pos (keywordEach [⟨some name, value, kp⟩] env))) (fun a s₁ => wpAny M A (call (.type T) ([] ++ a.pos) a.kw) Q E s₁) E s := by
    refine evalArgs_kwB rfl ?_
    refine wpAny_mono h (fun vs s1 h1 => ?_) fun _ _ z => z
    exact kws_cons (wpAny_mono h1 (fun c s2 h2 => kws_nil h2) fun _ _ z => z)
  refine wpAny_bind (wpAny_holding (wpAny_mono ev (fun a s₁ h₁ => wpAny_bind (wpAny_standAt ?_)) fun _ _ x => x))
  refine wpAny_bind (wpAny_pure ?_)
  exact wpAny_bind (wpAny_mono h₁ (fun r s₂ hr => wpAny_bind (wpAny_holding (wpAny_point (wpAny_pure hr)))) fun _ _ x => x)
def iEnumS (ta : TA) : TI := fun σ H R => ta σ H fun vs H1 => ∃ x, vs = [.str x] ∧ R (Ites x) H1
theorem pi_enumS {X : Cx} {e : Expr} {ta : TA} {p kp cp pos tpos : Pos} {elts : List Expr} {kk : Nat} {j} (hg : Gl X "enumerate") (hm : X.mg "enumerate" = none) (ha : PA X [e] ta) (hs : starEach [e] X.env = [(false, eval e X.env)] := by rfl) :
    PI X (.Tuple elts kk tpos) (.Call (.Name "enumerate" p) [e] [⟨some "start", .Constant (.int 1) j cp, kp⟩] pos) (iEnumS ta) := by
  refine ⟨fun pins s σ H R I h => ?_⟩
  refine wpAny_Call_Name_kw (ld_blt I hg hm boot_enumerate (callTypeKw (thn (ha.run pos pins s σ H _ I h) fun us s1 ⟨vs, H1, I1, r1, x, ex, q⟩ => ?_) hs))
  subst ex
  cases r1 with
  | cons r rr =>
    cases rr
    obtain ⟨t, rfl⟩ := r
    refine wpAny_Constant_int ?_
    refine EnS.call_1 fun h' he hit hk => wpAny_pyIter_enum he ?_
    have I2 : Inv X pins σ H1 { s1 with heap := h', toks := s1.toks + 1 } := I1.kept (t' := s1.toks + 1) hk
    refine ⟨s1.heap.objs.size + 1, [s1.heap.objs.size + 1, s1.heap.objs.size], _, _, H1, rfl, I2, turn_es x t (s1.heap.objs.size + 1) s1.heap.objs.size, ⟨⟨.none, he⟩, hit, Nat.succ_ne_self _⟩, fun b hb => ?_, q⟩
    have hle : s1.heap.objs.size ≤ b := by
      rcases (show b = s1.heap.objs.size + 1 ∨ b = s1.heap.objs.size by simpa using hb) with z | z
      · rw [z]; exact Nat.le_add_right _ _
      · rw [z]; exact Nat.le_refl _
    exact I1.fpOk hle (I1.hok.fresh hle)
end AL

/-! What a loop walks, and comprehensions, over a ledger. -/
namespace AL
open PySem PySem.Spec PyProof.Rows L2

/-! ### a loop over any kind of thing -/
def IterK (K : PySem.W.Frag) (R : It → Hp → Prop) : VK := fun x H => (∃ a xs, x = .ref a ∧ SqL K H a xs ∧ R (Itl K a) H) ∨ (∃ a xs, x = .ref a ∧ SqT K H a xs ∧ R (Itt K a) H) ∨ ∃ z, x = .str z ∧ R (Its z) H
def iAny (K : PySem.W.Frag) (te : TE) : TI := fun σ H R => te σ H (IterK K R)
theorem pi_any {X : Cx} {tg e : Expr} {te : TE} (he : PE X e te) : PI X tg e (iAny X.K te) := by
  refine ⟨fun pins s σ H R I h => ?_⟩
  refine thn (he.run pins s σ H _ I h) fun v s1 ⟨x, H1, I1, r1, q1⟩ => ?_
  rcases q1 with ⟨a, xs, e, hq, q⟩ | ⟨a, xs, e, hq, q⟩ | ⟨z, e, q⟩
  · subst e
    cases r1
    obtain ⟨its, rv, p, hz⟩ := I1.list hq
    exact wpAny_pyIter_list p.isList (pi_one (tk := s1.toks) I1 _ (turn_list a _) ⟨_, Heap.get?_push_size _ rfl, rfl, rfl⟩ q)
  · subst e
    cases r1
    obtain ⟨its, rv, p, hz⟩ := I1.tuple hq
    exact wpAny_pyIter_tuple (show s1.heap.IsTuple a its.toArray from p) (pi_one (tk := s1.toks) I1 _ (turn_tuple a _) ⟨_, Heap.get?_push_size _ rfl, rfl, rfl⟩ q)
  · subst e
    obtain ⟨t, rfl⟩ := r1
    cases ha : z.cps.all (· < 128)
    · exact wpAny_pyIter_wide ha (pi_one (tk := s1.toks) I1 _ (turn_str _ z t "str_iterator" (.inr rfl)) ⟨_, Heap.get?_push_size _ rfl, rfl, rfl⟩ q)
    · exact wpAny_pyIter_ascii ha (pi_one (tk := s1.toks) I1 _ (turn_str _ z t "str_ascii_iterator" (.inl rfl)) ⟨_, Heap.get?_push_size _ rfl, rfl, rfl⟩ q)
section
variable {L L0 : List Asn} {σ σ' : L2.St} {K : PySem.W.Frag} {R : It → Hp → Prop} {te : TE} {t : TA} {a b : Addr} {xs ys : List V}
theorem a_iAny (k : Al L (fun H => te σ H (IterK K R))) : Al L (fun H => iAny K te σ H R) := k
theorem a_itL (h : Ldg L K a xs) (k : Al L (R (Itl K a))) : Al L (IterK K R (.ref a)) := fun H s => .inl ⟨a, xs, rfl, h.q H s, k H s⟩
theorem a_itT (h : LdgT L K a xs) (k : Al L (R (Itt K a))) : Al L (IterK K R (.ref a)) := fun H s => .inr (.inl ⟨a, xs, rfl, h.q H s, k H s⟩)
theorem a_itS {z : Str} (k : Al L (R (Its z))) : Al L (IterK K R (.str z)) := fun H s => .inr (.inr ⟨z, rfl, k H s⟩)
def Rng1K (R : It → Hp → Prop) : List V → Hp → Prop := fun vs H1 => ∃ j : Int, vs = [.int j] ∧ -(2 ^ 62) ≤ j ∧ j < 2 ^ 62 ∧ R (Itr 0 j.toNat) H1
theorem a_r1 (k : Al L (fun H => t σ H (Rng1K R))) : Al L (fun H => iRng1 t σ H R) := k
theorem a_r1K {j : Int} (h : -(2 ^ 62) ≤ j ∧ j < 2 ^ 62) (k : Al L (R (Itr 0 j.toNat))) : Al L (Rng1K R [.int j]) := fun H s => ⟨j, rfl, h.1, h.2, k H s⟩
def Rng2K (R : It → Hp → Prop) : List V → Hp → Prop := fun vs H1 => ∃ i j : Int, vs = [.int i, .int j] ∧ (-(2 ^ 62) ≤ i ∧ i < 2 ^ 62 ∧ -(2 ^ 62) ≤ j ∧ j < 2 ^ 62) ∧ R (Itr i (j - i).toNat) H1
theorem a_r2 (k : Al L (fun H => t σ H (Rng2K R))) : Al L (fun H => iRng2 t σ H R) := k
theorem a_r2K {i j : Int} (h : -(2 ^ 62) ≤ i ∧ i < 2 ^ 62 ∧ -(2 ^ 62) ≤ j ∧ j < 2 ^ 62) (k : Al L (R (Itr i (j - i).toNat))) : Al L (Rng2K R [.int i, .int j]) := fun H s => ⟨i, j, rfl, h, k H s⟩
def Rng3K (R : It → Hp → Prop) : List V → Hp → Prop := fun vs H1 => ∃ (i j c : Int) (n : Nat), vs = [.int i, .int j, .int c] ∧ RgC i j c n ∧ R (Itc i c n) H1
theorem a_r3 (k : Al L (fun H => t σ H (Rng3K R))) : Al L (fun H => iRng3 t σ H R) := k
theorem a_r3K {i j c : Int} (n : Nat) (h : RgC i j c n) (k : Al L (R (Itc i c n))) : Al L (Rng3K R [.int i, .int j, .int c]) := fun H s => ⟨i, j, c, n, rfl, h, k H s⟩
def EnumSK (R : It → Hp → Prop) : List V → Hp → Prop := fun vs H1 => ∃ x, vs = [.str x] ∧ R (Ites x) H1
theorem a_enS (k : Al L (fun H => t σ H (EnumSK R))) : Al L (fun H => iEnumS t σ H R) := k
theorem a_enSK {x : Str} (k : Al L (R (Ites x))) : Al L (EnumSK R [.str x]) := fun H s => ⟨x, rfl, k H s⟩
def EnumK (K : PySem.W.Frag) (R : It → Hp → Prop) : List V → Hp → Prop := fun vs H1 => ∃ a xs, vs = [.ref a] ∧ SqL K H1 a xs ∧ R (Ite K a) H1
theorem a_en (k : Al L (fun H => t σ H (EnumK K R))) : Al L (fun H => iEnum K t σ H R) := k
theorem a_enK (h : Ldg L K a xs) (k : Al L (R (Ite K a))) : Al L (EnumK K R [.ref a]) := fun H s => ⟨a, xs, rfl, h.q H s, k H s⟩
end

/-! ### comprehensions -/
/-- the names of a comprehension are none of the frame's -/
inductive Wp (σ : L2.St) : List Nat → L2.St → Prop where
  | nil : Wp σ [] σ
  | cons {v : Nat} {vs : List Nat} {σ1 σ2 : L2.St} : Wp σ vs σ1 → SetAt σ1 v none σ2 → Wp σ (v :: vs) σ2
theorem Wp.eq {σ σ' : L2.St} {vs : List Nat} (h : Wp σ vs σ') : wipe σ vs = σ' := by
  induction h with
  | nil => rfl
  | cons _ hs ih => rw [L2.wipe, ih]; exact hs.eq
/-- acc stands at D, and I holds ahead of turn i -/
def LcN (I : Nat → List V → List Asn → Prop) (i : Nat) (D : Addr) : Hp → Prop := fun H => ∃ acc M, I i acc M ∧ Star (pt D (.lst acc) :: M) H
def LcA (D : Addr) (N : Hp → Prop) : VK := fun y H4 => ∃ acc, H4 D = some (.lst acc) ∧ acc.length < sizeLine ∧ N (upd H4 D (.lst (acc ++ [y])))
def LcB (tt : TT) (te : TE) (D : Addr) (N : Hp → Prop) (vs : List Nat) (σ : L2.St) : L2.St → Hp → Prop := fun σ2 H2 => wipe σ2 vs = wipe σ vs ∧ tt σ2 H2 (IfK (fun H3 => te σ2 H3 (LcA D N)) N)
section
variable {L L0 : List Asn} {σ σ' : L2.St} {K : PySem.W.Frag} {tt : TT} {te : TE} {vs : List Nat} {Q : VK} {J : It} {g : TG} {D : Addr} {acc : List V} {y : V} {I : Nat → List V → List Asn → Prop} {i : Nat} {M : List Asn} {N : Hp → Prop}
theorem a_lc {wi : TI} (k : Al L (fun H => wi σ H fun J H1 => LcW J g tt te vs σ Q H1)) : Al L (fun H => tLc wi g tt te vs σ H Q) := k
theorem a_yes {QB : Bool → Hp → Prop} (k : Al L (QB true)) : Al L (fun H => tYes σ H QB) := k
theorem a_lcB (e : wipe σ' vs = wipe σ vs) (k : Al L (fun H => tt σ' H (IfK (fun H3 => te σ' H3 (LcA D N)) N))) : Al L (LcB tt te D N vs σ σ') := fun H s => ⟨e, k H s⟩
theorem a_lcA (r : Rem L (pt D (.lst acc)) L0) (hz : acc.length < sizeLine) (h : I i (acc ++ [y]) M) (e : Ent L0 M) : Al L (LcA D (LcN I i D) y) := fun H s =>
  ⟨acc, (r.ok s).at, hz, acc ++ [y], M, h, ((r.ok s).set _ id).tail fun H t => e H t⟩
theorem a_lcN (r : Rem L (pt D (.lst acc)) L0) (h : I i acc M) (e : Ent L0 M) : Al L (LcN I i D) := fun H s => ⟨acc, M, h, (r.ok s).tail fun H t => e H t⟩
theorem a_lcG (n : Nat) (I : Nat → List V → List Asn → Prop) (h0 : ∃ M, I 0 [] M ∧ Ent L M)
    (hgo : ∀ i acc M, i < n → I i acc M → ∀ H, Star M H → J.go i H) (hst : ∀ acc M, I n acc M → ∀ H, Star M H → J.stop n H)
    (hs : ∀ i acc M D, i < n → I i acc M → ∀ H, Star (pt D (.lst acc) :: M) H → ∀ x H', J.yld i H x H' → g x (wipe σ vs) H' (LcB tt te D (LcN I (i + 1) D) vs σ))
    (hd : ∀ acc M D, I n acc M → Al (pt D (.lst acc) :: M) (Q (.ref D))) : Al L (LcW J g tt te vs σ Q) := by
  intro H s D hD
  obtain ⟨M0, i0, e0⟩ := h0
  refine ⟨fun i m H => m = n - i ∧ i ≤ n ∧ LcN I i D H, ⟨n, by simp, Nat.zero_le _, [], M0, i0, (s.new hD).tail fun H t => e0 H t⟩, ?_⟩
  rintro i m H ⟨rfl, hi, acc, M, hI, hM⟩
  by_cases hlt : i < n
  · refine .inr ⟨hgo i acc M hlt hI H hM.drop, LcN I (i + 1) D, fun H' h' => ⟨n - (i + 1), by omega, rfl, hlt, h'⟩, fun x H' y => ?_⟩
    exact hs i acc M D hlt hI H hM x H' y
  · have e : i = n := by omega
    subst e
    exact .inl ⟨hst acc M hI H hM.drop, hd acc M D hI H hM⟩
theorem a_lcR {lo : Int} {n : Nat} {σw : L2.St} (hw : Wp σ vs σw) (I : Nat → List V → List Asn → Prop) (h0 : ∃ M, I 0 [] M ∧ Ent L M)
    (hs : ∀ i acc M D, i < n → I i acc M → Al (pt D (.lst acc) :: M) (fun H => g (.int (lo + i)) σw H (LcB tt te D (LcN I (i + 1) D) vs σ)))
    (hd : ∀ acc M D, I n acc M → Al (pt D (.lst acc) :: M) (Q (.ref D))) : Al L (LcW (Itr lo n) g tt te vs σ Q) :=
  a_lcG n I h0 (fun i _ _ h _ _ _ => h) (fun _ _ _ _ _ => Nat.le_refl n) (fun i acc M D h hI H s x H' y => by
    obtain ⟨rfl, rfl⟩ := y
    rw [hw.eq]
    exact hs i acc M D h hI H' s) hd
theorem a_lcC {lo c : Int} {n : Nat} {σw : L2.St} (hw : Wp σ vs σw) (I : Nat → List V → List Asn → Prop) (h0 : ∃ M, I 0 [] M ∧ Ent L M)
    (hs : ∀ i acc M D, i < n → I i acc M → Al (pt D (.lst acc) :: M) (fun H => g (.int (lo + (i : Nat) * c)) σw H (LcB tt te D (LcN I (i + 1) D) vs σ)))
    (hd : ∀ acc M D, I n acc M → Al (pt D (.lst acc) :: M) (Q (.ref D))) : Al L (LcW (Itc lo c n) g tt te vs σ Q) :=
  a_lcG n I h0 (fun i _ _ h _ _ _ => h) (fun _ _ _ _ _ => Nat.le_refl n) (fun i acc M D h hI H s x H' y => by
    obtain ⟨rfl, rfl⟩ := y
    rw [hw.eq]
    exact hs i acc M D h hI H' s) hd
theorem a_lcL {a : Addr} {xs : List V} {σw : L2.St} (hw : Wp σ vs σw) (I : Nat → List V → List Asn → Prop) (h0 : ∃ M, I 0 [] M ∧ Ent L M) (hl : ∀ i acc M, I i acc M → Ldg M K a xs)
    (hs : ∀ i x acc M D, xs[i]? = some x → I i acc M → Al (pt D (.lst acc) :: M) (fun H => g x σw H (LcB tt te D (LcN I (i + 1) D) vs σ)))
    (hd : ∀ acc M D, I xs.length acc M → Al (pt D (.lst acc) :: M) (Q (.ref D))) : Al L (LcW (Itl K a) g tt te vs σ Q) :=
  a_lcG xs.length I h0 (fun i acc M h hI H s => ⟨xs, xs[i], (hl i acc M hI).q H s, by simp [h]⟩) (fun acc M hI H s => ⟨xs, (hl _ acc M hI).q H s, Nat.le_refl _⟩) (fun i acc M D h hI H s x H' y => by
    obtain ⟨rfl, y⟩ := y
    rw [hw.eq]
    exact hs i x acc M D (y xs ((hl i acc M hI).q _ s.drop)) hI H' s) hd
theorem a_lcT {a : Addr} {xs : List V} {σw : L2.St} (hw : Wp σ vs σw) (I : Nat → List V → List Asn → Prop) (h0 : ∃ M, I 0 [] M ∧ Ent L M) (hl : ∀ i acc M, I i acc M → LdgT M K a xs)
    (hs : ∀ i x acc M D, xs[i]? = some x → I i acc M → Al (pt D (.lst acc) :: M) (fun H => g x σw H (LcB tt te D (LcN I (i + 1) D) vs σ)))
    (hd : ∀ acc M D, I xs.length acc M → Al (pt D (.lst acc) :: M) (Q (.ref D))) : Al L (LcW (Itt K a) g tt te vs σ Q) :=
  a_lcG xs.length I h0 (fun i acc M h hI H s => ⟨xs, xs[i], (hl i acc M hI).q H s, by simp [h]⟩) (fun acc M hI H s => ⟨xs, (hl _ acc M hI).q H s, Nat.le_refl _⟩) (fun i acc M D h hI H s x H' y => by
    obtain ⟨rfl, y⟩ := y
    rw [hw.eq]
    exact hs i x acc M D (y xs ((hl i acc M hI).q _ s.drop)) hI H' s) hd
theorem a_lcS {z : Str} {σw : L2.St} (hw : Wp σ vs σw) (I : Nat → List V → List Asn → Prop) (h0 : ∃ M, I 0 [] M ∧ Ent L M)
    (hs : ∀ i c acc M D, z.cps[i]? = some c → I i acc M → Al (pt D (.lst acc) :: M) (fun H => g (.str ⟨#[c]⟩) σw H (LcB tt te D (LcN I (i + 1) D) vs σ)))
    (hd : ∀ acc M D, I z.cps.size acc M → Al (pt D (.lst acc) :: M) (Q (.ref D))) : Al L (LcW (Its z) g tt te vs σ Q) :=
  a_lcG z.cps.size I h0 (fun i _ _ h _ _ _ => h) (fun _ _ _ _ _ => Nat.le_refl _) (fun i acc M D h hI H s x H' y => by
    obtain ⟨rfl, c, e, rfl⟩ := y
    rw [hw.eq]
    exact hs i c acc M D e hI H' s) hd
theorem a_lcE {z : Str} {σw : L2.St} (hw : Wp σ vs σw) (I : Nat → List V → List Asn → Prop) (h0 : ∃ M, I 0 [] M ∧ Ent L M)
    (hs : ∀ i c acc M D T, z.cps[i]? = some c → I i acc M → Al (pt T (.tup [.int ((i : Nat) + 1), .str ⟨#[c]⟩]) :: pt D (.lst acc) :: M) (fun H => g (.ref T) σw H (LcB tt te D (LcN I (i + 1) D) vs σ)))
    (hd : ∀ acc M D, I z.cps.size acc M → Al (pt D (.lst acc) :: M) (Q (.ref D))) : Al L (LcW (Ites z) g tt te vs σ Q) :=
  a_lcG z.cps.size I h0 (fun i _ _ h _ _ _ => h) (fun _ _ _ _ _ => rfl) (fun i acc M D h hI H s x H' y => by
    obtain ⟨T, c, rfl, hT, e, rfl⟩ := y
    rw [hw.eq]
    exact hs i c acc M D T e hI _ (s.new hT)) hd
/-- every item by its place, nothing else touched -/
def Pure (f : Nat → V) (M0 : List Asn) : Nat → List V → List Asn → Prop := fun i acc M => acc = (List.range i).map f ∧ M = M0
theorem pure_next {f : Nat → V} {i : Nat} {M0 : List Asn} {y : V} (e : y = f i) : Pure f M0 (i + 1) ((List.range i).map f ++ [y]) M0 := ⟨by rw [List.range_succ, List.map_append, e]; rfl, rfl⟩
theorem a_lcP {f : Nat → V} (r : Rem L (pt D (.lst ((List.range i).map f))) L0) (hz : i < sizeLine) (hy : y = f i) (e : Ent L0 M) : Al L (LcA D (LcN (Pure f M) (i + 1) D) y) :=
  a_lcA r (by rw [List.length_map, List.length_range]; exact hz) (pure_next hy) e
end
end AL

/-! The rules once more, the fragment named (a comprehension's reading may not speak of its frame). -/
namespace AL
open PySem PySem.Spec PyProof.Rows L2 RT RZ
def kTup (K : PySem.W.Frag) : List V → Hp → VK → Prop := fun xs H Q => ∃ p ys, xs = [.ref p] ∧ ((SqL K H p ys ∧ NewK (.tup ys) Q H) ∨ (SqT K H p ys ∧ Q (.ref p) H))
section
variable {X : Cx} {K : PySem.W.Frag} {tg : Expr} {pos p2 : Pos}
theorem q_add (h : X.K = K) : OpR X (binaryOp .Add) (bAdd K) := h ▸ o_add
theorem q_eq (h : X.K = K) (hu : X.A.units + 64 < cLine) : OpR X (compareOp .Eq) (cEq K) := h ▸ o_eq hu
theorem q_ne (h : X.K = K) (hu : X.A.units + 64 < cLine) : OpR X (compareOp .NotEq) (cNe K) := h ▸ o_ne hu
theorem q_in (h : X.K = K) (hu : X.A.units + 65 < cLine) : OpR X (compareOp .In) (cIn K) := h ▸ o_in hu
theorem q_notin (h : X.K = K) (hu : X.A.units + 65 < cLine) : OpR X (compareOp .NotIn) (cNotIn K) := h ▸ o_notin hu
theorem q_ix (h : X.K = K) (hu : X.A.units + 1 < cLine) : IxR X (xIx K) := h ▸ o_ix hu
theorem q_sl (h : X.K = K) : SlR X (sIx K) := h ▸ o_sl
theorem q_len (h : X.K = K) : CallR X (.builtin "len") (kLen K) := h ▸ k_len
theorem q_repr (h : X.K = K) (hg : X.A.guards = some []) (hu : X.A.units + 64 < cLine) : CallR X (.builtin "repr") (kRepr K) := h ▸ k_repr hg hu
theorem q_list (h : X.K = K) (hc : X.calm = true) : CallR X (.type "list") (kList K) := h ▸ k_list hc
theorem q_tup (h : X.K = K) : CallR X (.type "tuple") (kTup K) := h ▸ call_tuple_of
theorem q_join (h : X.K = K) : MtR X "str.join" (mJoin K) := h ▸ m_join
theorem q_sum (h : X.K = K) (hc : X.calm = true) : CallR X (.builtin "sum") (rSum K) := h ▸ cr_sum hc
theorem q_all (h : X.K = K) (hc : X.calm = true) : CallR X (.builtin "all") (rAll K) := h ▸ cr_all hc
theorem q_any (h : X.K = K) (hc : X.calm = true) : CallR X (.builtin "any") (rAny K) := h ▸ cr_any hc
theorem q_fld {e : Expr} {f : Str} {ta : TE} (h : X.K = K) (he : PE X e ta) (hb : attributeBase e f X.env (eval e X.env) = eval e X.env) : PE X (.Attribute e f pos) (tFld K ta f) := h ▸ pe_fld he hb
theorem qg_tup {es : List Expr} {k : Nat} {t : TGs} {n : Nat} (e : X.K = K) (hc : X.calm = true) (h : PGs X es t)
    (hn : (assignEach es X.env).length = n := by rfl) (hst : (assignEach es X.env).findIdx? (·.1) = none := by rfl) : PG X (.Tuple es k pos) (gTup K n t) := e ▸ pg_tup hc h hn hst
theorem qi_any {e : Expr} {te : TE} (h : X.K = K) (he : PE X e te) : PI X tg e (iAny K te) := h ▸ pi_any he
theorem qi_rev {e : Expr} {te : TE} {p : Pos} (h : X.K = K) (hg : Gl X "reversed") (hm : X.mg "reversed" = none) (he : PE X e te) (hs : starEach [e] X.env = (false, eval e X.env) :: starEach [] X.env := by rfl) : PI X tg (.Call (.Name "reversed" p) [e] [] pos) (iRevA K te) := h ▸ pi_revA hg hm he hs
theorem qi_enum {e : Expr} {ta : TA} {p tpos : Pos} {elts : List Expr} {kk : Nat} (h : X.K = K) (hg : Gl X "enumerate") (hm : X.mg "enumerate" = none) (ha : PA X [e] ta) (hs : starEach [e] X.env = [(false, eval e X.env)] := by rfl) :
    PI X (.Tuple elts kk tpos) (.Call (.Name "enumerate" p) [e] [] pos) (iEnum K ta) := h ▸ pi_enum hg hm ha hs
theorem qi_zip {e e2 : Expr} {ta : TA} {p tpos : Pos} {elts : List Expr} {kk : Nat} (h : X.K = K) (hg : Gl X "zip") (hm : X.mg "zip" = none) (ha : PA X [e, e2] ta)
    (hs : starEach [e, e2] X.env = (false, eval e X.env) :: starEach [e2] X.env := by rfl) (hpl : (backTo pos (starEach [e2] X.env)).any (·.1) = false := by rfl) :
    PI X (.Tuple elts kk tpos) (.Call (.Name "zip" p) [e, e2] [] pos) (iZipA K ta) := h ▸ pi_zipA hg hm ha hs hpl
theorem q_bm0 {o : Expr} {to : TE} {name : Str} {apos cpos : Pos} {T id : String} {r : V → List V → Hp → VK → Prop} (h : X.K = K) (pa : PlainAttrs T) (slot : Slot T name id) (hty : typeOf (.builtin id) = pure (.type "method_descriptor")) (hm : MtR X id r) (ho : PE X o to)
    (hbase : attributeBase o name X.env (eval o X.env) = eval o X.env := by rfl) (hline : (apos.endLine == cpos.line) = true := by rfl) : PE X (.Call (.Attribute o name apos) [] [] cpos) (tBM0 K T r to) := h ▸ pe_bm0 pa slot hty hm ho hbase hline
theorem q_bm {o e : Expr} {es : List Expr} {to : TE} {t : TA} {name : Str} {apos cpos : Pos} {T id : String} {r : V → List V → Hp → VK → Prop} (h : X.K = K) (pa : PlainAttrs T) (slot : Slot T name id) (hty : typeOf (.builtin id) = pure (.type "method_descriptor")) (hm : MtR X id r) (ho : PE X o to) (ha : PA X (e :: es) t)
    (hbase : attributeBase o name X.env (eval o X.env) = eval o X.env := by rfl)
    (hfew : ((backTo cpos (starEach (e :: es) X.env)).all (fun x => !x.1) && (backToKw cpos (keywordEach [] X.env)).all (fun x => x.1.isSome)
      && decide ((e :: es).length + ([] : List Keyword).length + (if ([] : List Keyword).isEmpty then 0 else 1) < 30)) = true := by rfl)
    (hline : (apos.endLine == cpos.line) = true := by rfl) (hs : starEach (e :: es) X.env = (false, eval e X.env) :: starEach es X.env := by rfl) (hplain : (backTo cpos (starEach es X.env)).any (·.1) = false := by rfl) :
    PE X (.Call (.Attribute o name apos) (e :: es) [] cpos) (tBM K T r to t) := h ▸ pe_bm pa slot hty hm ho ha hbase hfew hline hs hplain
end
section
variable {L L0 : List Asn} {K : PySem.W.Frag} {Q : VK} {p : Addr} {n : Nat}
theorem a_sumP {f : Nat → Int} (r : Rem L (pt p (.lst ((List.range n).map fun i => V.int (f i)))) L0) (k : Al L (Q (.int ((List.range n).map f).sum))) : Al L (fun H => rSum K [.ref p] H Q) :=
  a_sum (ns := (List.range n).map f) (by rw [List.map_map]; exact Ldg.pt r) k
theorem a_allP {f : Nat → Bool} (r : Rem L (pt p (.lst ((List.range n).map fun i => V.bl (f i)))) L0) (k : Al L (Q (.bl (((List.range n).map f).all id)))) : Al L (fun H => rAll K [.ref p] H Q) :=
  a_all (bs := (List.range n).map f) (by rw [List.map_map]; exact Ldg.pt r) k
end
end AL

/-! What a repr is asked for: data small enough, by its parts. Lists of numbers, of texts. -/
namespace AL
open PySem PySem.Spec PyProof.Rows L2
structure Sh (k w : Nat) (d : PyData) : Prop where
  sh : d.showable = true
  nd : d.hasDict = false
  dp : d.depth ≤ k
  lv : d.leavesShort 41 = true
  wt : d.weight ≤ w
theorem Sh.non {k w : Nat} : Sh k w .none := ⟨rfl, rfl, Nat.zero_le _, rfl, Nat.zero_le _⟩
theorem Sh.bl {k w : Nat} {b : Bool} : Sh k w (.bool b) := ⟨rfl, rfl, Nat.zero_le _, rfl, Nat.zero_le _⟩
theorem log_of {i : Int} (h : i.natAbs < 10 ^ 40) : i.natAbs.log2 < 140 := by
  by_cases h0 : i.natAbs = 0
  · rw [h0]; decide
  · exact (Nat.log2_lt h0).mpr (Nat.lt_trans h (by decide))
theorem Sh.int {k w : Nat} {i : Int} (h : i.natAbs < 10 ^ 40) (hw : 140 ≤ w := by decide) : Sh k w (.int i) := by
  have hl := log_of h
  refine ⟨?_, rfl, Nat.zero_le _, ?_, ?_⟩
  · show decide (i.natAbs.log2 < 1920) = true
    exact decide_eq_true (by omega)
  · show decide ((PyData.shown (.int i)).length ≤ 41) = true
    have e : (toString i).length ≤ 40 + 1 := PySem.int_text_length_le10 (by decide) h
    have e2 := PySem.ofString_length (toString i)
    exact decide_eq_true (by show (Str.ofString (toString i)).length ≤ 41; omega)
  · show (if i == 0 then 0 else i.natAbs.log2 + 1) ≤ w
    split <;> omega
theorem Sh.str {k w : Nat} {x : Str} (h : ∀ c ∈ x.cps.toList, c < 16 ^ 8) (hw : x.cps.size ≤ w) : Sh k w (.str x) := by
  refine ⟨rfl, rfl, Nat.zero_le _, ?_, hw⟩
  show (x.cps.toList.all fun c => decide (c < 16 ^ 8)) = true
  exact List.all_eq_true.mpr fun c hc => decide_eq_true (h c hc)
theorem Sh.alls {k w : Nat} : ∀ {ds : List PyData}, (∀ d ∈ ds, Sh k w d) → PyData.showableAll ds = true ∧ PyData.hasDictAll ds = false ∧ PyData.depthAll ds ≤ k ∧ PyData.leavesShortAll 41 ds = true ∧ PyData.weightAll ds ≤ ds.length * (w + 1)
  | [], _ => ⟨rfl, rfl, Nat.zero_le _, rfl, Nat.zero_le _⟩
  | d :: ds, h => by
    have h1 := h d (List.mem_cons_self ..)
    obtain ⟨a1, a2, a3, a4, a5⟩ := Sh.alls fun x hx => h x (List.mem_cons_of_mem _ hx)
    refine ⟨?_, ?_, ?_, ?_, ?_⟩
    · simp only [PyData.showableAll, h1.sh, a1, Bool.and_self]
    · simp only [PyData.hasDictAll, h1.nd, a2, Bool.or_self]
    · simp only [PyData.depthAll]
      have := h1.dp
      omega
    · simp only [PyData.leavesShortAll, h1.lv, a4, Bool.and_self]
    · simp only [PyData.weightAll, List.length_cons, Nat.add_mul, Nat.one_mul]
      have := h1.wt
      rw [Nat.mul_add, Nat.mul_one] at *
      omega
theorem Sh.list {k w : Nat} {ds : List PyData} (h : ∀ d ∈ ds, Sh k w d) : Sh (k + 1) (ds.length * (w + 1)) (.list ds) := by
  obtain ⟨a1, a2, a3, a4, a5⟩ := Sh.alls h
  exact ⟨a1, a2, Nat.succ_le_succ a3, a4, a5⟩
theorem Sh.tup {k w : Nat} {ds : List PyData} (h : ∀ d ∈ ds, Sh k w d) : Sh (k + 1) (ds.length * (w + 1)) (.tuple ds) := by
  obtain ⟨a1, a2, a3, a4, a5⟩ := Sh.alls h
  exact ⟨a1, a2, Nat.succ_le_succ a3, a4, a5⟩
theorem Sh.mono {k k' w w' : Nat} {d : PyData} (h : Sh k w d) (hk : k ≤ k') (hw : w ≤ w') : Sh k' w' d := ⟨h.sh, h.nd, Nat.le_trans h.dp hk, h.lv, Nat.le_trans h.wt hw⟩
theorem Sh.fits {k w : Nat} {d : PyData} (h : Sh k w d) (hw : w ≤ 300000) : d.shown.length ≤ sizeLine := by
  have e := PyData.shown_le 41 (by decide) d h.lv
  have h2 : (41 + 2) * d.weight ≤ 43 * 300000 := Nat.mul_le_mul_left _ (Nat.le_trans h.wt hw)
  rw [sizeLine_eq]; omega
/-- a list of numbers -/
theorem Sh.ints {ns : List Int} (h : ∀ n ∈ ns, n.natAbs < 10 ^ 40) : Sh 1 (ns.length * 141) (.list (ns.map PyData.int)) := by
  have q := Sh.list (k := 0) (w := 140) (ds := ns.map PyData.int) fun d hd => by
    obtain ⟨n, hn, rfl⟩ := List.mem_map.mp hd
    exact Sh.int (h n hn)
  rw [List.length_map] at q
  exact q
theorem DpAll.ints {K : PySem.W.Frag} {H : Hp} : ∀ (ns : List Int), DpAll K H (ns.map V.int) (ns.map PyData.int)
  | [] => .nil
  | n :: ns => .cons (.int n) (DpAll.ints ns)
section
variable {L L0 : List Asn} {K : PySem.W.Frag} {Q : VK} {p a : Addr} {n : Nat} {x : V} {d : PyData}
theorem LdD.ints {ns : List Int} (h : Ldg L K a (ns.map V.int)) : LdD L K (.ref a) (.list (ns.map PyData.int)) := ⟨fun H s => .lst (h.q H s) (DpAll.ints ns)⟩
theorem a_reprS {k w : Nat} (h : LdD L K x d) (s : Sh k w d) (hk : k ≤ 40) (hw : w ≤ 300000) (q : Al L (Q (.str d.shown))) : Al L (fun H => kRepr K [x] H Q) :=
  a_repr h s.sh s.nd (Nat.le_trans s.dp hk) (s.fits hw) q
theorem a_reprI {ns : List Int} (h : Ldg L K a (ns.map V.int)) (hb : ∀ n ∈ ns, n.natAbs < 10 ^ 40) (hz : ns.length ≤ 2000) (q : Al L (Q (.str (PyData.shown (.list (ns.map PyData.int)))))) : Al L (fun H => kRepr K [.ref a] H Q) :=
  a_reprS (LdD.ints h) (Sh.ints hb) (by decide) (by omega) q
end
/-- the two ways of an if meet again where I holds -/
theorem a_ifsJ {L : List Asn} {σ : L2.St} {nx : L2.St → Hp → Prop} {rt : VK} {bk ct : L2.St → Hp → Prop} {tt : TT} {ts tv : TS} (I : L2.St → List Asn → Prop) (k1 : ∀ F : L2.St → Hp → Prop, (∀ σ M, I σ M → Al M (F σ)) → Al L (fun H => tIfS tt ts tv ⟨F, rt, bk, ct⟩ σ H))
    (k2 : ∀ σ M, I σ M → Al M (nx σ)) : Al L (fun H => tIfS tt ts tv ⟨nx, rt, bk, ct⟩ σ H) := k1 nx k2
theorem join_ones : ∀ cs : List Nat, TL.joinL [] (cs.map fun c => [c]) = cs
  | [] => rfl
  | [c] => rfl
  | c :: d :: r => by
    have e := join_ones (d :: r)
    show [c] ++ ([] ++ TL.joinL [] ((d :: r).map fun c => [c])) = _
    rw [e]; rfl
theorem txt_ones (cs : List Nat) : Txt.join "" (cs.map fun c => (⟨#[c]⟩ : Str)) = ⟨cs.toArray⟩ := by
  have e := SX.join_S [] (cs.map fun c => [c])
  rw [join_ones, List.map_map] at e
  exact e
theorem sum_ones (cs : List Nat) : ((cs.map fun c => (⟨#[c]⟩ : Str)).map (·.length)).sum = cs.length := by
  induction cs with
  | nil => rfl
  | cons c cs ih => rw [List.map_cons, List.map_cons, List.sum_cons, ih, List.length_cons]; show 1 + _ = _; omega
/-- ''.join of single signs -/
theorem a_joinC {L L0 : List Asn} {K : PySem.W.Frag} {Q : VK} {p : Addr} {n : Nat} {f : Nat → Nat} (r : Rem L (pt p (.lst ((List.range n).map fun i => V.str ⟨#[f i]⟩))) L0) (hn : n ≤ 1000) (k : Al L (Q (.str ⟨((List.range n).map f).toArray⟩))) : Al L (fun H => mJoin K (.str "") [.ref p] H Q) := by
  refine a_join (ys := ((List.range n).map f).map fun c => (⟨#[c]⟩ : Str)) (by rw [List.map_map, List.map_map]; exact Ldg.pt r) ?_ (by rw [txt_ones]; exact k)
  rw [sum_ones, List.length_map, List.length_map, List.length_range]
  show n + n * 0 ≤ _
  omega
theorem a_dnew {L : List Asn} {σ : L2.St} {Q : VK} (k : ∀ p, Al (pt p (.dK []) :: L) (Q (.ref p))) : Al L (fun H => tDNewK σ H Q) := fun H s p hp => k p _ (s.new hp)
theorem a_neg {L : List Asn} {i : Int} {Q : VK} (k : Al L (Q (.int (-i)))) : Al L (fun H => rU (fun i => .int (-i)) (.int i) H Q) := fun H s => ⟨i, rfl, k H s⟩
theorem a_r3D {L : List Asn} {R : It → Hp → Prop} {i j : Int} (h : -(2 ^ 62) ≤ i ∧ i < 2 ^ 62 ∧ -(2 ^ 62) ≤ j ∧ j < 2 ^ 62) (k : Al L (R (Itc i (-1) (i - j).toNat))) : Al L (Rng3K R [.int i, .int j, .int (-1)]) := a_r3K _ (RgC.neg h.1 h.2.1 h.2.2.1 h.2.2.2) k
/-! ### items of a list that is written -/
theorem at0 {α : Type} {v : α} {r : List α} : atI (v :: r) 0 = some v := by
  show (ixN (r.length + 1) 0).bind _ = _
  have e : ixN (r.length + 1) 0 = some 0 := by
    show (if (0 : Int) ≤ 0 then (if (0 : Int) < ((r.length + 1 : Nat) : Int) then some (Int.toNat 0) else none) else _) = _
    rw [if_pos (by decide), if_pos (by omega)]; rfl
  rw [e]; rfl
theorem ix0 {v : V} {r : List V} : ixN (v :: r).length 0 = some 0 := by
  show (if (0 : Int) ≤ 0 then (if (0 : Int) < ((r.length + 1 : Nat) : Int) then some (Int.toNat 0) else none) else _) = _
  rw [if_pos (by decide), if_pos (by omega)]; rfl
theorem at1 {α : Type} {v0 v : α} {r : List α} : atI (v0 :: v :: r) 1 = some v := by
  show (ixN (r.length + 2) 1).bind _ = _
  have e : ixN (r.length + 2) 1 = some 1 := by
    show (if (0 : Int) ≤ 1 then (if (1 : Int) < ((r.length + 2 : Nat) : Int) then some (Int.toNat 1) else none) else _) = _
    rw [if_pos (by decide), if_pos (by omega)]; rfl
  rw [e]; rfl
theorem ix1 {v0 v : V} {r : List V} : ixN (v0 :: v :: r).length 1 = some 1 := by
  show (if (0 : Int) ≤ 1 then (if (1 : Int) < ((r.length + 2 : Nat) : Int) then some (Int.toNat 1) else none) else _) = _
  rw [if_pos (by decide), if_pos (by omega)]; rfl
theorem at2 {α : Type} {v0 v1 v : α} {r : List α} : atI (v0 :: v1 :: v :: r) 2 = some v := by
  show (ixN (r.length + 3) 2).bind _ = _
  have e : ixN (r.length + 3) 2 = some 2 := by
    show (if (0 : Int) ≤ 2 then (if (2 : Int) < ((r.length + 3 : Nat) : Int) then some (Int.toNat 2) else none) else _) = _
    rw [if_pos (by decide), if_pos (by omega)]; rfl
  rw [e]; rfl
theorem ix2 {v0 v1 v : V} {r : List V} : ixN (v0 :: v1 :: v :: r).length 2 = some 2 := by
  show (if (0 : Int) ≤ 2 then (if (2 : Int) < ((r.length + 3 : Nat) : Int) then some (Int.toNat 2) else none) else _) = _
  rw [if_pos (by decide), if_pos (by omega)]; rfl
theorem at3 {α : Type} {v0 v1 v2 v : α} {r : List α} : atI (v0 :: v1 :: v2 :: v :: r) 3 = some v := by
  show (ixN (r.length + 4) 3).bind _ = _
  have e : ixN (r.length + 4) 3 = some 3 := by
    show (if (0 : Int) ≤ 3 then (if (3 : Int) < ((r.length + 4 : Nat) : Int) then some (Int.toNat 3) else none) else _) = _
    rw [if_pos (by decide), if_pos (by omega)]; rfl
  rw [e]; rfl
theorem ix3 {v0 v1 v2 v : V} {r : List V} : ixN (v0 :: v1 :: v2 :: v :: r).length 3 = some 3 := by
  show (if (0 : Int) ≤ 3 then (if (3 : Int) < ((r.length + 4 : Nat) : Int) then some (Int.toNat 3) else none) else _) = _
  rw [if_pos (by decide), if_pos (by omega)]; rfl
theorem at4 {α : Type} {v0 v1 v2 v3 v : α} {r : List α} : atI (v0 :: v1 :: v2 :: v3 :: v :: r) 4 = some v := by
  show (ixN (r.length + 5) 4).bind _ = _
  have e : ixN (r.length + 5) 4 = some 4 := by
    show (if (0 : Int) ≤ 4 then (if (4 : Int) < ((r.length + 5 : Nat) : Int) then some (Int.toNat 4) else none) else _) = _
    rw [if_pos (by decide), if_pos (by omega)]; rfl
  rw [e]; rfl
theorem ix4 {v0 v1 v2 v3 v : V} {r : List V} : ixN (v0 :: v1 :: v2 :: v3 :: v :: r).length 4 = some 4 := by
  show (if (0 : Int) ≤ 4 then (if (4 : Int) < ((r.length + 5 : Nat) : Int) then some (Int.toNat 4) else none) else _) = _
  rw [if_pos (by decide), if_pos (by omega)]; rfl
theorem at5 {α : Type} {v0 v1 v2 v3 v4 v : α} {r : List α} : atI (v0 :: v1 :: v2 :: v3 :: v4 :: v :: r) 5 = some v := by
  show (ixN (r.length + 6) 5).bind _ = _
  have e : ixN (r.length + 6) 5 = some 5 := by
    show (if (0 : Int) ≤ 5 then (if (5 : Int) < ((r.length + 6 : Nat) : Int) then some (Int.toNat 5) else none) else _) = _
    rw [if_pos (by decide), if_pos (by omega)]; rfl
  rw [e]; rfl
theorem ix5 {v0 v1 v2 v3 v4 v : V} {r : List V} : ixN (v0 :: v1 :: v2 :: v3 :: v4 :: v :: r).length 5 = some 5 := by
  show (if (0 : Int) ≤ 5 then (if (5 : Int) < ((r.length + 6 : Nat) : Int) then some (Int.toNat 5) else none) else _) = _
  rw [if_pos (by decide), if_pos (by omega)]; rfl
theorem at6 {α : Type} {v0 v1 v2 v3 v4 v5 v : α} {r : List α} : atI (v0 :: v1 :: v2 :: v3 :: v4 :: v5 :: v :: r) 6 = some v := by
  show (ixN (r.length + 7) 6).bind _ = _
  have e : ixN (r.length + 7) 6 = some 6 := by
    show (if (0 : Int) ≤ 6 then (if (6 : Int) < ((r.length + 7 : Nat) : Int) then some (Int.toNat 6) else none) else _) = _
    rw [if_pos (by decide), if_pos (by omega)]; rfl
  rw [e]; rfl
theorem ix6 {v0 v1 v2 v3 v4 v5 v : V} {r : List V} : ixN (v0 :: v1 :: v2 :: v3 :: v4 :: v5 :: v :: r).length 6 = some 6 := by
  show (if (0 : Int) ≤ 6 then (if (6 : Int) < ((r.length + 7 : Nat) : Int) then some (Int.toNat 6) else none) else _) = _
  rw [if_pos (by decide), if_pos (by omega)]; rfl
theorem at7 {α : Type} {v0 v1 v2 v3 v4 v5 v6 v : α} {r : List α} : atI (v0 :: v1 :: v2 :: v3 :: v4 :: v5 :: v6 :: v :: r) 7 = some v := by
  show (ixN (r.length + 8) 7).bind _ = _
  have e : ixN (r.length + 8) 7 = some 7 := by
    show (if (0 : Int) ≤ 7 then (if (7 : Int) < ((r.length + 8 : Nat) : Int) then some (Int.toNat 7) else none) else _) = _
    rw [if_pos (by decide), if_pos (by omega)]; rfl
  rw [e]; rfl
theorem ix7 {v0 v1 v2 v3 v4 v5 v6 v : V} {r : List V} : ixN (v0 :: v1 :: v2 :: v3 :: v4 :: v5 :: v6 :: v :: r).length 7 = some 7 := by
  show (if (0 : Int) ≤ 7 then (if (7 : Int) < ((r.length + 8 : Nat) : Int) then some (Int.toNat 7) else none) else _) = _
  rw [if_pos (by decide), if_pos (by omega)]; rfl
/-- a list that is written, one item set -/
structure SetL (xs : List V) (j : Int) (v : V) (ys : List V) : Prop where
  h : ∃ n, ixN xs.length j = some n ∧ xs.set n v = ys
theorem st0 {a v : V} {r : List V} : SetL (a :: r) 0 v (v :: r) := ⟨0, ix0, rfl⟩
theorem st1 {v0 a v : V} {r : List V} : SetL (v0 :: a :: r) 1 v (v0 :: v :: r) := ⟨1, ix1, rfl⟩
theorem st2 {v0 v1 a v : V} {r : List V} : SetL (v0 :: v1 :: a :: r) 2 v (v0 :: v1 :: v :: r) := ⟨2, ix2, rfl⟩
theorem st3 {v0 v1 v2 a v : V} {r : List V} : SetL (v0 :: v1 :: v2 :: a :: r) 3 v (v0 :: v1 :: v2 :: v :: r) := ⟨3, ix3, rfl⟩
theorem st4 {v0 v1 v2 v3 a v : V} {r : List V} : SetL (v0 :: v1 :: v2 :: v3 :: a :: r) 4 v (v0 :: v1 :: v2 :: v3 :: v :: r) := ⟨4, ix4, rfl⟩
theorem st5 {v0 v1 v2 v3 v4 a v : V} {r : List V} : SetL (v0 :: v1 :: v2 :: v3 :: v4 :: a :: r) 5 v (v0 :: v1 :: v2 :: v3 :: v4 :: v :: r) := ⟨5, ix5, rfl⟩
theorem st6 {v0 v1 v2 v3 v4 v5 a v : V} {r : List V} : SetL (v0 :: v1 :: v2 :: v3 :: v4 :: v5 :: a :: r) 6 v (v0 :: v1 :: v2 :: v3 :: v4 :: v5 :: v :: r) := ⟨6, ix6, rfl⟩
theorem st7 {v0 v1 v2 v3 v4 v5 v6 a v : V} {r : List V} : SetL (v0 :: v1 :: v2 :: v3 :: v4 :: v5 :: v6 :: a :: r) 7 v (v0 :: v1 :: v2 :: v3 :: v4 :: v5 :: v6 :: v :: r) := ⟨7, ix7, rfl⟩
theorem a_setT {L L0 : List Asn} {σ : L2.St} {p : Addr} {xs ys : List V} {j : Int} {v : V} {QS : L2.St → Hp → Prop} (r : Rem L (pt p (.lst xs)) L0) (h : SetL xs j v ys) (q : Al (pt p (.lst ys) :: L0) (QS σ)) : Al L (GSubK sSet (.ref p) v QS σ (.int j)) := by
  obtain ⟨n, h1, h2⟩ := h.h
  exact a_setLl r h1 (by rw [h2]; exact q)
/-- one of a few -/
theorem pick2 {a b : V} {o : Int} (h0 : 0 ≤ o) (h1 : o < 2) : ∃ v, (v = a ∨ v = b) ∧ atI [a, b] o = some v := by
  obtain rfl | rfl : o = 0 ∨ o = 1 := by omega
  · exact ⟨a, .inl rfl, at0⟩
  · exact ⟨b, .inr rfl, at1⟩
theorem pick3 {a b c : V} {o : Int} (h0 : 0 ≤ o) (h1 : o < 3) : ∃ v, (v = a ∨ v = b ∨ v = c) ∧ atI [a, b, c] o = some v := by
  obtain rfl | rfl | rfl : o = 0 ∨ o = 1 ∨ o = 2 := by omega
  · exact ⟨a, .inl rfl, at0⟩
  · exact ⟨b, .inr (.inl rfl), at1⟩
  · exact ⟨c, .inr (.inr rfl), at2⟩
theorem pick4 {a b c d : V} {o : Int} (h0 : 0 ≤ o) (h1 : o < 4) : ∃ v, (v = a ∨ v = b ∨ v = c ∨ v = d) ∧ atI [a, b, c, d] o = some v := by
  obtain rfl | rfl | rfl | rfl : o = 0 ∨ o = 1 ∨ o = 2 ∨ o = 3 := by omega
  · exact ⟨a, .inl rfl, at0⟩
  · exact ⟨b, .inr (.inl rfl), at1⟩
  · exact ⟨c, .inr (.inr (.inl rfl)), at2⟩
  · exact ⟨d, .inr (.inr (.inr rfl)), at3⟩
/-- a dict that is a set of texts -/
def setOf (ws : List Str) : List (Key × V) := ws.map fun z => (.inr z, .bl true)
theorem setOf_put (ws : List Str) (z : Str) : ∃ ws', putK (setOf ws) (.inr z) (.bl true) = setOf ws' ∧ (∀ x ∈ ws', x = z ∨ x ∈ ws) ∧ ws'.length ≤ ws.length + 1 ∧ (ws.Nodup → ws'.Nodup) ∧ z ∈ ws' ∧ ∀ x ∈ ws, x ∈ ws' := by
  by_cases h : z ∈ ws
  · refine ⟨ws, ?_, fun x hx => .inr hx, by omega, fun n => n, h, fun x hx => hx⟩
    have e : ((setOf ws).any fun kv => decide (kv.1 = (.inr z : Key))) = true := List.any_eq_true.mpr ⟨(.inr z, .bl true), List.mem_map.mpr ⟨z, h, rfl⟩, decide_eq_true rfl⟩
    show (if ((setOf ws).any fun kv => decide (kv.1 = (.inr z : Key))) = true then _ else _) = _
    rw [if_pos e]
    unfold setOf
    rw [List.map_map]
    refine List.map_congr_left fun x _ => ?_
    show (if _ then _ else _) = _
    split <;> rfl
  · refine ⟨ws ++ [z], ?_, fun x hx => ?_, by rw [List.length_append]; exact Nat.le_refl _, fun n => ?_, List.mem_append_right _ (List.mem_singleton.mpr rfl), fun x hx => List.mem_append_left _ hx⟩
    · have e : ¬ ((setOf ws).any fun kv => decide (kv.1 = (.inr z : Key))) = true := fun q => by
        obtain ⟨kv, hk, e⟩ := List.any_eq_true.mp q
        obtain ⟨x, hx, rfl⟩ := List.mem_map.mp hk
        have e := of_decide_eq_true e
        injection e with e
        exact h (e ▸ hx)
      show (if ((setOf ws).any fun kv => decide (kv.1 = (.inr z : Key))) = true then _ else _) = _
      rw [if_neg e]
      unfold setOf
      rw [List.map_append]; rfl
    · rcases List.mem_append.mp hx with q | q
      · exact .inr q
      · exact .inl (List.mem_singleton.mp q)
    · exact List.nodup_append.mpr ⟨n, by simp, fun a ha b hb => by rw [List.mem_singleton.mp hb]; exact fun e => h (e ▸ ha)⟩
theorem setOf_keys (ws : List Str) : ((setOf ws).map fun kv => kV kv.1) = ws.map V.str := by
  unfold setOf
  rw [List.map_map]; rfl
theorem setOf_length (ws : List Str) : (setOf ws).length = ws.length := by unfold setOf; rw [List.length_map]
/-! ### lists of numbers by place -/
theorem atI_int {ns : List Int} {k : Nat} {j : Int} (e : j = k) (h : k < ns.length) : atI (ns.map V.int) j = some (.int (ns.getD k 0)) := by
  subst e
  exact atI_nat (by rw [List.getElem?_map, List.getD_eq_getElem?_getD, List.getElem?_eq_getElem h]; rfl)
theorem set_int {ns : List Int} {k : Nat} {v : Int} : (ns.map V.int).set k (.int v) = (ns.set k v).map V.int := by rw [List.map_set]
theorem ixN_of {n k : Nat} {j : Int} (e : j = k) (h : k < n) : ixN n j = some k := by
  have h0 : (0 : Int) ≤ j := by omega
  have h1 : j < (n : Int) := by omega
  show (if 0 ≤ j then (if j < n then some j.toNat else none) else _) = _
  rw [if_pos h0, if_pos h1, e]; rfl
section
variable {L L0 : List Asn} {K : PySem.W.Frag} {Q : VK} {p a : Addr} {σ : L2.St} {ns : List Int} {j v : Int}
theorem a_xI (k : Nat) (h : Ldg L K a (ns.map V.int)) (e : j = k) (hk : k < ns.length) (q : Al L (Q (.int (ns.getD k 0)))) : Al L (fun H => xIx K (.ref a) (.int j) H Q) := a_xL h (atI_int e hk) q
theorem a_setI {QS : L2.St → Hp → Prop} (k : Nat) (r : Rem L (pt p (.lst (ns.map V.int))) L0) (e : j = k) (hk : k < ns.length) (q : Al (pt p (.lst ((ns.set k v).map V.int)) :: L0) (QS σ)) : Al L (GSubK sSet (.ref p) (.int v) QS σ (.int j)) :=
  a_setLl r (ixN_of e (by rw [List.length_map]; exact hk)) (by rw [set_int]; exact q)
end
end AL

/-! Sums over places; parts of texts; reprs of lists by place. -/
namespace AL
open PySem PySem.Spec PyProof.Rows L2
/-- the sum of f over the first n places -/
def sg (n : Nat) (f : Nat → Int) : Int := ((List.range n).map f).sum
theorem sg_zero {f : Nat → Int} : sg 0 f = 0 := rfl
theorem sg_succ {n : Nat} {f : Nat → Int} : sg (n + 1) f = sg n f + f n := by
  unfold sg
  rw [List.range_succ, List.map_append, List.sum_append]
  show _ + (f n + 0) = _
  rw [Int.add_zero]
theorem sg_congr {n : Nat} {f g : Nat → Int} (h : ∀ i, i < n → f i = g i) : sg n f = sg n g := by
  induction n with
  | zero => rfl
  | succ n ih => rw [sg_succ, sg_succ, ih fun i hi => h i (by omega), h n (by omega)]
theorem sg_add {n : Nat} {f g : Nat → Int} : sg n (fun i => f i + g i) = sg n f + sg n g := by
  induction n with
  | zero => rfl
  | succ n ih => rw [sg_succ, sg_succ, sg_succ, ih]; omega
theorem sg_const {n : Nat} {c : Int} : sg n (fun _ => c) = n * c := by
  induction n with
  | zero => rw [sg_zero]; simp
  | succ n ih => rw [sg_succ, ih, Int.natCast_add, Int.add_mul]; simp
/-- every tail summed: each place once more than its place -/
theorem sg_tails (v : Nat → Int) : ∀ n : Nat, sg n (fun f => sg (n - f) fun j => v (f + j)) = sg n fun i => ((i : Int) + 1) * v i
  | 0 => rfl
  | n + 1 => by
    have e : sg (n + 1) (fun f => sg (n + 1 - f) fun j => v (f + j)) = sg (n + 1) fun f => (sg (n - f) fun j => v (f + j)) + v n := by
      refine sg_congr fun f hf => ?_
      rw [show n + 1 - f = (n - f) + 1 by omega, sg_succ, show f + (n - f) = n by omega]
    rw [e, sg_add, sg_const, sg_succ, show n - n = 0 by omega, sg_zero, Int.add_zero, sg_tails v n, sg_succ, Int.natCast_add]
    rfl
theorem sg_bound {n : Nat} {f : Nat → Int} {c : Int} (h : ∀ i, i < n → 0 ≤ f i ∧ f i ≤ c) : 0 ≤ sg n f ∧ sg n f ≤ n * c := by
  induction n with
  | zero => rw [sg_zero]; simp
  | succ n ih =>
    have h1 := ih fun i hi => h i (by omega)
    have h2 := h n (by omega)
    rw [sg_succ, Int.natCast_add, Int.add_mul]
    simp
    omega
theorem map_succ {α : Type} {g : Nat → α} {i : Nat} : (List.range i).map g ++ [g i] = (List.range (i + 1)).map g := by
  rw [List.range_succ, List.map_append]; rfl
theorem pow4_le {a b : Nat} (h : a ≤ b) : (4 : Int) ^ a ≤ 4 ^ b := by
  have e : (4 : Nat) ^ a ≤ 4 ^ b := Nat.pow_le_pow_right (by decide) h
  exact_mod_cast e
theorem sg_le {n : Nat} {f g : Nat → Int} (h : ∀ i, i < n → f i ≤ g i) : sg n f ≤ sg n g := by
  induction n with
  | zero => exact Int.le_refl _
  | succ n ih =>
    have h1 := ih fun i hi => h i (by omega)
    have h2 := h n (by omega)
    rw [sg_succ, sg_succ]; omega
theorem a_ifFe {L : List Asn} {P1 P2 : Hp → Prop} {b : Bool} (e : b = false) (k : Al L P2) : Al L (IfK P1 P2 b) := by subst e; exact a_ifF k
theorem a_ifTe {L : List Asn} {P1 P2 : Hp → Prop} {b : Bool} (e : b = true) (k : Al L P1) : Al L (IfK P1 P2 b) := by subst e; exact a_ifT k
theorem a_reprL {L : List Asn} {K : PySem.W.Frag} {Q : VK} {a : Addr} {xs : List V} {ns : List Int} (h : Ldg L K a xs) (e : xs = ns.map V.int) (hb : ∀ n ∈ ns, n.natAbs < 10 ^ 40) (hz : ns.length ≤ 2000) (q : Al L (Q (.str (PyData.shown (.list (ns.map PyData.int)))))) : Al L (fun H => kRepr K [.ref a] H Q) :=
  a_reprI (ns := ns) (by rw [← e]; exact h) hb hz q
theorem a_joinS {L L0 : List Asn} {K : PySem.W.Frag} {Q : VK} {p : Addr} {cs : List Nat} (r : Rem L (pt p (.lst (cs.map fun c => V.str ⟨#[c]⟩))) L0) (hn : cs.length ≤ 1000) (k : Al L (Q (.str ⟨cs.toArray⟩))) : Al L (fun H => mJoin K (.str "") [.ref p] H Q) := by
  refine a_join (ys := cs.map fun c => (⟨#[c]⟩ : Str)) (by rw [List.map_map]; exact Ldg.pt r) ?_ (by rw [txt_ones]; exact k)
  rw [sum_ones, List.length_map]
  show cs.length + cs.length * 0 ≤ _
  omega
theorem map_push {α β : Type} {g : α → β} {cs : List α} {c : α} : cs.map g ++ [g c] = (cs ++ [c]).map g := by rw [List.map_append]; rfl
/-! ### parts of a text -/
theorem cut_from {z : Str} {k : Nat} (h : k ≤ z.cps.size) : (cutS z (some (k : Int)) none).cps.toList = z.cps.toList.drop k := by
  unfold cutS
  rw [HT.sIx_nat, HT.sIx_none]
  show ((z.cps.toList.drop (min k z.cps.size)).take (z.cps.size - min k z.cps.size)).toArray.toList = _
  rw [Nat.min_eq_left h, List.take_of_length_le (by rw [List.length_drop, Array.length_toList]; exact Nat.le_refl _)]
theorem cut_to {z : Str} {k : Nat} : (cutS z none (some (k : Int))).cps.toList = z.cps.toList.take k := by
  unfold cutS
  rw [HT.sIx_nat]
  show ((z.cps.toList.drop 0).take (min k z.cps.size - 0)).toArray.toList = _
  rw [List.drop_zero, Nat.sub_zero]
  show z.cps.toList.take (min k z.cps.size) = _
  by_cases hk : k ≤ z.cps.size
  · rw [Nat.min_eq_left hk]
  · rw [Nat.min_eq_right (by omega), List.take_of_length_le (by rw [Array.length_toList]; exact Nat.le_refl _), List.take_of_length_le (by rw [Array.length_toList]; omega)]
theorem cutV_to {xs : List V} {k : Nat} (h : k ≤ xs.length) : cutV xs none (some (k : Int)) = xs.take k := by
  unfold cutV
  rw [HT.sIx_nat]
  show (xs.drop 0).take (min k xs.length - 0) = _
  rw [List.drop_zero, Nat.sub_zero, Nat.min_eq_left h]
theorem cutV_from {xs : List V} {k : Nat} (h : k ≤ xs.length) : cutV xs (some (k : Int)) none = xs.drop k := by
  unfold cutV
  rw [HT.sIx_nat, Nat.min_eq_left h]
  show (xs.drop k).take (xs.length - k) = _
  rw [List.take_of_length_le (by rw [List.length_drop]; exact Nat.le_refl _)]
theorem str_ext {x y : Str} (h : x.cps.toList = y.cps.toList) : x = y := by
  obtain ⟨⟨x⟩⟩ := x
  obtain ⟨⟨y⟩⟩ := y
  simpa using h
theorem getD_toList {a : Array Nat} {i : Nat} : a.getD i 0 = a.toList.getD i 0 := by
  rw [Array.getD_eq_getD_getElem?, List.getD_eq_getElem?_getD, Array.getElem?_toList]
section
variable {L L0 : List Asn} {K : PySem.W.Frag} {Q : VK} {p : Addr} {n : Nat}
theorem a_sumS {f : Nat → Int} (r : Rem L (pt p (.lst ((List.range n).map fun i => V.int (f i)))) L0) (k : Al L (Q (.int (sg n f)))) : Al L (fun H => rSum K [.ref p] H Q) := a_sumP r k
theorem a_reprP {f : Nat → Int} (r : Rem L (pt p (.lst ((List.range n).map fun i => V.int (f i)))) L0) (hb : ∀ i, i < n → (f i).natAbs < 10 ^ 40) (hz : n ≤ 2000) (k : Al L (Q (.str (PyData.shown (.list (((List.range n).map f).map PyData.int)))))) : Al L (fun H => kRepr K [.ref p] H Q) :=
  a_reprI (ns := (List.range n).map f) (by rw [List.map_map]; exact Ldg.pt r) (fun m hm => by
    obtain ⟨i, hi, rfl⟩ := List.mem_map.mp hm
    exact hb i (List.mem_range.mp hi)) (by rw [List.length_map, List.length_range]; exact hz) k
end
end AL

/-! Data of any kind in the ledger; its kind. -/
namespace AL
open PySem PySem.Spec PyProof.Rows L2
/-- x is the data d, all of it ours -/
def DatA (K : PySem.W.Frag) (x : V) (d : PyData) : Asn := fun H => Dp K H x d
theorem SqL.up {K : PySem.W.Frag} {H H' : Hp} {a : Addr} {xs : List V} (h : SqL K H a xs) (m : ∀ a o, H a = some o → H' a = some o) : SqL K H' a xs := by
  rcases h with (q | ⟨o, q⟩) | q
  · exact .inl (.inl (m _ _ q))
  · exact .inl (.inr ⟨o, m _ _ q⟩)
  · exact .inr q
theorem SqT.up {K : PySem.W.Frag} {H H' : Hp} {a : Addr} {xs : List V} (h : SqT K H a xs) (m : ∀ a o, H a = some o → H' a = some o) : SqT K H' a xs := by
  rcases h with (q | ⟨o, q⟩) | q
  · exact .inl (.inl (m _ _ q))
  · exact .inl (.inr ⟨o, m _ _ q⟩)
  · exact .inr q
mutual
theorem Dp.up {K : PySem.W.Frag} {H H' : Hp} (m : ∀ a o, H a = some o → H' a = some o) : ∀ (d : PyData) (x : V), Dp K H x d → Dp K H' x d
  | .none, _, h => by cases h; exact .non
  | .bool b, _, h => by cases h; exact .bl b
  | .int i, _, h => by cases h; exact .int i
  | .str z, _, h => by cases h; exact .str z
  | .list ds, _, h => by
    cases h with
    | lst h1 h2 => exact .lst (SqL.up h1 m) (DpAll.up m ds _ h2)
  | .tuple ds, _, h => by
    cases h with
    | tup h1 h2 => exact .tup (SqT.up h1 m) (DpAll.up m ds _ h2)
  | .dict _, _, h => by cases h
theorem DpAll.up {K : PySem.W.Frag} {H H' : Hp} (m : ∀ a o, H a = some o → H' a = some o) : ∀ (ds : List PyData) (xs : List V), DpAll K H xs ds → DpAll K H' xs ds
  | [], _, h => by cases h; exact .nil
  | d :: ds, _, h => by
    cases h with
    | cons h1 h2 => exact .cons (Dp.up m d _ h1) (DpAll.up m ds _ h2)
end
/-- a row of things that are data -/
def Dats (K : PySem.W.Frag) (xs : List V) (ds : List PyData) : Asn := fun H => DpAll K H xs ds
section
variable {L L0 : List Asn} {K : PySem.W.Frag} {Q : VK} {P : Hp → Prop} {p : Addr} {x : V} {d : PyData} {xs : List V} {ds : List PyData}
theorem LdD.dat (r : Rem L (DatA K x d) L0) : LdD L K x d := ⟨fun H s => by
  obtain ⟨H1, h1, q⟩ := (r.ok s).get
  exact Dp.up h1 d x q⟩
theorem LdD.int {i : Int} : LdD L K (.int i) (.int i) := ⟨fun _ _ => .int i⟩
theorem LdD.str {z : Str} : LdD L K (.str z) (.str z) := ⟨fun _ _ => .str z⟩
theorem LdD.non : LdD L K .non .none := ⟨fun _ _ => .non⟩
theorem LdD.bl {b : Bool} : LdD L K (.bl b) (.bool b) := ⟨fun _ _ => .bl b⟩
/-- what is had of nothing -/
theorem Al.own {A : Asn} (h : A fun _ => none) (k : Al (A :: L) P) : Al L P := fun H s => k H ⟨fun _ => none, H, ⟨fun _ _ e => (nomatch e), fun _ _ e => e, fun _ _ _ e => (nomatch e)⟩, h, s⟩
/-- two parts as one -/
theorem Al.merge {A B C : Asn} (h : ∀ H H1 H2, (∀ a o, H1 a = some o → H a = some o) → (∀ a o, H2 a = some o → H a = some o) → A H1 → B H2 → C H) (k : Al (C :: L) P) : Al (A :: B :: L) P := fun H s => by
  have s' : Star (Star [A, B] :: L) H := Star.join (M := [A, B]) s
  refine k H (s'.head fun H1 q => ?_)
  obtain ⟨Ha, Hr, sp, qa, Hb, Hc, sp2, qb, _⟩ := q
  exact h H1 Ha Hb sp.l (fun a o e => sp.r _ _ (sp2.l _ _ e)) qa qb
theorem Dats.nil (k : Al (Dats K [] [] :: L) P) : Al L P := Al.own DpAll.nil k
theorem Dats.cons (k : Al (Dats K (x :: xs) (d :: ds) :: L) P) : Al (DatA K x d :: Dats K xs ds :: L) P :=
  Al.merge (C := Dats K (x :: xs) (d :: ds)) (fun H H1 H2 l r a b => DpAll.cons (Dp.up l d x a) (DpAll.up r ds xs b)) k
theorem DatA.list (k : Al (DatA K (.ref p) (.list ds) :: L) P) : Al (pt p (.lst xs) :: Dats K xs ds :: L) P :=
  Al.merge (C := DatA K (.ref p) (.list ds)) (fun H H1 H2 l r a b => Dp.lst (SqL.of (l _ _ a)) (DpAll.up r ds xs b)) k
theorem DatA.tup (k : Al (DatA K (.ref p) (.tuple ds) :: L) P) : Al (pt p (.tup xs) :: Dats K xs ds :: L) P :=
  Al.merge (C := DatA K (.ref p) (.tuple ds)) (fun H H1 H2 l r a b => Dp.tup (SqT.of (l _ _ a)) (DpAll.up r ds xs b)) k
end
theorem q_ty {X : Cx} {x : Str} {T : String} {pos : Pos} (hg : Gl X x) (hm : X.mg x = none) (hv : bootBuiltins x = some (.type T)) (hn : x ≠ "__name__" := by decide) (hd : (x == ("__debug__" : Str)) = false := by decide) : PE X (.Name x pos) (tC (.ty T)) :=
  pe_bltn hg hm hv rfl hn hd
/-- the kind of data, by its name -/
def kindD : PyData → String
  | .none => "NoneType"
  | .bool _ => "bool"
  | .int _ => "int"
  | .str _ => "str"
  | .list _ => "list"
  | .tuple _ => "tuple"
  | .dict _ => "dict"
theorem Dp.ty {K : PySem.W.Frag} {H : Hp} : ∀ {d : PyData} {x : V}, Dp K H x d → TyX K H x (.type (kindD d)) := by
  intro d x h
  cases h with
  | non => exact .base .non
  | bl b => exact .base (.bl b)
  | int i => exact .base (.int i)
  | str z => exact .base (.str z)
  | lst h1 h2 =>
    rcases h1 with (q | ⟨o, q⟩) | ⟨o, its, n, q, c, _⟩
    · exact .base (.lst q)
    · exact .base (.frz q)
    · exact .kList q c
  | tup h1 h2 =>
    rcases h1 with (q | ⟨o, q⟩) | ⟨o, its, n, q, c, _⟩
    · exact .base (.tup q)
    · exact .fTuple q
    · exact .kTuple q c
def isStrD : PyData → Bool
  | .str _ => true
  | _ => false
def isIntD : PyData → Bool
  | .int _ => true
  | .bool _ => true
  | _ => false
def isBoolD : PyData → Bool
  | .bool _ => true
  | _ => false
theorem kit_str {K : PySem.W.Frag} (d : PyData) : PySem.W.kitOne K (.type (kindD d)) (.type "str") = some (isStrD d) := by cases d <;> kernel_rfl
theorem kit_int {K : PySem.W.Frag} (d : PyData) : PySem.W.kitOne K (.type (kindD d)) (.type "int") = some (isIntD d) := by cases d <;> kernel_rfl
theorem kit_bool {K : PySem.W.Frag} (d : PyData) : PySem.W.kitOne K (.type (kindD d)) (.type "bool") = some (isBoolD d) := by cases d <;> kernel_rfl
section
variable {L : List Asn} {K : PySem.W.Frag} {P : Hp → Prop} {x : V}
theorem DatA.str {z : Str} (k : x = .str z → Al (DatA K x (.str z) :: L) P) : Al (DatA K x (.str z) :: L) P := fun H s => by
  obtain ⟨H1, _, q⟩ := s.get
  exact k (by cases (show Dp K H1 x (.str z) from q); rfl) H s
theorem DatA.int {i : Int} (k : x = .int i → Al (DatA K x (.int i) :: L) P) : Al (DatA K x (.int i) :: L) P := fun H s => by
  obtain ⟨H1, _, q⟩ := s.get
  exact k (by cases (show Dp K H1 x (.int i) from q); rfl) H s
theorem DatA.non (k : x = .non → Al (DatA K x .none :: L) P) : Al (DatA K x .none :: L) P := fun H s => by
  obtain ⟨H1, _, q⟩ := s.get
  exact k (by cases (show Dp K H1 x .none from q); rfl) H s
end
theorem q_isi {X : Cx} {K : PySem.W.Frag} (h : X.K = K) : CallR X (.builtin "isinstance") (rIsi K) := h ▸ call_isi
def isK (k T : String) : Bool := k == T || (k == "bool" && T == "int")
theorem a_isi {L : List Asn} {K : PySem.W.Frag} {Q : VK} {x : V} {d : PyData} {T : String} {b : Bool} (h : LdD L K x d) (e : PySem.W.kitOne K (.type (kindD d)) (.type T) = some b) (k : Al L (Q (.bl b))) : Al L (fun H => rIsi K [x, .ty T] H Q) := fun H s =>
  ⟨x, .ty T, _, .type T, b, rfl, .ty T, Dp.ty (h.q H s), e, k H s⟩
theorem lt1 {a b : Nat} : ([a] : List Nat) < [b] ↔ a < b := by
  simp [List.cons_lt_cons_iff]
/-- two single signs -/
theorem a_le1 {L : List Asn} {Q : VK} {z w : Str} {a b : Nat} (hz : z = ⟨#[a]⟩) (hw : w = ⟨#[b]⟩) (k : Al L (Q (.bl (decide (a ≤ b))))) : Al L (fun H => cLe (.str z) (.str w) H Q) := by
  subst hz hw
  refine a_les ?_
  have e : (!decide ((⟨#[b]⟩ : Str).cps.toList < (⟨#[a]⟩ : Str).cps.toList)) = decide (a ≤ b) := by
    rw [← decide_not]
    exact decide_eq_decide.mpr (by show ¬ ([b] < [a]) ↔ _; rw [lt1]; omega)
  rw [e]; exact k
end AL

/-! EN: readings as steps of a machine: what is read, the slots, what follows. -/
namespace AL
open PySem PySem.Spec PyProof.Rows L2
def xE (t : TE) (σ : L2.St) (Q : VK) : Hp → Prop := fun H => t σ H Q
def xA (t : TA) (σ : L2.St) (Q : List V → Hp → Prop) : Hp → Prop := fun H => t σ H Q
def xT (t : TT) (σ : L2.St) (Q : Bool → Hp → Prop) : Hp → Prop := fun H => t σ H Q
def xO (t : TO) (σ : L2.St) (Q : Option Int → Hp → Prop) : Hp → Prop := fun H => t σ H Q
def xG (g : TG) (v : V) (σ : L2.St) (N : L2.St → Hp → Prop) : Hp → Prop := fun H => g v σ H N
def xGs (g : TGs) (vs : List V) (σ : L2.St) (N : L2.St → Hp → Prop) : Hp → Prop := fun H => g vs σ H N
def xI (t : TI) (σ : L2.St) (R : It → Hp → Prop) : Hp → Prop := fun H => t σ H R
def xS (t : TS) (nx : L2.St → Hp → Prop) (rt : VK) (bk ct : L2.St → Hp → Prop) (σ : L2.St) : Hp → Prop := fun H => t ⟨nx, rt, bk, ct⟩ σ H
def x2 (r : R2) (v w : V) (Q : VK) : Hp → Prop := fun H => r v w H Q
def x1 (r : V → Hp → VK → Prop) (v : V) (Q : VK) : Hp → Prop := fun H => r v H Q
def xB (r : List V → Hp → VK → Prop) (vs : List V) (Q : VK) : Hp → Prop := fun H => r vs H Q
def xM (r : V → List V → Hp → VK → Prop) (v : V) (vs : List V) (Q : VK) : Hp → Prop := fun H => r v vs H Q
def xP (sp : Sp) (vs : List V) (Q : VK) (E : XK) : Hp → Prop := fun H => sp vs H Q E
def xSl (r : V → Option Int → Option Int → Hp → VK → Prop) (v : V) (l u : Option Int) (Q : VK) : Hp → Prop := fun H => r v l u H Q
def xIp (r : TIp) (v w : V) (Q : VK) : Hp → Prop := fun H => r v w H Q
def xSt (r : TSet) (o i v : V) (P : Hp → Prop) : Hp → Prop := fun H => r o i v H P
def xTy (K : PySem.W.Frag) (T : String) (v : V) (P : Hp → Prop) : Hp → Prop := fun H => tyV K T v H ∧ P H

section
variable {σ : L2.St} {Q : VK} {te ta tb tc : TE} {tt tu : TT} {t : TA} {ts tv : TS} {v x y : V} {nx : L2.St → Hp → Prop} {rt : VK} {bk ct : L2.St → Hp → Prop} {K : PySem.W.Frag} {QB : Bool → Hp → Prop} {QA : List V → Hp → Prop} {R : It → Hp → Prop} {N : L2.St → Hp → Prop} {vs xs : List V} {r r' : R2} {b : Bool} {g : TG} {gs : TGs} {P : Hp → Prop} {E : XK} {sp : Sp} {dvs : List V} {tl th : TO} {l u : Option Int} {rs : V → Option Int → Option Int → Hp → VK → Prop} {QO : Option Int → Hp → Prop} {iI : Int} {rm : V → List V → Hp → VK → Prop} {T : String}
theorem n_c  : xE (tC v) σ Q = Q v := rfl
def kOp1 (r : R2) (tb : TE) (σ : L2.St) (Q : VK) : VK := fun v H => tb σ H fun y H2 => r v y H2 Q
def kOp2 (r : R2) (v : V) (Q : VK) : VK := fun y H => r v y H Q
theorem n_op  : xE (tOp r ta tb) σ Q = xE ta σ (kOp1 r tb σ Q) := rfl
theorem n_op1  : kOp1 r tb σ Q v = xE tb σ (kOp2 r v Q) := rfl
theorem n_op2  : kOp2 r v Q y = x2 r v y Q := rfl
def kUn (r : V → Hp → VK → Prop) (Q : VK) : VK := fun v H => r v H Q
theorem n_un {r : V → Hp → VK → Prop} : xE (tUn r ta) σ Q = xE ta σ (kUn r Q) := rfl
theorem n_un1 {r : V → Hp → VK → Prop} : kUn r Q v = x1 r v Q := rfl
def kCB (r : List V → Hp → VK → Prop) (Q : VK) : List V → Hp → Prop := fun vs H => r vs H Q
theorem n_cb {r : List V → Hp → VK → Prop} : xE (tCB r t) σ Q = xA t σ (kCB r Q) := rfl
theorem n_cb1 {r : List V → Hp → VK → Prop} : kCB r Q vs = xB r vs Q := rfl
def kCons1 (t : TA) (σ : L2.St) (QA : List V → Hp → Prop) : VK := fun v H => t σ H fun xs H2 => QA (v :: xs) H2
def kCons2 (v : V) (QA : List V → Hp → Prop) : List V → Hp → Prop := fun xs H2 => QA (v :: xs) H2
theorem n_nil  : xA tNil σ QA = QA [] := rfl
theorem n_cons  : xA (tCons te t) σ QA = xE te σ (kCons1 t σ QA) := rfl
theorem n_cons1  : kCons1 t σ QA v = xA t σ (kCons2 v QA) := rfl
theorem n_cons2  : kCons2 v QA vs = QA (v :: vs) := rfl
theorem n_test  : xT (tTest te) σ QB = xE te σ (BlK QB) := rfl
theorem n_tB  : xT (tB te) σ QB = xE te σ (BlK QB) := rfl
theorem n_bl  : BlK QB (.bl b) = QB b := funext fun H => propext ⟨fun ⟨c, e, q⟩ => by cases e; exact q, fun q => ⟨b, rfl, q⟩⟩
def kAnd (tu : TT) (σ : L2.St) (QB : Bool → Hp → Prop) : Bool → Hp → Prop := fun c H => if c = true then tu σ H QB else QB false H
def kOr (tu : TT) (σ : L2.St) (QB : Bool → Hp → Prop) : Bool → Hp → Prop := fun c H => if c = true then QB true H else tu σ H QB
def kNot (QB : Bool → Hp → Prop) : Bool → Hp → Prop := fun c H => QB (!c) H
theorem n_and  : xT (tAnd tt tu) σ QB = xT tt σ (kAnd tu σ QB) := rfl
theorem n_andT  : kAnd tu σ QB true = xT tu σ QB := rfl
theorem n_andF  : kAnd tu σ QB false = QB false := rfl
theorem n_or  : xT (tOr tt tu) σ QB = xT tt σ (kOr tu σ QB) := rfl
theorem n_orT  : kOr tu σ QB true = QB true := rfl
theorem n_orF  : kOr tu σ QB false = xT tu σ QB := rfl
theorem n_not  : xT (tNot tt) σ QB = xT tt σ (kNot QB) := rfl
theorem n_not1  : kNot QB b = QB (!b) := rfl
def kAndV (tb : TE) (σ : L2.St) (Q : VK) : Bool → Hp → Prop := fun c H => if c = true then tb σ H Q else Q (.bl false) H
def kOrV (tb : TE) (σ : L2.St) (Q : VK) : Bool → Hp → Prop := fun c H => if c = true then Q (.bl true) H else tb σ H Q
def kNotV (Q : VK) : Bool → Hp → Prop := fun c H => Q (.bl (!c)) H
theorem n_andV  : xE (tAndV ta tb) σ Q = xE ta σ (BlK (kAndV tb σ Q)) := rfl
theorem n_andVT  : kAndV tb σ Q true = xE tb σ Q := rfl
theorem n_andVF  : kAndV tb σ Q false = Q (.bl false) := rfl
theorem n_orV  : xE (tOrV ta tb) σ Q = xE ta σ (BlK (kOrV tb σ Q)) := rfl
theorem n_orVT  : kOrV tb σ Q true = Q (.bl true) := rfl
theorem n_orVF  : kOrV tb σ Q false = xE tb σ Q := rfl
theorem n_notV  : xE (tNotV ta) σ Q = xE ta σ (BlK (kNotV Q)) := rfl
theorem n_notV1  : kNotV Q b = Q (.bl (!b)) := rfl
def kIfx (ta tb : TE) (σ : L2.St) (Q : VK) : Bool → Hp → Prop := fun c H => if c = true then ta σ H Q else tb σ H Q
theorem n_ifx  : xE (tIf tt ta tb) σ Q = xT tt σ (kIfx ta tb σ Q) := rfl
theorem n_ifxT  : kIfx ta tb σ Q true = xE ta σ Q := rfl
theorem n_ifxF  : kIfx ta tb σ Q false = xE tb σ Q := rfl
def kCh (r' : R2) (y : V) (tc : TE) (σ : L2.St) (Q : VK) : Bool → Hp → Prop := fun c H => if c = true then (tc σ H fun w' H4 => r' y w' H4 Q) else Q (.bl false) H
def kCh1 (r r' : R2) (tb tc : TE) (σ : L2.St) (Q : VK) : VK := fun x H1 => tb σ H1 fun y H2 => r x y H2 (BlK (kCh r' y tc σ Q))
def kCh2 (r r' : R2) (x : V) (tc : TE) (σ : L2.St) (Q : VK) : VK := fun y H2 => r x y H2 (BlK (kCh r' y tc σ Q))
theorem n_ch  : xE (tChain r r' ta tb tc) σ Q = xE ta σ (kCh1 r r' tb tc σ Q) := rfl
theorem n_ch1  : kCh1 r r' tb tc σ Q x = xE tb σ (kCh2 r r' x tc σ Q) := rfl
theorem n_ch2  : kCh2 r r' x tc σ Q y = x2 r x y (BlK (kCh r' y tc σ Q)) := rfl
theorem n_chT  : kCh r' y tc σ Q true = xE tc σ (kOp2 r' y Q) := rfl
theorem n_chF  : kCh r' y tc σ Q false = Q (.bl false) := rfl
theorem n_tup  : xE (tTup t) σ Q = xA t σ (TupK Q) := rfl
theorem n_lst  : xE (tLst t) σ Q = xA t σ (LstK Q) := rfl
theorem n_fld {f : Str} : xE (tFld K ta f) σ Q = xE ta σ (FldK K f Q) := rfl
def kMeth (t : TA) (σ : L2.St) (sp : Sp) (dvs : List V) (E : XK) (Q : VK) : V → Hp → Prop := fun x H1 => t σ H1 fun vs H2 => sp (x :: (vs ++ dvs)) H2 Q E
def kCall (sp : Sp) (dvs : List V) (E : XK) (Q : VK) : List V → Hp → Prop := fun vs H1 => sp (vs ++ dvs) H1 Q E
def kMeth1 (x : V) (sp : Sp) (dvs : List V) (E : XK) (Q : VK) : List V → Hp → Prop := fun vs H1 => sp (x :: (vs ++ dvs)) H1 Q E
theorem n_meth {C : Addr} {m : Str} : xE (tMeth C m sp dvs E ta t) σ Q = xE ta σ (MethK C m (kMeth t σ sp dvs E Q)) := rfl
theorem n_meth1  : kMeth t σ sp dvs E Q x = xA t σ (kMeth1 x sp dvs E Q) := rfl
theorem n_meth2  : kMeth1 x sp [] E Q vs = xP sp (x :: vs) Q E := by show (fun H1 => sp (x :: (vs ++ [])) H1 Q E) = _; rw [List.append_nil]; rfl
theorem n_call  : xE (tCall sp dvs E t) σ Q = xA t σ (kCall sp dvs E Q) := rfl
theorem n_call1  : kCall sp [] E Q vs = xP sp vs Q E := by show (fun H1 => sp (vs ++ []) H1 Q E) = _; rw [List.append_nil]; rfl
theorem n_make {C : Addr} : xE (tMake C sp dvs E t) σ Q = xA t σ (MakeK C sp dvs E Q) := rfl
def kIx (te : TE) (tl th : TO) (r : V → Option Int → Option Int → Hp → VK → Prop) (σ : L2.St) (Q : VK) : VK := fun x H1 => tl σ H1 fun l H2 => th σ H2 fun u H3 => r x l u H3 Q
def kSl1 (tl th : TO) (r : V → Option Int → Option Int → Hp → VK → Prop) (σ : L2.St) (Q : VK) : VK := fun x H1 => tl σ H1 fun l H2 => th σ H2 fun u H3 => r x l u H3 Q
def kSl2 (x : V) (th : TO) (r : V → Option Int → Option Int → Hp → VK → Prop) (σ : L2.St) (Q : VK) : Option Int → Hp → Prop := fun l H2 => th σ H2 fun u H3 => r x l u H3 Q
def kSl3 (x : V) (l : Option Int) (r : V → Option Int → Option Int → Hp → VK → Prop) (Q : VK) : Option Int → Hp → Prop := fun u H3 => r x l u H3 Q
theorem n_sl  : xE (tSl rs te tl th) σ Q = xE te σ (kSl1 tl th rs σ Q) := rfl
theorem n_sl1  : kSl1 tl th rs σ Q x = xO tl σ (kSl2 x th rs σ Q) := rfl
theorem n_sl2  : kSl2 x th rs σ Q l = xO th σ (kSl3 x l rs Q) := rfl
theorem n_sl3  : kSl3 x l rs Q u = xSl rs x l u Q := rfl
theorem n_nopart  : xO tNoPart σ QO = QO none := rfl
theorem n_part  : xO (tPart te) σ QO = xE te σ (PartK QO) := rfl
theorem n_part1  : PartK QO (.int iI) = QO (some iI) := funext fun H => propext ⟨fun ⟨c, e, q⟩ => by cases e; exact q, fun q => ⟨iI, rfl, q⟩⟩
def kBM (K : PySem.W.Frag) (T : String) (r : V → List V → Hp → VK → Prop) (t : TA) (σ : L2.St) (Q : VK) : VK := fun x H1 => tyV K T x H1 ∧ t σ H1 fun xs H2 => r x xs H2 Q
def kBM1 (x : V) (r : V → List V → Hp → VK → Prop) (Q : VK) : List V → Hp → Prop := fun xs H2 => r x xs H2 Q
theorem n_bm  : xE (tBM K T rm ta t) σ Q = xE ta σ (kBM K T rm t σ Q) := rfl
theorem n_bm1  : kBM K T rm t σ Q x = xTy K T x (xA t σ (kBM1 x rm Q)) := rfl
theorem n_bm2  : kBM1 x rm Q vs = xM rm x vs Q := rfl
def kBM0 (K : PySem.W.Frag) (T : String) (r : V → List V → Hp → VK → Prop) (Q : VK) : VK := fun x H1 => tyV K T x H1 ∧ r x [] H1 Q
theorem n_bm0  : xE (tBM0 K T rm ta) σ Q = xE ta σ (kBM0 K T rm Q) := rfl
theorem n_bm01  : kBM0 K T rm Q x = xTy K T x (xM rm x [] Q) := rfl
theorem n_tyS {z : Str} : xTy K "str" (.str z) P = P := funext fun H => propext ⟨fun q => q.2, fun q => ⟨rfl, q⟩⟩
def kS (u : TS) (nx : L2.St → Hp → Prop) (rt : VK) (bk ct : L2.St → Hp → Prop) : L2.St → Hp → Prop := fun σ H => u ⟨nx, rt, bk, ct⟩ σ H
theorem n_seq  : xS (tSeq ts tv) nx rt bk ct σ = xS ts (kS tv nx rt bk ct) rt bk ct σ := rfl
theorem n_kS  : kS ts nx rt bk ct σ = xS ts nx rt bk ct σ := rfl
theorem n_next  : xS tNext nx rt bk ct σ = nx σ := rfl
theorem n_brk  : xS tBreak nx rt bk ct σ = bk σ := rfl
theorem n_cont  : xS tCont nx rt bk ct σ = ct σ := rfl
theorem n_ret  : xS (tRet te) nx rt bk ct σ = xE te σ rt := rfl
theorem n_retN  : xS tRetN nx rt bk ct σ = rt .non := rfl
def kDrop (nx : L2.St → Hp → Prop) (σ : L2.St) : VK := fun _ H => nx σ H
theorem n_drop  : xS (tDrop te) nx rt bk ct σ = xE te σ (kDrop nx σ) := rfl
theorem n_drop1  : kDrop nx σ v = nx σ := rfl
def kAsg (g : TG) (σ : L2.St) (nx : L2.St → Hp → Prop) : VK := fun x H1 => g x σ H1 nx
theorem n_asg  : xS (tAsg te g) nx rt bk ct σ = xE te σ (kAsg g σ nx) := rfl
theorem n_asg1  : kAsg g σ nx v = xG g v σ nx := rfl
def kIf (ts tv : TS) (nx : L2.St → Hp → Prop) (rt : VK) (bk ct : L2.St → Hp → Prop) (σ : L2.St) : Bool → Hp → Prop := fun c H => if c = true then ts ⟨nx, rt, bk, ct⟩ σ H else tv ⟨nx, rt, bk, ct⟩ σ H
theorem n_if  : xS (tIfS tt ts tv) nx rt bk ct σ = xT tt σ (kIf ts tv nx rt bk ct σ) := rfl
theorem n_ifT  : kIf ts tv nx rt bk ct σ true = xS ts nx rt bk ct σ := rfl
theorem n_ifF  : kIf ts tv nx rt bk ct σ false = xS tv nx rt bk ct σ := rfl
def kPar (i j : Nat) (nx : L2.St → Hp → Prop) (σ : L2.St) : List V → Hp → Prop := fun vs H1 => ∃ v w, vs = [v, w] ∧ nx ((σ.set i (some v)).set j (some w)) H1
def kPar1 (i j : Nat) (v w : V) (σ : L2.St) (nx : L2.St → Hp → Prop) : Hp → Prop := fun H1 => nx ((σ.set i (some v)).set j (some w)) H1
theorem n_par {i j : Nat} : xS (tPar i j t) nx rt bk ct σ = xA t σ (kPar i j nx σ) := rfl
def kSet (j : Nat) (y : V) (nx : L2.St → Hp → Prop) : L2.St → Hp → Prop := fun σ H => nx (σ.set j (some y)) H
theorem n_par1 {i j : Nat} : kPar i j nx σ [x, y] = xG (gName i) x σ (kSet j y nx) := funext fun H => propext ⟨fun ⟨v, w, e, q⟩ => by cases e; exact q, fun q => ⟨x, y, rfl, q⟩⟩
theorem n_kSet {j : Nat} : kSet j y nx σ = xG (gName j) y σ nx := rfl
def kAug (i : Nat) (te : TE) (ti : TIp) (σ : L2.St) (nx : L2.St → Hp → Prop) : VK := fun x H => te σ H fun y H1 => ti x y H1 fun z H2 => nx (σ.set i (some z)) H2
def kAug1 (i : Nat) (x : V) (ti : TIp) (σ : L2.St) (nx : L2.St → Hp → Prop) : VK := fun y H1 => ti x y H1 fun z H2 => nx (σ.set i (some z)) H2
theorem n_aug {i : Nat} {ti : TIp} : xS (tAug i te ti) nx rt bk ct σ = xE (tVar i) σ (kAug i te ti σ nx) := rfl
theorem n_aug1 {i : Nat} {ti : TIp} : kAug i te ti σ nx x = xE te σ (kAug1 i x ti σ nx) := rfl
theorem n_aug2 {i : Nat} {ti : TIp} : kAug1 i x ti σ nx y = xIp ti x y (kAsg (gName i) σ nx) := rfl
def kFldS (K : PySem.W.Frag) (ta : TE) (f : Str) (nx : L2.St → Hp → Prop) (σ : L2.St) : VK := fun y H1 => ta σ H1 (SFldK K f y ⟨nx, fun _ _ => False, fun _ _ => False, fun _ _ => False⟩ σ)
def kFldS1 (K : PySem.W.Frag) (f : Str) (y : V) (nx : L2.St → Hp → Prop) (σ : L2.St) : VK := fun x H2 => ∃ a C dx fs, x = .ref a ∧ H2 a = some (.ins C dx fs) ∧ Cls K C ∧ NoAttr K C f ∧ fs.length < 1000 ∧ nx σ (upd H2 a (.ins C dx (putF f y fs)))
theorem n_sfld {f : Str} : xS (sFld K ta te f) nx rt bk ct σ = xE te σ (kFldS K ta f nx σ) := rfl
theorem n_sfld1 {f : Str} : kFldS K ta f nx σ y = xE ta σ (kFldS1 K f y nx σ) := rfl
def kGs1 (u : TGs) (xs : List V) (N : L2.St → Hp → Prop) : L2.St → Hp → Prop := fun σ' H' => u xs σ' H' N
theorem n_gc  : xGs (gCons g gs) (v :: xs) σ N = xG g v σ (kGs1 gs xs N) := funext fun H => propext ⟨fun ⟨v', r, e, q⟩ => by cases e; exact q, fun q => ⟨v, xs, rfl, q⟩⟩
theorem n_gs1  : kGs1 gs xs N σ = xGs gs xs σ N := rfl
theorem n_g0  : xGs gNil [] σ N = N σ := funext fun H => propext ⟨fun q => q.2, fun q => ⟨rfl, q⟩⟩
def kGt (u : TGs) (n : Nat) (σ : L2.St) (N : L2.St → Hp → Prop) (xs : List V) : Hp → Prop := fun H => xs.length = n ∧ u xs σ H N
def kSub1 (ti : TE) (st : TSet) (v : V) (σ : L2.St) (N : L2.St → Hp → Prop) : VK := fun o H1 => ti σ H1 fun i H2 => st o i v H2 fun H3 => N σ H3
def kSub2 (o : V) (st : TSet) (v : V) (σ : L2.St) (N : L2.St → Hp → Prop) : VK := fun i H2 => st o i v H2 fun H3 => N σ H3
theorem n_gsub {to ti : TE} {st : TSet} : xG (gSub to ti st) v σ N = xE to σ (kSub1 ti st v σ N) := rfl
theorem n_gsub1 {ti : TE} {st : TSet} : kSub1 ti st v σ N x = xE ti σ (kSub2 x st v σ N) := rfl
theorem n_gsub2 {st : TSet} : kSub2 x st v σ N y = xSt st x y v (N σ) := rfl
def kFor (g : TG) (tb : TS) (nx : L2.St → Hp → Prop) (rt : VK) (bk ct : L2.St → Hp → Prop) (σ : L2.St) : It → Hp → Prop := fun J H1 => ForW J g tb ⟨nx, rt, bk, ct⟩ σ H1
theorem n_for {wi : TI} {tb : TS} : xS (tFor wi g tb) nx rt bk ct σ = xI wi σ (kFor g tb nx rt bk ct σ) := rfl
theorem n_r1  : xI (iRng1 t) σ R = xA t σ (Rng1K R) := rfl
theorem n_r2  : xI (iRng2 t) σ R = xA t σ (Rng2K R) := rfl
theorem n_r3  : xI (iRng3 t) σ R = xA t σ (Rng3K R) := rfl
theorem n_any  : xI (iAny K te) σ R = xE te σ (IterK K R) := rfl
theorem n_enS  : xI (iEnumS t) σ R = xA t σ (EnumSK R) := rfl
theorem n_en  : xI (iEnum K t) σ R = xA t σ (EnumK K R) := rfl
theorem n_itS {z : Str} : IterK K R (.str z) = R (Its z) := funext fun H => propext ⟨fun h => (by rcases h with ⟨_, _, e, _⟩ | ⟨_, _, e, _⟩ | ⟨z', e, q⟩ <;> cases e; exact q), fun q => .inr (.inr ⟨z, rfl, q⟩)⟩
def kLc (g : TG) (tt : TT) (te : TE) (ws : List Nat) (σ : L2.St) (Q : VK) : It → Hp → Prop := fun J H1 => LcW J g tt te ws σ Q H1
theorem n_lc {wi : TI} {ws : List Nat} : xE (tLc wi g tt te ws) σ Q = xI wi σ (kLc g tt te ws σ Q) := rfl
theorem n_yes  : xT tYes σ QB = QB true := rfl
theorem n_v0 {s : L2.St} : xE (tVar 0) (some v :: s) Q = Q v := funext fun H => propext ⟨fun ⟨w, e, q⟩ => by cases e; exact q, fun q => ⟨v, rfl, q⟩⟩
theorem n_vs {s : L2.St} {a : Option V} {i : Nat} : xE (tVar (i + 1)) (a :: s) Q = xE (tVar i) s Q := rfl
theorem n_g0_ {s : L2.St} {a : Option V} : xG (gName 0) v (a :: s) N = N (some v :: s) := rfl
def kPre (a : Option V) (N : L2.St → Hp → Prop) : L2.St → Hp → Prop := fun s H => N (a :: s) H
theorem n_gs {s : L2.St} {a : Option V} {i : Nat} : xG (gName (i + 1)) v (a :: s) N = xG (gName i) v s (kPre a N) := rfl
theorem n_pre {s : L2.St} {a : Option V} : kPre a N s = N (a :: s) := rfl
end
end AL

/-! EN2: the machine's steps that look at values or at the ledger. -/
namespace AL
open PySem PySem.Spec PyProof.Rows L2
/-- an assertion may be weakened as it is taken -/
theorem Rem.weak {A B : Asn} {L : List Asn} (h : ∀ H, A H → B H) : ∀ {H : Hp}, Star (A :: L) H → Star (B :: L) H := fun s => s.head h
/-- what is taken out of the ledger, weakened if need be -/
structure Tk (L : List Asn) (A : Asn) (L0 : List Asn) : Prop where
  ok : ∀ H, Star L H → Star (A :: L0) H
theorem Tk.here {A : Asn} {L : List Asn} : Tk (A :: L) A L := ⟨fun _ h => h⟩
theorem Tk.dup {A : Asn} {L : List Asn} (d : Dup A) : Tk (A :: L) A (A :: L) := ⟨fun _ h => h.dup d⟩
theorem Tk.weak {A B : Asn} {L : List Asn} (h : ∀ H, A H → B H) : Tk (A :: L) B L := ⟨fun _ s => s.head h⟩
theorem Tk.weakD {A B : Asn} {L : List Asn} (d : Dup A) (h : ∀ H, A H → B H) : Tk (A :: L) B (A :: L) := ⟨fun _ s => (s.dup d).head h⟩
theorem Tk.there {A C : Asn} {L L0 : List Asn} (r : Tk L A L0) : Tk (C :: L) A (C :: L0) := ⟨fun _ h => (h.tail fun _ t => r.ok _ t).swap⟩
inductive Tks : List Asn → List Asn → List Asn → Prop where
  | nil {L : List Asn} : Tks L [] L
  | cons {L L1 R As : List Asn} {A : Asn} : Tk L A L1 → Tks L1 As R → Tks L (A :: As) R
theorem Tks.ok {L M R : List Asn} (s : Tks L M R) : ∀ {H : Hp}, Star L H → Star (M ++ R) H := by
  induction s with
  | nil => intro H h; exact h
  | cons r _ ih => intro H h; exact (r.ok _ h).tail fun _ t => ih t
theorem Ent.ofT {L M R : List Asn} (s : Tks L M R) : Ent L M := fun _ h => (s.ok h).dropR
theorem Ent.nil {L : List Asn} : Ent L [] := fun _ _ => trivial
theorem Tri.useT (S : Tri) {L R : List Asn} {vs : List V} {Q : VK} {E : XK} (g : S.G) (hv : vs = S.args g) (hc : S.cond g) (s : Tks L (S.pre g) R)
    (k : ∀ o, S.ok g o → Al (S.post g o ++ R) (Q (S.res g o))) (kx : ∀ c d M, S.exc g c d M → Al (M ++ R) (E c d) := by intro _ _ _ h; exact h.elim) :
    Al L (xP S.sp vs Q E) := fun H h =>
  ⟨g, Star R, hv, hc, Ent.wrap _ (s.ok h), fun o ho => (k o ho).ent Ent.unwrap, fun c d M hm => (kx c d M hm).ent Ent.unwrap⟩
theorem e_end {L M R : List Asn} {Q : Hp → Prop} (s : Tks L M R) (k : Al M Q) : Al L Q := k.ent (Ent.ofT s)
theorem e_start {L : List Asn} {t : TS} {nx : L2.St → Hp → Prop} {rt : VK} {bk ct : L2.St → Hp → Prop} {σ : L2.St} (σ' : L2.St) (e : σ = σ') (k : Al L (xS t nx rt bk ct σ')) : Al L (fun H => t ⟨nx, rt, bk, ct⟩ σ H) := by rw [e]; exact k
/-- an instance of an own class -/
def Ob (a C : Addr) (fs : List (Str × V)) : Asn := fun H => ∃ dx, H a = some (.ins C dx fs)
theorem Ob.at {L L0 : List Asn} {a C : Addr} {fs : List (Str × V)} {H : Hp} (r : Tk L (Ob a C fs) L0) (s : Star L H) : ∃ dx, H a = some (.ins C dx fs) := by
  obtain ⟨H1, k, dx, e⟩ := (r.ok _ s).get
  exact ⟨dx, k _ _ e⟩
theorem Ob.set {L : List Asn} {a C : Addr} {fs fs' : List (Str × V)} {H : Hp} (s : Star (Ob a C fs :: L) H) : ∃ dx, H a = some (.ins C dx fs) ∧ Star (Ob a C fs' :: L) (upd H a (.ins C dx fs')) := by
  obtain ⟨H1, H2, sp, ⟨dx, e⟩, t⟩ := s
  have s' : Star (pt a (.ins C dx fs) :: L) H := ⟨H1, H2, sp, e, t⟩
  exact ⟨dx, s'.at, (s'.set (.ins C dx fs') id).head fun _ q => ⟨dx, q⟩⟩
theorem Tk.pat {L L0 : List Asn} {p : Addr} {o : HO} {H : Hp} (r : Tk L (pt p o) L0) (s : Star L H) : H p = some o := (r.ok _ s).at
theorem Ldg.tk {L L0 : List Asn} {K : PySem.W.Frag} {a : Addr} {xs : List V} (r : Tk L (AL.pt a (.lst xs)) L0) : Ldg L K a xs := ⟨fun H s => SqL.of (r.pat s)⟩
theorem Ldg.tkq {L L0 : List Asn} {K : PySem.W.Frag} {a : Addr} {xs : List V} (r : Tk L (AL.sq K a xs) L0) : Ldg L K a xs := ⟨fun H s => by
  obtain ⟨H1, h1, q⟩ := (r.ok _ s).get
  rcases (show SqL K H1 a xs from q) with (q | ⟨o, q⟩) | q
  · exact .inl (.inl (h1 _ _ q))
  · exact .inl (.inr ⟨o, h1 _ _ q⟩)
  · exact .inr q⟩
theorem LdgT.tk {L L0 : List Asn} {K : PySem.W.Frag} {a : Addr} {xs : List V} (r : Tk L (AL.pt a (.tup xs)) L0) : LdgT L K a xs := ⟨fun H s => SqT.of (r.pat s)⟩
/-- the tuple at a can be read, may be had twice -/
def FzT (K : PySem.W.Frag) (a : Addr) (xs : List V) : Asn := fun H => H a = some (.tup xs) ∨ ∀ H', SqT K H' a xs
theorem FzT.dup {K : PySem.W.Frag} {a : Addr} {xs : List V} : Dup (FzT K a xs) := fun H h => by
  rcases h with h | h
  · exact ⟨one a (.tup xs), fun x u e => by obtain ⟨rfl, rfl⟩ := one_some e; exact ⟨h, trivial⟩, .inl one_same⟩
  · exact ⟨fun _ => none, fun _ _ e => (nomatch e), .inr h⟩
theorem FzT.sq {K : PySem.W.Frag} {a : Addr} {xs : List V} {H1 H : Hp} (h1 : ∀ a o, H1 a = some o → H a = some o) (h : FzT K a xs H1) : SqT K H a xs := by
  rcases h with h | h
  · exact SqT.of (h1 _ _ h)
  · exact h H
theorem LdgT.tkf {L L0 : List Asn} {K : PySem.W.Frag} {a : Addr} {xs : List V} (r : Tk L (FzT K a xs) L0) : LdgT L K a xs := ⟨fun H s => by
  obtain ⟨H1, h1, q⟩ := (r.ok _ s).get
  exact FzT.sq h1 q⟩
section
variable {L L0 R L1 : List Asn} {σ σ' : L2.St} {Q : VK} {K : PySem.W.Frag} {te ta tb tc : TE} {tt tu : TT} {t : TA} {ts tv : TS} {v x y : V} {nx : L2.St → Hp → Prop} {rt : VK} {bk ct : L2.St → Hp → Prop} {QB : Bool → Hp → Prop} {QA : List V → Hp → Prop} {RI : It → Hp → Prop} {N : L2.St → Hp → Prop} {vs xs ys : List V} {r r' : R2} {b : Bool} {g : TG} {gs : TGs} {P : Hp → Prop} {i j : Int} {n : Nat} {a p q C : Addr} {z w : Str} {fs fs' : List (Str × V)} {f : Str} {kvs : List (Key × V)} {κ : Key}
/-! ### operators -/
theorem g_x2 (k : Al L (x2 r v y Q)) : Al L (x2 r v y Q) := k
theorem g_xB {r : List V → Hp → VK → Prop} (k : Al L (xB r vs Q)) : Al L (xB r vs Q) := k
theorem g_xM {r : V → List V → Hp → VK → Prop} (k : Al L (xM r x vs Q)) : Al L (xM r x vs Q) := k
theorem e_add_ii (k : Al L (Q (.int (i + j)))) : Al L (x2 (bAdd K) (.int i) (.int j) Q) := a_add_ii k
theorem e_add_ss (hz : z.length + w.length ≤ sizeLine) (k : Al L (Q (.str (z ++ w)))) : Al L (x2 (bAdd K) (.str z) (.str w) Q) := a_add_ss hz k
theorem e_add_ll (r : Tk L (pt p (.lst xs)) L0) (r' : Tk L (pt q (.lst ys)) L1) (hz : xs.length + ys.length ≤ sizeLine) (k : ∀ c, Al (pt c (.lst (xs ++ ys)) :: L) (Q (.ref c))) : Al L (x2 (bAdd K) (.ref p) (.ref q) Q) :=
  fun H s => .inr (.inr (.inl ⟨p, q, xs, ys, rfl, rfl, r.pat s, r'.pat s, hz, fun c hc => k c _ (s.new hc)⟩))
theorem e_add_tt (h : LdgT L K p xs) (h' : LdgT L K q ys) (hz : xs.length + ys.length ≤ sizeLine) (hx : xs ≠ []) (hy : ys ≠ []) (k : ∀ c, Al (pt c (.tup (xs ++ ys)) :: L) (Q (.ref c))) : Al L (x2 (bAdd K) (.ref p) (.ref q) Q) := a_add_tt h h' hz hx hy k
theorem e_sub (k : Al L (Q (.int (i - j)))) : Al L (x2 bSub (.int i) (.int j) Q) := a_sub k
theorem e_mul (hc : CMul i j) (k : Al L (Q (.int (i * j)))) : Al L (x2 bMul (.int i) (.int j) Q) := a_mul hc k
theorem e_rep (r : Tk L (pt p (.lst xs)) L0) (h1 : -(2 ^ 63) ≤ j) (h2 : j < 2 ^ 63) (hz : xs.length * j.toNat ≤ sizeLine) (k : ∀ c, Al (pt c (.lst (List.replicate j.toNat xs).flatten) :: L) (Q (.ref c))) : Al L (x2 bMul (.ref p) (.int j) Q) :=
  fun H s => .inr ⟨p, j, xs, rfl, rfl, r.pat s, h1, h2, hz, fun c hc => k c _ (s.new hc)⟩
theorem e_fdiv (hc : CDivW i j) (k : Al L (Q (.int (i / j)))) : Al L (x2 bDiv (.int i) (.int j) Q) := a_fdiv hc k
theorem e_mod (hc : 0 < j) (k : Al L (Q (.int (i % j)))) : Al L (x2 bMod (.int i) (.int j) Q) := a_mod hc k
theorem e_pow (hc : CPow i j) (k : Al L (Q (.int (i ^ j.toNat)))) : Al L (x2 bPow (.int i) (.int j) Q) := a_pow hc k
theorem e_shl (hc : CPow i j) (k : Al L (Q (.int (i * 2 ^ j.toNat)))) : Al L (x2 bShl (.int i) (.int j) Q) := a_shl hc k
theorem e_shr (hc : 0 ≤ j) (k : Al L (Q (.int (i / 2 ^ j.toNat)))) : Al L (x2 bShr (.int i) (.int j) Q) := a_shr hc k
theorem e_neg (k : Al L (Q (.int (-i)))) : Al L (x1 (rU fun i => .int (-i)) (.int i) Q) := a_neg k
theorem e_lt (k : Al L (Q (.bl (decide (i < j))))) : Al L (x2 cLt (.int i) (.int j) Q) := a_lt k
theorem e_lts (k : Al L (Q (.bl (decide (z.cps.toList < w.cps.toList))))) : Al L (x2 cLt (.str z) (.str w) Q) := a_lts k
theorem e_le (k : Al L (Q (.bl (decide (i ≤ j))))) : Al L (x2 cLe (.int i) (.int j) Q) := a_le k
theorem e_les (k : Al L (Q (.bl (!decide (w.cps.toList < z.cps.toList))))) : Al L (x2 cLe (.str z) (.str w) Q) := a_les k
theorem e_gt (k : Al L (Q (.bl (decide (j < i))))) : Al L (x2 cGt (.int i) (.int j) Q) := a_gt k
theorem e_ge (k : Al L (Q (.bl (decide (j ≤ i))))) : Al L (x2 cGe (.int i) (.int j) Q) := a_ge k
theorem dec_int : decide ((V.int i) = V.int j) = decide (i = j) := decide_eq_decide.mpr ⟨fun e => by cases e; rfl, fun e => by rw [e]⟩
theorem dec_str : decide ((V.str z) = V.str w) = decide (z = w) := decide_eq_decide.mpr ⟨fun e => by cases e; rfl, fun e => by rw [e]⟩
theorem e_eq_ii (k : Al L (Q (.bl (decide (i = j))))) : Al L (x2 (cEq K) (.int i) (.int j) Q) := a_ceq rfl (by rw [dec_int]; exact k)
theorem e_eq_ss (k : Al L (Q (.bl (decide (z = w))))) : Al L (x2 (cEq K) (.str z) (.str w) Q) := a_ceq rfl (by rw [dec_str]; exact k)
theorem e_ne_ii (k : Al L (Q (.bl (!decide (i = j))))) : Al L (x2 (cNe K) (.int i) (.int j) Q) := a_cne rfl (by rw [dec_int]; exact k)
theorem e_ne_ss (k : Al L (Q (.bl (!decide (z = w))))) : Al L (x2 (cNe K) (.str z) (.str w) Q) := a_cne rfl (by rw [dec_str]; exact k)
theorem e_eq_is (k : Al L (Q (.bl false))) : Al L (x2 (cEq K) (.int i) (.str z) Q) := a_ceq rfl k
theorem e_eq_si (k : Al L (Q (.bl false))) : Al L (x2 (cEq K) (.str z) (.int i) Q) := a_ceq rfl k
theorem e_ne_is (k : Al L (Q (.bl true))) : Al L (x2 (cNe K) (.int i) (.str z) Q) := a_cne rfl k
theorem e_ne_si (k : Al L (Q (.bl true))) : Al L (x2 (cNe K) (.str z) (.int i) Q) := a_cne rfl k
theorem e_eq (hs : scal x y = true) (k : Al L (Q (.bl (decide (x = y))))) : Al L (x2 (cEq K) x y Q) := a_ceq hs k
theorem e_ne (hs : scal x y = true) (k : Al L (Q (.bl (!decide (x = y))))) : Al L (x2 (cNe K) x y Q) := a_cne hs k
theorem e_is_n (k : Al L (Q (.bl true))) : Al L (x2 cIs .non .non Q) := a_isN k
theorem e_is_i (k : Al L (Q (.bl false))) : Al L (x2 cIs (.int i) .non Q) := a_isN k
theorem e_is_s (k : Al L (Q (.bl false))) : Al L (x2 cIs (.str z) .non Q) := a_isN k
theorem e_is_b (k : Al L (Q (.bl false))) : Al L (x2 cIs (.bl b) .non Q) := a_isN k
theorem e_is_r (k : Al L (Q (.bl false))) : Al L (x2 cIs (.ref p) .non Q) := a_isN k
theorem e_is (k : Al L (Q (.bl (decide (x = .non))))) : Al L (x2 cIs x .non Q) := a_isN k
theorem e_isnt_n (k : Al L (Q (.bl false))) : Al L (x2 cNot .non .non Q) := a_notN k
theorem e_isnt_i (k : Al L (Q (.bl true))) : Al L (x2 cNot (.int i) .non Q) := a_notN k
theorem e_isnt_s (k : Al L (Q (.bl true))) : Al L (x2 cNot (.str z) .non Q) := a_notN k
theorem e_isnt_b (k : Al L (Q (.bl true))) : Al L (x2 cNot (.bl b) .non Q) := a_notN k
theorem e_isnt_r (k : Al L (Q (.bl true))) : Al L (x2 cNot (.ref p) .non Q) := a_notN k
theorem e_isnt (k : Al L (Q (.bl (!decide (x = .non))))) : Al L (x2 cNot x .non Q) := a_notN k
theorem e_inC {c : Nat} (k : Al L (Q (.bl (decide (c ∈ z.cps.toList))))) : Al L (x2 (cIn K) (.str ⟨#[c]⟩) (.str z) Q) := a_inC k
theorem e_notinC {c : Nat} (k : Al L (Q (.bl (!decide (c ∈ z.cps.toList))))) : Al L (x2 (cNotIn K) (.str ⟨#[c]⟩) (.str z) Q) := a_notinC k
theorem e_inD (r : Tk L (pt p (.dK kvs)) L0) (e : x = kV κ) (k : Al L (Q (.bl (valV kvs κ).isSome))) : Al L (x2 (cIn K) x (.ref p) Q) := fun H s => .inl ⟨p, _, rfl, by rw [e]; exact DGet.k (r.pat s), k H s⟩
theorem e_notinD (r : Tk L (pt p (.dK kvs)) L0) (e : x = kV κ) (k : Al L (Q (.bl (!(valV kvs κ).isSome)))) : Al L (x2 (cNotIn K) x (.ref p) Q) := fun H s => .inl ⟨p, _, rfl, by rw [e]; exact DGet.k (r.pat s), k H s⟩
theorem e_inL (h : Ldg L K p xs) (hx : flatV x = true) (hf : xs.all flatV = true) (k : Al L (Q (.bl (inV x xs)))) : Al L (x2 (cIn K) x (.ref p) Q) := a_inL h hx hf k
theorem e_inT (h : LdgT L K p xs) (hx : flatV x = true) (hf : xs.all flatV = true) (k : Al L (Q (.bl (inV x xs)))) : Al L (x2 (cIn K) x (.ref p) Q) := a_inT h hx hf k
theorem e_notinL (h : Ldg L K p xs) (hx : flatV x = true) (hf : xs.all flatV = true) (k : Al L (Q (.bl (!inV x xs)))) : Al L (x2 (cNotIn K) x (.ref p) Q) := a_notinL h hx hf k
theorem e_xL (h : Ldg L K a xs) (hv : atI xs i = some v) (k : Al L (Q v)) : Al L (x2 (xIx K) (.ref a) (.int i) Q) := a_xL h hv k
theorem e_xT (h : LdgT L K a xs) (hv : atI xs i = some v) (k : Al L (Q v)) : Al L (x2 (xIx K) (.ref a) (.int i) Q) := a_xT h hv k
theorem e_xS {c : Nat} (hz : z.length ≤ sizeLine) (hv : atI z.cps.toList i = some c) (k : Al L (Q (.str ⟨#[c]⟩))) : Al L (x2 (xIx K) (.str z) (.int i) Q) := a_xS hz hv k
theorem e_xD (r : Tk L (pt p (.dK kvs)) L0) (e : x = kV κ) (hv : valV kvs κ = some v) (k : Al L (Q v)) : Al L (x2 (xIx K) (.ref p) x Q) := fun H s => .inr ⟨p, v, rfl, by rw [e, ← hv]; exact DGet.k (r.pat s), k H s⟩
theorem e_xI {ns : List Int} (k : Nat) (h : Ldg L K a (ns.map V.int)) (e : j = k) (hk : k < ns.length) (q : Al L (Q (.int (ns.getD k 0)))) : Al L (x2 (xIx K) (.ref a) (.int j) Q) := a_xI k h e hk q
theorem e_slL {lo hi : Option Int} (h : Ldg L K a xs) (k : ∀ c, Al (pt c (.lst (cutV xs lo hi)) :: L) (Q (.ref c))) : Al L (xSl (sIx K) (.ref a) lo hi Q) := a_slL h k
theorem e_slS {lo hi : Option Int} (hz : z.length ≤ sizeLine) (k : Al L (Q (.str (cutS z lo hi)))) : Al L (xSl (sIx K) (.str z) lo hi Q) := a_slS hz k
/-! ### stores -/
theorem e_setLl (r : Tk L (pt p (.lst xs)) L0) (hi : ixN xs.length j = some n) (k : Al (pt p (.lst (xs.set n v)) :: L0) P) : Al L (xSt sSet (.ref p) (.int j) v P) := fun H s => .inl ⟨p, xs, j, n, rfl, rfl, r.pat s, hi, k _ ((r.ok _ s).set _ id)⟩
theorem e_setT (r : Tk L (pt p (.lst xs)) L0) (h : SetL xs j v ys) (k : Al (pt p (.lst ys) :: L0) P) : Al L (xSt sSet (.ref p) (.int j) v P) := by
  obtain ⟨n, h1, h2⟩ := h.h
  exact e_setLl r h1 (by rw [h2]; exact k)
theorem e_setI {ns : List Int} {v : Int} (k : Nat) (r : Tk L (pt p (.lst (ns.map V.int))) L0) (e : j = k) (hk : k < ns.length) (q : Al (pt p (.lst ((ns.set k v).map V.int)) :: L0) P) : Al L (xSt sSet (.ref p) (.int j) (.int v) P) :=
  e_setLl r (ixN_of e (by rw [List.length_map]; exact hk)) (by rw [set_int]; exact q)
theorem e_setD (r : Tk L (pt p (.dK kvs)) L0) (e : x = kV κ) (hz : kvs.length < sizeLine) (k : Al (pt p (.dK (putK kvs κ v)) :: L0) P) : Al L (xSt sSet (.ref p) x v P) := fun H s => .inr ⟨p, _, rfl, by rw [e]; exact DPut.k (r.pat s) hz, k _ ((r.ok _ s).set _ id)⟩
/-! ### calls of what is built in -/
theorem e_len_s (hz : z.length ≤ sizeLine) (k : Al L (Q (.int z.length))) : Al L (xB (kLen K) [.str z] Q) := a_len_s hz k
theorem e_len_l (h : Ldg L K a xs) (k : Al L (Q (.int xs.length))) : Al L (xB (kLen K) [.ref a] Q) := a_len_l h k
theorem e_len_t (h : LdgT L K a xs) (k : Al L (Q (.int xs.length))) : Al L (xB (kLen K) [.ref a] Q) := a_len_t h k
theorem e_len_d (r : Tk L (pt a (.dK kvs)) L0) (k : Al L (Q (.int kvs.length))) : Al L (xB (kLen K) [.ref a] Q) := fun H s => .inr ⟨a, kvs, rfl, r.pat s, k H s⟩
theorem e_int_b (k : Al L (Q (.int (if b then 1 else 0)))) : Al L (xB kInt [.bl b] Q) := a_int_b k
theorem e_int_i (k : Al L (Q (.int i))) : Al L (xB kInt [.int i] Q) := fun H s => .inl (.inl ⟨i, rfl, k H s⟩)
theorem e_str_i (hz : i.natAbs.log2 < 1920) (k : Al L (Q (.str (toString i)))) : Al L (xB kStr [.int i] Q) := a_str_i hz k
theorem e_str_s (k : Al L (Q (.str z))) : Al L (xB kStr [.str z] Q) := fun H s => .inr ⟨z, rfl, k H s⟩
theorem e_list_l (h : Ldg L K a xs) (k : ∀ c, Al (pt c (.lst xs) :: L) (Q (.ref c))) : Al L (xB (kList K) [.ref a] Q) := a_list_l h k
theorem e_list_t (h : LdgT L K a xs) (k : ∀ c, Al (pt c (.lst xs) :: L) (Q (.ref c))) : Al L (xB (kList K) [.ref a] Q) := fun H s => .inl ⟨a, xs, rfl, .inr (h.q H s), fun c hc => k c _ (s.new hc)⟩
theorem e_list_d (r : Tk L (pt a (.dK kvs)) L0) (k : ∀ c, Al (pt c (.lst (kvs.map fun kv => kV kv.1)) :: L) (Q (.ref c))) : Al L (xB (kList K) [.ref a] Q) := fun H s => .inr ⟨a, kvs, rfl, .inl (r.pat s), fun c hc => k c _ (s.new hc)⟩
theorem e_tup_l (h : Ldg L K a xs) (k : ∀ c, Al (pt c (.tup xs) :: L) (Q (.ref c))) : Al L (xB (kTup K) [.ref a] Q) := fun H s => ⟨a, xs, rfl, .inl ⟨h.q H s, fun c hc => k c _ (s.new hc)⟩⟩
theorem e_tup_t (h : LdgT L K a xs) (k : Al L (Q (.ref a))) : Al L (xB (kTup K) [.ref a] Q) := fun H s => ⟨a, xs, rfl, .inr ⟨h.q H s, k H s⟩⟩
theorem e_abs (k : Al L (Q (.int (if i < 0 then -i else i)))) : Al L (xB kAbs [.int i] Q) := a_abs k
theorem e_min (k : Al L (Q (.int (if j < i then j else i)))) : Al L (xB kMin [.int i, .int j] Q) := a_min k
theorem e_max (k : Al L (Q (.int (if j > i then j else i)))) : Al L (xB kMax [.int i, .int j] Q) := a_max k
theorem e_divmod (hc : CDiv i j) (k : ∀ c, Al (pt c (.tup [.int (i / j), .int (i % j)]) :: L) (Q (.ref c))) : Al L (xB kDivmod [.int i, .int j] Q) := a_divmod hc k
theorem e_ord (hz : z.length = 1) (k : Al L (Q (.int (z.cps.getD 0 0 : Nat)))) : Al L (xB kOrd [.str z] Q) := a_ord hz k
theorem e_ord1 {c : Nat} (k : Al L (Q (.int c))) : Al L (xB kOrd [.str ⟨#[c]⟩] Q) := a_ord rfl k
theorem e_sum {ns : List Int} (h : Ldg L K p (ns.map V.int)) (k : Al L (Q (.int ns.sum))) : Al L (xB (rSum K) [.ref p] Q) := a_sum h k
theorem e_all {bs : List Bool} (h : Ldg L K p (bs.map V.bl)) (k : Al L (Q (.bl (bs.all id)))) : Al L (xB (rAll K) [.ref p] Q) := a_all h k
theorem e_any {bs : List Bool} (h : Ldg L K p (bs.map V.bl)) (k : Al L (Q (.bl (bs.any id)))) : Al L (xB (rAny K) [.ref p] Q) := a_any h k
theorem e_sumS {f : Nat → Int} (r : Tk L (pt p (.lst ((List.range n).map fun i => V.int (f i)))) L0) (k : Al L (Q (.int (sg n f)))) : Al L (xB (rSum K) [.ref p] Q) :=
  e_sum (ns := (List.range n).map f) (by rw [List.map_map]; exact Ldg.tk r) k
theorem e_allP {f : Nat → Bool} (r : Tk L (pt p (.lst ((List.range n).map fun i => V.bl (f i)))) L0) (k : Al L (Q (.bl (((List.range n).map f).all id)))) : Al L (xB (rAll K) [.ref p] Q) :=
  e_all (bs := (List.range n).map f) (by rw [List.map_map]; exact Ldg.tk r) k
theorem e_anyP {f : Nat → Bool} (r : Tk L (pt p (.lst ((List.range n).map fun i => V.bl (f i)))) L0) (k : Al L (Q (.bl (((List.range n).map f).any id)))) : Al L (xB (rAny K) [.ref p] Q) :=
  e_any (bs := (List.range n).map f) (by rw [List.map_map]; exact Ldg.tk r) k
theorem e_reprS {d : PyData} {k w : Nat} (h : LdD L K x d) (s : Sh k w d) (hk : k ≤ 40) (hw : w ≤ 300000) (q : Al L (Q (.str d.shown))) : Al L (xB (kRepr K) [x] Q) := a_reprS h s hk hw q
theorem e_reprI {ns : List Int} (h : Ldg L K a (ns.map V.int)) (hb : ∀ n ∈ ns, n.natAbs < 10 ^ 40) (hz : ns.length ≤ 2000) (q : Al L (Q (.str (PyData.shown (.list (ns.map PyData.int)))))) : Al L (xB (kRepr K) [.ref a] Q) := a_reprI h hb hz q
theorem e_isi {d : PyData} {T : String} (h : LdD L K x d) (e : PySem.W.kitOne K (.type (kindD d)) (.type T) = some b) (k : Al L (Q (.bl b))) : Al L (xB (rIsi K) [x, .ty T] Q) := a_isi h e k
theorem e_isi_is (k : Al L (Q (.bl false))) : Al L (xB (rIsi K) [.int i, .ty "str"] Q) := a_isi LdD.int (kit_str (.int i)) k
theorem e_isi_ss (k : Al L (Q (.bl true))) : Al L (xB (rIsi K) [.str z, .ty "str"] Q) := a_isi LdD.str (kit_str (.str z)) k
theorem e_isi_ns (k : Al L (Q (.bl false))) : Al L (xB (rIsi K) [.non, .ty "str"] Q) := a_isi LdD.non (kit_str .none) k
theorem e_isi_ii (k : Al L (Q (.bl true))) : Al L (xB (rIsi K) [.int i, .ty "int"] Q) := a_isi LdD.int (kit_int (.int i)) k
theorem e_isi_si (k : Al L (Q (.bl false))) : Al L (xB (rIsi K) [.str z, .ty "int"] Q) := a_isi LdD.str (kit_int (.str z)) k
theorem e_isi_ib (k : Al L (Q (.bl false))) : Al L (xB (rIsi K) [.int i, .ty "bool"] Q) := a_isi LdD.int (kit_bool (.int i)) k
/-! ### methods of what is built in -/
theorem e_tyL (h : Ldg L K a xs) (k : Al L P) : Al L (xTy K "list" (.ref a) P) := a_tyL h k
theorem e_append (r : Tk L (pt a (.lst xs)) L0) (hz : xs.length < sizeLine) (k : Al (pt a (.lst (xs ++ [y])) :: L0) (Q .non)) : Al L (xM rAppend (.ref a) [y] Q) := fun H s => ⟨a, xs, y, rfl, rfl, r.pat s, hz, k _ ((r.ok _ s).set _ id)⟩
theorem e_pop (r : Tk L (pt a (.lst xs)) L0) (hy : xs[xs.length - 1]? = some y) (k : Al (pt a (.lst xs.dropLast) :: L0) (Q y)) : Al L (xM rPop (.ref a) [] Q) := fun H s => ⟨a, xs, y, rfl, rfl, r.pat s, hy, k _ ((r.ok _ s).set _ id)⟩
theorem e_extend (r : Tk L (pt a (.lst xs)) L0) (r' : Tk L0 (pt p (.lst ys)) L1) (hz : xs.length + ys.length ≤ sizeLine) (k : Al (pt a (.lst (xs ++ ys)) :: L0) (Q .non)) : Al L (xM rExtend (.ref a) [.ref p] Q) := fun H s => by
  have s' := r.ok _ s
  refine ⟨a, p, xs, ys, rfl, rfl, r.pat s, ?_, hz, k _ (s'.set _ id)⟩
  obtain ⟨H1, H2, sp, _, t⟩ := s'
  exact sp.r _ _ (r'.pat t)
theorem e_reverse (r : Tk L (pt a (.lst xs)) L0) (k : Al (pt a (.lst xs.reverse) :: L0) (Q .non)) : Al L (xM rReverse (.ref a) [] Q) := fun H s => ⟨a, xs, rfl, rfl, r.pat s, k _ ((r.ok _ s).set _ id)⟩
theorem e_join {ys : List Str} (h : Ldg L K p (ys.map V.str)) (hz : (ys.map (·.length)).sum + ys.length * z.length ≤ 16777216) (k : Al L (Q (.str (Txt.join z ys)))) : Al L (xM (mJoin K) (.str z) [.ref p] Q) := a_join h hz k
theorem e_sindex {c : Nat} {rest : List Nat} (e : Builtin.Str.occurrences z w 0 z.length 1 = c :: rest) (k : Al L (Q (.int (c : Nat)))) : Al L (xM mSIndex (.str z) [.str w] Q) := a_sindex e k
theorem e_joinC {f : Nat → Nat} (r : Tk L (pt p (.lst ((List.range n).map fun i => V.str ⟨#[f i]⟩))) L0) (hn : n ≤ 1000) (k : Al L (Q (.str ⟨((List.range n).map f).toArray⟩))) : Al L (xM (mJoin K) (.str "") [.ref p] Q) := by
  refine e_join (ys := ((List.range n).map f).map fun c => (⟨#[c]⟩ : Str)) (by rw [List.map_map, List.map_map]; exact Ldg.tk r) ?_ (by rw [txt_ones]; exact k)
  rw [sum_ones, List.length_map, List.length_map, List.length_range]
  show n + n * 0 ≤ _
  omega
theorem e_joinS {cs : List Nat} (r : Tk L (pt p (.lst (cs.map fun c => V.str ⟨#[c]⟩))) L0) (hn : cs.length ≤ 1000) (k : Al L (Q (.str ⟨cs.toArray⟩))) : Al L (xM (mJoin K) (.str "") [.ref p] Q) := by
  refine e_join (ys := cs.map fun c => (⟨#[c]⟩ : Str)) (by rw [List.map_map]; exact Ldg.tk r) ?_ (by rw [txt_ones]; exact k)
  rw [sum_ones, List.length_map]
  show cs.length + cs.length * 0 ≤ _
  omega
/-! ### tests, values of an if -/
theorem e_ifb {T : Bool → Hp → Prop} (h1 : b = true → Al L (T true)) (h2 : b = false → Al L (T false)) : Al L (T b) := by
  cases b with
  | true => exact h1 rfl
  | false => exact h2 rfl
theorem e_if (h1 : b = true → Al L (xS ts nx rt bk ct σ)) (h2 : b = false → Al L (xS tv nx rt bk ct σ)) : Al L (kIf ts tv nx rt bk ct σ b) := e_ifb h1 h2
theorem e_ifj (I : L2.St → List Asn → Prop) (k1 : ∀ F : L2.St → Hp → Prop, (∀ σ M, I σ M → Al M (F σ)) → Al L (xS ts F rt bk ct σ)) (k2 : ∀ σ M, I σ M → Al M (nx σ)) : Al L (xS ts nx rt bk ct σ) := k1 nx k2
theorem e_and {b' : Bool} (h1 : b = true → ∀ QB : Bool → Hp → Prop, Al L (QB b') → Al L (xT tu σ QB)) (k : Al L (QB (b && b'))) : Al L (kAnd tu σ QB b) := by
  cases b with
  | true => exact h1 rfl QB k
  | false => exact k
theorem e_or {b' : Bool} (h1 : b = false → ∀ QB : Bool → Hp → Prop, Al L (QB b') → Al L (xT tu σ QB)) (k : Al L (QB (b || b'))) : Al L (kOr tu σ QB b) := by
  cases b with
  | true => exact k
  | false => exact h1 rfl QB k
theorem e_andV {b' : Bool} (h1 : b = true → ∀ Q : VK, Al L (Q (.bl b')) → Al L (xE tb σ Q)) (k : Al L (Q (.bl (b && b')))) : Al L (kAndV tb σ Q b) := by
  cases b with
  | true => exact h1 rfl Q k
  | false => exact k
theorem e_orV {b' : Bool} (h1 : b = false → ∀ Q : VK, Al L (Q (.bl b')) → Al L (xE tb σ Q)) (k : Al L (Q (.bl (b || b')))) : Al L (kOrV tb σ Q b) := by
  cases b with
  | true => exact k
  | false => exact h1 rfl Q k
theorem e_ch {b' : Bool} (h1 : b = true → ∀ Q : VK, Al L (Q (.bl b')) → Al L (xE tc σ (kOp2 r' y Q))) (k : Al L (Q (.bl (b && b')))) : Al L (kCh r' y tc σ Q b) := by
  cases b with
  | true => exact h1 rfl Q k
  | false => exact k
theorem e_ifxI (h1 : b = true → ∀ Q : VK, Al L (Q (.int i)) → Al L (xE ta σ Q)) (h2 : b = false → ∀ Q : VK, Al L (Q (.int j)) → Al L (xE tb σ Q)) (k : Al L (Q (.int (if b = true then i else j)))) : Al L (kIfx ta tb σ Q b) := by
  cases b with
  | true => exact h1 rfl Q k
  | false => exact h2 rfl Q k
theorem e_ifx {x' : V} (h1 : b = true → ∀ Q : VK, Al L (Q x) → Al L (xE ta σ Q)) (h2 : b = false → ∀ Q : VK, Al L (Q x') → Al L (xE tb σ Q)) (k : Al L (Q (if b = true then x else x'))) : Al L (kIfx ta tb σ Q b) := by
  cases b with
  | true => exact h1 rfl Q k
  | false => exact h2 rfl Q k
/-! ### new objects, fields -/
theorem e_new {o : HO} (k : ∀ p, Al (pt p o :: L) (Q (.ref p))) : Al L (NewK o Q) := a_new k
theorem e_tup (hz : xs.length ≤ sizeLine) (k : ∀ p, Al (pt p (.tup xs) :: L) (Q (.ref p))) : Al L (TupK Q xs) := a_tupK hz k
theorem e_lst (hz : xs.length ≤ sizeLine) (k : ∀ p, Al (pt p (.lst xs) :: L) (Q (.ref p))) : Al L (LstK Q xs) := a_lstK hz k
theorem e_dnew (k : ∀ p, Al (pt p (.dK []) :: L) (Q (.ref p))) : Al L (xE tDNewK σ Q) := a_dnew k
theorem e_fld (r : Tk L (Ob a C fs) L0) (hc : Cls K C) (hn : NoAttr K C f) (hl : fs.lookup f = some v) (k : Al L (Q v)) : Al L (FldK K f Q (.ref a)) := fun H s => by
  obtain ⟨dx, e⟩ := Ob.at r s
  exact ⟨a, C, dx, fs, v, rfl, e, hc, hn, hl, k H s⟩
theorem e_meth {m : Str} {PV : V → Hp → Prop} (r : Tk L (Ob a C fs) L0) (hl : fs.lookup m = none) (k : Al L (PV (.ref a))) : Al L (MethK C m PV (.ref a)) := fun H s => by
  obtain ⟨dx, e⟩ := Ob.at r s
  exact ⟨a, dx, fs, rfl, e, hl, k H s⟩
theorem e_methA {A : Asn} {m : Str} {PV : V → Hp → Prop} (r : Tk L A L0) (hi : ∀ H, A H → ∃ dx fs, H a = some (.ins C dx fs) ∧ fs.lookup m = none) (k : Al L (PV (.ref a))) : Al L (MethK C m PV (.ref a)) := fun H s => by
  obtain ⟨H1, h1, a1⟩ := (r.ok _ s).get
  obtain ⟨dx, fs, e, hl⟩ := hi H1 a1
  exact ⟨a, dx, fs, rfl, h1 _ _ e, hl, k H s⟩
def QNon (Q : Hp → Prop) : VK := fun v H => v = .non ∧ Q H
theorem e_qnon {Q : Hp → Prop} (k : Al L Q) : Al L (QNon Q .non) := fun H s => ⟨rfl, k H s⟩
theorem e_make {sp : Sp} {E : XK} (k : ∀ x, Al (Ob x C [] :: L) (xP sp (.ref x :: xs) (QNon (Q (.ref x))) E)) : Al L (MakeK C sp [] E Q xs) := fun H s x dx hx hdx ne => by
  have s1 : Star (pt x (.ins C dx []) :: pt dx (.own x) :: L) (upd (upd H dx (.own x)) x (.ins C dx [])) := (s.new hdx).new (by rw [upd_ne (Ne.symm ne)]; exact hx)
  have s2 : Star (Ob x C [] :: L) (upd (upd H dx (.own x)) x (.ins C dx [])) := (s1.head (B := Ob x C []) fun _ q => ⟨dx, q⟩).tail fun _ t => t.drop
  have z := k x _ s2
  show sp (.ref x :: (xs ++ [])) _ _ E
  rw [List.append_nil]
  exact z
theorem e_sfld (r : Tk L (Ob a C fs) L0) (hc : Cls K C) (hn : NoAttr K C f) (hz : fs.length < 1000) (hp : putF f y fs = fs') (k : Al (Ob a C fs' :: L0) (nx σ)) : Al L (kFldS1 K f y nx σ (.ref a)) := fun H s => by
  obtain ⟨dx, e, s'⟩ := Ob.set (fs' := fs') (r.ok _ s)
  exact ⟨a, C, dx, fs, rfl, e, hc, hn, hz, by rw [hp]; exact k _ s'⟩
theorem e_dget1 {td ty : TE} (k : Al L (xE td σ fun x H1 => ∃ a, x = .ref a ∧ IsD H1 a ∧ ty σ H1 fun y H2 => ∃ o, DGet H2 a y o ∧ Q (o.getD .non) H2)) : Al L (xE (tDGet1 td ty) σ Q) := k
/-! ### targets -/
theorem e_gT (h : LdgT L K a xs) (hn : xs.length = n) (k : Al L (xGs gs xs σ N)) : Al L (xG (gTup K n gs) (.ref a) σ N) := fun H s => ⟨a, xs, rfl, h.q H s, hn, k H s⟩
theorem e_iadd (k : Al L (Q (.int (i + j)))) : Al L (xIp iAdd (.int i) (.int j) Q) := a_iadd k
theorem e_iadds (hz : z.length + w.length ≤ sizeLine) (k : Al L (Q (.str (z ++ w)))) : Al L (xIp iAdd (.str z) (.str w) Q) := a_iadds hz k
theorem e_isub (k : Al L (Q (.int (i - j)))) : Al L (xIp iSub (.int i) (.int j) Q) := a_isub k
theorem e_idiv (hc : CDivW i j) (k : Al L (Q (.int (i / j)))) : Al L (xIp iDiv (.int i) (.int j) Q) := a_idiv hc k
/-! ### what is walked -/
theorem e_r1 (h : -(2 ^ 62) ≤ j ∧ j < 2 ^ 62) (k : Al L (RI (Itr 0 j.toNat))) : Al L (Rng1K RI [.int j]) := a_r1K h k
theorem e_r1n {m : Nat} (h : (m : Int) < 2 ^ 62) (k : Al L (RI (Itr 0 m))) : Al L (Rng1K RI [.int (m : Int)]) := a_r1K ⟨by omega, h⟩ (by rw [Int.toNat_natCast]; exact k)
theorem e_r2 (h : -(2 ^ 62) ≤ i ∧ i < 2 ^ 62 ∧ -(2 ^ 62) ≤ j ∧ j < 2 ^ 62) (k : Al L (RI (Itr i (j - i).toNat))) : Al L (Rng2K RI [.int i, .int j]) := a_r2K h k
theorem e_r3D (h : -(2 ^ 62) ≤ i ∧ i < 2 ^ 62 ∧ -(2 ^ 62) ≤ j ∧ j < 2 ^ 62) (k : Al L (RI (Itc i (-1) (i - j).toNat))) : Al L (Rng3K RI [.int i, .int j, .int (-1)]) := a_r3D h k
theorem e_itL (h : Ldg L K a xs) (k : Al L (RI (Itl K a))) : Al L (IterK K RI (.ref a)) := a_itL h k
theorem e_itT (h : LdgT L K a xs) (k : Al L (RI (Itt K a))) : Al L (IterK K RI (.ref a)) := a_itT h k
theorem e_enS {x : Str} (k : Al L (RI (Ites x))) : Al L (EnumSK RI [.str x]) := a_enSK k
theorem e_en (h : Ldg L K a xs) (k : Al L (RI (Ite K a))) : Al L (EnumK K RI [.ref a]) := a_enK h k
/-! ### loops -/
theorem e_nx {I : L2.St → List Asn → Prop} {M : List Asn} (h : I σ M) (e : Tks L M R) : Al L (Nx I σ) := a_nx h (.ofT e)
theorem e_forR {lo : Int} (I : Nat → L2.St → List Asn → Prop) (h0 : ∃ M, I 0 σ M ∧ Ent L M)
    (hs : ∀ i σ M, i < n → I i σ M → Al M (xG g (.int (lo + i)) σ (kS ts (Nx (I (i + 1))) rt nx (Nx (I (i + 1))))))
    (hd : ∀ σ M, I n σ M → Al M (nx σ)) : Al L (kFor g ts nx rt bk ct σ (Itr lo n)) := a_forR I h0 hs hd
theorem e_forR0 (I : Nat → L2.St → List Asn → Prop) (h0 : ∃ M, I 0 σ M ∧ Ent L M)
    (hs : ∀ (i : Nat) σ M, i < n → I i σ M → Al M (xG g (.int i) σ (kS ts (Nx (I (i + 1))) rt nx (Nx (I (i + 1))))))
    (hd : ∀ σ M, I n σ M → Al M (nx σ)) : Al L (kFor g ts nx rt bk ct σ (Itr 0 n)) := a_forR I h0 (fun i σ M h1 h2 => by rw [Int.zero_add]; exact hs i σ M h1 h2) hd
theorem e_forRC {lo c : Int} (I : Nat → L2.St → List Asn → Prop) (h0 : ∃ M, I 0 σ M ∧ Ent L M)
    (hs : ∀ i σ M, i < n → I i σ M → Al M (xG g (.int (lo + (i : Nat) * c)) σ (kS ts (Nx (I (i + 1))) rt nx (Nx (I (i + 1))))))
    (hd : ∀ σ M, I n σ M → Al M (nx σ)) : Al L (kFor g ts nx rt bk ct σ (Itc lo c n)) := a_forRC I h0 hs hd
theorem e_forL (I : Nat → L2.St → List Asn → Prop) (h0 : ∃ M, I 0 σ M ∧ Ent L M) (hl : ∀ i σ M, I i σ M → Ldg M K a xs)
    (hs : ∀ i x σ M, xs[i]? = some x → I i σ M → Al M (xG g x σ (kS ts (Nx (I (i + 1))) rt nx (Nx (I (i + 1))))))
    (hd : ∀ σ M, I xs.length σ M → Al M (nx σ)) : Al L (kFor g ts nx rt bk ct σ (Itl K a)) := a_forL I h0 hl hs hd
theorem e_forT (I : Nat → L2.St → List Asn → Prop) (h0 : ∃ M, I 0 σ M ∧ Ent L M) (hl : ∀ i σ M, I i σ M → LdgT M K a xs)
    (hs : ∀ i x σ M, xs[i]? = some x → I i σ M → Al M (xG g x σ (kS ts (Nx (I (i + 1))) rt nx (Nx (I (i + 1))))))
    (hd : ∀ σ M, I xs.length σ M → Al M (nx σ)) : Al L (kFor g ts nx rt bk ct σ (Itt K a)) := a_forT I h0 hl hs hd
theorem e_forS (I : Nat → L2.St → List Asn → Prop) (h0 : ∃ M, I 0 σ M ∧ Ent L M)
    (hs : ∀ i c σ M, z.cps[i]? = some c → I i σ M → Al M (xG g (.str ⟨#[c]⟩) σ (kS ts (Nx (I (i + 1))) rt nx (Nx (I (i + 1))))))
    (hd : ∀ σ M, I z.cps.size σ M → Al M (nx σ)) : Al L (kFor g ts nx rt bk ct σ (Its z)) := a_forS I h0 hs hd
theorem n_while : xS (tWhile tt ts) nx rt bk ct σ = fun H => tWhile tt ts ⟨nx, rt, bk, ct⟩ σ H := rfl
def kWh (I : Nat → L2.St → List Asn → Prop) (m : Nat) (tb : TS) (nx : L2.St → Hp → Prop) (rt : VK) (σ : L2.St) : Bool → Hp → Prop := fun b H => WhK I m tb ⟨nx, rt, fun _ _ => False, fun _ _ => False⟩ σ b H
theorem e_while (I : Nat → L2.St → List Asn → Prop) (h0 : ∃ m M, I m σ M ∧ Ent L M) (hs : ∀ m σ M, I m σ M → Al M (xT tt σ (kWh I m ts nx rt σ))) : Al L (xS (tWhile tt ts) nx rt bk ct σ) := a_while I h0 hs
theorem e_wh {I : Nat → L2.St → List Asn → Prop} {m : Nat} (h1 : b = true → Al L (xS ts (WhNx I m) rt nx (WhNx I m) σ)) (h2 : b = false → Al L (nx σ)) : Al L (kWh I m ts nx rt σ b) := by
  cases b with
  | true => exact a_whT (h1 rfl)
  | false => exact fun H s => h2 rfl H s
theorem e_whnx {I : Nat → L2.St → List Asn → Prop} {m m' : Nat} {M : List Asn} (hm : m' < m) (h : I m' σ M) (e : Tks L M R) : Al L (WhNx I m σ) := a_whnx hm h (.ofT e)
/-! ### comprehensions -/
def kLcE (te : TE) (D : Addr) (N : Hp → Prop) (σ2 : L2.St) : Bool → Hp → Prop := IfK (fun H3 => te σ2 H3 (LcA D N)) N
def kLcB (tt : TT) (te : TE) (D : Addr) (N : Hp → Prop) (ws : List Nat) (σ : L2.St) : L2.St → Hp → Prop := LcB tt te D N ws σ
theorem e_lcB {ws : List Nat} {N : Hp → Prop} (e : wipe σ' ws = wipe σ ws) (k : Al L (xT tt σ' (kLcE te p N σ'))) : Al L (kLcB tt te p N ws σ σ') := a_lcB e k
theorem n_lcT {N : Hp → Prop} : kLcE te p N σ true = xE te σ (LcA p N) := rfl
theorem n_lcF {N : Hp → Prop} : kLcE te p N σ false = N := rfl
theorem e_lcA {acc : List V} {I : Nat → List V → List Asn → Prop} {M : List Asn} {i : Nat} (r : Tk L (pt p (.lst acc)) L0) (hz : acc.length < sizeLine) (h : I i (acc ++ [y]) M) (e : Tks L0 M R) : Al L (LcA p (LcN I i p) y) := fun H s =>
  ⟨acc, r.pat s, hz, acc ++ [y], M, h, ((r.ok _ s).set _ id).tail fun H t => Ent.ofT e H t⟩
theorem e_lcN {acc : List V} {I : Nat → List V → List Asn → Prop} {M : List Asn} {i : Nat} (r : Tk L (pt p (.lst acc)) L0) (h : I i acc M) (e : Tks L0 M R) : Al L (LcN I i p) := fun H s => ⟨acc, M, h, (r.ok _ s).tail fun H t => Ent.ofT e H t⟩
theorem e_lcP {f : Nat → V} {M : List Asn} {i : Nat} (r : Tk L (pt p (.lst ((List.range i).map f))) L0) (hz : i < sizeLine) (hy : y = f i) (e : Tks L0 M R) : Al L (LcA p (LcN (Pure f M) (i + 1) p) y) :=
  e_lcA r (by rw [List.length_map, List.length_range]; exact hz) (pure_next hy) e
section
variable {ws : List Nat} {σw : L2.St}
theorem e_lcR {lo : Int} (hw : Wp σ ws σw) (I : Nat → List V → List Asn → Prop) (h0 : ∃ M, I 0 [] M ∧ Ent L M)
    (hs : ∀ i acc M D, i < n → I i acc M → Al (pt D (.lst acc) :: M) (xG g (.int (lo + i)) σw (kLcB tt te D (LcN I (i + 1) D) ws σ)))
    (hd : ∀ acc M D, I n acc M → Al (pt D (.lst acc) :: M) (Q (.ref D))) : Al L (kLc g tt te ws σ Q (Itr lo n)) := a_lcR hw I h0 hs hd
theorem e_lcR0 (hw : Wp σ ws σw) (I : Nat → List V → List Asn → Prop) (h0 : ∃ M, I 0 [] M ∧ Ent L M)
    (hs : ∀ (i : Nat) acc M D, i < n → I i acc M → Al (pt D (.lst acc) :: M) (xG g (.int i) σw (kLcB tt te D (LcN I (i + 1) D) ws σ)))
    (hd : ∀ acc M D, I n acc M → Al (pt D (.lst acc) :: M) (Q (.ref D))) : Al L (kLc g tt te ws σ Q (Itr 0 n)) := a_lcR hw I h0 (fun i acc M D h1 h2 => by rw [Int.zero_add]; exact hs i acc M D h1 h2) hd
theorem e_lcL (hw : Wp σ ws σw) (I : Nat → List V → List Asn → Prop) (h0 : ∃ M, I 0 [] M ∧ Ent L M) (hl : ∀ i acc M, I i acc M → Ldg M K a xs)
    (hs : ∀ i x acc M D, xs[i]? = some x → I i acc M → Al (pt D (.lst acc) :: M) (xG g x σw (kLcB tt te D (LcN I (i + 1) D) ws σ)))
    (hd : ∀ acc M D, I xs.length acc M → Al (pt D (.lst acc) :: M) (Q (.ref D))) : Al L (kLc g tt te ws σ Q (Itl K a)) := a_lcL hw I h0 hl hs hd
theorem e_lcT (hw : Wp σ ws σw) (I : Nat → List V → List Asn → Prop) (h0 : ∃ M, I 0 [] M ∧ Ent L M) (hl : ∀ i acc M, I i acc M → LdgT M K a xs)
    (hs : ∀ i x acc M D, xs[i]? = some x → I i acc M → Al (pt D (.lst acc) :: M) (xG g x σw (kLcB tt te D (LcN I (i + 1) D) ws σ)))
    (hd : ∀ acc M D, I xs.length acc M → Al (pt D (.lst acc) :: M) (Q (.ref D))) : Al L (kLc g tt te ws σ Q (Itt K a)) := a_lcT hw I h0 hl hs hd
theorem e_lcS (hw : Wp σ ws σw) (I : Nat → List V → List Asn → Prop) (h0 : ∃ M, I 0 [] M ∧ Ent L M)
    (hs : ∀ i c acc M D, z.cps[i]? = some c → I i acc M → Al (pt D (.lst acc) :: M) (xG g (.str ⟨#[c]⟩) σw (kLcB tt te D (LcN I (i + 1) D) ws σ)))
    (hd : ∀ acc M D, I z.cps.size acc M → Al (pt D (.lst acc) :: M) (Q (.ref D))) : Al L (kLc g tt te ws σ Q (Its z)) := a_lcS hw I h0 hs hd
theorem e_lcE (hw : Wp σ ws σw) (I : Nat → List V → List Asn → Prop) (h0 : ∃ M, I 0 [] M ∧ Ent L M)
    (hs : ∀ i c acc M D T, z.cps[i]? = some c → I i acc M → Al (pt T (.tup [.int ((i : Nat) + 1), .str ⟨#[c]⟩]) :: pt D (.lst acc) :: M) (xG g (.ref T) σw (kLcB tt te D (LcN I (i + 1) D) ws σ)))
    (hd : ∀ acc M D, I z.cps.size acc M → Al (pt D (.lst acc) :: M) (Q (.ref D))) : Al L (kLc g tt te ws σ Q (Ites z)) := a_lcE hw I h0 hs hd
end
end
end AL

/-! EN3: small facts. -/
namespace AL
open PySem PySem.Spec PyProof.Rows L2
theorem str_len {z : Str} : z.length = z.cps.size := rfl
theorem app_size {x y : Str} : (x ++ y).cps.size = x.cps.size + y.cps.size := by
  show (x.cps ++ y.cps).size = _
  rw [Array.size_append]
theorem push_size {z : Str} {c : Nat} : (z ++ (⟨#[c]⟩ : Str)).cps.size = z.cps.size + 1 := by
  show (z.cps ++ #[c]).size = _
  rw [Array.size_append]; rfl
theorem one_size {c : Nat} : (⟨#[c]⟩ : Str).cps.size = 1 := rfl
theorem getD_set_same {ns : List Int} {k : Nat} {v : Int} (h : k < ns.length) : (ns.set k v).getD k 0 = v := by
  rw [List.getD_eq_getElem?_getD, List.getElem?_set_self h]; rfl
theorem getD_set_ne {ns : List Int} {k j : Nat} {v : Int} (h : k ≠ j) : (ns.set k v).getD j 0 = ns.getD j 0 := by
  rw [List.getD_eq_getElem?_getD, List.getD_eq_getElem?_getD, List.getElem?_set_ne h]
/-! ### a box of draws -/
/-- three numbers, the last one how many were mixed, at most n -/
def Box (b : Addr) (n : Nat) : Asn := fun H => ∃ x y z : Int, (0 ≤ x ∧ 0 ≤ y ∧ y < 2 ^ 62 ∧ 0 ≤ z ∧ z ≤ n) ∧ H b = some (.lst [.int x, .int y, .int z])
theorem Box.open {b : Addr} {n : Nat} {L : List Asn} {P : Hp → Prop} (k : ∀ x y z : Int, 0 ≤ x → 0 ≤ y → y < 2 ^ 62 → 0 ≤ z → z ≤ n → Al (pt b (.lst [.int x, .int y, .int z]) :: L) P) : Al (Box b n :: L) P :=
  fun H ⟨H1, H2, s, ⟨x, y, z, ⟨h1, h2, h3, h4, h5⟩, e⟩, t⟩ => k x y z h1 h2 h3 h4 h5 H ⟨H1, H2, s, e, t⟩
theorem Box.fold {b : Addr} {n : Nat} {x y z : Int} {L L0 : List Asn} {P : Hp → Prop} (r : Tk L (pt b (.lst [.int x, .int y, .int z])) L0) (h1 : 0 ≤ x) (h2 : 0 ≤ y) (h3 : y < 2 ^ 62) (h4 : 0 ≤ z) (h5 : z ≤ n) (k : Al (Box b n :: L0) P) : Al L P :=
  fun H h => k H ((r.ok _ h).head fun H a => ⟨x, y, z, ⟨h1, h2, h3, h4, h5⟩, a⟩)
theorem Box.le {b : Addr} {n m : Nat} (h : n ≤ m) : ∀ H, Box b n H → Box b m H := fun H ⟨x, y, z, ⟨h1, h2, h3, h4, h5⟩, e⟩ => ⟨x, y, z, ⟨h1, h2, h3, h4, by omega⟩, e⟩
theorem Box.up {b : Addr} {n m : Nat} {L : List Asn} {P : Hp → Prop} (h : n ≤ m) (k : Al (Box b m :: L) P) : Al (Box b n :: L) P := fun H s => k H (s.head (Box.le h))
end AL

/-! EN4: data, values, names. -/
namespace AL
open PySem PySem.Spec PyProof.Rows L2
theorem LdD.tk {L L0 : List Asn} {K : PySem.W.Frag} {x : V} {d : PyData} (r : Tk L (DatA K x d) L0) : LdD L K x d := ⟨fun H s => by
  obtain ⟨H1, h1, q⟩ := (r.ok _ s).get
  exact Dp.up h1 d x q⟩
theorem e_eqv {L : List Asn} {Q : VK} {v v' : V} (e : v = v') (k : Al L (Q v')) : Al L (Q v) := by rw [e]; exact k
theorem e_eqb {L : List Asn} {T : Bool → Hp → Prop} {b b' : Bool} (e : b = b') (k : Al L (T b')) : Al L (T b) := by rw [e]; exact k
section
variable {L : List Asn} {K : PySem.W.Frag} {Q : VK} {z w : Str} {i : Int}
theorem e_le1 {a b : Nat} (hz : z = ⟨#[a]⟩) (hw : w = ⟨#[b]⟩) (k : Al L (Q (.bl (decide (a ≤ b))))) : Al L (x2 cLe (.str z) (.str w) Q) := a_le1 hz hw k
/-- one sign of the plain ones -/
theorem e_sgn {m : Nat} (hm : m ≤ 1000) (hz : (decide (z.cps.size = m) && z.cps.toList.all fun c => decide (32 ≤ c ∧ c ≤ 126)) = true) (h0 : 0 ≤ i) (h1 : i < m) (k : ∀ c, 32 ≤ c → c ≤ 126 → Al L (Q (.str ⟨#[c]⟩))) : Al L (x2 (xIx K) (.str z) (.int i) Q) := by
  rw [Bool.and_eq_true] at hz
  have hs : z.cps.size = m := of_decide_eq_true hz.1
  have hl : i.toNat < z.cps.toList.length := by rw [Array.length_toList]; omega
  have e := of_decide_eq_true (List.all_eq_true.mp hz.2 _ (List.getElem_mem hl))
  refine e_xS (c := z.cps.toList[i.toNat]) (show z.cps.size ≤ _ by rw [sizeLine_eq]; omega) ?_ (k _ e.1 e.2)
  have q := atI_nat (xs := z.cps.toList) (j := i.toNat) (v := z.cps.toList[i.toNat]) (List.getElem?_eq_getElem hl)
  rw [Int.toNat_of_nonneg h0] at q
  exact q
theorem e_ifxV {ta tb : TE} {σ : L2.St} {m1 m2 : Int} {b : Bool} (k : ∀ m, m = m1 ∨ m = m2 → Al L (Q (.int m))) : Al L (Q (.int (if b = true then m1 else m2))) := by
  cases b
  · exact k _ (.inr rfl)
  · exact k _ (.inl rfl)
end
theorem pick8 {a b c d e f g h : V} {o : Int} (h0 : 0 ≤ o) (h1 : o < 8) : ∃ v, (v = a ∨ v = b ∨ v = c ∨ v = d ∨ v = e ∨ v = f ∨ v = g ∨ v = h) ∧ atI [a, b, c, d, e, f, g, h] o = some v := by
  obtain rfl | rfl | rfl | rfl | rfl | rfl | rfl | rfl : o = 0 ∨ o = 1 ∨ o = 2 ∨ o = 3 ∨ o = 4 ∨ o = 5 ∨ o = 6 ∨ o = 7 := by omega
  · exact ⟨a, by simp, at0⟩
  · exact ⟨b, by simp, at1⟩
  · exact ⟨c, by simp, at2⟩
  · exact ⟨d, by simp, at3⟩
  · exact ⟨e, by simp, at4⟩
  · exact ⟨f, by simp, at5⟩
  · exact ⟨g, by simp, at6⟩
  · exact ⟨h, by simp, at7⟩
/-- a whole number of at most thirty figures, or a text of at most forty plain signs -/
def Vok (v : V) : Prop := (∃ i : Int, v = .int i ∧ i.natAbs < 10 ^ 30) ∨ ∃ z : Str, v = .str z ∧ (∀ c ∈ z.cps.toList, 32 ≤ c ∧ c ≤ 126) ∧ z.cps.size ≤ 40
theorem Vok.lit {z : Str} (h : ((z.cps.toList.all fun c => decide (32 ≤ c ∧ c ≤ 126)) && decide (z.cps.size ≤ 40)) = true) : Vok (.str z) := by
  rw [Bool.and_eq_true] at h
  exact .inr ⟨z, rfl, fun c hc => of_decide_eq_true (List.all_eq_true.mp h.1 c hc), of_decide_eq_true h.2⟩
/-! ### kinds of data -/
def lowS (z : Str) : Bool := z.cps.toList.all fun c => decide (97 ≤ c ∧ c ≤ 122)
def plainS (z : Str) : Bool := z.cps.toList.all fun c => decide (32 ≤ c ∧ c ≤ 126)
def nameD : PyData → Bool
  | .str z => decide (1 ≤ z.cps.size ∧ z.cps.size ≤ 8) && lowS z
  | _ => false
def valueD : PyData → Bool
  | .str z => plainS z
  | .int _ => true
  | _ => false
def isNumD : PyData → Bool
  | .int _ => true
  | _ => false
/-- its texts are not too long -/
def Short (d : PyData) : Prop := ∀ z, d = .str z → z.cps.size ≤ 1000
theorem mem_abc : ∀ c : Nat, (c ∈ ("abcdefghijklmnopqrstuvwxyz" : Str).cps.toList) ↔ 97 ≤ c ∧ c ≤ 122 := by
  intro c
  have e : ("abcdefghijklmnopqrstuvwxyz" : Str).cps.toList = (List.range 26).map (· + 97) := by decide +kernel
  rw [e, List.mem_map]
  constructor
  · rintro ⟨k, hk, rfl⟩
    have := List.mem_range.mp hk
    omega
  · rintro ⟨h1, h2⟩
    exact ⟨c - 97, List.mem_range.mpr (by omega), by omega⟩
theorem all_range {z : Str} {p : Nat → Bool} : ((List.range z.cps.size).map fun i => p (z.cps.getD i 0)).all id = z.cps.toList.all p := by
  rw [List.all_map]
  have e : z.cps.toList = (List.range z.cps.size).map fun i => z.cps.getD i 0 := by
    apply List.ext_getElem
    · rw [Array.length_toList, List.length_map, List.length_range]
    · intro i h1 h2
      rw [Array.length_toList] at h1
      rw [List.getElem_map, List.getElem_range, Array.getElem_toList, Array.getD_eq_getD_getElem?, Array.getElem?_eq_getElem h1]; rfl
  conv => rhs; rw [e]
  rw [List.all_map]; rfl
theorem getD_cps {z : Str} {i c : Nat} (h : z.cps[i]? = some c) : z.cps.getD i 0 = c := by rw [Array.getD_eq_getD_getElem?, h]; rfl
theorem lt_cps {z : Str} {i c : Nat} (h : z.cps[i]? = some c) : i < z.cps.size := (Array.getElem?_eq_some_iff.mp h).1
/-- None, a number or a text -/
def Scl (x : V) : Prop := x = .non ∨ (∃ i, x = .int i) ∨ ∃ z, x = .str z
def dV : V → PyData
  | .int i => .int i
  | .str z => .str z
  | .bl b => .bool b
  | _ => .none
theorem Scl.dat {L : List Asn} {K : PySem.W.Frag} {x : V} (h : Scl x) : LdD L K x (dV x) := by
  rcases h with rfl | ⟨i, rfl⟩ | ⟨z, rfl⟩
  · exact .non
  · exact .int
  · exact .str
theorem Vok.scl {v : V} (h : Vok v) : Scl v := by
  rcases h with ⟨i, rfl, _⟩ | ⟨z, rfl, _⟩
  · exact .inr (.inl ⟨i, rfl⟩)
  · exact .inr (.inr ⟨z, rfl⟩)
theorem Vok.sh {v : V} (h : Vok v) : Sh 0 140 (dV v) := by
  rcases h with ⟨i, rfl, h⟩ | ⟨z, rfl, h1, h2⟩
  · exact .int (Nat.lt_trans h (by decide))
  · exact .str (fun c hc => Nat.lt_of_le_of_lt (h1 c hc).2 (by decide)) (by omega)
end AL

/-! RX1: a lambda made, its table of code objects a part of the ledger; sorted by such a key. -/
namespace AL
open PySem PySem.Spec PyProof.Rows L2 LamX
/-- the table at P was written, or nothing -/
inductive TabStep (P : Addr) (q : Str) : Hp → Hp → Prop where
  | same {H : Hp} : TabStep P q H H
  | new {H : Hp} {c' : Addr} {ps' : Array Value} : H c' = none → (∃ ps, H P = some (.tbl ps)) → (∀ Ha : Hp, TabS Ha P q → Ha P = H P → TabS (upd (upd Ha P (.tbl ps')) c' (CodeO c' q)) P q) →
      TabStep P q H (upd (upd H P (.tbl ps')) c' (CodeO c' q))
section
variable {X : Cx} {pins : List (Addr × Obj)} {σ : L2.St} {H : Hp} {s : Shared}
/-- the lambda is made: its code object is new, or found in the table -/
theorem lam_mk {c P : Addr} {params : Arguments} {body : Expr} {scope : Scope} {pos : Pos} {E : Value → Shared → Prop} {Q : Value → Shared → Prop} (I : Inv X pins σ H s) (TB : TabB X.base X.mg c P) (hcode : X.env.code = .ref c)
    (hT : TabS H P (X.env.qual ++ "<lambda>")) (hdef : defaultsOf params X.env = ([], [])) (hfree : ∀ y ∈ scope.names, y.2 = .free → ∃ c, X.env.cells.lookup y.1 = some c)
    (h : ∀ (f c' : Addr) (pm ctv : Value) (H1 : Hp) (s' : Shared), Inv X pins σ H1 s' → TabStep P (X.env.qual ++ "<lambda>") H H1 →
      s'.heap.get? f = some (PySem.W.kla_obj "<lambda>" (X.env.qual ++ "<lambda>") params body scope (cloFrom X.env.cells scope.names []) pm c' ctv) → H1 f = none → f ∉ frs X.stack → H1 c' = some (CodeO c' (X.env.qual ++ "<lambda>")) → Q (.ref f) s') :
    wpAny (model X.prog X.w) X.A (eval (.Lambda params body scope pos) X.env) Q E s := by
  obtain ⟨ps, hP, ht, ha⟩ := hT
  refine PySem.W.kla_eval hdef ?_
  have bP : s.heap.BuiltinsAt X.mg P := TB.bm.keeps I.bk
  have hP' : s.heap.get? P = some { cls := .none, data := .fields ps } := I.hok P _ hP
  have nofr : ∀ f, s.heap.objs.size ≤ f → f ∉ frs X.stack := fun f hf z => by
    rcases List.mem_cons.mp (I.stkSub _ z) with e | e
    · have h1 := I.lt
      rw [← e] at h1
      exact Nat.lt_irrefl _ (Nat.lt_of_lt_of_le h1 hf)
    · exact I.nofs hf e
  cases hc : codeAmong pos ps.toList with
  | none =>
    refine PySem.W.kla_makeFunction (mg := X.mg) (c := c) (P := P) (ps := ps) (closure_ok hfree) I.ok.glob (I.mod.glob.keeps I.bk) hcode (TB.code.keeps I.bk) hP' ht hc TB.gP bP fun c' ctv h' tk hx hge hlt hrec htb => ?_
    obtain ⟨c2, oc, vs, t, e2, hoc, hd, hv⟩ := hrec
    cases e2
    have hsz : s.heap.objs.size ≤ h'.objs.size := Nat.le_trans hge (Nat.le_of_lt hlt)
    have nC : H c' = none := I.hok.fresh hge
    have I1 := inv_table (t' := tk) (more := #[rawInt pos.line, rawInt pos.col, .ref c']) (h' := h'.push (PySem.W.kla_obj "<lambda>" (X.env.qual ++ "<lambda>") params body scope (cloFrom X.env.cells scope.names []) ((X.mg "__name__").getD .none) c' ctv)) I hP
      (fun b o hb e => Heap.get?_push_of_some _ (hx b o hb e)) (Heap.get?_push_of_some _ htb) hge ⟨oc, vs, t, Heap.get?_push_of_some _ hoc, hd, hv⟩
    have eL : (ps ++ #[rawInt pos.line, rawInt pos.col, .ref c']).toList = ps.toList ++ [rawInt pos.line, rawInt pos.col, .ref c'] := by simp
    refine h h'.objs.size c' ((X.mg "__name__").getD .none) ctv _ _ I1 (.new nC ⟨ps, hP⟩ fun Ha hTa hPa => ?_) (Heap.get?_push_size _ rfl) ?_ (nofr _ hsz) upd_same
    · obtain ⟨ps2, a1, a2, a3⟩ := hTa
      rw [hPa, hP] at a1
      obtain rfl : ps = ps2 := by
        injection Option.some.inj a1
      have nPc : P ≠ c' := ne_of_none hP nC
      refine ⟨_, by rw [upd_ne nPc, upd_same], by rw [eL]; exact PySem.TriplesOk_snoc _ _ _ _ ht, fun p' cv hcv => ?_⟩
      rw [eL] at hcv
      rcases among_app _ ht hcv with z | z
      · obtain ⟨c0, e1, e2⟩ := a3 p' cv z
        refine ⟨c0, e1, ?_⟩
        by_cases hb : c0 = c'
        · rw [hb, upd_same]
        · rw [upd_ne hb, upd_ne (fun z => codeO_ne (c := c0) (q := X.env.qual ++ "<lambda>") ps (by
            rw [z, hPa, hP] at e2
            rw [z]
            exact (Option.some.inj e2).symm))]
          exact e2
      · exact ⟨c', z, upd_same⟩
    · have n1 : h'.objs.size ≠ c' := Nat.ne_of_gt hlt
      have n2 : h'.objs.size ≠ P := Nat.ne_of_gt (Nat.lt_of_lt_of_le (Heap.lt_size hP') hsz)
      rw [upd_ne n1, upd_ne n2]
      exact I.hok.fresh hsz
  | some cv =>
    obtain ⟨c', e, hco⟩ := ha pos cv hc
    subst e
    refine PySem.W.kla_makeFunctionHit (mg := X.mg) (c := c) (P := P) (ps := ps) (closure_ok hfree) I.ok.glob (I.mod.glob.keeps I.bk) hcode (TB.code.keeps I.bk) hP' ht hc bP fun ctv h' tk hx hsz => ?_
    have I1 : Inv X pins σ H { s with heap := h'.push (PySem.W.kla_obj "<lambda>" (X.env.qual ++ "<lambda>") params body scope (cloFrom X.env.cells scope.names []) ((X.mg "__name__").getD .none) c' ctv), toks := tk } := I.kept fun b o e => Heap.get?_push_of_some _ (hx b o e)
    exact h h'.objs.size c' ((X.mg "__name__").getD .none) ctv H _ I1 .same (Heap.get?_push_size _ rfl) (I.hok.fresh hsz) (nofr _ hsz) hco
end
theorem TabStep.keep {P : Addr} {q : Str} {H H1 : Hp} (t : TabStep P q H H1) {b : Addr} {o : HO} (e : H b = some o) (n : ∀ ps, o ≠ .tbl ps) : H1 b = some o := by
  cases t with
  | same => exact e
  | new hc hP _ =>
    obtain ⟨ps, hP⟩ := hP
    rw [upd_ne (ne_of_none e hc), upd_ne (fun z => n ps (by rw [z, hP] at e; exact (Option.some.inj e).symm))]
    exact e
/-- the table of code objects, ours -/
def TabA (P : Addr) (q : Str) : Asn := fun H => TabS H P q
theorem Star.tab {L : List Asn} {P : Addr} {q : Str} {H H1 : Hp} (h : Star (TabA P q :: L) H) (t : TabStep P q H H1) : Star (TabA P q :: L) H1 := by
  cases t with
  | same => exact h
  | @new c' ps' hc hP k =>
    obtain ⟨Ha, Hr, sp, a, r⟩ := h
    obtain ⟨ps, hp, ht, hm⟩ := a
    have eP := sp.l _ _ hp
    have nc : ∀ {b o}, Ha b = some o → b ≠ c' := fun e => ne_of_none (sp.l _ _ e) hc
    have nr : ∀ {b o}, Hr b = some o → b ≠ c' ∧ b ≠ P := fun {b o} e => ⟨ne_of_none (sp.r _ _ e) hc, fun z => by
      rw [z] at e
      exact sp.d _ _ _ hp e⟩
    refine ⟨upd (upd Ha P (.tbl ps')) c' (CodeO c' q), Hr, ⟨fun b o e => ?_, fun b o e => ?_, fun b o u e e2 => ?_⟩, k Ha ⟨ps, hp, ht, hm⟩ (by rw [hp, eP]), r⟩
    · by_cases h1 : b = c'
      · rw [h1] at e ⊢; rw [upd_same] at e ⊢; exact e
      · rw [upd_ne h1] at e ⊢
        by_cases h2 : b = P
        · rw [h2] at e ⊢; rw [upd_same] at e ⊢; exact e
        · rw [upd_ne h2] at e ⊢; exact sp.l _ _ e
    · obtain ⟨n1, n2⟩ := nr e
      rw [upd_ne n1, upd_ne n2]; exact sp.r _ _ e
    · obtain ⟨n1, n2⟩ := nr e2
      rw [upd_ne n1, upd_ne n2] at e
      exact sp.d _ _ _ e e2
/-! ### sorted(e, key=lambda p: p[0]) -/
def keyLe {β : Type} (k : β → Str) : β → β → Bool := PySem.W.dataLe false fun x => PyData.str (k x)
def kSortK (K : PySem.W.Frag) (P : Addr) (q : Str) (Q : VK) : VK := fun x H1 => ∃ (a : Addr) (β : Type) (xs : List β) (val : β → V) (k : β → Str), x = .ref a ∧ SqL K H1 a (xs.map val) ∧ (∀ x ∈ xs, ∃ t ys, val x = .ref t ∧ SqT K H1 t (.str (k x) :: ys)) ∧ TabS H1 P q ∧
  ∀ H2 p, TabStep P q H1 H2 → H2 p = none → Q (.ref p) (upd H2 p (.lst ((xs.mergeSort (keyLe k)).map val)))
def kArg1 (Q : VK) : List V → Hp → Prop := fun vs H => ∃ x, vs = [x] ∧ Q x H
def tSortK (K : PySem.W.Frag) (P : Addr) (q : Str) (ta : TA) : TE := fun σ H Q => ta σ H (kArg1 (kSortK K P q Q))
section
variable {X : Cx}
theorem pe_sortK {e : Expr} {ta : TA} {c P : Addr} {y : Str} {params : Arguments} {scope : Scope} {j : Nat} {p pos lpos kpos p2 p3 p4 : Pos} (hg : Gl X "sorted") (hm : X.mg "sorted" = none) (ha : PA X [e] ta)
    (TB : TabB X.base X.mg c P) (hcode : X.env.code = .ref c) (hr : X.A.depth + 3 < recursionLimit) (hu : X.A.units + 8 < cLine) (hd : X.A.handled = none)
    (S : FnScope [y] [y] scope) (hdef : defaultsOf params X.env = ([], [])) (hfree : ∀ z ∈ scope.names, z.2 ≠ .free)
    (hbind : ∀ (q : Str) (cl : List (Str × Addr)) (pm cv ctv u : Value), bindArgs (PySem.W.kla_fn "<lambda>" q params (.Subscript (.Name y p2) (.Constant (.int 0) j p3) p4) scope cl pm cv ctv) ⟨[u], []⟩ = pure [(y, u)])
    (hv : scope.names.lookup y = some .local)
    (h1 : backTo pos (starEach [e] X.env) = (false, eval e X.env) :: backTo pos (starEach [] X.env) := by rfl) (h2 : (backTo pos (starEach [e] X.env)).any (·.1) = false := by rfl)
    (hy : (y == ("__debug__" : Str)) = false := by decide) :
    PE X (.Call (.Name "sorted" p) [e] [⟨some "key", .Lambda params (.Subscript (.Name y p2) (.Constant (.int 0) j p3) p4) scope lpos, kpos⟩] pos) (tSortK X.K P (X.env.qual ++ "<lambda>") ta) := by
  refine ⟨fun pins s σ H Q I h => ?_⟩
  refine wpAny_Call_Name_kw (ld_blt I hg hm (by decide +kernel : bootBuiltins "sorted" = some (.builtin "sorted")) ?_ (by decide) (by decide))
  refine PyProof.Rows.callWith_kw (thn (ha.run pos pins s σ H _ I h) fun us s1 ⟨vs, H1, I1, r1, x, ex, q1⟩ => ?_) h1 h2 rfl rfl
  subst ex
  obtain ⟨u, rfl, ru⟩ := vals1 r1
  obtain ⟨a, β, xs, val, k, rfl, hL, hK, hT, q⟩ := q1
  cases ru
  show wpAny _ _ (evalAll ((do let v ← eval (.Lambda params (.Subscript (.Name y p2) (.Constant (.int 0) j p3) p4) scope lpos) X.env; standAt pos; pure v) :: [])) _ _ s1
  refine wpAny_evalAll_cons (wpAny_bind (lam_mk I1 TB hcode hT hdef (fun z hz e => absurd e (hfree z hz)) fun f c' pm ctv H2 s2 I2 st hf hfn hfr hco => wpAny_bind (wpAny_standAt (wpAny_pure (wpAny_evalAll_nil ?_)))))
  show wpAny _ _ (call (.builtin "sorted") [.ref a] [(Str.ofString "key", .ref f)]) _ _ s2
  have hL2 : SqL X.K H2 a (xs.map val) := by
    rcases hL with (z | ⟨o, z⟩) | z
    · exact .inl (.inl (st.keep z (fun _ => by intro w; cases w)))
    · exact .inl (.inr ⟨o, st.keep z (fun _ => by intro w; cases w)⟩)
    · exact .inr z
  have hT2 : ∀ {t : Addr} {ys : List V}, SqT X.K H1 t ys → SqT X.K H2 t ys := by
    intro t ys z
    rcases z with (z | ⟨o, z⟩) | z
    · exact .inl (.inl (st.keep z (fun _ => by intro w; cases w)))
    · exact .inl (.inr ⟨o, st.keep z (fun _ => by intro w; cases w)⟩)
    · exact .inr z
  obtain ⟨its, rv, hl, hz⟩ := I2.list hL2
  have each : ∀ {zs : List β} {us : List Value}, Vals (zs.map val) us → PySem.W.EachIs (fun u z => RelV (val z) u) us zs := by
    intro zs
    induction zs with
    | nil => intro us r; cases r; exact .nil
    | cons z zs ih => intro us r; cases r with | cons a r => exact .cons a (ih r)
  have back : ∀ {us : List Value} {zs : List β}, PySem.W.EachIs (fun u z => RelV (val z) u) us zs → Vals (zs.map val) us := by
    intro us zs r
    induction r with
    | nil => exact .nil
    | cons a _ ih => exact .cons a ih
  refine PySem.W.sorted_key_data (b := false) (R := fun u z => RelV (val z) u) (fun x => PyData.str (k x)) hl.isList (each rv) ?_ ?_ (by rw [List.length_map] at hz; exact hz) (fun x _ => ?_) (PyProof.Rows.ksk_s1 _ _) (fun _ => PyProof.Rows.ksk_l1 _ _) (fun _ => PyProof.Rows.ksk_t1 _ _) ?_ ?_
  · intro d hd d' hd'
    obtain ⟨x, _, rfl⟩ := List.mem_map.mp hd
    obtain ⟨x', _, rfl⟩ := List.mem_map.mp hd'
    rfl
  · refine .inr fun d hd => ?_
    obtain ⟨x, _, rfl⟩ := List.mem_map.mp hd
    exact ⟨(fun z => nomatch z), (fun ys z => nomatch z)⟩
  · show X.A.units + 2 + 0 < cLine
    omega
  · intro v x hvx hx h tk kp
    obtain ⟨t, ys, ev, hq⟩ := hK x hx
    have hvx' : RelV (val x) v := hvx
    rw [ev] at hvx'
    obtain rfl : v = Value.ref t := hvx'
    have I3 : Inv X pins σ H2 { s2 with heap := h, toks := tk } := I2.kept kp
    obtain ⟨its3, r3, pl3, hz3⟩ := I3.tuple (hT2 hq)
    obtain ⟨w0, e0, rw0⟩ := r3.get (i := 0) rfl
    obtain ⟨tk0, rfl⟩ := rw0
    have hl3 := r3.length
    have ecl : cloFrom X.env.cells scope.names [] = [] := List.eq_nil_iff_forall_not_mem.mpr fun z hz => by
      rcases cloFrom_mem hz with hm | ⟨m1, m2⟩
      · cases hm
      · exact hfree _ m1 rfl
    rw [ecl] at hf
    obtain ⟨⟨oc, vsc, tc, hoc, hdc, hvc⟩, _, _⟩ := I3.hok c' _ hco
    refine wpAny_call (PySem.W.kla_callFunE (by show X.A.depth < recursionLimit; omega) (kp _ _ hf) rfl S.co S.gen rfl ⟨c', oc, vsc, tc, rfl, hoc, hdc, hvc⟩ ?_)
    rw [hbind]
    refine wpAny_pure (wpAny_newFunctionEnv_cells S.kind (fun z hz => ?_) fun env he s' z => ?_)
    · rcases List.mem_cons.mp hz with e | e
      · rw [e]; exact .inl hv
      · cases e
    subst he
    refine ⟨I3.nolimit.keeps z.toInCall.keep, PySem.W.kla_codeExpr ?_⟩
    have hkd : (newEnv scope h.objs.size mainGlobals (cellsFrom (h.objs.size + 1) scope.names []) (X.env.qual ++ "<lambda>" ++ ".<locals>.") (some f) (.ref c') none builtinsNs).kindOf y = some .local := hv
    refine Subscript_ (wpAny_Name (wpAny_loadName_local S.kind hkd z.toInCall.ns (v := .ref t) ?_ ?_) hy)
    · simp only [bindL]
      rw [if_pos hkd]
      exact if_pos rfl
    · refine wpAny_Constant_int ?_
      obtain ⟨h1, tk1, es, hk1⟩ := z.done
      subst es
      have I4 : Inv X pins σ H2 { s2 with heap := h1, toks := tk1 + 1 } := I2.kept fun b o e => hk1 b o (kp b o e)
      obtain ⟨its4, r4, pl4, hz4⟩ := I4.tuple (hT2 hq)
      obtain ⟨w1, e1, rw1⟩ := r4.get (i := 0) rfl
      obtain ⟨tk2, rfl⟩ := rw1
      have hl4 := r4.length
      refine subscriptTail_builtinR (x := .str (k x) tk2) pl4.typeIs slot_tuple_getitem.lookup
        (getItem_tuple (j := 0) (k := 0) (Q := fun r s' => r = .str (k x) tk2 ∧ PySem.W.KeyPure (.str (k x)) { s2 with heap := h, toks := tk } r s') pl4 (by decide) (by decide) ?_ (by simpa using e1) ⟨rfl, ?_⟩)
      · rw [seqIndex_of (by decide) (by rw [List.size_toArray, ← hl4]; show (0 : Int) < ((ys.length + 1 : Nat) : Int); omega)]; rfl
      · exact ⟨h1, tk1 + 1, rfl, hk1, .str _ _⟩
  · intro out c h' tk kp n1 o1 hlen heach
    have hb := back heach
    refine ⟨.ref _, upd H2 (s2.heap.objs.size + 1) (.lst ((xs.mergeSort (keyLe k)).map val)), I2.laid (t' := tk) kp (Nat.le_succ _) ⟨?_, out, c, hb, o1⟩, rfl, q _ _ st (I2.hok.fresh (Nat.le_succ _))⟩
    rw [List.length_map, List.length_mergeSort]; rw [List.length_map] at hz; exact hz
end
/-- what is read of the items -/
structure LdK (L : List Asn) (K : PySem.W.Frag) {β : Type} (xs : List β) (val : β → V) (k : β → Str) : Prop where
  q : ∀ H, Star L H → ∀ x ∈ xs, ∃ t ys, val x = .ref t ∧ SqT K H t (.str (k x) :: ys)
theorem n_sortK {σ : L2.St} {Q : VK} {K : PySem.W.Frag} {P : Addr} {q : Str} {ta : TA} : xE (tSortK K P q ta) σ Q = xA ta σ (kArg1 (kSortK K P q Q)) := rfl
theorem n_arg1 {Q : VK} {x : V} : kArg1 Q [x] = Q x := funext fun H => propext ⟨fun ⟨y, e, z⟩ => by cases e; exact z, fun z => ⟨x, rfl, z⟩⟩
theorem e_sortK {L L0 : List Asn} {K : PySem.W.Frag} {P : Addr} {q : Str} {Q : VK} {a : Addr} {β : Type} {xs : List β} {val : β → V} {k : β → Str} (h : Ldg L K a (xs.map val)) (hk : LdK L K xs val k) (r : Tk L (TabA P q) L0)
    (kk : ∀ p, Al (pt p (.lst ((xs.mergeSort (keyLe k)).map val)) :: TabA P q :: L0) (Q (.ref p))) : Al L (kSortK K P q Q (.ref a)) := fun H s => by
  have s1 := r.ok _ s
  obtain ⟨H1, h1, a1⟩ := s1.get
  refine ⟨a, β, xs, val, k, rfl, h.q H s, hk.q H s, ?_, fun H2 p st hp => kk p _ ((s1.tab st).new hp)⟩
  obtain ⟨ps, e1, e2, e3⟩ := (show TabS H1 P q from a1)
  exact ⟨ps, h1 _ _ e1, e2, fun pos cv hc => by
    obtain ⟨c, z1, z2⟩ := e3 pos cv hc
    exact ⟨c, z1, h1 _ _ z2⟩⟩
end AL

/-! HD: defs whose code object is told; the head's Hook with tables; the law's end. -/
namespace AL
open PySem PySem.Spec PyProof.Rows L2 LamX
/-- the code object of the function at f, its table -/
def codeAd (K : PySem.W.Frag) (f : Addr) : Addr := match K.lookup f with
  | some ⟨_, _, .func fd, _⟩ => (match fd.code with
    | .ref c => c
    | _ => 0)
  | _ => 0
def tabOf (K : PySem.W.Frag) (c : Addr) : Addr := match K.lookup c with
  | some ⟨_, _, .fields vs, _⟩ => (match (vs[11]? : Option Value) with
    | some (.ref P) => P
    | _ => 0)
  | _ => 0
def tabAd (K : PySem.W.Frag) (p : Str × Option Str) : Addr := tabOf K (codeAd K (He.fAd K p))
theorem codeIn_ref {K : PySem.W.Frag} {v : Value} {q : Str} (h : PySem.W.codeIn K v q = true) : ∃ c, v = .ref c := by
  cases v with
  | ref c => exact ⟨c, rfl⟩
  | _ => cases h
section
variable {P : Program} {w : World} {K : PySem.W.Frag} {mg : Str → Option Value} {base : Heap} {x qual : Str} {params : Arguments} {body : List Stmt} {scope : Scope} {f : Addr} {N ps : List Str} {k : Nat}
theorem FunD.code {fd : FuncData} (F : FunD K x qual params body scope [] [] f fd) : fd.code = .ref (codeAd K f) := by
  obtain ⟨oc, od, dV, kV, doc, pm, an, cdv, ct, osl, rfl, lk, hcd, _, _⟩ := F.ex
  obtain ⟨c, rfl⟩ := codeIn_ref hcd
  unfold codeAd
  rw [lk]
/-- as Tri.fn, and what stands for the code -/
theorem Tri.fnC (S : Tri) (F : ∃ fd, FunD K x qual params body scope [] [] f fd) (sc : FnScope N ps scope) (len : ∀ g, (S.args g).length = ps.length)
    (hb : ∀ (kV doc pm : Value) (an : Option Addr) (cdv ct : Value) (us : List Value), us.length = ps.length →
      bindArgs (PySem.W.fnOf x qual params body scope .none kV doc pm an cdv ct) ⟨us, []⟩ = pure (ps.zip us))
    (hbody : ∀ (cdv : Value) (A : Around) (outer : List Env) (s : Shared) (H : Hp) (E : XK) (Q : VK) (g : S.G) (R : Asn), cdv = .ref (codeAd K f) →
      Rm k (A.deeper (envOfC qual scope s.heap.objs.size f cdv)) → S.cond g → (∀ o, S.ok g o → Al (S.post g o ++ [R]) (Q (S.res g o))) → (∀ c d M, S.exc g c d M → Al (M ++ [R]) (E c d)) →
      ∃ t, PSs (cxOf (CX P w) P w K mg base N qual scope f cdv A outer s H E) body t ∧ Al (S.pre g ++ [R]) (fun H => t { nx := fun _ H' => Q .non H', rt := Q } (start N (S.args g)) H)) :
    FnG P w K mg base (k + 1) f ps S.sp := by
  obtain ⟨fd, F⟩ := F
  have bb := FunD.bindsA F hb
  have lens : ∀ vs H Q E, S.sp vs H Q E → vs.length = ps.length := fun vs H Q E ⟨g, _, e, _⟩ => by rw [e]; exact len g
  have hco := FunD.code F
  obtain ⟨oc, od, dV, kV, doc, pm, an, cdv, ct, osl, rfl, lk, hcd, _, _⟩ := F.ex
  have hco : cdv = .ref (codeAd K f) := hco
  refine ⟨lens, F.kp, fun A outer s H us vs Q E hr e0 KX r hsp => ?_⟩
  have hl := lens _ _ _ _ hsp
  have lim : s.heap.NoLimit := e0.mod.nolimit.keeps fun b o e => (e0.bs b o e).1
  have kinds : ∀ y ∈ ps.zip us, scope.names.lookup y.1 = some .local ∨
      (scope.names.lookup y.1 = some .cell ∧ ((cellsFrom (s.heap.objs.size + 1) scope.names []).lookup y.1).isSome = true) := fun ⟨n, v⟩ hy =>
    (sc.par n (List.of_mem_zip hy).1).imp id fun q => ⟨q, PySem.W.cellsFrom_some _ _ _ (.inl q)⟩
  refine codeAny_call_function hr.r.depth (KX _ _ lk) rfl sc.co sc.gen rfl (PySem.W.codeRec_of KX hcd) (bb s us (by rw [← r.length]; exact hl) _ _ _ _ ?_)
  refine wpAny_newFunctionEnv_cells sc.kind kinds fun env he s1 z => ?_
  subst he
  refine ⟨lim.keeps z.toInCall.keep, codeAny_func ?_⟩
  obtain ⟨g, R, e, c, st, kk, kx⟩ := hsp
  subst e
  obtain ⟨t, ht, hq⟩ := hbody cdv A outer s H E Q g R hco ⟨hr.r.deeper _, hr.g⟩ c kk kx
  have I := inv_start (CX := CX P w) (E := E) (N := N) (qual := qual) (f := f) (cd := cdv) sc hr.r.hd e0 hl r z
  exact wpAny_mono (ht.run [] s1 (start N (S.args g)) H _ I (hq H st)) (fun fl s' hs => by
    cases fl with
    | ret u => exact let ⟨v, _, H', J, rv, q⟩ := hs; ⟨v, H', J.os, J.bare, J.base, J.hok, rv, q⟩
    | next => exact let ⟨_, H', J, q⟩ := hs; ⟨V.non, H', J.os, J.bare, J.base, J.hok, rfl, q⟩
    | brk => exact let ⟨_, _, _, q⟩ := hs; False.elim q
    | cont => exact let ⟨_, _, _, q⟩ := hs; False.elim q) fun _ _ hs => hs
end
/-! ### the Hook -/
def isTab (o : Obj) : Bool := match o.cls, o.data with
  | .none, .fields _ => true
  | _, _ => false
def growT (g : Addr → Option Obj) (as : List Addr) : List Addr := (as ++ as.flatMap fun a => match g a with
  | some o => (He.refsD o).filter fun b => match g b with
    | some u => !isTab u
    | none => false
  | none => []).eraseDups
def namesAt (g : Addr → Option Obj) (names : List Str) : List Addr := match g mainGlobals with
  | some ⟨_, _, .dict es _, _⟩ => es.toList.filterMap fun e => match e.key, e.val with
    | .str x _, .ref a => if names.contains x then some a else none
    | _, _ => none
  | _ => []
def asT (names : List Str) (g : Addr → Option Obj) : Nat → List Addr
  | 0 => namesAt g names
  | n + 1 => growT g (asT names g n)
abbrev AlT : Type := He.AlD × Bool × List (Option Obj)
def tabB (K : PySem.W.Frag) (p : Str × Option Str) : Bool := PySem.W.codeHdIn K (codeAd K (He.fAd K p)) (tabAd K p) && (decide (K.lookup (tabAd K p) = none) && decide (mainGlobals ≠ tabAd K p))
def obsT (fa : List He.Fa) (fn : List He.DefD) (lams : List (Str × Option Str)) (tps : List (Str × List He.Dv)) (g : Addr → Option Obj) (K : PySem.W.Frag) : AlT :=
  (He.obsD fa fn K, ((lams.all fun p => tabB K p) && tps.all fun p => He.tupB K p.1 p.2) && decide ((lams.map fun p => tabAd K p).Nodup), lams.map fun p => g (tabAd K p))
def tab0 : Obj := { cls := .none, data := .fields #[] }
def valT (fn : List He.DefD) (lams : List (Str × Option Str)) : AlT := (He.valD fn, true, lams.map fun _ => some tab0)
def fragT (n : Nat) (names : List Str) (g : Addr → Option Obj) : PySem.W.Frag := He.frG g (mainGlobals :: asT names g n)
structure SaysT (fa : List He.Fa) (fn : List He.DefD) (lams : List (Str × Option Str)) (tps : List (Str × List He.Dv)) (K : PySem.W.Frag) (h : Heap) : Prop where
  kin : K.In h
  d : He.SaysD fa fn K
  tb : ∀ p ∈ lams, tabB K p = true
  nd : (lams.map fun p => tabAd K p).Nodup
  at0 : ∀ p ∈ lams, h.get? (tabAd K p) = some tab0
  tp : ∀ p ∈ tps, He.tupB K p.1 p.2 = true
def hookT (n : Nat) (names : List Str) (fa : List He.Fa) (fn : List He.DefD) (lams : List (Str × Option Str)) (tps : List (Str × List He.Dv)) : PySem.W.Hook where
  α := AlT
  obs := fun s => obsT fa fn lams tps s.heap.get? (fragT n names s.heap.get?)
  val := fun _ => valT fn lams
  says := fun _ h => ∃ K : PySem.W.Frag, SaysT fa fn lams tps K h
  of := fun w s e => by
    refine ⟨fragT n names s.heap.get?, He.frG_in, congrArg (fun z : AlT => z.1) e, ?_, ?_, ?_, ?_⟩
    · have e2 : _ = true := congrArg (fun z : AlT => z.2.1) e
      exact List.all_eq_true.mp (Bool.and_eq_true_iff.mp (Bool.and_eq_true_iff.mp e2).1).1
    · have e2 : _ = true := congrArg (fun z : AlT => z.2.1) e
      exact of_decide_eq_true (Bool.and_eq_true_iff.mp e2).2
    · have e3 : (lams.map fun p => s.heap.get? (tabAd (fragT n names s.heap.get?) p)) = lams.map fun _ => some tab0 := congrArg (fun z : AlT => z.2.2) e
      exact fun p hp => List.map_inj_left.mp e3 p hp
    · have e2 : _ = true := congrArg (fun z : AlT => z.2.1) e
      exact List.all_eq_true.mp (Bool.and_eq_true_iff.mp (Bool.and_eq_true_iff.mp e2).1).2
  keeps := fun _ _ _ ⟨K, q⟩ k => ⟨K, PySem.W.Frag.In.keeps q.kin k, q.d, q.tb, q.nd, fun p hp => k _ _ (q.at0 p hp), q.tp⟩
def obT (n : Nat) (names : List Str) (fa : List He.Fa) (fn : List He.DefD) (lams : List (Str × Option Str)) (tps : List (Str × List He.Dv)) (s : PySem.W.SharedT) : AlT := obsT fa fn lams tps (HandSHeadRun.getT s) (fragT n names (HandSHeadRun.getT s))
theorem obT_eq (n : Nat) (names : List Str) (fa : List He.Fa) (fn : List He.DefD) (lams : List (Str × Option Str)) (tps : List (Str × List He.Dv)) (s : PySem.W.SharedT) : obT n names fa fn lams tps s = (hookT n names fa fn lams tps).obs s.abs := by
  have e : HandSHeadRun.getT s = s.abs.heap.get? := funext fun a => HandSHeadRun.getT_eq s a
  show obsT _ _ _ _ _ _ = obsT _ _ _ _ _ _
  rw [e]
/-! ### the law's end -/
/-- the tables put into an abstract heap -/
def putT : List Addr → Hp → Hp
  | [], H => H
  | P :: Ps, H => upd (putT Ps H) P (.tbl #[])
theorem putT_at : ∀ {Ps : List Addr} {H : Hp} {b : Addr}, (b ∈ Ps ∧ putT Ps H b = some (.tbl #[])) ∨ (b ∉ Ps ∧ putT Ps H b = H b)
  | [], _, _ => .inr ⟨by simp, rfl⟩
  | P :: Ps, H, b => by
    by_cases e : b = P
    · exact .inl ⟨by rw [e]; exact List.mem_cons_self .., by rw [e]; exact upd_same⟩
    · rcases putT_at (Ps := Ps) (H := H) (b := b) with ⟨h1, h2⟩ | ⟨h1, h2⟩
      · exact .inl ⟨List.mem_cons_of_mem _ h1, by show upd _ _ _ b = _; rw [upd_ne e]; exact h2⟩
      · exact .inr ⟨fun z => (List.mem_cons.mp z).elim e h1, by show upd _ _ _ b = _; rw [upd_ne e]; exact h2⟩
theorem star_tabs {L : List Asn} {H : Hp} (h : Star L H) : ∀ (Ts : List (Addr × Str)), (Ts.map (·.1)).Nodup → (∀ t ∈ Ts, H t.1 = none) → Star (Ts.map (fun t => TabA t.1 t.2) ++ L) (putT (Ts.map (·.1)) H)
  | [], _, _ => h
  | t :: Ts, nd, hn => by
    have nd2 := List.nodup_cons.mp nd
    have ih := star_tabs h Ts nd2.2 fun u hu => hn u (List.mem_cons_of_mem _ hu)
    have e : putT (Ts.map (·.1)) H t.1 = none := by
      rcases putT_at (Ps := Ts.map (·.1)) (H := H) (b := t.1) with ⟨h1, _⟩ | ⟨_, h2⟩
      · exact absurd h1 nd2.1
      · rw [h2]; exact hn t (List.mem_cons_self ..)
    exact (ih.new e).head fun H1 q => TabS.nil q
/-- what the law's promise asks of the tables -/
structure TabsOk (K : PySem.W.Frag) (cs : List (Addr × Addr)) (h : Heap) : Prop where
  hd : ∀ p ∈ cs, PySem.W.codeHdIn K p.1 p.2 = true
  at0 : ∀ p ∈ cs, h.get? p.2 = some tab0
  out : ∀ p ∈ cs, K.lookup p.2 = none
section
variable {P : Program} {w : World} {K : PySem.W.Frag} {mg mb : Str → Option Value} {k : Nat} {fa a : Addr} {x : Str} {sp : Sp} {s₁ : Shared} {vs : List Value} {ns : List Int} {cs : List (Addr × Addr)}
theorem law_tabs (KX : K.In s₁.heap) (hns : s₁.heap.Ns mainGlobals mg) (hb : s₁.heap.Ns builtinsNs mb) (hbb : ∀ x : Str, x ≠ "__name__" → mb x = bootBuiltins x)
    (hlim : s₁.heap.NoLimit) (hg : s₁.gens = #[]) (ha : s₁.heap.get? a = some { cls := .type "list", data := .seq vs.toArray }) (T : TabsOk K cs s₁.heap)
    (hbm : ∃ (bm : Addr) (ob : Obj), mg "__builtins__" = some (.ref bm) ∧ bm ≠ builtinsNs ∧ s₁.heap.get? bm = some ob ∧ ob.cls = .type "module" ∧ ob.dict = some builtinsNs ∧ ob.data = .plain) (hr : Rm k callerA)
    (F : ∀ base : Heap, K.In base → (∀ p ∈ cs, base.BuiltinsAt mg p.2) → FnG P w K mg base k fa [x] sp)
    (hsp : ∀ H : Hp, Only H → (∀ p ∈ cs, H p.2 = none) → SqL K H a (ns.map V.int) → sp [.ref a] (putT (cs.map (·.2)) H) (fun v _ => v = .bl true) fun _ _ _ => False)
    (H0 : Hp) (hO : Only H0) (hS : SqL K H0 a (ns.map V.int)) (hok0 : HOk P w H0 s₁.heap) (hA : ∀ b, H0 b ≠ none → b = a) (hK : H0 a ≠ none → K.lookup a = none) :
    codeAny (model P w) callerA (.call (.ref fa) ⟨[.ref a], []⟩) (fun r s' => r = .ok (.ret (.bool true)) ∧ OldK s₁.heap s'.heap ∧ s'.os = s₁.os ∧ AllBare s'.gens) s₁ := by
  have tabAt : ∀ {b : Addr}, b ∈ cs.map (·.2) → s₁.heap.get? b = some tab0 ∧ K.lookup b = none := fun {b} hb => by
    obtain ⟨p, hp, e⟩ := List.mem_map.mp hb
    exact e ▸ ⟨T.at0 p hp, T.out p hp⟩
  have scr : ∀ {b : Addr}, b ∈ cs.map (·.2) → H0 b = none := fun {b} hb => by
    cases q : H0 b with
    | none => rfl
    | some u =>
      obtain rfl := hA b (by rw [q]; simp)
      have e := (tabAt hb).1
      rw [ha] at e
      have e2 := congrArg Obj.data (Option.some.inj e)
      exact nomatch (show Data.seq vs.toArray _ = Data.fields #[] from e2)
  generalize hH : putT (cs.map (·.2)) H0 = H
  have cases3 : ∀ b, (b ∈ cs.map (·.2) ∧ H b = some (.tbl #[])) ∨ (b ∉ cs.map (·.2) ∧ H b = H0 b) := fun b => hH ▸ putT_at
  -- objects that are neither lists nor tables are not tracked
  have plain : ∀ {b : Addr} {o : Obj}, s₁.heap.get? b = some o → (∀ us n, o.data ≠ .seq us n) → o.data ≠ .fields #[] → H b = none := fun {b o} e n1 n2 => by
    rcases cases3 b with ⟨hb, _⟩ | ⟨_, e2⟩
    · have q := (tabAt hb).1
      rw [e] at q
      exact (n2 (congrArg Obj.data (Option.some.inj q))).elim
    · rw [e2]
      cases q : H0 b with
      | none => rfl
      | some u =>
        obtain rfl := hA b (by rw [q]; simp)
        rw [ha] at e
        exact (n1 _ _ (congrArg Obj.data (Option.some.inj e)).symm).elim
  have ns_in : ∀ {b : Addr} {m : Str → Option Value}, s₁.heap.Ns b m → (hidT s₁.heap H).Ns b m := fun {b m} ⟨o, es, ep, e, d, r⟩ =>
    ⟨o, es, ep, hidT_get e (plain e (fun us n z => by rw [d] at z; cases z) (fun z => by rw [d] at z; cases z)), d, r⟩
  have k_in : K.In (hidT s₁.heap H) := fun b o e => hidT_get (KX b o e) (by
    rcases cases3 b with ⟨hb, _⟩ | ⟨_, e2⟩
    · rw [(tabAt hb).2] at e; cases e
    · rw [e2]
      cases q : H0 b with
      | none => rfl
      | some u =>
        obtain rfl := hA b (by rw [q]; simp)
        rw [hK (by rw [q]; simp)] at e
        cases e)
  have lim : (hidT s₁.heap H).NoLimit := let ⟨mc, h1, h2⟩ := hlim; ⟨mc, ns_in h1, h2⟩
  have bm : ∀ p ∈ cs, (hidT s₁.heap H).BuiltinsAt mg p.2 := fun p hp => by
    obtain ⟨bm, ob, b1, b2, b3, b4, b5, b6⟩ := hbm
    refine ⟨bm, ob, b1, b2, fun z => ?_, fun z => ?_, hidT_get b3 (plain b3 (fun us n z => by rw [b6] at z; cases z) (fun z => by rw [b6] at z; cases z)), b4, b5, b6⟩
    · obtain ⟨o, es, ep, e, d, _⟩ := hns
      rw [← z, b3] at e
      rw [← Option.some.inj e, b6] at d
      cases d
    · have e := T.at0 p hp
      rw [← z, b3] at e
      have e2 := congrArg Obj.data (Option.some.inj e)
      rw [b6] at e2
      cases e2
  have hok : HOk P w H s₁.heap := fun b u e => by
    rcases cases3 b with ⟨hb, e1⟩ | ⟨_, e1⟩
    · rw [e1] at e
      cases e
      exact (tabAt hb).1
    · rw [e1] at e
      rcases hO b with z | ⟨ob, xs, z⟩
      · rw [e] at z; cases z
      · rw [e] at z
        cases z
        exact hok0 b _ e
  have e0 : Env0 P w K mg (hidT s₁.heap H) callerA [] s₁ H :=
    ⟨rfl, ⟨k_in, ns_in hns, ⟨mb, ns_in hb, hbb⟩, lim⟩, fun b o e => of_hidT e, Nat.le_of_eq (hidT_size _ _), trivial, fun b hb => (nomatch (show b ∈ ([] : List Addr) from hb)), hok, .of_eq hg⟩
  have z := (F (hidT s₁.heap H) k_in bm).run callerA [] s₁ H [.ref a] [.ref a] _ _ hr e0 KX (.cons rfl .nil) (hH ▸ hsp H0 hO (fun p hp => scr (List.mem_map.mpr ⟨p, hp, rfl⟩)) hS)
  refine codeAny_mono z fun r s' h => ?_
  cases r with
  | error e => exact let ⟨_, _, _, _, _, _, _, _, _, _, _, _, h⟩ := h; h.elim
  | ok fl =>
    cases fl with
    | next => exact False.elim h
    | brk => exact False.elim h
    | cont => exact False.elim h
    | ret u =>
      obtain ⟨v, H', os, bare, un, hok', rv, q⟩ := h
      obtain rfl : v = .bl true := q
      obtain rfl : u = Value.bool true := rv
      have keep : ∀ b o, b ∉ cs.map (·.2) → s₁.heap.get? b = some o → s'.heap.get? b = some o := fun b o nb e => by
        rcases cases3 b with ⟨hb, _⟩ | ⟨_, e2⟩
        · exact absurd hb nb
        · cases q : H0 b with
          | none => exact un.keep b o e (e2.trans q) (fun z => nomatch (show b ∈ ([] : List Addr) from z)) (fun z => nomatch (show b ∈ ([] : List Addr) from z))
          | some u =>
            rcases hO b with z | ⟨ob, xs, z⟩
            · rw [q] at z; cases z
            · have e3 := e2.trans z
              have e4 := (hok b _ e3).1
              have e5 := (hok' b _ (un.frzs b ob _ e3)).1
              rw [e] at e4
              cases e4
              exact e5
      have grown : ∀ b ∈ cs.map (·.2), ∃ more : Array Value, s'.heap.get? b = some { cls := .none, data := .fields more } := fun b hb => by
        rcases cases3 b with ⟨_, e1⟩ | ⟨nb, _⟩
        · obtain ⟨more, z⟩ := un.tbls b #[] e1
          exact ⟨_, hok' b _ z⟩
        · exact absurd hb nb
      refine ⟨rfl, ⟨fun b o e => ?_, fun b o e => ?_⟩, os, bare⟩
      · by_cases hb : b ∈ cs.map (·.2)
        · obtain ⟨p, hp, ep⟩ := List.mem_map.mp hb
          obtain ⟨more, hm⟩ := grown b hb
          have e1 := (tabAt hb).1
          rw [e1] at e
          cases e
          have cd := PySem.W.codeHd_of_K KX (T.hd p hp)
          subst ep
          exact .inr (.inl ⟨(cd.tab (T.at0 p hp)).isCodeTable, rfl, #[], more, rfl, by rw [Array.empty_append]; exact hm⟩)
        · exact .inl (keep b o hb e)
      · by_cases hb : b ∈ cs.map (·.2)
        · obtain ⟨more, hm⟩ := grown b hb
          exact ⟨_, hm⟩
        · exact ⟨o, keep b o hb e⟩
end
section
variable {P : Program} {w : World} {K : PySem.W.Frag} {mg mb : Str → Option Value} {k : Nat} {fa a : Addr} {x : Str} {sp : Sp} {s₁ : Shared} {vs : List Value} {ns : List Int} {cs : List (Addr × Addr)}
/-- from the script as the law gets it -/
theorem law_tabs0 (KX : K.In s₁.heap) (hns : s₁.heap.Ns mainGlobals mg) (hb : s₁.heap.Ns builtinsNs mb) (hbb : ∀ x : Str, x ≠ "__name__" → mb x = bootBuiltins x)
    (hlim : s₁.heap.NoLimit) (hg : s₁.gens = #[]) (ha : s₁.heap.get? a = some { cls := .type "list", data := .seq vs.toArray }) (T : TabsOk K cs s₁.heap)
    (hbm : ∃ (bm : Addr) (ob : Obj), mg "__builtins__" = some (.ref bm) ∧ bm ≠ builtinsNs ∧ s₁.heap.get? bm = some ob ∧ ob.cls = .type "module" ∧ ob.dict = some builtinsNs ∧ ob.data = .plain) (hr : Rm k callerA) (hi : IntsAre vs ns) (hl : ns.length ≤ sizeLine)
    (F : ∀ base : Heap, K.In base → (∀ p ∈ cs, base.BuiltinsAt mg p.2) → FnG P w K mg base k fa [x] sp)
    (hsp : ∀ H : Hp, Only H → (∀ p ∈ cs, H p.2 = none) → SqL K H a (ns.map V.int) → sp [.ref a] (putT (cs.map (·.2)) H) (fun v _ => v = .bl true) fun _ _ _ => False) :
    codeAny (model P w) callerA (.call (.ref fa) ⟨[.ref a], []⟩) (fun r s' => r = .ok (.ret (.bool true)) ∧ OldK s₁.heap s'.heap ∧ s'.os = s₁.os ∧ AllBare s'.gens) s₁ := by
  have rv := vals_ints hi
  have lenV := hi.length
  cases hk : K.lookup a with
  | some o =>
    obtain rfl := Option.some.inj (ha.symm.trans (KX a o hk))
    exact law_tabs KX hns hb hbb hlim hg ha T hbm hr F hsp (fun _ => none) (fun _ => .inl rfl) (.inr ⟨_, vs.toArray, _, hk, rfl, rfl, rfl, by rw [List.size_toArray, lenV]; exact hl, by simpa using rv⟩) (fun b u z => nomatch (show (none : Option HO) = some u from z)) (fun b z => absurd rfl z) fun z => absurd rfl z
  | none =>
    have pick : ∀ {b : Addr} {u : HO}, one a (.frz { cls := .type "list", data := .seq vs.toArray } (.lst (ns.map V.int))) b = some u → b = a ∧ u = HO.frz { cls := .type "list", data := .seq vs.toArray } (.lst (ns.map V.int)) := one_some
    refine law_tabs KX hns hb hbb hlim hg ha T hbm hr F hsp (one a (.frz { cls := .type "list", data := .seq vs.toArray } (.lst (ns.map V.int)))) (fun b => ?_) (.inl (.inr ⟨_, one_same⟩)) (fun b u z => ?_) (fun b z => ?_) fun _ => hk
    · by_cases e : b = a
      · exact .inr ⟨_, _, by rw [e]; exact one_same⟩
      · exact .inl (if_neg e)
    · obtain ⟨rfl, rfl⟩ := pick z
      exact ⟨ha, by rw [List.length_map]; exact hl, vs, _, rv, ha⟩
    · by_cases e : b = a
      · exact e
      · exact absurd (if_neg e) z
end
/-- a law's promise: a script of at most so many ints, of so many bits at most; the tables of lambdas; True -/
def S_lawT (K : PySem.W.Frag) (Ts : List (Addr × Str)) : Tri where
  G := Addr × List Int
  O := Unit
  args g := [.ref g.1]
  cond g := g.2.length ≤ 63 ∧ ∀ z ∈ g.2, Builtin.Int.intBits z ≤ 1048576
  pre g := Ts.map (fun t => TabA t.1 t.2) ++ [sq K g.1 (g.2.map V.int)]
  res _ _ := .bl true
theorem sp_lawT (K : PySem.W.Frag) (Ts : List (Addr × Str)) (nd : (Ts.map (·.1)).Nodup) (H : Hp) (a : Addr) (ns : List Int) (hl : ns.length ≤ 63) (hb : ∀ z ∈ ns, Builtin.Int.intBits z ≤ 1048576) (hn : ∀ t ∈ Ts, H t.1 = none) (hs : SqL K H a (ns.map V.int)) :
    (S_lawT K Ts).sp [.ref a] (putT (Ts.map (·.1)) H) (fun v _ => v = .bl true) fun _ _ _ => False := by
  refine ⟨(a, ns), fun _ => True, rfl, ⟨hl, hb⟩, ?_, fun _ _ _ _ => rfl, fun _ _ _ h => h.elim⟩
  show Star (Ts.map (fun t => TabA t.1 t.2) ++ [sq K a (ns.map V.int)] ++ [fun _ => True]) _
  rw [List.append_assoc]
  refine star_tabs ?_ Ts nd hn
  exact ⟨H, fun _ => none, ⟨fun _ _ e => e, fun _ _ e => (nomatch e), fun _ _ _ _ e => (nomatch e)⟩, hs, ⟨fun _ => none, fun _ => none, ⟨fun _ _ e => (nomatch e), fun _ _ e => (nomatch e), fun _ _ _ e => (nomatch e)⟩, trivial, trivial⟩⟩
theorem walk_t {l : PySem.W.OpenLaw} {k : Nat} {q : Program} {loose : List Str} {XP : (Str → Option Value) → Heap → Prop} {YP : World → Heap → Prop} {d : DefRec}
    (hn : l.most = some 63) (hdf : d.params.defaults = []) (hr : Room k callerA)
    (F : ∀ (w : World) (mg : Str → Option Value) (fa : Addr) (h : Heap), YP w h → h.Ns mainGlobals mg → mg d.name = some (.ref fa) →
      ∃ (K : PySem.W.Frag) (Ts : List (Addr × Addr × Str)) (x : Str), K.In h ∧ TabsOk K (Ts.map fun t => (t.1, t.2.1)) h ∧ (Ts.map (·.2.1)).Nodup ∧
        ∀ base : Heap, K.In base → (∀ t ∈ Ts, base.BuiltinsAt mg t.2.1) → FnG l.prog w K mg base k fa [x] (S_lawT K (Ts.map (·.2))).sp) :
    PySem.W.WalkO q loose XP YP l.row.toRowW d [] (fun f vs => PySem.call f vs) := by
  refine Att.attach_callB hn hdf fun w s₀ s₁ mg mb fa o pm cd doc a vs ns G Y ho hd hcd hmg hobj hints hlen hbits hg => ?_
  obtain ⟨K, Ts, x, KX, T, nd, hF⟩ := F w mg fa _ Y G.T.g hmg
  have em : (Ts.map (·.2)).map (·.1) = (Ts.map fun t => (t.1, t.2.1)).map (·.2) := by rw [List.map_map, List.map_map]; rfl
  refine law_tabs0 KX G.T.g G.T.b G.T.builtins G.T.nolimit hg hobj T G.T.bmain ⟨hr, rfl⟩ hints (Nat.le_trans hlen (by decide)) (sp := (S_lawT K (Ts.map (·.2))).sp) (x := x) (fun base kb bmb => hF base kb fun t ht => bmb (t.1, t.2.1) (List.mem_map.mpr ⟨t, ht, rfl⟩)) fun H hO hnn hS => ?_
  rw [← em]
  refine sp_lawT K (Ts.map (·.2)) (by rw [em, List.map_map]; exact nd) H a ns hlen hbits (fun t ht => ?_) hS
  obtain ⟨u, hu, rfl⟩ := List.mem_map.mp ht
  exact hnn (u.1, u.2.1) (List.mem_map.mpr ⟨u, hu, rfl⟩)
theorem run_two {α β γ δ : Type} {e : Option α} {A : α → β} {B : α → γ} {C : α → δ} {a : β} {b : γ} {c : δ} (h1 : e.map (fun s => (A s, B s)) = some (a, b)) (h2 : e.map C = some c) : e.map (fun s => (A s, B s, C s)) = some (a, b, c) := by
  cases e with
  | none => cases h1
  | some s =>
    have h1 := Option.some.inj h1
    have h2 := Option.some.inj h2
    simp only [Prod.mk.injEq] at h1
    simp only [Option.map_some]
    rw [h1.1, h1.2, h2]
theorem ps_never {X : Cx} {st : Stmt} : PS X st (fun _ _ _ => False) := ⟨fun _ _ _ _ _ _ h => h.elim⟩
theorem tabB_ok {K : PySem.W.Frag} {base : Heap} {mg : Str → Option Value} {p : Str × Option Str} (kb : K.In base) (h : tabB K p = true) (bm : base.BuiltinsAt mg (tabAd K p)) : TabB base mg (codeAd K (He.fAd K p)) (tabAd K p) := by
  obtain ⟨h1, h2⟩ := Bool.and_eq_true_iff.mp h
  exact ⟨PySem.W.codeHd_of_K kb h1, bm, (of_decide_eq_true (Bool.and_eq_true_iff.mp h2).2)⟩
theorem ends_t {P : Program} {w : World} {K : PySem.W.Frag} {mg : Str → Option Value} {h : Heap} {fa : List He.Fa} {fn : List He.DefD} {lams : List (Str × Option Str)} {tps : List (Str × List He.Dv)} {k : Nat} {f : Addr} (Z : SaysT fa fn lams tps K h) (qs : List Str) (hq : qs.length = lams.length) (x : Str)
    (F : ∀ base : Heap, K.In base → (∀ p ∈ lams, base.BuiltinsAt mg (tabAd K p)) → FnG P w K mg base k f [x] (S_lawT K ((lams.zip qs).map fun z => (tabAd K z.1, z.2))).sp) :
    ∃ (K : PySem.W.Frag) (Ts : List (Addr × Addr × Str)) (x : Str), K.In h ∧ TabsOk K (Ts.map fun t => (t.1, t.2.1)) h ∧ (Ts.map (·.2.1)).Nodup ∧
        ∀ base : Heap, K.In base → (∀ t ∈ Ts, base.BuiltinsAt mg t.2.1) → FnG P w K mg base k f [x] (S_lawT K (Ts.map (·.2))).sp := by
  have e1 : ((lams.zip qs).map fun z => tabAd K z.1) = lams.map fun p => tabAd K p := by
    have : (lams.zip qs).map (·.1) = lams := by rw [List.map_fst_zip]; omega
    rw [← this, List.map_map, this]; rfl
  refine ⟨K, (lams.zip qs).map fun z => (codeAd K (He.fAd K z.1), tabAd K z.1, z.2), x, Z.kin, ⟨?_, ?_, ?_⟩, ?_, fun base kb bm => ?_⟩
  · intro p hp
    rw [List.map_map] at hp
    obtain ⟨z, hz, rfl⟩ := List.mem_map.mp hp
    exact (Bool.and_eq_true_iff.mp (Z.tb z.1 (List.of_mem_zip hz).1)).1
  · intro p hp
    rw [List.map_map] at hp
    obtain ⟨z, hz, rfl⟩ := List.mem_map.mp hp
    exact Z.at0 z.1 (List.of_mem_zip hz).1
  · intro p hp
    rw [List.map_map] at hp
    obtain ⟨z, hz, rfl⟩ := List.mem_map.mp hp
    exact of_decide_eq_true (Bool.and_eq_true_iff.mp (Bool.and_eq_true_iff.mp (Z.tb z.1 (List.of_mem_zip hz).1)).2).1
  · rw [List.map_map]
    exact e1 ▸ Z.nd
  · rw [List.map_map]
    refine F base kb fun p hp => ?_
    have hp' : p ∈ (lams.zip qs).map (·.1) := by rw [List.map_fst_zip (by omega)]; exact hp
    obtain ⟨z, hz, rfl⟩ := List.mem_map.mp hp'
    exact bm _ (List.mem_map.mpr ⟨z, hz, rfl⟩)
end AL

/-! EN5: data made of tuples: may be had twice. -/
namespace AL
open PySem PySem.Spec PyProof.Rows L2
/-- the tuples alone -/
def tupH (H : Hp) : Hp := fun a => match H a with
  | some (.tup xs) => some (.tup xs)
  | _ => none
theorem tupH_some {H : Hp} {a : Addr} {o : HO} (h : tupH H a = some o) : H a = some o ∧ ∃ xs, o = .tup xs := by
  unfold tupH at h
  split at h
  · rename_i xs e
    cases h
    exact ⟨e, xs, rfl⟩
  · cases h
theorem tupH_of {H : Hp} {a : Addr} {xs : List V} (h : H a = some (.tup xs)) : tupH H a = some (.tup xs) := by
  unfold tupH; rw [h]
theorem tupH_up {H H' : Hp} (m : ∀ a o, H a = some o → H' a = some o) : ∀ a o, tupH H a = some o → tupH H' a = some o := fun a o h => by
  obtain ⟨e, xs, rfl⟩ := tupH_some h
  exact tupH_of (m _ _ e)
/-- x is the data d, made of tuples -/
def Fz (K : PySem.W.Frag) (x : V) (d : PyData) : Asn := fun H => Dp K (tupH H) x d
def Fzs (K : PySem.W.Frag) (xs : List V) (ds : List PyData) : Asn := fun H => DpAll K (tupH H) xs ds
theorem Fz.dup {K : PySem.W.Frag} {x : V} {d : PyData} : Dup (Fz K x d) := fun H h =>
  ⟨tupH H, fun a o e => by obtain ⟨e1, xs, rfl⟩ := tupH_some e; exact ⟨e1, trivial⟩, Dp.up (fun a o e => by obtain ⟨e1, xs, rfl⟩ := tupH_some e; exact tupH_of e) d x h⟩
theorem Fzs.dup {K : PySem.W.Frag} {xs : List V} {ds : List PyData} : Dup (Fzs K xs ds) := fun H h =>
  ⟨tupH H, fun a o e => by obtain ⟨e1, xs, rfl⟩ := tupH_some e; exact ⟨e1, trivial⟩, DpAll.up (fun a o e => by obtain ⟨e1, xs, rfl⟩ := tupH_some e; exact tupH_of e) ds xs h⟩
theorem Dp.of_tup {K : PySem.W.Frag} {H : Hp} {x : V} {d : PyData} (h : Dp K (tupH H) x d) : Dp K H x d := Dp.up (fun a o e => (tupH_some e).1) d x h
theorem DpAll.of_tup {K : PySem.W.Frag} {H : Hp} {xs : List V} {ds : List PyData} (h : DpAll K (tupH H) xs ds) : DpAll K H xs ds := DpAll.up (fun a o e => (tupH_some e).1) ds xs h
theorem DpAll.len {K : PySem.W.Frag} {H : Hp} : ∀ {ds : List PyData} {xs : List V}, DpAll K H xs ds → xs.length = ds.length
  | [], _, h => by cases h; rfl
  | d :: ds, _, h => by cases h with | cons h1 h2 => rw [List.length_cons, List.length_cons, DpAll.len h2]
theorem DpAll.get {K : PySem.W.Frag} {H : Hp} : ∀ {ds : List PyData} {xs : List V} {i : Nat} {x : V} {d : PyData}, DpAll K H xs ds → xs[i]? = some x → ds[i]? = some d → Dp K H x d
  | [], _, i, _, _, h, e, _ => by cases h; simp at e
  | d :: ds, _, 0, _, _, h, e1, e2 => by
    cases h with | cons h1 h2 =>
    cases e1; cases e2; exact h1
  | d :: ds, _, i + 1, _, _, h, e1, e2 => by
    cases h with | cons h1 h2 => exact DpAll.get h2 (by simpa using e1) (by simpa using e2)
theorem DpAll.app {K : PySem.W.Frag} {H : Hp} : ∀ {ds es : List PyData} {xs ys : List V}, DpAll K H xs ds → DpAll K H ys es → DpAll K H (xs ++ ys) (ds ++ es)
  | [], _, _, _, h, h' => by cases h; exact h'
  | d :: ds, _, _, _, h, h' => by cases h with | cons h1 h2 => exact .cons h1 (DpAll.app h2 h')
/-- what can be read of the ledger as data made of tuples -/
structure LdZ (L : List Asn) (K : PySem.W.Frag) (x : V) (d : PyData) : Prop where
  q : ∀ H, Star L H → Dp K (tupH H) x d
structure LdZs (L : List Asn) (K : PySem.W.Frag) (xs : List V) (ds : List PyData) : Prop where
  q : ∀ H, Star L H → DpAll K (tupH H) xs ds
section
variable {L L0 : List Asn} {K : PySem.W.Frag} {Q : VK} {P : Hp → Prop} {p a : Addr} {x : V} {d : PyData} {xs : List V} {ds : List PyData}
theorem LdZ.tk (r : Tk L (Fz K x d) L0) : LdZ L K x d := ⟨fun H s => by
  obtain ⟨H1, h1, q⟩ := (r.ok _ s).get
  exact Dp.up (tupH_up h1) d x q⟩
theorem LdZs.tk (r : Tk L (Fzs K xs ds) L0) : LdZs L K xs ds := ⟨fun H s => by
  obtain ⟨H1, h1, q⟩ := (r.ok _ s).get
  exact DpAll.up (tupH_up h1) ds xs q⟩
theorem LdZ.int {i : Int} : LdZ L K (.int i) (.int i) := ⟨fun _ _ => .int i⟩
theorem LdZ.str {z : Str} : LdZ L K (.str z) (.str z) := ⟨fun _ _ => .str z⟩
theorem LdZ.non : LdZ L K .non .none := ⟨fun _ _ => .non⟩
theorem LdZ.bl {b : Bool} : LdZ L K (.bl b) (.bool b) := ⟨fun _ _ => .bl b⟩
theorem LdZ.scl (h : Scl x) : LdZ L K x (dV x) := by
  rcases h with rfl | ⟨i, rfl⟩ | ⟨z, rfl⟩
  · exact .non
  · exact .int
  · exact .str
theorem LdZs.nil : LdZs L K [] [] := ⟨fun _ _ => .nil⟩
theorem LdZs.cons (h : LdZ L K x d) (h' : LdZs L K xs ds) : LdZs L K (x :: xs) (d :: ds) := ⟨fun H s => .cons (h.q H s) (h'.q H s)⟩
theorem LdZ.tup (r : Tk L (pt p (.tup xs)) L0) (h : LdZs L K xs ds) : LdZ L K (.ref p) (.tuple ds) := ⟨fun H s => .tup (SqT.of (tupH_of (r.pat s))) (h.q H s)⟩
theorem LdZ.tupF (r : Tk L (FzT K p xs) L0) (h : LdZs L K xs ds) : LdZ L K (.ref p) (.tuple ds) := ⟨fun H s => .tup (by
  obtain ⟨H1, h1, q⟩ := (r.ok _ s).get
  rcases q with q | q
  · exact SqT.of (tupH_of (h1 _ _ q))
  · exact q _) (h.q H s)⟩
theorem LdD.z (h : LdZ L K x d) : LdD L K x d := ⟨fun H s => Dp.of_tup (h.q H s)⟩
/-- a fact of the ledger kept as a part of it -/
theorem Al.z (h : LdZ L K x d) (k : Al (Fz K x d :: L) P) : Al L P := fun H s => by
  have q := h.q H s
  refine k H ⟨tupH H, H, ⟨fun a o e => (tupH_some e).1, fun a o e => e, fun a o u e e2 => ?_⟩, Dp.up (fun a o e => by obtain ⟨e1, xs, rfl⟩ := tupH_some e; exact tupH_of e) d x q, s⟩
  obtain ⟨e1, xs, rfl⟩ := tupH_some e
  exact trivial
theorem Al.zs (h : LdZs L K xs ds) (k : Al (Fzs K xs ds :: L) P) : Al L P := fun H s => by
  have q := h.q H s
  refine k H ⟨tupH H, H, ⟨fun a o e => (tupH_some e).1, fun a o e => e, fun a o u e e2 => ?_⟩, DpAll.up (fun a o e => by obtain ⟨e1, xs, rfl⟩ := tupH_some e; exact tupH_of e) ds xs q, s⟩
  obtain ⟨e1, xs, rfl⟩ := tupH_some e
  exact trivial
theorem SqT.fz {H : Hp} (h : SqT K (tupH H) a xs) : FzT K a xs H := by
  rcases h with (q | ⟨o, q⟩) | q
  · exact .inl (tupH_some q).1
  · obtain ⟨_, ys, e⟩ := tupH_some q; cases e
  · exact .inr fun H' => .inr q
theorem Star.two {H H1 H2 : Hp} {A B : Asn} (sp : Sep H H1 H2) (a : A (tupH H1)) (b : B (tupH H1)) (t : Star L H2) : Star (A :: B :: L) H := by
  have up : ∀ a o, tupH H1 a = some o → H a = some o := fun a o e => sp.l _ _ (tupH_some e).1
  refine ⟨tupH H1, H, ⟨up, fun a o e => e, fun a o u e e2 => ?_⟩, a, tupH H1, H2, ⟨up, sp.r, fun a o u e e2 => ?_⟩, b, t⟩
  · obtain ⟨e1, xs, rfl⟩ := tupH_some e; exact trivial
  · obtain ⟨e1, xs, rfl⟩ := tupH_some e; exact trivial
theorem tupH_idem {H : Hp} : ∀ a o, tupH H a = some o → tupH (tupH H) a = some o := fun a o e => by
  obtain ⟨e1, xs, rfl⟩ := tupH_some e
  exact tupH_of e
/-- a tuple's parts -/
theorem Fz.openT (k : ∀ a xs, x = .ref a → Al (FzT K a xs :: Fzs K xs ds :: L) P) : Al (Fz K x (.tuple ds) :: L) P := fun H s => by
  obtain ⟨H1, H2, sp, q, t⟩ := s
  cases (show Dp K (tupH H1) x (.tuple ds) from q) with
  | tup h1 h2 =>
    rename_i a xs
    refine k a xs rfl H (Star.two sp ?_ (DpAll.up tupH_idem ds xs h2) t)
    rcases SqT.fz h1 with z | z
    · exact .inl (tupH_of z)
    · exact .inr z
theorem Fzs.openC {ds : List PyData} (k : ∀ x xs', xs = x :: xs' → Al (Fz K x d :: Fzs K xs' ds :: L) P) : Al (Fzs K xs (d :: ds) :: L) P := fun H s => by
  obtain ⟨H1, H2, sp, q, t⟩ := s
  cases (show DpAll K (tupH H1) xs (d :: ds) from q) with
  | cons h1 h2 => exact k _ _ rfl H (Star.two sp (Dp.up tupH_idem d _ h1) (DpAll.up tupH_idem ds _ h2) t)
theorem Al.fact {A : Asn} {φ : Prop} (h : ∀ H, A H → φ) (k : φ → Al (A :: L) P) : Al (A :: L) P := fun H s => by
  obtain ⟨H1, _, a⟩ := s.get
  exact k (h H1 a) H s
theorem Fzs.openN (k : xs = [] → Al L P) : Al (Fzs K xs [] :: L) P := Al.fact (φ := xs = []) (fun H h => by cases (show DpAll K (tupH H) xs [] from h); rfl) fun e H s => k e H s.drop
theorem Fz.str {z : Str} (k : x = .str z → Al L P) : Al (Fz K x (.str z) :: L) P := Al.fact (φ := x = .str z) (fun H h => by cases (show Dp K (tupH H) x (.str z) from h); rfl) fun e H s => k e H s.drop
theorem Fz.int {i : Int} (k : x = .int i → Al L P) : Al (Fz K x (.int i) :: L) P := Al.fact (φ := x = .int i) (fun H h => by cases (show Dp K (tupH H) x (.int i) from h); rfl) fun e H s => k e H s.drop
theorem Fz.non (k : x = .non → Al L P) : Al (Fz K x .none :: L) P := Al.fact (φ := x = .non) (fun H h => by cases (show Dp K (tupH H) x .none from h); rfl) fun e H s => k e H s.drop
theorem Fz.bl {b : Bool} (k : x = .bl b → Al L P) : Al (Fz K x (.bool b) :: L) P := Al.fact (φ := x = .bl b) (fun H h => by cases (show Dp K (tupH H) x (.bool b) from h); rfl) fun e H s => k e H s.drop
theorem Fz.scl {v : V} (hv : Scl v) (k : x = v → Al L P) : Al (Fz K x (dV v) :: L) P := by
  rcases hv with rfl | ⟨i, rfl⟩ | ⟨z, rfl⟩
  · exact Fz.non k
  · exact Fz.int k
  · exact Fz.str k
theorem Fzs.len (k : xs.length = ds.length → Al (Fzs K xs ds :: L) P) : Al (Fzs K xs ds :: L) P := Al.fact (fun H h => DpAll.len h) k
theorem LdZs.get {i : Nat} (h : LdZs L K xs ds) (e1 : xs[i]? = some x) (e2 : ds[i]? = some d) : LdZ L K x d := ⟨fun H s => DpAll.get (h.q H s) e1 e2⟩
theorem LdZs.app {ys : List V} {es : List PyData} (h : LdZs L K xs ds) (h' : LdZs L K ys es) : LdZs L K (xs ++ ys) (ds ++ es) := ⟨fun H s => DpAll.app (h.q H s) (h'.q H s)⟩
theorem LdZs.len (h : LdZs L K xs ds) (k : xs.length = ds.length → Al L P) : Al L P := fun H s => k (DpAll.len (h.q H s)) H s
/-! ### lists of such data -/
def LsA (K : PySem.W.Frag) (a : Addr) (ds : List PyData) : Asn := fun H => ∃ xs, H a = some (.lst xs) ∧ DpAll K (tupH H) xs ds
theorem LsA.open (k : ∀ xs, xs.length = ds.length → Al (pt a (.lst xs) :: Fzs K xs ds :: L) P) : Al (LsA K a ds :: L) P := fun H s => by
  obtain ⟨H1, H2, sp, ⟨xs, e, q⟩, t⟩ := s
  have up : ∀ a o, tupH H1 a = some o → H a = some o := fun a o e => sp.l _ _ (tupH_some e).1
  refine k xs (DpAll.len q) H ⟨one a (.lst xs), un (tupH H1) H2, ⟨fun b o e2 => ?_, fun b o e2 => ?_, fun b o u e2 e3 => ?_⟩, one_same, tupH H1, H2, ⟨fun b o e2 => un_l e2, fun b o e2 => un_r up sp.r e2, fun b o u e2 e3 => ?_⟩, DpAll.up tupH_idem ds xs q, t⟩
  · obtain ⟨rfl, rfl⟩ := one_some e2; exact sp.l _ _ e
  · rcases un_some e2 with z | z
    · exact up _ _ z
    · exact sp.r _ _ z
  · obtain ⟨rfl, rfl⟩ := one_some e2
    rcases un_some e3 with z | z
    · obtain ⟨z1, ys, rfl⟩ := tupH_some z
      rw [e] at z1; cases z1
    · exact (sp.d _ _ _ e z).elim
  · obtain ⟨z1, ys, rfl⟩ := tupH_some e2; trivial
theorem LsA.fold (r : Tk L (pt a (.lst xs)) L0) (h : LdZs L0 K xs ds) (k : Al (LsA K a ds :: L0) P) : Al L P := fun H s => by
  obtain ⟨H1, H2, sp, e, t⟩ := r.ok _ s
  have e : H1 a = some (.lst xs) := e
  have q := h.q H2 t
  refine k H ⟨un (one a (.lst xs)) (tupH H2), H2, ⟨fun b o e2 => ?_, sp.r, fun b o u e2 e3 => ?_⟩, ⟨xs, un_l one_same, DpAll.up (fun b o e2 => ?_) ds xs q⟩, t⟩
  · rcases un_some e2 with z | z
    · obtain ⟨rfl, rfl⟩ := one_some z; exact sp.l _ _ e
    · exact sp.r _ _ (tupH_some z).1
  · rcases un_some e2 with z | z
    · obtain ⟨rfl, rfl⟩ := one_some z; exact sp.d _ _ _ e e3
    · obtain ⟨z1, ys, rfl⟩ := tupH_some z; trivial
  · obtain ⟨z1, ys, rfl⟩ := tupH_some e2
    refine tupH_of ?_
    unfold un
    cases z : one a (.lst xs) b with
    | none => exact e2
    | some u =>
      obtain ⟨rfl, rfl⟩ := one_some z
      exact (sp.d _ _ _ e z1).elim
theorem LdD.ls (r : Tk L (LsA K a ds) L0) : LdD L K (.ref a) (.list ds) := ⟨fun H s => by
  obtain ⟨H1, h1, xs, e, q⟩ := (r.ok _ s).get
  exact .lst (SqL.of (h1 _ _ e)) (DpAll.up (fun b o e2 => h1 _ _ (tupH_some e2).1) ds xs q)⟩
end
end AL

/-! ST: tables as tries: plain Lean, no program in sight. -/
namespace AL
open PySem PySem.Spec PyProof.Rows L2
abbrev Prs := List (Str × V)
/-! ### order of names -/
def nlt (x y : Str) : Prop := x.cps.toList < y.cps.toList
instance (x y : Str) : Decidable (nlt x y) := inferInstanceAs (Decidable (x.cps.toList < y.cps.toList))
theorem nlt_irrefl (x : Str) : ¬ nlt x x := List.lt_irrefl _
theorem nlt_trans {x y z : Str} (h : nlt x y) (h' : nlt y z) : nlt x z := List.lt_trans h h'
theorem nlt_asymm {x y : Str} (h : nlt x y) : ¬ nlt y x := fun q => nlt_irrefl x (nlt_trans h q)
theorem nlt_total {x y : Str} (h : x ≠ y) : nlt x y ∨ nlt y x := by
  by_cases h1 : nlt x y
  · exact .inl h1
  · by_cases h2 : nlt y x
    · exact .inr h2
    · exact absurd (str_ext (List.le_antisymm (List.not_lt.mp h2) (List.not_lt.mp h1))) h
theorem keyLe_eq {β : Type} (k : β → Str) (x y : β) : keyLe k x y = !decide (nlt (k y) (k x)) := by
  show (!PySem.W.dataLt (.str (k y)) (.str (k x))) = _
  rw [PySem.W.dataLt_str]; rfl
def Srt (ps : Prs) : Prop := ps.Pairwise fun p q => nlt p.1 q.1
theorem Srt.ext : ∀ {a b : Prs}, Srt a → Srt b → (∀ x, x ∈ a ↔ x ∈ b) → a = b
  | [], [], _, _, _ => rfl
  | [], y :: b, _, _, h => absurd ((h y).mpr (List.mem_cons_self ..)) (by simp)
  | x :: a, [], _, _, h => absurd ((h x).mp (List.mem_cons_self ..)) (by simp)
  | x :: a, y :: b, ha, hb, h => by
    obtain ⟨ha1, ha2⟩ := List.pairwise_cons.mp ha
    obtain ⟨hb1, hb2⟩ := List.pairwise_cons.mp hb
    have e : x = y := by
      rcases List.mem_cons.mp ((h x).mp (List.mem_cons_self ..)) with q | q
      · exact q
      · rcases List.mem_cons.mp ((h y).mpr (List.mem_cons_self ..)) with q2 | q2
        · exact q2.symm
        · exact absurd (nlt_trans (hb1 x q) (ha1 y q2)) (nlt_irrefl _)
    subst e
    have : a = b := by
      refine Srt.ext ha2 hb2 fun z => ⟨fun hz => ?_, fun hz => ?_⟩
      · rcases List.mem_cons.mp ((h z).mp (List.mem_cons_of_mem _ hz)) with q | q
        · subst q; exact absurd (ha1 z hz) (nlt_irrefl _)
        · exact q
      · rcases List.mem_cons.mp ((h z).mpr (List.mem_cons_of_mem _ hz)) with q | q
        · subst q; exact absurd (hb1 z hz) (nlt_irrefl _)
        · exact q
    rw [this]
theorem Srt.filter {ps : Prs} (h : Srt ps) (p : Str × V → Bool) : Srt (ps.filter p) := List.Pairwise.filter p h
theorem Srt.uniq {ps : Prs} (h : Srt ps) {x y : Str × V} (hx : x ∈ ps) (hy : y ∈ ps) (e : x.1 = y.1) : x = y := by
  induction ps with
  | nil => cases hx
  | cons z ps ih =>
    obtain ⟨h1, h2⟩ := List.pairwise_cons.mp h
    rcases List.mem_cons.mp hx with qx | qx <;> rcases List.mem_cons.mp hy with qy | qy
    · rw [qx, qy]
    · subst qx; have := h1 _ qy; rw [e] at this; exact absurd this (nlt_irrefl _)
    · subst qy; have := h1 _ qx; rw [e] at this; exact absurd this (nlt_irrefl _)
    · exact ih h2 qx qy
def del (ps : Prs) (n : Str) : Prs := ps.filter fun p => decide (p.1 ≠ n)
def ins (ps : Prs) (n : Str) (v : V) : Prs := (del ps n ++ [(n, v)]).mergeSort (keyLe (·.1))
theorem mem_del {ps : Prs} {n : Str} {x : Str × V} : x ∈ del ps n ↔ x ∈ ps ∧ x.1 ≠ n := by
  unfold del; rw [List.mem_filter]; simp
theorem mem_ins {ps : Prs} {n : Str} {v : V} {x : Str × V} : x ∈ ins ps n v ↔ x = (n, v) ∨ (x ∈ ps ∧ x.1 ≠ n) := by
  unfold ins
  rw [List.mem_mergeSort, List.mem_append, mem_del, List.mem_singleton]
  exact Or.comm
theorem Srt.del {ps : Prs} (h : Srt ps) (n : Str) : Srt (del ps n) := h.filter _
/-- a row of pairs with unlike names, sorted -/
theorem srt_sort {ps : Prs} (h : (ps.map (·.1)).Nodup) : Srt (ps.mergeSort (keyLe (·.1))) := by
  have h1 : (ps.mergeSort (keyLe (·.1))).Pairwise fun a b => keyLe (·.1) a b = true := by
    refine List.pairwise_mergeSort (le := keyLe (·.1)) ?_ ?_ ps
    · intro a b c h1 h2
      rw [keyLe_eq, Bool.not_eq_true', decide_eq_false_iff_not] at *
      intro q
      by_cases e : a.1 = b.1
      · rw [← e] at h2; exact h2 q
      · rcases nlt_total e with z | z
        · exact h2 (nlt_trans q z)
        · exact h1 z
    · intro a b
      rw [keyLe_eq, keyLe_eq, Bool.or_eq_true, Bool.not_eq_true', Bool.not_eq_true', decide_eq_false_iff_not, decide_eq_false_iff_not]
      by_cases q : nlt b.1 a.1
      · exact .inr (nlt_asymm q)
      · exact .inl q
  have h2 : ((ps.mergeSort (keyLe (·.1))).map (·.1)).Nodup := ((List.mergeSort_perm ps _).map _).nodup_iff.mpr h
  refine List.Pairwise.imp_of_mem ?_ (List.Pairwise.and h1 (List.pairwise_map.mp h2))
  rintro a b _ _ ⟨q1, q2⟩
  rw [keyLe_eq, Bool.not_eq_true', decide_eq_false_iff_not] at q1
  rcases nlt_total q2 with z | z
  · exact z
  · exact absurd z q1
theorem Srt.nodup {ps : Prs} (h : Srt ps) : (ps.map (·.1)).Nodup := by
  refine List.pairwise_map.mpr (h.imp fun {a b} q e => ?_)
  rw [e] at q; exact nlt_irrefl _ q
theorem Srt.ins {ps : Prs} (h : Srt ps) (n : Str) (v : V) : Srt (ins ps n v) := by
  refine srt_sort ?_
  rw [List.map_append]
  refine List.nodup_append.mpr ⟨(h.del n).nodup, by simp, ?_⟩
  intro a ha b hb
  rw [List.map_singleton, List.mem_singleton] at hb
  obtain ⟨x, hx, rfl⟩ := List.mem_map.mp ha
  rw [hb]
  exact (mem_del.mp hx).2
/-- the value of a name -/
def fnd (ps : Prs) (n : Str) : Option V := (ps.find? fun p => decide (p.1 = n)).map (·.2)
theorem fnd_some {ps : Prs} {n : Str} {v : V} (h : fnd ps n = some v) : (n, v) ∈ ps := by
  unfold fnd at h
  obtain ⟨x, hx, rfl⟩ := Option.map_eq_some_iff.mp h
  have e := of_decide_eq_true (List.find?_some (p := fun p : Str × V => decide (p.1 = n)) hx)
  subst e
  exact List.mem_of_find?_eq_some hx
theorem fnd_none {ps : Prs} {n : Str} (h : fnd ps n = none) : ∀ x ∈ ps, x.1 ≠ n := by
  unfold fnd at h
  intro x hx e
  have := List.find?_eq_none.mp (Option.map_eq_none_iff.mp h) x hx
  simp [e] at this
theorem fnd_mem {ps : Prs} (hs : Srt ps) {n : Str} {v : V} (h : (n, v) ∈ ps) : fnd ps n = some v := by
  cases e : fnd ps n with
  | none => exact absurd rfl (fnd_none e _ h)
  | some w =>
    have := hs.uniq (fnd_some e) h rfl
    rw [← (Prod.mk.inj this).2]
/-! ### marks, digits -/
def dgt (m : Int) (l : Nat) : Nat := (m / 4 ^ l % 4).toNat
theorem dgt_lt (m : Int) (l : Nat) : dgt m l < 4 := by
  unfold dgt
  have := Int.emod_lt_of_pos (m / 4 ^ l) (b := 4) (by decide)
  have := Int.emod_nonneg (m / 4 ^ l) (b := 4) (by decide)
  omega
theorem dgt_cast (m : Int) (l : Nat) : ((dgt m l : Nat) : Int) = m / 4 ^ l % 4 := by
  unfold dgt
  have := Int.emod_nonneg (m / 4 ^ l) (b := 4) (by decide)
  omega
theorem pow4_pos (l : Nat) : (0 : Int) < 4 ^ l := Int.pow_pos (by decide)
theorem emod4 (x m : Int) (h : 0 ≤ m) : x % (m * 4) = x % m + m * (x / m % 4) := by
  rw [Int.emod_def, Int.emod_def, Int.emod_def, ← Int.ediv_ediv_of_nonneg h, Int.mul_sub, Int.mul_assoc]
  omega
theorem low_succ {a b : Int} {l : Nat} (h : a % 4 ^ l = b % 4 ^ l) (hd : dgt a l = dgt b l) : a % 4 ^ (l + 1) = b % 4 ^ (l + 1) := by
  have hd' : a / 4 ^ l % 4 = b / 4 ^ l % 4 := by rw [← dgt_cast, ← dgt_cast, hd]
  have e : ∀ x : Int, x % 4 ^ (l + 1) = x % 4 ^ l + 4 ^ l * (x / 4 ^ l % 4) := fun x => by
    rw [Int.pow_succ]; exact emod4 x _ (Int.le_of_lt (pow4_pos l))
  rw [e, e, h, hd']
theorem low_dgt {a b : Int} {l : Nat} (h : a % 4 ^ (l + 1) = b % 4 ^ (l + 1)) : a % 4 ^ l = b % 4 ^ l ∧ dgt a l = dgt b l := by
  have e : ∀ x : Int, x % 4 ^ (l + 1) = x % 4 ^ l + 4 ^ l * (x / 4 ^ l % 4) := fun x => by
    rw [Int.pow_succ]; exact emod4 x _ (Int.le_of_lt (pow4_pos l))
  rw [e, e] at h
  have h1 := Int.emod_nonneg a (b := 4 ^ l) (Int.ne_of_gt (pow4_pos l))
  have h2 := Int.emod_lt_of_pos a (pow4_pos l)
  have h3 := Int.emod_nonneg b (b := 4 ^ l) (Int.ne_of_gt (pow4_pos l))
  have h4 := Int.emod_lt_of_pos b (pow4_pos l)
  have q : a % 4 ^ l = b % 4 ^ l := by
    have e1 := congrArg (· % (4 : Int) ^ l) h
    simp only [Int.add_mul_emod_self_left] at e1
    rwa [Int.emod_emod_of_dvd _ (Int.dvd_refl _), Int.emod_emod_of_dvd _ (Int.dvd_refl _)] at e1
  refine ⟨q, ?_⟩
  rw [q] at h
  have h5 := Int.add_left_cancel h
  have h6 := Int.eq_of_mul_eq_mul_left (Int.ne_of_gt (pow4_pos l)) h5
  unfold dgt
  rw [h6]
theorem low_all {a b : Int} (ha : 0 ≤ a) (ha' : a < 1024) (hb : 0 ≤ b) (hb' : b < 1024) (h : a % 4 ^ 5 = b % 4 ^ 5) : a = b := by
  have e : (4 : Int) ^ 5 = 1024 := by decide
  rw [e, Int.emod_eq_of_lt ha ha', Int.emod_eq_of_lt hb hb'] at h
  exact h
/-! ### nodes, tries -/
inductive Nd where
  | bare
  | leaf (m : Int) (ps : Prs)
  | fork (a b c d : Nat)
def pd (p : Str × V) : PyData := .tuple [.str p.1, dV p.2]
def Nd.dat : Nd → PyData
  | .bare => .tuple [.str "bare"]
  | .leaf m ps => .tuple [.str "leaf", .int m, .tuple (ps.map pd)]
  | .fork a b c d => .tuple [.str "fork", .tuple [.int a, .int b, .int c, .int d]]
inductive Tr where
  | bare
  | leaf (m : Int) (ps : Prs)
  | fork (a b c d : Tr)
/-- what is due of some pairs from a level on, r levels left -/
def sub (mk : Str → Int) (l d : Nat) (ps : Prs) : Prs := ps.filter fun p => decide (dgt (mk p.1) l = d)
def cn (mk : Str → Int) : Nat → Nat → Prs → Tr
  | _, _, [] => .bare
  | 0, _, p :: ps => .leaf (mk p.1) (p :: ps)
  | r + 1, l, p :: ps => if ∀ q ∈ ps, mk q.1 = mk p.1 then .leaf (mk p.1) (p :: ps)
    else .fork (cn mk r (l + 1) (sub mk l 0 (p :: ps))) (cn mk r (l + 1) (sub mk l 1 (p :: ps))) (cn mk r (l + 1) (sub mk l 2 (p :: ps))) (cn mk r (l + 1) (sub mk l 3 (p :: ps)))
inductive Rp (ns : List Nd) : Nat → Tr → Prop where
  | bare : ns[0]? = some .bare → Rp ns 0 .bare
  | leaf {i : Nat} {m : Int} {ps : Prs} : ns[i]? = some (.leaf m ps) → Rp ns i (.leaf m ps)
  | fork {i a b c d : Nat} {ta tb tc td : Tr} : ns[i]? = some (.fork a b c d) → Rp ns a ta → Rp ns b tb → Rp ns c tc → Rp ns d td → Rp ns i (.fork ta tb tc td)
theorem get_app {ns xs : List Nd} {i : Nat} {x : Nd} (h : ns[i]? = some x) : (ns ++ xs)[i]? = some x := by
  rw [List.getElem?_append_left (List.getElem?_eq_some_iff.mp h).1]; exact h
theorem Rp.app {ns xs : List Nd} {i : Nat} {t : Tr} (h : Rp ns i t) : Rp (ns ++ xs) i t := by
  induction h with
  | bare h => exact .bare (get_app h)
  | leaf h => exact .leaf (get_app h)
  | fork h _ _ _ _ ia ib ic id => exact .fork (get_app h) ia ib ic id
theorem Rp.lt {ns : List Nd} {i : Nat} {t : Tr} (h : Rp ns i t) : i < ns.length := by
  cases h with
  | bare h => exact (List.getElem?_eq_some_iff.mp h).1
  | leaf h => exact (List.getElem?_eq_some_iff.mp h).1
  | fork h => exact (List.getElem?_eq_some_iff.mp h).1
def part4 (a b c d : Nat) : Nat → Nat
  | 0 => a
  | 1 => b
  | 2 => c
  | _ => d
def fork4 (a b c d k x : Nat) : Nd := match k with
  | 0 => .fork x b c d
  | 1 => .fork a x c d
  | 2 => .fork a b x d
  | _ => .fork a b c x
/-- new forks that part an old leaf of another mark from a new one -/
def prtN : Nat → List Nd → Nat → Int → Nat → Int → Nat → List Nd × Nat
  | 0, ns, old, _, _, _, _ => (ns, old)
  | f + 1, ns, old, o, new, own, l => if dgt o l = dgt own l then
      ((prtN f ns old o new own (l + 1)).1 ++ [fork4 0 0 0 0 (dgt o l) (prtN f ns old o new own (l + 1)).2], (prtN f ns old o new own (l + 1)).1.length)
    else (ns ++ [match fork4 0 0 0 0 (dgt o l) old with
      | .fork a b c d => fork4 a b c d (dgt own l) new
      | x => x], ns.length)
/-- a node at a level with a pair more, or another value -/
def putN : Nat → List Nd → Nat → Int → Str → V → Nat → List Nd × Nat
  | 0, ns, i, _, _, _, _ => (ns, i)
  | f + 1, ns, i, own, n, v, l => match ns[i]? with
    | some (.fork a b c d) => ((putN f ns (part4 a b c d (dgt own l)) own n v (l + 1)).1 ++ [fork4 a b c d (dgt own l) (putN f ns (part4 a b c d (dgt own l)) own n v (l + 1)).2], (putN f ns (part4 a b c d (dgt own l)) own n v (l + 1)).1.length)
    | some (.leaf m ps) => if m = own then (ns ++ [.leaf own (ins ps n v)], ns.length) else prtN f (ns ++ [.leaf own [(n, v)]]) i m ns.length own l
    | _ => (ns ++ [.leaf own [(n, v)]], ns.length)
/-- the only part that is not the bare node, where it is a leaf -/
def loneN (ns : List Nd) (ps : List Nat) : Option Nat := match ps.filter (fun k => decide (k ≠ 0)) with
  | [k] => (match ns[k]? with
    | some (.leaf _ _) => some k
    | _ => none)
  | _ => none
def parts4 : Nd → List Nat
  | .fork a b c d => [a, b, c, d]
  | _ => []
/-- a node at a level without a name's pair -/
def delN : Nat → List Nd → Nat → Int → Str → Nat → List Nd × Nat
  | 0, ns, i, _, _, _ => (ns, i)
  | f + 1, ns, i, own, n, l => match ns[i]? with
    | some (.fork a b c d) =>
      let r := delN f ns (part4 a b c d (dgt own l)) own n (l + 1)
      (match loneN r.1 (parts4 (fork4 a b c d (dgt own l) r.2)) with
      | some k => (r.1, k)
      | none => (r.1 ++ [fork4 a b c d (dgt own l) r.2], r.1.length))
    | some (.leaf m ps) => if del ps n = [] then (ns, 0) else (ns ++ [.leaf own (del ps n)], ns.length)
    | _ => (ns, i)
end AL

/-! ST2: the tries' deeds are right. -/
namespace AL
open PySem PySem.Spec PyProof.Rows L2
theorem Rp.parts {ns : List Nd} {i a b c d : Nat} {t : Nat → Tr} (h : ns[i]? = some (.fork a b c d)) (k : ∀ j, j < 4 → Rp ns (part4 a b c d j) (t j)) : Rp ns i (.fork (t 0) (t 1) (t 2) (t 3)) :=
  .fork h (k 0 (by decide)) (k 1 (by decide)) (k 2 (by decide)) (k 3 (by decide))
theorem lt4 {j : Nat} (h : j < 4) : j = 0 ∨ j = 1 ∨ j = 2 ∨ j = 3 := by omega
theorem Rp.part {ns : List Nd} {i : Nat} {t : Nat → Tr} (h : Rp ns i (.fork (t 0) (t 1) (t 2) (t 3))) : ∃ a b c d, ns[i]? = some (.fork a b c d) ∧ ∀ j, j < 4 → Rp ns (part4 a b c d j) (t j) := by
  cases h with
  | fork h h0 h1 h2 h3 =>
    refine ⟨_, _, _, _, h, fun j hj => ?_⟩
    rcases lt4 hj with rfl | rfl | rfl | rfl
    · exact h0
    · exact h1
    · exact h2
    · exact h3
theorem fork4_eq {a b c d k x : Nat} (hk : k < 4) : ∃ a' b' c' d', fork4 a b c d k x = .fork a' b' c' d' ∧ ∀ j, j < 4 → part4 a' b' c' d' j = if j = k then x else part4 a b c d j := by
  rcases lt4 hk with rfl | rfl | rfl | rfl
  · exact ⟨x, b, c, d, rfl, fun j hj => by rcases lt4 hj with rfl | rfl | rfl | rfl <;> rfl⟩
  · exact ⟨a, x, c, d, rfl, fun j hj => by rcases lt4 hj with rfl | rfl | rfl | rfl <;> rfl⟩
  · exact ⟨a, b, x, d, rfl, fun j hj => by rcases lt4 hj with rfl | rfl | rfl | rfl <;> rfl⟩
  · exact ⟨a, b, c, x, rfl, fun j hj => by rcases lt4 hj with rfl | rfl | rfl | rfl <;> rfl⟩
section
variable {mk : Str → Int}
def cnF (mk : Str → Int) (r l : Nat) (ps : Prs) (d : Nat) : Tr := cn mk r (l + 1) (sub mk l d ps)
def AllM (mk : Str → Int) (ps : Prs) (m : Int) : Prop := ∀ q ∈ ps, mk q.1 = m
theorem cn_nil {r l : Nat} : cn mk r l [] = .bare := by cases r <;> rfl
theorem cn_leaf {r l : Nat} {ps : Prs} {m : Int} (hne : ps ≠ []) (h : AllM mk ps m) : cn mk r l ps = .leaf m ps := by
  cases ps with
  | nil => exact absurd rfl hne
  | cons p ps =>
    have e := h p (List.mem_cons_self ..)
    cases r with
    | zero => show Tr.leaf _ _ = _; rw [e]
    | succ r =>
      show (if _ then _ else _) = _
      rw [if_pos (fun q hq => by rw [e]; exact h q (List.mem_cons_of_mem _ hq)), e]
theorem cn_fork {r l : Nat} {ps : Prs} (h : ∀ m, ¬ AllM mk ps m) : cn mk (r + 1) l ps = .fork (cnF mk r l ps 0) (cnF mk r l ps 1) (cnF mk r l ps 2) (cnF mk r l ps 3) := by
  cases ps with
  | nil => exact absurd (fun q hq => by cases hq) (h 0)
  | cons p ps =>
    show (if _ then _ else _) = _
    rw [if_neg fun q => h (mk p.1) fun x hx => ?_]
    · rfl
    · rcases List.mem_cons.mp hx with z | z
      · rw [z]
      · exact q x z
/-- the pairs may stand at a level: marks in bounds, alike in their figures below with m -/
structure At (mk : Str → Int) (l : Nat) (m : Int) (ps : Prs) : Prop where
  s : Srt ps
  b : ∀ q ∈ ps, 0 ≤ mk q.1 ∧ mk q.1 < 1024
  w : ∀ q ∈ ps, mk q.1 % 4 ^ l = m % 4 ^ l
theorem mem_sub {l d : Nat} {ps : Prs} {x : Str × V} : x ∈ sub mk l d ps ↔ x ∈ ps ∧ dgt (mk x.1) l = d := by
  unfold sub; rw [List.mem_filter]; simp
theorem At.sub {l : Nat} {m : Int} {ps : Prs} (h : At mk l m ps) {m' : Int} (d : Nat) (hm : m' % 4 ^ l = m % 4 ^ l) (hd : dgt m' l = d) : At mk (l + 1) m' (sub mk l d ps) :=
  ⟨h.s.filter _, fun q hq => h.b q (mem_sub.mp hq).1, fun q hq => low_succ ((h.w q (mem_sub.mp hq).1).trans hm.symm) ((mem_sub.mp hq).2.trans hd.symm)⟩
theorem At.cases {r l : Nat} {m : Int} {ps : Prs} (h : At mk l m ps) (hl : l + r = 5) (hne : ps ≠ []) :
    (∃ m', AllM mk ps m' ∧ cn mk r l ps = .leaf m' ps) ∨ ∃ r', r = r' + 1 ∧ (∀ m', ¬ AllM mk ps m') ∧ cn mk r l ps = .fork (cnF mk r' l ps 0) (cnF mk r' l ps 1) (cnF mk r' l ps 2) (cnF mk r' l ps 3) := by
  by_cases q : ∃ m', AllM mk ps m'
  · obtain ⟨m', q⟩ := q
    exact .inl ⟨m', q, cn_leaf hne q⟩
  · have q' : ∀ m', ¬ AllM mk ps m' := fun m' z => q ⟨m', z⟩
    cases r with
    | succ r => exact .inr ⟨r, rfl, q', cn_fork q'⟩
    | zero =>
      exfalso
      cases ps with
      | nil => exact hne rfl
      | cons p ps =>
        have hl5 : l = 5 := by omega
        subst hl5
        refine q' (mk p.1) fun x hx => ?_
        have b1 := h.b x hx
        have b2 := h.b p (List.mem_cons_self ..)
        exact low_all b1.1 b1.2 b2.1 b2.2 ((h.w x hx).trans (h.w p (List.mem_cons_self ..)).symm)
theorem At.ins {l : Nat} {ps : Prs} {n : Str} {v : V} (h : At mk l (mk n) ps) (h0 : 0 ≤ mk n) (h1 : mk n < 1024) : At mk l (mk n) (ins ps n v) :=
  ⟨h.s.ins n v, fun q hq => by
    rcases mem_ins.mp hq with z | z
    · rw [z]; exact ⟨h0, h1⟩
    · exact h.b q z.1, fun q hq => by
    rcases mem_ins.mp hq with z | z
    · rw [z]
    · exact h.w q z.1⟩
theorem sub_ins {l d : Nat} {ps : Prs} {n : Str} {v : V} (hs : Srt ps) : sub mk l d (ins ps n v) = if d = dgt (mk n) l then ins (sub mk l d ps) n v else sub mk l d ps := by
  split
  · rename_i e
    refine Srt.ext ((hs.ins n v).filter _) ((hs.filter _).ins n v) fun x => ?_
    rw [mem_sub, mem_ins, mem_ins, mem_sub]
    constructor
    · rintro ⟨z | z, z2⟩
      · exact .inl z
      · exact .inr ⟨⟨z.1, z2⟩, z.2⟩
    · rintro (z | z)
      · rw [z]; exact ⟨.inl rfl, e.symm⟩
      · exact ⟨.inr ⟨z.1.1, z.2⟩, z.1.2⟩
  · rename_i e
    refine Srt.ext ((hs.ins n v).filter _) (hs.filter _) fun x => ?_
    rw [mem_sub, mem_ins, mem_sub]
    constructor
    · rintro ⟨z | z, z2⟩
      · rw [z] at z2; exact absurd z2.symm e
      · exact ⟨z.1, z2⟩
    · rintro ⟨z1, z2⟩
      exact ⟨.inr ⟨z1, fun q => e (by rw [← z2, q])⟩, z2⟩
theorem ins_ne {ps : Prs} {n : Str} {v : V} : ins ps n v ≠ [] := fun e => by
  have : (n, v) ∈ ins ps n v := mem_ins.mpr (.inl rfl)
  rw [e] at this; cases this
theorem Rp.zero {ns : List Nd} {t : Tr} (h0 : ns[0]? = some .bare) (h : Rp ns 0 t) : t = .bare := by
  cases h with
  | bare _ => rfl
  | leaf h => rw [h0] at h; cases h
  | fork h => rw [h0] at h; cases h
theorem cn_bare {r l : Nat} {ps : Prs} (h : cn mk r l ps = .bare) : ps = [] := by
  cases ps with
  | nil => rfl
  | cons p ps =>
    cases r with
    | zero => cases h
    | succ r =>
      have h : (if _ then _ else _) = Tr.bare := h
      split at h <;> cases h
theorem new_at {ns : List Nd} {x : Nd} : (ns ++ [x])[ns.length]? = some x := by
  rw [List.getElem?_append_right (Nat.le_refl _), Nat.sub_self]; rfl
theorem zero_app {ns xs : List Nd} (h : ns[0]? = some .bare) : (ns ++ xs)[0]? = some .bare := get_app h
theorem ins_nil {n : Str} {v : V} : ins [] n v = [(n, v)] := by
  refine Srt.ext (Srt.ins (List.Pairwise.nil) n v) (List.pairwise_singleton ..) fun x => ?_
  rw [mem_ins, List.mem_singleton]
  exact ⟨fun z => z.elim id fun z => (by cases z.1), .inl⟩
/-- parting -/
theorem prt_ok {ps : Prs} {n : Str} {v : V} {m : Int} (hs : Srt ps) (hne : ps ≠ []) (hm : AllM mk ps m) (hd : m ≠ mk n) (b0 : 0 ≤ m ∧ m < 1024) (b1 : 0 ≤ mk n ∧ mk n < 1024) :
    ∀ (r l : Nat) (ns : List Nd) (old new : Nat), l + r = 5 → m % 4 ^ l = mk n % 4 ^ l → ns[0]? = some .bare → Rp ns old (.leaf m ps) → Rp ns new (.leaf (mk n) [(n, v)]) →
      ∃ xs, (prtN r ns old m new (mk n) l).1 = ns ++ xs ∧ Rp (ns ++ xs) (prtN r ns old m new (mk n) l).2 (cn mk r l (ins ps n v)) := by
  have hall : ∀ m', ¬ AllM mk (ins ps n v) m' := fun m' z => by
    obtain ⟨p, hp⟩ := List.exists_mem_of_ne_nil ps hne
    have e1 := z (n, v) (mem_ins.mpr (.inl rfl))
    have e2 := z p (mem_ins.mpr (.inr ⟨hp, fun q => hd (by rw [← hm p hp, q])⟩))
    rw [hm p hp] at e2
    exact hd (e2.trans e1.symm)
  intro r
  induction r with
  | zero =>
    intro l ns old new hl hw
    have hl5 : l = 5 := by omega
    subst hl5
    exact absurd (low_all b0.1 b0.2 b1.1 b1.2 hw) hd
  | succ r ih =>
    intro l ns old new hl hw h0 ho hn
    rw [cn_fork hall]
    have subs : ∀ d, cnF mk r l (ins ps n v) d = if d = dgt (mk n) l then (if d = dgt m l then cn mk r (l + 1) (ins ps n v) else .leaf (mk n) [(n, v)]) else if d = dgt m l then .leaf m ps else .bare := by
      intro d
      have hsub : ∀ d, sub mk l d ps = if d = dgt m l then ps else [] := fun d => by
        unfold sub
        split
        · rename_i e
          exact List.filter_eq_self.mpr fun q hq => by rw [hm q hq]; exact decide_eq_true e.symm
        · rename_i e
          exact List.filter_eq_nil_iff.mpr fun q hq => by rw [hm q hq, decide_eq_true_eq]; exact fun z => e z.symm
      unfold cnF
      rw [sub_ins hs, hsub]
      split
      · rename_i e1
        split
        · rfl
        · rw [ins_nil]
          refine cn_leaf (by simp) fun q hq => ?_
          rw [List.mem_singleton.mp hq]
      · split
        · exact cn_leaf hne hm
        · exact cn_nil
    by_cases he : dgt m l = dgt (mk n) l
    · obtain ⟨xs, x1, x2⟩ := ih (l + 1) ns old new (by omega) (low_succ hw he) h0 ho hn
      have hk := dgt_lt m l
      obtain ⟨a, b, c, d, f1, f2⟩ := fork4_eq (a := 0) (b := 0) (c := 0) (d := 0) (x := (prtN r ns old m new (mk n) (l + 1)).2) hk
      refine ⟨xs ++ [fork4 0 0 0 0 (dgt m l) (prtN r ns old m new (mk n) (l + 1)).2], ?_, ?_⟩
      · show (if _ then _ else _ : List Nd × Nat).1 = _
        rw [if_pos he, x1, List.append_assoc]
      · show Rp _ (if _ then _ else _ : List Nd × Nat).2 _
        rw [if_pos he, x1, ← List.append_assoc, f1]
        refine Rp.parts new_at fun j hj => ?_
        rw [f2 j hj, subs, ← he]
        split
        · exact x2.app
        · have : part4 0 0 0 0 j = 0 := by rcases lt4 hj with rfl | rfl | rfl | rfl <;> rfl
          rw [this]
          exact .bare (zero_app (zero_app h0))
    · have hk1 := dgt_lt m l
      have hk2 := dgt_lt (mk n) l
      obtain ⟨a, b, c, d, f1, f2⟩ := fork4_eq (a := 0) (b := 0) (c := 0) (d := 0) (x := old) hk1
      obtain ⟨a', b', c', d', g1, g2⟩ := fork4_eq (a := a) (b := b) (c := c) (d := d) (x := new) hk2
      have hN : (match fork4 0 0 0 0 (dgt m l) old with | .fork a b c d => fork4 a b c d (dgt (mk n) l) new | x => x) = .fork a' b' c' d' := by rw [f1]; exact g1
      refine ⟨[.fork a' b' c' d'], ?_, ?_⟩
      · show (if _ then _ else _ : List Nd × Nat).1 = _
        rw [if_neg he]
        exact congrArg (fun z => ns ++ [z]) hN
      · show Rp _ (if _ then _ else _ : List Nd × Nat).2 _
        rw [if_neg he]
        have q : (ns ++ [match fork4 0 0 0 0 (dgt m l) old with | .fork a b c d => fork4 a b c d (dgt (mk n) l) new | x => x])[ns.length]? = some (.fork a' b' c' d') := new_at.trans (congrArg some hN)
        refine Rp.parts new_at fun j hj => ?_
        rw [g2 j hj, f2 j hj, subs]
        split
        · rename_i z
          rw [if_neg (by rw [z]; exact fun q => he q.symm)]
          exact hn.app
        · split
          · exact ho.app
          · have : part4 0 0 0 0 j = 0 := by rcases lt4 hj with rfl | rfl | rfl | rfl <;> rfl
            rw [this]
            exact .bare (zero_app h0)
theorem put_base {n : Str} {v : V} (b1 : 0 ≤ mk n ∧ mk n < 1024) (r l : Nat) (ps : Prs) (ns : List Nd) (i : Nat) (hl : l + r = 5) (ha : At mk l (mk n) ps) (h0 : ns[0]? = some .bare) (hi : Rp ns i (cn mk r l ps))
    (hb : ps = [] ∨ ∃ m, ps ≠ [] ∧ AllM mk ps m) : ∃ xs, (putN (r + 1) ns i (mk n) n v l).1 = ns ++ xs ∧ Rp (ns ++ xs) (putN (r + 1) ns i (mk n) n v l).2 (cn mk r l (ins ps n v)) := by
  rcases hb with rfl | ⟨m, hne, hm⟩
  · rw [cn_nil] at hi
    cases hi with
    | bare hi =>
      have e : putN (r + 1) ns 0 (mk n) n v l = (ns ++ [.leaf (mk n) [(n, v)]], ns.length) := by
        simp only [putN, hi]
      rw [e, ins_nil]
      refine ⟨_, rfl, ?_⟩
      rw [cn_leaf (m := mk n) (by simp) (fun q hq => by rw [List.mem_singleton.mp hq])]
      exact .leaf new_at
  · rw [cn_leaf hne hm] at hi
    cases hi with
    | leaf hi =>
      have e : putN (r + 1) ns i (mk n) n v l = if m = mk n then (ns ++ [.leaf (mk n) (ins ps n v)], ns.length) else prtN r (ns ++ [.leaf (mk n) [(n, v)]]) i m ns.length (mk n) l := by
        simp only [putN, hi]
      rw [e]
      split
      · rename_i em
        refine ⟨_, rfl, ?_⟩
        rw [cn_leaf (m := mk n) ins_ne (fun q hq => ?_)]
        · exact .leaf new_at
        · rcases mem_ins.mp hq with z | z
          · rw [z]
          · rw [hm q z.1, em]
      · rename_i em
        obtain ⟨p, hp⟩ := List.exists_mem_of_ne_nil ps hne
        have bm := ha.b p hp
        have wm := ha.w p hp
        rw [hm p hp] at bm wm
        obtain ⟨xs, x1, x2⟩ := prt_ok (v := v) ha.s hne hm em bm b1 r l (ns ++ [.leaf (mk n) [(n, v)]]) i ns.length hl wm (zero_app h0) (Rp.app (.leaf hi)) (.leaf new_at)
        exact ⟨.leaf (mk n) [(n, v)] :: xs, by rw [x1, List.append_assoc]; rfl, by rw [List.append_assoc] at x2; exact x2⟩
theorem put_ok {n : Str} {v : V} (b1 : 0 ≤ mk n ∧ mk n < 1024) : ∀ (r l : Nat) (ps : Prs) (ns : List Nd) (i : Nat), l + r = 5 → At mk l (mk n) ps → ns[0]? = some .bare → Rp ns i (cn mk r l ps) →
    ∃ xs, (putN (r + 1) ns i (mk n) n v l).1 = ns ++ xs ∧ Rp (ns ++ xs) (putN (r + 1) ns i (mk n) n v l).2 (cn mk r l (ins ps n v)) := by
  intro r
  induction r with
  | zero =>
    intro l ps ns i hl ha h0 hi
    refine put_base b1 0 l ps ns i hl ha h0 hi ?_
    by_cases hne : ps = []
    · exact .inl hne
    · rcases ha.cases hl hne with ⟨m, hm, _⟩ | ⟨r', e, _⟩
      · exact .inr ⟨m, hne, hm⟩
      · cases e
  | succ r ih =>
    intro l ps ns i hl ha h0 hi
    by_cases hne : ps = []
    · exact put_base b1 (r + 1) l ps ns i hl ha h0 hi (.inl hne)
    rcases ha.cases hl hne with ⟨m, hm, _⟩ | ⟨r', e, hm, hc⟩
    · exact put_base b1 (r + 1) l ps ns i hl ha h0 hi (.inr ⟨m, hne, hm⟩)
    · cases e
      rw [hc] at hi
      obtain ⟨a, b, c, d, h1, h2⟩ := Rp.part (t := cnF mk r l ps) hi
      have hk := dgt_lt (mk n) l
      obtain ⟨xs, x1, x2⟩ := ih (l + 1) (sub mk l (dgt (mk n) l) ps) ns (part4 a b c d (dgt (mk n) l)) (by omega) (ha.sub _ rfl rfl) h0 (h2 _ hk)
      have e : putN (r + 1 + 1) ns i (mk n) n v l = ((putN (r + 1) ns (part4 a b c d (dgt (mk n) l)) (mk n) n v (l + 1)).1 ++ [fork4 a b c d (dgt (mk n) l) (putN (r + 1) ns (part4 a b c d (dgt (mk n) l)) (mk n) n v (l + 1)).2], (putN (r + 1) ns (part4 a b c d (dgt (mk n) l)) (mk n) n v (l + 1)).1.length) := by
        simp only [putN, h1]
      obtain ⟨a', b', c', d', f1, f2⟩ := fork4_eq (a := a) (b := b) (c := c) (d := d) (x := (putN (r + 1) ns (part4 a b c d (dgt (mk n) l)) (mk n) n v (l + 1)).2) hk
      rw [e, x1, f1]
      refine ⟨xs ++ [.fork a' b' c' d'], by rw [List.append_assoc], ?_⟩
      rw [← List.append_assoc, cn_fork (fun m' z => hm m' fun q hq => ?_)]
      · refine Rp.parts new_at fun j hj => ?_
        rw [f2 j hj]
        unfold cnF
        rw [sub_ins ha.s]
        split
        · rename_i z
          rw [z]
          exact x2.app
        · exact (h2 j hj).app.app
      · by_cases en : q.1 = n
        · rw [en]; exact z (n, v) (mem_ins.mpr (.inl rfl))
        · exact z q (mem_ins.mpr (.inr ⟨hq, en⟩))
end
end AL

/-! ST3: looks, withouts, all pairs of a trie. -/
namespace AL
open PySem PySem.Spec PyProof.Rows L2
/-- a node at a level, and behind each fork the part for a mark's digit -/
def wayN : Nat → List Nd → Nat → Int → Nat → List Nat
  | 0, _, i, _, _ => [i]
  | f + 1, ns, i, own, l => match ns[i]? with
    | some (.fork a b c d) => i :: wayN f ns (part4 a b c d (dgt own l)) own (l + 1)
    | _ => [i]
def vin (x : Option Nd) (n : Str) : Option V := match x with
  | some (.leaf _ ps) => fnd ps n
  | _ => none
section
variable {mk : Str → Int}
theorem fnd_sub {ps : Prs} (hs : Srt ps) {n : Str} {l : Nat} : fnd (sub mk l (dgt (mk n) l) ps) n = fnd ps n := by
  cases e : fnd ps n with
  | none =>
    cases e2 : fnd (sub mk l (dgt (mk n) l) ps) n with
    | none => rfl
    | some v => exact absurd rfl (fnd_none e _ (mem_sub.mp (fnd_some e2)).1)
  | some v => exact fnd_mem (hs.filter _) (mem_sub.mpr ⟨fnd_some e, rfl⟩)
/-- the way's nodes are there; its last one tells the value -/
theorem way_ok {n : Str} : ∀ (r l : Nat) (ps : Prs) (ns : List Nd) (i : Nat), l + r = 5 → At mk l (mk n) ps → Rp ns i (cn mk r l ps) →
    ∃ w k, wayN r ns i (mk n) l = w ++ [k] ∧ vin ns[k]? n = fnd ps n ∧ (∀ j ∈ w, ∃ a b c d, ns[j]? = some (.fork a b c d)) ∧ (∃ x, ns[k]? = some x ∧ ∀ a b c d, x ≠ .fork a b c d) ∧ w.length ≤ r := by
  intro r
  induction r with
  | zero =>
    intro l ps ns i hl ha hi
    refine ⟨[], i, rfl, ?_, fun j hj => (by cases hj), ?_, Nat.le_refl _⟩
    · by_cases hne : ps = []
      · subst hne
        rw [cn_nil] at hi
        cases hi with | bare hi => rw [hi]; rfl
      · rcases ha.cases hl hne with ⟨m, hm, e⟩ | ⟨r', e, _⟩
        · rw [e] at hi
          cases hi with | leaf hi => rw [hi]; rfl
        · cases e
    · by_cases hne : ps = []
      · subst hne
        rw [cn_nil] at hi
        cases hi with | bare hi => exact ⟨_, hi, fun a b c d z => (by cases z)⟩
      · rcases ha.cases hl hne with ⟨m, hm, e⟩ | ⟨r', e, _⟩
        · rw [e] at hi
          cases hi with | leaf hi => exact ⟨_, hi, fun a b c d z => (by cases z)⟩
        · cases e
  | succ r ih =>
    intro l ps ns i hl ha hi
    by_cases hne : ps = []
    · subst hne
      rw [cn_nil] at hi
      cases hi with
      | bare hi => exact ⟨[], 0, by simp only [wayN, hi]; rfl, by rw [hi]; rfl, fun j hj => (by cases hj), ⟨_, hi, fun a b c d z => (by cases z)⟩, Nat.zero_le _⟩
    · rcases ha.cases hl hne with ⟨m, hm, e⟩ | ⟨r', e, hm, hc⟩
      · rw [e] at hi
        cases hi with
        | leaf hi => exact ⟨[], i, by simp only [wayN, hi]; rfl, by rw [hi]; rfl, fun j hj => (by cases hj), ⟨_, hi, fun a b c d z => (by cases z)⟩, Nat.zero_le _⟩
      · cases e
        rw [hc] at hi
        obtain ⟨a, b, c, d, h1, h2⟩ := Rp.part (t := cnF mk r l ps) hi
        obtain ⟨w, k, w1, w2, w3, w4, w5⟩ := ih (l + 1) (sub mk l (dgt (mk n) l) ps) ns _ (by omega) (ha.sub _ rfl rfl) (h2 _ (dgt_lt (mk n) l))
        refine ⟨i :: w, k, by simp only [wayN, h1]; rw [w1]; rfl, by rw [w2, fnd_sub ha.s], fun j hj => ?_, w4, by rw [List.length_cons]; omega⟩
        rcases List.mem_cons.mp hj with z | z
        · rw [z]; exact ⟨a, b, c, d, h1⟩
        · exact w3 j z
/-! ### all pairs -/
def Tr.prs : Tr → Prs
  | .bare => []
  | .leaf _ ps => ps
  | .fork a b c d => a.prs ++ (b.prs ++ (c.prs ++ d.prs))
def Tr.size : Tr → Nat
  | .bare => 1
  | .leaf _ _ => 1
  | .fork a b c d => 1 + a.size + b.size + c.size + d.size
theorem sub_perm {l : Nat} (ps : Prs) : (sub mk l 0 ps ++ (sub mk l 1 ps ++ (sub mk l 2 ps ++ sub mk l 3 ps))).Perm ps := by
  induction ps with
  | nil => exact .refl _
  | cons p ps ih =>
    have h := dgt_lt (mk p.1) l
    have cases : ∀ d, sub mk l d (p :: ps) = if dgt (mk p.1) l = d then p :: sub mk l d ps else sub mk l d ps := fun d => by
      unfold sub
      rw [List.filter_cons]
      simp
    rw [cases, cases, cases, cases]
    rcases lt4 h with e | e | e | e <;> rw [e]
    · simp only [if_pos, Nat.reduceEqDiff, if_false, List.cons_append]
      exact .cons p ih
    · simp only [if_pos, Nat.reduceEqDiff, if_false, List.cons_append]
      exact (List.perm_middle).trans (.cons p ih)
    · simp only [if_pos, Nat.reduceEqDiff, if_false, List.cons_append]
      refine .trans ?_ (List.Perm.cons p ih)
      refine (List.Perm.append_left _ ((List.Perm.append_left _ (.refl _)).trans List.perm_middle)).trans List.perm_middle
    · simp only [if_pos, Nat.reduceEqDiff, if_false]
      refine .trans ?_ (List.Perm.cons p ih)
      refine (List.Perm.append_left _ ((List.Perm.append_left _ List.perm_middle).trans List.perm_middle)).trans List.perm_middle
theorem prs_perm : ∀ (r l : Nat) (ps : Prs) (m : Int), l + r = 5 → At mk l m ps → ((cn mk r l ps).prs).Perm ps := by
  intro r
  induction r with
  | zero =>
    intro l ps m hl ha
    by_cases hne : ps = []
    · subst hne; rw [cn_nil]; exact .refl _
    · rcases ha.cases hl hne with ⟨m', hm, e⟩ | ⟨r', e, _⟩
      · rw [e]; exact .refl _
      · cases e
  | succ r ih =>
    intro l ps m hl ha
    by_cases hne : ps = []
    · subst hne; rw [cn_nil]; exact .refl _
    · rcases ha.cases hl hne with ⟨m', hm, e⟩ | ⟨r', e, hm, hc⟩
      · rw [e]; exact .refl _
      · cases e
        rw [hc]
        have k : ∀ d, ((cnF mk r l ps d).prs).Perm (sub mk l d ps) := fun d => by
          by_cases hs : sub mk l d ps = []
          · unfold cnF; rw [hs, cn_nil]; exact .refl _
          · obtain ⟨p, hp⟩ := List.exists_mem_of_ne_nil _ hs
            have hp' := mem_sub.mp hp
            exact ih (l + 1) _ (mk p.1) (by omega) (ha.sub d (ha.w p hp'.1) hp'.2)
        exact (List.Perm.append (k 0) (List.Perm.append (k 1) (List.Perm.append (k 2) (k 3)))).trans (sub_perm ps)
theorem size_le : ∀ (r l : Nat) (ps : Prs), 3 * (cn mk r l ps).size + 1 ≤ 4 ^ (r + 1) := by
  intro r
  induction r with
  | zero => intro l ps; cases ps <;> exact (by decide : 4 ≤ 4)
  | succ r ih =>
    intro l ps
    have h1 : 1 ≤ 4 ^ r := Nat.one_le_pow _ _ (by decide)
    have e1 : 4 ^ (r + 1) = 4 * 4 ^ r := by rw [Nat.pow_succ, Nat.mul_comm]
    have e2 : 4 ^ (r + 1 + 1) = 4 * 4 ^ (r + 1) := by rw [Nat.pow_succ, Nat.mul_comm]
    cases ps with
    | nil => rw [cn_nil]; show 4 ≤ _; omega
    | cons p ps =>
      by_cases q : ∃ m, AllM mk (p :: ps) m
      · obtain ⟨m, q⟩ := q
        rw [cn_leaf (by simp) q]; show 4 ≤ _; omega
      · rw [cn_fork fun m z => q ⟨m, z⟩]
        have a := ih (l + 1) (sub mk l 0 (p :: ps))
        have b := ih (l + 1) (sub mk l 1 (p :: ps))
        have c := ih (l + 1) (sub mk l 2 (p :: ps))
        have d := ih (l + 1) (sub mk l 3 (p :: ps))
        show 3 * (1 + (cnF mk r l (p :: ps) 0).size + (cnF mk r l (p :: ps) 1).size + (cnF mk r l (p :: ps) 2).size + (cnF mk r l (p :: ps) 3).size) + 1 ≤ 4 ^ (r + 1 + 1)
        unfold cnF
        omega
/-! ### withouts -/
theorem Rp.leaf_inv {ns : List Nd} {i : Nat} {m : Int} {ps : Prs} (h : Rp ns i (.leaf m ps)) : ns[i]? = some (.leaf m ps) := by cases h; assumption
theorem Rp.fork_inv {ns : List Nd} {i : Nat} {ta tb tc td : Tr} (h : Rp ns i (.fork ta tb tc td)) : ∃ a b c d, ns[i]? = some (.fork a b c d) := by cases h; exact ⟨_, _, _, _, by assumption⟩
theorem sub_del {l d : Nat} {ps : Prs} {n : Str} : sub mk l d (del ps n) = if d = dgt (mk n) l then del (sub mk l d ps) n else sub mk l d ps := by
  split
  · unfold sub del
    rw [List.filter_filter, List.filter_filter]
    exact List.filter_congr fun x _ => Bool.and_comm _ _
  · rename_i e
    unfold sub del
    rw [List.filter_filter]
    refine List.filter_congr fun x _ => ?_
    by_cases q : dgt (mk x.1) l = d
    · rw [decide_eq_true q, Bool.true_and]
      exact decide_eq_true fun z => e (by rw [← q, z])
    · rw [decide_eq_false q, Bool.false_and]
theorem At.del {l : Nat} {m : Int} {ps : Prs} (h : At mk l m ps) (n : Str) : At mk l m (del ps n) :=
  ⟨h.s.del n, fun q hq => h.b q (mem_del.mp hq).1, fun q hq => h.w q (mem_del.mp hq).1⟩
theorem zero_iff {ns : List Nd} {r l i : Nat} {ps : Prs} (h0 : ns[0]? = some .bare) (h : Rp ns i (cn mk r l ps)) : i = 0 ↔ ps = [] := by
  constructor
  · rintro rfl; exact cn_bare (Rp.zero h0 h)
  · rintro rfl
    rw [cn_nil] at h
    cases h with | bare _ => rfl
theorem filter4 {p : Nat → Bool} {f : Nat → Nat} {k : Nat} (hk : k < 4) (h : ∀ j, j < 4 → p (f j) = decide (j = k)) : [f 0, f 1, f 2, f 3].filter p = [f k] := by
  have h0 := h 0 (by decide)
  have h1 := h 1 (by decide)
  have h2 := h 2 (by decide)
  have h3 := h 3 (by decide)
  rcases lt4 hk with rfl | rfl | rfl | rfl <;> simp [List.filter_cons, h0, h1, h2, h3]
theorem delN_fork {f : Nat} {ns : List Nd} {i a b c d : Nat} {own : Int} {n : Str} {l : Nat} (h : ns[i]? = some (.fork a b c d)) {r : List Nd × Nat} (hr : delN f ns (part4 a b c d (dgt own l)) own n (l + 1) = r) {a' b' c' d' : Nat} (hf : fork4 a b c d (dgt own l) r.2 = .fork a' b' c' d') :
    delN (f + 1) ns i own n l = match loneN r.1 [a', b', c', d'] with
      | some k => (r.1, k)
      | none => (r.1 ++ [.fork a' b' c' d'], r.1.length) := by
  simp only [delN, h, hr, hf, parts4] <;> (cases loneN r.1 [a', b', c', d'] <;> rfl)
theorem del_ok {n : Str} {v : V} : ∀ (r l : Nat) (ps : Prs) (ns : List Nd) (i : Nat), l + r = 5 → At mk l (mk n) ps → (n, v) ∈ ps → ns[0]? = some .bare → Rp ns i (cn mk r l ps) →
    ∃ xs, (delN (r + 1) ns i (mk n) n l).1 = ns ++ xs ∧ Rp (ns ++ xs) (delN (r + 1) ns i (mk n) n l).2 (cn mk r l (del ps n)) := by
  have base : ∀ (r l : Nat) (ps : Prs) (ns : List Nd) (i : Nat), (n, v) ∈ ps → ns[0]? = some .bare → Rp ns i (cn mk r l ps) → (∃ m, AllM mk ps m) →
      ∃ xs, (delN (r + 1) ns i (mk n) n l).1 = ns ++ xs ∧ Rp (ns ++ xs) (delN (r + 1) ns i (mk n) n l).2 (cn mk r l (del ps n)) := by
    rintro r l ps ns i hn h0 hi ⟨m, hm⟩
    have em : m = mk n := (hm _ hn).symm
    subst em
    rw [cn_leaf (by intro z; rw [z] at hn; cases hn) hm] at hi
    cases hi with
    | leaf hi =>
      have e : delN (r + 1) ns i (mk n) n l = if del ps n = [] then (ns, 0) else (ns ++ [.leaf (mk n) (del ps n)], ns.length) := by simp only [delN, hi]
      rw [e]
      split
      · rename_i q
        refine ⟨[], by simp, ?_⟩
        rw [q, cn_nil]
        exact .bare (zero_app h0)
      · rename_i q
        refine ⟨_, rfl, ?_⟩
        rw [cn_leaf (m := mk n) q fun x hx => hm x (mem_del.mp hx).1]
        exact .leaf new_at
  intro r
  induction r with
  | zero =>
    intro l ps ns i hl ha hn h0 hi
    have hne : ps ≠ [] := fun z => by rw [z] at hn; cases hn
    rcases ha.cases hl hne with ⟨m, hm, _⟩ | ⟨r', e, _⟩
    · exact base 0 l ps ns i hn h0 hi ⟨m, hm⟩
    · cases e
  | succ r ih =>
    intro l ps ns i hl ha hn h0 hi
    have hne : ps ≠ [] := fun z => by rw [z] at hn; cases hn
    rcases ha.cases hl hne with ⟨m, hm, _⟩ | ⟨r', e, hm, hc⟩
    · exact base (r + 1) l ps ns i hn h0 hi ⟨m, hm⟩
    · cases e
      rw [hc] at hi
      obtain ⟨a, b, c, d, h1, h2⟩ := Rp.part (t := cnF mk r l ps) hi
      have hk := dgt_lt (mk n) l
      obtain ⟨xs, x1, x2⟩ := ih (l + 1) (sub mk l (dgt (mk n) l) ps) ns (part4 a b c d (dgt (mk n) l)) (by omega) (ha.sub _ rfl rfl) (mem_sub.mpr ⟨hn, rfl⟩) h0 (h2 _ hk)
      generalize hr : delN (r + 1) ns (part4 a b c d (dgt (mk n) l)) (mk n) n (l + 1) = z at x1 x2
      obtain ⟨nz, jz⟩ := z
      simp only at x1 x2
      subst x1
      obtain ⟨a', b', c', d', f1, f2⟩ := fork4_eq (a := a) (b := b) (c := c) (d := d) (x := jz) hk
      have h0' := zero_app (xs := xs) h0
      -- each part stands for what is due without the name
      have parts : ∀ j, j < 4 → Rp (ns ++ xs) (part4 a' b' c' d' j) (cnF mk r l (del ps n) j) := fun j hj => by
        rw [f2 j hj]
        unfold cnF
        rw [sub_del]
        split
        · rename_i q; rw [q]; exact x2
        · exact (h2 j hj).app
      have nz : ∀ j, j < 4 → (part4 a' b' c' d' j = 0 ↔ sub mk l j (del ps n) = []) := fun j hj => zero_iff h0' (parts j hj)
      have e : delN (r + 1 + 1) ns i (mk n) n l = match loneN (ns ++ xs) [a', b', c', d'] with
          | some k => (ns ++ xs, k)
          | none => (ns ++ xs ++ [.fork a' b' c' d'], (ns ++ xs).length) := by
        exact delN_fork h1 hr f1
      have dne : del ps n ≠ [] := fun q => by
        refine hm (mk n) fun x hx => ?_
        by_cases en : x.1 = n
        · rw [en]
        · have := mem_del.mpr ⟨hx, en⟩
          rw [q] at this; cases this
      by_cases hall : ∃ m, AllM mk (del ps n) m
      · obtain ⟨m, hall⟩ := hall
        have hd : ∀ j, sub mk l j (del ps n) = if j = dgt m l then del ps n else [] := fun j => by
          unfold sub
          split
          · rename_i q; exact List.filter_eq_self.mpr fun x hx => by rw [hall x hx]; exact decide_eq_true q.symm
          · rename_i q; exact List.filter_eq_nil_iff.mpr fun x hx => by rw [hall x hx, decide_eq_true_eq]; exact fun z => q z.symm
        have hkm := dgt_lt m l
        have hf : [a', b', c', d'].filter (fun k => decide (k ≠ 0)) = [part4 a' b' c' d' (dgt m l)] := by
          refine filter4 (f := part4 a' b' c' d') hkm fun j hj => decide_eq_decide.mpr ?_
          rw [ne_eq, nz j hj, hd j]
          constructor
          · intro q
            by_cases z : j = dgt m l
            · exact z
            · exact absurd (if_neg z) q
          · rintro rfl
            rw [if_pos rfl]; exact dne
        have pk := parts _ hkm
        unfold cnF at pk
        rw [hd, if_pos rfl, cn_leaf dne hall] at pk
        have hl2 : loneN (ns ++ xs) [a', b', c', d'] = some (part4 a' b' c' d' (dgt m l)) := by
          unfold loneN
          rw [hf]
          simp only [pk.leaf_inv]
        rw [e, hl2]
        exact ⟨xs, rfl, by rw [cn_leaf dne hall]; exact pk⟩
      · have hall' : ∀ m, ¬ AllM mk (del ps n) m := fun m q => hall ⟨m, q⟩
        have hl2 : loneN (ns ++ xs) [a', b', c', d'] = none := by
          unfold loneN
          split
          · rename_i k hk2
            split
            · rename_i m' ps' hleaf
              exfalso
              have mem : k ∈ [a', b', c', d'].filter (fun k => decide (k ≠ 0)) := by rw [hk2]; exact List.mem_singleton.mpr rfl
              have kin := (List.mem_filter.mp mem).1
              obtain ⟨j, hj, ej⟩ : ∃ j, j < 4 ∧ part4 a' b' c' d' j = k := by
                rcases List.mem_cons.mp kin with q | q
                · exact ⟨0, by decide, q.symm⟩
                rcases List.mem_cons.mp q with q | q
                · exact ⟨1, by decide, q.symm⟩
                rcases List.mem_cons.mp q with q | q
                · exact ⟨2, by decide, q.symm⟩
                · exact ⟨3, by decide, (List.mem_singleton.mp q).symm⟩
              -- all others are bare
              have others : ∀ i, i < 4 → sub mk l i (del ps n) ≠ [] → part4 a' b' c' d' i = k := fun i hi q => by
                have z : part4 a' b' c' d' i ≠ 0 := fun w => q ((nz i hi).mp w)
                have : part4 a' b' c' d' i ∈ [a', b', c', d'].filter (fun k => decide (k ≠ 0)) := List.mem_filter.mpr ⟨by rcases lt4 hi with rfl | rfl | rfl | rfl <;> simp [part4], decide_eq_true z⟩
                rw [hk2] at this
                exact List.mem_singleton.mp this
              have one : ∀ x ∈ del ps n, mk x.1 = m' := fun x hx => by
                have hx4 := dgt_lt (mk x.1) l
                have xin : x ∈ sub mk l (dgt (mk x.1) l) (del ps n) := mem_sub.mpr ⟨hx, rfl⟩
                have ek := others _ hx4 (fun q => by rw [q] at xin; cases xin)
                have rp := parts _ hx4
                rw [ek] at rp
                have ha2 : At mk (l + 1) (mk x.1) (sub mk l (dgt (mk x.1) l) (del ps n)) := (ha.del n).sub _ ((ha.del n).w x hx) rfl
                rcases ha2.cases (r := r) (by omega) (fun q => by rw [q] at xin; cases xin) with ⟨m2, z1, z2⟩ | ⟨r2, _, _, z2⟩
                · unfold cnF at rp
                  rw [z2] at rp
                  rw [rp.leaf_inv] at hleaf
                  cases hleaf
                  exact z1 x xin
                · unfold cnF at rp
                  rw [z2] at rp
                  obtain ⟨_, _, _, _, q⟩ := rp.fork_inv
                  rw [q] at hleaf; cases hleaf
              exact hall' m' one
            · rfl
          · rfl
        rw [e, hl2]
        refine ⟨xs ++ [.fork a' b' c' d'], by rw [List.append_assoc], ?_⟩
        rw [cn_fork hall', ← List.append_assoc]
        exact Rp.parts new_at fun j hj => (parts j hj).app
end
end AL

/-! EN6: tuples of any kind added and cut; loops over frozen rows. -/
namespace AL
open PySem PySem.Spec PyProof.Rows L2
/-- the tuple at a can be read of the ledger, and kept -/
structure LdF (L : List Asn) (K : PySem.W.Frag) (a : Addr) (xs : List V) : Prop where
  q : ∀ H, Star L H → FzT K a xs H
section
variable {L L0 : List Asn} {σ : L2.St} {Q : VK} {K : PySem.W.Frag} {P : Hp → Prop} {a p q : Addr} {xs ys : List V} {lo hi : Option Int} {x : V} {d : PyData} {ds : List PyData}
theorem LdF.tk (r : Tk L (pt a (.tup xs)) L0) : LdF L K a xs := ⟨fun H s => .inl (r.pat s)⟩
theorem LdF.tkf (r : Tk L (FzT K a xs) L0) : LdF L K a xs := ⟨fun H s => by
  obtain ⟨H1, h1, z⟩ := (r.ok _ s).get
  exact z.imp (h1 _ _) id⟩
theorem LdF.wr (h : ∀ H, SqT K H a xs) : LdF L K a xs := ⟨fun H _ => .inr h⟩
theorem LdgT.f (h : LdF L K a xs) : LdgT L K a xs := ⟨fun H s => (h.q H s).elim SqT.of fun z => z H⟩
theorem Al.f (h : LdF L K a xs) (k : Al (FzT K a xs :: L) P) : Al L P := fun H s => by
  rcases h.q H s with z | z
  · refine k H ⟨one a (.tup xs), H, ⟨fun b o e => ?_, fun b o e => e, fun b o u e e2 => ?_⟩, .inl one_same, s⟩
    · obtain ⟨rfl, rfl⟩ := one_some e; exact z
    · obtain ⟨rfl, rfl⟩ := one_some e; trivial
  · exact k H ⟨fun _ => none, H, ⟨fun _ _ e => (nomatch e), fun _ _ e => e, fun _ _ _ e => (nomatch e)⟩, .inr z, s⟩
theorem LdZ.f (h : LdF L K p xs) (h' : LdZs L K xs ds) : LdZ L K (.ref p) (.tuple ds) := ⟨fun H s => .tup ((h.q H s).elim (fun z => SqT.of (tupH_of z)) fun z => z _) (h'.q H s)⟩
theorem Star.newF {H : Hp} (s : Star L H) (hp : H p = none) : Star (FzT K p xs :: L) (upd H p (.tup xs)) := (s.new (o := .tup xs) hp).head fun _ z => .inl z
theorem e_add_TT (h : LdF L K p xs) (h' : LdF L K q ys) (hz : xs.length + ys.length ≤ sizeLine) (k : ∀ c, Al (FzT K c (xs ++ ys) :: L) (Q (.ref c))) : Al L (x2 (bAdd K) (.ref p) (.ref q) Q) := fun H s =>
  .inr (.inr (.inr ⟨p, q, xs, ys, rfl, rfl, (LdgT.f h).q H s, (LdgT.f h').q H s, hz, fun e => (by subst e; exact Al.f (P := Q (.ref q)) h' (k q) H s), fun _ e => (by subst e; exact Al.f (P := Q (.ref p)) h (by have := k p; rwa [List.append_nil] at this) H s), fun _ _ c hc => k c _ (s.newF hc)⟩))
theorem cutV_whole (h : HT.sIx xs.length 0 lo = 0 ∧ HT.sIx xs.length xs.length hi = xs.length) : cutV xs lo hi = xs := by
  unfold cutV
  rw [h.1, h.2, List.drop_zero, Nat.sub_zero, List.take_length]
theorem e_slT (h : LdF L K a xs) (k : ∀ c, Al (FzT K c (cutV xs lo hi) :: L) (Q (.ref c))) : Al L (xSl (sIx K) (.ref a) lo hi Q) := fun H s =>
  .inr (.inr ⟨a, xs, rfl, (LdgT.f h).q H s, fun e => (Al.f (P := Q (.ref a)) h (by have := k a; rwa [cutV_whole e] at this) H s), fun _ c hc => k c _ (s.newF hc)⟩)
theorem Al.tk {A : Asn} (r : Tk L A L0) (k : Al (A :: L0) P) : Al L P := fun H s => k H (r.ok _ s)
theorem n_part2 {QO : Option Int → Hp → Prop} {i : Int} : PartK QO (.int i) = QO (some i) := n_part1
theorem putF_nil {f : Str} {v : V} : putF f v [] = [(f, v)] := rfl
theorem putF_hit {f : Str} {v x : V} {r : List (Str × V)} : putF f v ((f, x) :: r) = (f, v) :: r := if_pos rfl
theorem putF_skip {f g : Str} {v x : V} {r r' : List (Str × V)} (h : ¬ g = f) (e : putF f v r = r') : putF f v ((g, x) :: r) = (g, x) :: r' := by rw [← e]; exact if_neg h
/-! ### ways that meet again -/
section
variable {te ta tb : TE} {tt tu : TT} {ts tv : TS} {nx F : L2.St → Hp → Prop} {rt : VK} {bk ct : L2.St → Hp → Prop} {σ : L2.St} {b : Bool} {M R : List Asn}
theorem e_joinA (I : L2.St → List Asn → Prop) (k1 : ∀ F : L2.St → Hp → Prop, (∀ σ M, I σ M → Al M (F σ)) → Al L (kAnd tu σ (kIf ts tv F rt bk ct σ) b)) (k2 : ∀ σ M, I σ M → Al M (nx σ)) : Al L (kAnd tu σ (kIf ts tv nx rt bk ct σ) b) := k1 nx k2
theorem e_joinI (I : L2.St → List Asn → Prop) (k1 : ∀ F : L2.St → Hp → Prop, (∀ σ M, I σ M → Al M (F σ)) → Al L (kIf ts tv F rt bk ct σ b)) (k2 : ∀ σ M, I σ M → Al M (nx σ)) : Al L (kIf ts tv nx rt bk ct σ b) := k1 nx k2
theorem e_joinT (I : L2.St → List Asn → Prop) (k1 : ∀ F : L2.St → Hp → Prop, (∀ σ M, I σ M → Al M (F σ)) → Al L (xS ts F rt bk ct σ)) (k2 : ∀ σ M, I σ M → Al M (nx σ)) : Al L (xS ts nx rt bk ct σ) := k1 nx k2
theorem e_joinE (I : V → List Asn → Prop) {Q : VK} (k1 : ∀ F : VK, (∀ v M, I v M → Al M (F v)) → Al L (xE te σ F)) (k2 : ∀ v M, I v M → Al M (Q v)) : Al L (xE te σ Q) := k1 Q k2
theorem e_joinX (I : V → List Asn → Prop) {Q : VK} (k1 : ∀ F : VK, (∀ v M, I v M → Al M (F v)) → Al L (kIfx ta tb σ F b)) (k2 : ∀ v M, I v M → Al M (Q v)) : Al L (kIfx ta tb σ Q b) := k1 Q k2
theorem e_jn {α : Type} {F : α → Hp → Prop} {I : α → List Asn → Prop} {x : α} (h : ∀ σ M, I σ M → Al M (F σ)) (i : I x M) (e : Tks L M R) : Al L (F x) := (h _ _ i).ent (Ent.ofT e)
end
theorem Fz.of (h : LdZ L K x d) : LdZ L K x d := h
end
theorem cutV_take {xs : List V} {k : Nat} (h : k ≤ xs.length) : cutV xs none (some (k : Int)) = xs.take k := cutV_to h
theorem cutV_drop {xs : List V} {k : Nat} (h : k ≤ xs.length) : cutV xs (some (k : Int)) none = xs.drop k := cutV_from h
end AL

/-! NM: names of small letters, marks. -/
namespace AL
open PySem PySem.Spec PyProof.Rows L2
def Nm (z : Str) : Prop := ∀ (i c : Nat), z.cps[i]? = some c → 97 ≤ c ∧ c ≤ 122
theorem occ_ok : ∀ k < 26, (Builtin.Str.occurrences "abcdefghijklmnopqrstuvwxyz" ⟨#[97 + k]⟩ 0 26 1).head? = some k := by decide +kernel
theorem occ_at {c : Nat} (h1 : 97 ≤ c) (h2 : c ≤ 122) : ∃ rest, Builtin.Str.occurrences "abcdefghijklmnopqrstuvwxyz" ⟨#[c]⟩ 0 (Str.length "abcdefghijklmnopqrstuvwxyz") 1 = (c - 97) :: rest := by
  have e := occ_ok (c - 97) (by omega)
  rw [show 97 + (c - 97) = c by omega] at e
  have l : Str.length "abcdefghijklmnopqrstuvwxyz" = 26 := by decide +kernel
  rw [l]
  cases q : Builtin.Str.occurrences "abcdefghijklmnopqrstuvwxyz" ⟨#[c]⟩ 0 26 1 with
  | nil => rw [q] at e; cases e
  | cons a r => rw [q] at e; exact ⟨r, by rw [Option.some.inj e]⟩
def vAt (z : Str) (i : Nat) : Int := ((z.cps.getD i 0 - 97 : Nat) : Int) + 1
def mkAt (z : Str) (i : Nat) : Int := ((i : Int) + 1) * vAt z i
def mkS (z : Str) : Int := sg z.cps.size (mkAt z)
theorem Nm.push {z : Str} {c : Nat} (h : Nm z) (h1 : 97 ≤ c) (h2 : c ≤ 122) : Nm (z ++ (⟨#[c]⟩ : Str)) := by
  intro i d hd
  have e : (z.cps ++ #[c])[i]? = some d := hd
  rw [Array.getElem?_append] at e
  split at e
  · exact h i d e
  · have e' : i - z.cps.size < 1 := (Array.getElem?_eq_some_iff.mp e).1
    have e0 : i - z.cps.size = 0 := by omega
    rw [e0] at e
    obtain rfl : c = d := Option.some.inj e
    exact ⟨h1, h2⟩
theorem Nm.nil : Nm "" := fun i c h => by
  have e : (#[] : Array Nat)[i]? = some c := h
  rw [Array.getElem?_empty] at e
  cases e
theorem Nm.iff {z : Str} : Nm z ↔ ∀ c ∈ z.cps.toList, 97 ≤ c ∧ c ≤ 122 := by
  constructor
  · intro h c hc
    obtain ⟨i, hi⟩ := List.mem_iff_getElem?.mp hc
    exact h i c (by rw [← Array.getElem?_toList]; exact hi)
  · intro h i c hc
    rw [← Array.getElem?_toList] at hc
    exact h c (List.mem_iff_getElem?.mpr ⟨i, hc⟩)
theorem Nm.lit {z : Str} (h : (z.cps.toList.all fun c => decide (97 ≤ c ∧ c ≤ 122)) = true) : Nm z := by
  rw [Nm.iff]
  exact fun c hc => of_decide_eq_true (List.all_eq_true.mp h c hc)
theorem vAt_le {z : Str} {i : Nat} (h : Nm z) (hi : i < z.cps.size) : 1 ≤ vAt z i ∧ vAt z i ≤ 26 := by
  have e : z.cps[i]? = some z.cps[i] := Array.getElem?_eq_getElem hi
  have q := h i _ e
  unfold vAt
  rw [Array.getD_eq_getD_getElem?, e]
  rw [Option.getD_some]
  generalize z.cps[i] = c at q
  omega
theorem mk_bound {z : Str} (h : Nm z) (hz : z.cps.size ≤ 8) : 0 ≤ mkS z ∧ mkS z < 1024 := by
  have e : ∀ n : Nat, n < 9 → sg n (fun i => ((i : Int) + 1) * 26) < 1024 := by decide +kernel
  constructor
  · refine (sg_bound (c := 1000000) fun i hi => ?_).1
    have q := vAt_le h hi
    refine ⟨Int.mul_nonneg (by omega) (by omega), ?_⟩
    have : ((i : Int) + 1) * vAt z i ≤ ((i : Int) + 1) * 26 := Int.mul_le_mul_of_nonneg_left q.2 (by omega)
    unfold mkAt
    omega
  · refine Int.lt_of_le_of_lt (sg_le fun i hi => ?_) (e z.cps.size (by omega))
    exact Int.mul_le_mul_of_nonneg_left (vAt_le h hi).2 (by omega)
/-- names of one to eight small letters -/
structure Nm8 (z : Str) : Prop where
  n : Nm z
  a : 1 ≤ z.cps.size
  b : z.cps.size ≤ 8
def Nms (ws : List Str) : Prop := ∀ z ∈ ws, Nm8 z
theorem names_add {ws ws' : List Str} {z : Str} (h : Nms ws) (e : ∀ x ∈ ws', x = z ∨ x ∈ ws) (hz : Nm8 z) : Nms ws' := fun y hy => by
  rcases e y hy with rfl | q
  · exact hz
  · exact h y q
theorem abc_at : ∀ k : Nat, k < 26 → atI ("abcdefghijklmnopqrstuvwxyz" : Str).cps.toList (k : Int) = some (97 + k) := by decide +kernel
theorem abf_at : ∀ k : Nat, k < 6 → atI ("abcdef" : Str).cps.toList (k : Int) = some (97 + k) := by decide +kernel
theorem e_abc {L : List Asn} {K : PySem.W.Frag} {Q : VK} {i : Int} (h0 : 0 ≤ i) (h1 : i < 26) (k : Al L (Q (.str ⟨#[97 + i.toNat]⟩))) : Al L (x2 (xIx K) (.str "abcdefghijklmnopqrstuvwxyz") (.int i) Q) := by
  refine e_xS (by rw [sizeLine_eq]; decide +kernel) ?_ k
  have e := abc_at i.toNat (by omega)
  rw [Int.toNat_of_nonneg h0] at e
  exact e
theorem e_abf {L : List Asn} {K : PySem.W.Frag} {Q : VK} {i : Int} (h0 : 0 ≤ i) (h1 : i < 6) (k : Al L (Q (.str ⟨#[97 + i.toNat]⟩))) : Al L (x2 (xIx K) (.str "abcdef") (.int i) Q) := by
  refine e_xS (by rw [sizeLine_eq]; decide +kernel) ?_ k
  have e := abf_at i.toNat (by omega)
  rw [Int.toNat_of_nonneg h0] at e
  exact e
theorem shr_k02 {o : Int} (h0 : 0 ≤ o) (h1 : o < 18) : 0 < (26 : Int) ^ Int.toNat 8 / 2 ^ (2 * o).toNat ∧ (26 : Int) ^ Int.toNat 8 / 2 ^ (2 * o).toNat < 2 ^ 62 := by
  have e : ∀ k : Nat, k < 18 → 0 < (26 : Int) ^ Int.toNat 8 / 2 ^ (2 * (k : Int)).toNat ∧ (26 : Int) ^ Int.toNat 8 / 2 ^ (2 * (k : Int)).toNat < 2 ^ 62 := by decide +kernel
  have := e o.toNat (by omega)
  rwa [Int.toNat_of_nonneg h0] at this
theorem sign_at : ∀ k : Nat, 1 ≤ k → k ≤ 26 → atI ("_abcdefghijklmnopqrstuvwxyz" : Str).cps.toList (k : Int) = some (96 + k) := by
  have h : ∀ k : Nat, k < 27 → 1 ≤ k → atI ("_abcdefghijklmnopqrstuvwxyz" : Str).cps.toList (k : Int) = some (96 + k) := by decide +kernel
  exact fun k h1 h2 => h k (by omega) h1
theorem sign_of {ls : List Int} {i : Nat} (h1 : 1 ≤ ls.getD i 0) (h2 : ls.getD i 0 ≤ 26) : atI ("_abcdefghijklmnopqrstuvwxyz" : Str).cps.toList (ls.getD i 0) = some (96 + (ls.getD i 0).toNat) := by
  have e := sign_at (ls.getD i 0).toNat (by omega) (by omega)
  rw [Int.toNat_of_nonneg (by omega)] at e
  exact e
theorem ints_at {ls : List Int} {i : Nat} {x : V} (h : (ls.map V.int)[i]? = some x) : i < ls.length ∧ x = .int (ls.getD i 0) := by
  have hi := (List.getElem?_eq_some_iff.mp h).1
  rw [List.length_map] at hi
  rw [List.getElem?_map, List.getElem?_eq_getElem hi] at h
  rw [List.getD_eq_getElem?_getD, List.getElem?_eq_getElem hi]
  exact ⟨hi, (Option.some.inj h).symm⟩
theorem strs_at {ws : List Str} {i : Nat} {x : V} (h : (ws.map V.str)[i]? = some x) : ∃ z, ws[i]? = some z ∧ z ∈ ws ∧ x = .str z := by
  rw [List.getElem?_map] at h
  obtain ⟨z, hz, e⟩ := Option.map_eq_some_iff.mp h
  exact ⟨z, hz, List.mem_of_getElem? hz, e.symm⟩
theorem e_setOf {L L0 : List Asn} {P : Hp → Prop} {p : Addr} {ws : List Str} {z : Str} (r : Tk L (pt p (.dK (setOf ws))) L0) (hl : ws.length ≤ 100000) (k : ∀ ws', (∀ x ∈ ws', x = z ∨ x ∈ ws) → ws'.length ≤ ws.length + 1 → (ws.Nodup → ws'.Nodup) → 1 ≤ ws'.length → Al (pt p (.dK (setOf ws')) :: L0) P) : Al L (xSt sSet (.ref p) (.str z) (.bl true) P) := by
  obtain ⟨ws', e1, e2, e3, e4, e5, _⟩ := setOf_put ws z
  refine e_setD (κ := .inr z) r rfl (by rw [setOf_length, sizeLine_eq]; omega) ?_
  rw [e1]
  exact k ws' e2 e3 e4 (List.length_pos_of_mem e5)
end AL

/-! SA: stores: what is held of them, ways, the deeds on tables. -/
namespace AL
open PySem PySem.Spec PyProof.Rows L2
/-! ### parts held together -/
def Pk {α : Type} (f : α → List Asn) : Asn := fun H => ∃ a, Star (f a) H
section
variable {L R L0 : List Asn} {K : PySem.W.Frag} {Q : VK} {P : Hp → Prop} {x : V} {d : PyData} {xs : List V} {ds : List PyData} {a p n s : Addr} {ns : List Nd} {td : List Nat}
theorem Pk.open {α : Type} {f : α → List Asn} (k : ∀ a, Al (f a ++ L) P) : Al (Pk f :: L) P := Al.ex (A := fun a => Star (f a)) fun a => Al.split (k a)
theorem Pk.fold {α : Type} {f : α → List Asn} (a : α) (s : Tks L (f a) R) (k : Al (Pk f :: R) P) : Al L P := fun H h => k H ((Star.join (s.ok h)).head fun _ q => ⟨a, q⟩)
theorem Pk.sub {α : Type} {f : α → List Asn} {H : Hp} {a : Addr} {Z : Hp → Prop} (h : ∀ y H1, Star (f y) H1 → Z H1) (q : Pk f H) : Z H := by
  obtain ⟨y, q⟩ := q
  exact h y H q
theorem e_fz0 {M : List Asn} (s : Ent L M) : Ent L (Fzs K [] [] :: M) := fun H h => ⟨fun _ => none, H, ⟨fun _ _ e => (nomatch e), fun _ _ e => e, fun _ _ _ e => (nomatch e)⟩, .nil, s H h⟩
def NodesA (K : PySem.W.Frag) (n : Addr) (ns : List Nd) : Asn := Pk fun l : Addr => [Ob n (He.ga K "Nodes") [("rows", .ref l)], LsA K l (ns.map Nd.dat)]
theorem NodesA.open (k : ∀ l, Al (Ob n (He.ga K "Nodes") [("rows", .ref l)] :: LsA K l (ns.map Nd.dat) :: L) P) : Al (NodesA K n ns :: L) P := Pk.open k
theorem NodesA.fold (l : Addr) (s : Tks L [Ob n (He.ga K "Nodes") [("rows", .ref l)], LsA K l (ns.map Nd.dat)] R) (k : Al (NodesA K n ns :: R) P) : Al L P := Pk.fold (f := fun l : Addr => [Ob n (He.ga K "Nodes") [("rows", .ref l)], LsA K l (ns.map Nd.dat)]) l s k
def toldK (td : List Nat) : List (Key × V) := td.map fun (t : Nat) => ((.inl (t : Int) : Key), V.bl true)
def StoreA (K : PySem.W.Frag) (s : Addr) (ns : List Nd) (td : List Nat) : Asn := Pk fun z : Addr × Addr => [Ob s (He.ga K "Store") [("nodes", .ref z.1), ("told", .ref z.2)], NodesA K z.1 ns, pt z.2 (.dK (toldK td))]
theorem StoreA.open (k : ∀ n d, Al (Ob s (He.ga K "Store") [("nodes", .ref n), ("told", .ref d)] :: NodesA K n ns :: pt d (.dK (toldK td)) :: L) P) : Al (StoreA K s ns td :: L) P := Pk.open fun ⟨n, d⟩ => k n d
theorem StoreA.fold {n d : Addr} (t : Tks L [Ob s (He.ga K "Store") [("nodes", .ref n), ("told", .ref d)], NodesA K n ns, pt d (.dK (toldK td))] R) (k : Al (StoreA K s ns td :: R) P) : Al L P := Pk.fold (f := fun z : Addr × Addr => [Ob s (He.ga K "Store") [("nodes", .ref z.1), ("told", .ref z.2)], NodesA K z.1 ns, pt z.2 (.dK (toldK td))]) (n, d) t k
theorem e_methN {m : Str} {PV : V → Hp → Prop} (r : Tk L (NodesA K a ns) L0) (hm : ∀ l, ([("rows", l)] : List (Str × V)).lookup m = none) (k : Al L (PV (.ref a))) : Al L (MethK (He.ga K "Nodes") m PV (.ref a)) :=
  e_methA r (fun H ⟨l, H1, H2, sp, ⟨dx, e⟩, _⟩ => ⟨dx, _, sp.l _ _ e, hm _⟩) k
theorem e_methS {m : Str} {PV : V → Hp → Prop} (r : Tk L (StoreA K a ns td) L0) (hm : ∀ l l', ([("nodes", l), ("told", l')] : List (Str × V)).lookup m = none) (k : Al L (PV (.ref a))) : Al L (MethK (He.ga K "Store") m PV (.ref a)) :=
  e_methA r (fun H ⟨l, H1, H2, sp, ⟨dx, e⟩, _⟩ => ⟨dx, _, sp.l _ _ e, hm _ _⟩) k
theorem Al.swap {A B : Asn} (k : Al (B :: A :: L) P) : Al (A :: B :: L) P := fun H s => k H s.swap
def isLeafN : Nd → Bool
  | .leaf _ _ => true
  | _ => false
def isForkN : Nd → Bool
  | .fork _ _ _ _ => true
  | _ => false
theorem fnd_take {ps : Prs} {n : Str} {i : Nat} {q : Str × V} (h : ∀ r ∈ ps.take i, r.1 ≠ n) (e : ps[i]? = some q) (hq : q.1 = n) : fnd ps n = some q.2 := by
  have hi := (List.getElem?_eq_some_iff.mp e).1
  unfold fnd
  conv => lhs; rw [← List.take_append_drop i ps]
  rw [List.find?_append, List.find?_eq_none.mpr (fun r hr => by rw [decide_eq_true_eq]; exact h r hr), Option.none_or, List.drop_eq_getElem_cons hi]
  obtain rfl : ps[i] = q := (List.getElem?_eq_some_iff.mp e).2
  rw [List.find?_cons, decide_eq_true hq]; rfl
theorem fnd_nope {ps : Prs} {n : Str} (h : ∀ r ∈ ps, r.1 ≠ n) : fnd ps n = none := by
  unfold fnd
  rw [List.find?_eq_none.mpr (fun r hr => by rw [decide_eq_true_eq]; exact h r hr)]; rfl
theorem take_step {α : Type} {ps : List α} {i : Nat} {q : α} (e : ps[i]? = some q) : ps.take (i + 1) = ps.take i ++ [q] := by
  rw [List.take_succ, e]; rfl
/-! ### rows read back -/
def nrm : V → V
  | .int i => .int i
  | .str z => .str z
  | .bl b => .bl b
  | _ => .non
theorem nrm_scl {v : V} (h : Scl v) : nrm v = v := by
  rcases h with rfl | ⟨i, rfl⟩ | ⟨z, rfl⟩ <;> rfl
theorem Fz.nrm {v : V} (k : x = nrm v → Al L P) : Al (Fz K x (dV v) :: L) P := by
  cases v with
  | int i => exact Fz.int k
  | str z => exact Fz.str k
  | bl b => exact Fz.bl k
  | _ => exact Fz.non k
theorem Fz.openPair {q : Str × V} (k : ∀ t, x = .ref t → Al (FzT K t [.str q.1, AL.nrm q.2] :: L) P) : Al (Fz K x (pd q) :: L) P := by
  refine Fz.openT (ds := [.str q.1, dV q.2]) fun a xs e => Al.swap (Fzs.openC fun y ys e1 => Fz.str fun e2 => Fzs.openC fun y' ys' e3 => Fz.nrm fun e4 => Fzs.openN fun e5 => ?_)
  subst e e1 e2 e3 e4 e5
  exact k a rfl
theorem Fz.openBare (k : ∀ t, x = .ref t → Al (FzT K t [.str "bare"] :: L) P) : Al (Fz K x Nd.bare.dat :: L) P := by
  refine Fz.openT (ds := [.str "bare"]) fun a xs e => Al.swap (Fzs.openC fun y ys e1 => Fz.str fun e2 => Fzs.openN fun e5 => ?_)
  subst e e1 e2 e5
  exact k a rfl
theorem Fz.openLeaf {m : Int} {ps : Prs} (k : ∀ t p xs, x = .ref t → xs.length = ps.length → Al (FzT K t [.str "leaf", .int m, .ref p] :: FzT K p xs :: Fzs K xs (ps.map pd) :: L) P) : Al (Fz K x (Nd.leaf m ps).dat :: L) P := by
  refine Fz.openT (ds := [.str "leaf", .int m, .tuple (ps.map pd)]) fun a xs e => Al.swap (Fzs.openC fun y ys e1 => Fz.str fun e2 => Fzs.openC fun y' ys' e3 => Fz.int fun e4 => Fzs.openC fun y3 ys3 e5 => Al.swap (Fzs.openN fun e7 => Fz.openT fun p zs e6 => ?_))
  subst e e1 e2 e3 e4 e5 e6 e7
  refine Al.swap (Fzs.len fun hl => ?_)
  refine fun H s => k a p zs rfl (by rw [hl, List.length_map]) H ?_
  exact ((s.swap.tail fun _ t => t.swap).swap.tail fun _ t => t)
theorem Fz.openFork {a b c d : Nat} (k : ∀ t p, x = .ref t → Al (FzT K t [.str "fork", .ref p] :: FzT K p [.int a, .int b, .int c, .int d] :: L) P) : Al (Fz K x (Nd.fork a b c d).dat :: L) P := by
  refine Fz.openT (ds := [.str "fork", .tuple [.int a, .int b, .int c, .int d]]) fun t xs e => Al.swap (Fzs.openC fun y ys e1 => Fz.str fun e2 => Fzs.openC fun y' ys' e3 => Al.swap (Fzs.openN fun e4 => Fz.openT fun p zs e5 =>
    Al.swap (Fzs.openC fun y0 ys0 f0 => Fz.int fun g0 => Fzs.openC fun y1 ys1 f1 => Fz.int fun g1 => Fzs.openC fun y2 ys2 f2 => Fz.int fun g2 => Fzs.openC fun y3 ys3 f3 => Fz.int fun g3 => Fzs.openN fun g4 => ?_)))
  subst e e1 e2 e3 e4 e5 f0 g0 f1 g1 f2 g2 f3 g3 g4
  exact Al.swap (k t p rfl)
theorem set_cut {xs : List V} {k : Nat} {y : V} (h : k < xs.length) : cutV xs none (some (k : Int)) ++ [y] ++ cutV xs (some ((k : Int) + 1)) none = xs.set k y := by
  have e : ((k : Int) + 1) = ((k + 1 : Nat) : Int) := by omega
  rw [e, cutV_take (by omega), cutV_drop (by omega), List.set_eq_take_append_cons_drop, if_pos h]
  simp
theorem cutV_le {xs : List V} {lo hi : Option Int} : (cutV xs lo hi).length ≤ xs.length := by
  unfold cutV
  rw [List.length_take, List.length_drop]
  omega
theorem del_step {ps : Prs} {n : Str} {i : Nat} {q : Str × V} (e : ps[i]? = some q) : del (ps.take (i + 1)) n = if q.1 = n then del (ps.take i) n else del (ps.take i) n ++ [q] := by
  rw [take_step e]
  unfold del
  rw [List.filter_append]
  by_cases h : q.1 = n
  · rw [if_pos h]; simp [h]
  · rw [if_neg h]; simp [h]
theorem DpAll.ofmap {H : Hp} {β : Type} {f : β → PyData} : ∀ {bs : List β} {xs : List V}, DpAll K H xs (bs.map f) → ∀ q ∈ xs.zip bs, Dp K H q.1 (f q.2)
  | [], _, h, q, hq => by simp at hq
  | b :: bs, _, h, q, hq => by
    cases h with | cons h1 h2 =>
    rcases List.mem_cons.mp hq with e | e
    · rw [e]; exact h1
    · exact DpAll.ofmap h2 q e
theorem DpAll.tomap {H : Hp} {β : Type} {f : β → PyData} : ∀ {zs : List (V × β)}, (∀ q ∈ zs, Dp K H q.1 (f q.2)) → DpAll K H (zs.map (·.1)) (zs.map fun q => f q.2)
  | [], _ => .nil
  | z :: zs, h => .cons (h z (List.mem_cons_self ..)) (DpAll.tomap fun q hq => h q (List.mem_cons_of_mem _ hq))
theorem SqT.up1 {H1 H : Hp} (h1 : ∀ a o, H1 a = some o → H a = some o) (w : SqT K H1 a xs) : SqT K H a xs := by
  rcases w with (w | ⟨o, w⟩) | w
  · exact .inl (.inl (h1 _ _ w))
  · exact .inl (.inr ⟨o, h1 _ _ w⟩)
  · exact .inr w
theorem e_sortP {C : Addr} {q q' : Str} {ps : Prs} (eq : q' = q) (r : Tk L (pt a (.lst xs)) L1) (hz : LdZs L K xs (ps.map pd)) (r' : Tk L (TabA C q) L0)
    (kk : ∀ p, Al (LsA K p ((ps.mergeSort (keyLe (·.1))).map pd) :: TabA C q :: L0) (Q (.ref p))) : Al L (kSortK K C q' Q (.ref a)) := by
  subst eq
  refine hz.len fun hl => ?_
  rw [List.length_map] at hl
  have e1 : xs = (xs.zip ps).map (·.1) := by rw [List.map_fst_zip (Nat.le_of_eq hl)]
  have e2 : ps = (xs.zip ps).map (·.2) := by rw [List.map_snd_zip (Nat.le_of_eq hl.symm)]
  have hz' : LdZs L0 K xs (ps.map pd) → True := fun _ => trivial
  refine Al.zs hz ?_
  refine e_sortK (β := V × (Str × V)) (xs := xs.zip ps) (val := (·.1)) (k := (·.2.1)) ?_ ?_ r'.there ?_
  · rw [← e1]; exact Ldg.tk r.there
  · refine ⟨fun H s y hy => ?_⟩
    obtain ⟨H1, h1, z⟩ := s.get
    have z1 := DpAll.ofmap (show DpAll K (tupH H1) xs (ps.map pd) from z) y hy
    obtain ⟨y1, y2, y3⟩ := y
    cases (show Dp K (tupH H1) y1 (.tuple [.str y2, dV y3]) from z1) with
    | tup w1 w2 =>
      cases w2 with | cons w3 w4 =>
      cases w3
      exact ⟨_, _, rfl, SqT.up1 (fun a o e => h1 _ _ (tupH_some e).1) w1⟩
  · intro p
    refine LsA.fold (K := K) (ds := (ps.mergeSort (keyLe (·.1))).map pd) .here ?_ ?_
    · refine ⟨fun H s => ?_⟩
      obtain ⟨H1, h1, z⟩ := s.drop.get
      have z : DpAll K (tupH H1) xs (ps.map pd) := z
      have z2 := DpAll.ofmap z
      have e3 : ps.mergeSort (keyLe (·.1)) = ((xs.zip ps).mergeSort (keyLe (·.2.1))).map (·.2) := by
        conv => lhs; rw [e2]
        exact (List.map_mergeSort (f := fun x : V × (Str × V) => x.2) (r := keyLe (·.2.1)) (s := keyLe (·.1)) fun a _ b _ => rfl).symm
      rw [e3, List.map_map]
      exact DpAll.up (tupH_up h1) _ _ (DpAll.tomap (f := pd) fun q hq => z2 q (List.mem_mergeSort.mp hq))
    · exact Al.ent (fun H s => (s.tail fun _ t => t.tail fun _ u => u.drop)) (kk p)
end
end AL

/-! SB: stores: ways, deeds on tables; plain Lean. -/
namespace AL
open PySem PySem.Spec PyProof.Rows L2
/-! ### what is told -/
def tell (td : List Nat) (t : Nat) : List Nat := if t ∈ td then td else td ++ [t]
theorem tell_mem {td : List Nat} {t : Nat} : t ∈ tell td t := by
  unfold tell; split
  · assumption
  · simp
theorem tell_keep {td : List Nat} {t j : Nat} (h : j ∈ td) : j ∈ tell td t := by
  unfold tell; split
  · exact h
  · exact List.mem_append_left _ h
theorem tell_len {td : List Nat} {t : Nat} : (tell td t).length ≤ td.length + 1 := by
  unfold tell; split
  · omega
  · rw [List.length_append]; exact Nat.le_refl _
theorem told_get {td : List Nat} {t : Nat} : valV (toldK td) (.inl (t : Int)) = if t ∈ td then some (.bl true) else none := by
  induction td with
  | nil => rfl
  | cons u td ih =>
    show valV (_ :: toldK td) _ = _
    by_cases e : u = t
    · subst e
      rw [valV_pos rfl, if_pos (List.mem_cons_self ..)]
    · rw [valV_neg (by intro q; exact e (by have := Sum.inl.inj q; omega)), ih]
      by_cases h : t ∈ td
      · rw [if_pos h, if_pos (List.mem_cons_of_mem _ h)]
      · rw [if_neg h, if_neg fun q => (List.mem_cons.mp q).elim (fun q => e q.symm) h]
theorem told_put {td : List Nat} {t : Nat} : putK (toldK td) (.inl (t : Int)) (.bl true) = toldK (tell td t) := by
  have a : ((toldK td).any fun kv => decide (kv.1 = (.inl (t : Int) : Key))) = decide (t ∈ td) := by
    rw [valV_any, told_get]
    by_cases h : t ∈ td
    · rw [if_pos h, decide_eq_true h]; rfl
    · rw [if_neg h, decide_eq_false h]; rfl
  unfold putK
  rw [a]
  unfold tell
  by_cases h : t ∈ td
  · rw [if_pos (decide_eq_true h), if_pos h]
    unfold toldK
    rw [List.map_map]
    refine List.map_congr_left fun x _ => ?_
    show (if _ then _ else _) = _
    split
    · rename_i e; rfl
    · rfl
  · rw [if_neg (by rw [decide_eq_false h]; decide), if_neg h]
    unfold toldK
    rw [List.map_append]; rfl
/-! ### ways -/
/-- the way from a node at a level for a mark -/
inductive Wy (ns : List Nd) (own : Int) : Nat → Nat → List Nat → Prop where
  | stop {l i : Nat} {x : Nd} : ns[i]? = some x → (∀ a b c d, x ≠ .fork a b c d) → Wy ns own l i [i]
  | step {l i a b c d : Nat} {w : List Nat} : ns[i]? = some (.fork a b c d) → Wy ns own (l + 1) (part4 a b c d (dgt own l)) w → Wy ns own l i (i :: w)
theorem Wy.app {ns xs : List Nd} {own : Int} {l i : Nat} {w : List Nat} (h : Wy ns own l i w) : Wy (ns ++ xs) own l i w := by
  induction h with
  | stop h k => exact .stop (get_app h) k
  | step h _ ih => exact .step (get_app h) ih
theorem Wy.fun {ns : List Nd} {own : Int} {l i : Nat} {w w' : List Nat} (h : Wy ns own l i w) (h' : Wy ns own l i w') : w = w' := by
  induction h generalizing w' with
  | stop h k =>
    cases h' with
    | stop => rfl
    | step h2 _ => rw [h] at h2; exact absurd (Option.some.inj h2) (k _ _ _ _)
  | step h _ ih =>
    cases h' with
    | stop h2 k => rw [h] at h2; exact absurd (Option.some.inj h2).symm (k _ _ _ _)
    | step h2 h3 =>
      rw [h] at h2
      obtain ⟨rfl, rfl, rfl, rfl⟩ : _ = _ ∧ _ = _ ∧ _ = _ ∧ _ = _ := by
        have e := Option.some.inj h2
        injection e with e1 e2 e3 e4
        exact ⟨e1, e2, e3, e4⟩
      rw [ih h3]
theorem Wy.last {ns : List Nd} {own : Int} {l i : Nat} {w : List Nat} (h : Wy ns own l i w) : ∃ w' k x, w = w' ++ [k] ∧ ns[k]? = some x ∧ (∀ a b c d, x ≠ .fork a b c d) ∧ (∀ j ∈ w', ∃ a b c d, ns[j]? = some (.fork a b c d)) := by
  induction h with
  | stop h k => exact ⟨[], _, _, rfl, h, k, fun j hj => by cases hj⟩
  | step h _ ih =>
    obtain ⟨w', k, x, rfl, h1, h2, h3⟩ := ih
    refine ⟨_ :: w', k, x, rfl, h1, h2, fun j hj => ?_⟩
    rcases List.mem_cons.mp hj with e | e
    · rw [e]; exact ⟨_, _, _, _, h⟩
    · exact h3 j e
section
variable {mk : Str → Int}
theorem wy_way {n : Str} : ∀ (r l : Nat) (ps : Prs) (ns : List Nd) (i : Nat), l + r = 5 → At mk l (mk n) ps → Rp ns i (cn mk r l ps) → Wy ns (mk n) l i (wayN r ns i (mk n) l) := by
  intro r
  induction r with
  | zero =>
    intro l ps ns i hl ha hi
    by_cases hne : ps = []
    · subst hne; rw [cn_nil] at hi
      cases hi with | bare hi => exact .stop hi fun a b c d z => (by cases z)
    · rcases ha.cases hl hne with ⟨m, hm, e⟩ | ⟨r', e, _⟩
      · rw [e] at hi
        cases hi with | leaf hi => exact .stop hi fun a b c d z => (by cases z)
      · cases e
  | succ r ih =>
    intro l ps ns i hl ha hi
    by_cases hne : ps = []
    · subst hne; rw [cn_nil] at hi
      cases hi with
      | bare hi =>
        have e : wayN (r + 1) ns 0 (mk n) l = [0] := by simp only [wayN, hi]
        rw [e]
        exact .stop hi fun a b c d z => (by cases z)
    · rcases ha.cases hl hne with ⟨m, hm, e⟩ | ⟨r', e, hm, hc⟩
      · rw [e] at hi
        cases hi with
        | leaf hi =>
          have e : wayN (r + 1) ns i (mk n) l = [i] := by simp only [wayN, hi]
          rw [e]
          exact .stop hi fun a b c d z => (by cases z)
      · cases e
        rw [hc] at hi
        obtain ⟨a, b, c, d, h1, h2⟩ := Rp.part (t := cnF mk r l ps) hi
        have e : wayN (r + 1) ns i (mk n) l = i :: wayN r ns (part4 a b c d (dgt (mk n) l)) (mk n) (l + 1) := by simp only [wayN, h1]
        rw [e]
        exact .step h1 (ih (l + 1) (sub mk l (dgt (mk n) l) ps) ns _ (by omega) (ha.sub _ rfl rfl) (h2 _ (dgt_lt (mk n) l)))
end
/-! ### tables -/
/-- number i is a told table with these pairs -/
structure Tbl (ns : List Nd) (td : List Nat) (i : Nat) (ps : Prs) : Prop where
  t : i ∈ td
  r : Rp ns i (cn mkS 5 0 ps)
  s : Srt ps
  n : ∀ p ∈ ps, Nm8 p.1
  v : ∀ p ∈ ps, Scl p.2
theorem Tbl.mk_at {ns : List Nd} {td : List Nat} {i : Nat} {ps : Prs} (h : Tbl ns td i ps) (m : Int) : At mkS 0 m ps :=
  ⟨h.s, fun q hq => mk_bound (h.n q hq).n (h.n q hq).b, fun q _ => by rw [Int.pow_zero, Int.emod_one, Int.emod_one]⟩
theorem Tbl.app {ns xs : List Nd} {td td' : List Nat} {i : Nat} {ps : Prs} (h : Tbl ns td i ps) (hi : ∀ j ∈ td, j ∈ td') : Tbl (ns ++ xs) td' i ps :=
  ⟨hi _ h.t, h.r.app, h.s, h.n, h.v⟩
theorem Tbl.lt {ns : List Nd} {td : List Nat} {i : Nat} {ps : Prs} (h : Tbl ns td i ps) : i < ns.length := h.r.lt
abbrev St2 := List Nd × List Nat
/-- put -/
def putS (s : St2) (i : Nat) (ps : Prs) (n : Str) (v : V) : St2 × Nat :=
  if fnd ps n = some v then (s, i) else (((putN 6 s.1 i (mkS n) n v 0).1, tell s.2 (putN 6 s.1 i (mkS n) n v 0).2), (putN 6 s.1 i (mkS n) n v 0).2)
def delS (s : St2) (i : Nat) (ps : Prs) (n : Str) : St2 × Nat :=
  if fnd ps n = none then (s, i) else (((delN 6 s.1 i (mkS n) n 0).1, tell s.2 (delN 6 s.1 i (mkS n) n 0).2), (delN 6 s.1 i (mkS n) n 0).2)
/-- a state after another -/
structure Aft (s s' : St2) : Prop where
  n : ∃ xs, s'.1 = s.1 ++ xs
  t : ∀ j ∈ s.2, j ∈ s'.2
  a : s'.1.length ≤ s.1.length + 7
  b : s'.2.length ≤ s.2.length + 1
theorem ins_same {ps : Prs} {n : Str} {v : V} (hs : Srt ps) (h : fnd ps n = some v) : ins ps n v = ps := by
  refine Srt.ext (hs.ins n v) hs fun x => ?_
  rw [mem_ins]
  constructor
  · rintro (rfl | q)
    · exact fnd_some h
    · exact q.1
  · intro q
    by_cases e : x.1 = n
    · exact .inl (hs.uniq q (fnd_some h) e)
    · exact .inr ⟨q, e⟩
theorem del_same {ps : Prs} {n : Str} (h : fnd ps n = none) : del ps n = ps := by
  unfold del
  rw [List.filter_eq_self]
  exact fun x hx => decide_eq_true (fnd_none h x hx)
theorem prtN_len : ∀ (f : Nat) (ns : List Nd) (old : Nat) (o : Int) (new : Nat) (own : Int) (l : Nat), (prtN f ns old o new own l).1.length ≤ ns.length + f
  | 0, ns, _, _, _, _, _ => Nat.le_refl _
  | f + 1, ns, old, o, new, own, l => by
    unfold prtN
    split
    · have := prtN_len f ns old o new own (l + 1)
      rw [List.length_append]
      show _ + 1 ≤ _
      omega
    · rw [List.length_append]
      show _ + 1 ≤ _
      omega
theorem putN_len : ∀ (f : Nat) (ns : List Nd) (i : Nat) (own : Int) (n : Str) (v : V) (l : Nat), (putN f ns i own n v l).1.length ≤ ns.length + f + 1
  | 0, ns, _, _, _, _, _ => by show ns.length ≤ _; omega
  | f + 1, ns, i, own, n, v, l => by
    unfold putN
    split
    · rename_i a b c d _
      have := putN_len f ns (part4 a b c d (dgt own l)) own n v (l + 1)
      rw [List.length_append]
      show _ + 1 ≤ _
      omega
    · split
      · rw [List.length_append]
        show _ + 1 ≤ _
        omega
      · refine Nat.le_trans (prtN_len ..) ?_
        rw [List.length_append]
        show _ + 1 + f ≤ _
        omega
    · rw [List.length_append]
      show _ + 1 ≤ _
      omega
theorem delN_len : ∀ (f : Nat) (ns : List Nd) (i : Nat) (own : Int) (n : Str) (l : Nat), (delN f ns i own n l).1.length ≤ ns.length + f
  | 0, ns, _, _, _, _ => Nat.le_refl _
  | f + 1, ns, i, own, n, l => by
    unfold delN
    split
    · rename_i a b c d _
      have := delN_len f ns (part4 a b c d (dgt own l)) own n (l + 1)
      dsimp only
      split
      · exact Nat.le_trans this (by omega)
      · rw [List.length_append]
        show _ + 1 ≤ _
        omega
    · split
      · exact Nat.le_add_right ..
      · rw [List.length_append]
        show _ + 1 ≤ _
        omega
    · exact Nat.le_add_right ..
theorem putS_ok {s : St2} {i : Nat} {ps : Prs} {n : Str} {v : V} (h : Tbl s.1 s.2 i ps) (h0 : s.1[0]? = some .bare) (hn : Nm8 n) (hv : Scl v) :
    Tbl (putS s i ps n v).1.1 (putS s i ps n v).1.2 (putS s i ps n v).2 (ins ps n v) ∧ Aft s (putS s i ps n v).1 := by
  unfold putS
  split
  · rename_i e
    rw [ins_same h.s e]
    exact ⟨h, ⟨[], by simp⟩, fun j hj => hj, by show s.1.length ≤ _; omega, by show s.2.length ≤ _; omega⟩
  · obtain ⟨xs, x1, x2⟩ := put_ok (mk := mkS) (n := n) (v := v) (mk_bound hn.n hn.b) 5 0 ps s.1 i rfl (h.mk_at _) h0 h.r
    refine ⟨⟨tell_mem, ?_, h.s.ins n v, fun p hp => ?_, fun p hp => ?_⟩, ⟨xs, x1⟩, fun j hj => tell_keep hj, ?_, tell_len⟩
    · show Rp (putN 6 s.1 i (mkS n) n v 0).1 _ _
      rw [x1]; exact x2
    · rcases mem_ins.mp hp with rfl | q
      · exact hn
      · exact h.n p q.1
    · rcases mem_ins.mp hp with rfl | q
      · exact hv
      · exact h.v p q.1
    · exact putN_len 6 ..
theorem delS_ok {s : St2} {i : Nat} {ps : Prs} {n : Str} (h : Tbl s.1 s.2 i ps) (h0 : s.1[0]? = some .bare) :
    Tbl (delS s i ps n).1.1 (delS s i ps n).1.2 (delS s i ps n).2 (del ps n) ∧ Aft s (delS s i ps n).1 := by
  unfold delS
  split
  · rename_i e
    rw [del_same e]
    exact ⟨h, ⟨[], by simp⟩, fun j hj => hj, by show s.1.length ≤ _; omega, by show s.2.length ≤ _; omega⟩
  · rename_i e
    obtain ⟨v, hv⟩ : ∃ v, fnd ps n = some v := by
      cases q : fnd ps n with
      | none => exact absurd q e
      | some v => exact ⟨v, rfl⟩
    obtain ⟨xs, x1, x2⟩ := del_ok (mk := mkS) (n := n) (v := v) 5 0 ps s.1 i rfl (h.mk_at _) (fnd_some hv) h0 h.r
    refine ⟨⟨tell_mem, ?_, h.s.del n, fun p hp => h.n p (mem_del.mp hp).1, fun p hp => h.v p (mem_del.mp hp).1⟩, ⟨xs, x1⟩, fun j hj => tell_keep hj, ?_, tell_len⟩
    · show Rp (delN 6 s.1 i (mkS n) n 0).1 _ _
      rw [x1]; exact x2
    · exact Nat.le_trans (delN_len 6 ..) (by omega)
theorem Aft.app {s s' : St2} (a : Aft s s') {i : Nat} {ps : Prs} (h : Tbl s.1 s.2 i ps) : Tbl s'.1 s'.2 i ps := by
  obtain ⟨xs, e⟩ := a.n
  rw [e]
  exact h.app a.t
theorem Aft.zero {s s' : St2} (a : Aft s s') (h0 : s.1[0]? = some .bare) : s'.1[0]? = some .bare := by
  obtain ⟨xs, e⟩ := a.n
  rw [e]
  exact get_app h0
theorem at_part {a b c d : Nat} {own : Int} {l : Nat} : atI [V.int a, V.int b, V.int c, V.int d] (own / 4 ^ l % 4) = some (V.int (part4 a b c d (dgt own l) : Nat)) := by
  rw [← dgt_cast]
  have h := dgt_lt own l
  generalize dgt own l = k at h
  rcases lt4 h with rfl | rfl | rfl | rfl
  · exact at0
  · exact at1
  · exact at2
  · exact at3
theorem set4 {a b c d x k : Nat} (hk : k < 4) : ∃ a' b' c' d', fork4 a b c d k x = .fork a' b' c' d' ∧ ([V.int a, V.int b, V.int c, V.int d] : List V).set k (.int x) = [V.int a', V.int b', V.int c', V.int d'] := by
  rcases lt4 hk with rfl | rfl | rfl | rfl
  · exact ⟨x, b, c, d, rfl, rfl⟩
  · exact ⟨a, x, c, d, rfl, rfl⟩
  · exact ⟨a, b, x, d, rfl, rfl⟩
  · exact ⟨a, b, c, x, rfl, rfl⟩
theorem atI_last {xs : List V} {x : V} : atI (xs ++ [x]) (-1) = some x := by
  unfold atI ixN
  rw [List.length_append, List.length_singleton]
  simp
  rw [if_pos (by omega), Option.bind_some, show (-1 + ((xs.length : Int) + 1)).toNat = xs.length by omega, List.getElem?_append_right (Nat.le_refl _), Nat.sub_self]
  rfl
theorem tr_pos (t : Tr) : 1 ≤ t.size := by
  cases t
  · exact Nat.le_refl _
  · exact Nat.le_refl _
  · unfold Tr.size; omega
theorem tr_one {i : Nat} {t : Tr} : ([(i, t)] : List (Nat × Tr)).length ≤ (([(i, t)] : List (Nat × Tr)).map fun q => q.2.size).sum := by
  show 1 ≤ t.size + 0
  exact tr_pos t
theorem told_in {td : List Nat} {t : Nat} (h : t ∈ td) : (valV (toldK td) (.inl (t : Int))).isSome = true := by rw [told_get, if_pos h]; rfl
theorem told_zero : mergeK [] [((.inl (0 : Int) : Key), V.bl true)] = toldK [0] := rfl
end AL

/-! RX2: a list extended by a tuple. -/
namespace AL
open PySem PySem.Spec PyProof.Rows L2 PySem.AutoSeq1
def rExtT (K : PySem.W.Frag) : V → List V → Hp → VK → Prop := fun x vs H Q => rExtend x vs H Q ∨ ∃ l b xs zs, x = .ref l ∧ vs = [.ref b] ∧ H l = some (.lst xs) ∧ SqT K H b zs ∧ xs.length + zs.length ≤ sizeLine ∧ Q .non (upd H l (.lst (xs ++ zs)))
theorem ext_tup (l : Addr) (items : Array Value) (n : Nat) (b : Addr) (items2 : Array Value) (n2 : Nat) (dc : Option Addr) (sl : Array (Option Value)) (hs0 : ¬(!items.isEmpty && Builtin.List.listTooLong (items.size + items2.size)) = true) (hs1 : items.size ≤ sizeLine) (hs2 : items.size + items2.size ≤ sizeLine + 1) :
    Meets (Builtin.«list.extend» ⟨[.ref l, .ref b], []⟩) (fun _ R s => s.heap.get? l = some { cls := .type "list", dict := none, data := .seq items n, slots := #[] } ∧ s.heap.get? b = some { cls := .type "tuple", dict := dc, data := .seq items2 n2, slots := sl } ∧ R (.ok (.ret Value.none)) { s with heap := s.heap.update l (Obj.mapSeq fun x => x ++ items2), toks := s.toks }) :=
  .of_wp fun prog w A R s h => by
    obtain ⟨hp, g, d, tk, os⟩ := s; obtain ⟨hl, hb, h⟩ := h; have f1 := AutoSeq1.idx_int; have f2 := AutoSeq1.sub_tuple_tuple; have f3 := AutoSeq1.sub_list_list; have f4 := AutoSeq1.sub_tuple_list; have f5 := AutoSeq1.sub_list_tuple
    have hz' : (items ++ items2).size ≤ sizeLine + 1 := by rw [Array.size_append]; exact hs2
    wp_walk using (wpAny_updateSeq hl rfl (hz := hs1) (_hz' := hz')), wpAny_loadPart' hl, wpAny_loadPart' hb
    exact ⟨_, rfl, h⟩
theorem mt_extendT {X : Cx} {K : PySem.W.Frag} (hk : X.K = K) : MtM X "list.extend" (rExtT K) := by
  subst hk
  intro pins s σ H x vs v us Q I rx rv h
  rcases h with h | ⟨l, b, xs, zs, rfl, rfl, hH, hB, hz, q⟩
  · exact mt_extend pins s σ H x vs v us Q I rx rv h
  cases rx
  obtain ⟨u, rfl, ru⟩ := rv.one
  cases ru
  obtain ⟨z, its, n, r, hl, e⟩ := I.lstM hH
  obtain ⟨its2, r2, e2, hz2⟩ := I.tuple hB
  have hl2 := r2.length
  have hsz : its.toArray.size + its2.toArray.size ≤ sizeLine := by rw [List.size_toArray, List.size_toArray]; omega
  have hlong : ¬ (!its.toArray.isEmpty && Builtin.List.listTooLong (its.toArray.size + its2.toArray.size)) = true := by
    rw [notLongL hsz, Bool.and_false]
    exact Bool.false_ne_true
  obtain ⟨⟨oc, od, odt, osl⟩, e2, rfl, n2, rfl⟩ := e2
  refine call_meets F.slot_list_extend ⟨_, e, rfl⟩ F.entry_list_extend (F.args_list_extend_2 _ _)
    (ext_tup l its.toArray n b its2.toArray n2 od osl hlong (by rw [List.size_toArray]; omega) (by omega)) ⟨e, e2, ?_⟩
  refine ⟨.non, _, I.lset (its' := its ++ its2) hH e (by simp) (r.append r2) ?_, rfl, q⟩
  rw [List.length_append]
  omega
section
variable {L L0 L1 : List Asn} {Q : VK} {K : PySem.W.Frag} {a p : Addr} {xs ys : List V}
theorem e_extendL (r : Tk L (pt a (.lst xs)) L0) (r' : Tk L0 (pt p (.lst ys)) L1) (hz : xs.length + ys.length ≤ sizeLine) (k : Al (pt a (.lst (xs ++ ys)) :: L0) (Q .non)) : Al L (xM (rExtT K) (.ref a) [.ref p] Q) := fun H s => .inl (e_extend r r' hz k H s)
theorem e_extendT (r : Tk L (pt a (.lst xs)) L0) (h : LdgT L K p ys) (hz : xs.length + ys.length ≤ sizeLine) (k : Al (pt a (.lst (xs ++ ys)) :: L0) (Q .non)) : Al L (xM (rExtT K) (.ref a) [.ref p] Q) := fun H s =>
  .inr ⟨a, p, xs, ys, rfl, rfl, r.pat s, h.q H s, hz, k _ ((r.ok _ s).set _ id)⟩
end
end AL

/-! EN7: dicts written out. -/
namespace AL
open PySem PySem.Spec PyProof.Rows L2
section
variable {L L0 : List Asn} {σ : L2.St} {Q : VK} {p : Addr} {tk tv : TE} {trs : List (TE × TE)} {x y : V} {N : List (V × V) → Hp → Prop}
def xPr (trs : List (TE × TE)) (σ : L2.St) (N : List (V × V) → Hp → Prop) : Hp → Prop := fun H => tPairs trs σ H N
def kPr1 (tv : TE) (trs : List (TE × TE)) (σ : L2.St) (N : List (V × V) → Hp → Prop) : VK := fun x H => tv σ H fun y H2 => tPairs trs σ H2 fun ps H3 => N ((x, y) :: ps) H3
def kPr2 (x : V) (trs : List (TE × TE)) (σ : L2.St) (N : List (V × V) → Hp → Prop) : VK := fun y H2 => tPairs trs σ H2 fun ps H3 => N ((x, y) :: ps) H3
def kDisp (p : Addr) (Q : VK) : List (V × V) → Hp → Prop := fun ps H2 => H2 p = some (.dK []) ∧ ∃ kvs : List (Key × V), ps = kvs.map (fun kv => (kV kv.1, kv.2)) ∧ kvs.length ≤ 15 ∧ Q (.ref p) (upd H2 p (.dK (mergeK [] kvs)))
theorem n_pr0 : xPr [] σ N = N [] := rfl
theorem n_pr1 : xPr ((tk, tv) :: trs) σ N = xE tk σ (kPr1 tv trs σ N) := rfl
theorem n_pr2 : kPr1 tv trs σ N x = xE tv σ (kPr2 x trs σ N) := rfl
theorem n_pr3 : kPr2 x trs σ N y = xPr trs σ (fun ps => N ((x, y) :: ps)) := rfl
theorem e_disp (k : ∀ p, Al (pt p (.dK []) :: L) (xPr trs σ (kDisp p Q))) : Al L (xE (tDisp trs) σ Q) := fun H s p hp => k p _ (s.new hp)
theorem e_dispE {ps : List (V × V)} (kvs : List (Key × V)) (r : Tk L (pt p (.dK [])) L0) (e : ps = kvs.map (fun kv => (kV kv.1, kv.2))) (hl : kvs.length ≤ 15) (k : Al (pt p (.dK (mergeK [] kvs)) :: L0) (Q (.ref p))) : Al L (kDisp p Q ps) := fun H s =>
  ⟨r.pat s, kvs, e, hl, k _ ((r.ok _ s).set _ id)⟩
theorem e_popA {a : Addr} {ys : List V} (r : Tk L (pt a (.lst (ys ++ [y]))) L0) (k : Al (pt a (.lst ys) :: L0) (Q y)) : Al L (xM rPop (.ref a) [] Q) :=
  e_pop r (by rw [List.length_append, List.length_singleton, Nat.add_sub_cancel, List.getElem?_append_right (Nat.le_refl _), Nat.sub_self]; rfl) (by rw [List.dropLast_concat]; exact k)
end
end AL

/-! RX3: sorted(d.items()) of a dict by texts, with values of any plain kind. -/
namespace AL
open PySem PySem.Spec PyProof.Rows L2 PySem.W
/-! ### rows sort by their texts -/
def rowKind (h : Heap) (as : List Addr) : PyProof.Rows.KeyKind where
  toKeyOrd := strKind.toKeyOrd
  keyOf v := match v with
    | .ref a => if a ∈ as then some (DT.txOf (DT.seqAt0 h a)).cps.toList else none
    | _ => none
  dflt := ([] : List Nat)
section
variable {prog : Program} {w : World} {A : Around} {s : Shared} {as : List Addr} {ks : List (Str × Value)}
structure RowsAt (h : Heap) (as : List Addr) (ks : List (Str × Value)) : Prop where
  l : as.length = ks.length
  r : ∀ (j : Nat) (a : Addr) (q : Str × Value), as[j]? = some a → ks[j]? = some q → ∃ t, IsTup h a #[.str q.1 t, q.2]
  n : (ks.map (·.1)).Nodup
  s : ∀ q ∈ ks, (∃ (i : Int) (t : Tok), q.2 = .int i t) ∨ ∃ (x : Str) (t : Tok), q.2 = .str x t
theorem RowsAt.key {h : Heap} (R : RowsAt h as ks) {j : Nat} {a : Addr} {q : Str × Value} (e : as[j]? = some a) (f : ks[j]? = some q) : (rowKind h as).keyOf (.ref a) = some q.1.cps.toList := by
  obtain ⟨t, z⟩ := R.r j a q e f
  show (if a ∈ as then some (DT.txOf (DT.seqAt0 h a)).cps.toList else none) = _
  rw [if_pos (List.mem_of_getElem? e), DT.seqAt0_of z]
  rfl
theorem RowsAt.inv {h : Heap} (R : RowsAt h as ks) {v : Value} {k : List Nat} (e : (rowKind h as).keyOf v = some k) : ∃ (j : Nat) (a : Addr) (q : Str × Value), v = .ref a ∧ as[j]? = some a ∧ ks[j]? = some q ∧ k = q.1.cps.toList := by
  cases v with
  | ref a =>
    by_cases m : a ∈ as
    · obtain ⟨j, hj⟩ := List.mem_iff_getElem?.mp m
      have hlt := (List.getElem?_eq_some_iff.mp hj).1
      obtain ⟨q, hq⟩ : ∃ q, ks[j]? = some q := ⟨_, List.getElem?_eq_getElem (by rw [← R.l]; exact hlt)⟩
      refine ⟨j, a, q, rfl, hj, hq, ?_⟩
      rw [R.key hj hq] at e
      exact (Option.some.inj e).symm
    · have e' : (if a ∈ as then some (DT.txOf (DT.seqAt0 h a)).cps.toList else none) = some k := e
      rw [if_neg m] at e'
      cases e'
  | _ => cases e
theorem RowsAt.kat {h : Heap} : ∀ {as : List Addr} {ks : List (Str × Value)}, as.length = ks.length → (∀ (j : Nat) (a : Addr) (q : Str × Value), as[j]? = some a → ks[j]? = some q → ∃ t, IsTup h a #[.str q.1 t, q.2]) →
    ∃ fs : List Value, KatTups h (as.map Value.ref) fs ∧ fs.length = as.length ∧ ∀ f ∈ fs, ∃ x t, f = .str x t
  | [], [], _, _ => ⟨[], KatTups.nil, rfl, fun f hf => by cases hf⟩
  | a :: as, q :: ks, hl, hr => by
    obtain ⟨fs, k, l, i⟩ := RowsAt.kat (h := h) (as := as) (ks := ks) (by simpa using hl) fun j b p e f => hr (j + 1) b p (by simpa using e) (by simpa using f)
    obtain ⟨t, o, ho, hc, n, hd⟩ := hr 0 a q rfl rfl
    refine ⟨.str q.1 t :: fs, KatTups.cons ho hc hd rfl k, by rw [List.length_cons, List.length_cons, l], fun f hf => ?_⟩
    rcases List.mem_cons.mp hf with rfl | hf
    · exact ⟨_, _, rfl⟩
    · exact i f hf
theorem RowsAt.sorts (R : RowsAt s.heap as ks) : SortsAt prog w A s (rowKind s.heap as) (as.map Value.ref) := by
  refine ⟨fun v hv => ?_, tuples' (Value.type "str" != Value.type "tuple"), ?_, fun h2 E Q hq => ?_⟩
  · obtain ⟨a, ha, rfl⟩ := List.mem_map.mp hv
    obtain ⟨j, hj⟩ := List.mem_iff_getElem?.mp ha
    have hlt := (List.getElem?_eq_some_iff.mp hj).1
    exact ⟨_, R.key hj (List.getElem?_eq_getElem (by rw [← R.l]; exact hlt))⟩
  · intro E x y kx ky Q hx hy hQ
    obtain ⟨j, a, q, rfl, ja, jq, rfl⟩ := R.inv hx
    obtain ⟨i, b, p, rfl, ib, ip, rfl⟩ := R.inv hy
    obtain ⟨t, o, ho, hc, n, hd⟩ := R.r j a q ja jq
    obtain ⟨u, o', ho', hc', n', hd'⟩ := R.r i b p ib ip
    have hQ' : Q (decide (q.1.cps.toList < p.1.cps.toList)) s := hQ
    refine kat_lt ho hd ho' hd' ?_
    show KatLex prog w A _ false Q [(Value.str q.1 t, Value.str p.1 u), (q.2, p.2)] 0 s
    refine kat_cons (wpAny_eqBool_str (kat_go (fun e0 => ?_) fun e0 => kat_no (oneLt_any_str hQ')))
    have e1 : q.1 = p.1 := of_decide_eq_true e0
    have hj := (List.getElem?_eq_some_iff.mp jq)
    have hi := (List.getElem?_eq_some_iff.mp ip)
    have eij : j = i := by
      refine (List.getElem?_inj (by rw [List.length_map]; exact hj.1) R.n).mp ?_
      rw [List.getElem?_map, List.getElem?_map, jq, ip]
      show some q.1 = some p.1
      rw [e1]
    subst eij
    have eqp : q = p := Option.some.inj (jq.symm.trans ip)
    subst eqp
    have hF : Q false s := by
      rw [decide_eq_false (List.lt_irrefl _)] at hQ'
      exact hQ'
    refine kat_yes ?_
    rcases R.s q (List.mem_of_getElem? jq) with ⟨z, t', e⟩ | ⟨z, t', e⟩ <;> rw [e]
    · exact kat_cons (wpAny_eqBool_int (kat_go (fun _ => kat_yes (kat_nil hF)) fun e2 => absurd e2 (by simp)))
    · exact kat_cons (wpAny_eqBool_str (kat_go (fun _ => kat_yes (kat_nil hF)) fun e2 => absurd e2 (by simp)))
  · obtain ⟨fs, k, l, i⟩ := RowsAt.kat R.l R.r
    refine kat_kind (T := Value.type "str") k (by rw [List.length_map] at h2; omega) (fun f hf => ?_) (beq_self_eq_true _) hq
    obtain ⟨x, t, rfl⟩ := i f hf
    exact Looks.of_pure rfl
end
/-! ### the readings -/
def rItemsK : V → List V → Hp → VK → Prop := fun x xs H Q => ∃ (a : Addr) (kvs : List (Key × V)), x = .ref a ∧ xs = [] ∧ H a = some (.dK kvs) ∧ ∀ p, H p = none → Q (.ref p) (upd H p (L2.DX.itemsO p a))
theorem mt_itemsK {X : Cx} : MtR X "dict.items" rItemsK := by
  intro pins s σ H x xs v us Q I rx rxs h
  obtain ⟨a, kvs, rfl, rfl, ha, q⟩ := h
  cases rx
  cases rxs
  obtain ⟨z, hd, xs', rel, o, es, ep, ho, hx, hdat, _⟩ := dk_of I.hok ha
  refine DT.callItems (es := es) (ep := ep) hd ⟨o, ho, hx, hdat⟩ ?_
  have hf : H s.heap.objs.size = none := I.hok.fresh (Nat.le_refl _)
  exact ⟨.ref s.heap.objs.size, upd H s.heap.objs.size (L2.DX.itemsO s.heap.objs.size a), I.laid (t' := s.toks) (fun b u e => Heap.get?_push_of_some _ e) (Nat.le_refl _) (L2.DX.itemsO_ok (Heap.get?_push_size _ rfl)), rfl, q _ hf⟩
/-- ints and texts -/
def IS (v : V) : Prop := (∃ i, v = .int i) ∨ ∃ z, v = .str z
abbrev heldK (ks : Prs) : List (Key × V) := ks.map fun q => ((.inr q.1 : Key), q.2)
def rSortI : List V → Hp → VK → Prop := fun vs H Q => ∃ (p a : Addr) (ks : Prs), vs = [.ref p] ∧ H p = some (L2.DX.itemsO p a) ∧ H a = some (.dK (heldK ks)) ∧ (∀ q ∈ ks, IS q.2) ∧
  ∀ (H' : Hp) (l : Addr) (as : List Addr), (∀ b o, H b = some o → H' b = some o) → H l = none → H' l = some (.lst (as.map V.ref)) → as.length = ks.length →
    (∀ (j : Nat) (a : Addr) (q : Str × V), as[j]? = some a → (ks.mergeSort (keyLe (·.1)))[j]? = some q → H' a = some (.tup [.str q.1, q.2])) → Q (.ref l) H'
theorem pairs_get {prog : Program} {w : World} {es : List DictEntry} {kvs : List (Key × Value)} (h : Pairs (mixKind prog w) es kvs) : ∀ {j : Nat} {e : DictEntry}, es[j]? = some e → ∃ kv, kvs[j]? = some kv ∧ keyIs kv.1 e.key = true ∧ e.val = kv.2 := by
  induction h with
  | nil => intro j e h; simp at h
  | cons h1 h2 _ ih =>
    intro j e h
    cases j with
    | zero => cases h; exact ⟨_, rfl, h1, h2⟩
    | succ j => obtain ⟨kv, a, b⟩ := ih (j := j) (by simpa using h); exact ⟨kv, by simpa using a, b⟩
theorem pairs_len {prog : Program} {w : World} {es : List DictEntry} {kvs : List (Key × Value)} (h : Pairs (mixKind prog w) es kvs) : es.length = kvs.length := by
  induction h with
  | nil => rfl
  | cons _ _ _ ih => rw [List.length_cons, List.length_cons, ih]
theorem each_refs {as : List Addr} {ks : Prs} {vs : List Value} {qs : Prs} (h : EachIs (fun v q => ∃ (j : Nat) (b : Addr), v = .ref b ∧ as[j]? = some b ∧ ks[j]? = some q) vs qs) :
    ∃ bs : List Addr, vs = bs.map Value.ref ∧ bs.length = qs.length ∧ ∀ (j : Nat) (b : Addr) (q : Str × V), bs[j]? = some b → qs[j]? = some q → ∃ i : Nat, as[i]? = some b ∧ ks[i]? = some q := by
  induction h with
  | nil => exact ⟨[], rfl, rfl, fun j b q e => by simp at e⟩
  | cons h1 _ ih =>
    obtain ⟨bs, rfl, l, k⟩ := ih
    obtain ⟨j, b, rfl, e1, e2⟩ := h1
    refine ⟨b :: bs, rfl, by rw [List.length_cons, List.length_cons, l], fun i c q e f => ?_⟩
    cases i with
    | zero => cases e; cases f; exact ⟨j, e1, e2⟩
    | succ i => exact k i c q (by simpa using e) (by simpa using f)
theorem sortLe_key : (sortLe strKind.toKeyOrd false fun b : Str × V => b.1.cps.toList) = keyLe (·.1) := by
  funext x y
  rw [keyLe_eq]
  rfl
theorem kv_keys : ∀ {l₁ : List (Key × V)} {l₂ : List (Key × Value)}, KV l₁ l₂ → l₂.map (·.1) = l₁.map (·.1)
  | _, _, Paired.nil => rfl
  | _, _, Paired.cons h t => by rw [List.map_cons, List.map_cons, kv_keys t, h.1]
def keyStr : Key → Str
  | .inr z => z
  | .inl _ => ⟨#[]⟩
theorem cr_sortI {X : Cx} (hc : X.calm = true) : CallR X (.builtin "sorted") rSortI := by
  intro pins s σ H xs us Q I r h
  obtain ⟨p, a, ks, rfl, hp, ha, hS, q⟩ := h
  obtain rfl := Vals.ref1 r
  have view : s.heap.IsItemsView p a := (show ObjOk X.prog X.w H s.heap p (L2.DX.itemsO p a) from I.hok p _ hp).1
  obtain ⟨z, hd, kvsV, rel, o, es, ep, ho, hx, hdat, hkeys, hpairs, nd⟩ := dk_of I.hok ha
  have l1 : (heldK ks).length = kvsV.length := Paired.length rel
  rw [List.length_map] at l1 z
  have l2 : es.size = kvsV.length := by rw [← pairs_len hpairs, Array.length_toList]
  have hh : X.A.handled = none := I.ok.hd hc
  refine DT.sortedI (es := es) (ep := ep) hh view ⟨o, ho, hx, hdat⟩ (by omega) fun h' tk as hk hlt hl hG => ?_
  have lak : as.length = ks.length := by omega
  have nda : as.Nodup := List.Pairwise.imp (fun h => Nat.ne_of_lt h) hG.rise
  -- what stands at an address made
  have pr : ∀ (j : Nat) (b : Addr), as[j]? = some b → ∃ (e : Str × V) (t : Tok) (u : Value), ks[j]? = some e ∧ kvsV[j]? = some (.inr e.1, u) ∧ RelV e.2 u ∧ h'.get? b = some { cls := .type "tuple", data := .seq #[Value.str e.1 t, u] } := by
    intro j b hj
    obtain ⟨en, he, hg⟩ := hG.pairs j b hj
    obtain ⟨kv, k1, k2, k3⟩ := pairs_get hpairs (j := j) (e := en) (by rw [Array.getElem?_toList]; exact he)
    obtain ⟨y, y1, y2, y3⟩ := L2.DX.pget rel k1
    rw [List.getElem?_map] at y1
    obtain ⟨e, e1, e2⟩ := Option.map_eq_some_iff.mp y1
    subst e2
    obtain ⟨k, u⟩ := kv
    have y2 : (Sum.inr e.1 : Key) = k := y2
    subst y2
    rcases keyIs_shape k2 with ⟨i, t, c, _⟩ | ⟨x, t, c, ek⟩
    · cases c
    · cases c
      refine ⟨e, t, u, e1, k1, y3, ?_⟩
      rw [hg, ek, k3]
  have hob : (h'.push { cls := .type "list", data := .seq (as.map Value.ref).toArray }).get? h'.objs.size = some (seqObj "list" (as.map Value.ref).toArray 0) := Heap.get?_push_size _ rfl
  have kb : ∀ b o, s.heap.get? b = some o → (h'.push { cls := .type "list", data := .seq (as.map Value.ref).toArray }).get? b = some o := fun b o e => Heap.get?_push_of_some _ (hk b o e)
  have ne0 : ∀ b o, h'.get? b = some o → b ≠ h'.objs.size := fun b o e => Nat.ne_of_lt (Heap.lt_size e)
  generalize hh2 : h'.push { cls := .type "list", data := .seq (as.map Value.ref).toArray } = h2 at hob kb ⊢
  have ka : ∀ b o, h'.get? b = some o → h2.get? b = some o := fun b o e => by rw [← hh2]; exact Heap.get?_push_of_some _ e
  -- the rows in the heap of the sort
  have R : RowsAt (sortingHeap h2 h'.objs.size (as.map Value.ref)) as (kvsV.map fun kv => (keyStr kv.1, kv.2)) := by
    refine ⟨by rw [List.length_map]; omega, fun j b e f g => ?_, ?_, fun e he => ?_⟩
    · obtain ⟨e', t, u, e1, e2, e3, e4⟩ := pr j b f
      rw [List.getElem?_map, e2] at g
      cases g
      exact ⟨t, _, sortingHeap_old (ne0 _ _ e4) (ka _ _ e4), rfl, 0, rfl⟩
    · rw [List.map_map]
      have e0 : (kvsV.map ((fun x => x.1) ∘ fun kv => (keyStr kv.1, kv.2))) = (kvsV.map (·.1)).map keyStr := by rw [List.map_map]; rfl
      rw [e0]
      have e1 : kvsV.map (·.1) = (heldK ks).map (·.1) := kv_keys rel
      rw [e1] at nd ⊢
      rw [List.map_map] at nd ⊢
      rw [List.map_map]
      refine List.Pairwise.imp ?_ (List.pairwise_map.mp (nd : List.Pairwise _ _)) |> List.pairwise_map.mpr
      intro x y hxy exy
      exact hxy (congrArg Sum.inr exy)
    · obtain ⟨kv, hkv, rfl⟩ := List.mem_map.mp he
      obtain ⟨j, hj⟩ := List.mem_iff_getElem?.mp hkv
      obtain ⟨y, y1, y2, y3⟩ := L2.DX.pget rel hj
      rw [List.getElem?_map] at y1
      obtain ⟨e, e1, e2⟩ := Option.map_eq_some_iff.mp y1
      subst e2
      have y3 : RelV e.2 kv.2 := y3
      rcases hS e (List.mem_of_getElem? e1) with ⟨i, ei⟩ | ⟨x, ei⟩
      · rw [ei] at y3
        obtain ⟨t, et⟩ := y3
        exact .inl ⟨i, t, et⟩
      · rw [ei] at y3
        obtain ⟨t, et⟩ := y3
        exact .inr ⟨x, t, et⟩
  refine wpAny_call_entry PyProof.Rows.slot_list_sort ⟨_, hob, rfl⟩ PyProof.Rows.entry_list_sort
    (list_sort_vals (s := { s with heap := h2, toks := tk }) (κ := rowKind (sortingHeap h2 h'.objs.size (as.map Value.ref)) as) hob (RowsAt.sorts (s := { s with heap := sortingHeap h2 h'.objs.size (as.map Value.ref), toks := tk }) R) (by rw [List.length_map]; omega) ⟨.none, rfl, ?_⟩) (PyProof.Rows.args_list_sort _)
  have ehk : EachIs (fun v (b : Str × V) => (rowKind (sortingHeap h2 h'.objs.size (as.map Value.ref)) as).keyOf v = some b.1.cps.toList) (as.map Value.ref) ks := by
    refine EachIs.of_zip (by rw [List.length_map]; exact lak) fun x hx => ?_
    obtain ⟨j, hj⟩ := List.mem_iff_getElem?.mp hx
    obtain ⟨j1, j2⟩ := List.getElem?_zip_eq_some.mp hj
    rw [List.getElem?_map] at j1
    obtain ⟨b, jb, e⟩ := Option.map_eq_some_iff.mp j1
    obtain ⟨e', t, u, e1, e2, e3, e4⟩ := pr j b jb
    have ee : e' = x.2 := Option.some.inj (e1.symm.trans j2)
    rw [← e, ← ee]
    exact R.key (q := (e'.1, u)) jb (by rw [List.getElem?_map, e2]; rfl)
  have ehr : EachIs (fun v (q : Str × V) => ∃ (j : Nat) (b : Addr), v = .ref b ∧ as[j]? = some b ∧ ks[j]? = some q) (as.map Value.ref) ks := by
    refine EachIs.of_zip (by rw [List.length_map]; exact lak) fun x hx => ?_
    obtain ⟨j, hj⟩ := List.mem_iff_getElem?.mp hx
    obtain ⟨j1, j2⟩ := List.getElem?_zip_eq_some.mp hj
    rw [List.getElem?_map] at j1
    obtain ⟨b, jb, e⟩ := Option.map_eq_some_iff.mp j1
    exact ⟨j, b, e.symm, jb, j2⟩
  have eo := sortVals_each (κ := rowKind (sortingHeap h2 h'.objs.size (as.map Value.ref)) as) (rev := false) (fun b : Str × V => b.1.cps.toList) ehr ehk
  have eo2 : (ks.mergeSort (sortLe (rowKind (sortingHeap h2 h'.objs.size (as.map Value.ref)) as).toKeyOrd false fun b : Str × V => b.1.cps.toList)) = ks.mergeSort (keyLe (·.1)) := congrArg (ks.mergeSort ·) sortLe_key
  rw [eo2] at eo
  obtain ⟨bs, eb, lb, kbs⟩ := each_refs eo
  rw [eb]
  -- behind the sort
  have kF : ∀ b o, b ≠ h'.objs.size → h2.get? b = some o → (sortedHeap h2 h'.objs.size (as.map Value.ref) (bs.map Value.ref).toArray).get? b = some o := fun b o hb e => (PyProof.Rows.sortedHeap_old hb (Heap.lt_size e)).trans e
  have kS : ∀ b o, s.heap.get? b = some o → (sortedHeap h2 h'.objs.size (as.map Value.ref) (bs.map Value.ref).toArray).get? b = some o := fun b o e => kF b o (ne0 _ _ (hk b o e)) (kb b o e)
  obtain ⟨eF, heF⟩ := PyProof.Rows.sortedHeap_at (vs := as.map Value.ref) (out := (bs.map Value.ref).toArray) hob
  have I1 : Inv X pins σ H { s with heap := sortedHeap h2 h'.objs.size (as.map Value.ref) (bs.map Value.ref).toArray, toks := tk } := I.kept (t' := tk) kS
  have hn0 : H h'.objs.size = none := I.hok.fresh (Nat.le_of_lt hlt)
  rw [List.length_mergeSort] at lb
  have hlen : (bs.map V.ref).length ≤ sizeLine := by rw [List.length_map]; omega
  have rv : Vals (bs.map V.ref) ((bs.map Value.ref).toArray).toList := vals_maps V.ref Value.ref bs fun _ _ => rfl
  have I2 : Inv X pins σ (upd H h'.objs.size (.lst (bs.map V.ref))) { s with heap := sortedHeap h2 h'.objs.size (as.map Value.ref) (bs.map Value.ref).toArray, toks := tk } :=
    I1.take (h' := sortedHeap h2 h'.objs.size (as.map Value.ref) (bs.map Value.ref).toArray) (t' := tk) (fun b ob _ e => e) (I.fpOk (Nat.le_of_lt hlt) hn0) ⟨hlen, _, eF, rv, heF⟩
  obtain ⟨H2, I3, g, qt⟩ := L2.DX.takeT (P := fun b vs => ∃ (j : Nat) (e : Str × V), as[j]? = some b ∧ ks[j]? = some e ∧ vs = [.str e.1, e.2]) I as _ I2 nda fun b hb => by
    obtain ⟨j, hj⟩ := List.mem_iff_getElem?.mp hb
    obtain ⟨e, t, u, e1, e2, e3, e4⟩ := pr j b hj
    have hbl : s.heap.objs.size ≤ b := Nat.le_of_lt (hG.above b hb)
    refine ⟨hbl, ?_, [.str e.1, e.2], ⟨j, e, hj, e1, rfl⟩, fun H3 => ⟨(by rw [sizeLine_eq]; show 2 ≤ 16777216; omega), [Value.str e.1 t, u], .cons ⟨t, rfl⟩ (.cons e3 .nil), ⟨_, kF _ _ (ne0 _ _ e4) (ka _ _ e4), rfl, 0, rfl⟩⟩⟩
    rw [upd_ne (ne0 _ _ e4)]
    exact I.hok.fresh hbl
  have gr : ∀ b o, H b = some o → H2 b = some o := fun b o e => g b o (by rw [upd_ne (ne_of_none e hn0)]; exact e)
  refine ⟨.ref h'.objs.size, H2, I3, rfl, q H2 h'.objs.size bs gr hn0 (g _ _ upd_same) lb fun j b e hj he => ?_⟩
  obtain ⟨i, i1, i2⟩ := kbs j b e hj he
  obtain ⟨vs, ⟨j', e', j1, j2, ev⟩, hH⟩ := qt b (List.mem_of_getElem? i1)
  have eij : i = j' := (List.getElem?_inj (List.getElem?_eq_some_iff.mp i1).1 nda).mp (i1.trans j1.symm)
  subst eij
  have ee : e' = e := Option.some.inj (j2.symm.trans i2)
  rw [← ee, ← ev]
  exact hH
end AL

/-! EN8: dicts: items, sorted items, get. -/
namespace AL
open PySem PySem.Spec PyProof.Rows L2
theorem dp_rows {K : PySem.W.Frag} {T : Hp} : ∀ {as : List Addr} {qs : Prs}, as.length = qs.length → (∀ q ∈ qs, IS q.2) → (∀ (j : Nat) (a : Addr) (q : Str × V), as[j]? = some a → qs[j]? = some q → T a = some (.tup [.str q.1, q.2])) → DpAll K T (as.map V.ref) (qs.map pd)
  | [], [], _, _, _ => .nil
  | a :: as, q :: qs, hl, hs, h => by
    refine .cons (Dp.tup (SqT.of (h 0 a q rfl rfl)) (.cons (.str _) (.cons ?_ .nil))) (dp_rows (by simpa using hl) (fun p hp => hs p (List.mem_cons_of_mem _ hp)) fun j b p e f => h (j + 1) b p (by simpa using e) (by simpa using f))
    rcases hs q (List.mem_cons_self ..) with ⟨i, e⟩ | ⟨z, e⟩ <;> rw [e]
    · exact .int i
    · exact .str z
section
variable {L L0 L1 : List Asn} {σ : L2.St} {Q : VK} {K : PySem.W.Frag} {a p : Addr} {kvs : List (Key × V)} {ks : Prs} {td ty : TE} {y : V} {κ : Key}
theorem e_tyD {P : Hp → Prop} (r : Tk L (pt a (.dK kvs)) L0) (k : Al L P) : Al L (xTy K "dict" (.ref a) P) := fun H s => ⟨.inr (.inr (.inl ⟨rfl, .inl ⟨kvs, r.pat s⟩⟩)), k H s⟩
theorem e_items (r : Tk L (pt a (.dK kvs)) L0) (k : ∀ p, Al (pt p (L2.DX.itemsO p a) :: L) (Q (.ref p))) : Al L (xM rItemsK (.ref a) [] Q) := fun H s => ⟨a, kvs, rfl, rfl, r.pat s, fun p hp => k p _ (s.new hp)⟩
theorem e_sortI (r : Tk L (pt p (L2.DX.itemsO p a)) L1) (r' : Tk L (pt a (.dK (heldK ks))) L0) (hs : ∀ q ∈ ks, IS q.2) (k : ∀ l, Al (LsA K l ((ks.mergeSort (keyLe (·.1))).map pd) :: L) (Q (.ref l))) : Al L (xB rSortI [.ref p] Q) := fun H s => by
  refine ⟨p, a, ks, rfl, r.pat s, r'.pat s, hs, fun H' l as gr hn hl hlen hrow => k l H' ⟨un (one l (.lst (as.map V.ref))) (tupH H'), H, ⟨fun b o e => ?_, gr, fun b o u e e2 => ?_⟩, ⟨as.map V.ref, un_l one_same, ?_⟩, s⟩⟩
  · rcases un_some e with z | z
    · obtain ⟨rfl, rfl⟩ := one_some z; exact hl
    · exact (tupH_some z).1
  · rcases un_some e with z | z
    · obtain ⟨rfl, rfl⟩ := one_some z; rw [hn] at e2; cases e2
    · obtain ⟨z1, ys, rfl⟩ := tupH_some z; trivial
  · refine dp_rows (by rw [List.length_mergeSort]; exact hlen) (fun q hq => hs q (List.mem_mergeSort.mp hq)) fun j b q e f => ?_
    have z := hrow j b q e f
    refine tupH_of ?_
    unfold un
    cases w : one l (.lst (as.map V.ref)) b with
    | none => exact tupH_of z
    | some u =>
      obtain ⟨rfl, rfl⟩ := one_some w
      rw [hl] at z; cases z
/-! d.get(k) -/
def kGet1 (ty : TE) (σ : L2.St) (Q : VK) : VK := fun x H1 => ∃ a, x = .ref a ∧ IsD H1 a ∧ ty σ H1 fun y H2 => ∃ o, DGet H2 a y o ∧ Q (o.getD .non) H2
def kGet2 (a : Addr) (Q : VK) : VK := fun y H2 => ∃ o, DGet H2 a y o ∧ Q (o.getD .non) H2
theorem n_dget1 : xE (tDGet1 td ty) σ Q = xE td σ (kGet1 ty σ Q) := rfl
theorem e_get1 (r : Tk L (pt a (.dK kvs)) L0) (k : Al L (xE ty σ (kGet2 a Q))) : Al L (kGet1 ty σ Q (.ref a)) := fun H s => ⟨a, rfl, .inl ⟨kvs, .inl (r.pat s)⟩, k H s⟩
theorem e_get2 (r : Tk L (pt a (.dK kvs)) L0) (e : y = kV κ) (k : Al L (Q ((valV kvs κ).getD .non))) : Al L (kGet2 a Q y) := fun H s => ⟨_, by rw [e]; exact DGet.k (r.pat s), k H s⟩
theorem e_getS {z : Str} (r : Tk L (pt a (.dK kvs)) L0) (k : Al L (Q ((valV kvs (.inr z)).getD .non))) : Al L (kGet2 a Q (.str z)) := e_get2 (κ := .inr z) r rfl k
theorem e_inDS {z : Str} (r : Tk L (pt p (.dK kvs)) L0) (k : Al L (Q (.bl (valV kvs (.inr z)).isSome))) : Al L (x2 (cIn K) (.str z) (.ref p) Q) := e_inD (κ := .inr z) r rfl k
theorem e_notinDS {z : Str} (r : Tk L (pt p (.dK kvs)) L0) (k : Al L (Q (.bl (!(valV kvs (.inr z)).isSome)))) : Al L (x2 (cNotIn K) (.str z) (.ref p) Q) := e_notinD (κ := .inr z) r rfl k
theorem e_xDS {z : Str} {v : V} (r : Tk L (pt p (.dK kvs)) L0) (hv : valV kvs (.inr z) = some v) (k : Al L (Q v)) : Al L (x2 (xIx K) (.ref p) (.str z) Q) := e_xD (κ := .inr z) r rfl hv k
theorem e_setDS {z : Str} {v : V} {P : Hp → Prop} (r : Tk L (pt p (.dK kvs)) L0) (hz : kvs.length < sizeLine) (k : Al (pt p (.dK (putK kvs (.inr z) v)) :: L0) P) : Al L (xSt sSet (.ref p) (.str z) v P) := e_setD (κ := .inr z) r rfl hz k
end
theorem held_get {ks : Prs} {n : Str} : valV (heldK ks) (.inr n) = fnd ks n := by
  induction ks with
  | nil => rfl
  | cons q ks ih =>
    by_cases e : q.1 = n
    · show valV (_ :: heldK ks) _ = _
      rw [valV_pos (by rw [← e])]
      unfold fnd
      rw [List.find?_cons, decide_eq_true e]; rfl
    · show valV (_ :: heldK ks) _ = _
      rw [valV_neg (by intro z; exact e (Sum.inr.inj z)), ih]
      unfold fnd
      rw [List.find?_cons, decide_eq_false e]
end AL

/-! EN9: dicts held beside tables: copies, lists of dicts, what they hold. -/
namespace AL
open PySem PySem.Spec PyProof.Rows L2
/-! ### dict(d) -/
def rDictC : List V → Hp → VK → Prop := fun vs H Q => ∃ (a : Addr) (kvs : List (Key × V)), vs = [.ref a] ∧ H a = some (.dK kvs) ∧ NewK (.dK kvs) Q H
theorem cr_dictC {X : Cx} : CallR X (.type "dict") rDictC := by
  intro pins s σ H xs us Q I r h
  obtain ⟨a, kvs, rfl, ha, q⟩ := h
  obtain rfl := Vals.ref1 r
  exact d_copyOf I (.inl ha) fun p s' hp I' => ⟨.ref p, _, I', rfl, q p hp⟩
section
variable {L L0 : List Asn} {σ : L2.St} {Q : VK} {K : PySem.W.Frag} {P : Hp → Prop} {a p : Addr} {kvs : List (Key × V)}
/-- the dict at a can be read -/
structure LdDk (L : List Asn) (a : Addr) (kvs : List (Key × V)) : Prop where
  q : ∀ H, Star L H → H a = some (.dK kvs)
theorem LdDk.tk (r : Tk L (pt a (.dK kvs)) L0) : LdDk L a kvs := ⟨fun H s => r.pat s⟩
theorem e_dictC (h : LdDk L a kvs) (k : ∀ p, Al (pt p (.dK kvs) :: L) (Q (.ref p))) : Al L (xB rDictC [.ref a] Q) := fun H s => ⟨a, kvs, rfl, h.q H s, fun p hp => k p _ (s.new hp)⟩
theorem e_joinY {ta tb : TE} {tu : TT} {b : Bool} (I : V → List Asn → Prop) (k1 : ∀ F : VK, (∀ v M, I v M → Al M (F v)) → Al L (kAnd tu σ (kIfx ta tb σ F) b)) (k2 : ∀ v M, I v M → Al M (Q v)) : Al L (kAnd tu σ (kIfx ta tb σ Q) b) := k1 Q k2
/-! ### dicts of a list -/
def DsR (zs : List (Addr × Prs)) : Asn := Star (zs.map fun q => pt q.1 (.dK (heldK q.2)))
theorem Star.mem {M : List Asn} {o : HO} : ∀ {M : List Asn} {H : Hp}, Star M H → pt a o ∈ M → H a = some o
  | [], _, _, h => by cases h
  | A :: M, H, s, h => by
    rcases List.mem_cons.mp h with e | e
    · rw [← e] at s; exact s.at
    · exact Star.mem (M := M) s.drop e
theorem LdDk.ds {zs : List (Addr × Prs)} {h : Prs} (r : Tk L (DsR zs) L0) (m : (a, h) ∈ zs) : LdDk L a (heldK h) := ⟨fun H s => by
  obtain ⟨H1, h1, q⟩ := (r.ok _ s).get
  exact h1 _ _ (Star.mem (M := zs.map fun q => pt q.1 (.dK (heldK q.2))) q (List.mem_map.mpr ⟨(a, h), m, rfl⟩))⟩
theorem DsR.add {zs : List (Addr × Prs)} {h : Prs} {R : List Asn} (r : Tk L (pt a (.dK (heldK h))) L0) (r' : Tk L0 (DsR zs) R) (k : Al (DsR (zs ++ [(a, h)]) :: R) P) : Al L P := fun H s => by
  have s1 : Star (pt a (.dK (heldK h)) :: DsR zs :: R) H := (r.ok _ s).tail fun _ t => r'.ok _ t
  have s2 : Star (DsR zs :: pt a (.dK (heldK h)) :: R) H := s1.swap
  have s3 : Star ((zs.map fun q => pt q.1 (.dK (heldK q.2))) ++ (pt a (.dK (heldK h)) :: R)) H := Star.split s2
  refine k H (Star.join (M := (zs ++ [(a, h)]).map fun q : Addr × Prs => pt q.1 (.dK (heldK q.2))) ?_)
  rw [List.map_append, List.append_assoc]
  exact s3
theorem Al.ds0 (k : Al (DsR [] :: L) P) : Al L P := Al.own (A := DsR []) (by show Star [] _; exact trivial) k
theorem LdZs.scls {xs : List V} (h : ∀ x ∈ xs, Scl x) : LdZs L K xs (xs.map dV) := by
  induction xs with
  | nil => exact .nil
  | cons x xs ih => exact .cons (.scl (h x (List.mem_cons_self ..))) (ih fun y hy => h y (List.mem_cons_of_mem _ hy))
end
/-! ### shapes to show -/
theorem small_log {n : Nat} (h : n ≤ 100000) : ((n : Int)).natAbs.log2 < 1920 := by
  rw [Int.natAbs_natCast]
  have : n.log2 ≤ n := Nat.log2_le_self n
  by_cases e : n = 0
  · subst e; decide
  · have := (Nat.log2_lt e).mpr (show n < 2 ^ 1920 from Nat.lt_of_le_of_lt h (by decide +kernel))
    exact this
theorem shown_int {i : Int} : (PyData.int i).shown = (toString i : Str) := rfl

theorem sh_pair {q : Str × V} (hn : Nm8 q.1) (hv : Vok q.2) : Sh 1 282 (pd q) := by
  refine Sh.tup (k := 0) (w := 140) (ds := [.str q.1, dV q.2]) fun d hd => ?_
  rcases List.mem_cons.mp hd with e | hd
  · rw [e]
    exact Sh.str (fun c hc => Nat.lt_of_le_of_lt ((Nm.iff.mp hn.n) c hc).2 (by decide)) (by have := hn.b; omega)
  · rw [List.mem_singleton.mp hd]; exact hv.sh
theorem sh_pairs {ps : Prs} (hn : ∀ q ∈ ps, Nm8 q.1) (hv : ∀ q ∈ ps, Vok q.2) : Sh 2 (ps.length * 283) (.list (ps.map pd)) := by
  have h := Sh.list (k := 1) (w := 282) (ds := ps.map pd) fun d hd => by
    obtain ⟨q, hq, rfl⟩ := List.mem_map.mp hd
    exact sh_pair (hn q hq) (hv q hq)
  rwa [List.length_map] at h
def VokN (v : V) : Prop := v = .non ∨ Vok v
theorem VokN.sh {v : V} (h : VokN v) : Sh 0 140 (dV v) := by
  rcases h with rfl | h
  · exact .non
  · exact h.sh
theorem VokN.scl {v : V} (h : VokN v) : Scl v := by
  rcases h with rfl | h
  · exact .inl rfl
  · exact h.scl
theorem sh_vals {xs : List V} (h : ∀ x ∈ xs, VokN x) : Sh 1 (xs.length * 141) (.list (xs.map dV)) := by
  have q := Sh.list (k := 0) (w := 140) (ds := xs.map dV) fun d hd => by
    obtain ⟨x, hx, rfl⟩ := List.mem_map.mp hd
    exact (h x hx).sh
  rwa [List.length_map] at q
theorem Vok.is {v : V} (h : Vok v) : IS v := by
  rcases h with ⟨i, rfl, _⟩ | ⟨z, rfl, _⟩
  · exact .inl ⟨i, rfl⟩
  · exact .inr ⟨z, rfl⟩
theorem Vok.ne {v : V} (h : Vok v) : v ≠ .non := by
  rcases h with ⟨i, rfl, _⟩ | ⟨z, rfl, _⟩ <;> exact fun e => by cases e
theorem Nm8.vok {z : Str} (h : Nm8 z) : Vok (.str z) := .inr ⟨z, rfl, fun c hc => by have := (Nm.iff.mp h.n) c hc; omega, by have := h.b; omega⟩
/-! ### what a dict holds -/
abbrev srt (h : Prs) : Prs := h.mergeSort (keyLe (·.1))
structure Held (h : Prs) : Prop where
  d : (h.map (·.1)).Nodup
  n : ∀ q ∈ h, Nm8 q.1
  v : ∀ q ∈ h, Vok q.2
theorem Held.srt {h : Prs} (H : Held h) : Srt (srt h) := srt_sort H.d
theorem Held.nil : Held [] := ⟨List.nodup_nil, fun _ h => (by cases h), fun _ h => (by cases h)⟩
theorem mem_srt {h : Prs} {x : Str × V} : x ∈ srt h ↔ x ∈ h := List.mem_mergeSort
theorem srt_len {h : Prs} : (srt h).length = h.length := List.length_mergeSort ..
theorem fnd_uniq {h : Prs} (hd : (h.map (·.1)).Nodup) {n : Str} {v : V} (m : (n, v) ∈ h) : fnd h n = some v := by
  cases e : fnd h n with
  | none => exact absurd rfl (fnd_none e _ m)
  | some u =>
    obtain ⟨i, hi⟩ := List.mem_iff_getElem?.mp m
    obtain ⟨j, hj⟩ := List.mem_iff_getElem?.mp (fnd_some e)
    have : i = j := (List.getElem?_inj (by rw [List.length_map]; exact (List.getElem?_eq_some_iff.mp hi).1) hd).mp (by rw [List.getElem?_map, List.getElem?_map, hi, hj]; rfl)
    subst this
    rw [hi] at hj
    cases hj; rfl
theorem fnd_srt {h : Prs} (H : Held h) {n : Str} : fnd (srt h) n = fnd h n := by
  cases e : fnd h n with
  | none => exact fnd_nope fun r hr => fnd_none e r (mem_srt.mp hr)
  | some v => exact fnd_mem H.srt (mem_srt.mpr (fnd_some e))
def putH (h : Prs) (n : Str) (v : V) : Prs := if h.any (fun q => decide (q.1 = n)) then h.map (fun q => if q.1 = n then (q.1, v) else q) else h ++ [(n, v)]
theorem putH_eq {h : Prs} {n : Str} {v : V} : putK (heldK h) (.inr n) v = heldK (putH h n v) := by
  have a : ((heldK h).any fun kv => decide (kv.1 = (.inr n : Key))) = h.any (fun q => decide (q.1 = n)) := by
    rw [List.any_map]
    congr 1
    funext q
    exact decide_eq_decide.mpr ⟨fun e => Sum.inr.inj e, fun e => congrArg Sum.inr e⟩
  unfold putK
  rw [a]
  unfold putH
  split
  · rw [List.map_map]
    show List.map _ h = heldK _
    unfold heldK
    rw [List.map_map]
    refine List.map_congr_left fun q _ => ?_
    show (if (Sum.inr q.1 : Key) = .inr n then _ else _) = _
    by_cases e : q.1 = n
    · rw [if_pos (congrArg Sum.inr e)]
      show _ = ((.inr (if q.1 = n then (q.1, v) else q).1 : Key), (if q.1 = n then (q.1, v) else q).2)
      rw [if_pos e]
    · rw [if_neg fun z => e (Sum.inr.inj z)]
      show _ = ((.inr (if q.1 = n then (q.1, v) else q).1 : Key), (if q.1 = n then (q.1, v) else q).2)
      rw [if_neg e]
  · unfold heldK
    rw [List.map_append]; rfl
theorem mem_putH {h : Prs} {n : Str} {v : V} {x : Str × V} : x ∈ putH h n v ↔ x = (n, v) ∨ (x ∈ h ∧ x.1 ≠ n) := by
  unfold putH
  split
  · rename_i a
    obtain ⟨y, hy, ey⟩ := List.any_eq_true.mp a
    have ey := of_decide_eq_true ey
    rw [List.mem_map]
    constructor
    · rintro ⟨q, hq, rfl⟩
      by_cases e : q.1 = n
      · rw [if_pos e, e]; exact .inl rfl
      · rw [if_neg e]; exact .inr ⟨hq, e⟩
    · rintro (rfl | ⟨m, e⟩)
      · exact ⟨y, hy, by rw [if_pos ey, ey]⟩
      · exact ⟨x, m, by rw [if_neg e]⟩
  · rename_i a
    rw [List.mem_append, List.mem_singleton]
    constructor
    · rintro (m | m)
      · refine .inr ⟨m, fun e => a (List.any_eq_true.mpr ⟨x, m, decide_eq_true e⟩)⟩
      · exact .inl m
    · rintro (m | m)
      · exact .inr m
      · exact .inl m.1
theorem putH_keys {h : Prs} {n : Str} {v : V} (hd : (h.map (·.1)).Nodup) : ((putH h n v).map (·.1)).Nodup := by
  unfold putH
  split
  · rw [List.map_map]
    have e : ((fun q : Str × V => q.1) ∘ fun q => if q.1 = n then (q.1, v) else q) = fun q => q.1 := by
      funext q
      show (if q.1 = n then (q.1, v) else q).1 = q.1
      split <;> rfl
    rw [e]; exact hd
  · rename_i a
    rw [List.map_append, List.nodup_append]
    refine ⟨hd, by simp, fun x hx y hy => ?_⟩
    obtain ⟨q, hq, rfl⟩ := List.mem_map.mp hx
    rw [List.map_cons, List.map_nil, List.mem_singleton] at hy
    rw [hy]
    exact fun e => a (List.any_eq_true.mpr ⟨q, hq, decide_eq_true e⟩)
theorem putH_len {h : Prs} {n : Str} {v : V} : (putH h n v).length ≤ h.length + 1 := by
  unfold putH
  split
  · rw [List.length_map]; omega
  · rw [List.length_append]; exact Nat.le_refl _
theorem Held.put {h : Prs} (H : Held h) {n : Str} {v : V} (hn : Nm8 n) (hv : Vok v) : Held (putH h n v) := by
  refine ⟨putH_keys H.d, fun q hq => ?_, fun q hq => ?_⟩
  · rcases mem_putH.mp hq with rfl | z
    · exact hn
    · exact H.n q z.1
  · rcases mem_putH.mp hq with rfl | z
    · exact hv
    · exact H.v q z.1
theorem srt_nil : AL.srt [] = [] := List.eq_nil_of_length_eq_zero (by rw [srt_len]; rfl)
theorem tbl0 : Tbl [.bare] [0] 0 (AL.srt []) := by
  rw [srt_nil]
  exact ⟨List.mem_singleton.mpr rfl, (by rw [cn_nil]; exact .bare rfl), List.Pairwise.nil, fun p h => (by cases h), fun p h => (by cases h)⟩
theorem tb00 {d : Addr} : ∀ (j t' : Nat) (z : Addr × Prs), ([0] : List Nat)[j]? = some t' → ([] ++ [(d, ([] : Prs))])[j]? = some z → Tbl [.bare] [0] t' (AL.srt z.2) := fun j t' z e f => by
  cases j with
  | zero => cases e; cases f; exact tbl0
  | succ j => simp at e
theorem srt_put {h : Prs} (H : Held h) {n : Str} {v : V} (hn : Nm8 n) (hv : Vok v) : srt (putH h n v) = ins (srt h) n v := by
  refine Srt.ext (H.put hn hv).srt (H.srt.ins n v) fun x => ?_
  rw [mem_srt, mem_putH, mem_ins, mem_srt]
end AL

/-! RX5: xs[::c] of a list. -/
namespace AL
open PySem PySem.Spec PyProof.Rows L2
/-- the items at 0, c, 2c, .. -/
def everyI {α : Type} (c : Nat) (xs : List α) : List α := ((List.range ((xs.length + c - 1) / c)).map fun k => c * k).filterMap fun j => xs[j]?
theorem every_bounds {c : Nat} (hc : 0 < c) (n : Nat) : PySem.sliceRange (sliceBounds none none (some (c : Int)) n).1 (sliceBounds none none (some (c : Int)) n).2.1 (sliceBounds none none (some (c : Int)) n).2.2 = (List.range ((n + c - 1) / c)).map fun k => c * k := by
  have h1 : ((c : Int) > 0) := by omega
  have e : sliceBounds none none (some (c : Int)) n = (0, (n : Int), (c : Int)) := by
    simp [sliceBounds, h1]
    omega
  rw [e]
  unfold PySem.sliceRange
  simp only [h1, if_true]
  by_cases h : (0 : Int) < n
  · have e2 : ((n : Int) - 0 + c - 1) / c = (((n + c - 1) / c : Nat) : Int) := by
      rw [Int.natCast_ediv]
      congr 1
      omega
    simp only [h, if_true, e2, Int.toNat_natCast]
    apply List.map_congr_left
    intro k hk
    rw [Int.zero_add, ← Int.natCast_mul, Int.toNat_natCast]
  · have e3 : n = 0 := by omega
    subst e3
    have e4 : (0 + c - 1) / c = 0 := Nat.div_eq_of_lt (by omega)
    simp [e4]
    omega
theorem every_vals {xs : List V} {us : List Value} (r : Vals xs us) : ∀ is : List Nat, Vals (is.filterMap fun j => xs[j]?) (is.filterMap fun j => us.toArray[j]?)
  | [] => .nil
  | i :: is => by
    have ih := every_vals r is
    rw [List.filterMap_cons, List.filterMap_cons]
    cases e : xs[i]? with
    | none =>
      have e2 : us.toArray[i]? = none := by
        rw [List.getElem?_toArray, List.getElem?_eq_none_iff, ← r.length]
        exact List.getElem?_eq_none_iff.mp e
      rw [e2]; exact ih
    | some x =>
      obtain ⟨u, e2, rx⟩ := r.get e
      have e3 : us.toArray[i]? = some u := by rw [List.getElem?_toArray]; exact e2
      rw [e3]
      exact .cons rx ih
def tEvery (K : PySem.W.Frag) (c : Nat) (te : TE) : TE := fun σ H Q => te σ H fun x H1 => ∃ a xs, x = .ref a ∧ SqL K H1 a xs ∧ ∀ p, H1 p = none → Q (.ref p) (upd H1 p (.lst (everyI c xs)))
theorem everyI_length {α : Type} (c : Nat) (xs : List α) (hc : 0 < c) : (everyI c xs).length ≤ xs.length := by
  unfold everyI
  refine Nat.le_trans (List.length_filterMap_le ..) ?_
  rw [List.length_map, List.length_range]
  exact (Nat.div_le_iff_le_mul_add_pred hc).mpr (by have := Nat.le_mul_of_pos_left xs.length hc; omega)
section
variable {X : Cx}
theorem pe_every {e : Expr} {te : TE} {c k : Nat} {p1 p3 pos : Pos} (hc : 0 < c) (he : PE X e te) : PE X (.Subscript e (.Slice none none (some (.Constant (.int c) k p1)) p3) pos) (tEvery X.K c te) := by
  refine ⟨fun pins s σ H Q I h => ?_⟩
  refine Subscript_ (thn (he.run pins s σ H _ I h) fun v s1 ⟨x, H1, I1, r1, q1⟩ => ?_)
  obtain ⟨a, xs, ex, hx, q⟩ := q1
  subst ex
  cases r1
  have hst : PO X (some (.Constant (.int c) k p1)) (tPart (tC (.int c))) := po_some pe_int
  refine wpAny_Slice (thn (po_none.run pins s1 σ H1 (fun o H2 => o = none ∧ H2 = H1) I1 ⟨rfl, rfl⟩) fun vl s2 ⟨l, H2, I2, pl, el, e2⟩ => ?_)
  subst el e2
  refine thn (po_none.run pins s2 σ H2 (fun o H3 => o = none ∧ H3 = H2) I2 ⟨rfl, rfl⟩) fun vu s3 ⟨u, H3, I3, pu, eu, e3⟩ => ?_
  subst eu e3
  refine thn (hst.run pins s3 σ H3 (fun o H4 => o = some (c : Int) ∧ H4 = H3) I3 ⟨(c : Int), rfl, rfl, rfl⟩) fun vs s4 ⟨o, H4, I4, ps, eo, e4⟩ => ?_
  subst eo e4
  have I5 : Inv X pins σ H4 { s4 with heap := s4.heap.push { cls := .type "slice", data := .fields #[vl, vu, vs] } } := I4.kept (t' := s4.toks) fun b ob q => Heap.get?_push_of_some _ q
  obtain ⟨its, r, ht, hz⟩ := I5.list hx
  have hlen := r.length
  show wpAny (model X.prog X.w) X.A (subscriptTail e (.Slice none none (some (.Constant (.int c) k p1)) p3) (.ref a) (.ref s4.heap.objs.size)) (EP X pins σ Q) X.xe { s4 with heap := s4.heap.push { cls := .type "slice", data := .fields #[vl, vu, vs] } }
  refine tail_any (ops := [.ref a, .ref s4.heap.objs.size]) ht.isList.typeIs (PySem.slot_list_getitem.lookup) ?_ (by with_unfolding_all rfl)
  refine wpAny_getItem_list_slice ht.isList (Heap.IsSliceOf.new _ vl vu vs) pl pu ps (by simp; omega) ?_ (by rw [List.size_toArray]; omega)
  have es : slicePick its.toArray none none (some (c : Int)) = (((List.range ((xs.length + c - 1) / c)).map fun k => c * k).filterMap fun j => its.toArray[j]?).toArray := by
    unfold slicePick
    rw [every_bounds hc, List.size_toArray, ← hlen]
  rw [es]
  refine ⟨.ref _, _, I5.laid (t' := s4.toks) (o := .lst (everyI c xs)) (fun b ob q => Heap.get?_push_of_some _ q) (Nat.le_refl _) ?_, rfl, q _ (I5.hok.fresh (Nat.le_refl _))⟩
  exact ⟨Nat.le_trans (everyI_length c xs hc) hz, _, 0, every_vals r _, Heap.get?_push_size _ rfl⟩
end
section
variable {L L0 : List Asn} {σ : L2.St} {Q : VK} {K : PySem.W.Frag} {te : TE} {c : Nat} {a : Addr} {xs : List V}
def kEvery (K : PySem.W.Frag) (c : Nat) (Q : VK) : VK := fun x H1 => ∃ a xs, x = .ref a ∧ SqL K H1 a xs ∧ ∀ p, H1 p = none → Q (.ref p) (upd H1 p (.lst (everyI c xs)))
theorem n_every : xE (tEvery K c te) σ Q = xE te σ (kEvery K c Q) := rfl
theorem e_every (h : Ldg L K a xs) (k : ∀ p, Al (pt p (.lst (everyI c xs)) :: L) (Q (.ref p))) : Al L (kEvery K c Q (.ref a)) := fun H s => ⟨a, xs, rfl, h.q H s, fun p hp => k p _ (s.new hp)⟩
theorem mem_every {α : Type} {c : Nat} {xs : List α} {x : α} (h : x ∈ everyI c xs) : x ∈ xs := by
  obtain ⟨j, _, e⟩ := List.mem_filterMap.mp h
  exact List.mem_of_getElem? e
end
end AL

/-! RX6: sorted of numbers, of texts, of a dict's keys; d.pop(k, x). -/
namespace AL
open PySem PySem.Spec PyProof.Rows L2
abbrev rSoDS : List V → Hp → VK → Prop := fun xs H Q => ∃ (a : Addr) (kvs : List (Key × V)) (ks : List Str), xs = [.ref a] ∧ Rd H a (.dK kvs) ∧ kvs.map (·.1) = ks.map Sum.inr ∧ ks.length < 64 ∧ ∀ ys p, ys.Perm ks → sortedS ys = true → H p = none → Q (.ref p) (upd H p (.lst (ys.map V.str)))
abbrev rSoDI : List V → Hp → VK → Prop := fun xs H Q => ∃ (a : Addr) (kvs : List (Key × V)) (ks : List Int), xs = [.ref a] ∧ Rd H a (.dK kvs) ∧ kvs.map (·.1) = ks.map Sum.inl ∧ ks.length < 64 ∧ ∀ (ys : List Int) (p : Addr), ys.Perm ks → ys.Pairwise (· ≤ ·) → H p = none → Q (.ref p) (upd H p (.lst (ys.map V.int)))
def kSorted (K : PySem.W.Frag) : List V → Hp → VK → Prop := fun vs H Q => rSortedI K vs H Q ∨ rSortedS K vs H Q ∨ rSoDS vs H Q ∨ rSoDI vs H Q
theorem k_sorted {X : Cx} {K : PySem.W.Frag} (e : X.K = K) (hc : X.calm = true) : CallR X (.builtin "sorted") (kSorted K) := by
  subst e
  exact cr_sortedI.or (cr_sortedS.or ((call_sortedD hc).or (call_sortedDI hc)))
section
variable {L L0 L1 : List Asn} {σ : L2.St} {Q : VK} {K : PySem.W.Frag} {a p : Addr} {kvs : List (Key × V)} {y z : V} {κ : Key} {td ty tx : TE}
theorem e_soI {ns : List Int} (h : Ldg L K a (ns.map V.int)) (k : ∀ p (ns' : List Int), ns'.Perm ns → ns'.Pairwise (· ≤ ·) → Al (pt p (.lst (ns'.map V.int)) :: L) (Q (.ref p))) : Al L (xB (kSorted K) [.ref a] Q) := fun H s =>
  .inl ⟨a, ns, rfl, h.q H s, fun ns' p h1 h2 hp => k p ns' h1 h2 _ (s.new hp)⟩
theorem e_soS {xs : List Str} (h : Ldg L K a (xs.map V.str)) (hl : xs.length < 64) (k : ∀ p (ys : List Str), ys.Perm xs → sortedS ys = true → Al (pt p (.lst (ys.map V.str)) :: L) (Q (.ref p))) : Al L (xB (kSorted K) [.ref a] Q) := fun H s =>
  .inr (.inl ⟨a, xs, rfl, h.q H s, hl, fun ys p h1 h2 hp => k p ys h1 h2 _ (s.new hp)⟩)
theorem e_soDS {ks : List Str} (r : Tk L (pt a (.dK kvs)) L0) (e : kvs.map (·.1) = ks.map Sum.inr) (hl : ks.length < 64) (k : ∀ p (ys : List Str), ys.Perm ks → sortedS ys = true → Al (pt p (.lst (ys.map V.str)) :: L) (Q (.ref p))) : Al L (xB (kSorted K) [.ref a] Q) := fun H s =>
  .inr (.inr (.inl ⟨a, kvs, ks, rfl, .inl (r.pat s), e, hl, fun ys p h1 h2 hp => k p ys h1 h2 _ (s.new hp)⟩))
theorem e_soDI {ks : List Int} (r : Tk L (pt a (.dK kvs)) L0) (e : kvs.map (·.1) = ks.map Sum.inl) (hl : ks.length < 64) (k : ∀ p (ys : List Int), ys.Perm ks → ys.Pairwise (· ≤ ·) → Al (pt p (.lst (ys.map V.int)) :: L) (Q (.ref p))) : Al L (xB (kSorted K) [.ref a] Q) := fun H s =>
  .inr (.inr (.inr ⟨a, kvs, ks, rfl, .inl (r.pat s), e, hl, fun ys p h1 h2 hp => k p ys h1 h2 _ (s.new hp)⟩))
/-! d.pop(k, x) -/
def kPop1 (ty tx : TE) (σ : L2.St) (Q : VK) : VK := fun x H1 => ∃ a, x = .ref a ∧ IsD H1 a ∧ ty σ H1 fun y H2 => tx σ H2 fun z H3 => ∃ kvs k, H3 a = some (.dK kvs) ∧ y = kV k ∧
  (∀ v, valV kvs k = some v → Q v (upd H3 a (.dK (dropK kvs k)))) ∧ (valV kvs k = none → Q z H3)
def kPop2 (a : Addr) (tx : TE) (σ : L2.St) (Q : VK) : VK := fun y H2 => tx σ H2 fun z H3 => ∃ kvs k, H3 a = some (.dK kvs) ∧ y = kV k ∧
  (∀ v, valV kvs k = some v → Q v (upd H3 a (.dK (dropK kvs k)))) ∧ (valV kvs k = none → Q z H3)
def kPop3 (a : Addr) (y : V) (Q : VK) : VK := fun z H3 => ∃ kvs k, H3 a = some (.dK kvs) ∧ y = kV k ∧
  (∀ v, valV kvs k = some v → Q v (upd H3 a (.dK (dropK kvs k)))) ∧ (valV kvs k = none → Q z H3)
theorem n_dpop2 : xE (tDPop2 td ty tx) σ Q = xE td σ (kPop1 ty tx σ Q) := rfl
theorem e_dpop1 (r : Tk L (pt a (.dK kvs)) L0) (k : Al L (xE ty σ (kPop2 a tx σ Q))) : Al L (kPop1 ty tx σ Q (.ref a)) := fun H s => ⟨a, rfl, .inl ⟨kvs, .inl (r.pat s)⟩, k H s⟩
theorem n_dpop22 : kPop2 a tx σ Q y = xE tx σ (kPop3 a y Q) := rfl
theorem e_dpop3 (r : Tk L (pt a (.dK kvs)) L0) (e : y = kV κ) (k1 : ∀ v, valV kvs κ = some v → Al (pt a (.dK (dropK kvs κ)) :: L0) (Q v)) (k2 : valV kvs κ = none → Al L (Q z)) : Al L (kPop3 a y Q z) := fun H s =>
  ⟨kvs, κ, r.pat s, e, fun v hv => k1 v hv _ ((r.ok _ s).set _ id), fun hv => k2 hv H s⟩
end
def dropH (h : Prs) (n : Str) : Prs := h.filter fun q => decide (q.1 ≠ n)
theorem dropH_eq {h : Prs} {n : Str} : dropK (heldK h) (.inr n) = heldK (dropH h n) := by
  unfold dropK heldK dropH
  rw [List.filter_map]
  congr 1
  apply List.filter_congr
  intro q _
  by_cases e : q.1 = n
  · simp [e]
  · have e2 : ¬ (Sum.inr q.1 : Key) = .inr n := fun z => e (Sum.inr.inj z)
    simp [e, e2]
theorem mem_dropH {h : Prs} {n : Str} {x : Str × V} : x ∈ dropH h n ↔ x ∈ h ∧ x.1 ≠ n := by
  unfold dropH; rw [List.mem_filter]; simp
theorem Held.drop {h : Prs} (H : Held h) {n : Str} : Held (dropH h n) :=
  ⟨(H.d.sublist ((List.filter_sublist (l := h)).map _)), fun q hq => H.n q (mem_dropH.mp hq).1, fun q hq => H.v q (mem_dropH.mp hq).1⟩
theorem dropH_len {h : Prs} {n : Str} : (dropH h n).length ≤ h.length := List.length_filter_le ..
theorem srt_drop {h : Prs} (H : Held h) {n : Str} : srt (dropH h n) = del (srt h) n := by
  refine Srt.ext (H.drop).srt (H.srt.del n) fun x => ?_
  rw [mem_srt, mem_dropH, mem_del, mem_srt]
theorem dropH_same {h : Prs} {n : Str} (e : fnd h n = none) : dropH h n = h := by
  unfold dropH
  rw [List.filter_eq_self]
  exact fun x hx => decide_eq_true (fnd_none e x hx)
theorem heldK_keys {h : Prs} : (heldK h).map (·.1) = (h.map (·.1)).map Sum.inr := by
  unfold heldK
  rw [List.map_map, List.map_map]; rfl
end AL

/-! EN10: rows of (table, dict). -/
namespace AL
open PySem PySem.Spec PyProof.Rows L2
/-- a tuple's address, a table, a dict's address, what it holds -/
abbrev Pz := Addr × Nat × Addr × Prs
def PsA (K : PySem.W.Frag) (z : Pz) : Asn := fun H => Star [FzT K z.1 [.int z.2.1, .ref z.2.2.1], pt z.2.2.1 (.dK (heldK z.2.2.2))] H
def PsR (K : PySem.W.Frag) (zs : List Pz) : Asn := Star (zs.map (PsA K))
section
variable {L L0 L1 R : List Asn} {σ : L2.St} {Q : VK} {K : PySem.W.Frag} {P : Hp → Prop} {t d : Addr} {i : Nat} {h : Prs} {zs xs ys : List Pz} {z : Pz}
theorem Star.memA : ∀ {M : List Asn} {A : Asn} {H : Hp}, Star M H → A ∈ M → ∃ H1, (∀ a o, H1 a = some o → H a = some o) ∧ A H1
  | [], _, _, _, h => by cases h
  | B :: M, A, H, s, h => by
    rcases List.mem_cons.mp h with e | e
    · rw [← e] at s; exact s.get
    · exact Star.memA s.drop e
theorem PsR.nil (k : Al (PsR K [] :: L) P) : Al L P := Al.own (A := PsR K []) (by show Star [] _; exact trivial) k
theorem PsA.of {H : Hp} (s : Star [FzT K t [.int i, .ref d], pt d (.dK (heldK h))] H) : PsA K (t, i, d, h) H := s
/-- one more at the end -/
theorem PsR.add (r : Tk L (pt t (.tup [.int i, .ref d])) L0) (r1 : Tk L0 (pt d (.dK (heldK h))) L1) (r2 : Tk L1 (PsR K zs) R) (k : Al (PsR K (zs ++ [(t, i, d, h)]) :: R) P) : Al L P := fun H s => by
  have s1 : Star (pt t (.tup [.int i, .ref d]) :: pt d (.dK (heldK h)) :: PsR K zs :: R) H := (r.ok _ s).tail fun _ q => (r1.ok _ q).tail fun _ q => r2.ok _ q
  have s2 : Star ([FzT K t [.int i, .ref d], pt d (.dK (heldK h))] ++ (PsR K zs :: R)) H := s1.head fun _ q => .inl q
  have s3 : Star (PsA K (t, i, d, h) :: PsR K zs :: R) H := Star.join (M := [FzT K t [.int i, .ref d], pt d (.dK (heldK h))]) s2
  have s4 : Star (PsR K zs :: PsA K (t, i, d, h) :: R) H := s3.swap
  have s5 := Star.split s4
  refine k H (Star.join (M := (zs ++ [(t, i, d, h)]).map (PsA K)) ?_)
  rw [List.map_append, List.append_assoc]
  exact s5
/-- what can be read of one -/
theorem LdF.ps (r : Tk L (PsR K zs) L0) (m : (t, i, d, h) ∈ zs) : LdF L K t [.int i, .ref d] := ⟨fun H s => by
  obtain ⟨H1, h1, q⟩ := (r.ok _ s).get
  obtain ⟨H2, h2, q2⟩ := Star.memA q (List.mem_map.mpr ⟨(t, i, d, h), m, rfl⟩)
  obtain ⟨H3, h3, q3⟩ := Star.get (show Star [FzT K t [.int i, .ref d], pt d (.dK (heldK h))] H2 from q2)
  exact q3.imp (fun e => h1 _ _ (h2 _ _ (h3 _ _ e))) id⟩
theorem LdDk.ps (r : Tk L (PsR K zs) L0) (m : (t, i, d, h) ∈ zs) : LdDk L d (heldK h) := ⟨fun H s => by
  obtain ⟨H1, h1, q⟩ := (r.ok _ s).get
  obtain ⟨H2, h2, q2⟩ := Star.memA q (List.mem_map.mpr ⟨(t, i, d, h), m, rfl⟩)
  have q3 : Star [FzT K t [.int i, .ref d], pt d (.dK (heldK h))] H2 := q2
  exact h1 _ _ (h2 _ _ (Star.at q3.swap))⟩
/-- one taken out, and put back -/
theorem PsR.mid (r : Tk L (PsR K (xs ++ (t, i, d, h) :: ys)) L0) (k : Al (FzT K t [.int i, .ref d] :: pt d (.dK (heldK h)) :: PsR K (xs ++ ys) :: L0) P) : Al L P := fun H s => by
  have s1 := Star.split (r.ok _ s)
  rw [List.map_append, List.append_assoc, List.map_cons] at s1
  have s2 : Star (PsR K xs :: PsA K (t, i, d, h) :: (ys.map (PsA K) ++ L0)) H := Star.join (M := xs.map (PsA K)) s1
  have s3 : Star (PsA K (t, i, d, h) :: PsR K xs :: (ys.map (PsA K) ++ L0)) H := s2.swap
  have s4 := Star.split (M := [FzT K t [.int i, .ref d], pt d (.dK (heldK h))]) s3
  refine k H ?_
  refine s4.tail fun _ q => q.tail fun _ q => Star.join (M := (xs ++ ys).map (PsA K)) ?_
  have q2 := Star.split q
  rw [List.map_append, List.append_assoc]
  exact q2
theorem PsR.dim (r : Tk L (FzT K t [.int i, .ref d]) L0) (r1 : Tk L0 (pt d (.dK (heldK h))) L1) (r2 : Tk L1 (PsR K (xs ++ ys)) R) (k : Al (PsR K (xs ++ (t, i, d, h) :: ys) :: R) P) : Al L P := fun H s => by
  have s1 : Star (FzT K t [.int i, .ref d] :: pt d (.dK (heldK h)) :: PsR K (xs ++ ys) :: R) H := (r.ok _ s).tail fun _ q => (r1.ok _ q).tail fun _ q => r2.ok _ q
  have s3 : Star (PsA K (t, i, d, h) :: PsR K (xs ++ ys) :: R) H := Star.join (M := [FzT K t [.int i, .ref d], pt d (.dK (heldK h))]) s1
  have s4 := Star.split s3.swap
  rw [List.map_append, List.append_assoc] at s4
  have s5 : Star (PsR K xs :: (ys.map (PsA K) ++ (PsA K (t, i, d, h) :: R))) H := Star.join (M := xs.map (PsA K)) s4
  have s6 : Star (PsR K xs :: PsA K (t, i, d, h) :: (ys.map (PsA K) ++ R)) H := s5.tail fun _ q => by
    have q2 : Star (PsR K ys :: PsA K (t, i, d, h) :: R) _ := Star.join (M := ys.map (PsA K)) q
    exact q2.swap.tail fun _ w => Star.split w
  have s7 := Star.split s6
  refine k H (Star.join (M := (xs ++ (t, i, d, h) :: ys).map (PsA K)) ?_)
  rw [List.map_append, List.append_assoc, List.map_cons]
  exact s7
end
theorem mem_split {α : Type} {x : α} {zs : List α} (h : x ∈ zs) : ∃ xs ys, zs = xs ++ x :: ys := List.append_of_mem h
end AL

/-! SC: tables more. -/
namespace AL
open PySem PySem.Spec PyProof.Rows L2
theorem Rp.uniq {ns : List Nd} {i : Nat} {t : Tr} (h : Rp ns i t) : ∀ {t' : Tr}, Rp ns i t' → t = t' := by
  induction h with
  | bare h =>
    intro t' h'
    cases h' with
    | bare _ => rfl
    | leaf e => rw [h] at e; cases e
    | fork e _ _ _ _ => rw [h] at e; cases e
  | leaf h =>
    intro t' h'
    cases h' with
    | bare e => rw [h] at e; cases e
    | leaf e => rw [h] at e; cases e; rfl
    | fork e _ _ _ _ => rw [h] at e; cases e
  | fork h _ _ _ _ i1 i2 i3 i4 =>
    intro t' h'
    cases h' with
    | bare e => rw [h] at e; cases e
    | leaf e => rw [h] at e; cases e
    | fork e a b c d =>
      rw [h] at e
      cases e
      rw [i1 a, i2 b, i3 c, i4 d]
theorem Tbl.uniq {ns : List Nd} {td td' : List Nat} {i : Nat} {ps qs : Prs} (h : Tbl ns td i ps) (h' : Tbl ns td' i qs) : ps = qs := by
  have e := h.r.uniq h'.r
  have p1 := prs_perm (mk := mkS) 5 0 ps 0 rfl (h.mk_at 0)
  have p2 := prs_perm (mk := mkS) 5 0 qs 0 rfl (h'.mk_at 0)
  rw [e] at p1
  exact Srt.ext h.s h'.s fun x => (p1.symm.trans p2).mem_iff
theorem delS_ne {s : St2} {i : Nat} {ps : Prs} {n : Str} {v : V} (h : Tbl s.1 s.2 i ps) (h0 : s.1[0]? = some .bare) (e : fnd ps n = some v) : (delS s i ps n).2 ≠ i := by
  intro q
  obtain ⟨h1, a⟩ := delS_ok (n := n) h h0
  rw [q] at h1
  have e2 := (a.app h).uniq h1
  have := (mem_del (n := n) (x := (n, v))).mp (e2 ▸ fnd_some e)
  exact this.2 rfl
theorem delS_same {s : St2} {i : Nat} {ps : Prs} {n : Str} (e : fnd ps n = none) : (delS s i ps n).2 = i := by
  unfold delS
  rw [if_pos e]
theorem Tbl.zero {ns : List Nd} {td : List Nat} {i : Nat} (h0 : ns[0]? = some .bare) (h : Tbl ns td i []) : i = 0 := (zero_iff (r := 5) (l := 0) (mk := mkS) h0 h.r).mpr rfl
/-- a dict of values by names of a row -/
structure HW (ws : List Str) (h : Prs) : Prop where
  w : Held h
  s : ∀ q ∈ h, q.1 ∈ ws
theorem HW.nil {ws : List Str} : HW ws [] := ⟨Held.nil, fun _ h => (by cases h)⟩
theorem HW.put {ws : List Str} {h : Prs} (H : HW ws h) {n : Str} {v : V} (hn : Nm8 n) (hv : Vok v) (hm : n ∈ ws) : HW ws (putH h n v) := ⟨H.w.put hn hv, fun q hq => by
  rcases mem_putH.mp hq with rfl | z
  · exact hm
  · exact H.s q z.1⟩
theorem HW.drop {ws : List Str} {h : Prs} (H : HW ws h) {n : Str} : HW ws (dropH h n) := ⟨H.w.drop, fun q hq => H.s q (mem_dropH.mp hq).1⟩
theorem HW.len {ws : List Str} {h : Prs} (H : HW ws h) : h.length ≤ ws.length := by
  have := List.Nodup.length_le_of_subset H.w.d (l₂ := ws) fun x hx => by
    obtain ⟨q, hq, rfl⟩ := List.mem_map.mp hx
    exact H.s q hq
  rwa [List.length_map] at this
theorem HW.slen {ws : List Str} {h : Prs} (H : HW ws h) : (srt h).length ≤ ws.length := by rw [srt_len]; exact H.len
theorem Tbl.ne_non {ns : List Nd} {td : List Nat} {i : Nat} {h : Prs} (H : Held h) : ∀ q ∈ srt h, q.2 ≠ .non := fun q hq => (H.v q (mem_srt.mp hq)).ne
theorem cutV_mem {xs : List V} {lo hi : Option Int} {i : Nat} {x : V} (h : (cutV xs lo hi)[i]? = some x) : x ∈ xs := List.mem_of_mem_drop (List.mem_of_mem_take (List.mem_of_getElem? h))
theorem cutV_str {ws : List Str} {lo hi : Option Int} {i : Nat} {x : V} (h : (cutV (ws.map V.str) lo hi)[i]? = some x) : ∃ z, x = .str z ∧ z ∈ ws := by
  obtain ⟨z, hz, rfl⟩ := List.mem_map.mp (cutV_mem h)
  exact ⟨z, rfl, hz⟩
theorem del_mem {ps : Prs} {n : Str} {v : V} (h : fnd (del ps n) n = some v) : False := (mem_del.mp (fnd_some h)).2 rfl
/-- what is left when all of some names are taken away -/
def delAll (ps : Prs) : List Str → Prs
  | [] => ps
  | n :: ns => delAll (del ps n) ns
theorem mem_delAll {x : Str × V} : ∀ {ns : List Str} {ps : Prs}, x ∈ delAll ps ns ↔ x ∈ ps ∧ x.1 ∉ ns
  | [], ps => by simp [delAll]
  | n :: ns, ps => by
    unfold delAll
    rw [mem_delAll, mem_del, List.mem_cons, not_or, and_assoc]
theorem delAll_snoc {n : Str} : ∀ {ns : List Str} {ps : Prs}, delAll ps (ns ++ [n]) = del (delAll ps ns) n
  | [], ps => rfl
  | m :: ns, ps => by show delAll (del ps m) (ns ++ [n]) = del (delAll (del ps m) ns) n; exact delAll_snoc
theorem delAll_nil {ps : Prs} {ns : List Str} (h : ∀ q ∈ ps, q.1 ∈ ns) : delAll ps ns = [] := by
  refine List.eq_nil_iff_forall_not_mem.mpr fun x hx => ?_
  have := mem_delAll.mp hx
  exact this.2 (h x this.1)
end AL

/-! SD: nodes that hold values by names of a row; loops over two lists. -/
namespace AL
open PySem PySem.Spec PyProof.Rows L2 RZ
def NdW (ws : List Str) : Nd → Prop
  | .bare => True
  | .leaf m ps => (0 ≤ m ∧ m < 1024) ∧ Srt ps ∧ ∀ q ∈ ps, q.1 ∈ ws ∧ Vok q.2
  | .fork a b c d => a < 1000000 ∧ b < 1000000 ∧ c < 1000000 ∧ d < 1000000
abbrev NdsW (ws : List Str) (ns : List Nd) : Prop := ∀ x ∈ ns, NdW ws x
theorem NdsW.snoc {ws : List Str} {ns : List Nd} {x : Nd} (h : NdsW ws ns) (hx : NdW ws x) : NdsW ws (ns ++ [x]) := fun y hy => by
  rcases List.mem_append.mp hy with m | m
  · exact h y m
  · rw [List.mem_singleton.mp m]; exact hx
theorem fork4_w {ws : List Str} {a b c d k x : Nat} (h : NdW ws (.fork a b c d)) (hx : x < 1000000) : NdW ws (fork4 a b c d k x) := by
  obtain ⟨h1, h2, h3, h4⟩ := h
  rcases k with _ | _ | _ | k
  · exact ⟨hx, h2, h3, h4⟩
  · exact ⟨h1, hx, h3, h4⟩
  · exact ⟨h1, h2, hx, h4⟩
  · exact ⟨h1, h2, h3, hx⟩
theorem zero_w {ws : List Str} : NdW ws (.fork 0 0 0 0) := ⟨by decide, by decide, by decide, by decide⟩
theorem prtN_w {ws : List Str} : ∀ (f : Nat) (ns : List Nd) (old : Nat) (o : Int) (new : Nat) (own : Int) (l : Nat), NdsW ws ns → old < 1000000 → new < 1000000 → ns.length + f ≤ 900000 → NdsW ws (prtN f ns old o new own l).1 ∧ (prtN f ns old o new own l).2 < 1000000
  | 0, ns, old, o, new, own, l, h, h1, h2, h3 => ⟨h, h1⟩
  | f + 1, ns, old, o, new, own, l, h, h1, h2, h3 => by
    unfold prtN
    split
    · obtain ⟨q1, q2⟩ := prtN_w f ns old o new own (l + 1) h h1 h2 (by omega)
      have := prtN_len f ns old o new own (l + 1)
      exact ⟨q1.snoc (fork4_w zero_w q2), by show (prtN f ns old o new own (l + 1)).1.length < _; omega⟩
    · refine ⟨h.snoc ?_, by show ns.length < _; omega⟩
      have q := fork4_w (ws := ws) (k := dgt o l) (x := old) zero_w h1
      revert q
      cases fork4 0 0 0 0 (dgt o l) old with
      | fork a b c d => exact fun q => fork4_w q h2
      | bare => exact fun q => q
      | leaf m ps => exact fun q => q
theorem part4_w {ws : List Str} {a b c d k : Nat} (h : NdW ws (.fork a b c d)) : part4 a b c d k < 1000000 := by
  obtain ⟨h1, h2, h3, h4⟩ := h
  rcases k with _ | _ | _ | k
  · exact h1
  · exact h2
  · exact h3
  · exact h4
theorem putN_w {ws : List Str} {n : Str} {v : V} (hn : n ∈ ws) (hv : Vok v) (hb : 0 ≤ mkS n ∧ mkS n < 1024) : ∀ (f : Nat) (ns : List Nd) (i l : Nat), NdsW ws ns → i < 1000000 → ns.length + f + 1 ≤ 900000 → NdsW ws (putN f ns i (mkS n) n v l).1 ∧ (putN f ns i (mkS n) n v l).2 < 1000000
  | 0, ns, i, l, h, h1, h2 => ⟨h, h1⟩
  | f + 1, ns, i, l, h, h1, h2 => by
    have one : NdW ws (.leaf (mkS n) [(n, v)]) := ⟨hb, List.pairwise_cons.mpr ⟨fun _ h => (by cases h), List.Pairwise.nil⟩, fun q hq => by rw [List.mem_singleton.mp hq]; exact ⟨hn, hv⟩⟩
    unfold putN
    split
    · rename_i a b c d e
      have hx := h _ (List.mem_of_getElem? e)
      obtain ⟨q1, q2⟩ := putN_w hn hv hb f ns (part4 a b c d (dgt (mkS n) l)) (l + 1) h (part4_w hx) (by omega)
      have := putN_len f ns (part4 a b c d (dgt (mkS n) l)) (mkS n) n v (l + 1)
      exact ⟨q1.snoc (fork4_w hx q2), by show List.length _ < _; omega⟩
    · rename_i m ps e
      have hx := h _ (List.mem_of_getElem? e)
      split
      · refine ⟨h.snoc ⟨hb, hx.2.1.ins n v, fun q hq => ?_⟩, by show ns.length < _; omega⟩
        rcases mem_ins.mp hq with rfl | z
        · exact ⟨hn, hv⟩
        · exact hx.2.2 q z.1
      · exact prtN_w f _ i m ns.length (mkS n) l (h.snoc one) h1 (by omega) (by rw [List.length_append]; show ns.length + 1 + f ≤ _; omega)
    · exact ⟨h.snoc one, by show ns.length < _; omega⟩
theorem lone_mem {ns : List Nd} {ps : List Nat} {k : Nat} (h : loneN ns ps = some k) : k ∈ ps := by
  unfold loneN at h
  split at h
  · rename_i k' e
    split at h
    · cases h
      have : k ∈ ps.filter (fun k => decide (k ≠ 0)) := by rw [e]; exact List.mem_singleton.mpr rfl
      exact (List.mem_filter.mp this).1
    · cases h
  · cases h
theorem parts4_w {ws : List Str} {x : Nd} (h : NdW ws x) : ∀ k ∈ parts4 x, k < 1000000 := by
  cases x with
  | fork a b c d =>
    intro k hk
    obtain ⟨h1, h2, h3, h4⟩ := h
    simp only [parts4, List.mem_cons, List.not_mem_nil, or_false] at hk
    rcases hk with rfl | rfl | rfl | rfl <;> assumption
  | bare => intro k hk; cases hk
  | leaf m ps => intro k hk; cases hk
theorem delN_w {ws : List Str} {n : Str} (hb : 0 ≤ mkS n ∧ mkS n < 1024) : ∀ (f : Nat) (ns : List Nd) (i l : Nat), NdsW ws ns → i < 1000000 → ns.length + f ≤ 900000 → NdsW ws (delN f ns i (mkS n) n l).1 ∧ (delN f ns i (mkS n) n l).2 < 1000000
  | 0, ns, i, l, h, h1, h2 => ⟨h, h1⟩
  | f + 1, ns, i, l, h, h1, h2 => by
    unfold delN
    split
    · rename_i a b c d e
      have hx := h _ (List.mem_of_getElem? e)
      obtain ⟨q1, q2⟩ := delN_w hb f ns (part4 a b c d (dgt (mkS n) l)) (l + 1) h (part4_w hx) (by omega)
      have hl := delN_len f ns (part4 a b c d (dgt (mkS n) l)) (mkS n) n (l + 1)
      have hf := fork4_w (k := dgt (mkS n) l) hx q2
      dsimp only
      split
      · rename_i k ek
        exact ⟨q1, parts4_w hf k (lone_mem ek)⟩
      · exact ⟨q1.snoc hf, by show List.length _ < _; omega⟩
    · rename_i m ps e
      have hx := h _ (List.mem_of_getElem? e)
      split
      · exact ⟨h, by show 0 < _; omega⟩
      · exact ⟨h.snoc ⟨hb, hx.2.1.del n, fun q hq => hx.2.2 q (mem_del.mp hq).1⟩, by show ns.length < _; omega⟩
    · exact ⟨h, h1⟩
theorem putS_w {ws : List Str} {s : St2} {i : Nat} {ps : Prs} {n : Str} {v : V} (hn : n ∈ ws) (hv : Vok v) (h8 : Nm8 n) (h : NdsW ws s.1) (hi : i < 1000000) (hl : s.1.length ≤ 800000) : NdsW ws (putS s i ps n v).1.1 := by
  unfold putS
  split
  · exact h
  · exact (putN_w hn hv (mk_bound h8.n h8.b) 6 s.1 i 0 h hi (by omega)).1
theorem delS_w {ws : List Str} {s : St2} {i : Nat} {ps : Prs} {n : Str} (h8 : Nm8 n) (h : NdsW ws s.1) (hi : i < 1000000) (hl : s.1.length ≤ 800000) : NdsW ws (delS s i ps n).1.1 := by
  unfold delS
  split
  · exact h
  · exact (delN_w (mk_bound h8.n h8.b) 6 s.1 i 0 h hi (by omega)).1
theorem Srt.len_ws {ws : List Str} {ps : Prs} (h : Srt ps) (hs : ∀ q ∈ ps, q.1 ∈ ws) : ps.length ≤ ws.length := by
  have := List.Nodup.length_le_of_subset h.nodup (l₂ := ws) fun x hx => by
    obtain ⟨q, hq, rfl⟩ := List.mem_map.mp hx
    exact hs q hq
  rwa [List.length_map] at this
/-- a node may be shown -/
theorem sh_node {ws : List Str} {x : Nd} (hw : Nms ws) (hl : ws.length ≤ 64) (h : NdW ws x) : Sh 3 60000 x.dat := by
  cases x with
  | bare => exact (Sh.tup (k := 0) (w := 140) (ds := [.str "bare"]) fun d hd => by rw [List.mem_singleton.mp hd]; exact Sh.str (by decide +kernel) (by decide)).mono (by decide) (by decide)
  | fork a b c d =>
    obtain ⟨h1, h2, h3, h4⟩ := h
    have si : ∀ n : Nat, n < 1000000 → Sh 0 140 (.int n) := fun n hn => Sh.int (by omega)
    have s1 : Sh 1 (4 * 141) (.tuple [.int a, .int b, .int c, .int d]) := Sh.tup (k := 0) (w := 140) (ds := [.int a, .int b, .int c, .int d]) fun e he => by
      simp only [List.mem_cons, List.not_mem_nil, or_false] at he
      rcases he with rfl | rfl | rfl | rfl
      · exact si a h1
      · exact si b h2
      · exact si c h3
      · exact si d h4
    refine (Sh.tup (k := 1) (w := 564) (ds := [.str "fork", .tuple [.int a, .int b, .int c, .int d]]) fun e he => ?_).mono (by decide) (by show 2 * 565 ≤ 60000; decide)
    rcases List.mem_cons.mp he with rfl | he
    · exact Sh.str (by decide +kernel) (by decide)
    · rw [List.mem_singleton.mp he]; exact s1
  | leaf m ps =>
    obtain ⟨h1, h2, h3⟩ := h
    have hpl := h2.len_ws fun q hq => (h3 q hq).1
    have s1 : Sh 2 18200 (.tuple (ps.map pd)) := (Sh.tup (k := 1) (w := 282) (ds := ps.map pd) fun d hd => by
      obtain ⟨q, hq, rfl⟩ := List.mem_map.mp hd
      exact sh_pair (hw _ (h3 q hq).1) (h3 q hq).2).mono (by decide) (by rw [List.length_map]; omega)
    refine (Sh.tup (k := 2) (w := 18200) (ds := [.str "leaf", .int m, .tuple (ps.map pd)]) fun e he => ?_).mono (by decide) (by show 3 * _ ≤ _; omega)
    simp only [List.mem_cons, List.not_mem_nil, or_false] at he
    rcases he with rfl | rfl | rfl
    · exact Sh.str (by decide +kernel) (by decide)
    · exact Sh.int (by omega)
    · exact s1
/-! ### two lists beside each other -/
section
variable {L L0 : List Asn} {σ : L2.St} {Q : VK} {K : PySem.W.Frag} {t : TA} {ts : TS} {g : TG} {a b : Addr} {xs ys : List V} {RI : It → Hp → Prop} {nx : L2.St → Hp → Prop} {rt : VK} {bk ct : L2.St → Hp → Prop}
def kZip (K : PySem.W.Frag) (R : It → Hp → Prop) : List V → Hp → Prop := fun vs H1 => ∃ a b xs ys, vs = [.ref a, .ref b] ∧ ((SqL K H1 a xs ∧ SqL K H1 b ys ∧ R (Itz K a b) H1) ∨ (SqT K H1 a xs ∧ SqT K H1 b ys ∧ R (ItzT K a b) H1))
theorem n_zip : xI (iZipA K t) σ RI = xA t σ (kZip K RI) := rfl
theorem e_itZ (h : Ldg L K a xs) (h' : Ldg L K b ys) (k : Al L (RI (Itz K a b))) : Al L (kZip K RI [.ref a, .ref b]) := fun H s => ⟨a, b, xs, ys, rfl, .inl ⟨h.q H s, h'.q H s, k H s⟩⟩
theorem e_forZ (I : Nat → L2.St → List Asn → Prop) (h0 : ∃ M, I 0 σ M ∧ Ent L M) (hl : ∀ i σ M, I i σ M → Ldg M K a xs ∧ Ldg M K b ys)
    (hs : ∀ i x y T σ M, xs[i]? = some x → ys[i]? = some y → I i σ M → Al (pt T (.tup [x, y]) :: M) (xG g (.ref T) σ (kS ts (Nx (I (i + 1))) rt nx (Nx (I (i + 1))))))
    (hd : ∀ σ M, I (min xs.length ys.length) σ M → Al M (nx σ)) : Al L (kFor g ts nx rt bk ct σ (Itz K a b)) :=
  a_loop (min xs.length ys.length) I rfl h0 (fun i σ M h hI H s => (walk_zip (xs := xs) (ys := ys) rfl).goes i H h ⟨(hl i σ M hI).1.q H s, (hl i σ M hI).2.q H s⟩)
    (fun σ M hI H s => (walk_zip (xs := xs) (ys := ys) rfl).stops H ⟨(hl _ σ M hI).1.q H s, (hl _ σ M hI).2.q H s⟩)
    (fun i σ M h hI H s x H' y => by
      obtain ⟨T, x', y', rfl, hT, rfl, e1, e2⟩ := (walk_zip (xs := xs) (ys := ys) rfl).yields i H x H' h ⟨(hl i σ M hI).1.q H s, (hl i σ M hI).2.q H s⟩ y
      exact hs i x' y' T σ M e1 e2 hI _ (s.new hT)) hd
end
end AL
namespace AL
open PySem PySem.Spec PyProof.Rows L2
section
variable {L L0 L1 R : List Asn} {σ : L2.St} {Q : VK} {K : PySem.W.Frag} {P : Hp → Prop} {x y : V} {d e : PyData} {a p : Addr} {h : Prs} {xs ys zs : List (Addr × Prs)}
theorem e_eqD {b : Bool} (h : LdD L K x d) (h' : LdD L K y e) (sd : SeqAt.shaped d = true) (se : SeqAt.shaped e = true) (k : Al L (Q (.bl (PyData.eqv d e)))) : Al L (x2 (cEq K) x y Q) := fun H s => .inr ⟨d, e, h.q H s, h'.q H s, sd, se, k H s⟩
theorem e_neD (h : LdD L K x d) (h' : LdD L K y e) (sd : SeqAt.shaped d = true) (se : SeqAt.shaped e = true) (k : Al L (Q (.bl (!PyData.eqv d e)))) : Al L (x2 (cNe K) x y Q) := fun H s => .inr ⟨d, e, h.q H s, h'.q H s, sd, se, k H s⟩
theorem eqv_self (h : SeqAt.shaped d = true) : PyData.eqv d d = true := SeqAt.eqv_refl d (SeqAt.canLay_of_shaped h)
theorem DsR.mid (r : Tk L (DsR (xs ++ (a, h) :: ys)) L0) (k : Al (pt a (.dK (heldK h)) :: DsR (xs ++ ys) :: L0) P) : Al L P := fun H s => by
  have s1 := Star.split (r.ok _ s)
  rw [List.map_append, List.append_assoc, List.map_cons] at s1
  have s2 : Star (DsR xs :: pt a (.dK (heldK h)) :: (ys.map (fun q => pt q.1 (.dK (heldK q.2))) ++ L0)) H := Star.join (M := xs.map fun q : Addr × Prs => pt q.1 (.dK (heldK q.2))) s1
  refine k H (s2.swap.tail fun _ q => Star.join (M := (xs ++ ys).map fun q : Addr × Prs => pt q.1 (.dK (heldK q.2))) ?_)
  have q2 := Star.split q
  rw [List.map_append, List.append_assoc]
  exact q2
theorem DsR.dim (r : Tk L (pt a (.dK (heldK h))) L0) (r1 : Tk L0 (DsR (xs ++ ys)) R) (k : Al (DsR (xs ++ (a, h) :: ys) :: R) P) : Al L P := fun H s => by
  have s1 : Star (pt a (.dK (heldK h)) :: DsR (xs ++ ys) :: R) H := (r.ok _ s).tail fun _ q => r1.ok _ q
  have s4 := Star.split s1.swap
  rw [List.map_append, List.append_assoc] at s4
  have s5 : Star (DsR xs :: (ys.map (fun q => pt q.1 (.dK (heldK q.2))) ++ (pt a (.dK (heldK h)) :: R))) H := Star.join (M := xs.map fun q : Addr × Prs => pt q.1 (.dK (heldK q.2))) s4
  have s6 : Star (DsR xs :: pt a (.dK (heldK h)) :: (ys.map (fun q => pt q.1 (.dK (heldK q.2))) ++ R)) H := s5.tail fun _ q => by
    have q2 : Star (DsR ys :: pt a (.dK (heldK h)) :: R) _ := Star.join (M := ys.map fun q : Addr × Prs => pt q.1 (.dK (heldK q.2))) q
    exact q2.swap.tail fun _ w => Star.split w
  have s7 := Star.split s6
  refine k H (Star.join (M := (xs ++ (a, h) :: ys).map fun q : Addr × Prs => pt q.1 (.dK (heldK q.2))) ?_)
  rw [List.map_append, List.append_assoc, List.map_cons]
  exact s7
/-- a list of texts -/
theorem LdD.strs {zs : List Str} (h : Ldg L K a (zs.map V.str)) : LdD L K (.ref a) (.list (zs.map PyData.str)) := ⟨fun H s => .lst (h.q H s) (by
  clear h
  induction zs with
  | nil => exact .nil
  | cons z zs ih => exact .cons (.str z) ih)⟩
/-- plain signs -/
def Low (z : Str) : Prop := ∀ c ∈ z.cps.toList, c < 128
theorem Low.app {y z : Str} (h : Low y) (h' : Low z) : Low (y ++ z) := fun c hc => by
  rcases PyProof.Rows.mem_cps_append.mp hc with m | m
  · exact h c m
  · exact h' c m
inductive Lo : PyData → Prop
  | non : Lo .none
  | int (i : Int) : Lo (.int i)
  | str {z : Str} : (∀ c ∈ z.cps.toList, 32 ≤ c ∧ c ≤ 126) → Lo (.str z)
  | tup {ds : List PyData} : (∀ d ∈ ds, Lo d) → Lo (.tuple ds)
  | lst {ds : List PyData} : (∀ d ∈ ds, Lo d) → Lo (.list ds)
theorem low_sign : ∀ c, 32 ≤ c → c ≤ 126 → ∀ q, q = 34 ∨ q = 39 → ∀ x ∈ Builtin.Str.reprChar q c, x < 128 := by
  have h : ((List.range 127).all fun c => !decide (32 ≤ c) || ((Builtin.Str.reprChar 34 c).all (fun x => decide (x < 128)) && (Builtin.Str.reprChar 39 c).all (fun x => decide (x < 128)))) = true := by decide +kernel
  intro c h1 h2 q hq x hx
  have := List.all_eq_true.mp h c (List.mem_range.mpr (by omega))
  rw [decide_eq_true h1, Bool.not_true, Bool.false_or, Bool.and_eq_true] at this
  rcases hq with rfl | rfl
  · exact of_decide_eq_true (List.all_eq_true.mp this.1 x hx)
  · exact of_decide_eq_true (List.all_eq_true.mp this.2 x hx)
theorem low_repr {z : Str} (h : ∀ c ∈ z.cps.toList, 32 ≤ c ∧ c ≤ 126) : Low (reprText z) := by
  have hq : reprQuote z = 34 ∨ reprQuote z = 39 := by unfold reprQuote; split <;> simp
  have key : ∀ (l : List Nat) (acc : Array Nat), (∀ c ∈ l, 32 ≤ c ∧ c ≤ 126) → (∀ x ∈ acc.toList, x < 128) → ∀ x ∈ (l.foldl (fun out c => out ++ (Builtin.Str.reprChar (reprQuote z) c).toArray) acc).toList, x < 128 := by
    intro l
    induction l with
    | nil => intro acc _ ha; exact ha
    | cons c l ih =>
      intro acc hl ha
      refine ih _ (fun d hd => hl d (List.mem_cons_of_mem _ hd)) fun x hx => ?_
      rw [Array.toList_append, List.mem_append] at hx
      rcases hx with m | m
      · exact ha x m
      · have hc := hl c (List.mem_cons_self ..)
        exact low_sign c hc.1 hc.2 _ hq x m
  intro x hx
  have e : (reprText z).cps.toList = (z.cps.toList.foldl (fun out c => out ++ (Builtin.Str.reprChar (reprQuote z) c).toArray) #[reprQuote z]).toList ++ [reprQuote z] := by
    unfold reprText
    rw [← Array.foldl_toList]
    exact Array.toList_push
  rw [e, List.mem_append, List.mem_singleton] at hx
  have q128 : reprQuote z < 128 := by rcases hq with q | q <;> omega
  rcases hx with m | m
  · exact key _ _ h (fun y hy => by
      have hy2 : y = reprQuote z := (by simpa using hy)
      omega) x m
  · omega
theorem Lo.low {d : PyData} (h : Lo d) : Low d.shown := by
  have joins : ∀ {ts : List Str}, (∀ t ∈ ts, Low t) → Low (Str.join ", " ts) := fun hts c hc => by
    rcases (PyProof.Rows.mem_join _ c _).mp hc with ⟨t, ht, m⟩ | ⟨_, m⟩
    · exact hts t ht c m
    · rw [PyProof.Rows.signs_sep] at m
      simp only [List.mem_cons, List.not_mem_nil, or_false] at m
      omega
  have alls : ∀ {ds : List PyData}, (∀ d ∈ ds, Low d.shown) → ∀ t ∈ PyData.shownAll ds, Low t := by
    intro ds
    induction ds with
    | nil => intro _ t ht; rw [PyData.shownAll_nil] at ht; cases ht
    | cons e ds ih =>
      intro hd t ht
      rw [PyData.shownAll_cons] at ht
      rcases List.mem_cons.mp ht with rfl | m
      · exact hd e (List.mem_cons_self ..)
      · exact ih (fun x hx => hd x (List.mem_cons_of_mem _ hx)) t m
  induction h with
  | non => rw [PyData.shown_none]; intro c hc; rw [PyProof.Rows.signs_None] at hc; simp only [List.mem_cons, List.not_mem_nil, or_false] at hc; omega
  | int i =>
    intro c hc
    rcases Nat.lt_or_ge c 128 with q | q
    · exact q
    · exact absurd hc (PyProof.Rows.shown_int_free' ⟨by omega, by omega⟩ i)
  | str h => rw [PyData.shown_str]; exact low_repr h
  | tup _ ih =>
    rw [PyData.shown_tuple]
    refine (Low.app (Low.app (fun c hc => ?_) (joins (alls ih))) fun c hc => ?_)
    · rw [PyProof.Rows.signs_lparen] at hc; simp only [List.mem_cons, List.not_mem_nil, or_false] at hc; omega
    · split at hc
      · have : c ∈ [44, 41] := hc; simp only [List.mem_cons, List.not_mem_nil, or_false] at this; omega
      · have : c ∈ [41] := hc; simp only [List.mem_cons, List.not_mem_nil, or_false] at this; omega
  | lst _ ih =>
    rw [PyData.shown_list]
    refine (Low.app (Low.app (fun c hc => ?_) (joins (alls ih))) fun c hc => ?_)
    · rw [PyProof.Rows.signs_lbrack] at hc; simp only [List.mem_cons, List.not_mem_nil, or_false] at hc; omega
    · rw [PyProof.Rows.signs_rbrack] at hc; simp only [List.mem_cons, List.not_mem_nil, or_false] at hc; omega
theorem shaped_strs {zs : List Str} (h : ∀ z ∈ zs, Low z) : SeqAt.shaped (.list (zs.map PyData.str)) = true := by
  have h1 : PyData.canLayAll0 (zs.map PyData.str) = true := by
    induction zs with
    | nil => rfl
    | cons z zs ih =>
      show (PyData.strOk z && PyData.canLayAll0 (zs.map PyData.str)) = true
      rw [Bool.and_eq_true]
      refine ⟨?_, ih fun y hy => h y (List.mem_cons_of_mem _ hy)⟩
      show z.cps.all _ = true
      rw [← Array.all_toList]
      exact List.all_eq_true.mpr fun c hc => decide_eq_true (Nat.lt_trans (h z (List.mem_cons_self ..) c hc) (by decide))
  have h2 : PyData.depthAll (zs.map PyData.str) = 0 := by
    clear h h1
    induction zs with
    | nil => rfl
    | cons z zs ih =>
      show max 0 (PyData.depthAll (zs.map PyData.str)) = 0
      rw [ih]; rfl
  unfold SeqAt.shaped
  rw [Bool.and_eq_true]
  exact ⟨h1, decide_eq_true (by show PyData.depthAll _ + 1 ≤ 64; rw [h2]; decide)⟩
theorem Vok.lo {v : V} (h : Vok v) : Lo (dV v) := by
  rcases h with ⟨i, rfl, _⟩ | ⟨z, rfl, h1, _⟩
  · exact .int i
  · exact .str h1
theorem Nm8.lo {z : Str} (h : Nm8 z) : Lo (.str z) := h.vok.lo
theorem lo_node {ws : List Str} {x : Nd} (hw : Nms ws) (h : NdW ws x) : Lo x.dat := by
  cases x with
  | bare => exact .tup fun d hd => by rw [List.mem_singleton.mp hd]; exact .str (by decide +kernel)
  | fork a b c d =>
      refine .tup fun e he => ?_
      rcases List.mem_cons.mp he with rfl | he
      · exact .str (by decide +kernel)
      · rw [List.mem_singleton.mp he]
        refine .tup fun e he => ?_
        simp only [List.mem_cons, List.not_mem_nil, or_false] at he
        rcases he with rfl | rfl | rfl | rfl <;> exact .int _
  | leaf m ps =>
      refine .tup fun e he => ?_
      simp only [List.mem_cons, List.not_mem_nil, or_false] at he
      rcases he with rfl | rfl | rfl
      · exact .str (by decide +kernel)
      · exact .int _
      · refine .tup fun d hd => ?_
        obtain ⟨q, hq, rfl⟩ := List.mem_map.mp hd
        have hq2 := h.2.2 q hq
        refine .tup fun e he => ?_
        rcases List.mem_cons.mp he with rfl | he
        · exact (hw _ hq2.1).lo
        · rw [List.mem_singleton.mp he]; exact hq2.2.lo
end
end AL

/-! RX7: sorted of a list of rows (name, value) with unlike names. -/
namespace AL
open PySem PySem.Spec PyProof.Rows L2 PySem.W
section
variable {prog : Program} {w : World} {A : Around} {E : Value → Shared → Prop} {s : Shared}
/-- sorted(l): the copy, then the sort -/
theorem sortedVals {l : Addr} {vs : List Value} {Q : Value → Shared → Prop} (hl : s.heap.IsList l vs.toArray) (hL : vs.length ≤ sizeLine)
    (h : ∀ hh : Heap, hh.get? (s.heap.objs.size + 1) = some (seqObj "list" vs.toArray 0) → (∀ b o, s.heap.get? b = some o → hh.get? b = some o) →
      ∃ κ, (∀ A' : Around, SortsAt prog w A' { s with heap := sortingHeap hh (s.heap.objs.size + 1) vs } κ vs) ∧ Q (.ref (s.heap.objs.size + 1)) { s with heap := sortedHeap hh (s.heap.objs.size + 1) vs (sortVals κ false vs vs).toArray }) :
    wpAny (model prog w) A (call (.builtin "sorted") [.ref l]) Q E s := by
  refine Calls.call_function_entry kind_sorted plain_sorted entry_sorted (args_sorted1 _) ?_
  unfold Builtin.«sorted»
  refine wpAny_bind (m := checkCount "sorted" 1 1 _) (wpAny_pure ?_)
  refine wpAny_bind (collect_list hl ?_)
  refine wpAny_bind (wpAny_newList ?_)
  have hsz : ((s.heap.push (seqObj "list" #[] 0)).update s.heap.objs.size (Obj.mapSeq (· ++ vs.toArray))).objs.size = s.heap.objs.size + 1 := by
    rw [Heap.size_update, size_push']
  have hoL : (((s.heap.push (seqObj "list" #[] 0)).update s.heap.objs.size (Obj.mapSeq (· ++ vs.toArray))).push (seqObj "list" vs.toArray 0)).get? (s.heap.objs.size + 1) = some (seqObj "list" vs.toArray 0) := by
    rw [← hsz]; exact Heap.get?_push_size _ rfl
  have hold : ∀ b o, s.heap.get? b = some o → (((s.heap.push (seqObj "list" #[] 0)).update s.heap.objs.size (Obj.mapSeq (· ++ vs.toArray))).push (seqObj "list" vs.toArray 0)).get? b = some o := fun b o e => by
    have hb : b ≠ s.heap.objs.size := Nat.ne_of_lt (Heap.lt_size e)
    refine Heap.get?_push_of_some _ ?_
    rw [Heap.get?_update_ne _ _ _ _ hb]
    exact Heap.get?_push_of_some _ e
  show wpAny _ _ _ _ _ { s with heap := ((s.heap.push (seqObj "list" #[] 0)).update s.heap.objs.size (Obj.mapSeq (· ++ vs.toArray))).push (seqObj "list" vs.toArray 0) }
  rw [hsz]
  obtain ⟨κ, S, q⟩ := h _ hoL hold
  refine wpAny_bind (wpAny_holding (wpAny_call_entry slot_list_sort ⟨_, hoL, rfl⟩ entry_list_sort (list_sort_vals (s := { s with heap := _ }) (κ := κ) hoL (S _) hL ⟨_, rfl, ?_⟩) (args_list_sort _)))
  exact wpAny_pure ⟨_, rfl, q⟩
end
def rSortT (K : PySem.W.Frag) : List V → Hp → VK → Prop := fun vs H Q => ∃ (p : Addr) (as : List Addr) (ks : Prs), vs = [.ref p] ∧ SqL K H p (as.map V.ref) ∧ as.length = ks.length ∧
  (∀ (j : Nat) (a : Addr) (q : Str × V), as[j]? = some a → ks[j]? = some q → SqT K H a [.str q.1, q.2]) ∧ (ks.map (·.1)).Nodup ∧ (∀ q ∈ ks, IS q.2) ∧
  ∀ (l : Addr) (bs : List Addr), H l = none → bs.length = ks.length → (∀ (j : Nat) (b : Addr) (e : Str × V), bs[j]? = some b → (ks.mergeSort (keyLe (·.1)))[j]? = some e → ∃ i : Nat, as[i]? = some b ∧ ks[i]? = some e) → Q (.ref l) (upd H l (.lst (bs.map V.ref)))
theorem cr_sortT {X : Cx} : CallR X (.builtin "sorted") (rSortT X.K) := by
  intro pins s σ H xs us Q I r h
  obtain ⟨p, as, ks, rfl, hs, lak, hT, hN, hS, q⟩ := h
  obtain ⟨its, rv, hl, hz⟩ := I.list hs
  rw [Vals.ref1 r]
  have eits : its = as.map Value.ref := by
    clear hl hs lak hT q
    revert its
    induction as with
    | nil => intro its rv; cases rv; rfl
    | cons a as ih => intro its rv; cases rv with | cons r1 r2 => cases r1; rw [ih (by rw [List.length_map] at hz ⊢; rw [List.length_cons] at hz; omega) _ r2]; rfl
  subst eits
  rw [List.length_map] at hz
  -- what stands at a row
  have pr : ∀ (j : Nat) (a : Addr), as[j]? = some a → ∃ (e : Str × V) (t : Tok) (u : Value), ks[j]? = some e ∧ RelV e.2 u ∧ IsTup s.heap a #[Value.str e.1 t, u] := by
    intro j a hj
    obtain ⟨e, he⟩ : ∃ e, ks[j]? = some e := ⟨_, List.getElem?_eq_getElem (by rw [← lak]; exact (List.getElem?_eq_some_iff.mp hj).1)⟩
    obtain ⟨us, r1, t1, _⟩ := I.tuple (hT j a e hj he)
    cases r1 with
    | cons r1 r2 =>
      cases r2 with
      | cons r2 r3 =>
        cases r3
        obtain ⟨t, rfl⟩ := r1
        exact ⟨e, t, _, he, r2, t1⟩
  -- the values of the rows
  have hv : ∀ e ∈ ks, ∀ u, RelV e.2 u → (∃ (i : Int) (t : Tok), u = .int i t) ∨ ∃ (x : Str) (t : Tok), u = .str x t := by
    intro e he u ru
    rcases hS e he with ⟨i, ei⟩ | ⟨x, ei⟩
    · rw [ei] at ru; obtain ⟨t, rfl⟩ := ru; exact .inl ⟨i, t, rfl⟩
    · rw [ei] at ru; obtain ⟨t, rfl⟩ := ru; exact .inr ⟨x, t, rfl⟩
  obtain ⟨kv, lkv, hkv⟩ : ∃ kv : List (Str × Value), kv.length = ks.length ∧ ∀ (j : Nat) (a : Addr) (p : Str × Value), as[j]? = some a → kv[j]? = some p → ∃ (e : Str × V) (t : Tok), ks[j]? = some e ∧ e.1 = p.1 ∧ RelV e.2 p.2 ∧ IsTup s.heap a #[Value.str p.1 t, p.2] := by
    clear q hs hz hl rv hN hv hT
    revert ks
    induction as with
    | nil => intro ks lak hS pr; cases ks with
      | nil => exact ⟨[], rfl, fun j a p e => by cases e⟩
      | cons _ _ => cases lak
    | cons a as ih =>
      intro ks lak hS pr
      cases ks with
      | nil => cases lak
      | cons e ks =>
        obtain ⟨kv, l1, h1⟩ := ih ks (by simpa using lak) (fun q hq => hS q (List.mem_cons_of_mem _ hq)) fun j b hj => by
          have := pr (j + 1) b (by simpa using hj)
          simpa using this
        obtain ⟨e', t, u, e1, e2, e3⟩ := pr 0 a rfl
        cases e1
        refine ⟨(e.1, u) :: kv, by rw [List.length_cons, List.length_cons, l1], fun j b p hj hp => ?_⟩
        cases j with
        | zero => cases hj; cases hp; exact ⟨e, t, rfl, rfl, e2, e3⟩
        | succ j => exact h1 j b p (by simpa using hj) (by simpa using hp)
  have ekv : kv.map (·.1) = ks.map (·.1) := by
    apply List.ext_getElem
    · rw [List.length_map, List.length_map, lkv]
    · intro j h1 h2
      rw [List.length_map] at h1 h2
      obtain ⟨e, t, e1, e2, _⟩ := hkv j _ _ (List.getElem?_eq_getElem (by omega)) (List.getElem?_eq_getElem h1)
      rw [List.getElem_map, List.getElem_map, ← e2]
      rw [List.getElem?_eq_getElem h2] at e1
      rw [Option.some.inj e1]
  refine sortedVals (vs := as.map Value.ref) hl.isList (by rw [List.length_map]; exact hz) fun hh ho hk => ?_
  have ne0 : ∀ b o, s.heap.get? b = some o → b ≠ s.heap.objs.size + 1 := fun b o e => Nat.ne_of_lt (Nat.lt_succ_of_lt (Heap.lt_size e))
  have R : RowsAt (sortingHeap hh (s.heap.objs.size + 1) (as.map Value.ref)) as kv := by
    refine ⟨by omega, fun j b e f g => ?_, by rw [ekv]; exact hN, fun e he => ?_⟩
    · obtain ⟨e', t, e1, e2, e3, o, o1, o2, o3, o4⟩ := hkv j b e f g
      exact ⟨t, o, sortingHeap_old (ne0 _ _ o1) (hk _ _ o1), o2, o3, o4⟩
    · obtain ⟨j, hj⟩ := List.mem_iff_getElem?.mp he
      obtain ⟨a, ha⟩ : ∃ a, as[j]? = some a := ⟨_, List.getElem?_eq_getElem (by have := (List.getElem?_eq_some_iff.mp hj).1; omega)⟩
      obtain ⟨e', t, e1, e2, e3, _⟩ := hkv j a e ha hj
      exact hv e' (List.mem_of_getElem? e1) _ e3
  refine ⟨rowKind (sortingHeap hh (s.heap.objs.size + 1) (as.map Value.ref)) as, fun A' => RowsAt.sorts (s := { s with heap := sortingHeap hh (s.heap.objs.size + 1) (as.map Value.ref) }) R, ?_⟩
  have ehk : EachIs (fun v (b : Str × V) => (rowKind (sortingHeap hh (s.heap.objs.size + 1) (as.map Value.ref)) as).keyOf v = some b.1.cps.toList) (as.map Value.ref) ks := by
    refine EachIs.of_zip (by rw [List.length_map]; exact lak) fun x hx => ?_
    obtain ⟨j, hj⟩ := List.mem_iff_getElem?.mp hx
    obtain ⟨j1, j2⟩ := List.getElem?_zip_eq_some.mp hj
    rw [List.getElem?_map] at j1
    obtain ⟨b, jb, e⟩ := Option.map_eq_some_iff.mp j1
    obtain ⟨p', hp'⟩ : ∃ p', kv[j]? = some p' := ⟨_, List.getElem?_eq_getElem (by have := (List.getElem?_eq_some_iff.mp jb).1; omega)⟩
    obtain ⟨e', t, e1, e2, _⟩ := hkv j b p' jb hp'
    have ee : e' = x.2 := Option.some.inj (e1.symm.trans j2)
    rw [← e, ← ee, e2]
    exact R.key jb hp'
  have ehr : EachIs (fun v (q : Str × V) => ∃ (j : Nat) (b : Addr), v = .ref b ∧ as[j]? = some b ∧ ks[j]? = some q) (as.map Value.ref) ks := by
    refine EachIs.of_zip (by rw [List.length_map]; exact lak) fun x hx => ?_
    obtain ⟨j, hj⟩ := List.mem_iff_getElem?.mp hx
    obtain ⟨j1, j2⟩ := List.getElem?_zip_eq_some.mp hj
    rw [List.getElem?_map] at j1
    obtain ⟨b, jb, e⟩ := Option.map_eq_some_iff.mp j1
    exact ⟨j, b, e.symm, jb, j2⟩
  have eo := sortVals_each (κ := rowKind (sortingHeap hh (s.heap.objs.size + 1) (as.map Value.ref)) as) (rev := false) (fun b : Str × V => b.1.cps.toList) ehr ehk
  have eo2 : (ks.mergeSort (sortLe (rowKind (sortingHeap hh (s.heap.objs.size + 1) (as.map Value.ref)) as).toKeyOrd false fun b : Str × V => b.1.cps.toList)) = ks.mergeSort (keyLe (·.1)) := congrArg (ks.mergeSort ·) sortLe_key
  rw [eo2] at eo
  obtain ⟨bs, eb, lb, kbs⟩ := each_refs eo
  rw [eb]
  obtain ⟨eF, heF⟩ := PyProof.Rows.sortedHeap_at (vs := as.map Value.ref) (out := (bs.map Value.ref).toArray) ho
  have kS : ∀ b o, s.heap.get? b = some o → (sortedHeap hh (s.heap.objs.size + 1) (as.map Value.ref) (bs.map Value.ref).toArray).get? b = some o := fun b o e => (PyProof.Rows.sortedHeap_old (ne0 _ _ e) (Heap.lt_size (hk _ _ e))).trans (hk _ _ e)
  rw [List.length_mergeSort] at lb
  have hlen : (bs.map V.ref).length ≤ sizeLine := by rw [List.length_map]; omega
  have rv2 : Vals (bs.map V.ref) ((bs.map Value.ref).toArray).toList := vals_maps V.ref Value.ref bs fun _ _ => rfl
  exact ⟨.ref _, upd H (s.heap.objs.size + 1) (.lst (bs.map V.ref)), I.laid (t' := s.toks) kS (Nat.le_succ _) ⟨hlen, _, eF, rv2, heF⟩, rfl, q _ bs (I.hok.fresh (Nat.le_succ _)) lb kbs⟩
theorem k_sortT {X : Cx} {K : PySem.W.Frag} (e : X.K = K) : CallR X (.builtin "sorted") (rSortT K) := e ▸ cr_sortT
theorem dp_rows2 {K : PySem.W.Frag} {T : Hp} : ∀ {as : List Addr} {qs : Prs}, as.length = qs.length → (∀ q ∈ qs, IS q.2) → (∀ (j : Nat) (a : Addr) (q : Str × V), as[j]? = some a → qs[j]? = some q → SqT K T a [.str q.1, q.2]) → DpAll K T (as.map V.ref) (qs.map pd)
  | [], [], _, _, _ => .nil
  | a :: as, q :: qs, hl, hs, h => by
    refine .cons (Dp.tup (h 0 a q rfl rfl) (.cons (.str _) (.cons ?_ .nil))) (dp_rows2 (by simpa using hl) (fun p hp => hs p (List.mem_cons_of_mem _ hp)) fun j b p e f => h (j + 1) b p (by simpa using e) (by simpa using f))
    rcases hs q (List.mem_cons_self ..) with ⟨i, e⟩ | ⟨z, e⟩ <;> rw [e]
    · exact .int i
    · exact .str z
theorem dp_rows_inv {K : PySem.W.Frag} {T : Hp} : ∀ {qs : Prs} {xs : List V}, (∀ q ∈ qs, IS q.2) → DpAll K T xs (qs.map pd) → ∃ as : List Addr, xs = as.map V.ref ∧ as.length = qs.length ∧ ∀ (j : Nat) (a : Addr) (q : Str × V), as[j]? = some a → qs[j]? = some q → SqT K T a [.str q.1, q.2]
  | [], xs, _, h => by cases h; exact ⟨[], rfl, rfl, fun j a q e => by cases e⟩
  | q :: qs, xs, hs, h => by
    cases h with
    | cons h1 h2 =>
      obtain ⟨as, rfl, l1, k1⟩ := dp_rows_inv (fun p hp => hs p (List.mem_cons_of_mem _ hp)) h2
      cases (show Dp K T _ (.tuple [.str q.1, dV q.2]) from h1) with
      | tup t1 t2 =>
        rename_i a ys
        cases t2 with
        | cons t2 t3 =>
          cases t3 with
          | cons t3 t4 =>
            cases t4
            cases t2
            refine ⟨a :: as, rfl, by rw [List.length_cons, List.length_cons, l1], fun j b p e f => ?_⟩
            cases j with
            | zero =>
              cases e; cases f
              rcases hs q (List.mem_cons_self ..) with ⟨i, e⟩ | ⟨z, e⟩
              · rw [e] at t3 ⊢; cases t3; exact t1
              · rw [e] at t3 ⊢; cases t3; exact t1
            | succ j => exact k1 j b p (by simpa using e) (by simpa using f)
section
variable {L L0 : List Asn} {Q : VK} {K : PySem.W.Frag} {p : Addr} {xs : List V} {ks : Prs}
theorem SqT.ups {H H' : Hp} {a : Addr} {ys : List V} (h : ∀ b o, H b = some o → H' b = some o) (w : SqT K H a ys) : SqT K H' a ys := by
  rcases w with (w | ⟨o, w⟩) | w
  · exact .inl (.inl (h _ _ w))
  · exact .inl (.inr ⟨o, h _ _ w⟩)
  · exact .inr w
theorem e_sortT (h : Ldg L K p xs) (hz : LdZs L K xs (ks.map pd)) (hN : (ks.map (·.1)).Nodup) (hS : ∀ q ∈ ks, IS q.2) (k : ∀ l, Al (LsA K l ((ks.mergeSort (keyLe (·.1))).map pd) :: L) (Q (.ref l))) : Al L (xB (rSortT K) [.ref p] Q) := fun H s => by
  obtain ⟨as, rfl, la, ha⟩ := dp_rows_inv hS (hz.q H s)
  refine ⟨p, as, ks, rfl, h.q H s, la, fun j a q e f => SqT.ups (fun b o e => (tupH_some e).1) (ha j a q e f), hN, hS, fun l bs hl lb hb => k l _ ⟨un (one l (.lst (bs.map V.ref))) (tupH H), H, ⟨fun b o e => ?_, fun b o e => ?_, fun b o u e e2 => ?_⟩, ⟨bs.map V.ref, un_l one_same, ?_⟩, s⟩⟩
  · rcases un_some e with z | z
    · obtain ⟨rfl, rfl⟩ := one_some z; exact upd_same
    · have z1 := (tupH_some z).1
      rw [upd_ne (ne_of_none z1 hl)]; exact z1
  · rw [upd_ne (ne_of_none e hl)]; exact e
  · rcases un_some e with z | z
    · obtain ⟨rfl, rfl⟩ := one_some z; rw [hl] at e2; cases e2
    · obtain ⟨z1, ys, rfl⟩ := tupH_some z; trivial
  · refine dp_rows2 (by rw [List.length_mergeSort]; exact lb) (fun q hq => hS q (List.mem_mergeSort.mp hq)) fun j b q e f => ?_
    obtain ⟨i, i1, i2⟩ := hb j b q e f
    refine SqT.ups (fun c o ec => ?_) (ha i b q i1 i2)
    obtain ⟨z1, ys, rfl⟩ := tupH_some ec
    refine tupH_of ?_
    unfold un
    cases w : one l (.lst (bs.map V.ref)) c with
    | none => exact ec
    | some u =>
      obtain ⟨rfl, rfl⟩ := one_some w
      rw [hl] at z1; cases z1
end
end AL

/-! SE: values are shown apart. -/
namespace AL
open PySem PySem.Spec PyProof.Rows L2
def escC (q c : Nat) : List Nat := if c = q ∨ c = 92 then [92, c] else [c]
theorem esc_sign : ∀ c, 32 ≤ c → c ≤ 126 → ∀ q, q = 34 ∨ q = 39 → Builtin.Str.reprChar q c = escC q c := by
  have h : ((List.range 127).all fun c => !decide (32 ≤ c) || (decide (Builtin.Str.reprChar 34 c = escC 34 c) && decide (Builtin.Str.reprChar 39 c = escC 39 c))) = true := by decide +kernel
  intro c h1 h2 q hq
  have := List.all_eq_true.mp h c (List.mem_range.mpr (by omega))
  rw [decide_eq_true h1, Bool.not_true, Bool.false_or, Bool.and_eq_true] at this
  rcases hq with rfl | rfl
  · exact of_decide_eq_true this.1
  · exact of_decide_eq_true this.2
theorem quote_or {z : Str} : reprQuote z = 34 ∨ reprQuote z = 39 := by unfold reprQuote; split <;> simp
theorem repr_list {z : Str} (h : ∀ c ∈ z.cps.toList, 32 ≤ c ∧ c ≤ 126) : (reprText z).cps.toList = reprQuote z :: (z.cps.toList.flatMap (escC (reprQuote z)) ++ [reprQuote z]) := by
  have hq := quote_or (z := z)
  have key : ∀ (l : List Nat) (acc : Array Nat), (∀ c ∈ l, 32 ≤ c ∧ c ≤ 126) → (l.foldl (fun out c => out ++ (Builtin.Str.reprChar (reprQuote z) c).toArray) acc).toList = acc.toList ++ l.flatMap (escC (reprQuote z)) := by
    intro l
    induction l with
    | nil => intro acc _; simp
    | cons c l ih =>
      intro acc hl
      have hc := hl c (List.mem_cons_self ..)
      rw [List.foldl_cons, ih _ fun d hd => hl d (List.mem_cons_of_mem _ hd), Array.toList_append, esc_sign c hc.1 hc.2 _ hq, List.flatMap_cons, List.append_assoc]
  have e : (reprText z).cps.toList = (z.cps.toList.foldl (fun out c => out ++ (Builtin.Str.reprChar (reprQuote z) c).toArray) #[reprQuote z]).toList ++ [reprQuote z] := by
    unfold reprText
    rw [← Array.foldl_toList]
    exact Array.toList_push
  rw [e, key _ _ h]
  rfl
theorem esc_inj {q : Nat} (hq : q ≠ 92) : ∀ {l m : List Nat}, l.flatMap (escC q) = m.flatMap (escC q) → l = m
  | [], [], _ => rfl
  | [], c :: m, h => by
    rw [List.flatMap_nil, List.flatMap_cons] at h
    unfold escC at h
    split at h <;> cases h
  | c :: l, [], h => by
    rw [List.flatMap_nil, List.flatMap_cons] at h
    unfold escC at h
    split at h <;> cases h
  | c :: l, d :: m, h => by
    rw [List.flatMap_cons, List.flatMap_cons] at h
    have two : ∀ {c d : Nat} {a b : List Nat}, escC q c ++ a = escC q d ++ b → c = d ∧ a = b := by
      intro c d a b h
      unfold escC at h
      split at h <;> rename_i hc <;> split at h <;> rename_i hd
      · cases h; exact ⟨rfl, rfl⟩
      · cases h
        exact absurd (.inr rfl) hd
      · cases h
        exact absurd (.inr rfl) hc
      · cases h; exact ⟨rfl, rfl⟩
    obtain ⟨rfl, h2⟩ := two h
    rw [esc_inj hq h2]
theorem repr_text_inj {y z : Str} (hy : ∀ c ∈ y.cps.toList, 32 ≤ c ∧ c ≤ 126) (hz : ∀ c ∈ z.cps.toList, 32 ≤ c ∧ c ≤ 126) (h : reprText y = reprText z) : y = z := by
  have e := congrArg (fun s : Str => s.cps.toList) h
  rw [repr_list hy, repr_list hz] at e
  obtain ⟨e1, e2⟩ := List.cons.inj e
  rw [e1] at e2
  have e3 := List.append_inj_left' e2 rfl
  have hq : reprQuote z ≠ 92 := by rcases quote_or (z := z) with q | q <;> omega
  have e4 := esc_inj hq e3
  cases y; cases z
  congr 1
  exact Array.toList_inj.mp e4
theorem first_str {z : Str} (h : ∀ c ∈ z.cps.toList, 32 ≤ c ∧ c ≤ 126) : ∃ r, (PyData.str z).shown.cps.toList = reprQuote z :: r := ⟨_, by rw [PyData.shown_str]; exact repr_list h⟩
theorem not_quote_int {i : Int} {q : Nat} {r : List Nat} (hq : q = 34 ∨ q = 39 ∨ q = 78) : (PyData.int i).shown.cps.toList ≠ q :: r := fun e => by
  have : q ∈ (PyData.int i).shown.cps.toList := by rw [e]; exact List.mem_cons_self ..
  exact PyProof.Rows.shown_int_free' (k := q) ⟨by omega, by omega⟩ i this
open TL in
theorem shown_neg (m : Nat) : (PyData.int (Int.negSucc m)).shown.cps.toList = 45 :: numL (m + 1) := by
  rw [PyData.shown_int, PyProof.Rows.signs_ofString]
  have e : toString (Int.negSucc m) = "-" ++ toString (((m + 1 : Nat) : Int)) := rfl
  have e2 := tl_num (m + 1)
  have e3 : (toString (((m + 1 : Nat) : Int))).toList.map Char.toNat = numL (m + 1) := by rw [← PyProof.Rows.signs_ofString]; exact e2
  rw [e, String.toList_append, List.map_append, e3]
  rfl
open TL in
theorem shown_pos (n : Nat) : (PyData.int (n : Int)).shown.cps.toList = numL n := by
  rw [PyData.shown_int]
  exact tl_num n
open TL in
theorem shown_int_inj {i j : Int} (h : (PyData.int i).shown = (PyData.int j).shown) : i = j := by
  have e := congrArg (fun s : Str => s.cps.toList) h
  cases i with
  | ofNat n =>
    cases j with
    | ofNat m =>
      have e2 : numL n = numL m := (shown_pos n).symm.trans (e.trans (shown_pos m))
      rw [numL_inj e2]
    | negSucc m =>
      have e2 : numL n = 45 :: numL (m + 1) := (shown_pos n).symm.trans (e.trans (shown_neg m))
      exact absurd (by rw [e2]; exact List.mem_cons_self ..) (numL_free (n := n) (s := 45) (.inl (by decide)))
  | negSucc n =>
    cases j with
    | ofNat m =>
      have e2 : numL m = 45 :: numL (n + 1) := (shown_pos m).symm.trans (e.symm.trans (shown_neg n))
      exact absurd (by rw [e2]; exact List.mem_cons_self ..) (numL_free (n := m) (s := 45) (.inl (by decide)))
    | negSucc m =>
      have e2 : 45 :: numL (n + 1) = 45 :: numL (m + 1) := (shown_neg n).symm.trans (e.trans (shown_neg m))
      have e3 := numL_inj (List.cons.inj e2).2
      rw [show n = m by omega]
/-- shown alike, the same -/
theorem shown_inj {x y : V} (hx : VokN x) (hy : VokN y) (h : (dV x).shown = (dV y).shown) : x = y := by
  have hl := congrArg (fun s : Str => s.cps.toList) h
  have hnn : (dV .non).shown.cps.toList = 78 :: [111, 110, 101] := by show PyData.none.shown.cps.toList = _; rw [PyData.shown_none]; exact PyProof.Rows.signs_None
  rcases hx with rfl | ⟨i, rfl, _⟩ | ⟨z, rfl, hz, _⟩ <;> rcases hy with rfl | ⟨j, rfl, _⟩ | ⟨w, rfl, hw, _⟩
  · rfl
  · rw [hnn] at hl; exact absurd hl.symm (not_quote_int (.inr (.inr rfl)))
  · obtain ⟨r, e⟩ := first_str hw
    rw [hnn, show dV (.str w) = .str w from rfl, e] at hl
    have := (List.cons.inj hl).1
    rcases quote_or (z := w) with q | q <;> omega
  · rw [hnn] at hl; exact absurd hl (not_quote_int (.inr (.inr rfl)))
  · rw [shown_int_inj h]
  · obtain ⟨r, e⟩ := first_str hw
    rw [show dV (.str w) = .str w from rfl, e] at hl
    exact absurd hl (not_quote_int (by rcases quote_or (z := w) with q | q <;> omega))
  · obtain ⟨r, e⟩ := first_str hz
    rw [hnn, show dV (.str z) = .str z from rfl, e] at hl
    have := (List.cons.inj hl).1
    rcases quote_or (z := z) with q | q <;> omega
  · obtain ⟨r, e⟩ := first_str hz
    rw [show dV (.str z) = .str z from rfl, e] at hl
    exact absurd hl.symm (not_quote_int (by rcases quote_or (z := z) with q | q <;> omega))
  · have h2 : (PyData.str z).shown = (PyData.str w).shown := h
    rw [PyData.shown_str, PyData.shown_str] at h2
    rw [repr_text_inj hz hw h2]
end AL

/-! EN12: loops over a dict, which stands locked meanwhile. -/
namespace AL
open PySem PySem.Spec PyProof.Rows L2
section
variable {L L0 R : List Asn} {σ σ' σw : L2.St} {Q : VK} {K : PySem.W.Frag} {t te : TE} {tt : TT} {g : TG} {ts : TS} {RI : It → Hp → Prop} {d p : Addr} {od o : Obj} {u : HO} {v : V} {kvs : List (Key × V)} {ws : List Nat} {nx : L2.St → Hp → Prop} {rt : VK} {bk ct : L2.St → Hp → Prop}
def LockK (d : Addr) (od : Obj) (u : HO) (Q : VK) : VK := fun v H' => H' d = some (.frz od u) ∧ Q v (upd H' d u)
theorem e_lockE (r : Tk L (pt d (.dK kvs)) L0) (k : ∀ od, Al (pt d (.frz od (.dK kvs)) :: L0) (xE t σ (LockK d od (.dK kvs) Q))) : Al L (xE (tLockE t) σ Q) := fun H s =>
  ⟨d, .dK kvs, r.pat s, trivial, fun od => k od _ ((r.ok _ s).set (.frz od (.dK kvs)) id)⟩
theorem e_unlock (r : Tk L (pt d (.frz od (.dK kvs))) L0) (k : Al (pt d (.dK kvs) :: L0) (Q v)) : Al L (LockK d od (.dK kvs) Q v) := fun H s => ⟨r.pat s, k _ ((r.ok _ s).set (.dK kvs) id)⟩
def kKeys (R : It → Hp → Prop) : VK := fun x H1 => ∃ d o, x = .ref d ∧ ((∃ kvs, H1 d = some (.frz o (.dK kvs)) ∧ R (Itk d o kvs) H1) ∨ ∃ kvs, H1 d = some (.frz o (.dT kvs)) ∧ R (Itkt d o kvs) H1)
theorem n_keys : xI (iKeys te) σ RI = xE te σ (kKeys RI) := rfl
theorem e_keys (r : Tk L (pt d (.frz o (.dK kvs))) L0) (k : Al L (RI (Itk d o kvs))) : Al L (kKeys RI (.ref d)) := fun H s => ⟨d, o, rfl, .inl ⟨kvs, r.pat s, k H s⟩⟩
theorem e_lcK (hw : Wp σ ws σw) (I : Nat → List V → List Asn → Prop) (h0 : ∃ M, I 0 [] M ∧ Ent L M) (hl : ∀ i acc M, I i acc M → ∃ M0, Tk M (pt d (.frz o (.dK kvs))) M0)
    (hs : ∀ i k v acc M D, kvs[i]? = some (k, v) → I i acc M → Al (pt D (.lst acc) :: M) (xG g (kV k) σw (kLcB tt te D (LcN I (i + 1) D) ws σ)))
    (hd : ∀ acc M D, I kvs.length acc M → Al (pt D (.lst acc) :: M) (Q (.ref D))) : Al L (kLc g tt te ws σ Q (Itk d o kvs)) :=
  a_lcG kvs.length I h0 (fun i acc M h hI H s => by
      obtain ⟨M0, r⟩ := hl i acc M hI
      exact ⟨r.pat s, h⟩) (fun acc M hI H s => by
      obtain ⟨M0, r⟩ := hl _ acc M hI
      exact ⟨r.pat s, Nat.le_refl _⟩) (fun i acc M D h hI H s x H' y => by
    obtain ⟨rfl, k, v, e, rfl⟩ := y
    rw [hw.eq]
    exact hs i k v acc M D e hI _ s) hd
theorem e_forK (I : Nat → L2.St → List Asn → Prop) (h0 : ∃ M, I 0 σ M ∧ Ent L M) (hl : ∀ i σ M, I i σ M → ∃ M0, Tk M (pt d (.frz o (.dK kvs))) M0)
    (hs : ∀ i k v σ M, kvs[i]? = some (k, v) → I i σ M → Al M (xG g (kV k) σ (kS ts (Nx (I (i + 1))) rt nx (Nx (I (i + 1))))))
    (hd : ∀ σ M, I kvs.length σ M → Al M (nx σ)) : Al L (kFor g ts nx rt bk ct σ (Itk d o kvs)) :=
  a_loop kvs.length I rfl h0 (fun i σ M h hI H s => by
      obtain ⟨M0, r⟩ := hl i σ M hI
      exact ⟨r.pat s, h⟩) (fun σ M hI H s => by
      obtain ⟨M0, r⟩ := hl _ σ M hI
      exact ⟨r.pat s, Nat.le_refl _⟩) (fun i σ M h hI H s x H' y => by
    obtain ⟨rfl, k, v, e, rfl⟩ := y
    exact hs i k v σ M e hI H' s) hd
/-- d[z] of a locked dict -/
theorem e_xDf {z : Str} (r : Tk L (pt p (.frz o (.dK kvs))) L0) (hv : valV kvs (.inr z) = some v) (k : Al L (Q v)) : Al L (x2 (xIx K) (.ref p) (.str z) Q) := fun H s => .inr ⟨p, v, rfl, .inl ⟨kvs, .inr z, .inr ⟨o, r.pat s⟩, rfl, hv.symm⟩, k H s⟩
end
end AL

/-! EN13: d.get(k, x). -/
namespace AL
open PySem PySem.Spec PyProof.Rows L2
section
variable {L L0 R : List Asn} {σ : L2.St} {Q : VK} {td ty tx : TE} {a : Addr} {x y : V} {kvs : List (Key × V)}
def kG2a (ty tx : TE) (σ : L2.St) (Q : VK) : VK := fun x H1 => ∃ a, x = .ref a ∧ IsD H1 a ∧ ty σ H1 fun y H2 => tx σ H2 fun z H3 => ∃ o, DGet H3 a y o ∧ Q (o.getD z) H3
def kG2b (a : Addr) (tx : TE) (σ : L2.St) (Q : VK) : VK := fun y H2 => tx σ H2 fun z H3 => ∃ o, DGet H3 a y o ∧ Q (o.getD z) H3
def kG2c (a : Addr) (y : V) (Q : VK) : VK := fun z H3 => ∃ o, DGet H3 a y o ∧ Q (o.getD z) H3
theorem n_dget2 : xE (tDGet2 td ty tx) σ Q = xE td σ (kG2a ty tx σ Q) := rfl
theorem e_g2a (r : Tk L (pt a (.dK kvs)) L0) (k : Al L (xE ty σ (kG2b a tx σ Q))) : Al L (kG2a ty tx σ Q (.ref a)) := fun H s => ⟨a, rfl, .inl ⟨kvs, .inl (r.pat s)⟩, k H s⟩
theorem n_g2b : kG2b a tx σ Q y = xE tx σ (kG2c a y Q) := rfl
theorem e_g2k {κ : Key} (r : Tk L (pt a (.dK kvs)) L0) (e : y = kV κ) (k : Al L (Q ((valV kvs κ).getD x))) : Al L (kG2c a y Q x) := fun H s => ⟨_, by rw [e]; exact DGet.k (r.pat s), k H s⟩
theorem e_g2c {z : Str} (r : Tk L (pt a (.dK kvs)) L0) (k : Al L (Q ((valV kvs (.inr z)).getD x))) : Al L (kG2c a (.str z) Q x) := e_g2k (κ := .inr z) r rfl k
end
end AL

/-! RX8: a caught exception that is noted in a name beyond the suite; its class, its field; raising; lambdas handed to a def. -/
namespace AL
open PySem PySem.Spec PyProof.Rows L2
/-! ### a caught exception as a thing of the heap -/
def ExK (cls : Value) (d : Option Addr) (a : Addr) : HO := .ext fun h => ∃ (o : Obj) (fv : Array Value), h.get? a = some o ∧ Zc cls d o ∧ o.data = .fields fv
theorem exK_ok {P : Program} {w : World} {H : Hp} {h : Heap} {a : Addr} {cls : Value} {d : Option Addr} {o : Obj} {fv : Array Value} (e : h.get? a = some o) (z : Zc cls d o) (q : o.data = .fields fv) : ObjOk P w H h a (ExK cls d a) :=
  ⟨⟨o, fv, e, z, q⟩, ⟨o, e⟩, fun _ _ ⟨u, v, e1, e2⟩ k => ⟨u, v, k u e1, e2⟩⟩
theorem inv_track {X : Cx} {pins : List (Addr × Obj)} {σ : L2.St} {H : Hp} {s : Shared} {a : Addr} {o : HO} (I : Inv X pins σ H s) (h0 : X.s_0.heap.get? a = none) (hn : H a = none) (hL : a ≠ X.env.locals)
    (hC : ∀ x c, X.env.cells.lookup x = some c → c ≠ a) (hP : ∀ p ∈ X.pn ++ pins, p.1 ≠ a) (new : ObjOk X.prog X.w (upd H a o) s.heap a o) : Inv X pins σ (upd H a o) s := by
  have hu : ∀ {b : Addr} {u : HO}, H b = some u → upd H a o b = some u := fun {b u} q => by rw [upd_ne (ne_of_none q hn)]; exact q
  refine ⟨I.ok, I.os, I.bare, ⟨I.base.keep, I.base.slot, fun b u e n x => ?_, I.base.there, fun b xs e => hu (I.base.tups b xs e), fun b u xs e => hu (I.base.frzs b u xs e), fun b ps e => ?_⟩, I.loc, I.cell, ?_, fun x c e => ?_, fun p hp => ?_, fun b u e => ?_, I.len⟩
  · rw [upd_ne (fun z => by rw [z, h0] at e; cases e)]; exact I.base.free b u e n x
  · obtain ⟨m, q⟩ := I.base.tbls b ps e
    exact ⟨m, hu q⟩
  · rw [upd_ne (Ne.symm hL)]; exact I.free
  · rw [upd_ne (hC x c e)]; exact I.freeC x c e
  · obtain ⟨e, n, ne, nf, dd⟩ := I.pin p hp
    exact ⟨e, by rw [upd_ne (hP p hp)]; exact n, ne, nf, dd⟩
  · by_cases hb : b = a
    · subst hb
      rw [upd_same] at e
      cases e
      exact new
    · rw [upd_ne hb] at e
      exact (I.hok b u e).stay (fun _ _ _ q => q) (fun _ q => hu q) (fun _ _ q => hu q)
/-- what the clause 'except x as n: m = n' wishes of an exception of the body: slot i is n's, slot j is m's -/
def wNote (K : PySem.W.Frag) (c : Value) (i j : Nat) (Wout : WX) (D : Ends) : WX := fun cls d σ H =>
  ∃ b, PySem.W.exmOne K cls c = some b ∧ (b = true → ∀ a, H a = none → D.nx (((σ.set i (some (.ref a))).set j (some (.ref a))).set i none) (upd H a (ExK cls d a))) ∧ (b = false → Wout cls d σ H)
def tTry (tb : WX → TS) (K : PySem.W.Frag) (c : Value) (i j : Nat) (Wout : WX) : TS := fun D σ H => tb (wNote K c i j Wout D) D σ H
theorem ps_try_note {X : Cx} {x n m : Str} {c : Value} {i j : Nat} {body : List Stmt} {q1 q2 q3 np pos pos' : Pos} {tb : WX → TS} {Wout : WX} (hs : X.stack = X.env :: X.outer) (hf : X.env.frame = some X.env.locals) (hN : X.N.Nodup) (hi : X.N[i]? = some n) (hj : X.N[j]? = some m)
    (hln : X.env.kindOf n = some .local) (hlm : X.env.kindOf m = some .local) (hex : X.ex = []) (hdn : (n == ("__debug__" : Str)) = false) (hcn : (n == ("__classdict__" : Str)) = false) (hc : Names X x c) (tk : Takes X Wout)
    (hb : ∀ (W : WX) (pn : List (Addr × Obj)) (xe : Value → Shared → Prop), Takes (X.tr pn xe) W → PassesOwn (model X.prog X.w) X.A X.env xe → PSs (X.tr pn xe) body (tb W))
    (hsw : swapsWith (.Name n q2) (some (.Name m q1)) q3.line X.env = pure false := by rfl) :
    PS X (.Try body [.ExceptHandler (some (.Name x np)) (some n) [.Assign [.Name m q1] (.Name n q2) q3] pos'] [] [] pos) (tTry tb X.K c i j Wout) := by
  refine ⟨fun pins s σ H D I h => ?_⟩
  have okX := I.ok
  have frX : X.A.frames = some (X.env :: X.outer) := by rw [okX.frames, hs]
  have locn : Loc X.env.scope n := .inl hln
  refine wpAny_Try_except ?_
  have hrun := (hb (wNote X.K c i j Wout D) (X.pn ++ pins) (fun e t1 => wpAny (model X.prog X.w) X.A (noteFrame e X.env) (fun _ t2 => wpAny (model X.prog X.w) X.A (setFlight e none)
    (fun _ t3 => wpAny (model X.prog X.w) X.A (handleBy e X.env [.ExceptHandler (some (.Name x np)) (some n) [.Assign [.Name m q1] (.Name n q2) q3] pos']) (SP X pins D) X.xe t3) X.xe t2) X.xe t1)
    (fun u t y => ?_) PassesOwn.looking).run [] s σ H D (I.toTry _) h
  · refine wpAny_mono hrun (fun f t q => ?_) (fun _ _ q => q)
    cases f with
    | next =>
      obtain ⟨σ1, H1, J1, q1⟩ := q
      exact wpAny_execs_nil ⟨σ1, H1, J1.ofTry okX, q1⟩
    | brk => exact let ⟨σ1, H1, J1, q1⟩ := q; ⟨σ1, H1, J1.ofTry okX, q1⟩
    | cont => exact let ⟨σ1, H1, J1, q1⟩ := q; ⟨σ1, H1, J1.ofTry okX, q1⟩
    | ret v => exact let ⟨w, σ1, H1, J1, r1, q1⟩ := q; ⟨w, σ1, H1, J1.ofTry okX, r1, q1⟩
  · obtain ⟨a, B, tI, pins1, σ1, H1, cls, d, rfl, J0, nb, up, sky, na, eo, ab, b, hb1, hyes, hno⟩ := y
    have J : Inv X pins σ1 H1 tI := J0.ofTry okX
    have sky1 : Sky B (X.env :: X.outer) a (Zc cls d) X.env.locals t.heap := by rw [← hs]; exact sky
    show wpAny (model X.prog X.w) X.A (noteFrame (.ref a) X.env) _ _ _
    refine Sky.land Zc.steady frX hf sky1 fun hp3 fl3 up3 => ?_
    have J3 : Inv X pins σ1 H1 { t with heap := hp3 } := J.landed nb fl3.1 (up.trans up3) eo ab
    obtain ⟨o3, fv3, ea3, hz3, hd3⟩ := fl3.there
    have nfr : a ∉ frs (X.env :: X.outer) := fun hm => by
      obtain ⟨_, o', e', hnf⟩ := fl3.2.2.1.mem hm
      rw [ea3] at e'
      cases e'
      exact hnf _ hd3
    have nL : a ≠ X.env.locals := fun z => nfr (List.mem_filterMap.mpr ⟨X.env, List.mem_cons_self, by rw [hf, z]⟩)
    have nF : a ∉ X.fs := fun hm => by
      obtain ⟨en, hen, q⟩ := List.mem_filterMap.mp hm
      exact nfr (List.mem_filterMap.mpr ⟨en, List.mem_cons_of_mem _ hen, q⟩)
    have nI : tI.heap.get? a = none := by
      cases e : tI.heap.get? a with
      | none => rfl
      | some o =>
        have z := nb a o e (by rw [hs]; exact nfr)
        rw [fl3.2.1] at z
        cases z
    have n0 : X.s_0.heap.get? a = none := by
      cases e : X.s_0.heap.get? a with
      | none => rfl
      | some o =>
        obtain ⟨o', z⟩ := J.base.there a o e (by rw [hex]; exact fun z => nomatch z)
        rw [nI] at z
        cases z
    have S3 := J3.suite ea3 hd3 na nL nF
    refine wpAny_handleBy_cons (codeAny_handlers_test ?_) (by intro q; cases q)
    have LT : PySem.W.Looks (model X.prog X.w) hp3 (typeOf (.ref a)) cls := fun A Q E s k q => wpAny_typeOf_ref (k _ _ ea3) (by rw [hz3.1]; exact q)
    have LM := PySem.W.exm_one (M := model X.prog X.w) (J3.kIn) LT hb1
    have test : ∀ {Q : Value → Shared → Prop} {E : Value → Shared → Prop}, Q c { t with heap := hp3 } → wpAny (model X.prog X.w) (X.A.mark (some (.ref a))) (eval (.Name x np) X.env) Q E { t with heap := hp3 } := fun {Q E} q => by
      obtain ⟨g1, g2, g3 | ⟨g3, g4, g5⟩⟩ := hc
      · exact ld_glob (X := X.suite a ((a, o3) :: (X.pn ++ pins))) S3 g1 g3 q g2
      · exact ld_blt (X := X.suite a ((a, o3) :: (X.pn ++ pins))) S3 g1 g3 g4 q g5 g2
    refine test (LM.here ?_)
    cases b with
    | true =>
      refine codeAny_handlers_suite_as ?_
      refine HandSPX.lands_againZ fl3 fun hp4 fl4 up4 => ?_
      have J4 : Inv X pins σ1 H1 { t with heap := hp4 } := J.landed nb fl4.1 ((up.trans up3).trans up4) eo ab
      obtain ⟨o4, fv4, ea4, hz4, hd4⟩ := fl4.there
      have S4 := J4.suite ea4 hd4 na nL nF
      refine store_ok (X := X.suite a ((a, o4) :: (X.pn ++ pins))) (v := .ref a) S4 hN hi locn rfl (fun t5 S5 => ?_) (.inr hln)
      have il : i < σ1.length := by rw [S4.len]; exact (List.getElem?_eq_some_iff.mp hi).1
      have hsu : PSs (X.suite a ((a, o4) :: (X.pn ++ pins))) [.Assign [.Name m q1] (.Name n q2) q3] (tAsg (tVar i) (gName j)) :=
        pss_one (ps_set hN hj (.inl hlm) (pe_var hi (.inl hln) hdn hcn) hsw (.inr hlm))
      refine wpAny_mono (hsu.run [] t5 _ H1 ⟨fun σ6 H6 => σ6 = (σ1.set i (some (.ref a))).set j (some (.ref a)) ∧ H6 = H1, fun _ _ => False, fun _ _ => False, fun _ _ => False⟩ S5 ⟨.ref a, by rw [List.getElem?_set_self il], rfl, rfl⟩) (fun f t6 q => ?_) (fun _ _ z => False.elim z)
      cases f with
      | next =>
        obtain ⟨σ6, H6, S6, e1, e2⟩ := q
        subst e1 e2
        show wpAny (model X.prog X.w) X.A (do bindName X.env n .none; unbindBehindTheSuite X.env n pos') _ X.xe t6
        refine gone_ok (X := X.suite a ((a, o4) :: (X.pn ++ pins))) S6 hN hi hln fun t7 S7 => ?_
        obtain ⟨ea7, nh7, _, _, _⟩ := S7.pin (a, o4) (List.mem_append_left _ List.mem_cons_self)
        have J7 := S7.unsuite okX
        refine ⟨_, _, inv_track J7 n0 na nL (fun y c2 e z => ?_) (fun p hp z => ?_) (exK_ok ea7 hz4 hd4), hyes rfl a na⟩
        · obtain ⟨v, oc, eoc, edc⟩ := J7.cell y c2 e
          rw [z] at eoc
          rw [ea7] at eoc
          cases eoc
          rw [hd4] at edc
          cases edc
        · have q := (J.pin p hp).1
          rw [z, nI] at q
          cases q
      | brk => exact let ⟨_, _, _, z⟩ := q; False.elim z
      | cont => exact let ⟨_, _, _, z⟩ := q; False.elim z
      | ret v => exact let ⟨_, _, _, _, _, z⟩ := q; False.elim z
    | false =>
      show wpAny _ X.A (handleBy (.ref a) X.env []) _ _ _
      refine wpAny_handleBy_nil ?_
      obtain ⟨k1, k2, k3, oe, fv, T, oT, ts', he, hz, hd, h1, hr⟩ := id fl3
      unfold PySem.passOn
      refine wpAny_bind (wpAny_field he hd h1 ?_)
      rw [if_neg (show ¬ ((Value.ref T == Value.none) = true) from by simp)]
      have fin : wpAny (model X.prog X.w) X.A (setFlight (.ref a) X.env.frame) (fun _ t4 => wpAny (model X.prog X.w) X.A (throw (.ref a) : Sem Flow) (SP X pins D) X.xe t4) X.xe { t with heap := hp3 } := by
        rw [hf]
        refine HandSPX.setFlight_upZ fl3 fun hp4 hh4 up4 => wpAny_throw (tk _ _ ?_)
        exact ⟨a, B, tI, pins, σ1, H1, cls, d, rfl, J, nb, (up.trans up3).trans up4, .inr (.inr (by rw [hs]; exact hh4)), na, eo, ab, hno rfl⟩
      first
        | exact wpAny_bind (wpAny_pure (wpAny_bind fin))
        | exact wpAny_bind fin
end AL

/-! RX9: classes of errors: made and raised, looked at, their field; lambdas handed to a def. -/
namespace AL
open PySem PySem.Spec PyProof.Rows L2 LamX
/-! ### a class of errors -/
def excCls (K : PySem.W.Frag) (C : Addr) : Bool := match K.lookup C with
  | some ⟨.type "type", _, .cls cd, sl⟩ => (match cd.mro, sl.toList with
    | .ref C' :: bm, [_, _, _, _, some (.builtin n), _] => C' == C && n == "ValueError.__new__" && !cd.hasDel && cd.hasDict && PySem.HandSPX.refsVE bm
    | _, _ => false)
  | _ => false
theorem excCls_ok {K : PySem.W.Frag} {C : Addr} (q : excCls K C = true) : ∃ nm qn N bs bm sn sub ab col dd k0 k1 k2 k3 k5, K.lookup C = some (excClassObj nm qn C N bs bm true sn sub ab col dd k0 k1 k2 k3 k5 "ValueError.__new__") ∧ PySem.HandSPX.refsVE bm = true := by
  unfold excCls at q
  split at q
  · rename_i dd cd sl ho
    split at q
    · rename_i C1 bm k0 k1 k2 k3 n k5 hm hs
      simp only [Bool.and_eq_true, beq_iff_eq, Bool.not_eq_true'] at q
      obtain ⟨⟨⟨⟨rfl, rfl⟩, hdel⟩, hdi⟩, ht⟩ := q
      obtain ⟨nm, bs, mro, ns, qn, hd, sn, sub, ab, col, del⟩ := cd
      dsimp only at hm hdel hdi
      subst hm hdel hdi
      obtain ⟨l⟩ := sl
      simp only at hs
      subst hs
      exact ⟨nm, qn, ns, bs, bm, sn, sub, ab, col, dd, k0, k1, k2, k3, k5, ho, ht⟩
    · cases q
  · cases q
structure XcC (K : PySem.W.Frag) (C : Addr) : Prop where
  o : OexC K C
  ga : PySem.W.findIn K (.ref C) "__getattribute__" = some (some (.builtin "BaseException.__getattribute__"))
  gg : PySem.W.findIn K (.ref C) "__getattr__" = some none
  hd : PySem.W.hasDictIn K C = true
  ca : PySem.W.findIn K (.ref C) "__class__" = some (some (.builtin "object.__class__"))
  sp : PySem.W.specialIn K (.builtin "object.__class__") "__get__" = some (some (.builtin "getset_descriptor.__get__"))
  tk : PySem.W.takesIn K (.builtin "object.__class__") = some true
  mr : PySem.W.mroIn K C (.type "object") = some true
  wh : PySem.W.findIn K (.ref C) "what" = some none
def xcB (K : PySem.W.Frag) (C : Addr) : Bool := excCls K C && (decide (PySem.W.findIn K (.ref C) "__setattr__" = some (some (.builtin "object.__setattr__"))) && (decide (PySem.W.subIn K (.ref C) (.type "BaseException") = some true) && (decide (PySem.W.typeIn K (.ref C) = some (.type "type")) &&
  (PySem.W.keepIn K (.ref C) && (decide (PySem.W.findIn K (.ref C) "__getattribute__" = some (some (.builtin "BaseException.__getattribute__"))) && (decide (PySem.W.findIn K (.ref C) "__getattr__" = some none) && (PySem.W.hasDictIn K C && (decide (PySem.W.findIn K (.ref C) "__class__" = some (some (.builtin "object.__class__"))) &&
  (decide (PySem.W.specialIn K (.builtin "object.__class__") "__get__" = some (some (.builtin "getset_descriptor.__get__"))) && (decide (PySem.W.takesIn K (.builtin "object.__class__") = some true) && (decide (PySem.W.mroIn K C (.type "object") = some true) && decide (PySem.W.findIn K (.ref C) "what" = some none))))))))))))
theorem xcB_ok {K : PySem.W.Frag} {C : Addr} (h : xcB K C = true) : XcC K C := by
  unfold xcB at h
  simp only [Bool.and_eq_true, decide_eq_true_eq] at h
  obtain ⟨h1, h2, h3, h4, h5, h6, h7, h8, h9, h10, h11, h12, h13⟩ := h
  exact ⟨⟨excCls_ok h1, h2, h3, h4, h5⟩, h6, h7, h8, h9, h10, h11, h12, h13⟩
theorem XcC.cl {K : PySem.W.Frag} {C : Addr} (T : XcC K C) : (PySem.W.clsIn K C).isSome = true := by
  obtain ⟨nm, q, N, bs, bm, sn, sub, ab, col, dd, k0, k1, k2, k3, k5, e, _⟩ := T.o.cls
  unfold PySem.W.clsIn
  rw [e] <;> rfl
/-! ### isinstance of a noted error, its field -/
/-- a noted error of the class at D, its dict at dd -/
def NtA (D dd a : Addr) (w : V) : Asn := fun H => H a = some (ExK (.ref D) (some dd) a) ∧ H dd = some (.xd [("what", w)])
theorem nt_inst {X : Cx} {pins : List (Addr × Obj)} {σ : L2.St} {H : Hp} {s : Shared} {a D dd : Addr} {fs : List (Str × V)} (I : Inv X pins σ H s) (e : H a = some (ExK (.ref D) (some dd) a)) (ed : H dd = some (.xd fs)) :
    ∃ ox od, PySem.W.InstAt s.heap a ox D (some od) ∧ ∃ mA, s.heap.Ns1 dd mA ∧ (∀ f, RelO (fs.lookup f) (mA f)) ∧ s.heap.get? dd = some od ∧ ∀ n, PySem.W.lookIn n od = some (mA n) := by
  obtain ⟨⟨o, fv, e1, z, q⟩, _, _⟩ := I.hok a _ e
  obtain ⟨mA, hns, r⟩ := I.hok dd _ ed
  obtain ⟨od, ho, hl⟩ := lookIn_ns hns
  exact ⟨o, od, ⟨e1, z.1, by unfold PySem.W.notCls; rw [q] <;> rfl, by rw [z.2]; exact ho⟩, mA, hns, r, ho, hl⟩
def rIsK (K : PySem.W.Frag) : List V → Hp → VK → Prop := fun xs H Q => ∃ (a D dd : Addr) (fs : List (Str × V)) (c : V) (b : Bool), xs = [.ref a, c] ∧ XcC K D ∧ H a = some (ExK (.ref D) (some dd) a) ∧ H dd = some (.xd fs) ∧
  ((∃ cv : Value, (∀ u, RelV c u → u = cv) ∧ PySem.W.kitOne K (.ref D) cv = some b) ∨ ∃ (t : Addr) (Cs : List Addr), c = .ref t ∧ SqT K H t (Cs.map V.ref) ∧ PySem.W.kitAny K (.ref D) (Cs.map Value.ref) = some b) ∧ Q (.bl b) H
theorem vals_refs : ∀ {Cs : List Addr} {us : List Value}, Vals (Cs.map V.ref) us → us = Cs.map Value.ref
  | [], _, .nil => rfl
  | c :: Cs, _, .cons r rs => by
    have e := vals_refs rs
    subst e
    cases r
    rfl
theorem call_isK {X : Cx} : CallR X (.builtin "isinstance") (rIsK X.K) := by
  intro pins s σ H xs us Q I r h
  obtain ⟨a, D, dd, fs, c, b, rfl, T, ea, ed, hc, q⟩ := h
  obtain ⟨ox, od, J, _⟩ := nt_inst I ea ed
  have KX : PySem.W.KitX X.K (.ref a) (.ref D) (fun hp => PySem.W.InstAt hp a ox D (some od)) := PySem.W.kitx_exc T.cl T.ga T.gg T.o.exC T.ca T.sp T.tk T.mr
  cases r with
  | cons ra rr =>
    cases rr with
    | cons rc rn =>
      cases rn
      cases ra
      rcases hc with ⟨cv, hcv, hk⟩ | ⟨t, Cs, rfl, ht, hk⟩
      · obtain rfl := hcv _ rc
        exact PySem.W.kia_one KX I.kIn J hk (fun z => nomatch z) fun tk => ⟨.bl b, H, I.kept (t' := tk) fun _ _ z => z, rfl, q⟩
      · cases rc
        obtain ⟨its, rt, pl, _⟩ := I.tuple ht
        obtain rfl := vals_refs rt
        obtain ⟨⟨oc, odx, odt, osl⟩, eo, e1, n, e3⟩ := pl
        dsimp only at e1 e3
        subst e1 e3
        exact PySem.W.kia_tup (its := Cs.map Value.ref) KX I.kIn J eo hk (fun z => nomatch z) fun tk => ⟨.bl b, H, I.kept (t' := tk) fun _ _ z => z, rfl, q⟩
theorem k_isK {X : Cx} {K : PySem.W.Frag} (e : X.K = K) : CallR X (.builtin "isinstance") (rIsK K) := e ▸ call_isK
def tXk (K : PySem.W.Frag) (n : Str) (te : TE) : TE := fun σ H Q => te σ H fun x H1 => ∃ (a D dd : Addr) (fs : List (Str × V)) (v : V), x = .ref a ∧ XcC K D ∧ PySem.W.findIn K (.ref D) n = some none ∧ H1 a = some (ExK (.ref D) (some dd) a) ∧ H1 dd = some (.xd fs) ∧ fs.lookup n = some v ∧ Q v H1
theorem pe_xk {X : Cx} {K : PySem.W.Frag} {e : Expr} {te : TE} {pos : Pos} {n : Str} (eK : X.K = K) (he : PE X e te) (hb : attributeBase e n X.env (eval e X.env) = eval e X.env := by rfl) : PE X (.Attribute e n pos) (tXk K n te) := by
  subst eK
  refine ⟨fun pins s σ H Q I h => ?_⟩
  refine attr_of hb (thn (he.run pins s σ H _ I h) fun u s1 ⟨x, H1, I1, rx, a, D, dd, fs, v, ex, T, hno, ea, ed, l, q⟩ => ?_)
  subst ex
  obtain rfl : u = Value.ref a := rx
  obtain ⟨ox, od, J, mA, hns, hr, ho, hl⟩ := nt_inst I1 ea ed
  obtain ⟨u, hu, ru⟩ := RelO.some_of (v := v) (o := mA n) (by rw [← l]; exact hr n)
  exact HandSPX.exc_get I1.kIn J T.ga T.gg T.o.exC (PySem.W.findObj_own T.hd hno rfl (by rw [hl, hu])) (handed_of ru) ⟨v, H1, I1.tok _, ru, q⟩
/-! ### raise C(w), where C's __init__ keeps the field "what" -/
def spI (C : Addr) : Sp := fun vs H Q _ => ∃ (a : Addr) (w : V), vs = [.ref a, w] ∧ H a = some (exo a C none) ∧ ∀ d, H d = none → d ≠ a → Q .non (upd (upd H d (exd d [("what", w)])) a (exo a C (some d)))
def kRaise (C : Addr) (W : WX) (σ : L2.St) : List V → Hp → Prop := fun vs H1 => ∃ w, vs = [w] ∧ ∀ d, H1 d = none → W (.ref C) (some d) σ (upd H1 d (.xd [("what", w)]))
def tRaise (C : Addr) (W : WX) (ta : TA) : TS := fun _ σ H => ta σ H (kRaise C W σ)
section
variable {X : Cx} {K : PySem.W.Frag}
theorem ps_raise_w {W : WX} {x : Str} {C fI : Addr} {k : Nat} {ps : List Str} {e : Expr} {ta : TA} {p pos pos' : Pos} (hc : X.calm = true) (tk : Takes X W) (T : XcC X.K C) (iC : PySem.W.findIn X.K (.ref C) "__init__" = some (some (.ref fI))) (tI : PySem.W.typeIn X.K (.ref fI) = some (.type "function"))
    (FI : FnG X.prog X.w X.K X.mg X.base k fI ps (spI C)) (hr : Rm (k + 1) X.A) (hg : Gl X x) (hm : X.mg x = some (.ref C)) (ha : PA X [e] ta)
    (hdb : (x == ("__debug__" : Str)) = false := by decide) (he : starEach [e] X.env = (false, eval e X.env) :: starEach [] X.env := by rfl) (hpl : (backTo pos (starEach [] X.env)).any (·.1) = false := by rfl) :
    PS X (.Raise (some (.Call (.Name x p) [e] [] pos)) none pos') (tRaise C W ta) := by
  refine ps_raise (t := fun σ H Q => ta σ H fun vs H1 => ∃ w, vs = [w] ∧ ∀ d, H1 d = none → Q (.ref C) (some d) (upd H1 d (.xd [("what", w)]))) hc tk ?_
  intro pins s σ H Q I h
  obtain ⟨nm, q, N, bs, bm, sn, sub, ab, col, dd, k0, k1, k2, k3, k5, hC, hbm⟩ := T.o.cls
  refine wpAny_Call_Name_kw (ld_glob I hg hm ?_ hdb)
  refine PySem.W.callWith_K (h₀ := X.base) I.ok.mod.kin T.o.kC (thn (ha.run pos pins s σ H _ I h) fun us s1 ⟨vs, H1, I1, r1, w, ew, q1⟩ => ⟨I1.kIn, ?_⟩) he hpl
  subst ew
  obtain ⟨u, rfl, ru⟩ := vals1 r1
  show wpAny _ _ (call (.ref C) [u]) _ _ _
  obtain ⟨hp, g, dr, tk1, os⟩ := s1
  have hsz : hp.objs.size ≤ hp.objs.size + 1 := Nat.le_succ _
  have hn : H1 (hp.objs.size + 1) = none := I1.hok.fresh hsz
  have kept : ∀ b o, hp.get? b = some o → ((hp.push (PySem.W.kdv_tup [u])).push (PySem.HandSPX.excO C hp.objs.size)).get? b = some o := fun b o e => Heap.get?_push_of_some _ (Heap.get?_push_of_some _ e)
  have atNew : ((hp.push (PySem.W.kdv_tup [u])).push (PySem.HandSPX.excO C hp.objs.size)).get? (hp.objs.size + 1) = some (PySem.HandSPX.excO C hp.objs.size) := by heap_get
  have J : L2.Inv X pins σ (upd H1 (hp.objs.size + 1) (exo (hp.objs.size + 1) C none)) ⟨(hp.push (PySem.W.kdv_tup [u])).push (PySem.HandSPX.excO C hp.objs.size), g, dr, tk1, os⟩ :=
    I1.laid (t' := tk1) (a := hp.objs.size + 1) (o := exo (hp.objs.size + 1) C none) kept hsz (exo_ok atNew)
  have gd : (X.A.under (.builtin "type.__call__" ⟨.ref C :: [u], []⟩)).guards = some [] := by
    have e1 : (Code.builtin "type.__call__" ⟨.ref C :: [u], []⟩).isGuard = false := by
      show guardIds.contains "type.__call__" = false
      decide +kernel
    simp [Around.under, Code.guards, e1, pushGuards, hr.g]
  refine wpAny_call (PySem.HandSPX.call_own F.excBase_ValueError (fun Y => PySem.HandSPX.refsVE_contains Y bm hbm) (I1.kIn _ _ hC) (PySem.W.looks_findIn I1.kIn iC) (fun self => PySem.W.bind_fn I1.kIn self tI) (by rw [sizeLine_eq]; exact (by decide : 1 ≤ 16777216))
    (codeAny_mono (FI.run _ X.stack _ _ [Value.ref (hp.objs.size + 1), u] [V.ref (hp.objs.size + 1), w] (fun v H2 => v = .non ∧ ∃ d, H1 d = none ∧ d ≠ hp.objs.size + 1 ∧ H2 = upd (upd (upd H1 (hp.objs.size + 1) (exo (hp.objs.size + 1) C none)) d (exd d [("what", w)])) (hp.objs.size + 1) (exo (hp.objs.size + 1) C (some d)))
      (fun _ _ _ => False) ⟨hr.r.make C [u] [], gd⟩ (J.env0.make C [u] []) J.kIn (.cons rfl (.cons ru .nil)) ⟨_, w, rfl, upd_same, fun d hd nd => ⟨rfl, d, by rw [upd_ne nd] at hd; exact hd, nd, rfl⟩⟩) fun r s' hq' => ?_))
  cases r with
  | error er => exact (px0 (X := X) pins σ _ _ er s' J hq')
  | ok fl =>
    cases fl with
    | ret u2 =>
      obtain ⟨v, H2, os2, bare2, un2, hok2, rv, ev, d, hd, nd, e2⟩ := hq'
      subst ev e2
      obtain ⟨h2, g2, d2, t2, os'⟩ := s'
      have q2 := q1 d hd
      have eq2 : upd (L2.del (upd (upd (upd H1 (hp.objs.size + 1) (exo (hp.objs.size + 1) C none)) d (exd d [("what", w)])) (hp.objs.size + 1) (exo (hp.objs.size + 1) C (some d))) (hp.objs.size + 1)) d (.xd [("what", w)]) = upd H1 d (.xd [("what", w)]) := by
        funext b
        by_cases hb : b = d
        · rw [hb, upd_same, upd_same]
        · rw [upd_ne hb, upd_ne hb]
          by_cases hba : b = hp.objs.size + 1
          · rw [hba, L2.del_same, hn]
          · rw [L2.del_ne hba, upd_ne hba, upd_ne hb, upd_ne hba]
      rw [← eq2] at q2
      exact ⟨rv, mk_end (raises_own T.o.exC T.o.tyC) I1 hsz kept un2 hok2 os2 bare2 upd_same (by rw [upd_ne nd, upd_same]) hd q2⟩
    | next => exact False.elim hq'
    | brk => exact False.elim hq'
    | cont => exact False.elim hq'
end
/-! ### an __init__ of such a class: Base.__init__(self, text); self.what = what -/
structure BasC (K : PySem.W.Frag) (C0 : Addr) : Prop where
  rd : PySem.W.readsIn K C0 (.type "type") = true
  ga : PySem.W.specialIn K (.ref C0) "__getattribute__" = some (some (.builtin "type.__getattribute__"))
  at_ : PySem.W.findCls K (.ref C0) (.type "type") "__init__" = some (.val (.builtin "ValueError.__init__"))
def isVeInit : Option PySem.W.CFound → Bool
  | some (.val (.builtin n)) => n == "ValueError.__init__"
  | _ => false
theorem isVeInit_ok {o : Option PySem.W.CFound} (h : isVeInit o = true) : o = some (.val (.builtin "ValueError.__init__")) := by
  unfold isVeInit at h
  split at h
  · rw [beq_iff_eq] at h; rw [h]
  · cases h
def basB (K : PySem.W.Frag) (C0 : Addr) : Bool := PySem.W.readsIn K C0 (.type "type") && (decide (PySem.W.specialIn K (.ref C0) "__getattribute__" = some (some (.builtin "type.__getattribute__"))) && isVeInit (PySem.W.findCls K (.ref C0) (.type "type") "__init__"))
theorem basB_ok {K : PySem.W.Frag} {C0 : Addr} (h : basB K C0 = true) : BasC K C0 := by
  unfold basB at h
  simp only [Bool.and_eq_true, decide_eq_true_eq] at h
  exact ⟨h.1, h.2.1, isVeInit_ok h.2.2⟩
theorem pe_clsinit {X : Cx} {x0 : Str} {C0 : Addr} {e : Expr} {es : List Expr} {ta : TA} {p1 p2 pos : Pos} {pl : Sem Bool} (hg : Gl X x0) (hm : X.mg x0 = some (.ref C0)) (B : BasC X.K C0) (ha : PA X (e :: es) ta)
    (hdb : (x0 == ("__debug__" : Str)) = false := by decide)
    (hc : eval (.Call (.Attribute (.Name x0 p1) "__init__" p2) (e :: es) [] pos) X.env = (do
      let ov ← eval (.Name x0 p1) X.env
      standAt p2.atName
      let (f, first) ← holding [ov] (getMethod ov "__init__" pl)
      callWith pos f first (backTo pos (starEach (e :: es) X.env)) (backToKw pos (keywordEach [] X.env))) := by rfl)
    (he : starEach (e :: es) X.env = (false, eval e X.env) :: starEach es X.env := by rfl) (hpl : (backTo pos (starEach es X.env)).any (·.1) = false := by rfl) :
    PE X (.Call (.Attribute (.Name x0 p1) "__init__" p2) (e :: es) [] pos) (tVeI X.K ta) := by
  refine ⟨fun pins s σ H Q I h => ?_⟩
  refine PySem.W.methodCall_KW (ld_glob I hg hm ?_ hdb) hc
  refine PySem.W.method_cls I.kIn B.ga (PySem.W.cls_value I.kIn B.rd B.at_ (by decide +kernel) ?_)
  show wpAny _ _ (callWith pos (Value.builtin "ValueError.__init__") [] (backTo pos (starEach (e :: es) X.env)) []) _ _ _
  refine PyProof.Rows.callWith_method1 (thn (ha.run pos pins _ σ H _ (I.tok _) h) fun us s1 ⟨vs, H1, I1, r1, a, C, ws, ev, hl, T, ea, q⟩ => ?_) he hpl
  subst ev
  cases r1 with
  | @cons _ u0 _ ur ra rw1 =>
    obtain rfl : u0 = Value.ref a := ra
    exact oinit_ok T I1 ea (by rw [← Paired.length rw1, sizeLine_eq]; omega) fun s' J => ⟨.non, H1, J, rfl, q⟩
/-- the reading of such a body -/
theorem init_reads {K : PySem.W.Frag} {C : Addr} {txt : Str} {vs : List V} {Q : VK} {H : Hp} {E : XK} (T : XcC K C) (h : spI C vs H Q E) :
    tSeq (tDrop (tVeI K (tCons (tVar 0) (tCons (tC (.str txt)) tNil)))) (tOst K "what" (tVar 0) (tVar 1)) { nx := fun _ H' => Q .non H', rt := Q } (L2.start ["self", "what"] vs) H := by
  obtain ⟨a, w, rfl, ea, k⟩ := h
  exact ⟨.ref a, rfl, a, C, [.str txt], rfl, (by show 1 ≤ 1000; omega), T.o, ea, w, rfl, .ref a, rfl, a, C, rfl, T.o, T.wh, .inl ⟨ea, fun dx hn ne => k dx hn ne⟩⟩
end AL

/-! RX10: a lambda without parameters handed to a def that calls it and notes an error that it lets out. -/
namespace AL
open PySem PySem.Spec PyProof.Rows L2 LamX
def tAct (f c' : Addr) (q : Str) (tl : XK → Hp → VK → Prop) (W : WX) (i : Nat) : TE := fun σZ HZ Q => σZ[i]? = some (some (.ref f)) ∧ HZ c' = some (CodeO c' q) ∧ tl (fun c d H' => W c d σZ H') HZ Q
section
variable {X : Cx} {pins : List (Addr × Obj)} {σ : L2.St} {H HZ : Hp} {s s1 : Shared}
theorem act_w {CXg : CXT} {Eg : XK} {Ng : List Str} {qg : Str} {sg : Scope} {g f c' : Addr} {cdg pm ctv : Value} {params : Arguments} {body : Expr} {scope : Scope} {k i : Nat} {a : Str} {pn : List (Addr × Obj)} {xe : Value → Shared → Prop} {W : WX} {tb : XK → TE} {p1 p2 : Pos}
    (I : L2.Inv X pins σ H s) (L : LamS X.env.scope scope) (hf : s.heap.get? f = some (PySem.W.kla_obj "<lambda>" (X.env.qual ++ "<lambda>") params body scope (cloFrom X.env.cells scope.names []) pm c' ctv)) (hfn : H f = none) (hfr : f ∉ frs X.stack)
    (hbind : bindArgs (PySem.W.kla_fn "<lambda>" (X.env.qual ++ "<lambda>") params body scope (cloFrom X.env.cells scope.names []) pm (.ref c') ctv) ⟨[], []⟩ = pure [])
    (tk : Takes ((cxOf CXg X.prog X.w X.K X.mg X.base Ng qg sg g cdg X.A X.stack s H Eg).tr pn xe) W) (hr : Rm (k + 1) (X.A.deeper (envOfC qg sg s.heap.objs.size g cdg)))
    (hbody : ∀ (A : Around) (outer : List Env) (s : Shared) (H : Hp) (E : XK), Rm k (A.deeper (lamEnv X scope s.heap.objs.size f c')) → PE (lamCx X A outer s H E scope f c') body (tb E))
    (hN : Ng[i]? = some a) (hv : Vis sg a) (hd : (a == ("__debug__" : Str)) = false) (hcd : (a == ("__classdict__" : Str)) = false) :
    PE ((cxOf CXg X.prog X.w X.K X.mg X.base Ng qg sg g cdg X.A X.stack s H Eg).tr pn xe) (.Call (.Name a p1) [] [] p2) (tAct f c' (X.env.qual ++ "<lambda>") (fun E H' Q' => tb E σ H' Q') W i) := by
  refine ⟨fun pins1 t1 σZ HZ Q IZ h => ?_⟩
  obtain ⟨hs, hc, ht⟩ := h
  refine wpAny_Call_Name_kw (thn ((pe_var (pos := p1) (i := i) hN hv hd hcd).run pins1 t1 σZ HZ (fun v H1 => v = .ref f ∧ H1 = HZ) IZ ⟨.ref f, hs, rfl, rfl⟩) fun u t2 ⟨v, H1, J, r1, q1⟩ => ?_)
  obtain ⟨rfl, rfl⟩ := q1
  obtain rfl : u = Value.ref f := r1
  have ff : t2.heap.get? f = some (PySem.W.kla_obj "<lambda>" (X.env.qual ++ "<lambda>") params body scope (cloFrom X.env.cells scope.names []) pm c' ctv) := J.base.keep f _ hf hfn hfr (fun z => nomatch (show f ∈ ([] : List Addr) from z))
  refine PySem.W.callWith_F0 ⟨_, _, _, _, ff⟩ ?_
  have un : Un (frs X.stack) [] H H1 s.heap t2.heap := J.base
  obtain ⟨⟨oc, vs, t, hoc, hdc, hvc⟩, _, _⟩ := J.hok c' _ hc
  have rc : codeAny (model X.prog X.w) (X.A.deeper (envOfC qg sg s.heap.objs.size g cdg)) (.call (.ref f) ⟨[], []⟩) (CR (L2.CX X.prog X.w) (envOfC qg sg s.heap.objs.size g cdg :: X.stack) X.prog X.w H1 t2 Q (fun c d H' => W c d σZ H')) t2 := by
    refine PySem.W.kla_callFunE hr.r.depth ff rfl L.co L.gen rfl ⟨c', oc, vs, t, rfl, hoc, hdc, hvc⟩ ?_
    rw [hbind]
    refine wpAny_pure (wpAny_newFunctionEnv (fun y hy => (L.own y hy).2) (fun y hy => absurd hy (by simp)) (fun hp2 hns hsb => ⟨J.nolimit.fresh _ hsb, ?_⟩) L.kind)
    show codeAny _ _ (.expr body (lamEnv X scope t2.heap.objs.size f c')) _ _
    have kp : ∀ b o, t2.heap.get? b = some o → hp2.get? b = some o := fun b o e => hsb.extBut b o (Nat.ne_of_lt (Heap.lt_size e)) (Heap.get?_push_of_some _ e)
    have J2 : L2.Inv (lamCx X (X.A.deeper (envOfC qg sg s.heap.objs.size g cdg)) (envOfC qg sg s.heap.objs.size g cdg :: X.stack) t2 H1 (fun c d H' => W c d σZ H') scope f c') [] σ H1 { t2 with heap := hp2, toks := t2.toks + ([] : List (Str × Value)).length } :=
      lam_start2 I L J.env0 hr.r.hd un hns kp
    refine PySem.W.kla_codeExpr (wpAny_mono ((hbody _ _ t2 H1 (fun c d H' => W c d σZ H') ⟨hr.r.deeper _, hr.g⟩).run [] _ _ H1 Q J2 ht) (fun v s' hq => ?_) fun e s' hq => hq)
    obtain ⟨w', H', J3, rv, q⟩ := hq
    exact ⟨w', H', J3.os, J3.bare, J3.base, J3.hok, rv, q⟩
  refine wpAny_call (codeAny_mono rc fun r s' hq => ?_)
  cases r with
  | error e => exact tk _ _ (XE.of_call J (fun _ _ _ h => h) hq)
  | ok fl =>
    cases fl with
    | ret u => exact J.after hq
    | next => exact False.elim hq
    | brk => exact False.elim hq
    | cont => exact False.elim hq
end
/-- the def x that calls what it got by its name a; TT: what it makes of the lambda's reading -/
def GivesW (X : Cx) (k : Nat) (Ng : List Str) (x : Str) (sg : Scope) (g : Addr) (cdg : Value) (bg : List Stmt) (a q : Str) (TT : (XK → Hp → VK → Prop) → Hp → VK → Prop) : Prop :=
  ∀ (f c' : Addr) (s : Shared) (H : Hp) (Q : VK) (tl : XK → Hp → VK → Prop), Rm (k + 1) (X.A.deeper (envOfC x sg s.heap.objs.size g cdg)) →
    (∀ (W : WX) (pn : List (Addr × Obj)) (xe : Value → Shared → Prop) (p1 p2 : Pos), Takes ((cxOf (L2.CX X.prog X.w) X.prog X.w X.K X.mg X.base Ng x sg g cdg X.A X.stack s H E0).tr pn xe) W →
      PE ((cxOf (L2.CX X.prog X.w) X.prog X.w X.K X.mg X.base Ng x sg g cdg X.A X.stack s H E0).tr pn xe) (.Call (.Name a p1) [] [] p2) (tAct f c' q tl W 0)) →
    H c' = some (CodeO c' q) → TT tl H Q →
    ∃ t, PSs (cxOf (L2.CX X.prog X.w) X.prog X.w X.K X.mg X.base Ng x sg g cdg X.A X.stack s H E0) bg t ∧ t { nx := fun _ H' => Q .non H', rt := Q } (L2.start Ng [.ref f]) H
def tLamW (P : Addr) (q : Str) (TT : (XK → Hp → VK → Prop) → Hp → VK → Prop) (t : XK → TE) : TE := fun σ H Q => TabS H P q ∧ ∀ H1, TabStep P q H H1 → TT (fun E H' Q' => t E σ H' Q') H1 Q
section
variable {X : Cx}
theorem pe_lam {TT : (XK → Hp → VK → Prop) → Hp → VK → Prop} {x a q : Str} {g c P : Addr} {k : Nat} {pg : Arguments} {bg : List Stmt} {sg : Scope} {Ng : List Str} {params : Arguments} {body : Expr} {scope : Scope} {t : XK → TE} {p lpos pos : Pos}
    (hg : Gl X x) (hm : X.mg x = some (.ref g)) (F : ∃ fd, FunD X.K x x pg bg sg [] [] g fd)
    (hb : ∀ (kV doc pm : Value) (an : Option Addr) (cdv ct : Value) (us : List Value), us.length = [a].length → bindArgs (PySem.W.fnOf x x pg bg sg .none kV doc pm an cdv ct) ⟨us, []⟩ = pure ([a].zip us))
    (Sg : FnScope Ng [a] sg) (hNg : Ng[0]? = some a) (hva : Vis sg a) (hG : ∀ cdv, GivesW X k Ng x sg g cdv bg a q TT)
    (TB : TabB X.base X.mg c P) (hcode : X.env.code = .ref c) (hr : Rm (k + 2) X.A) (L : LamS X.env.scope scope) (hdef : defaultsOf params X.env = ([], []))
    (hbind : ∀ (q : Str) (cl : List (Str × Addr)) (pm cv ctv : Value), bindArgs (PySem.W.kla_fn "<lambda>" q params body scope cl pm cv ctv) ⟨[], []⟩ = pure [])
    (hq : X.env.qual ++ "<lambda>" = q)
    (hbody : ∀ (A : Around) (outer : List Env) (s : Shared) (H : Hp) (E : XK) (f c' : Addr), Rm k (A.deeper (lamEnv X scope s.heap.objs.size f c')) → PE (lamCx X A outer s H E scope f c') body (t E))
    (hdb : (x == ("__debug__" : Str)) = false := by decide) (hd : (a == ("__debug__" : Str)) = false := by decide) (hcd : (a == ("__classdict__" : Str)) = false := by decide) :
    PE X (.Call (.Name x p) [.Lambda params body scope lpos] [] pos) (tLamW P q TT t) := by
  subst hq
  obtain ⟨fd, F⟩ := F
  have bb := FunD.bindsA F hb
  have kp := F.kp
  obtain ⟨oc, od, dV, kV, doc, pm, an, cdv, ct, osl, rfl, lk, hcg, _, _⟩ := F.ex
  refine ⟨fun pins s σ H Q I h => ?_⟩
  obtain ⟨hT, h⟩ := h
  refine wpAny_Call_Name_kw (ld_glob I hg hm ?_ hdb)
  refine PySem.W.callWith_K (h₀ := X.base) I.ok.mod.kin kp ?_ (by rfl) (by rfl)
  show wpAny _ _ (spliced ((false, eval (.Lambda params body scope lpos) X.env) :: backTo pos (starEach [] X.env))) _ _ s
  refine Calls.spliced_cons (lam_mk I TB hcode hT hdef (L.has I.ok) fun f c' pm2 ctv H1 s2 I1 st hf hfn hfr hco => ?_)
  refine Calls.spliced_nil ⟨I1.kIn, ?_⟩
  have rc : codeAny (model X.prog X.w) X.A (.call (.ref g) ⟨[.ref f], []⟩) (CR (L2.CX X.prog X.w) X.stack X.prog X.w H1 s2 Q E0) s2 := by
    refine run_ofS (CX := L2.CX X.prog X.w) (E := E0) (k := k + 1) (N := Ng) (ps := [a]) (us := [.ref f]) (vs := [.ref f]) lk hcg Sg hr.r I1.env0 (bb s2 [.ref f] rfl) (.cons rfl .nil) rfl fun hr1 => ?_
    have hr2 : Rm (k + 1) (X.A.deeper (envOfC x sg s2.heap.objs.size g cdv)) := ⟨hr1, hr.g⟩
    exact hG cdv f c' s2 H1 Q (fun E H' Q' => t E σ H' Q') hr2 (fun W pn xe p1 p2 tk => act_w (i := 0) I1 L hf hfn hfr (hbind _ _ _ _ _) tk hr2 (fun A outer s H E hr3 => hbody A outer s H E f c' hr3) hNg hva hd hcd) hco (h H1 st)
  refine wpAny_call (codeAny_mono rc fun r s3 hq => ?_)
  rcases cr_ep px0 I1 hq with ⟨e, rfl, y⟩ | ⟨u, rfl, y⟩
  · exact y
  · exact y
end
/-- what such a def tells: OK of a value, XX of an error of the class n that has w -/
def TTr (K : PySem.W.Frag) (EX : List Str) (OK : V → V → List Asn → Prop) (XX : Str → V → V → List Asn → Prop) : (XK → Hp → VK → Prop) → Hp → VK → Prop := fun tl H Q => ∃ L, Star L H ∧ ∀ (E : XK) (Q' : VK),
  (∀ v M, (∀ r A, OK v r A → Al (A ++ M) (Q r)) → Al M (Q' v)) →
  (∀ n w dd M, n ∈ EX → (∀ r A, XX n w r A → Al (A ++ M) (Q r)) → Al (pt dd (.xd [("what", w)]) :: M) (E (.ref (He.ga K n)) (some dd))) → Al L (fun H => tl E H Q')
theorem e_lam {L L0 : List Asn} {K : PySem.W.Frag} {P : Addr} {q : Str} {Q : VK} {σ : L2.St} {t : XK → TE} {EX : List Str} {OK : V → V → List Asn → Prop} {XX : Str → V → V → List Asn → Prop} (r : Tk L (TabA P q) L0)
    (k : ∀ (E : XK) (Q' : VK), (∀ v M, (∀ r A, OK v r A → Al (A ++ M) (Q r)) → Al M (Q' v)) → (∀ n w dd M, n ∈ EX → (∀ r A, XX n w r A → Al (A ++ M) (Q r)) → Al (pt dd (.xd [("what", w)]) :: M) (E (.ref (He.ga K n)) (some dd))) →
      Al (TabA P q :: L0) (xE (t E) σ Q')) : Al L (xE (tLamW P q (TTr K EX OK XX) t) σ Q) := fun H s => by
  have s1 := r.ok _ s
  obtain ⟨H1, h1, a1⟩ := s1.get
  obtain ⟨ps, e1, e2, e3⟩ := (show TabS H1 P q from a1)
  exact ⟨⟨ps, h1 _ _ e1, e2, fun pos cv hc => by
    obtain ⟨c, z1, z2⟩ := e3 pos cv hc
    exact ⟨c, z1, h1 _ _ z2⟩⟩, fun H2 st => ⟨_, s1.tab st, k⟩⟩
end AL

/-! EN14: steps for errors: calls that may let one out, raise, a noted one's class and field; counting in lists of plain values. -/
namespace AL
open PySem PySem.Spec PyProof.Rows L2
/-! ### rules: calls in a place that takes errors -/
def tCallW (sp : Sp) (W : WX) (t : TA) : TE := fun σ H Q => t σ H fun vs H1 => sp vs H1 Q (fun c d H' => W c d σ H')
def tMethW (C : Addr) (m : Str) (sp : Sp) (W : WX) (ta : TE) (t : TA) : TE := fun σ H Q => ta σ H (MethK C m fun x H1 => t σ H1 fun vs H2 => sp (x :: vs) H2 Q (fun c d H' => W c d σ H'))
section
variable {X : Cx} {k : Nat} {f C : Addr} {ps : List Str} {sp sp' : Sp} {W : WX} {x m : Str} {p pos apos : Pos} {e o : Expr} {es : List Expr} {ta : TE} {t : TA}
theorem run_w {pins : List (Addr × Obj)} {σ : L2.St} {H : Hp} {s : Shared} {Q : VK} {us : List Value} {vs : List V}
    (F : FnG X.prog X.w X.K X.mg X.base k f ps sp) (hr : Rm k X.A) (tk : Takes X W) (I : L2.Inv X pins σ H s) (r : Vals vs us) (h : sp vs H Q (fun c d H' => W c d σ H')) :
    wpAny (model X.prog X.w) X.A (call (.ref f) us) (EP X pins σ Q) X.xe s :=
  wpAny_call (codeAny_mono (F.run X.A X.stack s H us vs Q _ hr I.env0 I.kIn r h) fun r s1 q => by
    cases r with
    | error e => exact tk _ _ (XE.of_call I (fun _ _ _ h => h) q)
    | ok fl =>
      cases fl with
      | ret u => exact I.after q
      | next => exact False.elim q
      | brk => exact False.elim q
      | cont => exact False.elim q)
theorem ge_callW (F : FnG X.prog X.w X.K X.mg X.base k f ps sp) (hr : Rm k X.A) (hg : Gl X x) (hm : X.mg x = some (.ref f)) (tk : Takes X W) (ha : PA X (e :: es) t) (hdb : (x == ("__debug__" : Str)) = false := by decide)
    (he : starEach (e :: es) X.env = (false, eval e X.env) :: starEach es X.env := by rfl) (hpl : (backTo pos (starEach es X.env)).any (·.1) = false := by rfl) :
    PE X (.Call (.Name x p) (e :: es) [] pos) (tCallW sp W t) := ⟨fun pins s σ H Q I h =>
  wpAny_Call_Name_kw (ld_glob I hg hm (PySem.W.callWith_K (h₀ := X.base) I.ok.mod.kin F.keep (thn (ha.run pos pins s σ H _ I h) fun us s1 ⟨vs, H1, I1, r, q⟩ => ⟨I1.kIn, run_w F hr tk I1 r q⟩) he hpl) hdb)⟩
theorem ge_call0W (F : FnG X.prog X.w X.K X.mg X.base k f ps sp) (hr : Rm k X.A) (hg : Gl X x) (hm : X.mg x = some (.ref f)) (tk : Takes X W) (hdb : (x == ("__debug__" : Str)) = false := by decide) :
    PE X (.Call (.Name x p) [] [] pos) (tCallW sp W tNil) := ⟨fun pins s σ H Q I h =>
  wpAny_Call_Name_kw (ld_glob I hg hm (PySem.W.callWith_K0 I.kIn F.keep (run_w (us := []) F hr tk I .nil h)) hdb)⟩
theorem ge_methW {pl : Sem Bool} (he : PE X o ta) (c : Cls X.K C) (hm : Meth X.K C m f) (F : FnG X.prog X.w X.K X.mg X.base k f ps sp) (hr : Rm k X.A) (tk : Takes X W) (ha : PA X (e :: es) t)
    (hst : starEach (e :: es) X.env = (false, eval e X.env) :: starEach es X.env := by rfl) (hpl : (backTo pos (starEach es X.env)).any (·.1) = false := by rfl)
    (ht : eval (.Call (.Attribute o m apos) (e :: es) [] pos) X.env = (do
        let ov ← eval o X.env
        standAt apos.atName
        let (f, first) ← holding [ov] (getMethod ov m pl)
        callWith pos f first (backTo pos (starEach (e :: es) X.env)) (backToKw pos (keywordEach [] X.env))) := by rfl) :
    PE X (.Call (.Attribute o m apos) (e :: es) [] pos) (tMethW C m sp W ta t) := ⟨fun pins s σ H Q I h =>
  PySem.W.methodCall_KW (pl := pl) (thn (he.run pins s σ H _ I h) fun u s1 ⟨x, H1, I1, rx, a, dx, fs, ex, ea, l, q⟩ => by
    subst ex
    obtain rfl : u = Value.ref a := rx
    exact getmeth_ok I1 ea c hm l (PySem.W.callWith_K (first := [.ref a]) (h₀ := X.base) I.ok.mod.kin hm.kp
      (thn (ha.run pos pins s1 σ H1 _ I1 q) fun us s2 ⟨vs, H2, I2, r, q2⟩ => ⟨I2.kIn, run_w (us := .ref a :: us) (vs := .ref a :: vs) F hr tk I2 (.cons (show RelV (.ref a) (.ref a) from rfl) r) q2⟩) hst hpl)) ht⟩
theorem ge_meth0W {pl : Sem Bool} (he : PE X o ta) (c : Cls X.K C) (hm : Meth X.K C m f) (F : FnG X.prog X.w X.K X.mg X.base k f ps sp) (hr : Rm k X.A) (tk : Takes X W)
    (ht : eval (.Call (.Attribute o m apos) [] [] pos) X.env = (do
        let ov ← eval o X.env
        standAt apos.atName
        let (f, first) ← holding [ov] (getMethod ov m pl)
        callWith pos f first (backTo pos (starEach [] X.env)) (backToKw pos (keywordEach [] X.env))) := by rfl) :
    PE X (.Call (.Attribute o m apos) [] [] pos) (tMethW C m sp W ta tNil) := ⟨fun pins s σ H Q I h =>
  PySem.W.methodCall_KW (pl := pl) (thn (he.run pins s σ H _ I h) fun u s1 ⟨x, H1, I1, rx, a, dx, fs, ex, ea, l, q⟩ => by
    subst ex
    obtain rfl : u = Value.ref a := rx
    exact getmeth_ok I1 ea c hm l (PySem.W.callWith_K0 (first := [.ref a]) I1.kIn hm.kp (run_w (us := [.ref a]) (vs := [.ref a]) F hr tk I1 (.cons (show RelV (.ref a) (.ref a) from rfl) .nil) q))) ht⟩
/-- a def that keeps one promise or the other -/
def spO (s1 s2 : Sp) : Sp := fun vs H Q E => s1 vs H Q E ∨ s2 vs H Q E
end
theorem FnG.or {P : Program} {w : World} {K : PySem.W.Frag} {mg : Str → Option Value} {base : Heap} {k : Nat} {f : Addr} {ps : List Str} {s1 s2 : Sp} (F1 : FnG P w K mg base k f ps s1) (F2 : FnG P w K mg base k f ps s2) : FnG P w K mg base k f ps (spO s1 s2) :=
  ⟨fun vs H Q E q => q.elim (F1.len vs H Q E) (F2.len vs H Q E), F1.keep, fun A o s H us vs Q E r e x v q => q.elim (F1.run A o s H us vs Q E r e x v) (F2.run A o s H us vs Q E r e x v)⟩
/-! ### list.count of plain values -/
def rCntV (K : PySem.W.Frag) : V → List V → Hp → VK → Prop := fun x xs H Q => ∃ (a : Addr) (ys : List V) (y : V), x = V.ref a ∧ xs = [y] ∧ SqL K H a ys ∧ flatV y = true ∧ ys.all flatV = true ∧ Q (.int (ys.countP fun z => eqV z y : Nat)) H
theorem count_eqU {y : V} : ∀ {ys : List V} {its : List Value}, Vals ys its → ys.all flatV = true → its.countP (eqU y) = ys.countP fun z => eqV z y
  | [], _, .nil, _ => rfl
  | z :: ys, _, .cons r rs, f => by
    have f' := List.all_eq_true.mp f
    have e := eqU_of (x := y) r (f' z (List.mem_cons_self ..))
    have ih := count_eqU (y := y) rs (List.all_eq_true.mpr fun u hu => f' u (List.mem_cons_of_mem _ hu))
    rw [List.countP_cons, List.countP_cons, ih, e]
theorem mt_countV {X : Cx} : MtR X "list.count" (rCntV X.K) := by
  intro pins s σ H x xs v us Q I rx rxs h
  obtain ⟨a, ys, y, rfl, rfl, hs, fy, fys, q⟩ := h
  cases rx
  obtain ⟨u, rfl, ru⟩ := rxs.one
  obtain ⟨its, rv, ⟨⟨cls, dd, data, sl⟩, n, ho, hc, hdn, hd⟩, hlen⟩ := I.list hs
  simp only at hc hd
  subst hc hd
  refine call_meets PySem.F.slot_list_count ⟨_, ho, rfl⟩ PySem.F.entry_list_count (PySem.F.args_list_count_2 _ _)
    (SeqAt.list_countAt a its.toArray n dd sl u (eqU y)) ⟨ho, fun w hw => mem_eqAt ru fy rv fys w (by simpa using hw), ?_⟩
  have ec : its.toArray.toList.countP (eqU y) = ys.countP fun z => eqV z y := count_eqU rv fys
  refine ⟨.int (ys.countP fun z => eqV z y : Nat), H, I.tok _, ⟨s.toks, ?_⟩, q⟩
  show Value.int ((its.toArray.toList.countP (eqU y) : Nat) : Int) s.toks = _
  rw [ec]
theorem k_countV {X : Cx} {K : PySem.W.Frag} (e : X.K = K) : MtR X "list.count" (rCntV K) := e ▸ mt_countV
theorem k_indexV {X : Cx} {K : PySem.W.Frag} (e : X.K = K) : MtR X "list.index" (rIndex K) := e ▸ mt_index
/-! ### steps -/
section
variable {L L0 L1 R : List Asn} {σ σ' : L2.St} {Q : VK} {K : PySem.W.Frag} {tb : WX → TS} {te : TE} {t ta' : TA} {c cls : Value} {d : Option Addr} {i j n : Nat} {W Wout : WX} {nx : L2.St → Hp → Prop} {rt : VK} {bk ct : L2.St → Hp → Prop} {D : Ends} {sp s1 s2 : Sp} {E : XK} {a C dd : Addr} {x w v y : V} {vs xs ys : List V} {m : Str} {b : Bool} {fs : List (Str × V)}
theorem n_try : xS (tTry tb K c i j Wout) nx rt bk ct σ = xS (tb (wNote K c i j Wout ⟨nx, rt, bk, ct⟩)) nx rt bk ct σ := rfl
theorem e_note (h : PySem.W.exmOne K cls c = some true) (k : ∀ a, Al (pt a (ExK cls d a) :: L) (D.nx (((σ.set i (some (.ref a))).set j (some (.ref a))).set i none))) : Al L (wNote K c i j Wout D cls d σ) :=
  fun H s => ⟨true, h, fun _ a ha => k a _ (s.new ha), fun z => nomatch z⟩
def kCallW (sp : Sp) (E : XK) (Q : VK) : List V → Hp → Prop := fun vs H1 => sp vs H1 Q E
def kMethW (t : TA) (σ : L2.St) (sp : Sp) (E : XK) (Q : VK) : V → Hp → Prop := fun x H1 => t σ H1 fun vs H2 => sp (x :: vs) H2 Q E
def kMethW1 (x : V) (sp : Sp) (E : XK) (Q : VK) : List V → Hp → Prop := fun vs H1 => sp (x :: vs) H1 Q E
def wAt (W : WX) (σ : L2.St) : XK := fun c d H => W c d σ H
theorem n_callW : xE (tCallW sp W t) σ Q = xA t σ (kCallW sp (wAt W σ) Q) := rfl
theorem n_callW1 : kCallW sp E Q vs = xP sp vs Q E := rfl
theorem n_methW : xE (tMethW C m sp W te t) σ Q = xE te σ (MethK C m (kMethW t σ sp (wAt W σ) Q)) := rfl
theorem n_methW1 : kMethW t σ sp E Q x = xA t σ (kMethW1 x sp E Q) := rfl
theorem n_methW2 : kMethW1 x sp E Q vs = xP sp (x :: vs) Q E := rfl
theorem e_spL (k : Al L (xP s1 vs Q E)) : Al L (xP (spO s1 s2) vs Q E) := fun H s => .inl (k H s)
theorem e_spR (k : Al L (xP s2 vs Q E)) : Al L (xP (spO s1 s2) vs Q E) := fun H s => .inr (k H s)
theorem n_raise : xS (tRaise C W t) nx rt bk ct σ = xA t σ (kRaise C W σ) := rfl
theorem e_raise (k : ∀ d, Al (pt d (.xd [("what", w)]) :: L) (W (.ref C) (some d) σ)) : Al L (kRaise C W σ [w]) := fun H s => ⟨w, rfl, fun d hd => k d _ (s.new hd)⟩
theorem e_isK {D' : Addr} {C : Addr} (r : Tk L (pt a (ExK (.ref D') (some dd) a)) L0) (r' : Tk L (pt dd (.xd fs)) L1) (T : XcC K D') (h : PySem.W.kitOne K (.ref D') (.ref C) = some b) (k : Al L (Q (.bl b))) : Al L (xB (rIsK K) [.ref a, .ref C] Q) :=
  fun H s => ⟨a, D', dd, fs, _, b, rfl, T, r.pat s, r'.pat s, .inl ⟨.ref C, fun u r => by cases r; rfl, h⟩, k H s⟩
theorem e_isKT {D' : Addr} {T' : String} (r : Tk L (pt a (ExK (.ref D') (some dd) a)) L0) (r' : Tk L (pt dd (.xd fs)) L1) (T : XcC K D') (h : PySem.W.kitOne K (.ref D') (.type T') = some b) (k : Al L (Q (.bl b))) : Al L (xB (rIsK K) [.ref a, .ty T'] Q) :=
  fun H s => ⟨a, D', dd, fs, _, b, rfl, T, r.pat s, r'.pat s, .inl ⟨.type T', fun u r => by cases r; rfl, h⟩, k H s⟩
theorem e_isKs {D' p : Addr} {Cs : List Addr} (r : Tk L (pt a (ExK (.ref D') (some dd) a)) L0) (r' : Tk L (pt dd (.xd fs)) L1) (T : XcC K D') (rt : LdgT L K p (Cs.map V.ref)) (h : PySem.W.kitAny K (.ref D') (Cs.map Value.ref) = some b) (k : Al L (Q (.bl b))) : Al L (xB (rIsK K) [.ref a, .ref p] Q) :=
  fun H s => ⟨a, D', dd, fs, _, b, rfl, T, r.pat s, r'.pat s, .inr ⟨p, Cs, rfl, rt.q H s, h⟩, k H s⟩
def kXk (K : PySem.W.Frag) (f : Str) (Q : VK) : VK := fun x H1 => ∃ (a D dd : Addr) (fs : List (Str × V)) (v : V), x = .ref a ∧ XcC K D ∧ PySem.W.findIn K (.ref D) f = some none ∧ H1 a = some (ExK (.ref D) (some dd) a) ∧ H1 dd = some (.xd fs) ∧ fs.lookup f = some v ∧ Q v H1
theorem n_xk : xE (tXk K m te) σ Q = xE te σ (kXk K m Q) := rfl
theorem e_xk {D' : Addr} (r : Tk L (pt a (ExK (.ref D') (some dd) a)) L0) (r' : Tk L (pt dd (.xd [("what", v)])) L1) (T : XcC K D') (k : Al L (Q v)) : Al L (kXk K "what" Q (.ref a)) :=
  fun H s => ⟨a, D', dd, _, v, rfl, T, T.wh, r.pat s, r'.pat s, rfl, k H s⟩
theorem e_countV (h : Ldg L K a ys) (fy : flatV y = true) (fys : ys.all flatV = true) (k : Al L (Q (.int (ys.countP fun z => eqV z y : Nat)))) : Al L (xM (rCntV K) (.ref a) [y] Q) := fun H s => ⟨a, ys, y, rfl, rfl, h.q H s, fy, fys, k H s⟩
theorem e_indexV {z : V} (h : Ldg L K a ys) (fy : flatV y = true) (fys : ys.all flatV = true) (hz : ys[j]? = some z) (e : eqV z y = true) (hn : ∀ (m : Nat) (z' : V), m < j → ys[m]? = some z' → eqV z' y = false) (k : Al L (Q (.int (j : Nat)))) : Al L (xM (rIndex K) (.ref a) [y] Q) :=
  fun H s => ⟨a, ys, y, j, z, rfl, rfl, h.q H s, fy, fys, hz, e, hn, k H s⟩
end
/-- an error of the class n, of w, comes out, and P is left -/
def Refd (K : PySem.W.Frag) (n : Str) (w : V) (P : List Asn) : Value → Option Addr → List Asn → Prop := fun c d M => c = .ref (He.ga K n) ∧ ∃ dd, d = some dd ∧ M = pt dd (.xd [("what", w)]) :: P
/-! ### the facts of the classes of errors -/
structure ExF (K : PySem.W.Frag) (EX : List Str) : Prop where
  xc : ∀ n ∈ EX, XcC K (He.ga K n)
  one : ∀ n ∈ EX, ∀ m ∈ EX, PySem.W.kitOne K (.ref (He.ga K n)) (.ref (He.ga K m)) = some (decide (n = m))
  base : ∀ n ∈ EX, PySem.W.exmOne K (.ref (He.ga K n)) (.ref (He.ga K "RoadError")) = some true
  ve : ∀ n ∈ EX, PySem.W.kitOne K (.ref (He.ga K n)) (.type "ValueError") = some true
  bas : BasC K (He.ga K "RoadError")
  ini : ∀ n ∈ EX, PySem.W.findIn K (.ref (He.ga K n)) "__init__" = some (some (.ref (He.ma K (He.ga K n) "__init__"))) ∧ PySem.W.typeIn K (.ref (He.ma K (He.ga K n) "__init__")) = some (.type "function")
def exfB (EX : List Str) (K : PySem.W.Frag) : Bool := basB K (He.ga K "RoadError") && EX.all fun n => xcB K (He.ga K n) && (decide (PySem.W.exmOne K (.ref (He.ga K n)) (.ref (He.ga K "RoadError")) = some true) && (decide (PySem.W.kitOne K (.ref (He.ga K n)) (.type "ValueError") = some true) &&
  ((decide (PySem.W.findIn K (.ref (He.ga K n)) "__init__" = some (some (.ref (He.ma K (He.ga K n) "__init__")))) && decide (PySem.W.typeIn K (.ref (He.ma K (He.ga K n) "__init__")) = some (.type "function"))) && EX.all fun m => decide (PySem.W.kitOne K (.ref (He.ga K n)) (.ref (He.ga K m)) = some (decide (n = m))))))
theorem exfB_ok {EX : List Str} {K : PySem.W.Frag} (h : exfB EX K = true) : ExF K EX := by
  unfold exfB at h
  simp only [Bool.and_eq_true, decide_eq_true_eq, List.all_eq_true] at h
  obtain ⟨h0, h⟩ := h
  exact ⟨fun n hn => xcB_ok (h n hn).1, fun n hn m hm => (h n hn).2.2.2.2 m hm, fun n hn => (h n hn).2.1, fun n hn => (h n hn).2.2.1, basB_ok h0, fun n hn => (h n hn).2.2.2.1⟩
end AL

/-! HD2: the Hook with one more look at the frame. -/
namespace AL
open PySem PySem.Spec PyProof.Rows L2 LamX
def obsX (ck : PySem.W.Frag → Bool) (fa : List He.Fa) (fn : List He.DefD) (lams : List (Str × Option Str)) (tps : List (Str × List He.Dv)) (g : Addr → Option Obj) (K : PySem.W.Frag) : AlT :=
  (He.obsD fa fn K, ((lams.all fun p => tabB K p) && ((tps.all fun p => He.tupB K p.1 p.2) && ck K)) && decide ((lams.map fun p => tabAd K p).Nodup), lams.map fun p => g (tabAd K p))
/-- the frame, with the model's own statics (asked when an attribute of a class is read) -/
def fragX (n : Nat) (names : List Str) (g : Addr → Option Obj) : PySem.W.Frag := He.frG g (cStatics :: mainGlobals :: asT names g n)
def hookX (ck : PySem.W.Frag → Bool) (n : Nat) (names : List Str) (fa : List He.Fa) (fn : List He.DefD) (lams : List (Str × Option Str)) (tps : List (Str × List He.Dv)) : PySem.W.Hook where
  α := AlT
  obs := fun s => obsX ck fa fn lams tps s.heap.get? (fragX n names s.heap.get?)
  val := fun _ => valT fn lams
  says := fun _ h => ∃ K : PySem.W.Frag, SaysT fa fn lams tps K h ∧ ck K = true
  of := fun w s e => by
    have e1 : _ = _ := congrArg (fun z : AlT => z.1) e
    have e2 : _ = true := congrArg (fun z : AlT => z.2.1) e
    have e3 : (lams.map fun p => s.heap.get? (tabAd (fragX n names s.heap.get?) p)) = lams.map fun _ => some tab0 := congrArg (fun z : AlT => z.2.2) e
    obtain ⟨e4, e5⟩ := Bool.and_eq_true_iff.mp e2
    obtain ⟨e6, e7⟩ := Bool.and_eq_true_iff.mp e4
    obtain ⟨e8, e9⟩ := Bool.and_eq_true_iff.mp e7
    exact ⟨fragX n names s.heap.get?, ⟨He.frG_in, e1, List.all_eq_true.mp e6, of_decide_eq_true e5, fun p hp => List.map_inj_left.mp e3 p hp, List.all_eq_true.mp e8⟩, e9⟩
  keeps := fun _ _ _ ⟨K, q, c⟩ k => ⟨K, ⟨PySem.W.Frag.In.keeps q.kin k, q.d, q.tb, q.nd, fun p hp => k _ _ (q.at0 p hp), q.tp⟩, c⟩
def obX (ck : PySem.W.Frag → Bool) (n : Nat) (names : List Str) (fa : List He.Fa) (fn : List He.DefD) (lams : List (Str × Option Str)) (tps : List (Str × List He.Dv)) (s : PySem.W.SharedT) : AlT := obsX ck fa fn lams tps (HandSHeadRun.getT s) (fragX n names (HandSHeadRun.getT s))
theorem obX_eq (ck : PySem.W.Frag → Bool) (n : Nat) (names : List Str) (fa : List He.Fa) (fn : List He.DefD) (lams : List (Str × Option Str)) (tps : List (Str × List He.Dv)) (s : PySem.W.SharedT) : obX ck n names fa fn lams tps s = (hookX ck n names fa fn lams tps).obs s.abs := by
  have e : HandSHeadRun.getT s = s.abs.heap.get? := funext fun a => HandSHeadRun.getT_eq s a
  show obsX ck _ _ _ _ _ _ = obsX ck _ _ _ _ _ _
  rw [e]
end AL

/-! EN15: lists of small numbers, tuples of plain values, joins behind an or. -/
namespace AL
open PySem PySem.Spec PyProof.Rows L2
theorem e_joinO {L : List Asn} {σ : L2.St} {tb : TE} {b : Bool} (I : V → List Asn → Prop) {Q : VK} (k1 : ∀ F : VK, (∀ v M, I v M → Al M (F v)) → Al L (kOrV tb σ F b)) (k2 : ∀ v M, I v M → Al M (Q v)) : Al L (kOrV tb σ Q b) := k1 Q k2
theorem nats_ints (ns : List Nat) : ns.map (fun j : Nat => V.int j) = (ns.map fun j : Nat => (j : Int)).map V.int := by rw [List.map_map]; rfl
theorem flat_ints (ns : List Nat) : (ns.map fun j : Nat => V.int j).all flatV = true := by
  rw [List.all_map]
  exact List.all_eq_true.mpr fun _ _ => rfl
theorem inV_nats {i : Nat} {ns : List Nat} : inV (.int (i : Nat)) (ns.map fun j : Nat => V.int j) = decide (i ∈ ns) := by
  unfold inV
  rw [List.any_map]
  by_cases h : i ∈ ns
  · rw [decide_eq_true h]
    exact List.any_eq_true.mpr ⟨i, h, by show ((i : Int) == i) = true; simp⟩
  · rw [decide_eq_false h]
    refine List.any_eq_false.mpr fun x hx => ?_
    show ¬ (((x : Nat) : Int) == (i : Int)) = true
    rw [beq_iff_eq]
    intro e
    exact h (by rw [← Int.ofNat.inj e]; exact hx)
theorem nat_map_app {ns : List Nat} {x : Nat} : ns.map (fun j : Nat => V.int j) ++ [V.int (x : Nat)] = (ns ++ [x]).map (fun j : Nat => V.int j) := by rw [List.map_append]; rfl
section
variable {L : List Asn} {K : PySem.W.Frag} {a : Addr} {Q : VK}
def natsD (ns : List Nat) : PyData := .list ((ns.map fun j : Nat => (j : Int)).map PyData.int)
theorem LdD.nats {ns : List Nat} (h : Ldg L K a (ns.map fun j : Nat => V.int j)) : LdD L K (.ref a) (natsD ns) := LdD.ints (by rw [← nats_ints]; exact h)
theorem e_reprN {ns : List Nat} (h : Ldg L K a (ns.map fun j : Nat => V.int j)) (hb : ∀ n ∈ ns, n < 10 ^ 39) (hz : ns.length ≤ 2000) (k : Al L (Q (.str (natsD ns).shown))) : Al L (xB (kRepr K) [.ref a] Q) :=
  e_reprI (ns := ns.map fun j : Nat => (j : Int)) (by rw [← nats_ints]; exact h) (fun n hn => by
    obtain ⟨j, hj, rfl⟩ := List.mem_map.mp hn
    have := hb j hj
    rw [Int.natAbs_natCast]
    omega) (by rw [List.length_map]; exact hz) k
theorem shaped_ints {ns : List Int} : SeqAt.shaped (.list (ns.map PyData.int)) = true := by
  have h1 : PyData.canLayAll0 (ns.map PyData.int) = true := by
    induction ns with
    | nil => rfl
    | cons z zs ih =>
      show (true && PyData.canLayAll0 (zs.map PyData.int)) = true
      rw [Bool.true_and]
      exact ih
  have h2 : PyData.depthAll (ns.map PyData.int) = 0 := by
    induction ns with
    | nil => rfl
    | cons z zs ih =>
      show max 0 (PyData.depthAll (zs.map PyData.int)) = 0
      rw [ih (by
        have h1' : (true && PyData.canLayAll0 (zs.map PyData.int)) = true := h1
        rwa [Bool.true_and] at h1')]
      rfl
  show (PyData.canLayAll0 (ns.map PyData.int) && decide (PyData.depthAll (ns.map PyData.int) + 1 ≤ 64)) = true
  rw [h1, h2]
  rfl
theorem sh_tupV {xs : List V} (h : ∀ x ∈ xs, VokN x) : Sh 1 (xs.length * 141) (.tuple (xs.map dV)) := by
  have h2 := Sh.tup (k := 0) (w := 140) (ds := xs.map dV) fun d hd => by
    obtain ⟨x, hx, rfl⟩ := List.mem_map.mp hd
    exact (h x hx).sh
  rwa [List.length_map] at h2
theorem LdD.tupV {L0 : List Asn} {p : Addr} {xs : List V} (r : Tk L (pt p (.tup xs)) L0) (h : ∀ x ∈ xs, VokN x) : LdD L K (.ref p) (.tuple (xs.map dV)) := .z (.tup r (LdZs.scls fun x hx => (h x hx).scl))
theorem rep_nats {n x : Nat} : (List.replicate n [V.int (x : Nat)]).flatten = (List.replicate n x).map fun j : Nat => V.int j := by
  induction n with
  | zero => rfl
  | succ n ih => rw [List.replicate_succ, List.flatten_cons, ih, List.replicate_succ, List.map_cons]; rfl
theorem range_const {n x : Nat} : ((List.range n).map fun _ : Nat => V.int (x : Nat)) = (List.replicate n x).map fun j : Nat => V.int j := by
  rw [List.map_const', List.length_range, List.map_replicate]
end
end AL

/-! EN16: what follows is hidden behind a name till it is come to. -/
namespace AL
open PySem PySem.Spec PyProof.Rows L2
section
variable {L : List Asn} {σ : L2.St} {ts tv tb T T' : TS} {tt : TT} {wi : TI} {g : TG} {v : V} {nx N N' : L2.St → Hp → Prop} {rt : VK} {bk ct : L2.St → Hp → Prop} {J : L2.St → List Asn → Prop}
theorem e_seq (k : ∀ N, N = kS tv nx rt bk ct → Al L (xS ts N rt bk ct σ)) : Al L (xS (tSeq ts tv) nx rt bk ct σ) := k _ rfl
theorem e_hfor (k : ∀ T, T = tb → Al L (xI wi σ (kFor g T nx rt bk ct σ))) : Al L (xS (tFor wi g tb) nx rt bk ct σ) := k _ rfl
theorem e_hif (k : ∀ T1 T2, T1 = ts → T2 = tv → Al L (xT tt σ (kIf T1 T2 nx rt bk ct σ))) : Al L (xS (tIfS tt ts tv) nx rt bk ct σ) := k _ _ rfl rfl
theorem e_rest (h : N = N') (k : Al L (N' σ)) : Al L (N σ) := by rw [h]; exact k
theorem e_body (h : T = T') (k : Al L (xS T' nx rt bk ct σ)) : Al L (xS T nx rt bk ct σ) := by rw [h]; exact k
theorem al_eq {P P' : Hp → Prop} (h : P = P') (k : Al L P') : Al L P := by rw [h]; exact k
theorem e_v {i : Nat} {Q : VK} (h : GetAt σ i v) (k : Al L (Q v)) : Al L (xE (tVar i) σ Q) := fun H s => ⟨v, h.eq, k H s⟩
theorem e_g {i : Nat} {σ' : L2.St} (h : SetAt σ i (some v) σ') (k : Al L (N σ')) : Al L (xG (gName i) v σ N) := fun H s => by
  show N (σ.set i (some v)) H
  rw [h.eq]; exact k H s
theorem e_hnx (k : ∀ F, F = Nx J → Al L (xG g v σ (kS T F rt bk F))) : Al L (xG g v σ (kS T (Nx J) rt bk (Nx J))) := k _ rfl
/-- bounds as figures: a power costs omega a third of a second each time -/
theorem e_r1x {RI : It → Hp → Prop} {j : Int} (h : -4611686018427387904 ≤ j ∧ j < 4611686018427387904) (k : Al L (RI (Itr 0 j.toNat))) : Al L (Rng1K RI [.int j]) := e_r1 ⟨by omega, by omega⟩ k
theorem e_r1nx {RI : It → Hp → Prop} {m : Nat} (h : (m : Int) < 4611686018427387904) (k : Al L (RI (Itr 0 m))) : Al L (Rng1K RI [.int (m : Int)]) := e_r1n (by omega) k
end
end AL

/-! SR: rows of things held apart; stops of roads. -/
namespace AL
open PySem PySem.Spec PyProof.Rows L2
/-! ### rows of things -/
def RwA {α : Type} (f : α → Asn) (zs : List α) : Asn := Star (zs.map f)
section
variable {α : Type} {f : α → Asn} {L L0 R : List Asn} {P : Hp → Prop} {z : α} {xs ys zs : List α}
theorem Al.rw0 (k : Al (RwA f [] :: L) P) : Al L P := Al.own (A := RwA f []) (by show Star [] _; exact trivial) k
theorem RwA.mid (r : Tk L (RwA f (xs ++ z :: ys)) L0) (k : Al (f z :: RwA f (xs ++ ys) :: L0) P) : Al L P := fun H s => by
  have s1 := Star.split (r.ok _ s)
  rw [List.map_append, List.append_assoc, List.map_cons] at s1
  have s2 : Star (RwA f xs :: f z :: (ys.map f ++ L0)) H := Star.join (M := xs.map f) s1
  refine k H (s2.swap.tail fun _ q => Star.join (M := (xs ++ ys).map f) ?_)
  have q2 := Star.split q
  rw [List.map_append, List.append_assoc]
  exact q2
theorem RwA.dim (r : Tk L (f z) L0) (r1 : Tk L0 (RwA f (xs ++ ys)) R) (k : Al (RwA f (xs ++ z :: ys) :: R) P) : Al L P := fun H s => by
  have s1 : Star (f z :: RwA f (xs ++ ys) :: R) H := (r.ok _ s).tail fun _ q => r1.ok _ q
  have s4 := Star.split s1.swap
  rw [List.map_append, List.append_assoc] at s4
  have s5 : Star (RwA f xs :: (ys.map f ++ (f z :: R))) H := Star.join (M := xs.map f) s4
  have s6 : Star (RwA f xs :: f z :: (ys.map f ++ R)) H := s5.tail fun _ q => by
    have q2 : Star (RwA f ys :: f z :: R) _ := Star.join (M := ys.map f) q
    exact q2.swap.tail fun _ w => Star.split w
  have s7 := Star.split s6
  refine k H (Star.join (M := (xs ++ z :: ys).map f) ?_)
  rw [List.map_append, List.append_assoc, List.map_cons]
  exact s7
theorem RwA.add (r : Tk L (f z) L0) (r' : Tk L0 (RwA f zs) R) (k : Al (RwA f (zs ++ [z]) :: R) P) : Al L P :=
  RwA.dim (xs := zs) (ys := []) r (by rw [List.append_nil]; exact r') k
end
/-! ### stops -/
/-- a place of roads: the one ahead, the step (a name, set to a value or cleared), how far, the table, how many nodes -/
structure Stp where
  bef : Option Nat
  mov : Option (Str × Option V)
  far : Nat
  tab : Nat
  more : Nat
def Stp.zero : Stp := ⟨none, none, 0, 0, 0⟩
def mvD : Option (Str × Option V) → PyData
  | none => .none
  | some (n, some v) => .tuple [.str "set", .str n, dV v]
  | some (n, none) => .tuple [.str "clear", .str n]
def befV : Option Nat → V
  | none => .non
  | some b => .int b
def stopP (K : PySem.W.Frag) (z : Addr × Stp) (mv : V) : List Asn := [Ob z.1 (He.ga K "Stop") [("before_it", befV z.2.bef), ("move_made", mv), ("far_on", .int z.2.far), ("table_there", .int z.2.tab), ("nodes_more", .int z.2.more)], Fz K mv (mvD z.2.mov)]
def StopA (K : PySem.W.Frag) (z : Addr × Stp) : Asn := Pk (stopP K z)
def StsA (K : PySem.W.Frag) (zs : List (Addr × Stp)) : Asn := RwA (StopA K) zs
section
variable {L L0 L1 R : List Asn} {K : PySem.W.Frag} {P : Hp → Prop} {Q : VK} {a : Addr} {x : Stp} {xs ys zs : List (Addr × Stp)} {mv : V}
theorem StopA.open (k : ∀ mv, Al (Ob a (He.ga K "Stop") [("before_it", befV x.bef), ("move_made", mv), ("far_on", .int x.far), ("table_there", .int x.tab), ("nodes_more", .int x.more)] :: Fz K mv (mvD x.mov) :: L) P) : Al (StopA K (a, x) :: L) P := Pk.open k
theorem StopA.fold (s : Tks L [Ob a (He.ga K "Stop") [("before_it", befV x.bef), ("move_made", mv), ("far_on", .int x.far), ("table_there", .int x.tab), ("nodes_more", .int x.more)], Fz K mv (mvD x.mov)] R) (k : Al (StopA K (a, x) :: R) P) : Al L P := Pk.fold (f := stopP K (a, x)) mv s k
/-- the stop at a place is taken out and opened -/
theorem StsA.at (r : Tk L (StsA K (xs ++ (a, x) :: ys)) L0) (k : ∀ mv, Al (Ob a (He.ga K "Stop") [("before_it", befV x.bef), ("move_made", mv), ("far_on", .int x.far), ("table_there", .int x.tab), ("nodes_more", .int x.more)] :: Fz K mv (mvD x.mov) :: StsA K (xs ++ ys) :: L0) P) : Al L P :=
  RwA.mid (f := StopA K) r (StopA.open k)
/-- .. and put back -/
theorem StsA.back (s : Tks L [Ob a (He.ga K "Stop") [("before_it", befV x.bef), ("move_made", mv), ("far_on", .int x.far), ("table_there", .int x.tab), ("nodes_more", .int x.more)], Fz K mv (mvD x.mov)] L0) (r : Tk L0 (StsA K (xs ++ ys)) R) (k : Al (StsA K (xs ++ (a, x) :: ys) :: R) P) : Al L P :=
  StopA.fold s (RwA.dim (f := StopA K) (z := (a, x)) .here r k)
end
/-! ### what roads are -/
/-- the pairs behind a step -/
def stepH (h : Prs) : Str × Option V → Prs
  | (n, some v) => putH h n v
  | (n, none) => dropH h n
structure RdOk (nds : List Nd) (td : List Nat) (zs : List (Addr × Stp)) (hs : List Prs) : Prop where
  len : hs.length = zs.length
  z : ∃ a, zs[0]? = some (a, Stp.zero)
  h0 : hs[0]? = some []
  st : ∀ (j : Nat) (a : Addr) (x : Stp), zs[j + 1]? = some (a, x) → ∃ b n ov a' y h, x.bef = some b ∧ b ≤ j ∧ x.mov = some (n, ov) ∧ Nm8 n ∧ (∀ v, ov = some v → Vok v) ∧ zs[b]? = some (a', y) ∧ x.far = y.far + 1 ∧ hs[b]? = some h ∧ hs[j + 1]? = some (stepH h (n, ov))
  tb : ∀ (j : Nat) (a : Addr) (x : Stp) (h : Prs), zs[j]? = some (a, x) → hs[j]? = some h → Tbl nds td x.tab (srt h)
  hh : ∀ h ∈ hs, Held h
theorem RdOk.zero {a : Addr} : RdOk [.bare] [0] [(a, Stp.zero)] [[]] := by
  refine ⟨rfl, ⟨a, rfl⟩, rfl, fun j a x e => (by cases e), fun j a' x h e f => ?_, fun h m => ?_⟩
  · cases j with
    | zero => cases e; cases f; exact tbl0
    | succ j => cases e
  · rw [List.mem_singleton.mp m]; exact Held.nil
theorem Held.step {h : Prs} (H : Held h) {n : Str} {ov : Option V} (hn : Nm8 n) (hv : ∀ v, ov = some v → Vok v) : Held (stepH h (n, ov)) := by
  cases ov with
  | none => exact H.drop
  | some v => exact H.put hn (hv v rfl)
/-- a step more -/
theorem RdOk.next {nds nds' : List Nd} {td td' : List Nat} {zs : List (Addr × Stp)} {hs : List Prs} (I : RdOk nds td zs hs) (A : Aft (nds, td) (nds', td')) {b : Nat} {a a' : Addr} {y : Stp} {h : Prs} {n : Str} {ov : Option V} {j' m : Nat}
    (hb : zs[b]? = some (a', y)) (hh : hs[b]? = some h) (hn : Nm8 n) (hv : ∀ v, ov = some v → Vok v) (T : Tbl nds' td' j' (srt (stepH h (n, ov)))) :
    RdOk nds' td' (zs ++ [(a, ⟨some b, some (n, ov), y.far + 1, j', m⟩)]) (hs ++ [stepH h (n, ov)]) := by
  have hl := I.len
  have hbl : b < zs.length := (List.getElem?_eq_some_iff.mp hb).1
  have old : ∀ {β : Type} {l : List β} {i : Nat} {u w : β}, l[i]? = some u → (l ++ [w])[i]? = some u := fun {β l i u w} e => by rw [List.getElem?_append_left (List.getElem?_eq_some_iff.mp e).1]; exact e
  obtain ⟨a0, e0⟩ := I.z
  refine ⟨by rw [List.length_append, List.length_append, hl]; rfl, ⟨a0, old e0⟩, old I.h0, fun j a1 x e => ?_, fun j a1 x h1 e f => ?_, fun h1 m1 => ?_⟩
  · by_cases c : j + 1 < zs.length
    · rw [List.getElem?_append_left c] at e
      obtain ⟨b1, n1, ov1, a2, y1, h2, q1, q2, q3, q4, q5, q6, q7, q8, q9⟩ := I.st j a1 x e
      exact ⟨b1, n1, ov1, a2, y1, h2, q1, q2, q3, q4, q5, old q6, q7, old q8, old q9⟩
    · have c2 : j + 1 = zs.length := by
        have := (List.getElem?_eq_some_iff.mp e).1
        rw [List.length_append, List.length_singleton] at this
        omega
      rw [c2, List.getElem?_append_right (Nat.le_refl _), Nat.sub_self] at e
      cases e
      exact ⟨b, n, ov, a', y, h, rfl, by omega, rfl, hn, hv, old hb, rfl, old hh, by rw [c2, ← hl, List.getElem?_append_right (Nat.le_refl _), Nat.sub_self]; rfl⟩
  · by_cases c : j < zs.length
    · rw [List.getElem?_append_left c] at e
      rw [List.getElem?_append_left (by omega)] at f
      exact A.app (I.tb j a1 x h1 e f)
    · have c2 : j = zs.length := by
        have := (List.getElem?_eq_some_iff.mp e).1
        rw [List.length_append, List.length_singleton] at this
        omega
      rw [c2, List.getElem?_append_right (Nat.le_refl _), Nat.sub_self] at e
      rw [c2, ← hl, List.getElem?_append_right (Nat.le_refl _), Nat.sub_self] at f
      cases e
      cases f
      exact T
  · rcases List.mem_append.mp m1 with z | z
    · exact I.hh h1 z
    · rw [List.mem_singleton.mp z]
      exact (I.hh h (List.mem_of_getElem? hh)).step hn hv
end AL

/-! EN17: three names at once, enumerate over lists, insert, names' letters, data of bounded texts. -/
namespace AL
open PySem PySem.Spec PyProof.Rows L2
section
variable {L L0 : List Asn} {σ σ' : L2.St} {Q : VK} {K : PySem.W.Frag} {te : TE} {tt : TT} {t : TA} {ts : TS} {g : TG} {x y z : V} {nx : L2.St → Hp → Prop} {rt : VK} {bk ct : L2.St → Hp → Prop} {a p : Addr} {xs : List V} {i j l n : Nat} {P : Hp → Prop} {w : Str} {d : PyData}
def kPq3 (i j l : Nat) (nx : L2.St → Hp → Prop) (σ : L2.St) : List V → Hp → Prop := fun vs H1 => ∃ u v w, vs = [u, v, w] ∧ nx (((σ.set i (some u)).set j (some v)).set l (some w)) H1
theorem nq_par3 : xS (tPar3 i j l t) nx rt bk ct σ = xA t σ (kPq3 i j l nx σ) := rfl
theorem nq_par31 : kPq3 i j l nx σ [x, y, z] = xG (gName i) x σ (kSet j y (kSet l z nx)) := funext fun H => propext ⟨fun ⟨u, v, w, e, q⟩ => by cases e; exact q, fun q => ⟨x, y, z, rfl, q⟩⟩
/-! enumerate over a list -/
theorem e_forE (I : Nat → L2.St → List Asn → Prop) (h0 : ∃ M, I 0 σ M ∧ Ent L M) (hl : ∀ i σ M, I i σ M → Ldg M K a xs)
    (hs : ∀ i x σ M T, xs[i]? = some x → I i σ M → Al (pt T (.tup [.int (i : Nat), x]) :: M) (xG g (.ref T) σ (kS ts (Nx (I (i + 1))) rt nx (Nx (I (i + 1))))))
    (hd : ∀ σ M, I xs.length σ M → Al M (nx σ)) : Al L (kFor g ts nx rt bk ct σ (Ite K a)) :=
  a_loop xs.length I rfl h0 (fun i σ M h hI H s => ⟨xs, xs[i], (hl i σ M hI).q H s, by simp [h]⟩) (fun σ M hI H s => ⟨xs, (hl _ σ M hI).q H s, Nat.le_refl _⟩) (fun i σ M h hI H s x H' y => by
    obtain ⟨T, x', rfl, hT, rfl, e⟩ := y
    exact hs i x' σ M T (e xs ((hl i σ M hI).q _ s)) hI _ (s.new hT)) hd
theorem e_lcEn {ws : List Nat} {σw : L2.St} (hw : Wp σ ws σw) (I : Nat → List V → List Asn → Prop) (h0 : ∃ M, I 0 [] M ∧ Ent L M) (hl : ∀ i acc M, I i acc M → Ldg M K a xs)
    (hs : ∀ i x acc M D T, xs[i]? = some x → I i acc M → Al (pt T (.tup [.int (i : Nat), x]) :: pt D (.lst acc) :: M) (xG g (.ref T) σw (kLcB tt te D (LcN I (i + 1) D) ws σ)))
    (hd : ∀ acc M D, I xs.length acc M → Al (pt D (.lst acc) :: M) (Q (.ref D))) : Al L (kLc g tt te ws σ Q (Ite K a)) :=
  a_lcG xs.length I h0 (fun i acc M h hI H s => ⟨xs, xs[i], (hl i acc M hI).q H s, by simp [h]⟩) (fun acc M hI H s => ⟨xs, (hl _ acc M hI).q H s, Nat.le_refl _⟩) (fun i acc M D h hI H s x H' y => by
    obtain ⟨T, x', rfl, hT, rfl, e⟩ := y
    rw [hw.eq]
    exact hs i x' acc M D T (e xs ((hl i acc M hI).q _ s.drop)) hI _ (s.new hT)) hd
/-! insert -/
def rInsert : V → List V → Hp → VK → Prop := fun x vs H Q => ∃ (l : Addr) (xs : List V) (i : Int) (y : V), x = .ref l ∧ vs = [.int i, y] ∧ H l = some (.lst xs) ∧ xs.length < sizeLine ∧ 0 ≤ i ∧ i < 2 ^ 63 ∧
    Q .non (upd H l (.lst (xs.take i.toNat ++ [y] ++ xs.drop i.toNat)))
theorem mt_insertK {X : Cx} : MtR X "list.insert" rInsert := mt_insert
theorem e_ins0 (r : Tk L (pt a (.lst xs)) L0) (hz : xs.length < sizeLine) (k : Al (pt a (.lst (y :: xs)) :: L0) (Q .non)) : Al L (xM rInsert (.ref a) [.int 0, y] Q) := fun H s =>
  ⟨a, xs, 0, y, rfl, rfl, r.pat s, hz, by decide, by decide, k _ ((r.ok _ s).set _ id)⟩
/-! kinds -/
theorem kit_list {d : List PyData} : PySem.W.kitOne K (.type (kindD (.list d))) (.type "list") = some true := by kernel_rfl
theorem e_isi_l {ds : List PyData} (h : LdD L K x (.list ds)) (k : Al L (Q (.bl true))) : Al L (xB (rIsi K) [x, .ty "list"] Q) := a_isi h kit_list k
theorem kit_tup {d : List PyData} : PySem.W.kitOne K (.type (kindD (.tuple d))) (.type "tuple") = some true := by kernel_rfl
theorem e_isi_t {ds : List PyData} (h : LdD L K x (.tuple ds)) (k : Al L (Q (.bl true))) : Al L (xB (rIsi K) [x, .ty "tuple"] Q) := a_isi h kit_tup k
/-! letters -/
theorem abc_last : atI ("abcdefghijklmnopqrstuvwxyz" : Str).cps.toList (-1) = some 122 := by decide +kernel
theorem e_abcM {i : Int} (h0 : -1 ≤ i) (h1 : i < 26) (k : ∀ c, 97 ≤ c → c ≤ 122 → Al L (Q (.str ⟨#[c]⟩))) : Al L (x2 (xIx K) (.str "abcdefghijklmnopqrstuvwxyz") (.int i) Q) := by
  by_cases h : 0 ≤ i
  · exact e_abc h h1 (k _ (by omega) (by omega))
  · have e : i = -1 := by omega
    subst e
    exact e_xS (by rw [sizeLine_eq]; decide +kernel) abc_last (k 122 (by decide) (by decide))
/-- the letters of a name -/
theorem e_xNm {i : Nat} (hn : Nm w) (hi : i < w.cps.size) (hz : w.cps.size ≤ 1000) (k : ∀ c, w.cps[i]? = some c → 97 ≤ c → c ≤ 122 → Al L (Q (.str ⟨#[c]⟩))) : Al L (x2 (xIx K) (.str w) (.int (i : Nat)) Q) := by
  have e : w.cps[i]? = some w.cps[i] := Array.getElem?_eq_getElem hi
  have b := hn i _ e
  refine e_xS (c := w.cps[i]) (by rw [str_len, sizeLine_eq]; omega) (atI_nat (by rw [Array.getElem?_toList]; exact e)) (k _ e b.1 b.2)
end
theorem cutS_cps (z : Str) (k : Nat) : (cutS z none (some (k : Int))).cps.toList = z.cps.toList.take k ∧ (cutS z (some (k : Int)) none).cps.toList = z.cps.toList.drop k := by
  have e1 : HT.sIx z.length 0 none = 0 := rfl
  have e2 : HT.sIx z.length z.length (some (k : Int)) = min k z.length := HT.sIx_nat _ _ _
  have e3 : HT.sIx z.length 0 (some (k : Int)) = min k z.length := HT.sIx_nat _ _ _
  have e4 : HT.sIx z.length z.length none = z.length := rfl
  have hl : z.cps.toList.length = z.length := Array.length_toList
  constructor
  · show ((z.cps.toList.drop _).take _).toArray.toList = _
    rw [e1, e2, List.toList_toArray, List.drop_zero, Nat.sub_zero]
    rcases Nat.le_total k z.length with h | h
    · rw [Nat.min_eq_left h]
    · rw [Nat.min_eq_right h, ← hl, List.take_length, List.take_of_length_le (by omega)]
  · show ((z.cps.toList.drop _).take _).toArray.toList = _
    rw [e3, e4, List.toList_toArray]
    rcases Nat.le_total k z.length with h | h
    · rw [Nat.min_eq_left h, ← hl, ← List.length_drop, List.take_length]
    · rw [Nat.min_eq_right h, Nat.sub_self, List.take_zero, List.drop_of_length_le (by omega)]
theorem app_cps {x y : Str} : (x ++ y).cps.toList = x.cps.toList ++ y.cps.toList := by
  show (x.cps ++ y.cps).toList = _
  rw [Array.toList_append]
/-- a stem with two letters in it -/
def midS (z : Str) (k a b : Nat) : Str := cutS z none (some (k : Int)) ++ (⟨#[a]⟩ : Str) ++ (⟨#[b]⟩ : Str) ++ cutS z (some (k : Int)) none
theorem midS_cps {z : Str} {k a b : Nat} : (midS z k a b).cps.toList = z.cps.toList.take k ++ (a :: b :: z.cps.toList.drop k) := by
  unfold midS
  rw [app_cps, app_cps, app_cps, (cutS_cps z k).1, (cutS_cps z k).2, List.append_assoc, List.append_assoc]; rfl
theorem midS_size {z : Str} {k a b : Nat} : (midS z k a b).cps.size = z.cps.size + 2 := by
  rw [← Array.length_toList, midS_cps, List.length_append, List.length_cons, List.length_cons, List.length_take, List.length_drop, Array.length_toList]
  omega
theorem midS_nm {z : Str} {k a b : Nat} (h : Nm z) (ha : 97 ≤ a ∧ a ≤ 122) (hb : 97 ≤ b ∧ b ≤ 122) : Nm (midS z k a b) := by
  rw [Nm.iff] at h ⊢
  intro c hc
  rw [midS_cps] at hc
  rcases List.mem_append.mp hc with m | m
  · exact h c (List.mem_of_mem_take m)
  · rcases List.mem_cons.mp m with e | m
    · rw [e]; exact ha
    · rcases List.mem_cons.mp m with e | m
      · rw [e]; exact hb
      · exact h c (List.mem_of_mem_drop m)
theorem midS_inj {z : Str} {k a b a' b' : Nat} (e : midS z k a b = midS z k a' b') : a = a' ∧ b = b' := by
  have q := congrArg (fun s : Str => s.cps.toList) e
  rw [midS_cps, midS_cps] at q
  have q2 := List.append_cancel_left q
  injection q2 with q3 q4
  injection q4 with q5 q6
  exact ⟨q3, q5⟩
/-! lists of data made of tuples, read where they stand -/
section
variable {L L0 : List Asn} {K : PySem.W.Frag} {Q : VK} {a : Addr} {y : V} {d : PyData} {ds : List PyData} {j : Nat}
theorem Star.zz {H : Hp} (s : Star L H) (q : Dp K (tupH H) y d) : Star (Fz K y d :: L) H :=
  ⟨tupH H, H, ⟨fun a o e => (tupH_some e).1, fun a o e => e, fun a o u e e2 => by obtain ⟨e1, xs, rfl⟩ := tupH_some e; exact trivial⟩, Dp.up tupH_idem d y q, s⟩
theorem e_lsx (r : Tk L (LsA K a ds) L0) (e : ds[j]? = some d) (k : ∀ x, Al (Fz K x d :: L) (Q x)) : Al L (x2 (xIx K) (.ref a) (.int (j : Nat)) Q) := fun H s => by
  obtain ⟨H1, h1, xs, e1, q⟩ := (r.ok _ s).get
  obtain ⟨x, hx⟩ : ∃ x, xs[j]? = some x := ⟨_, List.getElem?_eq_getElem (by rw [DpAll.len q]; exact (List.getElem?_eq_some_iff.mp e).1)⟩
  have s2 : Star (Fz K x d :: L) H := s.zz (Dp.up (tupH_up h1) _ _ (DpAll.get q hx e))
  refine e_xL (L := [fun H2 => H2 = H]) (K := K) (a := a) (xs := xs) ⟨fun H' s' => ?_⟩ (atI_nat hx) (fun H' s' => ?_) H ⟨H, fun _ => none, ⟨fun _ _ e => e, fun _ _ e => (nomatch e), fun _ _ _ _ e => (nomatch e)⟩, rfl, trivial⟩
  · obtain ⟨H2, h2, rfl⟩ := s'.get
    exact SqL.of (h2 _ _ (h1 _ _ e1))
  · obtain ⟨H2, h2, rfl⟩ := s'.get
    exact k x H' (s2.mono h2)
theorem e_tyLs {P : Hp → Prop} (r : Tk L (LsA K a ds) L0) (k : Al L P) : Al L (xTy K "list" (.ref a) P) := fun H s => by
  obtain ⟨H1, h1, xs, e, q⟩ := (r.ok _ s).get
  exact ⟨.inl ⟨rfl, xs, SqL.of (h1 _ _ e)⟩, k H s⟩
theorem e_lslen (r : Tk L (LsA K a ds) L0) (k : Al L (Q (.int ds.length))) : Al L (xB (kLen K) [.ref a] Q) := fun H s => by
  obtain ⟨H1, h1, xs, e, q⟩ := (r.ok _ s).get
  have k2 := k H s
  rw [← DpAll.len q] at k2
  exact .inl ⟨_, _, rfl, .inl ⟨xs, SqL.of (h1 _ _ e), rfl⟩, k2⟩
theorem e_lsapp (r : Tk L (LsA K a ds) L0) (h : LdZ L K y d) (hz : ds.length < sizeLine) (k : Al (LsA K a (ds ++ [d]) :: L0) (Q .non)) : Al L (xM rAppend (.ref a) [y] Q) :=
  Al.z h (Al.tk (.there r) (LsA.open fun xs hl => by
    refine e_append .here (by rw [hl]; exact hz) ?_
    refine LsA.fold (K := K) (a := a) (ds := ds ++ [d]) .here (.app (.tk .here) (.cons (.tk (.there .here)) .nil)) ?_
    exact fun H s => k H (s.tail fun _ t => t.drop.drop)))
end
/-! data of plain signs: == holds of itself -/
mutual
theorem Lo.can0 : ∀ (d : PyData), Lo d → d.canLay0 = true
  | .none, _ => by simp only [PyData.canLay0]
  | .int _, _ => by simp only [PyData.canLay0]
  | .bool _, _ => by simp only [PyData.canLay0]
  | .str z, h => by
    cases h with
    | str h =>
      simp only [PyData.canLay0]
      show z.cps.all _ = true
      rw [← Array.all_toList]
      exact List.all_eq_true.mpr fun c hc => decide_eq_true (Nat.lt_of_le_of_lt (h c hc).2 (by decide))
  | .list ds, h => by
    cases h with
    | lst h => simp only [PyData.canLay0]; exact Lo.can0s ds h
  | .tuple ds, h => by
    cases h with
    | tup h => simp only [PyData.canLay0]; exact Lo.can0s ds h
  | .dict _, h => by cases h
theorem Lo.can0s : ∀ (ds : List PyData), (∀ d ∈ ds, Lo d) → PyData.canLayAll0 ds = true
  | [], _ => by simp only [PyData.canLayAll0]
  | d :: ds, h => by
    simp only [PyData.canLayAll0, Bool.and_eq_true]
    exact ⟨Lo.can0 d (h d (List.mem_cons_self ..)), Lo.can0s ds fun e he => h e (List.mem_cons_of_mem _ he)⟩
end
theorem Lo.shaped {d : PyData} (h : Lo d) (hd : d.depth ≤ 64) : SeqAt.shaped d = true := by
  unfold SeqAt.shaped
  rw [Bool.and_eq_true]
  exact ⟨h.can0, decide_eq_true hd⟩
theorem depth_all {k : Nat} : ∀ {ds : List PyData}, (∀ d ∈ ds, d.depth ≤ k) → PyData.depthAll ds ≤ k
  | [], _ => by simp [PyData.depthAll]
  | d :: ds, h => by
    simp only [PyData.depthAll]
    exact Nat.max_le.mpr ⟨h d (List.mem_cons_self ..), depth_all fun e he => h e (List.mem_cons_of_mem _ he)⟩
theorem depth_tup {k : Nat} {ds : List PyData} (h : ∀ d ∈ ds, d.depth ≤ k) : (PyData.tuple ds).depth ≤ k + 1 := by
  show PyData.depthAll ds + 1 ≤ _
  exact Nat.succ_le_succ (depth_all h)
theorem depth_lst {k : Nat} {ds : List PyData} (h : ∀ d ∈ ds, d.depth ≤ k) : (PyData.list ds).depth ≤ k + 1 := by
  show PyData.depthAll ds + 1 ≤ _
  exact Nat.succ_le_succ (depth_all h)
theorem depth_dV {v : V} : (dV v).depth ≤ 0 := by
  cases v <;> exact Nat.le_refl 0
/-! joins behind an and -/
theorem e_joinN {L : List Asn} {σ : L2.St} {tb : TE} {b : Bool} (I : V → List Asn → Prop) {Q : VK} (k1 : ∀ F : VK, (∀ v M, I v M → Al M (F v)) → Al L (kAndV tb σ F b)) (k2 : ∀ v M, I v M → Al M (Q v)) : Al L (kAndV tb σ Q b) := k1 Q k2
/-! names in lists of names -/
theorem flat_strs (zs : List Str) : (zs.map V.str).all flatV = true := by
  induction zs with
  | nil => rfl
  | cons z zs ih => exact ih
theorem inV_strs {z : Str} {zs : List Str} : inV (.str z) (zs.map V.str) = decide (z ∈ zs) := by
  unfold inV
  rw [List.any_map]
  induction zs with
  | nil => rfl
  | cons y zs ih =>
    rw [List.any_cons, ih]
    show (decide (y = z) || decide (z ∈ zs)) = _
    by_cases e : y = z
    · subst e; simp
    · have e' : ¬ z = y := fun q => e q.symm
      simp [e, e']
end AL

/-! SR2: stops read where they stand; the law's own rows; roads. -/
namespace AL
open PySem PySem.Spec PyProof.Rows L2
abbrev stpF (x : Stp) (mv : V) : List (Str × V) := [("before_it", befV x.bef), ("move_made", mv), ("far_on", .int x.far), ("table_there", .int x.tab), ("nodes_more", .int x.more)]
section
variable {L L0 L1 R : List Asn} {K : PySem.W.Frag} {P : Hp → Prop} {Q : VK} {a p : Addr} {x : Stp} {zs : List (Addr × Stp)} {mv v y : V} {i : Nat} {f n : Str} {d : PyData}
theorem Star.z {H : Hp} (s : Star L H) (q : Dp K (tupH H) y d) : Star (Fz K y d :: L) H :=
  ⟨tupH H, H, ⟨fun a o e => (tupH_some e).1, fun a o e => e, fun a o u e e2 => by obtain ⟨e1, xs, rfl⟩ := tupH_some e; exact trivial⟩, Dp.up tupH_idem d y q, s⟩
theorem StsA.has {H : Hp} (r : Tk L (StsA K zs) L0) (hx : zs[i]? = some (a, x)) (s : Star L H) : ∃ mv dx, H a = some (.ins (He.ga K "Stop") dx (stpF x mv)) ∧ Dp K (tupH H) mv (mvD x.mov) := by
  obtain ⟨H1, h1, q⟩ := (r.ok _ s).get
  obtain ⟨H2, h2, mv, q2⟩ := Star.memA (show Star (zs.map (StopA K)) H1 from q) (List.mem_map.mpr ⟨(a, x), List.mem_of_getElem? hx, rfl⟩)
  obtain ⟨Ha, Hb, sp, ⟨dx, e⟩, Hc, Hd, sp2, z, _⟩ := q2
  exact ⟨mv, dx, h1 _ _ (h2 _ _ (sp.l _ _ e)), Dp.up (tupH_up fun b o e2 => h1 _ _ (h2 _ _ (sp.r _ _ (sp2.l _ _ e2)))) _ _ z⟩
/-- a field of a stop -/
theorem e_stf (r : Tk L (StsA K zs) L0) (hx : zs[i]? = some (a, x)) (hc : Cls K (He.ga K "Stop")) (hn : NoAttr K (He.ga K "Stop") f) (hl : ∀ mv, (stpF x mv).lookup f = some v) (k : Al L (Q v)) : Al L (FldK K f Q (.ref a)) := fun H s => by
  obtain ⟨mv, dx, e, _⟩ := StsA.has r hx s
  exact ⟨a, _, dx, _, v, rfl, e, hc, hn, hl mv, k H s⟩
/-- its step -/
theorem e_stm (r : Tk L (StsA K zs) L0) (hx : zs[i]? = some (a, x)) (hc : Cls K (He.ga K "Stop")) (hn : NoAttr K (He.ga K "Stop") "move_made") (k : ∀ mv, Al (Fz K mv (mvD x.mov) :: L) (Q mv)) : Al L (FldK K "move_made" Q (.ref a)) := fun H s => by
  obtain ⟨mv, dx, e, z⟩ := StsA.has r hx s
  exact ⟨a, _, dx, _, mv, rfl, e, hc, hn, rfl, k mv H (s.z z)⟩
theorem e_stmeth {m : Str} {PV : V → Hp → Prop} (r : Tk L (StsA K zs) L0) (hx : zs[i]? = some (a, x)) (hl : ∀ mv, (stpF x mv).lookup m = none) (k : Al L (PV (.ref a))) : Al L (MethK (He.ga K "Stop") m PV (.ref a)) := fun H s => by
  obtain ⟨mv, dx, e, z⟩ := StsA.has r hx s
  exact ⟨a, dx, _, rfl, e, hl mv, k H s⟩
/-- steps -/
theorem Fz.move0 (k : mv = .non → Al L P) : Al (Fz K mv (mvD none) :: L) P := Fz.non k
theorem Fz.move3 {v : V} (hv : Scl v) (k : ∀ t, mv = .ref t → Al (FzT K t [.str "set", .str n, v] :: L) P) : Al (Fz K mv (mvD (some (n, some v))) :: L) P := by
  refine Fz.openT fun t xs e => ?_
  subst e
  refine Al.swap (Fzs.openC fun y1 ys e => ?_)
  subst e
  refine Fz.str fun e => ?_
  subst e
  refine Fzs.openC fun y2 ys e => ?_
  subst e
  refine Fz.str fun e => ?_
  subst e
  refine Fzs.openC fun y3 ys e => ?_
  subst e
  refine Fz.scl hv fun e => ?_
  subst e
  refine Fzs.openN fun e => ?_
  subst e
  exact k t rfl
theorem Fz.move2 (k : ∀ t, mv = .ref t → Al (FzT K t [.str "clear", .str n] :: L) P) : Al (Fz K mv (mvD (some (n, none))) :: L) P := by
  refine Fz.openT fun t xs e => ?_
  subst e
  refine Al.swap (Fzs.openC fun y1 ys e => ?_)
  subst e
  refine Fz.str fun e => ?_
  subst e
  refine Fzs.openC fun y2 ys e => ?_
  subst e
  refine Fz.str fun e => ?_
  subst e
  refine Fzs.openN fun e => ?_
  subst e
  exact k t rfl
theorem LdZ.move3 {v : V} {t : Addr} (hv : Scl v) (h : LdF L K t [.str "set", .str n, v]) : LdZ L K (.ref t) (mvD (some (n, some v))) := LdZ.f h (.cons .str (.cons .str (.cons (.scl hv) .nil)))
theorem LdZ.move2 {t : Addr} (h : LdF L K t [.str "clear", .str n]) : LdZ L K (.ref t) (mvD (some (n, none))) := LdZ.f h (.cons .str (.cons .str .nil))
end
def befD : Option Nat → PyData
  | none => .none
  | some b => .int b
/-- a row of the law's own: the place ahead and the step -/
def stD (z : Addr × Stp) : PyData := .tuple [befD z.2.bef, mvD z.2.mov]
theorem LdZ.bef {L : List Asn} {K : PySem.W.Frag} {b : Option Nat} : LdZ L K (befV b) (befD b) := by
  cases b with
  | none => exact .non
  | some b => exact .int
theorem Fz.bef {L : List Asn} {K : PySem.W.Frag} {P : Hp → Prop} {b : Option Nat} {x : V} (k : x = befV b → Al L P) : Al (Fz K x (befD b) :: L) P := by
  cases b with
  | none => exact Fz.non k
  | some b => exact Fz.int k
/-! ### roads -/
inductive Rd (zs : List (Addr × Stp)) : Nat → List Nat → Prop where
  | zero : Rd zs 0 [0]
  | step {j b : Nat} {w : List Nat} {a : Addr} {x : Stp} : zs[j + 1]? = some (a, x) → x.bef = some b → b ≤ j → Rd zs b w → Rd zs (j + 1) (w ++ [j + 1])
section
variable {zs : List (Addr × Stp)} {nds : List Nd} {td : List Nat} {hs : List Prs} {i j : Nat} {w w' : List Nat}
theorem Rd.fun (h : Rd zs i w) (h' : Rd zs i w') : w = w' := by
  induction h generalizing w' with
  | zero => cases h'; rfl
  | step e eb _ _ ih =>
    cases h' with
    | step e' eb' _ r =>
      rw [e] at e'; cases e'
      rw [eb] at eb'; cases eb'
      rw [ih r]
theorem Rd.last (h : Rd zs i w) : ∃ u, w = u ++ [i] := by
  cases h with
  | zero => exact ⟨[], rfl⟩
  | step => exact ⟨_, rfl⟩
theorem Rd.ne (h : Rd zs i w) : w ≠ [] := by obtain ⟨u, e⟩ := h.last; rw [e]; simp
theorem Rd.le (h : Rd zs i w) : ∀ k ∈ w, k ≤ i := by
  induction h with
  | zero => intro k hk; rw [List.mem_singleton.mp hk]; exact Nat.le_refl _
  | step _ _ hb _ ih =>
    intro k hk
    rcases List.mem_append.mp hk with m | m
    · exact Nat.le_succ_of_le (Nat.le_trans (ih k m) hb)
    · rw [List.mem_singleton.mp m]; exact Nat.le_refl _
theorem Rd.head (h : Rd zs i w) : ∃ u, w = 0 :: u := by
  induction h with
  | zero => exact ⟨[], rfl⟩
  | step _ _ _ _ ih => obtain ⟨u, e⟩ := ih; rw [e]; exact ⟨u ++ [_], rfl⟩
theorem Rd.up (h : Rd zs i w) : w.Pairwise (· < ·) := by
  induction h with
  | zero => simp
  | step _ _ hb r ih =>
    rw [List.pairwise_append]
    refine ⟨ih, List.pairwise_singleton _ _, fun a ha b hb' => ?_⟩
    rw [List.mem_singleton.mp hb']
    have := r.le a ha
    omega
theorem Rd.len (h : Rd zs i w) : w.length ≤ i + 1 := by
  induction h with
  | zero => exact Nat.le_refl _
  | step _ _ hb _ ih => rw [List.length_append, List.length_singleton]; omega
theorem Rd.lt (h : Rd zs i w) (hi : i < zs.length) : ∀ k ∈ w, k < zs.length := fun k hk => Nat.lt_of_le_of_lt (h.le k hk) hi
theorem Rd.app (h : Rd zs i w) {ys : List (Addr × Stp)} : Rd (zs ++ ys) i w := by
  induction h with
  | zero => exact .zero
  | step e eb hb _ ih => exact .step (by rw [List.getElem?_append_left (List.getElem?_eq_some_iff.mp e).1]; exact e) eb hb ih
/-- a road cut behind a place on it -/
theorem Rd.cut {u v : List Nat} {c : Nat} (h : Rd zs i (u ++ c :: v)) : Rd zs c (u ++ [c]) := by
  generalize e : u ++ c :: v = w at h
  induction h generalizing v with
  | zero =>
    cases u with
    | nil => injection e with e1 e2; rw [e1]; exact .zero
    | cons a u => injection e with e1 e2; simp at e2
  | step e1 eb hb r ih =>
    rename_i j b w' a x
    rcases List.eq_nil_or_concat v with q | ⟨v', t, q⟩
    · subst q
      obtain ⟨e2, e3⟩ := List.append_inj' e rfl
      injection e3 with e4
      rw [e2, e4]
      exact .step e1 eb hb r
    · subst q
      rw [List.concat_eq_append, ← List.cons_append, ← List.append_assoc] at e
      exact ih (List.append_inj' e rfl).1
/-- two places one behind the other on a road -/
theorem Rd.adj {u v : List Nat} {b c : Nat} (h : Rd zs i (u ++ b :: c :: v)) : ∃ a x, zs[c]? = some (a, x) ∧ x.bef = some b ∧ 0 < c := by
  have h1 : Rd zs c ((u ++ [b]) ++ [c]) := Rd.cut (u := u ++ [b]) (v := v) (by rw [List.append_assoc]; exact h)
  generalize e : (u ++ [b]) ++ [c] = w at h1
  cases h1 with
  | zero => have := congrArg List.length e; simp at this
  | step e1 eb hb r =>
    obtain ⟨e2, _⟩ := List.append_inj' e rfl
    obtain ⟨u', e3⟩ := r.last
    rw [e3] at e2
    obtain ⟨_, e5⟩ := List.append_inj' e2 rfl
    injection e5 with e6
    exact ⟨_, _, e1, by rw [eb, e6], Nat.succ_pos _⟩
theorem RdOk.rd (I : RdOk nds td zs hs) : ∀ {i : Nat}, i < zs.length → ∃ w, Rd zs i w := by
  intro i
  induction i using Nat.strongRecOn with
  | ind i ih =>
    intro hi
    cases i with
    | zero => exact ⟨[0], .zero⟩
    | succ j =>
      obtain ⟨a, x⟩ := zs[j + 1]
      have e : zs[j + 1]? = some zs[j + 1] := List.getElem?_eq_getElem hi
      obtain ⟨b, n, ov, a', y, h, q1, q2, q3, q4, q5, q6, q7, q8, q9⟩ := I.st j _ _ (show zs[j + 1]? = some (zs[j + 1].1, zs[j + 1].2) from e)
      obtain ⟨w, r⟩ := ih b (by omega) (List.getElem?_eq_some_iff.mp q6).1
      exact ⟨_, .step e q1 q2 r⟩
theorem RdOk.far (I : RdOk nds td zs hs) (h : Rd zs i w) {a : Addr} {x : Stp} (e : zs[i]? = some (a, x)) : x.far + 1 = w.length := by
  induction h generalizing a x with
  | zero =>
    obtain ⟨a0, e0⟩ := I.z
    rw [e0] at e; cases e; rfl
  | step e1 eb hb r ih =>
    rw [e1] at e; cases e
    obtain ⟨b, n, ov, a', y, h, q1, q2, q3, q4, q5, q6, q7, q8, q9⟩ := I.st _ _ _ e1
    rw [eb] at q1; cases q1
    rw [q7, ih q6, List.length_append, List.length_singleton]
end
/-! ### a step more -/
def stepS (s : St2) (i : Nat) (ps : Prs) : Str × Option V → St2 × Nat
  | (n, some v) => putS s i ps n v
  | (n, none) => delS s i ps n
def newStp (s : St2) (b : Nat) (y : Stp) (h : Prs) (m : Str × Option V) : Stp := ⟨some b, some m, y.far + 1, (stepS s y.tab (srt h) m).2, (stepS s y.tab (srt h) m).1.1.length - s.1.length⟩
theorem stepS_ok {s : St2} {i : Nat} {h : Prs} {n : Str} {ov : Option V} (T : Tbl s.1 s.2 i (srt h)) (H : Held h) (h0 : s.1[0]? = some .bare) (hn : Nm8 n) (hv : ∀ v, ov = some v → Vok v) :
    Tbl (stepS s i (srt h) (n, ov)).1.1 (stepS s i (srt h) (n, ov)).1.2 (stepS s i (srt h) (n, ov)).2 (srt (stepH h (n, ov))) ∧ Aft s (stepS s i (srt h) (n, ov)).1 := by
  cases ov with
  | none =>
    have q := delS_ok (n := n) T h0
    rw [← srt_drop H] at q
    exact q
  | some v =>
    have q := putS_ok T h0 hn (hv v rfl).scl
    rw [← srt_put H hn (hv v rfl)] at q
    exact q
theorem RdOk.go {nds : List Nd} {td : List Nat} {zs : List (Addr × Stp)} {hs : List Prs} (I : RdOk nds td zs hs) (h0 : nds[0]? = some .bare) {b : Nat} {a' : Addr} {y : Stp} {h : Prs} {n : Str} {ov : Option V}
    (hb : zs[b]? = some (a', y)) (hh : hs[b]? = some h) (hn : Nm8 n) (hv : ∀ v, ov = some v → Vok v) (a : Addr) :
    RdOk (stepS (nds, td) y.tab (srt h) (n, ov)).1.1 (stepS (nds, td) y.tab (srt h) (n, ov)).1.2 (zs ++ [(a, newStp (nds, td) b y h (n, ov))]) (hs ++ [stepH h (n, ov)]) ∧ Aft (nds, td) (stepS (nds, td) y.tab (srt h) (n, ov)).1 := by
  obtain ⟨q1, q2⟩ := stepS_ok (s := (nds, td)) (I.tb b a' y h hb hh) (I.hh h (List.mem_of_getElem? hh)) h0 hn hv
  exact ⟨I.next q2 hb hh hn hv q1, q2⟩
theorem stepH_len {h : Prs} {m : Str × Option V} : (stepH h m).length ≤ h.length + 1 := by
  obtain ⟨n, ov⟩ := m
  cases ov with
  | none => exact Nat.le_succ_of_le dropH_len
  | some v => exact putH_len
section
variable {L L0 L1 R : List Asn} {K : PySem.W.Frag} {P : Hp → Prop} {a : Addr} {x : Stp} {zs : List (Addr × Stp)}
theorem StsA.add (r : Tk L (StopA K (a, x)) L0) (r' : Tk L0 (StsA K zs) R) (k : Al (StsA K (zs ++ [(a, x)]) :: R) P) : Al L P := RwA.add (f := StopA K) (z := (a, x)) r r' k
theorem StsA.nil (k : Al (StsA K [] :: L) P) : Al L P := Al.rw0 (f := StopA K) k
theorem Fz.row {b : Option Nat} {m : Option (Str × Option V)} {v : V} (k : ∀ t mv, v = .ref t → Al (FzT K t [befV b, mv] :: Fz K mv (mvD m) :: L) P) : Al (Fz K v (.tuple [befD b, mvD m]) :: L) P := by
  refine Fz.openT fun t xs e => ?_
  subst e
  refine Al.swap (Fzs.openC fun y1 ys e => ?_)
  subst e
  refine Fz.bef fun e => ?_
  subst e
  refine Fzs.openC fun y2 ys e => ?_
  subst e
  refine Al.swap (Fzs.openN fun e => ?_)
  subst e
  exact Al.swap (k t y2 rfl)
end
def isOf (x : Stp) (n : Str) : Bool := match x.mov with
  | none => false
  | some (m, _) => decide (m = n)
theorem lo_set {n : Str} {v : V} (hn : Nm8 n) (hv : Vok v) : Lo (mvD (some (n, some v))) := .tup fun d hd => by
  simp only [List.mem_cons, List.not_mem_nil, or_false] at hd
  rcases hd with rfl | rfl | rfl
  · exact .str (by decide +kernel)
  · exact hn.lo
  · exact hv.lo
theorem lo_clear {n : Str} (hn : Nm8 n) : Lo (mvD (some (n, none))) := .tup fun d hd => by
  simp only [List.mem_cons, List.not_mem_nil, or_false] at hd
  rcases hd with rfl | rfl
  · exact .str (by decide +kernel)
  · exact hn.lo
theorem lo_mv {m : Option (Str × Option V)} (h : ∀ n ov, m = some (n, ov) → Nm8 n ∧ ∀ v, ov = some v → Vok v) : Lo (mvD m) := by
  rcases m with _ | ⟨n, _ | v⟩
  · exact .non
  · exact lo_clear (h n _ rfl).1
  · exact lo_set (h n _ rfl).1 ((h n _ rfl).2 v rfl)
theorem depth_mv {m : Option (Str × Option V)} : (mvD m).depth ≤ 1 := by
  rcases m with _ | ⟨n, _ | v⟩
  · exact Nat.zero_le _
  · exact depth_tup fun d hd => by
      simp only [List.mem_cons, List.not_mem_nil, or_false] at hd
      rcases hd with rfl | rfl <;> exact Nat.le_refl 0
  · exact depth_tup fun d hd => by
      simp only [List.mem_cons, List.not_mem_nil, or_false] at hd
      rcases hd with rfl | rfl | rfl
      · exact Nat.le_refl 0
      · exact Nat.le_refl 0
      · exact depth_dV
theorem shaped_mv {m : Option (Str × Option V)} (h : ∀ n ov, m = some (n, ov) → Nm8 n ∧ ∀ v, ov = some v → Vok v) : SeqAt.shaped (mvD m) = true := (lo_mv h).shaped (Nat.le_trans depth_mv (by decide))
/-- what stands of the step at a place -/
theorem RdOk.mv {nds : List Nd} {td : List Nat} {zs : List (Addr × Stp)} {hs : List Prs} (I : RdOk nds td zs hs) {i : Nat} {a : Addr} {x : Stp} (e : zs[i]? = some (a, x)) : ∀ n ov, x.mov = some (n, ov) → Nm8 n ∧ ∀ v, ov = some v → Vok v := by
  intro n ov q
  cases i with
  | zero =>
    obtain ⟨a0, e0⟩ := I.z
    rw [e0] at e; cases e; cases q
  | succ j =>
    obtain ⟨b, n', ov', a', y, h, q1, q2, q3, q4, q5, _⟩ := I.st j a x e
    rw [q3] at q; cases q
    exact ⟨q4, q5⟩
end AL

/-! EN18: walking back over lists; lists of data walked and added; more kinds. -/
namespace AL
open PySem PySem.Spec PyProof.Rows L2 RT
section
variable {L L0 L1 : List Asn} {σ σ' : L2.St} {Q : VK} {K : PySem.W.Frag} {te : TE} {tt : TT} {ts : TS} {g : TG} {nx : L2.St → Hp → Prop} {rt : VK} {bk ct : L2.St → Hp → Prop} {a b p : Addr} {xs : List V} {ds es : List PyData} {RI : It → Hp → Prop} {z : Str}
def kRevA (K : PySem.W.Frag) (R : It → Hp → Prop) : VK := fun v H1 => ∃ (a : Addr) (xs : List V), v = .ref a ∧ ((SqL K H1 a xs ∧ R (Itv K a xs.length) H1) ∨ (SqT K H1 a xs ∧ R (ItvT K a xs.length) H1))
theorem n_rev : xI (iRevA K te) σ RI = xE te σ (kRevA K RI) := rfl
theorem e_revL (h : Ldg L K a xs) (k : Al L (RI (Itv K a xs.length))) : Al L (kRevA K RI (.ref a)) := fun H s => ⟨a, xs, rfl, .inl ⟨h.q H s, k H s⟩⟩
theorem e_forV (I : Nat → L2.St → List Asn → Prop) (h0 : ∃ M, I 0 σ M ∧ Ent L M) (hl : ∀ i σ M, I i σ M → Ldg M K a xs)
    (hs : ∀ i x σ M, xs.reverse[i]? = some x → I i σ M → Al M (xG g x σ (kS ts (Nx (I (i + 1))) rt nx (Nx (I (i + 1))))))
    (hd : ∀ σ M, I xs.length σ M → Al M (nx σ)) : Al L (kFor g ts nx rt bk ct σ (Itv K a xs.length)) :=
  a_loop xs.length I rfl h0 (fun i σ M h hI H s => ⟨h, xs, xs[xs.length - 1 - i], (hl i σ M hI).q H s, by rw [List.getElem?_eq_getElem]⟩) (fun σ M hI H s => Nat.le_refl _) (fun i σ M h hI H s x H' y => by
    obtain ⟨rfl, y⟩ := y
    exact hs i x σ M (by rw [List.getElem?_reverse h]; exact y xs ((hl i σ M hI).q _ s)) hI H' s) hd
/-! lists of data -/
theorem LsA.has {H : Hp} (r : Tk L (LsA K a ds) L0) (s : Star L H) : ∃ xs, H a = some (.lst xs) ∧ DpAll K (tupH H) xs ds := by
  obtain ⟨H1, h1, xs, e, q⟩ := (r.ok _ s).get
  exact ⟨xs, h1 _ _ e, DpAll.up (tupH_up h1) _ _ q⟩
theorem e_itLs (r : Tk L (LsA K a ds) L0) (k : Al L (RI (Itl K a))) : Al L (IterK K RI (.ref a)) := fun H s => by
  obtain ⟨xs, e, q⟩ := LsA.has r s
  exact .inl ⟨a, xs, rfl, SqL.of e, k H s⟩
theorem e_forLs (I : Nat → L2.St → List Asn → Prop) (h0 : ∃ M, I 0 σ M ∧ Ent L M) (hl : ∀ i σ M, I i σ M → ∃ M0, Tk M (LsA K a ds) M0)
    (hs : ∀ i x d σ M, ds[i]? = some d → I i σ M → Al (Fz K x d :: M) (xG g x σ (kS ts (Nx (I (i + 1))) rt nx (Nx (I (i + 1))))))
    (hd : ∀ σ M, I ds.length σ M → Al M (nx σ)) : Al L (kFor g ts nx rt bk ct σ (Itl K a)) :=
  a_loop ds.length I rfl h0 (fun i σ M h hI H s => by
      obtain ⟨M0, r⟩ := hl i σ M hI
      obtain ⟨xs, e, q⟩ := LsA.has r s
      have hlen := DpAll.len q
      exact ⟨xs, xs[i], SqL.of e, List.getElem?_eq_getElem (by omega)⟩) (fun σ M hI H s => by
      obtain ⟨M0, r⟩ := hl _ σ M hI
      obtain ⟨xs, e, q⟩ := LsA.has r s
      exact ⟨xs, SqL.of e, by rw [DpAll.len q]; exact Nat.le_refl _⟩) (fun i σ M h hI H s x H' y => by
    obtain ⟨rfl, y⟩ := y
    obtain ⟨M0, r⟩ := hl i σ M hI
    obtain ⟨xs, e, q⟩ := LsA.has r s
    have ex := y xs (SqL.of e)
    obtain ⟨d, ed⟩ : ∃ d, ds[i]? = some d := ⟨_, List.getElem?_eq_getElem h⟩
    exact hs i x d σ M ed hI H' (s.zz (DpAll.get q ex ed))) hd
theorem e_lcLs {ws : List Nat} {σw : L2.St} (hw : Wp σ ws σw) (I : Nat → List V → List Asn → Prop) (h0 : ∃ M, I 0 [] M ∧ Ent L M) (hl : ∀ i acc M, I i acc M → ∃ M0, Tk M (LsA K a ds) M0)
    (hs : ∀ i x d acc M D, ds[i]? = some d → I i acc M → Al (Fz K x d :: pt D (.lst acc) :: M) (xG g x σw (kLcB tt te D (LcN I (i + 1) D) ws σ)))
    (hd : ∀ acc M D, I ds.length acc M → Al (pt D (.lst acc) :: M) (Q (.ref D))) : Al L (kLc g tt te ws σ Q (Itl K a)) :=
  a_lcG ds.length I h0 (fun i acc M h hI H s => by
      obtain ⟨M0, r⟩ := hl i acc M hI
      obtain ⟨xs, e, q⟩ := LsA.has r s
      have hlen := DpAll.len q
      exact ⟨xs, xs[i], SqL.of e, List.getElem?_eq_getElem (by omega)⟩) (fun acc M hI H s => by
      obtain ⟨M0, r⟩ := hl _ acc M hI
      obtain ⟨xs, e, q⟩ := LsA.has r s
      exact ⟨xs, SqL.of e, by rw [DpAll.len q]; exact Nat.le_refl _⟩) (fun i acc M D h hI H s x H' y => by
    obtain ⟨rfl, y⟩ := y
    obtain ⟨M0, r⟩ := hl i acc M hI
    obtain ⟨xs, e, q⟩ := LsA.has r.there s
    have ex := y xs (SqL.of e)
    obtain ⟨d, ed⟩ : ∃ d, ds[i]? = some d := ⟨_, List.getElem?_eq_getElem h⟩
    rw [hw.eq]
    exact hs i x d acc M D ed hI H' (s.zz (DpAll.get q ex ed))) hd
theorem e_lsadd (r : Tk L (LsA K a ds) L0) (r' : Tk L (LsA K b es) L1) (hz : ds.length + es.length ≤ sizeLine) (k : ∀ c, Al (LsA K c (ds ++ es) :: L) (Q (.ref c))) : Al L (x2 (bAdd K) (.ref a) (.ref b) Q) := fun H s => by
  obtain ⟨xs, e1, q1⟩ := LsA.has r s
  obtain ⟨ys, e2, q2⟩ := LsA.has r' s
  refine .inr (.inr (.inl ⟨a, b, xs, ys, rfl, rfl, e1, e2, by rw [DpAll.len q1, DpAll.len q2]; exact hz, fun c hc => ?_⟩))
  have q3 : DpAll K (tupH H) (xs ++ ys) (ds ++ es) := DpAll.app q1 q2
  have s3 : Star (Fzs K (xs ++ ys) (ds ++ es) :: L) H := ⟨tupH H, H, ⟨fun a o e => (tupH_some e).1, fun a o e => e, fun a o u e e2 => by obtain ⟨e1, xs, rfl⟩ := tupH_some e; exact trivial⟩, DpAll.up tupH_idem _ _ q3, s⟩
  have s4 := s3.new (o := .lst (xs ++ ys)) hc
  exact LsA.fold (P := Q (.ref c)) .here (.tk .here) (fun H s => k c H (s.tail fun _ t => t.drop)) _ s4
/-! kinds -/
theorem e_isi_nb (k : Al L (Q (.bl false))) : Al L (xB (rIsi K) [.non, .ty "bool"] Q) := e_isi LdD.non (kit_bool .none) k
theorem e_isi_sb (k : Al L (Q (.bl false))) : Al L (xB (rIsi K) [.str z, .ty "bool"] Q) := e_isi LdD.str (kit_bool (.str z)) k
theorem e_isi_ni (k : Al L (Q (.bl false))) : Al L (xB (rIsi K) [.non, .ty "int"] Q) := e_isi LdD.non (kit_int .none) k
end
end AL

/-! SR3: looking back along a road. -/
namespace AL
open PySem PySem.Spec PyProof.Rows L2
section
variable {zs : List (Addr × Stp)} {nds : List Nd} {td : List Nat} {hs : List Prs} {i c : Nat} {n : Str} {w q t : List Nat} {a : Addr} {x : Stp}
def hasN (zs : List (Addr × Stp)) (n : Str) (c : Nat) : Bool := match zs[c]? with
  | some (_, x) => isOf x n
  | none => false
def valS (x : Stp) : Option V := match x.mov with
  | some (_, some v) => some v
  | _ => none
def valAt (zs : List (Addr × Stp)) (c : Nat) : Option V := match zs[c]? with
  | some (_, x) => valS x
  | none => none
def lastR (zs : List (Addr × Stp)) (n : Str) (w : List Nat) : Option Nat := w.reverse.find? (hasN zs n)
def walkR (zs : List (Addr × Stp)) (n : Str) (w : List Nat) : Option V := (lastR zs n w).bind (valAt zs)
theorem hasN_at (h : zs[c]? = some (a, x)) : hasN zs n c = isOf x n := by unfold hasN; rw [h]
theorem valAt_at (h : zs[c]? = some (a, x)) : valAt zs c = valS x := by unfold valAt; rw [h]
theorem RdOk.no0 (I : RdOk nds td zs hs) : hasN zs n 0 = false := by
  obtain ⟨a0, e0⟩ := I.z
  rw [hasN_at e0]; rfl
theorem lastR_none (h : ∀ k ∈ w, hasN zs n k = false) : lastR zs n w = none := by
  unfold lastR
  rw [List.find?_eq_none]
  intro k hk
  rw [h k (List.mem_reverse.mp hk)]; decide
theorem lastR_some (e : w = q ++ c :: t) (h : ∀ k ∈ t, hasN zs n k = false) (hc : hasN zs n c = true) : lastR zs n w = some c := by
  unfold lastR
  rw [e, List.reverse_append, List.reverse_cons, List.append_assoc, List.find?_append]
  have e1 : t.reverse.find? (hasN zs n) = none := by
    rw [List.find?_eq_none]
    intro k hk
    rw [h k (List.mem_reverse.mp hk)]; decide
  rw [e1, Option.none_or]
  show List.find? _ (c :: _) = _
  rw [List.find?_cons, hc]
theorem lastR_mem (e : lastR zs n w = some c) : c ∈ w ∧ hasN zs n c = true := by
  unfold lastR at e
  exact ⟨List.mem_reverse.mp (List.mem_of_find?_eq_some e), List.find?_some e⟩
theorem RdOk.scl (I : RdOk nds td zs hs) (e : zs[i]? = some (a, x)) : ∀ m v, x.mov = some (m, some v) → Scl v := fun m v q => ((I.mv e m _ q).2 v rfl).scl
theorem RdOk.vok (I : RdOk nds td zs hs) (e : zs[i]? = some (a, x)) : ∀ v, valS x = some v → Vok v := fun v q => by
  unfold valS at q
  split at q
  · rename_i m u em; cases q; exact (I.mv e m _ em).2 _ rfl
  · cases q
/-- what walking back finds stands in the pairs -/
theorem RdOk.walk (I : RdOk nds td zs hs) (hr : Rd zs i w) : ∀ {h : Prs}, hs[i]? = some h → walkR zs n w = fnd h n := by
  induction hr with
  | zero =>
    intro h hh
    rw [I.h0] at hh; cases hh
    unfold walkR
    rw [lastR_none (fun k hk => by rw [List.mem_singleton.mp hk]; exact I.no0)]; rfl
  | step e1 eb hb r ih =>
    rename_i j b w a x
    intro h hh
    obtain ⟨b', m, ov, a', y, h', q1, q2, q3, q4, q5, q6, q7, q8, q9⟩ := I.st _ _ _ e1
    rw [eb] at q1; cases q1
    rw [q9] at hh; cases hh
    have hhN : hasN zs n (j + 1) = decide (m = n) := by rw [hasN_at e1]; unfold isOf; rw [q3]
    have hH := I.hh h' (List.mem_of_getElem? q8)
    by_cases c : m = n
    · subst c
      have e3 : walkR zs m (w ++ [j + 1]) = ov := by
        unfold walkR
        rw [lastR_some (q := w) (c := j + 1) (t := []) rfl (fun k hk => by cases hk) (by rw [hhN]; simp)]
        show valAt zs (j + 1) = _
        rw [valAt_at e1]; unfold valS; rw [q3]
        cases ov <;> rfl
      rw [e3]
      cases ov with
      | none =>
        show none = fnd (dropH h' m) m
        symm
        cases e : fnd (dropH h' m) m with
        | none => rfl
        | some v => exact absurd rfl (mem_dropH.mp (fnd_some e)).2
      | some v =>
        show some v = fnd (putH h' m v) m
        exact (fnd_uniq (hH.put q4 (q5 v rfl)).d (mem_putH.mpr (.inl rfl))).symm
    · have e3 : walkR zs n (w ++ [j + 1]) = walkR zs n w := by
        unfold walkR lastR
        rw [List.reverse_append, List.reverse_singleton, List.singleton_append, List.find?_cons, hhN, decide_eq_false c]
      rw [e3, ih q8]
      have key : ∀ {h2 : Prs} (H2 : Held h2), (∀ y, y.1 = n → (y ∈ h2 ↔ y ∈ h')) → fnd h' n = fnd h2 n := fun {h2} H2 hm => by
        cases e : fnd h' n with
        | some v => exact (fnd_uniq H2.d ((hm (n, v) rfl).mpr (fnd_some e))).symm
        | none =>
          cases e2 : fnd h2 n with
          | none => rfl
          | some v => exact absurd rfl (fnd_none e _ ((hm (n, v) rfl).mp (fnd_some e2)))
      cases ov with
      | none =>
        refine key (h2 := dropH h' m) hH.drop fun y hy => ?_
        rw [mem_dropH]
        exact ⟨fun q => q.1, fun q => ⟨q, fun e => c (e ▸ hy)⟩⟩
      | some v =>
        refine key (h2 := putH h' m v) (hH.put q4 (q5 v rfl)) fun y hy => ?_
        rw [mem_putH]
        refine ⟨fun q => q.elim (fun e => absurd (by rw [← hy, e]) c) (·.1), fun q => .inr ⟨q, fun e => c (e ▸ hy)⟩⟩
end
end AL

/-! SR4: where two roads part. -/
namespace AL
open PySem PySem.Spec PyProof.Rows L2
section
variable {zs : List (Addr × Stp)} {nds : List Nd} {td : List Nat} {hs : List Prs} {i j c e : Nat} {w w' q t u v : List Nat} {a : Addr} {x : Stp}
/-- the last place on both roads -/
def meetR (w w' : List Nat) : Nat := ((w.filter fun k => decide (k ∈ w')).getLast?).getD 0
theorem meetR_at (h : w = q ++ c :: t) (hc : c ∈ w') (ht : ∀ k ∈ t, k ∉ w') : meetR w w' = c := by
  unfold meetR
  have e1 : t.filter (fun k => decide (k ∈ w')) = [] := by
    rw [List.filter_eq_nil_iff]
    intro k hk
    rw [decide_eq_false (ht k hk)]; decide
  rw [h, List.filter_append, List.filter_cons, if_pos (decide_eq_true hc), e1]
  rw [show q.filter (fun k => decide (k ∈ w')) ++ [c] = q.filter (fun k => decide (k ∈ w')) ++ [c] from rfl, List.getLast?_concat]; rfl
theorem RdOk.farC (I : RdOk nds td zs hs) (h : Rd zs i (q ++ c :: t)) (hx : zs[c]? = some (a, x)) : x.far = q.length := by
  have := I.far h.cut hx
  rw [List.length_append, List.length_singleton] at this
  omega
/-- the place that lies further on is on the other road not at all -/
theorem RdOk.off (I : RdOk nds td zs hs) {q' t' : List Nat} {c' : Nat} {a' : Addr} {x' : Stp} (h : Rd zs i w) (h' : Rd zs j w') (e : w = q ++ c :: t) (e' : w' = q' ++ c' :: t') (hx : zs[c]? = some (a, x)) (hx' : zs[c']? = some (a', x'))
    (ht' : ∀ k ∈ t', k ∉ w) (hne : c ≠ c') (hf : x'.far ≤ x.far) : c ∉ w' ∧ q ≠ [] := by
  have f1 : x.far = q.length := I.farC (e ▸ h) hx
  have f2 : x'.far = q'.length := I.farC (e' ▸ h') hx'
  constructor
  · intro m
    rw [e'] at m
    rcases List.mem_append.mp m with m | m
    · obtain ⟨s1, s2, es⟩ := List.append_of_mem m
      have f3 : x.far = s1.length := I.farC (q := s1) (t := s2 ++ c' :: t') (by rw [e', es, List.append_assoc] at h'; exact h') hx
      have := congrArg List.length es
      rw [List.length_append, List.length_cons] at this
      omega
    · rcases List.mem_cons.mp m with m | m
      · exact hne m
      · exact ht' c m (by rw [e]; exact List.mem_append.mpr (.inr (List.mem_cons_self ..)))
  · intro z
    subst z
    have z' : q' = [] := List.eq_nil_of_length_eq_zero (by rw [← f2]; rw [List.length_nil] at f1; omega)
    subst z'
    obtain ⟨u1, e1⟩ := h.head
    obtain ⟨u2, e2⟩ := h'.head
    rw [e] at e1; rw [e'] at e2
    injection e1 with g1 _
    injection e2 with g2 _
    exact hne (g1.trans g2.symm)
/-- a place on a road: that place's own road is the road's beginning -/
theorem Rd.pre (h : Rd zs i w) (hc : c ∈ w) : ∃ u v, w = u ++ c :: v ∧ Rd zs c (u ++ [c]) := by
  obtain ⟨u, v, e⟩ := List.append_of_mem hc
  exact ⟨u, v, e, (e ▸ h : Rd zs i (u ++ c :: v)).cut⟩
theorem meetR_on (h : Rd zs e w) (h' : Rd zs i w') (he : e ∈ w') : meetR w w' = e := by
  obtain ⟨u, hu⟩ := h.last
  exact meetR_at (t := []) hu he fun k hk => by cases hk
theorem meetR_off (h : Rd zs e w) (h' : Rd zs i w') (he : e ∉ w') : meetR w w' ≠ e := by
  intro q
  unfold meetR at q
  cases z : (w.filter fun k => decide (k ∈ w')).getLast? with
  | none =>
    rw [z] at q
    rw [List.getLast?_eq_none_iff, List.filter_eq_nil_iff] at z
    obtain ⟨u, hu⟩ := h.head
    obtain ⟨u', hu'⟩ := h'.head
    exact z 0 (by rw [hu]; exact List.mem_cons_self ..) (decide_eq_true (by rw [hu']; exact List.mem_cons_self ..))
  | some k =>
    rw [z] at q
    have m := List.mem_of_getLast? z
    rw [List.mem_filter] at m
    have : k = e := q
    exact he (this ▸ of_decide_eq_true m.2)
theorem Rd.uniq (h : Rd zs i w) (e1 : w = u ++ c :: v) (e2 : w = q ++ c :: t) : u = q ∧ v = t := by
  have r1 := (e1 ▸ h : Rd zs i (u ++ c :: v)).cut
  have r2 := (e2 ▸ h : Rd zs i (q ++ c :: t)).cut
  obtain ⟨e3, _⟩ := List.append_inj' (r1.fun r2) rfl
  subst e3
  rw [e1] at e2
  have := List.append_cancel_left e2
  injection this with _ e4
  exact ⟨rfl, e4⟩
end
end AL

namespace My
open PySem PySem.Spec PyProof.Rows L2 AL
set_option hygiene false
local macro_rules | `(tactic| k_all) => `(tactic| first | assumption | omega | trivial | decide | exact rfl | (refine ⟨?_, ?_⟩ <;> omega) | (simp only [List.length_map, List.length_cons, List.length_nil, List.length_append, List.length_range, sizeLine_eq] at *; omega))
local macro_rules | `(tactic| kln_le) => `(tactic| first | assumption | (simp only [str_len, one_size, List.size_toArray, app_size, push_size, List.length_map, List.length_append, List.length_range, List.length_cons, List.length_nil, sizeLine_eq]; omega) | decide +kernel | (rw [sizeLine_eq]; omega) | (simp only [sizeLine_eq] at *; omega))
local macro_rules | `(tactic| kd_all) => `(tactic| (apply Box.le; omega))
local macro_rules | `(tactic| kd_p) => `(tactic| first | apply Dup.tup | apply FzT.dup | apply Fz.dup | apply Fzs.dup | apply Dup.pur)
local macro_rules | `(tactic| kpt_turns) => `(tactic| fail)
local macro_rules | `(tactic| tb_rel) => `(tactic| first
  | (with_reducible first
    | (apply Tk.dup; kd_p) | apply Tk.here | apply GetAt.z | apply SetAt.z | apply Tks.nil | apply Wp.nil)
  | ((with_reducible apply Tk.weak); kd_all)
  | ((with_reducible first | apply Tk.there | apply GetAt.s | apply SetAt.s); tb_rel) | ((with_reducible apply Tks.cons); tb_rel; tb_rel) | ((with_reducible apply Wp.cons); tb_rel; tb_rel)
  | (apply Tks.cons; tb_rel; tb_rel) | (apply Wp.cons; tb_rel; tb_rel) | apply Tks.nil | apply Wp.nil)
local macro_rules | `(tactic| top_args) => `(tactic| first | (focus ((with_reducible apply Ldg.tk); tb_rel; done)) | (focus ((with_reducible apply Ldg.tkq); tb_rel; done)) | (focus ((with_reducible apply LdgT.tk); tb_rel; done)) | (focus ((with_reducible apply LdgT.tkf); tb_rel; done)) | assumption)
local macro_rules | `(tactic| kst_mem) => `(tactic| first | exact cmul_bit | exact Or.inl ⟨by omega, by omega⟩ | exact Or.inr ⟨by omega, by omega⟩ | exact Or.inl ⟨by decide, by decide⟩ | exact Or.inr ⟨by decide, by decide⟩)
local macro_rules | `(tactic| kst_facts) => `(tactic| first | exact ⟨by decide, by decide, by decide⟩ | exact ⟨by omega, by omega, by first | decide | omega⟩)
local macro_rules | `(tactic| kd_mem) => `(tactic| assumption)
local macro_rules | `(tactic| kd_in) => `(tactic| assumption)
local macro_rules | `(tactic| kt_len) => `(tactic| first | apply at0 | apply at1 | apply at2 | apply at3 | apply at4 | apply at5 | apply at6 | apply at7)
local macro_rules | `(tactic| tb_start) => `(tactic| repeat (first
  | simp only [n_c, n_op, n_op1, n_op2, n_cb, n_cb1, n_nil, n_cons, n_cons1, n_cons2, n_test, n_bl, n_seq, n_kS, n_ret, n_drop, n_drop1, n_asg, n_asg1, n_if, n_ifT, n_ifF, n_v0, n_vs, n_g0_, n_gs, n_pre, n_next]
  | ((with_reducible apply g_x2); (first
    | (with_reducible first | apply e_add_ii | apply e_sub | apply e_lt | apply e_le | apply e_gt | apply e_ge | apply e_eq_ii | apply e_ne_ii | apply e_eq_ss | apply e_ne_ss | apply e_eq_is | apply e_eq_si | apply e_ne_is | apply e_ne_si | apply e_is_n | apply e_is_i | apply e_is_s | apply e_is_b | apply e_is_r | apply e_isnt_n | apply e_isnt_i | apply e_isnt_s | apply e_isnt_b | apply e_isnt_r | apply e_is | apply e_isnt | apply e_inC | apply e_notinC)
    | ((with_reducible apply e_mod); (first | omega | decide))
    | ((with_reducible apply e_mul); kst_mem)
    | ((with_reducible apply e_fdiv); (first | exact ⟨by decide, by decide⟩ | exact wide_div (b := 62) (by omega) (by omega) (by decide) (by decide)))
    | ((with_reducible first | apply e_pow | apply e_shl); kst_facts)
    | ((with_reducible apply e_shr); (first | omega | decide))
    | ((with_reducible apply e_inDS); tb_rel) | ((with_reducible apply e_notinDS); tb_rel)
    | ((with_reducible first | apply e_eq | apply e_ne); rfl)
    | ((with_reducible apply e_xL); top_args; (with_reducible kt_len)) | ((with_reducible apply e_xT); top_args; (with_reducible kt_len))
    | ((with_reducible apply e_add_ss); kln_le)
    | ((with_reducible apply e_add_ll); tb_rel; tb_rel; kln_le; intro p)))
  | ((with_reducible apply g_xB); (first
    | (with_reducible first | apply e_int_b | apply e_int_i | apply e_str_s | apply e_abs | apply e_min | apply e_max | apply e_ord1 | apply e_isi_is | apply e_isi_ss | apply e_isi_ns | apply e_isi_ii | apply e_isi_si | apply e_isi_ib | apply e_isi_nb | apply e_isi_sb | apply e_isi_ni)
    | ((with_reducible apply e_len_l); top_args) | ((with_reducible apply e_lslen); tb_rel) | ((with_reducible apply e_len_t); top_args) | ((with_reducible apply e_len_s); kln_le) | ((with_reducible apply e_len_d); tb_rel)
    | ((with_reducible apply e_list_l); top_args; intro p) | ((with_reducible apply e_list_t); top_args; intro p) | ((with_reducible apply e_tup_l); top_args; intro p) | ((with_reducible apply e_tup_t); top_args) | ((with_reducible apply e_list_d); tb_rel; intro p)))
  | ((with_reducible apply e_tyL); top_args)
  | ((with_reducible apply e_tyLs); tb_rel)
  | ((with_reducible apply e_tyD); tb_rel)
  | ((with_reducible apply e_keys); tb_rel)
  | ((with_reducible apply e_every); top_args; intro p) | ((with_reducible apply e_dpop1); tb_rel)
  | ((with_reducible apply e_g2a); tb_rel) | ((with_reducible apply e_g2c); tb_rel) | ((with_reducible apply e_get1); tb_rel) | ((with_reducible apply e_getS); tb_rel)
  | ((with_reducible apply g_xM); (first
    | ((with_reducible apply e_append); tb_rel; kln_le) | ((with_reducible apply e_extendL); tb_rel; tb_rel; kln_le) | ((with_reducible apply e_extendT); tb_rel; top_args; kln_le) | ((with_reducible apply e_reverse); tb_rel) | ((with_reducible apply e_items); tb_rel; intro p)))
  | (with_reducible first | apply e_iadd | apply e_isub | apply e_neg | apply e_enS | apply e_qnon)
  | ((with_reducible apply e_idiv); (first | exact ⟨by decide, by decide⟩ | exact wide_div (b := 62) (by omega) (by omega) (by decide) (by decide)))
  | ((with_reducible apply e_iadds); kln_le)
  | ((with_reducible first | apply e_new | apply e_dnew | apply e_make | apply e_disp); intro p)
  | ((with_reducible first | apply e_tup | apply e_lst); (first | exact Nat.le_of_ble_eq_true rfl | kln_le); intro p)
  | ((with_reducible apply e_fld); tb_rel; kd_mem; kd_in; rfl)
  | ((with_reducible apply e_meth); tb_rel; rfl)
  | ((with_reducible apply e_methN); tb_rel; (intro _; rfl))
  | ((with_reducible apply e_methS); tb_rel; (intro _ _; rfl))
  | ((with_reducible apply e_sfld); tb_rel; kd_mem; kd_in; (exact Nat.le_of_ble_eq_true rfl); (repeat (first | exact putF_nil | exact putF_hit | ((apply putF_skip); (focus decide +kernel)))))
  | ((with_reducible apply e_gT); top_args; rfl)
  | ((with_reducible apply e_itZ); top_args; top_args) | ((with_reducible apply e_itL); top_args) | ((with_reducible apply e_itLs); tb_rel) | ((with_reducible apply e_revL); top_args) | ((with_reducible apply e_itT); top_args) | ((with_reducible apply e_en); top_args)
  | ((with_reducible apply e_r1nx); omega)
  | ((with_reducible first | apply e_r3D | apply e_r2); exact ⟨by omega, by omega, by omega, by omega⟩) | ((with_reducible apply e_r1x); exact ⟨by omega, by omega⟩)
  | ((with_reducible apply e_setT); tb_rel; (with_reducible first | apply st0 | apply st1 | apply st2 | apply st3 | apply st4 | apply st5 | apply st6 | apply st7))
  | ((with_reducible apply e_lcB); rfl)
  | ((with_reducible first | apply e_and | apply e_or); (focus (intro hb QB hk; (try simp only [decide_eq_true_eq, decide_eq_false_iff_not, Bool.not_eq_true', Bool.not_eq_false'] at hb); tb_start; first | exact hk | exact e_end (by tb_rel) hk)))
  | ((with_reducible first | apply e_andV | apply e_orV | apply e_ch); (focus (intro hb QB hk; (try simp only [decide_eq_true_eq, decide_eq_false_iff_not, Bool.not_eq_true', Bool.not_eq_false'] at hb); tb_start; first | exact hk | exact e_end (by tb_rel) hk)))
  | ((with_reducible apply e_ifxI); (focus (intro hb QB hk; (try simp only [decide_eq_true_eq, decide_eq_false_iff_not, Bool.not_eq_true', Bool.not_eq_false'] at hb); tb_start; first | exact hk | exact e_end (by tb_rel) hk)); (focus (intro hb QB hk; (try simp only [decide_eq_true_eq, decide_eq_false_iff_not, Bool.not_eq_true', Bool.not_eq_false'] at hb); tb_start; first | exact hk | exact e_end (by tb_rel) hk)))
  | simp only [n_un, n_un1, n_tB, n_and, n_andT, n_andF, n_or, n_orT, n_orF, n_not, n_not1, n_andV, n_andVT, n_andVF, n_orV, n_orVT, n_orVF, n_notV, n_notV1, n_ifx, n_ifxT, n_ifxF, n_ch, n_ch1, n_ch2, n_chT, n_chF, n_tup, n_lst, n_fld, n_meth, n_meth1, n_meth2, n_call, n_call1, n_make, n_sl, n_sl1, n_sl2, n_sl3, n_nopart, n_part, n_part1, n_bm, n_bm1, n_bm2, n_bm0, n_bm01, n_tyS, n_brk, n_cont, n_retN, n_par, n_par1, n_kSet, n_aug, n_aug1, n_aug2, n_sfld, n_sfld1, n_gc, n_gs1, n_g0, n_gsub, n_gsub1, n_gsub2, n_for, n_r1, n_r2, n_r3, n_any, n_enS, n_en, n_itS, n_lc, n_yes, n_lcT, n_lcF, n_sortK, n_arg1, n_part2, n_pr0, n_pr1, n_pr2, n_pr3, n_dget1, n_dget2, n_g2b, n_try, n_callW, n_callW1, n_methW, n_methW1, n_methW2, n_raise, n_xk, n_every, n_dpop2, n_dpop22, n_zip, n_keys, nq_par3, nq_par31, n_rev, isForkN, isLeafN]
  | ((with_reducible apply e_raise); intro p)
  | kpt_turns))
local macro_rules | `(tactic| kd_mem) => `(tactic| first | assumption | exact T.c_Nodes | exact T.c_Store | exact T.c_Stop | exact T.c_Roads)
local macro_rules | `(tactic| kd_in) => `(tactic| first | assumption | exact T.n_Nodes_rows | exact T.n_Store_nodes | exact T.n_Store_told | exact T.n_Stop_before_it | exact T.n_Stop_move_made | exact T.n_Stop_far_on | exact T.n_Stop_table_there | exact T.n_Stop_nodes_more | exact T.n_Roads_shelf | exact T.n_Roads_stops)

def top (i : Nat) : Stmt := PySem.Challenge.pw_roadsettings_k29_papers_of_what_is_betwe.main.body.getD i (.Pass ⟨0, 0, 0, 0⟩)
abbrev s_alike : Stmt := top 4
abbrev s_mark : Stmt := top 5
abbrev s_digit : Stmt := top 6
abbrev s_is_leaf : Stmt := top 10
abbrev s_is_fork : Stmt := top 11
abbrev s_Nodes__init_ : Stmt := inClass (top 12) 0
abbrev s_Nodes_at : Stmt := inClass (top 12) 1
abbrev s_Nodes_many : Stmt := inClass (top 12) 2
abbrev s_Nodes_make : Stmt := inClass (top 12) 3
abbrev s_Nodes_leaf : Stmt := inClass (top 12) 4
abbrev s_Nodes_fork : Stmt := inClass (top 12) 5
abbrev s_value_in : Stmt := top 13
abbrev s_pairs_with : Stmt := top 14
abbrev s_pairs_without : Stmt := top 15
abbrev s_with_part : Stmt := top 16
abbrev s_is_step_of : Stmt := top 18
abbrev s_between_paper : Stmt := top 19
abbrev s_NoTable__init_ : Stmt := inClass (top 22) 0
abbrev s_NoPlace__init_ : Stmt := inClass (top 24) 0
abbrev s_NotBehind__init_ : Stmt := inClass (top 25) 0
abbrev s_Store__init_ : Stmt := inClass (top 28) 0
abbrev s_Store_look_table : Stmt := inClass (top 28) 1
abbrev s_Store_tell : Stmt := inClass (top 28) 2
abbrev s_Store_empty : Stmt := inClass (top 28) 3
abbrev s_Store_way_from : Stmt := inClass (top 28) 4
abbrev s_Store_way : Stmt := inClass (top 28) 5
abbrev s_Store_looked : Stmt := inClass (top 28) 6
abbrev s_Store_made : Stmt := inClass (top 28) 10
abbrev s_Store_parted : Stmt := inClass (top 28) 11
abbrev s_Store_put_at : Stmt := inClass (top 28) 12
abbrev s_Store_put : Stmt := inClass (top 28) 13
abbrev s_Store_lone_leaf : Stmt := inClass (top 28) 14
abbrev s_Store_left_at : Stmt := inClass (top 28) 15
abbrev s_Store_without : Stmt := inClass (top 28) 16
abbrev s_Stop__init_ : Stmt := inClass (top 31) 0
abbrev s_Roads__init_ : Stmt := inClass (top 32) 0
abbrev s_Roads_stop_at : Stmt := inClass (top 32) 1
abbrev s_Roads_stops_at : Stmt := inClass (top 32) 2
abbrev s_Roads_table_behind : Stmt := inClass (top 32) 3
abbrev s_Roads_go_on : Stmt := inClass (top 32) 4
abbrev s_Roads_put : Stmt := inClass (top 32) 5
abbrev s_Roads_clear : Stmt := inClass (top 32) 6
abbrev s_Roads_places : Stmt := inClass (top 32) 7
abbrev s_Roads_step : Stmt := inClass (top 32) 9
abbrev s_Roads_back_to : Stmt := inClass (top 32) 12
abbrev s_Roads_meeting : Stmt := inClass (top 32) 20
abbrev s_Roads_between : Stmt := inClass (top 32) 21
abbrev s__law_cell_at : Stmt := top 34
abbrev s__law_box : Stmt := top 35
abbrev s__law_take : Stmt := top 36
abbrev s__law_names : Stmt := top 37
abbrev s__law_value : Stmt := top 38
abbrev s__law_pool : Stmt := top 39
abbrev s__law_values : Stmt := top 40
abbrev s__law_step : Stmt := top 41
abbrev s__law_from : Stmt := top 42
abbrev s__law_grown : Stmt := top 43
abbrev s__law_road : Stmt := top 44
abbrev s__law_told : Stmt := top 47
abbrev s__law_paper_right : Stmt := top 48
abbrev s__law_right : Stmt := top 49
abbrev s_law : Stmt := top 50
def d_alike : He.DefD := ⟨("alike", none), "alike", "alike", defArgs s_alike, defBody s_alike, defScope s_alike, [], []⟩
def d_mark : He.DefD := ⟨("mark", none), "mark", "mark", defArgs s_mark, defBody s_mark, defScope s_mark, [], []⟩
def d_digit : He.DefD := ⟨("digit", none), "digit", "digit", defArgs s_digit, defBody s_digit, defScope s_digit, [], []⟩
def d_is_leaf : He.DefD := ⟨("is_leaf", none), "is_leaf", "is_leaf", defArgs s_is_leaf, defBody s_is_leaf, defScope s_is_leaf, [], []⟩
def d_is_fork : He.DefD := ⟨("is_fork", none), "is_fork", "is_fork", defArgs s_is_fork, defBody s_is_fork, defScope s_is_fork, [], []⟩
def d_Nodes__init_ : He.DefD := ⟨("Nodes", some "__init__"), "__init__", "Nodes.__init__", defArgs s_Nodes__init_, defBody s_Nodes__init_, defScope s_Nodes__init_, [], []⟩
def d_Nodes_at : He.DefD := ⟨("Nodes", some "at"), "at", "Nodes.at", defArgs s_Nodes_at, defBody s_Nodes_at, defScope s_Nodes_at, [], []⟩
def d_Nodes_many : He.DefD := ⟨("Nodes", some "many"), "many", "Nodes.many", defArgs s_Nodes_many, defBody s_Nodes_many, defScope s_Nodes_many, [], []⟩
def d_Nodes_make : He.DefD := ⟨("Nodes", some "make"), "make", "Nodes.make", defArgs s_Nodes_make, defBody s_Nodes_make, defScope s_Nodes_make, [], []⟩
def d_Nodes_leaf : He.DefD := ⟨("Nodes", some "leaf"), "leaf", "Nodes.leaf", defArgs s_Nodes_leaf, defBody s_Nodes_leaf, defScope s_Nodes_leaf, [], []⟩
def d_Nodes_fork : He.DefD := ⟨("Nodes", some "fork"), "fork", "Nodes.fork", defArgs s_Nodes_fork, defBody s_Nodes_fork, defScope s_Nodes_fork, [], []⟩
def d_value_in : He.DefD := ⟨("value_in", none), "value_in", "value_in", defArgs s_value_in, defBody s_value_in, defScope s_value_in, [], []⟩
def d_pairs_with : He.DefD := ⟨("pairs_with", none), "pairs_with", "pairs_with", defArgs s_pairs_with, defBody s_pairs_with, defScope s_pairs_with, [], []⟩
def d_pairs_without : He.DefD := ⟨("pairs_without", none), "pairs_without", "pairs_without", defArgs s_pairs_without, defBody s_pairs_without, defScope s_pairs_without, [], []⟩
def d_with_part : He.DefD := ⟨("with_part", none), "with_part", "with_part", defArgs s_with_part, defBody s_with_part, defScope s_with_part, [], []⟩
def d_is_step_of : He.DefD := ⟨("is_step_of", none), "is_step_of", "is_step_of", defArgs s_is_step_of, defBody s_is_step_of, defScope s_is_step_of, [], []⟩
def d_between_paper : He.DefD := ⟨("between_paper", none), "between_paper", "between_paper", defArgs s_between_paper, defBody s_between_paper, defScope s_between_paper, [], []⟩
def d_NoTable__init_ : He.DefD := ⟨("NoTable", some "__init__"), "__init__", "NoTable.__init__", defArgs s_NoTable__init_, defBody s_NoTable__init_, defScope s_NoTable__init_, [], []⟩
def d_NoPlace__init_ : He.DefD := ⟨("NoPlace", some "__init__"), "__init__", "NoPlace.__init__", defArgs s_NoPlace__init_, defBody s_NoPlace__init_, defScope s_NoPlace__init_, [], []⟩
def d_NotBehind__init_ : He.DefD := ⟨("NotBehind", some "__init__"), "__init__", "NotBehind.__init__", defArgs s_NotBehind__init_, defBody s_NotBehind__init_, defScope s_NotBehind__init_, [], []⟩
def d_Store__init_ : He.DefD := ⟨("Store", some "__init__"), "__init__", "Store.__init__", defArgs s_Store__init_, defBody s_Store__init_, defScope s_Store__init_, [], []⟩
def d_Store_look_table : He.DefD := ⟨("Store", some "look_table"), "look_table", "Store.look_table", defArgs s_Store_look_table, defBody s_Store_look_table, defScope s_Store_look_table, [], []⟩
def d_Store_tell : He.DefD := ⟨("Store", some "tell"), "tell", "Store.tell", defArgs s_Store_tell, defBody s_Store_tell, defScope s_Store_tell, [], []⟩
def d_Store_empty : He.DefD := ⟨("Store", some "empty"), "empty", "Store.empty", defArgs s_Store_empty, defBody s_Store_empty, defScope s_Store_empty, [], []⟩
def d_Store_way_from : He.DefD := ⟨("Store", some "way_from"), "way_from", "Store.way_from", defArgs s_Store_way_from, defBody s_Store_way_from, defScope s_Store_way_from, [], []⟩
def d_Store_way : He.DefD := ⟨("Store", some "way"), "way", "Store.way", defArgs s_Store_way, defBody s_Store_way, defScope s_Store_way, [], []⟩
def d_Store_looked : He.DefD := ⟨("Store", some "looked"), "looked", "Store.looked", defArgs s_Store_looked, defBody s_Store_looked, defScope s_Store_looked, [], []⟩
def d_Store_made : He.DefD := ⟨("Store", some "made"), "made", "Store.made", defArgs s_Store_made, defBody s_Store_made, defScope s_Store_made, [], []⟩
def d_Store_parted : He.DefD := ⟨("Store", some "parted"), "parted", "Store.parted", defArgs s_Store_parted, defBody s_Store_parted, defScope s_Store_parted, [], []⟩
def d_Store_put_at : He.DefD := ⟨("Store", some "put_at"), "put_at", "Store.put_at", defArgs s_Store_put_at, defBody s_Store_put_at, defScope s_Store_put_at, [], []⟩
def d_Store_put : He.DefD := ⟨("Store", some "put"), "put", "Store.put", defArgs s_Store_put, defBody s_Store_put, defScope s_Store_put, [], []⟩
def d_Store_lone_leaf : He.DefD := ⟨("Store", some "lone_leaf"), "lone_leaf", "Store.lone_leaf", defArgs s_Store_lone_leaf, defBody s_Store_lone_leaf, defScope s_Store_lone_leaf, [], []⟩
def d_Store_left_at : He.DefD := ⟨("Store", some "left_at"), "left_at", "Store.left_at", defArgs s_Store_left_at, defBody s_Store_left_at, defScope s_Store_left_at, [], []⟩
def d_Store_without : He.DefD := ⟨("Store", some "without"), "without", "Store.without", defArgs s_Store_without, defBody s_Store_without, defScope s_Store_without, [], []⟩
def d_Stop__init_ : He.DefD := ⟨("Stop", some "__init__"), "__init__", "Stop.__init__", defArgs s_Stop__init_, defBody s_Stop__init_, defScope s_Stop__init_, [], []⟩
def d_Roads__init_ : He.DefD := ⟨("Roads", some "__init__"), "__init__", "Roads.__init__", defArgs s_Roads__init_, defBody s_Roads__init_, defScope s_Roads__init_, [], []⟩
def d_Roads_stop_at : He.DefD := ⟨("Roads", some "stop_at"), "stop_at", "Roads.stop_at", defArgs s_Roads_stop_at, defBody s_Roads_stop_at, defScope s_Roads_stop_at, [], []⟩
def d_Roads_stops_at : He.DefD := ⟨("Roads", some "stops_at"), "stops_at", "Roads.stops_at", defArgs s_Roads_stops_at, defBody s_Roads_stops_at, defScope s_Roads_stops_at, [], []⟩
def d_Roads_table_behind : He.DefD := ⟨("Roads", some "table_behind"), "table_behind", "Roads.table_behind", defArgs s_Roads_table_behind, defBody s_Roads_table_behind, defScope s_Roads_table_behind, [], []⟩
def d_Roads_go_on : He.DefD := ⟨("Roads", some "go_on"), "go_on", "Roads.go_on", defArgs s_Roads_go_on, defBody s_Roads_go_on, defScope s_Roads_go_on, [], []⟩
def d_Roads_put : He.DefD := ⟨("Roads", some "put"), "put", "Roads.put", defArgs s_Roads_put, defBody s_Roads_put, defScope s_Roads_put, [], []⟩
def d_Roads_clear : He.DefD := ⟨("Roads", some "clear"), "clear", "Roads.clear", defArgs s_Roads_clear, defBody s_Roads_clear, defScope s_Roads_clear, [], []⟩
def d_Roads_places : He.DefD := ⟨("Roads", some "places"), "places", "Roads.places", defArgs s_Roads_places, defBody s_Roads_places, defScope s_Roads_places, [], []⟩
def d_Roads_step : He.DefD := ⟨("Roads", some "step"), "step", "Roads.step", defArgs s_Roads_step, defBody s_Roads_step, defScope s_Roads_step, [], []⟩
def d_Roads_back_to : He.DefD := ⟨("Roads", some "back_to"), "back_to", "Roads.back_to", defArgs s_Roads_back_to, defBody s_Roads_back_to, defScope s_Roads_back_to, [], []⟩
def d_Roads_meeting : He.DefD := ⟨("Roads", some "meeting"), "meeting", "Roads.meeting", defArgs s_Roads_meeting, defBody s_Roads_meeting, defScope s_Roads_meeting, [], []⟩
def d_Roads_between : He.DefD := ⟨("Roads", some "between"), "between", "Roads.between", defArgs s_Roads_between, defBody s_Roads_between, defScope s_Roads_between, [], []⟩
def d__law_cell_at : He.DefD := ⟨("_law_cell_at", none), "_law_cell_at", "_law_cell_at", defArgs s__law_cell_at, defBody s__law_cell_at, defScope s__law_cell_at, [], []⟩
def d__law_box : He.DefD := ⟨("_law_box", none), "_law_box", "_law_box", defArgs s__law_box, defBody s__law_box, defScope s__law_box, [], []⟩
def d__law_take : He.DefD := ⟨("_law_take", none), "_law_take", "_law_take", defArgs s__law_take, defBody s__law_take, defScope s__law_take, [], []⟩
def d__law_names : He.DefD := ⟨("_law_names", none), "_law_names", "_law_names", defArgs s__law_names, defBody s__law_names, defScope s__law_names, [], []⟩
def d__law_value : He.DefD := ⟨("_law_value", none), "_law_value", "_law_value", defArgs s__law_value, defBody s__law_value, defScope s__law_value, [], []⟩
def d__law_pool : He.DefD := ⟨("_law_pool", none), "_law_pool", "_law_pool", defArgs s__law_pool, defBody s__law_pool, defScope s__law_pool, [], []⟩
def d__law_values : He.DefD := ⟨("_law_values", none), "_law_values", "_law_values", defArgs s__law_values, defBody s__law_values, defScope s__law_values, [], []⟩
def d__law_step : He.DefD := ⟨("_law_step", none), "_law_step", "_law_step", defArgs s__law_step, defBody s__law_step, defScope s__law_step, [], []⟩
def d__law_from : He.DefD := ⟨("_law_from", none), "_law_from", "_law_from", defArgs s__law_from, defBody s__law_from, defScope s__law_from, [], []⟩
def d__law_grown : He.DefD := ⟨("_law_grown", none), "_law_grown", "_law_grown", defArgs s__law_grown, defBody s__law_grown, defScope s__law_grown, [], []⟩
def d__law_road : He.DefD := ⟨("_law_road", none), "_law_road", "_law_road", defArgs s__law_road, defBody s__law_road, defScope s__law_road, [], []⟩
def d__law_told : He.DefD := ⟨("_law_told", none), "_law_told", "_law_told", defArgs s__law_told, defBody s__law_told, defScope s__law_told, [], []⟩
def d__law_paper_right : He.DefD := ⟨("_law_paper_right", none), "_law_paper_right", "_law_paper_right", defArgs s__law_paper_right, defBody s__law_paper_right, defScope s__law_paper_right, [], []⟩
def d__law_right : He.DefD := ⟨("_law_right", none), "_law_right", "_law_right", defArgs s__law_right, defBody s__law_right, defScope s__law_right, [], []⟩
def d_law : He.DefD := ⟨("law", none), "law", "law", defArgs s_law, defBody s_law, defScope s_law, [], []⟩
def fn : List He.DefD := [d_alike, d_mark, d_digit, d_is_leaf, d_is_fork, d_Nodes__init_, d_Nodes_at, d_Nodes_many, d_Nodes_make, d_Nodes_leaf, d_Nodes_fork, d_value_in, d_pairs_with, d_pairs_without, d_with_part, d_is_step_of, d_between_paper, d_NoTable__init_, d_NoPlace__init_, d_NotBehind__init_, d_Store__init_, d_Store_look_table, d_Store_tell, d_Store_empty, d_Store_way_from, d_Store_way, d_Store_looked, d_Store_made, d_Store_parted, d_Store_put_at, d_Store_put, d_Store_lone_leaf, d_Store_left_at, d_Store_without, d_Stop__init_, d_Roads__init_, d_Roads_stop_at, d_Roads_stops_at, d_Roads_table_behind, d_Roads_go_on, d_Roads_put, d_Roads_clear, d_Roads_places, d_Roads_step, d_Roads_back_to, d_Roads_meeting, d_Roads_between, d__law_cell_at, d__law_box, d__law_take, d__law_names, d__law_value, d__law_pool, d__law_values, d__law_step, d__law_from, d__law_grown, d__law_road, d__law_told, d__law_paper_right, d__law_right, d_law]
def fa0 : List He.Fa := [.glo "alike", .glo "mark", .glo "digit", .glo "is_leaf", .glo "is_fork", .glo "value_in", .glo "pairs_with", .glo "pairs_without", .glo "with_part", .glo "is_step_of", .glo "between_paper", .glo "_law_cell_at", .glo "_law_box", .glo "_law_take", .glo "_law_names", .glo "_law_value", .glo "_law_pool", .glo "_law_values", .glo "_law_step", .glo "_law_from", .glo "_law_grown", .glo "_law_road", .glo "_law_told", .glo "_law_paper_right", .glo "_law_right", .glo "law", .glo "Nodes", .cls "Nodes", .keep "Nodes", .mkr "Nodes"]
def fa1 : List He.Fa := [.meth "Nodes" "at", .meth "Nodes" "many", .meth "Nodes" "make", .meth "Nodes" "leaf", .meth "Nodes" "fork", .noat "Nodes" "rows", .glo "RoadError", .keep "RoadError", .glo "NoTable", .keep "NoTable", .glo "NoPlace", .keep "NoPlace", .glo "NotBehind", .keep "NotBehind", .glo "Store", .cls "Store", .keep "Store", .mkr "Store", .meth "Store" "look_table", .meth "Store" "tell", .meth "Store" "empty", .meth "Store" "way_from", .meth "Store" "way", .meth "Store" "looked", .meth "Store" "made", .meth "Store" "parted", .meth "Store" "put_at", .meth "Store" "put", .meth "Store" "lone_leaf", .meth "Store" "left_at"]
def fa2 : List He.Fa := [.meth "Store" "without", .noat "Store" "nodes", .noat "Store" "told", .glo "Stop", .cls "Stop", .keep "Stop", .mkr "Stop", .noat "Stop" "before_it", .noat "Stop" "move_made", .noat "Stop" "far_on", .noat "Stop" "table_there", .noat "Stop" "nodes_more", .glo "Roads", .cls "Roads", .keep "Roads", .mkr "Roads", .meth "Roads" "stop_at", .meth "Roads" "stops_at", .meth "Roads" "table_behind", .meth "Roads" "go_on", .meth "Roads" "put", .meth "Roads" "clear", .meth "Roads" "places", .meth "Roads" "step", .meth "Roads" "back_to", .meth "Roads" "meeting", .meth "Roads" "between", .noat "Roads" "shelf", .noat "Roads" "stops", .free "isinstance"]
def fa3 : List He.Fa := [.free "str", .free "sum", .free "enumerate", .free "range", .free "len", .free "tuple", .free "sorted", .free "abs", .free "int", .free "divmod", .free "max", .free "bool", .free "ValueError", .free "any", .free "all", .free "min", .str "LETTERS" "abcdefghijklmnopqrstuvwxyz", .int "BASE" 4, .int "BARE" 0, .glo "FIRST", .glo "NO_PARTS"]
def fa : List He.Fa := fa0 ++ fa1 ++ fa2 ++ fa3
structure Fx (K : PySem.W.Frag) (mg : Str → Option Value) : Prop where
  g_alike : mg "alike" = some (.ref (He.ga K "alike"))
  g_mark : mg "mark" = some (.ref (He.ga K "mark"))
  g_digit : mg "digit" = some (.ref (He.ga K "digit"))
  g_is_leaf : mg "is_leaf" = some (.ref (He.ga K "is_leaf"))
  g_is_fork : mg "is_fork" = some (.ref (He.ga K "is_fork"))
  g_value_in : mg "value_in" = some (.ref (He.ga K "value_in"))
  g_pairs_with : mg "pairs_with" = some (.ref (He.ga K "pairs_with"))
  g_pairs_without : mg "pairs_without" = some (.ref (He.ga K "pairs_without"))
  g_with_part : mg "with_part" = some (.ref (He.ga K "with_part"))
  g_is_step_of : mg "is_step_of" = some (.ref (He.ga K "is_step_of"))
  g_between_paper : mg "between_paper" = some (.ref (He.ga K "between_paper"))
  g__law_cell_at : mg "_law_cell_at" = some (.ref (He.ga K "_law_cell_at"))
  g__law_box : mg "_law_box" = some (.ref (He.ga K "_law_box"))
  g__law_take : mg "_law_take" = some (.ref (He.ga K "_law_take"))
  g__law_names : mg "_law_names" = some (.ref (He.ga K "_law_names"))
  g__law_value : mg "_law_value" = some (.ref (He.ga K "_law_value"))
  g__law_pool : mg "_law_pool" = some (.ref (He.ga K "_law_pool"))
  g__law_values : mg "_law_values" = some (.ref (He.ga K "_law_values"))
  g__law_step : mg "_law_step" = some (.ref (He.ga K "_law_step"))
  g__law_from : mg "_law_from" = some (.ref (He.ga K "_law_from"))
  g__law_grown : mg "_law_grown" = some (.ref (He.ga K "_law_grown"))
  g__law_road : mg "_law_road" = some (.ref (He.ga K "_law_road"))
  g__law_told : mg "_law_told" = some (.ref (He.ga K "_law_told"))
  g__law_paper_right : mg "_law_paper_right" = some (.ref (He.ga K "_law_paper_right"))
  g__law_right : mg "_law_right" = some (.ref (He.ga K "_law_right"))
  g_law : mg "law" = some (.ref (He.ga K "law"))
  g_Nodes : mg "Nodes" = some (.ref (He.ga K "Nodes"))
  c_Nodes : Cls K (He.ga K "Nodes")
  k_Nodes : PySem.W.keepIn K (.ref (He.ga K "Nodes")) = true
  m_Nodes : Mk K (He.ga K "Nodes") (He.ma K (He.ga K "Nodes") "__init__")
  t_Nodes_at : Meth K (He.ga K "Nodes") "at" (He.ma K (He.ga K "Nodes") "at")
  t_Nodes_many : Meth K (He.ga K "Nodes") "many" (He.ma K (He.ga K "Nodes") "many")
  t_Nodes_make : Meth K (He.ga K "Nodes") "make" (He.ma K (He.ga K "Nodes") "make")
  t_Nodes_leaf : Meth K (He.ga K "Nodes") "leaf" (He.ma K (He.ga K "Nodes") "leaf")
  t_Nodes_fork : Meth K (He.ga K "Nodes") "fork" (He.ma K (He.ga K "Nodes") "fork")
  n_Nodes_rows : NoAttr K (He.ga K "Nodes") "rows"
  g_RoadError : mg "RoadError" = some (.ref (He.ga K "RoadError"))
  k_RoadError : PySem.W.keepIn K (.ref (He.ga K "RoadError")) = true
  g_NoTable : mg "NoTable" = some (.ref (He.ga K "NoTable"))
  k_NoTable : PySem.W.keepIn K (.ref (He.ga K "NoTable")) = true
  g_NoPlace : mg "NoPlace" = some (.ref (He.ga K "NoPlace"))
  k_NoPlace : PySem.W.keepIn K (.ref (He.ga K "NoPlace")) = true
  g_NotBehind : mg "NotBehind" = some (.ref (He.ga K "NotBehind"))
  k_NotBehind : PySem.W.keepIn K (.ref (He.ga K "NotBehind")) = true
  g_Store : mg "Store" = some (.ref (He.ga K "Store"))
  c_Store : Cls K (He.ga K "Store")
  k_Store : PySem.W.keepIn K (.ref (He.ga K "Store")) = true
  m_Store : Mk K (He.ga K "Store") (He.ma K (He.ga K "Store") "__init__")
  t_Store_look_table : Meth K (He.ga K "Store") "look_table" (He.ma K (He.ga K "Store") "look_table")
  t_Store_tell : Meth K (He.ga K "Store") "tell" (He.ma K (He.ga K "Store") "tell")
  t_Store_empty : Meth K (He.ga K "Store") "empty" (He.ma K (He.ga K "Store") "empty")
  t_Store_way_from : Meth K (He.ga K "Store") "way_from" (He.ma K (He.ga K "Store") "way_from")
  t_Store_way : Meth K (He.ga K "Store") "way" (He.ma K (He.ga K "Store") "way")
  t_Store_looked : Meth K (He.ga K "Store") "looked" (He.ma K (He.ga K "Store") "looked")
  t_Store_made : Meth K (He.ga K "Store") "made" (He.ma K (He.ga K "Store") "made")
  t_Store_parted : Meth K (He.ga K "Store") "parted" (He.ma K (He.ga K "Store") "parted")
  t_Store_put_at : Meth K (He.ga K "Store") "put_at" (He.ma K (He.ga K "Store") "put_at")
  t_Store_put : Meth K (He.ga K "Store") "put" (He.ma K (He.ga K "Store") "put")
  t_Store_lone_leaf : Meth K (He.ga K "Store") "lone_leaf" (He.ma K (He.ga K "Store") "lone_leaf")
  t_Store_left_at : Meth K (He.ga K "Store") "left_at" (He.ma K (He.ga K "Store") "left_at")
  t_Store_without : Meth K (He.ga K "Store") "without" (He.ma K (He.ga K "Store") "without")
  n_Store_nodes : NoAttr K (He.ga K "Store") "nodes"
  n_Store_told : NoAttr K (He.ga K "Store") "told"
  g_Stop : mg "Stop" = some (.ref (He.ga K "Stop"))
  c_Stop : Cls K (He.ga K "Stop")
  k_Stop : PySem.W.keepIn K (.ref (He.ga K "Stop")) = true
  m_Stop : Mk K (He.ga K "Stop") (He.ma K (He.ga K "Stop") "__init__")
  n_Stop_before_it : NoAttr K (He.ga K "Stop") "before_it"
  n_Stop_move_made : NoAttr K (He.ga K "Stop") "move_made"
  n_Stop_far_on : NoAttr K (He.ga K "Stop") "far_on"
  n_Stop_table_there : NoAttr K (He.ga K "Stop") "table_there"
  n_Stop_nodes_more : NoAttr K (He.ga K "Stop") "nodes_more"
  g_Roads : mg "Roads" = some (.ref (He.ga K "Roads"))
  c_Roads : Cls K (He.ga K "Roads")
  k_Roads : PySem.W.keepIn K (.ref (He.ga K "Roads")) = true
  m_Roads : Mk K (He.ga K "Roads") (He.ma K (He.ga K "Roads") "__init__")
  t_Roads_stop_at : Meth K (He.ga K "Roads") "stop_at" (He.ma K (He.ga K "Roads") "stop_at")
  t_Roads_stops_at : Meth K (He.ga K "Roads") "stops_at" (He.ma K (He.ga K "Roads") "stops_at")
  t_Roads_table_behind : Meth K (He.ga K "Roads") "table_behind" (He.ma K (He.ga K "Roads") "table_behind")
  t_Roads_go_on : Meth K (He.ga K "Roads") "go_on" (He.ma K (He.ga K "Roads") "go_on")
  t_Roads_put : Meth K (He.ga K "Roads") "put" (He.ma K (He.ga K "Roads") "put")
  t_Roads_clear : Meth K (He.ga K "Roads") "clear" (He.ma K (He.ga K "Roads") "clear")
  t_Roads_places : Meth K (He.ga K "Roads") "places" (He.ma K (He.ga K "Roads") "places")
  t_Roads_step : Meth K (He.ga K "Roads") "step" (He.ma K (He.ga K "Roads") "step")
  t_Roads_back_to : Meth K (He.ga K "Roads") "back_to" (He.ma K (He.ga K "Roads") "back_to")
  t_Roads_meeting : Meth K (He.ga K "Roads") "meeting" (He.ma K (He.ga K "Roads") "meeting")
  t_Roads_between : Meth K (He.ga K "Roads") "between" (He.ma K (He.ga K "Roads") "between")
  n_Roads_shelf : NoAttr K (He.ga K "Roads") "shelf"
  n_Roads_stops : NoAttr K (He.ga K "Roads") "stops"
  b_isinstance : mg "isinstance" = none
  b_str : mg "str" = none
  b_sum : mg "sum" = none
  b_enumerate : mg "enumerate" = none
  b_range : mg "range" = none
  b_len : mg "len" = none
  b_tuple : mg "tuple" = none
  b_sorted : mg "sorted" = none
  b_abs : mg "abs" = none
  b_int : mg "int" = none
  b_divmod : mg "divmod" = none
  b_max : mg "max" = none
  b_bool : mg "bool" = none
  b_ValueError : mg "ValueError" = none
  b_any : mg "any" = none
  b_all : mg "all" = none
  b_min : mg "min" = none
  i_LETTERS : ∃ t, mg "LETTERS" = some (.str "abcdefghijklmnopqrstuvwxyz" t)
  i_BASE : ∃ t, mg "BASE" = some (.int 4 t)
  i_BARE : ∃ t, mg "BARE" = some (.int 0 t)
  g_FIRST : mg "FIRST" = some (.ref (He.ga K "FIRST"))
  g_NO_PARTS : mg "NO_PARTS" = some (.ref (He.ga K "NO_PARTS"))
  d_alike : ∃ fd, FunD K "alike" "alike" (defArgs s_alike) (defBody s_alike) (defScope s_alike) [] [] (He.fAd K ("alike", none)) fd
  d_mark : ∃ fd, FunD K "mark" "mark" (defArgs s_mark) (defBody s_mark) (defScope s_mark) [] [] (He.fAd K ("mark", none)) fd
  d_digit : ∃ fd, FunD K "digit" "digit" (defArgs s_digit) (defBody s_digit) (defScope s_digit) [] [] (He.fAd K ("digit", none)) fd
  d_is_leaf : ∃ fd, FunD K "is_leaf" "is_leaf" (defArgs s_is_leaf) (defBody s_is_leaf) (defScope s_is_leaf) [] [] (He.fAd K ("is_leaf", none)) fd
  d_is_fork : ∃ fd, FunD K "is_fork" "is_fork" (defArgs s_is_fork) (defBody s_is_fork) (defScope s_is_fork) [] [] (He.fAd K ("is_fork", none)) fd
  d_Nodes__init_ : ∃ fd, FunD K "__init__" "Nodes.__init__" (defArgs s_Nodes__init_) (defBody s_Nodes__init_) (defScope s_Nodes__init_) [] [] (He.fAd K ("Nodes", some "__init__")) fd
  d_Nodes_at : ∃ fd, FunD K "at" "Nodes.at" (defArgs s_Nodes_at) (defBody s_Nodes_at) (defScope s_Nodes_at) [] [] (He.fAd K ("Nodes", some "at")) fd
  d_Nodes_many : ∃ fd, FunD K "many" "Nodes.many" (defArgs s_Nodes_many) (defBody s_Nodes_many) (defScope s_Nodes_many) [] [] (He.fAd K ("Nodes", some "many")) fd
  d_Nodes_make : ∃ fd, FunD K "make" "Nodes.make" (defArgs s_Nodes_make) (defBody s_Nodes_make) (defScope s_Nodes_make) [] [] (He.fAd K ("Nodes", some "make")) fd
  d_Nodes_leaf : ∃ fd, FunD K "leaf" "Nodes.leaf" (defArgs s_Nodes_leaf) (defBody s_Nodes_leaf) (defScope s_Nodes_leaf) [] [] (He.fAd K ("Nodes", some "leaf")) fd
  d_Nodes_fork : ∃ fd, FunD K "fork" "Nodes.fork" (defArgs s_Nodes_fork) (defBody s_Nodes_fork) (defScope s_Nodes_fork) [] [] (He.fAd K ("Nodes", some "fork")) fd
  d_value_in : ∃ fd, FunD K "value_in" "value_in" (defArgs s_value_in) (defBody s_value_in) (defScope s_value_in) [] [] (He.fAd K ("value_in", none)) fd
  d_pairs_with : ∃ fd, FunD K "pairs_with" "pairs_with" (defArgs s_pairs_with) (defBody s_pairs_with) (defScope s_pairs_with) [] [] (He.fAd K ("pairs_with", none)) fd
  d_pairs_without : ∃ fd, FunD K "pairs_without" "pairs_without" (defArgs s_pairs_without) (defBody s_pairs_without) (defScope s_pairs_without) [] [] (He.fAd K ("pairs_without", none)) fd
  d_with_part : ∃ fd, FunD K "with_part" "with_part" (defArgs s_with_part) (defBody s_with_part) (defScope s_with_part) [] [] (He.fAd K ("with_part", none)) fd
  d_is_step_of : ∃ fd, FunD K "is_step_of" "is_step_of" (defArgs s_is_step_of) (defBody s_is_step_of) (defScope s_is_step_of) [] [] (He.fAd K ("is_step_of", none)) fd
  d_between_paper : ∃ fd, FunD K "between_paper" "between_paper" (defArgs s_between_paper) (defBody s_between_paper) (defScope s_between_paper) [] [] (He.fAd K ("between_paper", none)) fd
  d_NoTable__init_ : ∃ fd, FunD K "__init__" "NoTable.__init__" (defArgs s_NoTable__init_) (defBody s_NoTable__init_) (defScope s_NoTable__init_) [] [] (He.fAd K ("NoTable", some "__init__")) fd
  d_NoPlace__init_ : ∃ fd, FunD K "__init__" "NoPlace.__init__" (defArgs s_NoPlace__init_) (defBody s_NoPlace__init_) (defScope s_NoPlace__init_) [] [] (He.fAd K ("NoPlace", some "__init__")) fd
  d_NotBehind__init_ : ∃ fd, FunD K "__init__" "NotBehind.__init__" (defArgs s_NotBehind__init_) (defBody s_NotBehind__init_) (defScope s_NotBehind__init_) [] [] (He.fAd K ("NotBehind", some "__init__")) fd
  d_Store__init_ : ∃ fd, FunD K "__init__" "Store.__init__" (defArgs s_Store__init_) (defBody s_Store__init_) (defScope s_Store__init_) [] [] (He.fAd K ("Store", some "__init__")) fd
  d_Store_look_table : ∃ fd, FunD K "look_table" "Store.look_table" (defArgs s_Store_look_table) (defBody s_Store_look_table) (defScope s_Store_look_table) [] [] (He.fAd K ("Store", some "look_table")) fd
  d_Store_tell : ∃ fd, FunD K "tell" "Store.tell" (defArgs s_Store_tell) (defBody s_Store_tell) (defScope s_Store_tell) [] [] (He.fAd K ("Store", some "tell")) fd
  d_Store_empty : ∃ fd, FunD K "empty" "Store.empty" (defArgs s_Store_empty) (defBody s_Store_empty) (defScope s_Store_empty) [] [] (He.fAd K ("Store", some "empty")) fd
  d_Store_way_from : ∃ fd, FunD K "way_from" "Store.way_from" (defArgs s_Store_way_from) (defBody s_Store_way_from) (defScope s_Store_way_from) [] [] (He.fAd K ("Store", some "way_from")) fd
  d_Store_way : ∃ fd, FunD K "way" "Store.way" (defArgs s_Store_way) (defBody s_Store_way) (defScope s_Store_way) [] [] (He.fAd K ("Store", some "way")) fd
  d_Store_looked : ∃ fd, FunD K "looked" "Store.looked" (defArgs s_Store_looked) (defBody s_Store_looked) (defScope s_Store_looked) [] [] (He.fAd K ("Store", some "looked")) fd
  d_Store_made : ∃ fd, FunD K "made" "Store.made" (defArgs s_Store_made) (defBody s_Store_made) (defScope s_Store_made) [] [] (He.fAd K ("Store", some "made")) fd
  d_Store_parted : ∃ fd, FunD K "parted" "Store.parted" (defArgs s_Store_parted) (defBody s_Store_parted) (defScope s_Store_parted) [] [] (He.fAd K ("Store", some "parted")) fd
  d_Store_put_at : ∃ fd, FunD K "put_at" "Store.put_at" (defArgs s_Store_put_at) (defBody s_Store_put_at) (defScope s_Store_put_at) [] [] (He.fAd K ("Store", some "put_at")) fd
  d_Store_put : ∃ fd, FunD K "put" "Store.put" (defArgs s_Store_put) (defBody s_Store_put) (defScope s_Store_put) [] [] (He.fAd K ("Store", some "put")) fd
  d_Store_lone_leaf : ∃ fd, FunD K "lone_leaf" "Store.lone_leaf" (defArgs s_Store_lone_leaf) (defBody s_Store_lone_leaf) (defScope s_Store_lone_leaf) [] [] (He.fAd K ("Store", some "lone_leaf")) fd
  d_Store_left_at : ∃ fd, FunD K "left_at" "Store.left_at" (defArgs s_Store_left_at) (defBody s_Store_left_at) (defScope s_Store_left_at) [] [] (He.fAd K ("Store", some "left_at")) fd
  d_Store_without : ∃ fd, FunD K "without" "Store.without" (defArgs s_Store_without) (defBody s_Store_without) (defScope s_Store_without) [] [] (He.fAd K ("Store", some "without")) fd
  d_Stop__init_ : ∃ fd, FunD K "__init__" "Stop.__init__" (defArgs s_Stop__init_) (defBody s_Stop__init_) (defScope s_Stop__init_) [] [] (He.fAd K ("Stop", some "__init__")) fd
  d_Roads__init_ : ∃ fd, FunD K "__init__" "Roads.__init__" (defArgs s_Roads__init_) (defBody s_Roads__init_) (defScope s_Roads__init_) [] [] (He.fAd K ("Roads", some "__init__")) fd
  d_Roads_stop_at : ∃ fd, FunD K "stop_at" "Roads.stop_at" (defArgs s_Roads_stop_at) (defBody s_Roads_stop_at) (defScope s_Roads_stop_at) [] [] (He.fAd K ("Roads", some "stop_at")) fd
  d_Roads_stops_at : ∃ fd, FunD K "stops_at" "Roads.stops_at" (defArgs s_Roads_stops_at) (defBody s_Roads_stops_at) (defScope s_Roads_stops_at) [] [] (He.fAd K ("Roads", some "stops_at")) fd
  d_Roads_table_behind : ∃ fd, FunD K "table_behind" "Roads.table_behind" (defArgs s_Roads_table_behind) (defBody s_Roads_table_behind) (defScope s_Roads_table_behind) [] [] (He.fAd K ("Roads", some "table_behind")) fd
  d_Roads_go_on : ∃ fd, FunD K "go_on" "Roads.go_on" (defArgs s_Roads_go_on) (defBody s_Roads_go_on) (defScope s_Roads_go_on) [] [] (He.fAd K ("Roads", some "go_on")) fd
  d_Roads_put : ∃ fd, FunD K "put" "Roads.put" (defArgs s_Roads_put) (defBody s_Roads_put) (defScope s_Roads_put) [] [] (He.fAd K ("Roads", some "put")) fd
  d_Roads_clear : ∃ fd, FunD K "clear" "Roads.clear" (defArgs s_Roads_clear) (defBody s_Roads_clear) (defScope s_Roads_clear) [] [] (He.fAd K ("Roads", some "clear")) fd
  d_Roads_places : ∃ fd, FunD K "places" "Roads.places" (defArgs s_Roads_places) (defBody s_Roads_places) (defScope s_Roads_places) [] [] (He.fAd K ("Roads", some "places")) fd
  d_Roads_step : ∃ fd, FunD K "step" "Roads.step" (defArgs s_Roads_step) (defBody s_Roads_step) (defScope s_Roads_step) [] [] (He.fAd K ("Roads", some "step")) fd
  d_Roads_back_to : ∃ fd, FunD K "back_to" "Roads.back_to" (defArgs s_Roads_back_to) (defBody s_Roads_back_to) (defScope s_Roads_back_to) [] [] (He.fAd K ("Roads", some "back_to")) fd
  d_Roads_meeting : ∃ fd, FunD K "meeting" "Roads.meeting" (defArgs s_Roads_meeting) (defBody s_Roads_meeting) (defScope s_Roads_meeting) [] [] (He.fAd K ("Roads", some "meeting")) fd
  d_Roads_between : ∃ fd, FunD K "between" "Roads.between" (defArgs s_Roads_between) (defBody s_Roads_between) (defScope s_Roads_between) [] [] (He.fAd K ("Roads", some "between")) fd
  d__law_cell_at : ∃ fd, FunD K "_law_cell_at" "_law_cell_at" (defArgs s__law_cell_at) (defBody s__law_cell_at) (defScope s__law_cell_at) [] [] (He.fAd K ("_law_cell_at", none)) fd
  d__law_box : ∃ fd, FunD K "_law_box" "_law_box" (defArgs s__law_box) (defBody s__law_box) (defScope s__law_box) [] [] (He.fAd K ("_law_box", none)) fd
  d__law_take : ∃ fd, FunD K "_law_take" "_law_take" (defArgs s__law_take) (defBody s__law_take) (defScope s__law_take) [] [] (He.fAd K ("_law_take", none)) fd
  d__law_names : ∃ fd, FunD K "_law_names" "_law_names" (defArgs s__law_names) (defBody s__law_names) (defScope s__law_names) [] [] (He.fAd K ("_law_names", none)) fd
  d__law_value : ∃ fd, FunD K "_law_value" "_law_value" (defArgs s__law_value) (defBody s__law_value) (defScope s__law_value) [] [] (He.fAd K ("_law_value", none)) fd
  d__law_pool : ∃ fd, FunD K "_law_pool" "_law_pool" (defArgs s__law_pool) (defBody s__law_pool) (defScope s__law_pool) [] [] (He.fAd K ("_law_pool", none)) fd
  d__law_values : ∃ fd, FunD K "_law_values" "_law_values" (defArgs s__law_values) (defBody s__law_values) (defScope s__law_values) [] [] (He.fAd K ("_law_values", none)) fd
  d__law_step : ∃ fd, FunD K "_law_step" "_law_step" (defArgs s__law_step) (defBody s__law_step) (defScope s__law_step) [] [] (He.fAd K ("_law_step", none)) fd
  d__law_from : ∃ fd, FunD K "_law_from" "_law_from" (defArgs s__law_from) (defBody s__law_from) (defScope s__law_from) [] [] (He.fAd K ("_law_from", none)) fd
  d__law_grown : ∃ fd, FunD K "_law_grown" "_law_grown" (defArgs s__law_grown) (defBody s__law_grown) (defScope s__law_grown) [] [] (He.fAd K ("_law_grown", none)) fd
  d__law_road : ∃ fd, FunD K "_law_road" "_law_road" (defArgs s__law_road) (defBody s__law_road) (defScope s__law_road) [] [] (He.fAd K ("_law_road", none)) fd
  d__law_told : ∃ fd, FunD K "_law_told" "_law_told" (defArgs s__law_told) (defBody s__law_told) (defScope s__law_told) [] [] (He.fAd K ("_law_told", none)) fd
  d__law_paper_right : ∃ fd, FunD K "_law_paper_right" "_law_paper_right" (defArgs s__law_paper_right) (defBody s__law_paper_right) (defScope s__law_paper_right) [] [] (He.fAd K ("_law_paper_right", none)) fd
  d__law_right : ∃ fd, FunD K "_law_right" "_law_right" (defArgs s__law_right) (defBody s__law_right) (defScope s__law_right) [] [] (He.fAd K ("_law_right", none)) fd
  d_law : ∃ fd, FunD K "law" "law" (defArgs s_law) (defBody s_law) (defScope s_law) [] [] (He.fAd K ("law", none)) fd
theorem fx_of {K : PySem.W.Frag} {h : Heap} {mg : Str → Option Value} (X : K.In h) (G : h.Ns mainGlobals mg) (c : He.SaysD fa fn K) : Fx K mg :=
  ⟨He.glo_ok X G (c.fact 0 (f := .glo "alike") rfl),
   He.glo_ok X G (c.fact 1 (f := .glo "mark") rfl),
   He.glo_ok X G (c.fact 2 (f := .glo "digit") rfl),
   He.glo_ok X G (c.fact 3 (f := .glo "is_leaf") rfl),
   He.glo_ok X G (c.fact 4 (f := .glo "is_fork") rfl),
   He.glo_ok X G (c.fact 5 (f := .glo "value_in") rfl),
   He.glo_ok X G (c.fact 6 (f := .glo "pairs_with") rfl),
   He.glo_ok X G (c.fact 7 (f := .glo "pairs_without") rfl),
   He.glo_ok X G (c.fact 8 (f := .glo "with_part") rfl),
   He.glo_ok X G (c.fact 9 (f := .glo "is_step_of") rfl),
   He.glo_ok X G (c.fact 10 (f := .glo "between_paper") rfl),
   He.glo_ok X G (c.fact 11 (f := .glo "_law_cell_at") rfl),
   He.glo_ok X G (c.fact 12 (f := .glo "_law_box") rfl),
   He.glo_ok X G (c.fact 13 (f := .glo "_law_take") rfl),
   He.glo_ok X G (c.fact 14 (f := .glo "_law_names") rfl),
   He.glo_ok X G (c.fact 15 (f := .glo "_law_value") rfl),
   He.glo_ok X G (c.fact 16 (f := .glo "_law_pool") rfl),
   He.glo_ok X G (c.fact 17 (f := .glo "_law_values") rfl),
   He.glo_ok X G (c.fact 18 (f := .glo "_law_step") rfl),
   He.glo_ok X G (c.fact 19 (f := .glo "_law_from") rfl),
   He.glo_ok X G (c.fact 20 (f := .glo "_law_grown") rfl),
   He.glo_ok X G (c.fact 21 (f := .glo "_law_road") rfl),
   He.glo_ok X G (c.fact 22 (f := .glo "_law_told") rfl),
   He.glo_ok X G (c.fact 23 (f := .glo "_law_paper_right") rfl),
   He.glo_ok X G (c.fact 24 (f := .glo "_law_right") rfl),
   He.glo_ok X G (c.fact 25 (f := .glo "law") rfl),
   He.glo_ok X G (c.fact 26 (f := .glo "Nodes") rfl),
   He.cls_ok (c.fact 27 (f := .cls "Nodes") rfl),
   He.keep_ok (c.fact 28 (f := .keep "Nodes") rfl),
   He.mkr_ok (c.fact 29 (f := .mkr "Nodes") rfl),
   He.meth_ok (c.fact 30 (f := .meth "Nodes" "at") rfl),
   He.meth_ok (c.fact 31 (f := .meth "Nodes" "many") rfl),
   He.meth_ok (c.fact 32 (f := .meth "Nodes" "make") rfl),
   He.meth_ok (c.fact 33 (f := .meth "Nodes" "leaf") rfl),
   He.meth_ok (c.fact 34 (f := .meth "Nodes" "fork") rfl),
   He.noat_ok (c.fact 35 (f := .noat "Nodes" "rows") rfl),
   He.glo_ok X G (c.fact 36 (f := .glo "RoadError") rfl),
   He.keep_ok (c.fact 37 (f := .keep "RoadError") rfl),
   He.glo_ok X G (c.fact 38 (f := .glo "NoTable") rfl),
   He.keep_ok (c.fact 39 (f := .keep "NoTable") rfl),
   He.glo_ok X G (c.fact 40 (f := .glo "NoPlace") rfl),
   He.keep_ok (c.fact 41 (f := .keep "NoPlace") rfl),
   He.glo_ok X G (c.fact 42 (f := .glo "NotBehind") rfl),
   He.keep_ok (c.fact 43 (f := .keep "NotBehind") rfl),
   He.glo_ok X G (c.fact 44 (f := .glo "Store") rfl),
   He.cls_ok (c.fact 45 (f := .cls "Store") rfl),
   He.keep_ok (c.fact 46 (f := .keep "Store") rfl),
   He.mkr_ok (c.fact 47 (f := .mkr "Store") rfl),
   He.meth_ok (c.fact 48 (f := .meth "Store" "look_table") rfl),
   He.meth_ok (c.fact 49 (f := .meth "Store" "tell") rfl),
   He.meth_ok (c.fact 50 (f := .meth "Store" "empty") rfl),
   He.meth_ok (c.fact 51 (f := .meth "Store" "way_from") rfl),
   He.meth_ok (c.fact 52 (f := .meth "Store" "way") rfl),
   He.meth_ok (c.fact 53 (f := .meth "Store" "looked") rfl),
   He.meth_ok (c.fact 54 (f := .meth "Store" "made") rfl),
   He.meth_ok (c.fact 55 (f := .meth "Store" "parted") rfl),
   He.meth_ok (c.fact 56 (f := .meth "Store" "put_at") rfl),
   He.meth_ok (c.fact 57 (f := .meth "Store" "put") rfl),
   He.meth_ok (c.fact 58 (f := .meth "Store" "lone_leaf") rfl),
   He.meth_ok (c.fact 59 (f := .meth "Store" "left_at") rfl),
   He.meth_ok (c.fact 60 (f := .meth "Store" "without") rfl),
   He.noat_ok (c.fact 61 (f := .noat "Store" "nodes") rfl),
   He.noat_ok (c.fact 62 (f := .noat "Store" "told") rfl),
   He.glo_ok X G (c.fact 63 (f := .glo "Stop") rfl),
   He.cls_ok (c.fact 64 (f := .cls "Stop") rfl),
   He.keep_ok (c.fact 65 (f := .keep "Stop") rfl),
   He.mkr_ok (c.fact 66 (f := .mkr "Stop") rfl),
   He.noat_ok (c.fact 67 (f := .noat "Stop" "before_it") rfl),
   He.noat_ok (c.fact 68 (f := .noat "Stop" "move_made") rfl),
   He.noat_ok (c.fact 69 (f := .noat "Stop" "far_on") rfl),
   He.noat_ok (c.fact 70 (f := .noat "Stop" "table_there") rfl),
   He.noat_ok (c.fact 71 (f := .noat "Stop" "nodes_more") rfl),
   He.glo_ok X G (c.fact 72 (f := .glo "Roads") rfl),
   He.cls_ok (c.fact 73 (f := .cls "Roads") rfl),
   He.keep_ok (c.fact 74 (f := .keep "Roads") rfl),
   He.mkr_ok (c.fact 75 (f := .mkr "Roads") rfl),
   He.meth_ok (c.fact 76 (f := .meth "Roads" "stop_at") rfl),
   He.meth_ok (c.fact 77 (f := .meth "Roads" "stops_at") rfl),
   He.meth_ok (c.fact 78 (f := .meth "Roads" "table_behind") rfl),
   He.meth_ok (c.fact 79 (f := .meth "Roads" "go_on") rfl),
   He.meth_ok (c.fact 80 (f := .meth "Roads" "put") rfl),
   He.meth_ok (c.fact 81 (f := .meth "Roads" "clear") rfl),
   He.meth_ok (c.fact 82 (f := .meth "Roads" "places") rfl),
   He.meth_ok (c.fact 83 (f := .meth "Roads" "step") rfl),
   He.meth_ok (c.fact 84 (f := .meth "Roads" "back_to") rfl),
   He.meth_ok (c.fact 85 (f := .meth "Roads" "meeting") rfl),
   He.meth_ok (c.fact 86 (f := .meth "Roads" "between") rfl),
   He.noat_ok (c.fact 87 (f := .noat "Roads" "shelf") rfl),
   He.noat_ok (c.fact 88 (f := .noat "Roads" "stops") rfl),
   He.free_ok X G (c.fact 89 (f := .free "isinstance") rfl),
   He.free_ok X G (c.fact 90 (f := .free "str") rfl),
   He.free_ok X G (c.fact 91 (f := .free "sum") rfl),
   He.free_ok X G (c.fact 92 (f := .free "enumerate") rfl),
   He.free_ok X G (c.fact 93 (f := .free "range") rfl),
   He.free_ok X G (c.fact 94 (f := .free "len") rfl),
   He.free_ok X G (c.fact 95 (f := .free "tuple") rfl),
   He.free_ok X G (c.fact 96 (f := .free "sorted") rfl),
   He.free_ok X G (c.fact 97 (f := .free "abs") rfl),
   He.free_ok X G (c.fact 98 (f := .free "int") rfl),
   He.free_ok X G (c.fact 99 (f := .free "divmod") rfl),
   He.free_ok X G (c.fact 100 (f := .free "max") rfl),
   He.free_ok X G (c.fact 101 (f := .free "bool") rfl),
   He.free_ok X G (c.fact 102 (f := .free "ValueError") rfl),
   He.free_ok X G (c.fact 103 (f := .free "any") rfl),
   He.free_ok X G (c.fact 104 (f := .free "all") rfl),
   He.free_ok X G (c.fact 105 (f := .free "min") rfl),
   He.str_ok X G (c.fact 106 (f := .str "LETTERS" "abcdefghijklmnopqrstuvwxyz") rfl),
   He.int_ok X G (c.fact 107 (f := .int "BASE" 4) rfl),
   He.int_ok X G (c.fact 108 (f := .int "BARE" 0) rfl),
   He.glo_ok X G (c.fact 109 (f := .glo "FIRST") rfl),
   He.glo_ok X G (c.fact 110 (f := .glo "NO_PARTS") rfl),
   c.def_ 0 (d := d_alike) rfl,
   c.def_ 1 (d := d_mark) rfl,
   c.def_ 2 (d := d_digit) rfl,
   c.def_ 3 (d := d_is_leaf) rfl,
   c.def_ 4 (d := d_is_fork) rfl,
   c.def_ 5 (d := d_Nodes__init_) rfl,
   c.def_ 6 (d := d_Nodes_at) rfl,
   c.def_ 7 (d := d_Nodes_many) rfl,
   c.def_ 8 (d := d_Nodes_make) rfl,
   c.def_ 9 (d := d_Nodes_leaf) rfl,
   c.def_ 10 (d := d_Nodes_fork) rfl,
   c.def_ 11 (d := d_value_in) rfl,
   c.def_ 12 (d := d_pairs_with) rfl,
   c.def_ 13 (d := d_pairs_without) rfl,
   c.def_ 14 (d := d_with_part) rfl,
   c.def_ 15 (d := d_is_step_of) rfl,
   c.def_ 16 (d := d_between_paper) rfl,
   c.def_ 17 (d := d_NoTable__init_) rfl,
   c.def_ 18 (d := d_NoPlace__init_) rfl,
   c.def_ 19 (d := d_NotBehind__init_) rfl,
   c.def_ 20 (d := d_Store__init_) rfl,
   c.def_ 21 (d := d_Store_look_table) rfl,
   c.def_ 22 (d := d_Store_tell) rfl,
   c.def_ 23 (d := d_Store_empty) rfl,
   c.def_ 24 (d := d_Store_way_from) rfl,
   c.def_ 25 (d := d_Store_way) rfl,
   c.def_ 26 (d := d_Store_looked) rfl,
   c.def_ 27 (d := d_Store_made) rfl,
   c.def_ 28 (d := d_Store_parted) rfl,
   c.def_ 29 (d := d_Store_put_at) rfl,
   c.def_ 30 (d := d_Store_put) rfl,
   c.def_ 31 (d := d_Store_lone_leaf) rfl,
   c.def_ 32 (d := d_Store_left_at) rfl,
   c.def_ 33 (d := d_Store_without) rfl,
   c.def_ 34 (d := d_Stop__init_) rfl,
   c.def_ 35 (d := d_Roads__init_) rfl,
   c.def_ 36 (d := d_Roads_stop_at) rfl,
   c.def_ 37 (d := d_Roads_stops_at) rfl,
   c.def_ 38 (d := d_Roads_table_behind) rfl,
   c.def_ 39 (d := d_Roads_go_on) rfl,
   c.def_ 40 (d := d_Roads_put) rfl,
   c.def_ 41 (d := d_Roads_clear) rfl,
   c.def_ 42 (d := d_Roads_places) rfl,
   c.def_ 43 (d := d_Roads_step) rfl,
   c.def_ 44 (d := d_Roads_back_to) rfl,
   c.def_ 45 (d := d_Roads_meeting) rfl,
   c.def_ 46 (d := d_Roads_between) rfl,
   c.def_ 47 (d := d__law_cell_at) rfl,
   c.def_ 48 (d := d__law_box) rfl,
   c.def_ 49 (d := d__law_take) rfl,
   c.def_ 50 (d := d__law_names) rfl,
   c.def_ 51 (d := d__law_value) rfl,
   c.def_ 52 (d := d__law_pool) rfl,
   c.def_ 53 (d := d__law_values) rfl,
   c.def_ 54 (d := d__law_step) rfl,
   c.def_ 55 (d := d__law_from) rfl,
   c.def_ 56 (d := d__law_grown) rfl,
   c.def_ 57 (d := d__law_road) rfl,
   c.def_ 58 (d := d__law_told) rfl,
   c.def_ 59 (d := d__law_paper_right) rfl,
   c.def_ 60 (d := d__law_right) rfl,
   c.def_ 61 (d := d_law) rfl⟩
def EXS : List Str := ["NoTable", "NoPlace", "NotBehind"]
def ck : PySem.W.Frag → Bool := exfB EXS
def tps : List (Str × List He.Dv) := [("FIRST", [(.str "bare")]), ("NO_PARTS", [(.int 0), (.int 0), (.int 0), (.int 0)])]
structure Ux (K : PySem.W.Frag) : Prop where
  tt : True
  u_FIRST : ∀ H, SqT K H (He.ga K "FIRST") ([(He.Dv.str "bare")].map (He.Dv.v K))
  u_NO_PARTS : ∀ H, SqT K H (He.ga K "NO_PARTS") ([(He.Dv.int 0), (He.Dv.int 0), (He.Dv.int 0), (He.Dv.int 0)].map (He.Dv.v K))
structure Bx (K : PySem.W.Frag) (mg : Str → Option Value) (base : Heap) : Prop where
  u : Ux K
  x : ExF K EXS
  tb_pairs_with : LamX.TabB base mg (codeAd K (He.fAd K ("pairs_with", none))) (tabAd K ("pairs_with", none))
def lams : List (Str × Option Str) := [("pairs_with", none)]
abbrev S_lawX (K : PySem.W.Frag) : Tri := S_lawT K [(tabAd K ("pairs_with", none), "pairs_with.<locals>.<lambda>")]
abbrev TbW (K : PySem.W.Frag) : Asn := TabA (tabAd K ("pairs_with", none)) "pairs_with.<locals>.<lambda>"
abbrev TbP (K : PySem.W.Frag) : Asn := TabA (tabAd K ("Store", some "pairs")) "Store.pairs.<locals>.<lambda>"
abbrev RwX : PySem.W.OpenRow := PySem.W.OpenLaw.row PySem.Challenge.rw_roadsettings_k29_papers_of_what_is_betwe
def hnames : List PySem.Str := ((["alike", "mark", "digit", "is_leaf", "is_fork", "value_in", "pairs_with", "pairs_without", "with_part", "is_step_of", "between_paper", "_law_cell_at", "_law_box", "_law_take", "_law_names", "_law_value", "_law_pool", "_law_values", "_law_step", "_law_from", "_law_grown", "_law_road", "_law_told", "_law_paper_right", "_law_right"] : List PySem.Str) ++ (["law", "Nodes", "RoadError", "NoTable", "NoPlace", "NotBehind", "Store", "Stop", "Roads", "FIRST", "NO_PARTS"] : List PySem.Str))
abbrev hkX : PySem.W.Hook := AL.hookX ck 3 hnames fa fn lams tps
abbrev obXx (s : PySem.W.SharedT) : AlT := AL.obX ck 3 hnames fa fn lams tps s
def loose : List PySem.Str := ((["_wall", "LETTERS", "BASE", "alike", "mark", "digit", "BARE", "FIRST", "is_leaf", "is_fork", "Nodes", "value_in", "pairs_with", "pairs_without", "with_part", "is_step_of", "between_paper", "RoadError", "NoTable", "NoNode", "NoPlace", "NotBehind", "NO_PARTS", "Store", "BEGIN"] : List PySem.Str) ++ (["Stop", "Roads", "_law_cell_at", "_law_box", "_law_take", "_law_names", "_law_value", "_law_pool", "_law_values", "_law_step", "_law_from", "_law_grown", "_law_road", "_law_all", "_law_alike", "_law_told", "_law_paper_right", "_law_right"] : List PySem.Str))
theorem runA (w : World) : ∀ os : OsState, (HandSHeadRun.endF (HandSHeadRun.stepQ (HandSHeadRun.denQ HandSHeadRun.tabQ) RwX.prog w) 20000 RwX.prog w os).map (fun s => (HandSHeadRun.looksF RwX.prog (PySem.W.boot_heap w.params) s.abs, HandSHeadRun.seenQ (PySem.W.view RwX.prog [50]) loose (importedModules RwX.prog.main.body) (fun s => PySem.W.xlAt (PySem.W.view RwX.prog [50]) [] s && PySem.W.recOk RwX.toRowW.records s) s.abs)) = some (true, PySem.W.openGood (PySem.W.view RwX.prog [50]) loose) := by
  intro os
  kernel_rfl
theorem runB (w : World) : ∀ os : OsState, (HandSHeadRun.endF (HandSHeadRun.stepQ (HandSHeadRun.denQ HandSHeadRun.tabQ) RwX.prog w) 20000 RwX.prog w os).map (fun s => obXx s) = some (hkX.val w) := by
  intro os
  kernel_rfl
theorem run (w : World) : HandSHeadRun.RunEq RwX (PySem.W.view RwX.prog [50]) hkX obXx 20000 loose w := fun os => run_two (runA w os) (runB w os)

section
variable {P : Program} {w : World} {K : PySem.W.Frag} {mg : Str → Option Value} {base : Heap}
/-! ### the law's draws -/
def S_cell (K : PySem.W.Frag) : Tri where
  G := Addr × (List Int) × Nat × Unit
  O := Unit
  args := fun (a, ns, k, _) => [.ref a, .int k]
  cond := fun (a, ns, k, _) => True
  pre := fun (a, ns, k, _) => [sq K a (ns.map V.int)]
  ok := fun (a, ns, k, _) _ => True
  res := fun (a, ns, k, _) _ => .int (ns.getD k 0)
  post := fun (a, ns, k, _) _ => [sq K a (ns.map V.int)]
theorem use_cell {K : PySem.W.Frag} {L R : List Asn} {Q : VK} {E : XK} {a : Addr} {ns : List Int} {k : Nat} (sTk : Tks L [sq K a (ns.map V.int)] R)  (kk : Al (sq K a (ns.map V.int) :: R) (Q (.int (ns.getD k 0)))) : Al L (xP (S_cell K).sp [.ref a, .int k] Q E) :=
  Tri.useT (S_cell K) (a, ns, k, ()) rfl trivial sTk (fun _ _ => kk )
local macro_rules | `(tactic| kpt_turns) => `(tactic| ((with_reducible apply use_cell); tb_rel))
abbrev N__law_cell_at : List Str := ["_law_script", "_law_k"]
theorem sc__law_cell_at : FnScope N__law_cell_at ["_law_script", "_law_k"] (defScope s__law_cell_at) := ⟨rfl, rfl, rfl, by decide +kernel, rfl, by decide +kernel, by decide +kernel⟩
theorem ok__law_cell_at (T : Fx K mg) (B : Bx K mg base) : FnG P w K mg base 1 (He.fAd K ("_law_cell_at", none)) ["_law_script", "_law_k"] (S_cell K).sp := by
  refine Tri.fnC (N := N__law_cell_at) (k := 0) (S_cell K) T.d__law_cell_at sc__law_cell_at (fun g => rfl) (fun _ _ _ _ _ _ us hl => match us, hl with | [_, _], _ => rfl) fun cdv A outer s H E Q g R hcd hr hc ke kx => ⟨_, PSs.nox ((pss_cons (ps_if (pt_cmpR o_lt (pv 1) (pe_callB (q_len (K := K) rfl) (by rfl) T.b_len (by decide +kernel) (pa_cons (pv 0) pa_nil)) (nomark _)) (pss_one (ps_ret (pe_ix (q_ix (K := K) rfl hr.u1) (pv 0) (pv 1) (fun _ _ => rfl)))) pss_nil)
    (pss_one (ps_ret pe_int)))), ?_⟩
  obtain ⟨a, ns, k, _⟩ := g
  replace ke : Al [sq K a (ns.map V.int), R] (Q (.int (ns.getD k 0))) := ke () trivial
  try dsimp only [cxOf]
  refine e_start (L := [sq K a (ns.map V.int), R]) (nx := fun _ H' => Q .non H') (rt := Q) (bk := fun _ _ => False) (ct := fun _ _ => False) [some (.ref a), some (.int k)] rfl ?_
  tb_start
  rw [List.length_map]
  refine e_if ?_ ?_ <;> intro h <;> (try simp only [decide_eq_true_eq, decide_eq_false_iff_not, Bool.not_eq_true', Bool.not_eq_false', Bool.and_eq_true, Bool.or_eq_true, Bool.and_eq_false_iff, Bool.or_eq_false_iff, Bool.false_or, Bool.true_and, Bool.or_false, Bool.and_true, Bool.not_true, Bool.not_false, true_and, and_true, or_false, false_or, Bool.false_eq_true, Bool.true_eq_false, not_and, Bool.not_not] at h)
  · tb_start
    refine e_xL (by top_args) (atI_nat (j := k) (v := .int (ns.getD k 0)) (by rw [List.getElem?_map, List.getD_eq_getElem?_getD, List.getElem?_eq_getElem (by omega)]; rfl)) ?_
    exact e_end (by tb_rel) (ke)
  · tb_start
    have e : ns.getD k 0 = 0 := by rw [List.getD_eq_getElem?_getD, List.getElem?_eq_none (by omega)]; rfl
    rw [← e]
    exact e_end (by tb_rel) (ke)
def S_box (K : PySem.W.Frag) : Tri where
  G := Addr × (List Int) × Nat × Unit
  O := Addr × Unit
  args := fun (a, ns, k, _) => [.ref a, .int k]
  cond := fun (a, ns, k, _) => (k ≤ 63) ∧ True
  pre := fun (a, ns, k, _) => [sq K a (ns.map V.int)]
  ok := fun (a, ns, k, _) (b, _) => True
  res := fun (a, ns, k, _) (b, _) => .ref b
  post := fun (a, ns, k, _) (b, _) => [Box b 0, sq K a (ns.map V.int)]
theorem use_box {K : PySem.W.Frag} {L R : List Asn} {Q : VK} {E : XK} {a : Addr} {ns : List Int} {k : Nat} (sTk : Tks L [sq K a (ns.map V.int)] R) (hk : k ≤ 63) (kk : ∀ (b : Addr), Al (Box b 0 :: sq K a (ns.map V.int) :: R) (Q (.ref b))) : Al L (xP (S_box K).sp [.ref a, .int k] Q E) :=
  Tri.useT (S_box K) (a, ns, k, ()) rfl ⟨hk, trivial⟩ sTk (fun ⟨b, _⟩ _ => kk b)
abbrev N__law_box : List Str := ["_law_script", "_law_k", "_law_cell"]
theorem sc__law_box : FnScope N__law_box ["_law_script", "_law_k"] (defScope s__law_box) := ⟨rfl, rfl, rfl, by decide +kernel, rfl, by decide +kernel, by decide +kernel⟩
theorem ok__law_box (T : Fx K mg) (B : Bx K mg base) : FnG P w K mg base 2 (He.fAd K ("_law_box", none)) ["_law_script", "_law_k"] (S_box K).sp := by
  refine Tri.fnC (N := N__law_box) (k := 1) (S_box K) T.d__law_box sc__law_box (fun g => rfl) (fun _ _ _ _ _ _ us hl => match us, hl with | [_, _], _ => rfl) fun cdv A outer s H E Q g R hcd hr hc ke kx => ⟨_, PSs.nox ((pss_cons (ps_set (i := 2) sc__law_box.nd rfl (.inl rfl) (ge_call (ok__law_cell_at T B) hr.mono rfl T.g__law_cell_at px0 (pa_cons (pv 0) (pa_cons (pv 1) pa_nil))))
    (pss_one (ps_ret (pe_lst (pa_cons (pe_op o_mul (pe_callB k_abs (by rfl) T.b_abs (by decide +kernel) (pa_cons (pv 2) pa_nil)) (pe_callTy k_int (by rfl) T.b_int (by decide +kernel) (pa_cons (pe_cmpR o_ge (pe_callB k_abs (by rfl) T.b_abs (by decide +kernel) (pa_cons (pv 2) pa_nil)) (pe_op o_pow pe_int pe_int) (nomark _)) pa_nil))) (pa_cons (pe_op (q_add (K := K) rfl) (pe_op (q_add (K := K) rfl) (pe_op o_mod (pv 2) pe_int) (pe_op o_mul pe_int (pv 1))) pe_int) (pa_cons pe_int pa_nil)))))))), ?_⟩
  obtain ⟨a, ns, k, _⟩ := g
  obtain ⟨hk, _⟩ := hc
  replace ke : ∀ (b : Addr), Al [Box b 0, sq K a (ns.map V.int), R] (Q (.ref b)) := fun b => ke (b, ()) trivial
  try dsimp only [cxOf]
  refine e_start (L := [sq K a (ns.map V.int), R]) (nx := fun _ H' => Q .non H') (rt := Q) (bk := fun _ _ => False) (ct := fun _ _ => False) [some (.ref a), some (.int k), none] rfl ?_
  tb_start
  generalize ns.getD k 0 = c
  tb_start
  have h1 : 0 ≤ c % 2305843009213693951 := Int.emod_nonneg _ (by decide)
  have h2 : c % 2305843009213693951 < 2305843009213693951 := Int.emod_lt_of_pos _ (by decide)
  refine Box.fold (n := 0) (by tb_rel) (Int.mul_nonneg (by omega) (bit_nonneg _)) (by omega) (by omega) (by omega) (by omega) ?_
  exact e_end (by tb_rel) (ke (p))
def S_take (K : PySem.W.Frag) : Tri where
  G := Addr × Nat × Int × Unit
  O := Int × Unit
  args := fun (b, n, m, _) => [.ref b, .int m]
  cond := fun (b, n, m, _) => (n < 1099511627776) ∧ (0 < m) ∧ (m < 4611686018427387904) ∧ True
  pre := fun (b, n, m, _) => [Box b n]
  ok := fun (b, n, m, _) (o, _) => (0 ≤ o) ∧ (o < m) ∧ True
  res := fun (b, n, m, _) (o, _) => .int o
  post := fun (b, n, m, _) (o, _) => [Box b (n + 1)]
theorem use_take {K : PySem.W.Frag} {L R : List Asn} {Q : VK} {E : XK} {b : Addr} {n : Nat} {m : Int} (sTk : Tks L [Box b n] R) (h0 : n < 1099511627776) (h1 : 0 < m) (h2 : m < 4611686018427387904) (kk : ∀ (o : Int) (_ : 0 ≤ o) (_ : o < m), Al (Box b (n + 1) :: R) (Q (.int o))) : Al L (xP (S_take K).sp [.ref b, .int m] Q E) :=
  Tri.useT (S_take K) (b, n, m, ()) rfl ⟨h0, h1, h2, trivial⟩ sTk (fun ⟨o, _⟩ ⟨hh0, hh1, _⟩ => kk o hh0 hh1)
abbrev N__law_take : List Str := ["_law_box_here", "_law_many", "_law_found", "_law_once", "_law_twice"]
theorem sc__law_take : FnScope N__law_take ["_law_box_here", "_law_many"] (defScope s__law_take) := ⟨rfl, rfl, rfl, by decide +kernel, rfl, by decide +kernel, by decide +kernel⟩
theorem ok__law_take (T : Fx K mg) (B : Bx K mg base) : FnG P w K mg base 1 (He.fAd K ("_law_take", none)) ["_law_box_here", "_law_many"] (S_take K).sp := by
  refine Tri.fnC (N := N__law_take) (k := 0) (S_take K) T.d__law_take sc__law_take (fun g => rfl) (fun _ _ _ _ _ _ us hl => match us, hl with | [_, _], _ => rfl) fun cdv A outer s H E Q g R hcd hr hc ke kx => ⟨_, PSs.nox ((pss_cons (ps_if (pt_cmpR o_gt (pe_ix (q_ix (K := K) rfl hr.u1) (pv 0) pe_int (fun _ _ => rfl)) pe_int (nomark _)) (pss_cons (ps_set (i := 2) sc__law_take.nd rfl (.inl rfl) (pe_op o_mod (pe_ix (q_ix (K := K) rfl hr.u1) (pv 0) pe_int (fun _ _ => rfl)) (pv 1)))
    (pss_cons (ps_asg (pe_op o_fdiv (pe_ix (q_ix (K := K) rfl hr.u1) (pv 0) pe_int (fun _ _ => rfl)) (pv 1)) (pg_sub (pv 0) pe_int (o_set hr.u1)))
    (pss_one (ps_ret (pv 2))))) pss_nil)
    (pss_cons (ps_asg (pe_op (q_add (K := K) rfl) (pe_ix (q_ix (K := K) rfl hr.u1) (pv 0) pe_int (fun _ _ => rfl)) pe_int) (pg_sub (pv 0) pe_int (o_set hr.u1)))
    (pss_cons (ps_set (i := 3) sc__law_take.nd rfl (.inl rfl) (pe_op o_mod (pe_op o_mul (pe_op (q_add (K := K) rfl) (pe_ix (q_ix (K := K) rfl hr.u1) (pv 0) pe_int (fun _ _ => rfl)) (pe_op o_mul pe_int (pe_ix (q_ix (K := K) rfl hr.u1) (pv 0) pe_int (fun _ _ => rfl)))) (pe_op (q_add (K := K) rfl) pe_int (pe_ix (q_ix (K := K) rfl hr.u1) (pv 0) pe_int (fun _ _ => rfl)))) pe_int))
    (pss_cons (ps_set (i := 4) sc__law_take.nd rfl (.inl rfl) (pe_op o_mod (pe_op o_mul (pe_op (q_add (K := K) rfl) (pv 3) (pe_ix (q_ix (K := K) rfl hr.u1) (pv 0) pe_int (fun _ _ => rfl))) (pe_op (q_add (K := K) rfl) (pe_op o_mod (pv 3) pe_int) pe_int)) pe_int))
    (pss_one (ps_ret (pe_op o_mod (pe_op o_fdiv (pe_op o_mod (pe_op (q_add (K := K) rfl) (pe_op o_mul (pv 4) pe_int) (pv 3)) pe_int) pe_int) (pv 1))))))))), ?_⟩
  obtain ⟨b, n, m, _⟩ := g
  obtain ⟨h0, h1, h2, _⟩ := hc
  replace ke : ∀ (o : Int) (_ : 0 ≤ o) (_ : o < m), Al [Box b (n + 1), R] (Q (.int o)) := fun o hh0 hh1 => ke (o, ()) ⟨hh0, hh1, trivial⟩
  try dsimp only [cxOf]
  refine e_start (L := [Box b n, R]) (nx := fun _ H' => Q .non H') (rt := Q) (bk := fun _ _ => False) (ct := fun _ _ => False) [some (.ref b), some (.int m), none, none, none] rfl ?_
  refine Box.open fun x y z hx hy hy2 hz hzn => ?_
  tb_start
  refine e_if ?_ ?_ <;> intro h <;> (try simp only [decide_eq_true_eq, decide_eq_false_iff_not, Bool.not_eq_true', Bool.not_eq_false', Bool.and_eq_true, Bool.or_eq_true, Bool.and_eq_false_iff, Bool.or_eq_false_iff, Bool.false_or, Bool.true_and, Bool.or_false, Bool.and_true, Bool.not_true, Bool.not_false, true_and, and_true, or_false, false_or, Bool.false_eq_true, Bool.true_eq_false, not_and, Bool.not_not] at h)
  · tb_start
    refine Box.fold (n := n + 1) (by tb_rel) (Int.ediv_nonneg hx (by omega)) hy hy2 hz (by omega) ?_
    exact e_end (by tb_rel) (ke ((x % m)) (Int.emod_nonneg _ (by omega)) (Int.emod_lt_of_pos _ (by omega)))
  · tb_start
    refine Box.fold (n := n + 1) (by tb_rel) hx hy hy2 (by omega) (by omega) ?_
    exact e_end (by tb_rel) (ke (_) (Int.emod_nonneg _ (by omega)) (Int.emod_lt_of_pos _ (by omega)))

/-! ### marks, digits -/
def S_mark (K : PySem.W.Frag) : Tri where
  G := Str × Unit
  O := Unit
  args := fun (z, _) => [.str z]
  cond := fun (z, _) => (Nm z) ∧ (z.cps.size ≤ 8) ∧ True
  pre := fun (z, _) => []
  ok := fun (z, _) _ => True
  res := fun (z, _) _ => .int (mkS z)
  post := fun (z, _) _ => []
theorem use_mark {K : PySem.W.Frag} {L R : List Asn} {Q : VK} {E : XK} {z : Str} (sTk : Tks L [] R) (hn : Nm z) (hz : z.cps.size ≤ 8) (kk : Al R (Q (.int (mkS z)))) : Al L (xP (S_mark K).sp [.str z] Q E) :=
  Tri.useT (S_mark K) (z, ()) rfl ⟨hn, hz, trivial⟩ sTk (fun _ _ => kk )
local macro_rules | `(tactic| kpt_turns) => `(tactic| ((with_reducible apply use_mark); tb_rel; (k_all); (k_all)))
abbrev N_mark : List Str := ["name", "place", "sign"]
theorem sc_mark : FnScope N_mark ["name"] (defScope s_mark) := ⟨rfl, rfl, rfl, by decide +kernel, rfl, by decide +kernel, by decide +kernel⟩
theorem ok_mark (T : Fx K mg) (B : Bx K mg base) : FnG P w K mg base 1 (He.fAd K ("mark", none)) ["name"] (S_mark K).sp := by
  refine Tri.fnC (N := N_mark) (k := 0) (S_mark K) T.d_mark sc_mark (fun g => rfl) (fun _ _ _ _ _ _ us hl => match us, hl with | [_], _ => rfl) fun cdv A outer s H E Q g R hcd hr hc ke kx => ⟨_, PSs.nox ((pss_one (ps_ret (pe_callB (q_sum (K := K) rfl rfl) (by rfl) T.b_sum (by decide +kernel) (pa_cons (pe_lc (own := [("place", 1), ("sign", 2)]) rfl sc_mark.nd (pi_enumS (by rfl) T.b_enumerate (pa_cons (pv 0) pa_nil)) (blkOk_by (N := N_mark) (sc := defScope s_mark) (by decide +kernel)) (fun _ _ _ _ _ => (qg_tup (K := K) (n := 2) rfl rfl (pgs_cons (pg_name (i := 1) sc_mark.nd rfl (.inl rfl)) (pgs_cons (pg_name (i := 2) sc_mark.nd rfl (.inl rfl)) pgs_nil)))) (fun _ _ _ _ _ => pts_nil) (fun _ _ _ _ _ => (pe_op o_mul (pv 1) (pe_op (q_add (K := K) rfl) (q_bm (K := K) rfl PySem.F.plainAttrs_str PySem.F.slot_str_index PySem.F.type_str_index m_sindex (ge_str rfl T.i_LETTERS) (pa_cons (pv 2) pa_nil)) pe_int)))) pa_nil))))), ?_⟩
  obtain ⟨z, _⟩ := g
  obtain ⟨hn, hz, _⟩ := hc
  replace ke : Al [R] (Q (.int (mkS z))) := ke () trivial
  try dsimp only [cxOf]
  refine e_start (L := [R]) (nx := fun _ H' => Q .non H') (rt := Q) (bk := fun _ _ => False) (ct := fun _ _ => False) [some (.str z), none, none] rfl ?_
  tb_start
  refine e_lcE (by tb_rel) (Pure (fun i => .int (mkAt z i)) _) ⟨_, ⟨rfl, rfl⟩, .refl⟩ (fun i c acc M D T0 hx hI => ?_) (fun acc M D hI => ?_) <;> obtain ⟨eacc, eM⟩ := hI <;> subst eacc eM
  · have hb := lt_cps hx
    tb_start
    obtain ⟨rest, ho⟩ := occ_at (hn i c hx).1 (hn i c hx).2
    refine e_sindex ho ?_
    tb_start
    exact e_lcP (by tb_rel) (by k_all) (by unfold mkAt vAt; rw [getD_cps hx]) (by tb_rel)
  tb_start
  refine e_sumS (by tb_rel) ?_
  exact e_end (by tb_rel) (ke)
def S_digit (K : PySem.W.Frag) : Tri where
  G := Int × Nat × Unit
  O := Unit
  args := fun (n, l, _) => [.int n, .int l]
  cond := fun (n, l, _) => (l ≤ 1000) ∧ True
  pre := fun (n, l, _) => []
  ok := fun (n, l, _) _ => True
  res := fun (n, l, _) _ => .int (n / 4 ^ l % 4)
  post := fun (n, l, _) _ => []
theorem use_digit {K : PySem.W.Frag} {L R : List Asn} {Q : VK} {E : XK} {n : Int} {l : Nat} (sTk : Tks L [] R) (hl : l ≤ 1000) (kk : Al R (Q (.int (n / 4 ^ l % 4)))) : Al L (xP (S_digit K).sp [.int n, .int l] Q E) :=
  Tri.useT (S_digit K) (n, l, ()) rfl ⟨hl, trivial⟩ sTk (fun _ _ => kk )
local macro_rules | `(tactic| kpt_turns) => `(tactic| ((with_reducible apply use_digit); tb_rel; (k_all)))
abbrev N_digit : List Str := ["number", "level", "turn"]
theorem sc_digit : FnScope N_digit ["number", "level"] (defScope s_digit) := ⟨rfl, rfl, rfl, by decide +kernel, rfl, by decide +kernel, by decide +kernel⟩
theorem ok_digit (T : Fx K mg) (B : Bx K mg base) : FnG P w K mg base 1 (He.fAd K ("digit", none)) ["number", "level"] (S_digit K).sp := by
  refine Tri.fnC (N := N_digit) (k := 0) (S_digit K) T.d_digit sc_digit (fun g => rfl) (fun _ _ _ _ _ _ us hl => match us, hl with | [_, _], _ => rfl) fun cdv A outer s H E Q g R hcd hr hc ke kx => ⟨_, PSs.nox ((pss_cons (ps_for PassesOwn.never rfl (pi_range1 (by rfl) T.b_range (pa_cons (pv 1) pa_nil)) (pg_name (i := 2) sc_digit.nd rfl (.inl rfl)) (pss_one (ps_aug (i := 0) sc_digit.nd rfl (.inl rfl) (ge_int rfl T.i_BASE) p_fdiv)))
    (pss_one (ps_ret (pe_op o_mod (pv 0) (ge_int rfl T.i_BASE)))))), ?_⟩
  obtain ⟨n, l, _⟩ := g
  obtain ⟨hl, _⟩ := hc
  replace ke : Al [R] (Q (.int (n / 4 ^ l % 4))) := ke () trivial
  try dsimp only [cxOf]
  refine e_start (L := [R]) (nx := fun _ H' => Q .non H') (rt := Q) (bk := fun _ _ => False) (ct := fun _ _ => False) [some (.int n), some (.int l), none] rfl ?_
  tb_start
  refine e_forR0 (fun i σ M => ∃ (m : Int) (oL_0 : Option V), ((m = n / 4 ^ i) ∧ True) ∧ σ = [some (.int m), some (.int l), oL_0] ∧ M = [R]) ⟨_, ⟨n, _, ⟨(by rw [Int.pow_zero, Int.ediv_one]), trivial⟩, rfl, rfl⟩, .ofT (by tb_rel)⟩ (fun i σ M hi hI => ?_) (fun σ M hI => ?_) <;> obtain ⟨m, oL_0, ⟨hm, _⟩, eσ, eM⟩ := hI <;> subst eσ eM
  · tb_start
    try refine e_rest (by assumption) ?_
    exact e_nx ⟨_, _, ⟨(by rw [hm, Int.ediv_ediv_of_nonneg (Int.pow_nonneg (by decide)), ← Int.pow_succ]), trivial⟩, rfl, rfl⟩ (by tb_rel)
  tb_start
  rw [hm]
  exact e_end (by tb_rel) (ke)
end

section
variable {P : Program} {w : World} {K : PySem.W.Frag} {mg : Str → Option Value} {base : Heap}
local macro_rules | `(tactic| kpt_turns) => `(tactic| ((with_reducible apply use_cell); tb_rel))
local macro_rules | `(tactic| kpt_turns) => `(tactic| ((with_reducible apply use_mark); tb_rel; (k_all); (k_all)))
local macro_rules | `(tactic| kpt_turns) => `(tactic| ((with_reducible apply use_digit); tb_rel; (k_all)))
/-! ### names by two letters -/
def nmG (z : Str) (at' : Nat) (f s : Int) (k : Nat) : Str := midS z at' (97 + (((f + s * (k : Int)) % 676) / 26).toNat) (97 + (((f + s * (k : Int)) % 676) % 26).toNat)
theorem nmG_ok {z : Str} (hz : Nm z) {at' : Nat} {f s : Int} {k : Nat} : Nm (nmG z at' f s k) ∧ (nmG z at' f s k).cps.size = z.cps.size + 2 := by
  refine ⟨midS_nm hz ?_ ?_, midS_size⟩ <;> omega
theorem nmG_inj {z : Str} {at' : Nat} {f s : Int} {i j : Nat} (hs : s = 1 ∨ s = 27 ∨ s = 5 ∨ s = 251) (hi : i < 676) (hj : j < 676) (e : nmG z at' f s i = nmG z at' f s j) : i = j := by
  obtain ⟨e1, e2⟩ := midS_inj e
  have key : (f + s * (i : Int)) % 676 = (f + s * (j : Int)) % 676 := by
    have h1 := Int.emod_nonneg (f + s * (i : Int)) (show (676 : Int) ≠ 0 by decide)
    have h2 := Int.emod_nonneg (f + s * (j : Int)) (show (676 : Int) ≠ 0 by decide)
    generalize (f + s * (i : Int)) % 676 = x at e1 e2 h1 ⊢
    generalize (f + s * (j : Int)) % 676 = y at e1 e2 h2 ⊢
    have d1 := Int.ediv_nonneg h1 (show (0 : Int) ≤ 26 by decide)
    have d2 := Int.ediv_nonneg h2 (show (0 : Int) ≤ 26 by decide)
    have m1 := Int.emod_nonneg x (show (26 : Int) ≠ 0 by decide)
    have m2 := Int.emod_nonneg y (show (26 : Int) ≠ 0 by decide)
    have q1 : x / 26 = y / 26 := by
      have e3 : (x / 26).toNat = (y / 26).toNat := by omega
      rw [← Int.toNat_of_nonneg d1, ← Int.toNat_of_nonneg d2, e3]
    have q2 : x % 26 = y % 26 := by
      have e3 : (x % 26).toNat = (y % 26).toNat := by omega
      rw [← Int.toNat_of_nonneg m1, ← Int.toNat_of_nonneg m2, e3]
    rw [← Int.mul_ediv_add_emod x 26, ← Int.mul_ediv_add_emod y 26, q1, q2]
  clear e e1 e2
  rcases hs with rfl | rfl | rfl | rfl <;> omega
def S_names (K : PySem.W.Frag) : Tri where
  G := Addr × Nat × Nat × Unit
  O := Addr × (List Str) × Unit
  args := fun (b, n, many, _) => [.ref b, .int many]
  cond := fun (b, n, many, _) => (n < 274877906944) ∧ (many ≤ 676) ∧ True
  pre := fun (b, n, many, _) => [Box b n]
  ok := fun (b, n, many, _) (p, ws, _) => (Nms ws) ∧ (ws.length = many) ∧ (ws.Nodup) ∧ (∀ z ∈ ws, 2 ≤ z.cps.size) ∧ True
  res := fun (b, n, many, _) (p, ws, _) => .ref p
  post := fun (b, n, many, _) (p, ws, _) => [pt p (.lst (ws.map V.str)), Box b (n + 16)]
theorem use_names {K : PySem.W.Frag} {L R : List Asn} {Q : VK} {E : XK} {b : Addr} {n : Nat} {many : Nat} (sTk : Tks L [Box b n] R) (hn : n < 274877906944) (hm : many ≤ 676) (kk : ∀ (p : Addr) (ws : List Str) (_ : Nms ws) (_ : ws.length = many) (_ : ws.Nodup) (_ : ∀ z ∈ ws, 2 ≤ z.cps.size), Al (pt p (.lst (ws.map V.str)) :: Box b (n + 16) :: R) (Q (.ref p))) : Al L (xP (S_names K).sp [.ref b, .int many] Q E) :=
  Tri.useT (S_names K) (b, n, many, ()) rfl ⟨hn, hm, trivial⟩ sTk (fun ⟨p, ws, _⟩ ⟨hh0, hh1, hh2, hh3, _⟩ => kk p ws hh0 hh1 hh2 hh3)
abbrev N__law_names : List Str := ["_law_box_here", "_law_many", "_law_letters", "_law_size", "_law_stem", "_law_first", "_law_step_here", "_law_at", "_law_found", "_law_k", "_law_one", "_law_other", "_law_place"]
theorem sc__law_names : FnScope N__law_names ["_law_box_here", "_law_many"] (defScope s__law_names) := ⟨rfl, rfl, rfl, by decide +kernel, rfl, by decide +kernel, by decide +kernel⟩
theorem ok__law_names (T : Fx K mg) (B : Bx K mg base) : FnG P w K mg base 2 (He.fAd K ("_law_names", none)) ["_law_box_here", "_law_many"] (S_names K).sp := by
  refine Tri.fnC (N := N__law_names) (k := 1) (S_names K) T.d__law_names sc__law_names (fun g => rfl) (fun _ _ _ _ _ _ us hl => match us, hl with | [_, _], _ => rfl) fun cdv A outer s H E Q g R hcd hr hc ke kx => ⟨_, PSs.nox ((pss_cons (ps_asg (pe_tup (pa_cons pe_str (pa_cons (pe_op (q_add (K := K) rfl) pe_int (ge_call (ok__law_take T B) hr.mono rfl T.g__law_take px0 (pa_cons (pv 0) (pa_cons pe_int pa_nil)))) pa_nil))) (qg_tup (K := K) (n := 2) rfl rfl (pgs_cons (pg_name (i := 2) sc__law_names.nd rfl (.inr rfl)) (pgs_cons (pg_name (i := 3) sc__law_names.nd rfl (.inl rfl)) pgs_nil))))
    (pss_cons (ps_set (i := 4) sc__law_names.nd rfl (.inl rfl) (q_bm (K := K) rfl PySem.F.plainAttrs_str PySem.F.slot_str_join PySem.F.type_str_join (q_join (K := K) rfl) pe_str (pa_cons (pe_lc (own := [("_law_place", 12)]) rfl sc__law_names.nd (pi_range1 (by rfl) T.b_range (pa_cons (pe_op o_sub (pv 3) pe_int) pa_nil)) (blkOk_by (N := N__law_names) (sc := defScope s__law_names) (by decide +kernel)) (fun _ _ _ _ _ => (pg_name (i := 12) sc__law_names.nd rfl (.inl rfl))) (fun _ _ _ _ _ => pts_nil) (fun _ _ _ _ _ => (pe_ix (q_ix (K := K) rfl hr.u1) (pv 2) (ge_call (ok__law_take T B) hr.mono rfl T.g__law_take px0 (pa_cons (pv 0) (pa_cons pe_int pa_nil))) (fun _ _ => rfl)))) pa_nil)))
    (pss_cons (ps_par3 (i := 5) (j := 6) (l := 7) (by rfl) sc__law_names.nd rfl rfl rfl (by decide) (by decide) (by decide) rfl rfl rfl (pa_cons (ge_call (ok__law_take T B) hr.mono rfl T.g__law_take px0 (pa_cons (pv 0) (pa_cons pe_int pa_nil))) (pa_cons (pe_ix (q_ix (K := K) rfl hr.u1) (pe_lst (pa_cons pe_int (pa_cons pe_int (pa_cons pe_int (pa_cons pe_int pa_nil))))) (ge_call (ok__law_take T B) hr.mono rfl T.g__law_take px0 (pa_cons (pv 0) (pa_cons pe_int pa_nil))) (fun _ _ => rfl)) (pa_cons (ge_call (ok__law_take T B) hr.mono rfl T.g__law_take px0 (pa_cons (pv 0) (pa_cons (pe_op o_sub (pv 3) pe_int) pa_nil))) pa_nil))) (by rfl))
    (pss_cons (ps_set (i := 8) sc__law_names.nd rfl (.inl rfl) (pe_lst pa_nil))
    (pss_cons (ps_for PassesOwn.never rfl (pi_range1 (by rfl) T.b_range (pa_cons (pv 1) pa_nil)) (pg_name (i := 9) sc__law_names.nd rfl (.inl rfl)) (pss_cons (ps_asg (pe_callB k_divmod (by rfl) T.b_divmod (by decide +kernel) (pa_cons (pe_op o_mod (pe_op (q_add (K := K) rfl) (pv 5) (pe_op o_mul (pv 6) (pv 9))) pe_int) (pa_cons pe_int pa_nil))) (qg_tup (K := K) (n := 2) rfl rfl (pgs_cons (pg_name (i := 10) sc__law_names.nd rfl (.inl rfl)) (pgs_cons (pg_name (i := 11) sc__law_names.nd rfl (.inl rfl)) pgs_nil))))
    (pss_one (ps_expr (q_bm (K := K) rfl PySem.F.plainAttrs_list PySem.F.slot_list_append PySem.F.type_list_append mt_append (pv 8) (pa_cons (pe_op (q_add (K := K) rfl) (pe_op (q_add (K := K) rfl) (pe_op (q_add (K := K) rfl) (pe_slice (q_sl (K := K) rfl) (pv 4) po_none (po_some (pv 7))) (pe_ix (q_ix (K := K) rfl hr.u1) (pv 2) (pv 10) (fun _ _ => rfl))) (pe_ix (q_ix (K := K) rfl hr.u1) (pv 2) (pv 11) (fun _ _ => rfl))) (pe_slice (q_sl (K := K) rfl) (pv 4) (po_some (pv 7)) po_none)) pa_nil))))))
    (pss_one (ps_ret (pv 8))))))))), ?_⟩
  obtain ⟨b, n, many, _⟩ := g
  obtain ⟨hn, hm, _⟩ := hc
  replace ke : ∀ (p : Addr) (ws : List Str) (_ : Nms ws) (_ : ws.length = many) (_ : ws.Nodup) (_ : ∀ z ∈ ws, 2 ≤ z.cps.size), Al [pt p (.lst (ws.map V.str)), Box b (n + 16), R] (Q (.ref p)) := fun p ws hh0 hh1 hh2 hh3 => ke (p, ws, ()) ⟨hh0, hh1, hh2, hh3, trivial⟩
  try dsimp only [cxOf]
  refine e_start (L := [Box b n, R]) (nx := fun _ H' => Q .non H') (rt := Q) (bk := fun _ _ => False) (ct := fun _ _ => False) [some (.ref b), some (.int many), none, none, none, none, none, none, none, none, none, none, none] rfl ?_
  tb_start
  refine use_take (by tb_rel) (by k_all) (by k_all) (by k_all) fun o o1 o2 => ?_
  obtain ⟨so, rfl⟩ : ∃ j : Nat, o = j := ⟨o.toNat, by omega⟩
  tb_start
  rw [show ((2 : Int) + (so : Int) - 2).toNat = so by omega]
  refine e_lcR0 (by tb_rel) (fun j acc M => ∃ cs : List Nat, (cs.length = j ∧ ∀ c ∈ cs, 97 ≤ c ∧ c ≤ 122) ∧ acc = cs.map (fun c => V.str ⟨#[c]⟩) ∧ M = [Box b (n + 1 + j), R]) ⟨_, ⟨[], ⟨rfl, fun c hc => by cases hc⟩, rfl, rfl⟩, .ofT (by tb_rel)⟩ ?_ ?_
  · rintro j acc M D hj ⟨cs, ⟨hl, hcs⟩, rfl, rfl⟩
    tb_start
    refine use_take (by tb_rel) (by omega) (by decide) (by decide) fun o o1 o2 => ?_
    tb_start
    refine e_abc o1 o2 ?_
    refine e_lcA (by tb_rel) (by rw [List.length_map, sizeLine_eq]; omega) ⟨cs ++ [97 + o.toNat], ⟨by rw [List.length_append, hl]; rfl, fun d hd => ?_⟩, map_push (g := fun c => V.str ⟨#[c]⟩), rfl⟩ (by tb_rel)
    rcases List.mem_append.mp hd with q | q
    · exact hcs d q
    · rw [List.mem_singleton.mp q]; omega
  · rintro acc M D ⟨cs, ⟨hl, hcs⟩, rfl, rfl⟩
    tb_start
    refine e_joinS (by tb_rel) (by omega) ?_
    have hz : Nm (⟨cs.toArray⟩ : Str) := by rw [Nm.iff]; exact fun c hc => hcs c (by simpa using hc)
    have hzs : (⟨cs.toArray⟩ : Str).cps.size = so := by show cs.toArray.size = so; rw [List.size_toArray]; exact hl
    generalize (⟨cs.toArray⟩ : Str) = stem at hz hzs
    tb_start
    refine use_take (by tb_rel) (by omega) (by decide) (by decide) fun f f1 f2 => ?_
    tb_start
    refine use_take (by tb_rel) (by omega) (by decide) (by decide) fun o o1 o2 => ?_
    obtain ⟨sv, hsv, ha⟩ := pick4 (a := .int 1) (b := .int 27) (c := .int 5) (d := .int 251) o1 o2
    refine e_xL (by top_args) ha ?_
    obtain ⟨st, hst, rfl⟩ : ∃ st : Int, (st = 1 ∨ st = 27 ∨ st = 5 ∨ st = 251) ∧ sv = V.int st := by
      rcases hsv with rfl | rfl | rfl | rfl
      · exact ⟨1, .inl rfl, rfl⟩
      · exact ⟨27, .inr (.inl rfl), rfl⟩
      · exact ⟨5, .inr (.inr (.inl rfl)), rfl⟩
      · exact ⟨251, .inr (.inr (.inr rfl)), rfl⟩
    clear hsv ha
    tb_start
    refine use_take (by tb_rel) (by omega) (by omega) (by omega) fun g g1 g2 => ?_
    obtain ⟨at', rfl⟩ : ∃ j : Nat, g = j := ⟨g.toNat, by omega⟩
    tb_start
    change Al (pt p (.lst ((((List.range 0).map (nmG stem at' f st)).map V.str))) :: _) _
    have hst2 : 0 ≤ st ∧ st ≤ 251 := by omega
    have hc1 : (cutS stem none (some (at' : Int))).cps.size ≤ 8 := Nat.le_trans (cutS_length ..) (by show stem.cps.size ≤ 8; omega)
    have hc2 : (cutS stem (some (at' : Int)) none).cps.size ≤ 8 := Nat.le_trans (cutS_length ..) (by show stem.cps.size ≤ 8; omega)
    refine e_forR0 (fun i σ M => ∃ (oA_0 oA_1 oA_2 : Option V), (True) ∧ σ = [some (.ref b), some (.int many), some (.str "abcdefghijklmnopqrstuvwxyz"), some (.int (2 + (so : Int))), some (.str stem), some (.int f), some (.int st), some (.int at'), some (.ref p), oA_0, oA_1, oA_2, none] ∧ M = [pt p (.lst (((List.range i).map (nmG stem at' f st)).map V.str)), Box b (n + 16), R]) ⟨_, ⟨_, _, _, trivial, rfl, rfl⟩, .ofT (by tb_rel)⟩ (fun i σ M hi hI => ?_) (fun σ M hI => ?_) <;> obtain ⟨oA_0, oA_1, oA_2, _, eσ, eM⟩ := hI <;> subst eσ eM
    · have hi' : i < many := by omega
      have hsi : 0 ≤ st * (i : Int) := Int.mul_nonneg hst2.1 (by omega)
      tb_start
      refine e_divmod ⟨by decide, by decide⟩ fun c => ?_
      tb_start
      refine e_slS (by rw [str_len, sizeLine_eq]; omega) ?_
      tb_start
      refine e_abc (by omega) (by omega) ?_
      tb_start
      refine e_abc (by omega) (by omega) ?_
      tb_start
      refine e_slS (by rw [str_len, sizeLine_eq]; omega) ?_
      tb_start
      rw [show ((List.range i).map (nmG stem at' f st)).map V.str ++ [V.str (cutS stem none (some (at' : Int)) ++ (⟨#[97 + ((f + st * (i : Int)) % 676 / 26).toNat]⟩ : Str) ++ (⟨#[97 + ((f + st * (i : Int)) % 676 % 26).toNat]⟩ : Str) ++ cutS stem (some (at' : Int)) none)] = ((List.range (i + 1)).map (nmG stem at' f st)).map V.str from by rw [List.range_succ, List.map_append, List.map_append]; rfl]
      tb_start
      try refine e_rest (by assumption) ?_
      exact e_nx ⟨_, _, _, trivial, rfl, rfl⟩ (by tb_rel)
    tb_start
    exact e_end (by tb_rel) (ke (p) ((List.range many).map (nmG stem at' f st)) ((fun z hz2 => by obtain ⟨k, _, rfl⟩ := List.mem_map.mp hz2; have q := nmG_ok hz (at' := at') (f := f) (s := st) (k := k); exact ⟨q.1, by omega, by omega⟩)) ((by rw [List.length_map, List.length_range])) ((List.pairwise_map.mpr ((List.nodup_range (n := many)).imp_of_mem (fun ha hb hne he => hne (nmG_inj hst (Nat.lt_of_lt_of_le (List.mem_range.mp ha) hm) (Nat.lt_of_lt_of_le (List.mem_range.mp hb) hm) he))))) ((fun z hz2 => by obtain ⟨k, _, rfl⟩ := List.mem_map.mp hz2; have q := nmG_ok hz (at' := at') (f := f) (s := st) (k := k); omega)))
end

section
variable {P : Program} {w : World} {K : PySem.W.Frag} {mg : Str → Option Value} {base : Heap}
local macro_rules | `(tactic| kpt_turns) => `(tactic| ((with_reducible apply use_cell); tb_rel))
local macro_rules | `(tactic| kpt_turns) => `(tactic| ((with_reducible apply use_mark); tb_rel; (k_all); (k_all)))
local macro_rules | `(tactic| kpt_turns) => `(tactic| ((with_reducible apply use_digit); tb_rel; (k_all)))
/-! ### nodes -/
def S_isleaf (K : PySem.W.Frag) : Tri where
  G := V × Nd × Unit
  O := Unit
  args := fun (x, nd, _) => [x]
  cond := fun (x, nd, _) => True
  pre := fun (x, nd, _) => [Fz K x nd.dat]
  ok := fun (x, nd, _) _ => True
  res := fun (x, nd, _) _ => .bl (isLeafN nd)
  post := fun (x, nd, _) _ => []
theorem use_isleaf {K : PySem.W.Frag} {L R : List Asn} {Q : VK} {E : XK} {x : V} {nd : Nd} (sTk : Tks L [Fz K x nd.dat] R)  (kk : Al R (Q (.bl (isLeafN nd)))) : Al L (xP (S_isleaf K).sp [x] Q E) :=
  Tri.useT (S_isleaf K) (x, nd, ()) rfl trivial sTk (fun _ _ => kk )
local macro_rules | `(tactic| kpt_turns) => `(tactic| ((with_reducible apply use_isleaf); tb_rel))
abbrev N_is_leaf : List Str := ["node"]
theorem sc_is_leaf : FnScope N_is_leaf ["node"] (defScope s_is_leaf) := ⟨rfl, rfl, rfl, by decide +kernel, rfl, by decide +kernel, by decide +kernel⟩
theorem ok_is_leaf (T : Fx K mg) (B : Bx K mg base) : FnG P w K mg base 1 (He.fAd K ("is_leaf", none)) ["node"] (S_isleaf K).sp := by
  refine Tri.fnC (N := N_is_leaf) (k := 0) (S_isleaf K) T.d_is_leaf sc_is_leaf (fun g => rfl) (fun _ _ _ _ _ _ us hl => match us, hl with | [_], _ => rfl) fun cdv A outer s H E Q g R hcd hr hc ke kx => ⟨_, PSs.nox ((pss_one (ps_ret (pe_cmpR (q_eq (K := K) rfl hr.u64) (pe_ix (q_ix (K := K) rfl hr.u1) (pv 0) pe_int (fun _ _ => rfl)) pe_str (nomark _))))), ?_⟩
  obtain ⟨x, nd, _⟩ := g
  replace ke : Al [R] (Q (.bl (isLeafN nd))) := ke () trivial
  try dsimp only [cxOf]
  refine e_start (L := [Fz K x nd.dat, R]) (nx := fun _ H' => Q .non H') (rt := Q) (bk := fun _ _ => False) (ct := fun _ _ => False) [some (x)] rfl ?_
  cases nd with
  | bare =>
    refine Fz.openT fun a xs e => ?_
    subst e
    refine Al.swap (Fzs.openC fun y ys e => ?_)
    subst e
    refine Fz.str fun e => ?_
    subst e
    refine Fzs.openN fun e => ?_
    subst e
    tb_start
    exact e_end (by tb_rel) (ke)
  | leaf m ps =>
    refine Fz.openT fun a xs e => ?_
    subst e
    refine Al.swap (Fzs.openC fun y ys e => ?_)
    subst e
    refine Fz.str fun e => ?_
    subst e
    tb_start
    exact e_end (by tb_rel) (ke)
  | fork a b c d =>
    refine Fz.openT fun a xs e => ?_
    subst e
    refine Al.swap (Fzs.openC fun y ys e => ?_)
    subst e
    refine Fz.str fun e => ?_
    subst e
    tb_start
    exact e_end (by tb_rel) (ke)
def S_isfork (K : PySem.W.Frag) : Tri where
  G := V × Nd × Unit
  O := Unit
  args := fun (x, nd, _) => [x]
  cond := fun (x, nd, _) => True
  pre := fun (x, nd, _) => [Fz K x nd.dat]
  ok := fun (x, nd, _) _ => True
  res := fun (x, nd, _) _ => .bl (isForkN nd)
  post := fun (x, nd, _) _ => []
theorem use_isfork {K : PySem.W.Frag} {L R : List Asn} {Q : VK} {E : XK} {x : V} {nd : Nd} (sTk : Tks L [Fz K x nd.dat] R)  (kk : Al R (Q (.bl (isForkN nd)))) : Al L (xP (S_isfork K).sp [x] Q E) :=
  Tri.useT (S_isfork K) (x, nd, ()) rfl trivial sTk (fun _ _ => kk )
local macro_rules | `(tactic| kpt_turns) => `(tactic| ((with_reducible apply use_isfork); tb_rel))
abbrev N_is_fork : List Str := ["node"]
theorem sc_is_fork : FnScope N_is_fork ["node"] (defScope s_is_fork) := ⟨rfl, rfl, rfl, by decide +kernel, rfl, by decide +kernel, by decide +kernel⟩
theorem ok_is_fork (T : Fx K mg) (B : Bx K mg base) : FnG P w K mg base 1 (He.fAd K ("is_fork", none)) ["node"] (S_isfork K).sp := by
  refine Tri.fnC (N := N_is_fork) (k := 0) (S_isfork K) T.d_is_fork sc_is_fork (fun g => rfl) (fun _ _ _ _ _ _ us hl => match us, hl with | [_], _ => rfl) fun cdv A outer s H E Q g R hcd hr hc ke kx => ⟨_, PSs.nox ((pss_one (ps_ret (pe_cmpR (q_eq (K := K) rfl hr.u64) (pe_ix (q_ix (K := K) rfl hr.u1) (pv 0) pe_int (fun _ _ => rfl)) pe_str (nomark _))))), ?_⟩
  obtain ⟨x, nd, _⟩ := g
  replace ke : Al [R] (Q (.bl (isForkN nd))) := ke () trivial
  try dsimp only [cxOf]
  refine e_start (L := [Fz K x nd.dat, R]) (nx := fun _ H' => Q .non H') (rt := Q) (bk := fun _ _ => False) (ct := fun _ _ => False) [some (x)] rfl ?_
  cases nd with
  | bare =>
    refine Fz.openT fun a xs e => ?_
    subst e
    refine Al.swap (Fzs.openC fun y ys e => ?_)
    subst e
    refine Fz.str fun e => ?_
    subst e
    refine Fzs.openN fun e => ?_
    subst e
    tb_start
    exact e_end (by tb_rel) (ke)
  | leaf m ps =>
    refine Fz.openT fun a xs e => ?_
    subst e
    refine Al.swap (Fzs.openC fun y ys e => ?_)
    subst e
    refine Fz.str fun e => ?_
    subst e
    tb_start
    exact e_end (by tb_rel) (ke)
  | fork a b c d =>
    refine Fz.openT fun a xs e => ?_
    subst e
    refine Al.swap (Fzs.openC fun y ys e => ?_)
    subst e
    refine Fz.str fun e => ?_
    subst e
    tb_start
    exact e_end (by tb_rel) (ke)
def S_ninit (K : PySem.W.Frag) : Tri where
  G := Addr × Unit
  O := Unit
  args := fun (x, _) => [.ref x]
  cond := fun (x, _) => True
  pre := fun (x, _) => [Ob x (He.ga K "Nodes") []]
  ok := fun (x, _) _ => True
  res := fun (x, _) _ => .non
  post := fun (x, _) _ => [NodesA K x [.bare]]
theorem use_ninit {K : PySem.W.Frag} {L R : List Asn} {Q : VK} {E : XK} {x : Addr} (sTk : Tks L [Ob x (He.ga K "Nodes") []] R)  (kk : Al (NodesA K x [.bare] :: R) (Q (.non))) : Al L (xP (S_ninit K).sp [.ref x] Q E) :=
  Tri.useT (S_ninit K) (x, ()) rfl trivial sTk (fun _ _ => kk )
local macro_rules | `(tactic| kpt_turns) => `(tactic| ((with_reducible apply use_ninit); tb_rel))
abbrev N_Nodes__init_ : List Str := ["self"]
theorem sc_Nodes__init_ : FnScope N_Nodes__init_ ["self"] (defScope s_Nodes__init_) := ⟨rfl, rfl, rfl, by decide +kernel, rfl, by decide +kernel, by decide +kernel⟩
theorem ok_Nodes__init_ (T : Fx K mg) (B : Bx K mg base) : FnG P w K mg base 1 (He.fAd K ("Nodes", some "__init__")) ["self"] (S_ninit K).sp := by
  refine Tri.fnC (N := N_Nodes__init_) (k := 0) (S_ninit K) T.d_Nodes__init_ sc_Nodes__init_ (fun g => rfl) (fun _ _ _ _ _ _ us hl => match us, hl with | [_], _ => rfl) fun cdv A outer s H E Q g R hcd hr hc ke kx => ⟨_, PSs.nox ((pss_one (ps_fld (pv 0) (pe_lst (pa_cons (pe_glob (v := .ref (He.ga K "FIRST")) rfl T.g_FIRST rfl) pa_nil)) rfl))), ?_⟩
  obtain ⟨x, _⟩ := g
  replace ke : Al [NodesA K x [.bare], R] (Q (.non)) := ke () trivial
  try dsimp only [cxOf]
  refine e_start (L := [Ob x (He.ga K "Nodes") [], R]) (nx := fun _ H' => Q .non H') (rt := Q) (bk := fun _ _ => False) (ct := fun _ _ => False) [some (.ref x)] rfl ?_
  tb_start
  refine LsA.fold (K := K) (a := p) (ds := ([Nd.bare] : List Nd).map Nd.dat) (by tb_rel) (LdZs.cons (d := Nd.bare.dat) (.f (.wr B.u.u_FIRST) (.cons .str .nil)) .nil) ?_
  refine NodesA.fold p (by tb_rel) ?_
  exact e_end (by tb_rel) (ke)
def S_nat (K : PySem.W.Frag) : Tri where
  G := Addr × (List Nd) × Nat × Nd × Unit
  O := V × Unit
  args := fun (n, ns, i, x, _) => [.ref n, .int i]
  cond := fun (n, ns, i, x, _) => (ns[i]? = some x) ∧ True
  pre := fun (n, ns, i, x, _) => [NodesA K n ns]
  ok := fun (n, ns, i, x, _) (v, _) => True
  res := fun (n, ns, i, x, _) (v, _) => v
  post := fun (n, ns, i, x, _) (v, _) => [NodesA K n ns, Fz K v x.dat]
theorem use_nat {K : PySem.W.Frag} {L R : List Asn} {Q : VK} {E : XK} {n : Addr} {ns : List Nd} {i : Nat} {x : Nd} (sTk : Tks L [NodesA K n ns] R) (h : ns[i]? = some x) (kk : ∀ (v : V), Al (NodesA K n ns :: Fz K v x.dat :: R) (Q (v))) : Al L (xP (S_nat K).sp [.ref n, .int i] Q E) :=
  Tri.useT (S_nat K) (n, ns, i, x, ()) rfl ⟨h, trivial⟩ sTk (fun ⟨v, _⟩ _ => kk v)
abbrev N_Nodes_at : List Str := ["self", "number"]
theorem sc_Nodes_at : FnScope N_Nodes_at ["self", "number"] (defScope s_Nodes_at) := ⟨rfl, rfl, rfl, by decide +kernel, rfl, by decide +kernel, by decide +kernel⟩
theorem ok_Nodes_at (T : Fx K mg) (B : Bx K mg base) : FnG P w K mg base 1 (He.fAd K ("Nodes", some "at")) ["self", "number"] (S_nat K).sp := by
  refine Tri.fnC (N := N_Nodes_at) (k := 0) (S_nat K) T.d_Nodes_at sc_Nodes_at (fun g => rfl) (fun _ _ _ _ _ _ us hl => match us, hl with | [_, _], _ => rfl) fun cdv A outer s H E Q g R hcd hr hc ke kx => ⟨_, PSs.nox ((pss_one (ps_ret (pe_ix (q_ix (K := K) rfl hr.u1) (q_fld (K := K) rfl (pv 0) rfl) (pv 1) (fun _ _ => rfl))))), ?_⟩
  obtain ⟨n, ns, i, x, _⟩ := g
  obtain ⟨h, _⟩ := hc
  replace ke : ∀ (v : V), Al [NodesA K n ns, Fz K v x.dat, R] (Q (v)) := fun v => ke (v, ()) trivial
  try dsimp only [cxOf]
  refine e_start (L := [NodesA K n ns, R]) (nx := fun _ H' => Q .non H') (rt := Q) (bk := fun _ _ => False) (ct := fun _ _ => False) [some (.ref n), some (.int i)] rfl ?_
  refine NodesA.open fun l => Al.swap (LsA.open fun xs hl => ?_)
  tb_start
  rw [List.length_map] at hl
  obtain ⟨v, hv⟩ : ∃ v, xs[i]? = some v := ⟨_, List.getElem?_eq_getElem (by rw [hl]; exact (List.getElem?_eq_some_iff.mp h).1)⟩
  refine e_xL (by top_args) (atI_nat hv) ?_
  refine Al.z (x := v) (d := x.dat) (LdZs.get (.tk (by tb_rel)) hv (by rw [List.getElem?_map, h]; rfl)) ?_
  refine LsA.fold (K := K) (a := l) (ds := ns.map Nd.dat) (by tb_rel) (.tk (by tb_rel)) ?_
  refine NodesA.fold l (by tb_rel) ?_
  exact e_end (by tb_rel) (ke (v))
def S_nmany (K : PySem.W.Frag) : Tri where
  G := Addr × (List Nd) × Unit
  O := Unit
  args := fun (n, ns, _) => [.ref n]
  cond := fun (n, ns, _) => True
  pre := fun (n, ns, _) => [NodesA K n ns]
  ok := fun (n, ns, _) _ => True
  res := fun (n, ns, _) _ => .int ns.length
  post := fun (n, ns, _) _ => [NodesA K n ns]
theorem use_nmany {K : PySem.W.Frag} {L R : List Asn} {Q : VK} {E : XK} {n : Addr} {ns : List Nd} (sTk : Tks L [NodesA K n ns] R)  (kk : Al (NodesA K n ns :: R) (Q (.int ns.length))) : Al L (xP (S_nmany K).sp [.ref n] Q E) :=
  Tri.useT (S_nmany K) (n, ns, ()) rfl trivial sTk (fun _ _ => kk )
local macro_rules | `(tactic| kpt_turns) => `(tactic| ((with_reducible apply use_nmany); tb_rel))
abbrev N_Nodes_many : List Str := ["self"]
theorem sc_Nodes_many : FnScope N_Nodes_many ["self"] (defScope s_Nodes_many) := ⟨rfl, rfl, rfl, by decide +kernel, rfl, by decide +kernel, by decide +kernel⟩
theorem ok_Nodes_many (T : Fx K mg) (B : Bx K mg base) : FnG P w K mg base 1 (He.fAd K ("Nodes", some "many")) ["self"] (S_nmany K).sp := by
  refine Tri.fnC (N := N_Nodes_many) (k := 0) (S_nmany K) T.d_Nodes_many sc_Nodes_many (fun g => rfl) (fun _ _ _ _ _ _ us hl => match us, hl with | [_], _ => rfl) fun cdv A outer s H E Q g R hcd hr hc ke kx => ⟨_, PSs.nox ((pss_one (ps_ret (pe_callB (q_len (K := K) rfl) (by rfl) T.b_len (by decide +kernel) (pa_cons (q_fld (K := K) rfl (pv 0) rfl) pa_nil))))), ?_⟩
  obtain ⟨n, ns, _⟩ := g
  replace ke : Al [NodesA K n ns, R] (Q (.int ns.length)) := ke () trivial
  try dsimp only [cxOf]
  refine e_start (L := [NodesA K n ns, R]) (nx := fun _ H' => Q .non H') (rt := Q) (bk := fun _ _ => False) (ct := fun _ _ => False) [some (.ref n)] rfl ?_
  refine NodesA.open fun l => Al.swap (LsA.open fun xs hl => ?_)
  tb_start
  rw [hl, List.length_map]
  refine LsA.fold (K := K) (a := l) (ds := ns.map Nd.dat) (by tb_rel) (.tk (by tb_rel)) ?_
  refine NodesA.fold l (by tb_rel) ?_
  exact e_end (by tb_rel) (ke)
def S_nmake (K : PySem.W.Frag) : Tri where
  G := Addr × (List Nd) × V × Nd × Unit
  O := Unit
  args := fun (n, ns, v, x, _) => [.ref n, v]
  cond := fun (n, ns, v, x, _) => (ns.length ≤ 1000000) ∧ True
  pre := fun (n, ns, v, x, _) => [NodesA K n ns, Fz K v x.dat]
  ok := fun (n, ns, v, x, _) _ => True
  res := fun (n, ns, v, x, _) _ => .int ns.length
  post := fun (n, ns, v, x, _) _ => [NodesA K n (ns ++ [x])]
theorem use_nmake {K : PySem.W.Frag} {L R : List Asn} {Q : VK} {E : XK} {n : Addr} {ns : List Nd} {v : V} {x : Nd} (sTk : Tks L [NodesA K n ns, Fz K v x.dat] R) (h : ns.length ≤ 1000000) (kk : Al (NodesA K n (ns ++ [x]) :: R) (Q (.int ns.length))) : Al L (xP (S_nmake K).sp [.ref n, v] Q E) :=
  Tri.useT (S_nmake K) (n, ns, v, x, ()) rfl ⟨h, trivial⟩ sTk (fun _ _ => kk )
local macro_rules | `(tactic| kpt_turns) => `(tactic| ((with_reducible apply use_nmake); tb_rel; (k_all)))
abbrev N_Nodes_make : List Str := ["self", "node"]
theorem sc_Nodes_make : FnScope N_Nodes_make ["self", "node"] (defScope s_Nodes_make) := ⟨rfl, rfl, rfl, by decide +kernel, rfl, by decide +kernel, by decide +kernel⟩
theorem ok_Nodes_make (T : Fx K mg) (B : Bx K mg base) : FnG P w K mg base 1 (He.fAd K ("Nodes", some "make")) ["self", "node"] (S_nmake K).sp := by
  refine Tri.fnC (N := N_Nodes_make) (k := 0) (S_nmake K) T.d_Nodes_make sc_Nodes_make (fun g => rfl) (fun _ _ _ _ _ _ us hl => match us, hl with | [_, _], _ => rfl) fun cdv A outer s H E Q g R hcd hr hc ke kx => ⟨_, PSs.nox ((pss_cons (ps_expr (q_bm (K := K) rfl PySem.F.plainAttrs_list PySem.F.slot_list_append PySem.F.type_list_append mt_append (q_fld (K := K) rfl (pv 0) rfl) (pa_cons (pv 1) pa_nil)))
    (pss_one (ps_ret (pe_op o_sub (pe_callB (q_len (K := K) rfl) (by rfl) T.b_len (by decide +kernel) (pa_cons (q_fld (K := K) rfl (pv 0) rfl) pa_nil)) pe_int))))), ?_⟩
  obtain ⟨n, ns, v, x, _⟩ := g
  obtain ⟨h, _⟩ := hc
  replace ke : Al [NodesA K n (ns ++ [x]), R] (Q (.int ns.length)) := ke () trivial
  try dsimp only [cxOf]
  refine e_start (L := [NodesA K n ns, Fz K v x.dat, R]) (nx := fun _ H' => Q .non H') (rt := Q) (bk := fun _ _ => False) (ct := fun _ _ => False) [some (.ref n), some (v)] rfl ?_
  refine NodesA.open fun l => Al.swap (LsA.open fun xs hl => ?_)
  rw [List.length_map] at hl
  tb_start
  rw [List.length_append, List.length_cons, List.length_nil, hl]
  refine LsA.fold (K := K) (a := l) (ds := (ns ++ [x]).map Nd.dat) (by tb_rel) (by rw [List.map_append]; exact .app (.tk (by tb_rel)) (.cons (.tk (by tb_rel)) .nil)) ?_
  refine NodesA.fold l (by tb_rel) ?_
  refine e_eqv (v' := .int ns.length) (by congr 1; omega) ?_
  exact e_end (by tb_rel) (ke)
def S_nleaf (K : PySem.W.Frag) : Tri where
  G := Addr × (List Nd) × Int × Addr × Prs × Unit
  O := Unit
  args := fun (n, ns, m, p, ps, _) => [.ref n, .int m, .ref p]
  cond := fun (n, ns, m, p, ps, _) => (ns.length ≤ 1000000) ∧ True
  pre := fun (n, ns, m, p, ps, _) => [NodesA K n ns, LsA K p (ps.map pd)]
  ok := fun (n, ns, m, p, ps, _) _ => True
  res := fun (n, ns, m, p, ps, _) _ => .int ns.length
  post := fun (n, ns, m, p, ps, _) _ => [NodesA K n (ns ++ [.leaf m ps])]
theorem use_nleaf {K : PySem.W.Frag} {L R : List Asn} {Q : VK} {E : XK} {n : Addr} {ns : List Nd} {m : Int} {p : Addr} {ps : Prs} (sTk : Tks L [NodesA K n ns, LsA K p (ps.map pd)] R) (h : ns.length ≤ 1000000) (kk : Al (NodesA K n (ns ++ [.leaf m ps]) :: R) (Q (.int ns.length))) : Al L (xP (S_nleaf K).sp [.ref n, .int m, .ref p] Q E) :=
  Tri.useT (S_nleaf K) (n, ns, m, p, ps, ()) rfl ⟨h, trivial⟩ sTk (fun _ _ => kk )
local macro_rules | `(tactic| kpt_turns) => `(tactic| ((with_reducible apply use_nleaf); tb_rel; (k_all)))
abbrev N_Nodes_leaf : List Str := ["self", "mark", "pairs"]
theorem sc_Nodes_leaf : FnScope N_Nodes_leaf ["self", "mark", "pairs"] (defScope s_Nodes_leaf) := ⟨rfl, rfl, rfl, by decide +kernel, rfl, by decide +kernel, by decide +kernel⟩
theorem ok_Nodes_leaf (T : Fx K mg) (B : Bx K mg base) : FnG P w K mg base 2 (He.fAd K ("Nodes", some "leaf")) ["self", "mark", "pairs"] (S_nleaf K).sp := by
  refine Tri.fnC (N := N_Nodes_leaf) (k := 1) (S_nleaf K) T.d_Nodes_leaf sc_Nodes_leaf (fun g => rfl) (fun _ _ _ _ _ _ us hl => match us, hl with | [_, _, _], _ => rfl) fun cdv A outer s H E Q g R hcd hr hc ke kx => ⟨_, PSs.nox ((pss_one (ps_ret (ge_meth (pv 0) T.c_Nodes T.t_Nodes_make (ok_Nodes_make T B) hr.mono px0 (pa_cons (pe_tup (pa_cons pe_str (pa_cons (pv 1) (pa_cons (pe_callTy (q_tup (K := K) rfl) (by rfl) T.b_tuple (by decide +kernel) (pa_cons (pv 2) pa_nil)) pa_nil)))) pa_nil))))), ?_⟩
  obtain ⟨n, ns, m, p, ps, _⟩ := g
  obtain ⟨h, _⟩ := hc
  replace ke : Al [NodesA K n (ns ++ [.leaf m ps]), R] (Q (.int ns.length)) := ke () trivial
  try dsimp only [cxOf]
  refine e_start (L := [NodesA K n ns, LsA K p (ps.map pd), R]) (nx := fun _ H' => Q .non H') (rt := Q) (bk := fun _ _ => False) (ct := fun _ _ => False) [some (.ref n), some (.int m), some (.ref p)] rfl ?_
  refine Al.swap (LsA.open fun xs hl => ?_)
  tb_start
  refine Al.z (x := .ref p) (d := (Nd.leaf m ps).dat) (.tup (by tb_rel) (.cons .str (.cons .int (.cons (.tup (by tb_rel) (.tk (by tb_rel))) .nil)))) ?_
  refine use_nmake (x := .leaf m ps) (by tb_rel) (by k_all) ?_
  exact e_end (by tb_rel) (ke)
def S_nfork (K : PySem.W.Frag) : Tri where
  G := Addr × (List Nd) × Addr × Nat × Nat × Nat × Nat × Unit
  O := Unit
  args := fun (n, ns, p, a, b, c, d, _) => [.ref n, .ref p]
  cond := fun (n, ns, p, a, b, c, d, _) => (ns.length ≤ 1000000) ∧ True
  pre := fun (n, ns, p, a, b, c, d, _) => [NodesA K n ns, FzT K p [.int a, .int b, .int c, .int d]]
  ok := fun (n, ns, p, a, b, c, d, _) _ => True
  res := fun (n, ns, p, a, b, c, d, _) _ => .int ns.length
  post := fun (n, ns, p, a, b, c, d, _) _ => [NodesA K n (ns ++ [.fork a b c d])]
theorem use_nfork {K : PySem.W.Frag} {L R : List Asn} {Q : VK} {E : XK} {n : Addr} {ns : List Nd} {p : Addr} {a : Nat} {b : Nat} {c : Nat} {d : Nat} (sTk : Tks L [NodesA K n ns, FzT K p [.int a, .int b, .int c, .int d]] R) (h : ns.length ≤ 1000000) (kk : Al (NodesA K n (ns ++ [.fork a b c d]) :: R) (Q (.int ns.length))) : Al L (xP (S_nfork K).sp [.ref n, .ref p] Q E) :=
  Tri.useT (S_nfork K) (n, ns, p, a, b, c, d, ()) rfl ⟨h, trivial⟩ sTk (fun _ _ => kk )
local macro_rules | `(tactic| kpt_turns) => `(tactic| ((with_reducible apply use_nfork); tb_rel; (k_all)))
abbrev N_Nodes_fork : List Str := ["self", "parts"]
theorem sc_Nodes_fork : FnScope N_Nodes_fork ["self", "parts"] (defScope s_Nodes_fork) := ⟨rfl, rfl, rfl, by decide +kernel, rfl, by decide +kernel, by decide +kernel⟩
theorem ok_Nodes_fork (T : Fx K mg) (B : Bx K mg base) : FnG P w K mg base 2 (He.fAd K ("Nodes", some "fork")) ["self", "parts"] (S_nfork K).sp := by
  refine Tri.fnC (N := N_Nodes_fork) (k := 1) (S_nfork K) T.d_Nodes_fork sc_Nodes_fork (fun g => rfl) (fun _ _ _ _ _ _ us hl => match us, hl with | [_, _], _ => rfl) fun cdv A outer s H E Q g R hcd hr hc ke kx => ⟨_, PSs.nox ((pss_one (ps_ret (ge_meth (pv 0) T.c_Nodes T.t_Nodes_make (ok_Nodes_make T B) hr.mono px0 (pa_cons (pe_tup (pa_cons pe_str (pa_cons (pe_callTy (q_tup (K := K) rfl) (by rfl) T.b_tuple (by decide +kernel) (pa_cons (pv 1) pa_nil)) pa_nil))) pa_nil))))), ?_⟩
  obtain ⟨n, ns, p, a, b, c, d, _⟩ := g
  obtain ⟨h, _⟩ := hc
  replace ke : Al [NodesA K n (ns ++ [.fork a b c d]), R] (Q (.int ns.length)) := ke () trivial
  try dsimp only [cxOf]
  refine e_start (L := [NodesA K n ns, FzT K p [.int a, .int b, .int c, .int d], R]) (nx := fun _ H' => Q .non H') (rt := Q) (bk := fun _ _ => False) (ct := fun _ _ => False) [some (.ref n), some (.ref p)] rfl ?_
  tb_start
  rename_i p0
  refine Al.z (x := .ref p) (d := (Nd.fork a b c d).dat) (.tup (by tb_rel) (.cons .str (.cons (.tupF (by tb_rel) (.cons .int (.cons .int (.cons .int (.cons .int .nil))))) .nil))) ?_
  refine use_nmake (x := .fork a b c d) (by tb_rel) (by k_all) ?_
  exact e_end (by tb_rel) (ke)
end

section
variable {P : Program} {w : World} {K : PySem.W.Frag} {mg : Str → Option Value} {base : Heap}
local macro_rules | `(tactic| kpt_turns) => `(tactic| ((with_reducible apply use_cell); tb_rel))
local macro_rules | `(tactic| kpt_turns) => `(tactic| ((with_reducible apply use_mark); tb_rel; (k_all); (k_all)))
local macro_rules | `(tactic| kpt_turns) => `(tactic| ((with_reducible apply use_digit); tb_rel; (k_all)))
local macro_rules | `(tactic| kpt_turns) => `(tactic| ((with_reducible apply use_isleaf); tb_rel))
local macro_rules | `(tactic| kpt_turns) => `(tactic| ((with_reducible apply use_isfork); tb_rel))
local macro_rules | `(tactic| kpt_turns) => `(tactic| ((with_reducible apply use_ninit); tb_rel))
local macro_rules | `(tactic| kpt_turns) => `(tactic| ((with_reducible apply use_nmany); tb_rel))
local macro_rules | `(tactic| kpt_turns) => `(tactic| ((with_reducible apply use_nmake); tb_rel; (k_all)))
local macro_rules | `(tactic| kpt_turns) => `(tactic| ((with_reducible apply use_nleaf); tb_rel; (k_all)))
local macro_rules | `(tactic| kpt_turns) => `(tactic| ((with_reducible apply use_nfork); tb_rel; (k_all)))
/-! ### rows of pairs -/
def S_valuein (K : PySem.W.Frag) : Tri where
  G := V × Nd × Str × Unit
  O := Unit
  args := fun (x, nd, n, _) => [x, .str n]
  cond := fun (x, nd, n, _) => True
  pre := fun (x, nd, n, _) => [Fz K x nd.dat]
  ok := fun (x, nd, n, _) _ => True
  res := fun (x, nd, n, _) _ => nrm ((vin (some nd) n).getD .non)
  post := fun (x, nd, n, _) _ => []
theorem use_valuein {K : PySem.W.Frag} {L R : List Asn} {Q : VK} {E : XK} {x : V} {nd : Nd} {n : Str} (sTk : Tks L [Fz K x nd.dat] R)  (kk : Al R (Q (nrm ((vin (some nd) n).getD .non)))) : Al L (xP (S_valuein K).sp [x, .str n] Q E) :=
  Tri.useT (S_valuein K) (x, nd, n, ()) rfl trivial sTk (fun _ _ => kk )
local macro_rules | `(tactic| kpt_turns) => `(tactic| ((with_reducible apply use_valuein); tb_rel))
abbrev N_value_in : List Str := ["node", "name", "other", "value"]
theorem sc_value_in : FnScope N_value_in ["node", "name"] (defScope s_value_in) := ⟨rfl, rfl, rfl, by decide +kernel, rfl, by decide +kernel, by decide +kernel⟩
theorem ok_value_in (T : Fx K mg) (B : Bx K mg base) : FnG P w K mg base 2 (He.fAd K ("value_in", none)) ["node", "name"] (S_valuein K).sp := by
  refine Tri.fnC (N := N_value_in) (k := 1) (S_valuein K) T.d_value_in sc_value_in (fun g => rfl) (fun _ _ _ _ _ _ us hl => match us, hl with | [_, _], _ => rfl) fun cdv A outer s H E Q g R hcd hr hc ke kx => ⟨_, PSs.nox ((pss_cons (ps_if (pt_not (pt_val (ge_call (ok_is_leaf T B) hr.mono rfl T.g_is_leaf px0 (pa_cons (pv 0) pa_nil)))) (pss_one (ps_ret pe_non)) pss_nil)
    (pss_cons (ps_for PassesOwn.never rfl (qi_any (K := K) rfl (pe_ix (q_ix (K := K) rfl hr.u1) (pv 0) pe_int (fun _ _ => rfl))) (qg_tup (K := K) (n := 2) rfl rfl (pgs_cons (pg_name (i := 2) sc_value_in.nd rfl (.inl rfl)) (pgs_cons (pg_name (i := 3) sc_value_in.nd rfl (.inl rfl)) pgs_nil))) (pss_one (ps_if (pt_cmpR (q_eq (K := K) rfl hr.u64) (pv 2) (pv 1) (nomark _)) (pss_one (ps_ret (pv 3))) pss_nil)))
    (pss_one (ps_ret pe_non))))), ?_⟩
  obtain ⟨x, nd, n, _⟩ := g
  replace ke : Al [R] (Q (nrm ((vin (some nd) n).getD .non))) := ke () trivial
  try dsimp only [cxOf]
  refine e_start (L := [Fz K x nd.dat, R]) (nx := fun _ H' => Q .non H') (rt := Q) (bk := fun _ _ => False) (ct := fun _ _ => False) [some (x), some (.str n), none, none] rfl ?_
  tb_start
  refine e_if ?_ ?_ <;> intro c <;> (try simp only [decide_eq_true_eq, decide_eq_false_iff_not, Bool.not_eq_true', Bool.not_eq_false', Bool.and_eq_true, Bool.or_eq_true, Bool.and_eq_false_iff, Bool.or_eq_false_iff, Bool.false_or, Bool.true_and, Bool.or_false, Bool.and_true, Bool.not_true, Bool.not_false, true_and, and_true, or_false, false_or, Bool.false_eq_true, Bool.true_eq_false, not_and, Bool.not_not] at c)
  · tb_start
    have e : nrm ((vin (some nd) n).getD .non) = .non := by
      cases nd with
      | leaf m ps => cases c
      | _ => rfl
    rw [e] at ke
    exact e_end (by tb_rel) (ke)
  cases nd with
  | bare => cases c
  | fork => cases c
  | leaf m ps =>
    have ke : Al [R] (Q (nrm ((fnd ps n).getD .non))) := ke
    refine Fz.openLeaf fun t p xs e hl => ?_
    subst e
    tb_start
    refine e_forT (fun i σ M => ∃ (oA_0 oA_1 : Option V), ((∀ r ∈ ps.take i, r.1 ≠ n) ∧ True) ∧ σ = [some (.ref t), some (.str n), oA_0, oA_1] ∧ M = [FzT K p xs, Fzs K xs (ps.map pd), R]) ⟨_, ⟨_, _, ⟨(fun r hr => by cases hr), trivial⟩, rfl, rfl⟩, .ofT (by tb_rel)⟩ (by rintro i σ M ⟨oA_0, oA_1, ⟨hA, _⟩, rfl, rfl⟩; top_args) (fun i y σ M hx hI => ?_) (fun σ M hI => ?_) <;> obtain ⟨oA_0, oA_1, ⟨hA, _⟩, eσ, eM⟩ := hI <;> subst eσ eM
    · have hi := (List.getElem?_eq_some_iff.mp hx).1
      obtain ⟨q, hq⟩ : ∃ q, ps[i]? = some q := ⟨_, List.getElem?_eq_getElem (by omega)⟩
      refine Al.z (x := y) (d := pd q) (LdZs.get (.tk (by tb_rel)) hx (by rw [List.getElem?_map, hq]; rfl)) ?_
      refine Fz.openPair fun u e => ?_
      subst e
      tb_start
      refine e_if ?_ ?_ <;> intro c1 <;> (try simp only [decide_eq_true_eq, decide_eq_false_iff_not, Bool.not_eq_true', Bool.not_eq_false', Bool.and_eq_true, Bool.or_eq_true, Bool.and_eq_false_iff, Bool.or_eq_false_iff, Bool.false_or, Bool.true_and, Bool.or_false, Bool.and_true, Bool.not_true, Bool.not_false, true_and, and_true, or_false, false_or, Bool.false_eq_true, Bool.true_eq_false, not_and, Bool.not_not] at c1)
      · tb_start
        rw [fnd_take hA hq c1] at ke
        exact e_end (by tb_rel) (ke)
      tb_start
      try refine e_rest (by assumption) ?_
      exact e_nx ⟨_, _, ⟨(fun r hr => (List.mem_append.mp (take_step hq ▸ hr)).elim (hA r) fun z => (List.mem_singleton.mp z ▸ c1)), trivial⟩, rfl, rfl⟩ (by tb_rel)
    tb_start
    rw [hl, List.take_length] at hA
    rw [fnd_nope hA] at ke
    exact e_end (by tb_rel) (ke)
def S_pwith (K : PySem.W.Frag) : Tri where
  G := Addr × (List V) × Prs × Str × V × Unit
  O := Addr × Unit
  args := fun (p, xs, ps, n, v, _) => [.ref p, .str n, v]
  cond := fun (p, xs, ps, n, v, _) => (Scl v) ∧ (xs.length ≤ 100000) ∧ True
  pre := fun (p, xs, ps, n, v, _) => [FzT K p xs, Fzs K xs (ps.map pd), TbW K]
  ok := fun (p, xs, ps, n, v, _) (r, _) => True
  res := fun (p, xs, ps, n, v, _) (r, _) => .ref r
  post := fun (p, xs, ps, n, v, _) (r, _) => [LsA K r ((ins ps n v).map pd), TbW K]
theorem use_pwith {K : PySem.W.Frag} {L R : List Asn} {Q : VK} {E : XK} {p : Addr} {xs : List V} {ps : Prs} {n : Str} {v : V} (sTk : Tks L [FzT K p xs, Fzs K xs (ps.map pd), TbW K] R) (hv : Scl v) (hl : xs.length ≤ 100000) (kk : ∀ (r : Addr), Al (LsA K r ((ins ps n v).map pd) :: TbW K :: R) (Q (.ref r))) : Al L (xP (S_pwith K).sp [.ref p, .str n, v] Q E) :=
  Tri.useT (S_pwith K) (p, xs, ps, n, v, ()) rfl ⟨hv, hl, trivial⟩ sTk (fun ⟨r, _⟩ _ => kk r)
abbrev N_pairs_with : List Str := ["pairs", "name", "value", "pair"]
theorem sc_pairs_with : FnScope N_pairs_with ["pairs", "name", "value"] (defScope s_pairs_with) := ⟨rfl, rfl, rfl, by decide +kernel, rfl, by decide +kernel, by decide +kernel⟩
theorem ok_pairs_with (T : Fx K mg) (B : Bx K mg base) : FnG P w K mg base 1 (He.fAd K ("pairs_with", none)) ["pairs", "name", "value"] (S_pwith K).sp := by
  refine Tri.fnC (N := N_pairs_with) (k := 0) (S_pwith K) T.d_pairs_with sc_pairs_with (fun g => rfl) (fun _ _ _ _ _ _ us hl => match us, hl with | [_, _, _], _ => rfl) fun cdv A outer s H E Q g R hcd hr hc ke kx => ⟨_, PSs.nox ((pss_one (ps_ret (pe_sortK (y := "pair") (by rfl) T.b_sorted (pa_cons (pe_op (q_add (K := K) rfl) (pe_lc (own := [("pair", 3)]) rfl sc_pairs_with.nd (qi_any (K := K) rfl (pv 0)) (blkOk_by (N := N_pairs_with) (sc := defScope s_pairs_with) (by decide +kernel)) (fun _ _ _ _ _ => (pg_name (i := 3) sc_pairs_with.nd rfl (.inl rfl))) (fun _ _ _ _ _ => (pts_one (pt_cmpR (q_ne (K := K) rfl hr.u64) (pe_ix (q_ix (K := K) rfl hr.u1) (pv 3) pe_int (fun _ _ => rfl)) (pv 1) (nomark _)))) (fun _ _ _ _ _ => (pv 3))) (pe_lst (pa_cons (pe_tup (pa_cons (pv 1) (pa_cons (pv 2) pa_nil))) pa_nil))) pa_nil) B.tb_pairs_with hcd (by have := hr.r.dp; exact Nat.lt_of_le_of_lt (Nat.add_le_add_left (by omega) _) this) (Nat.lt_of_le_of_lt (Nat.add_le_add_left (by omega) _) hr.u64) hr.r.hd ⟨rfl, rfl, rfl, by decide +kernel, rfl, by decide +kernel, by decide +kernel⟩ rfl (by decide +kernel) (fun _ _ _ _ _ _ => rfl) rfl)))), ?_⟩
  obtain ⟨p, xs, ps, n, v, _⟩ := g
  obtain ⟨hv, hl, _⟩ := hc
  replace ke : ∀ (r : Addr), Al [LsA K r ((ins ps n v).map pd), TbW K, R] (Q (.ref r)) := fun r => ke (r, ()) trivial
  try dsimp only [cxOf]
  refine e_start (L := [FzT K p xs, Fzs K xs (ps.map pd), TbW K, R]) (nx := fun _ H' => Q .non H') (rt := Q) (bk := fun _ _ => False) (ct := fun _ _ => False) [some (.ref p), some (.str n), some (v), none] rfl ?_
  refine e_end (M := [FzT K p xs, Fzs K xs (ps.map pd), TbW K, R]) (by tb_rel) ?_
  refine Al.swap (Fzs.len fun hl2 => ?_)
  rw [List.length_map] at hl2
  tb_start
  refine e_lcT (by tb_rel) (fun i acc M => (acc.length ≤ i ∧ True) ∧ M = [Fzs K acc ((del (ps.take i) n).map pd), FzT K p xs, Fzs K xs (ps.map pd), TbW K, R]) ⟨_, ⟨⟨Nat.le_refl _, trivial⟩, rfl⟩, e_fz0 (.ofT (by tb_rel))⟩ (by rintro i acc M ⟨_, rfl⟩; top_args) (fun i y acc M D hx hI => ?_) (fun acc M D hI => ?_)
  · obtain ⟨⟨ha, _⟩, eM⟩ := hI
    subst eM
    have hi := (List.getElem?_eq_some_iff.mp hx).1
    obtain ⟨q, hq⟩ : ∃ q, ps[i]? = some q := ⟨_, List.getElem?_eq_getElem (by omega)⟩
    refine Al.z (x := y) (d := pd q) (LdZs.get (xs := xs) (ds := ps.map pd) (.tk (by tb_rel)) hx (by rw [List.getElem?_map, hq]; rfl)) ?_
    refine Al.z (LdZ.tk (d := pd q) (by tb_rel)) ?_
    refine Fz.openPair fun u e => ?_
    subst e
    tb_start
    refine e_ifb ?_ ?_ <;> intro c <;> (try simp only [decide_eq_true_eq, decide_eq_false_iff_not, Bool.not_eq_true', Bool.not_eq_false', Bool.and_eq_true, Bool.or_eq_true, Bool.and_eq_false_iff, Bool.or_eq_false_iff, Bool.false_or, Bool.true_and, Bool.or_false, Bool.and_true, Bool.not_true, Bool.not_false, true_and, and_true, or_false, false_or, Bool.false_eq_true, Bool.true_eq_false, not_and, Bool.not_not] at c)
    · tb_start
      refine Al.zs (xs := acc ++ [.ref u]) (ds := (del (ps.take (i + 1)) n).map pd) (by rw [del_step hq, if_neg c, List.map_append]; exact .app (.tk (by tb_rel)) (.cons (.tk (by tb_rel)) .nil)) ?_
      exact e_lcA (by tb_rel) (by rw [sizeLine_eq]; omega) ⟨⟨by rw [List.length_append]; exact Nat.succ_le_succ ha, trivial⟩, rfl⟩ (by tb_rel)
    · tb_start
      refine Al.zs (xs := acc) (ds := (del (ps.take (i + 1)) n).map pd) (by rw [del_step hq, if_pos c]; exact .tk (by tb_rel)) ?_
      exact e_lcN (by tb_rel) ⟨⟨by omega, trivial⟩, rfl⟩ (by tb_rel)
  · obtain ⟨⟨ha, _⟩, eM⟩ := hI
    subst eM
    rw [hl2, List.take_length]
    tb_start
    rename_i p1 p2 p3
    refine Al.z (K := K) (x := .ref p2) (d := pd (n, v)) (.tup (by tb_rel) (.cons .str (.cons (.scl hv) .nil))) ?_
    refine e_sortP (q := "pairs_with.<locals>.<lambda>") (ps := del ps n ++ [(n, v)]) (by kernel_rfl) (by tb_rel) (by rw [List.map_append]; exact .app (.tk (by tb_rel)) (.cons (.tk (by tb_rel)) .nil)) (by tb_rel) fun r => ?_
    change Al (LsA K r ((ins ps n v).map pd) :: _) _
    exact e_end (by tb_rel) (ke (r))
def S_pwithout (K : PySem.W.Frag) : Tri where
  G := Addr × (List V) × Prs × Str × Unit
  O := Addr × Unit
  args := fun (p, xs, ps, n, _) => [.ref p, .str n]
  cond := fun (p, xs, ps, n, _) => (xs.length ≤ 100000) ∧ True
  pre := fun (p, xs, ps, n, _) => [FzT K p xs, Fzs K xs (ps.map pd)]
  ok := fun (p, xs, ps, n, _) (r, _) => True
  res := fun (p, xs, ps, n, _) (r, _) => .ref r
  post := fun (p, xs, ps, n, _) (r, _) => [LsA K r ((del ps n).map pd)]
theorem use_pwithout {K : PySem.W.Frag} {L R : List Asn} {Q : VK} {E : XK} {p : Addr} {xs : List V} {ps : Prs} {n : Str} (sTk : Tks L [FzT K p xs, Fzs K xs (ps.map pd)] R) (hl : xs.length ≤ 100000) (kk : ∀ (r : Addr), Al (LsA K r ((del ps n).map pd) :: R) (Q (.ref r))) : Al L (xP (S_pwithout K).sp [.ref p, .str n] Q E) :=
  Tri.useT (S_pwithout K) (p, xs, ps, n, ()) rfl ⟨hl, trivial⟩ sTk (fun ⟨r, _⟩ _ => kk r)
abbrev N_pairs_without : List Str := ["pairs", "name", "pair"]
theorem sc_pairs_without : FnScope N_pairs_without ["pairs", "name"] (defScope s_pairs_without) := ⟨rfl, rfl, rfl, by decide +kernel, rfl, by decide +kernel, by decide +kernel⟩
theorem ok_pairs_without (T : Fx K mg) (B : Bx K mg base) : FnG P w K mg base 1 (He.fAd K ("pairs_without", none)) ["pairs", "name"] (S_pwithout K).sp := by
  refine Tri.fnC (N := N_pairs_without) (k := 0) (S_pwithout K) T.d_pairs_without sc_pairs_without (fun g => rfl) (fun _ _ _ _ _ _ us hl => match us, hl with | [_, _], _ => rfl) fun cdv A outer s H E Q g R hcd hr hc ke kx => ⟨_, PSs.nox ((pss_one (ps_ret (pe_lc (own := [("pair", 2)]) rfl sc_pairs_without.nd (qi_any (K := K) rfl (pv 0)) (blkOk_by (N := N_pairs_without) (sc := defScope s_pairs_without) (by decide +kernel)) (fun _ _ _ _ _ => (pg_name (i := 2) sc_pairs_without.nd rfl (.inl rfl))) (fun _ _ _ _ _ => (pts_one (pt_cmpR (q_ne (K := K) rfl hr.u64) (pe_ix (q_ix (K := K) rfl hr.u1) (pv 2) pe_int (fun _ _ => rfl)) (pv 1) (nomark _)))) (fun _ _ _ _ _ => (pv 2)))))), ?_⟩
  obtain ⟨p, xs, ps, n, _⟩ := g
  obtain ⟨hl, _⟩ := hc
  replace ke : ∀ (r : Addr), Al [LsA K r ((del ps n).map pd), R] (Q (.ref r)) := fun r => ke (r, ()) trivial
  try dsimp only [cxOf]
  refine e_start (L := [FzT K p xs, Fzs K xs (ps.map pd), R]) (nx := fun _ H' => Q .non H') (rt := Q) (bk := fun _ _ => False) (ct := fun _ _ => False) [some (.ref p), some (.str n), none] rfl ?_
  refine e_end (M := [FzT K p xs, Fzs K xs (ps.map pd), R]) (by tb_rel) ?_
  refine Al.swap (Fzs.len fun hl2 => ?_)
  rw [List.length_map] at hl2
  tb_start
  refine e_lcT (by tb_rel) (fun i acc M => (acc.length ≤ i ∧ True) ∧ M = [Fzs K acc ((del (ps.take i) n).map pd), FzT K p xs, Fzs K xs (ps.map pd), R]) ⟨_, ⟨⟨Nat.le_refl _, trivial⟩, rfl⟩, e_fz0 (.ofT (by tb_rel))⟩ (by rintro i acc M ⟨_, rfl⟩; top_args) (fun i y acc M D hx hI => ?_) (fun acc M D hI => ?_)
  · obtain ⟨⟨ha, _⟩, eM⟩ := hI
    subst eM
    have hi := (List.getElem?_eq_some_iff.mp hx).1
    obtain ⟨q, hq⟩ : ∃ q, ps[i]? = some q := ⟨_, List.getElem?_eq_getElem (by omega)⟩
    refine Al.z (x := y) (d := pd q) (LdZs.get (xs := xs) (ds := ps.map pd) (.tk (by tb_rel)) hx (by rw [List.getElem?_map, hq]; rfl)) ?_
    refine Al.z (LdZ.tk (d := pd q) (by tb_rel)) ?_
    refine Fz.openPair fun u e => ?_
    subst e
    tb_start
    refine e_ifb ?_ ?_ <;> intro c <;> (try simp only [decide_eq_true_eq, decide_eq_false_iff_not, Bool.not_eq_true', Bool.not_eq_false', Bool.and_eq_true, Bool.or_eq_true, Bool.and_eq_false_iff, Bool.or_eq_false_iff, Bool.false_or, Bool.true_and, Bool.or_false, Bool.and_true, Bool.not_true, Bool.not_false, true_and, and_true, or_false, false_or, Bool.false_eq_true, Bool.true_eq_false, not_and, Bool.not_not] at c)
    · tb_start
      refine Al.zs (xs := acc ++ [.ref u]) (ds := (del (ps.take (i + 1)) n).map pd) (by rw [del_step hq, if_neg c, List.map_append]; exact .app (.tk (by tb_rel)) (.cons (.tk (by tb_rel)) .nil)) ?_
      exact e_lcA (by tb_rel) (by rw [sizeLine_eq]; omega) ⟨⟨by rw [List.length_append]; exact Nat.succ_le_succ ha, trivial⟩, rfl⟩ (by tb_rel)
    · tb_start
      refine Al.zs (xs := acc) (ds := (del (ps.take (i + 1)) n).map pd) (by rw [del_step hq, if_pos c]; exact .tk (by tb_rel)) ?_
      exact e_lcN (by tb_rel) ⟨⟨by omega, trivial⟩, rfl⟩ (by tb_rel)
  · obtain ⟨⟨ha, _⟩, eM⟩ := hI
    subst eM
    rw [hl2, List.take_length]
    tb_start
    refine LsA.fold (K := K) (ds := (del ps n).map pd) (by tb_rel) (.tk (by tb_rel)) ?_
    exact e_end (by tb_rel) (ke (D))
def S_withpart (K : PySem.W.Frag) : Tri where
  G := Addr × (List V) × Nat × V × Unit
  O := Addr × Unit
  args := fun (p, xs, k, x, _) => [.ref p, .int k, x]
  cond := fun (p, xs, k, x, _) => (k < xs.length) ∧ (xs.length ≤ 100) ∧ True
  pre := fun (p, xs, k, x, _) => [FzT K p xs]
  ok := fun (p, xs, k, x, _) (r, _) => True
  res := fun (p, xs, k, x, _) (r, _) => .ref r
  post := fun (p, xs, k, x, _) (r, _) => [FzT K r (xs.set k x)]
theorem use_withpart {K : PySem.W.Frag} {L R : List Asn} {Q : VK} {E : XK} {p : Addr} {xs : List V} {k : Nat} {x : V} (sTk : Tks L [FzT K p xs] R) (hk : k < xs.length) (hl : xs.length ≤ 100) (kk : ∀ (r : Addr), Al (FzT K r (xs.set k x) :: R) (Q (.ref r))) : Al L (xP (S_withpart K).sp [.ref p, .int k, x] Q E) :=
  Tri.useT (S_withpart K) (p, xs, k, x, ()) rfl ⟨hk, hl, trivial⟩ sTk (fun ⟨r, _⟩ _ => kk r)
abbrev N_with_part : List Str := ["parts", "at", "part"]
theorem sc_with_part : FnScope N_with_part ["parts", "at", "part"] (defScope s_with_part) := ⟨rfl, rfl, rfl, by decide +kernel, rfl, by decide +kernel, by decide +kernel⟩
theorem ok_with_part (T : Fx K mg) (B : Bx K mg base) : FnG P w K mg base 1 (He.fAd K ("with_part", none)) ["parts", "at", "part"] (S_withpart K).sp := by
  refine Tri.fnC (N := N_with_part) (k := 0) (S_withpart K) T.d_with_part sc_with_part (fun g => rfl) (fun _ _ _ _ _ _ us hl => match us, hl with | [_, _, _], _ => rfl) fun cdv A outer s H E Q g R hcd hr hc ke kx => ⟨_, PSs.nox ((pss_one (ps_ret (pe_op (q_add (K := K) rfl) (pe_op (q_add (K := K) rfl) (pe_slice (q_sl (K := K) rfl) (pv 0) po_none (po_some (pv 1))) (pe_tup (pa_cons (pv 2) pa_nil))) (pe_slice (q_sl (K := K) rfl) (pv 0) (po_some (pe_op (q_add (K := K) rfl) (pv 1) pe_int)) po_none))))), ?_⟩
  obtain ⟨p, xs, k, x, _⟩ := g
  obtain ⟨hk, hl, _⟩ := hc
  replace ke : ∀ (r : Addr), Al [FzT K r (xs.set k x), R] (Q (.ref r)) := fun r => ke (r, ()) trivial
  try dsimp only [cxOf]
  refine e_start (L := [FzT K p xs, R]) (nx := fun _ H' => Q .non H') (rt := Q) (bk := fun _ _ => False) (ct := fun _ _ => False) [some (.ref p), some (.int k), some (x)] rfl ?_
  tb_start
  refine e_slT (.tkf (by tb_rel)) fun c1 => ?_
  tb_start
  refine e_add_TT (.tkf (by tb_rel)) (.tk (by tb_rel)) (by rw [sizeLine_eq]; have := cutV_le (xs := xs) (lo := none) (hi := some (k : Int)); simp only [List.length_cons, List.length_nil]; omega) fun c2 => ?_
  tb_start
  refine e_slT (.tkf (by tb_rel)) fun c3 => ?_
  tb_start
  refine e_add_TT (.tkf (by tb_rel)) (.tkf (by tb_rel)) (by rw [sizeLine_eq]; have := cutV_le (xs := xs) (lo := none) (hi := some (k : Int)); have := cutV_le (xs := xs) (lo := some ((k : Int) + 1)) (hi := none); simp only [List.length_append, List.length_cons, List.length_nil]; omega) fun c4 => ?_
  rw [set_cut hk]
  exact e_end (by tb_rel) (ke (c4))
end

section
variable {P : Program} {w : World} {K : PySem.W.Frag} {mg : Str → Option Value} {base : Heap}
local macro_rules | `(tactic| kpt_turns) => `(tactic| ((with_reducible apply use_cell); tb_rel))
local macro_rules | `(tactic| kpt_turns) => `(tactic| ((with_reducible apply use_mark); tb_rel; (k_all); (k_all)))
local macro_rules | `(tactic| kpt_turns) => `(tactic| ((with_reducible apply use_digit); tb_rel; (k_all)))
local macro_rules | `(tactic| kpt_turns) => `(tactic| ((with_reducible apply use_isleaf); tb_rel))
local macro_rules | `(tactic| kpt_turns) => `(tactic| ((with_reducible apply use_isfork); tb_rel))
local macro_rules | `(tactic| kpt_turns) => `(tactic| ((with_reducible apply use_ninit); tb_rel))
local macro_rules | `(tactic| kpt_turns) => `(tactic| ((with_reducible apply use_nmany); tb_rel))
local macro_rules | `(tactic| kpt_turns) => `(tactic| ((with_reducible apply use_nmake); tb_rel; (k_all)))
local macro_rules | `(tactic| kpt_turns) => `(tactic| ((with_reducible apply use_nleaf); tb_rel; (k_all)))
local macro_rules | `(tactic| kpt_turns) => `(tactic| ((with_reducible apply use_nfork); tb_rel; (k_all)))
local macro_rules | `(tactic| kpt_turns) => `(tactic| ((with_reducible apply use_valuein); tb_rel))
/-! ### stores -/
def S_alike (K : PySem.W.Frag) : Tri where
  G := V × V × Unit
  O := Unit
  args := fun (x, y, _) => [x, y]
  cond := fun (x, y, _) => (Scl x) ∧ (Scl y) ∧ True
  pre := fun (x, y, _) => []
  ok := fun (x, y, _) _ => True
  res := fun (x, y, _) _ => .bl (decide (x = y))
  post := fun (x, y, _) _ => []
theorem use_alike {K : PySem.W.Frag} {L R : List Asn} {Q : VK} {E : XK} {x : V} {y : V} (sTk : Tks L [] R) (hx : Scl x) (hy : Scl y) (kk : Al R (Q (.bl (decide (x = y))))) : Al L (xP (S_alike K).sp [x, y] Q E) :=
  Tri.useT (S_alike K) (x, y, ()) rfl ⟨hx, hy, trivial⟩ sTk (fun _ _ => kk )
local macro_rules | `(tactic| kpt_turns) => `(tactic| ((with_reducible apply use_alike); tb_rel; (k_all); (k_all)))
abbrev N_alike : List Str := ["one", "other"]
theorem sc_alike : FnScope N_alike ["one", "other"] (defScope s_alike) := ⟨rfl, rfl, rfl, by decide +kernel, rfl, by decide +kernel, by decide +kernel⟩
theorem ok_alike (T : Fx K mg) (B : Bx K mg base) : FnG P w K mg base 1 (He.fAd K ("alike", none)) ["one", "other"] (S_alike K).sp := by
  refine Tri.fnC (N := N_alike) (k := 0) (S_alike K) T.d_alike sc_alike (fun g => rfl) (fun _ _ _ _ _ _ us hl => match us, hl with | [_, _], _ => rfl) fun cdv A outer s H E Q g R hcd hr hc ke kx => ⟨_, PSs.nox ((pss_cons (ps_if (PW.pt (pw_or (pt_cmpR o_is (pv 0) pe_non (nomark _)) (pw_or1 (pt_cmpR o_is (pv 1) pe_non (nomark _))))) (pss_one (ps_ret (pe_and (pe_cmpR o_is (pv 0) pe_non (nomark _)) (pe_one (pe_cmpR o_is (pv 1) pe_non (nomark _)))))) pss_nil)
    (pss_one (ps_ret (pe_and (pe_cmpR (q_eq (K := K) rfl hr.u64) (pe_callB (q_isi (K := K) rfl) (by rfl) T.b_isinstance (by decide +kernel) (pa_cons (pv 0) (pa_cons (q_ty (T := "str") (by rfl) T.b_str (by decide +kernel)) pa_nil))) (pe_callB (q_isi (K := K) rfl) (by rfl) T.b_isinstance (by decide +kernel) (pa_cons (pv 1) (pa_cons (q_ty (T := "str") (by rfl) T.b_str (by decide +kernel)) pa_nil))) (nomark _)) (pe_one (pe_cmpR (q_eq (K := K) rfl hr.u64) (pv 0) (pv 1) (nomark _)))))))), ?_⟩
  obtain ⟨x, y, _⟩ := g
  obtain ⟨hx, hy, _⟩ := hc
  replace ke : Al [R] (Q (.bl (decide (x = y)))) := ke () trivial
  try dsimp only [cxOf]
  refine e_start (L := [R]) (nx := fun _ H' => Q .non H') (rt := Q) (bk := fun _ _ => False) (ct := fun _ _ => False) [some (x), some (y)] rfl ?_
  have ke' : ∀ b, b = decide (x = y) → Al [R] (Q (.bl b)) := fun b e => e ▸ ke
  rcases hx with rfl | ⟨i, rfl⟩ | ⟨z, rfl⟩ <;> rcases hy with rfl | ⟨i', rfl⟩ | ⟨z', rfl⟩ <;> (tb_start; first | exact e_end (by tb_rel) (ke' _ (by first | rfl | exact dec_int.symm | exact dec_str.symm | simp)) | (refine e_if ?_ ?_ <;> intro c <;> first | (exact absurd c (by decide)) | (tb_start; exact e_end (by tb_rel) (ke' _ (by first | rfl | exact dec_int.symm | exact dec_str.symm | simp)))))
def S_sinit (K : PySem.W.Frag) : Tri where
  G := Addr × Unit
  O := Unit
  args := fun (x, _) => [.ref x]
  cond := fun (x, _) => True
  pre := fun (x, _) => [Ob x (He.ga K "Store") []]
  ok := fun (x, _) _ => True
  res := fun (x, _) _ => .non
  post := fun (x, _) _ => [StoreA K x [.bare] [0]]
theorem use_sinit {K : PySem.W.Frag} {L R : List Asn} {Q : VK} {E : XK} {x : Addr} (sTk : Tks L [Ob x (He.ga K "Store") []] R)  (kk : Al (StoreA K x [.bare] [0] :: R) (Q (.non))) : Al L (xP (S_sinit K).sp [.ref x] Q E) :=
  Tri.useT (S_sinit K) (x, ()) rfl trivial sTk (fun _ _ => kk )
local macro_rules | `(tactic| kpt_turns) => `(tactic| ((with_reducible apply use_sinit); tb_rel))
abbrev N_Store__init_ : List Str := ["self"]
theorem sc_Store__init_ : FnScope N_Store__init_ ["self"] (defScope s_Store__init_) := ⟨rfl, rfl, rfl, by decide +kernel, rfl, by decide +kernel, by decide +kernel⟩
theorem ok_Store__init_ (T : Fx K mg) (B : Bx K mg base) : FnG P w K mg base 3 (He.fAd K ("Store", some "__init__")) ["self"] (S_sinit K).sp := by
  refine Tri.fnC (N := N_Store__init_) (k := 2) (S_sinit K) T.d_Store__init_ sc_Store__init_ (fun g => rfl) (fun _ _ _ _ _ _ us hl => match us, hl with | [_], _ => rfl) fun cdv A outer s H E Q g R hcd hr hc ke kx => ⟨_, PSs.nox ((pss_cons (ps_fld (pv 0) (ge_make0 T.m_Nodes (ok_Nodes__init_ T B) hr.mono rfl T.g_Nodes px0) rfl)
    (pss_one (ps_fld (pv 0) (pe_disp (pps_cons (ge_int rfl T.i_BARE) pe_bl pps_nil) (by rfl) (by rfl) (fun z => by cases z) (by decide)) rfl)))), ?_⟩
  obtain ⟨x, _⟩ := g
  replace ke : Al [StoreA K x [.bare] [0], R] (Q (.non)) := ke () trivial
  try dsimp only [cxOf]
  refine e_start (L := [Ob x (He.ga K "Store") [], R]) (nx := fun _ H' => Q .non H') (rt := Q) (bk := fun _ _ => False) (ct := fun _ _ => False) [some (.ref x)] rfl ?_
  tb_start
  refine e_dispE [(.inl (0 : Int), .bl true)] (by tb_rel) rfl (by decide) ?_
  rw [told_zero]
  tb_start
  refine StoreA.fold (by tb_rel) ?_
  exact e_end (by tb_rel) (ke)
def S_look (K : PySem.W.Frag) : Tri where
  G := Addr × Addr × Addr × (List Nd) × (List Nat) × Nat × Unit
  O := Unit
  args := fun (s, nn, dd, ns, td, i, _) => [.ref s, .int i]
  cond := fun (s, nn, dd, ns, td, i, _) => (i ∈ td) ∧ True
  pre := fun (s, nn, dd, ns, td, i, _) => [Ob s (He.ga K "Store") [("nodes", .ref nn), ("told", .ref dd)], NodesA K nn (ns), pt dd (.dK (toldK (td)))]
  ok := fun (s, nn, dd, ns, td, i, _) _ => True
  res := fun (s, nn, dd, ns, td, i, _) _ => .non
  post := fun (s, nn, dd, ns, td, i, _) _ => [Ob s (He.ga K "Store") [("nodes", .ref nn), ("told", .ref dd)], NodesA K nn (ns), pt dd (.dK (toldK (td)))]
theorem use_look {K : PySem.W.Frag} {L R : List Asn} {Q : VK} {E : XK} {s : Addr} {nn : Addr} {dd : Addr} {ns : List Nd} {td : List Nat} {i : Nat} (sTk : Tks L [Ob s (He.ga K "Store") [("nodes", .ref nn), ("told", .ref dd)], NodesA K nn (ns), pt dd (.dK (toldK (td)))] R) (h : i ∈ td) (kk : Al (Ob s (He.ga K "Store") [("nodes", .ref nn), ("told", .ref dd)] :: NodesA K nn (ns) :: pt dd (.dK (toldK (td))) :: R) (Q (.non))) : Al L (xP (S_look K).sp [.ref s, .int i] Q E) :=
  Tri.useT (S_look K) (s, nn, dd, ns, td, i, ()) rfl ⟨h, trivial⟩ sTk (fun _ _ => kk )
local macro_rules | `(tactic| kpt_turns) => `(tactic| ((with_reducible apply use_look); tb_rel; (k_all)))
abbrev N_Store_look_table : List Str := ["self", "table"]
theorem sc_Store_look_table : FnScope N_Store_look_table ["self", "table"] (defScope s_Store_look_table) := ⟨rfl, rfl, rfl, by decide +kernel, rfl, by decide +kernel, by decide +kernel⟩
theorem ok_Store_look_table (T : Fx K mg) (B : Bx K mg base) : FnG P w K mg base 3 (He.fAd K ("Store", some "look_table")) ["self", "table"] (S_look K).sp := by
  refine Tri.fnC (N := N_Store_look_table) (k := 2) (S_look K) T.d_Store_look_table sc_Store_look_table (fun g => rfl) (fun _ _ _ _ _ _ us hl => match us, hl with | [_, _], _ => rfl) fun cdv A outer s H E Q g R hcd hr hc ke kx => ⟨_, PSs.nox ((pss_one (ps_if (pt_cmpR (q_notin (K := K) rfl hr.u65) (pv 1) (q_fld (K := K) rfl (pv 0) rfl) (by rfl)) (pss_one AL.ps_never) pss_nil))), ?_⟩
  obtain ⟨s, nn, dd, ns, td, i, _⟩ := g
  obtain ⟨h, _⟩ := hc
  replace ke : Al [Ob s (He.ga K "Store") [("nodes", .ref nn), ("told", .ref dd)], NodesA K nn (ns), pt dd (.dK (toldK (td))), R] (Q (.non)) := ke () trivial
  try dsimp only [cxOf]
  refine e_start (L := [Ob s (He.ga K "Store") [("nodes", .ref nn), ("told", .ref dd)], NodesA K nn (ns), pt dd (.dK (toldK (td))), R]) (nx := fun _ H' => Q .non H') (rt := Q) (bk := fun _ _ => False) (ct := fun _ _ => False) [some (.ref s), some (.int i)] rfl ?_
  tb_start
  refine e_notinD (κ := .inl (i : Int)) (by tb_rel) rfl ?_
  rw [told_in h]
  tb_start
  exact e_end (by tb_rel) (ke)
def S_tell (K : PySem.W.Frag) : Tri where
  G := Addr × Addr × Addr × (List Nd) × (List Nat) × Nat × Unit
  O := Unit
  args := fun (s, nn, dd, ns, td, i, _) => [.ref s, .int i]
  cond := fun (s, nn, dd, ns, td, i, _) => (td.length ≤ 1000000) ∧ True
  pre := fun (s, nn, dd, ns, td, i, _) => [Ob s (He.ga K "Store") [("nodes", .ref nn), ("told", .ref dd)], NodesA K nn (ns), pt dd (.dK (toldK (td)))]
  ok := fun (s, nn, dd, ns, td, i, _) _ => True
  res := fun (s, nn, dd, ns, td, i, _) _ => .int i
  post := fun (s, nn, dd, ns, td, i, _) _ => [Ob s (He.ga K "Store") [("nodes", .ref nn), ("told", .ref dd)], NodesA K nn (ns), pt dd (.dK (toldK (AL.tell td i)))]
theorem use_tell {K : PySem.W.Frag} {L R : List Asn} {Q : VK} {E : XK} {s : Addr} {nn : Addr} {dd : Addr} {ns : List Nd} {td : List Nat} {i : Nat} (sTk : Tks L [Ob s (He.ga K "Store") [("nodes", .ref nn), ("told", .ref dd)], NodesA K nn (ns), pt dd (.dK (toldK (td)))] R) (h : td.length ≤ 1000000) (kk : Al (Ob s (He.ga K "Store") [("nodes", .ref nn), ("told", .ref dd)] :: NodesA K nn (ns) :: pt dd (.dK (toldK (AL.tell td i))) :: R) (Q (.int i))) : Al L (xP (S_tell K).sp [.ref s, .int i] Q E) :=
  Tri.useT (S_tell K) (s, nn, dd, ns, td, i, ()) rfl ⟨h, trivial⟩ sTk (fun _ _ => kk )
local macro_rules | `(tactic| kpt_turns) => `(tactic| ((with_reducible apply use_tell); tb_rel; (k_all)))
abbrev N_Store_tell : List Str := ["self", "number"]
theorem sc_Store_tell : FnScope N_Store_tell ["self", "number"] (defScope s_Store_tell) := ⟨rfl, rfl, rfl, by decide +kernel, rfl, by decide +kernel, by decide +kernel⟩
theorem ok_Store_tell (T : Fx K mg) (B : Bx K mg base) : FnG P w K mg base 1 (He.fAd K ("Store", some "tell")) ["self", "number"] (S_tell K).sp := by
  refine Tri.fnC (N := N_Store_tell) (k := 0) (S_tell K) T.d_Store_tell sc_Store_tell (fun g => rfl) (fun _ _ _ _ _ _ us hl => match us, hl with | [_, _], _ => rfl) fun cdv A outer s H E Q g R hcd hr hc ke kx => ⟨_, PSs.nox ((pss_cons (ps_asg pe_bl (pg_sub (q_fld (K := K) rfl (pv 0) rfl) (pv 1) (o_set hr.u1)))
    (pss_one (ps_ret (pv 1))))), ?_⟩
  obtain ⟨s, nn, dd, ns, td, i, _⟩ := g
  obtain ⟨h, _⟩ := hc
  replace ke : Al [Ob s (He.ga K "Store") [("nodes", .ref nn), ("told", .ref dd)], NodesA K nn (ns), pt dd (.dK (toldK (AL.tell td i))), R] (Q (.int i)) := ke () trivial
  try dsimp only [cxOf]
  refine e_start (L := [Ob s (He.ga K "Store") [("nodes", .ref nn), ("told", .ref dd)], NodesA K nn (ns), pt dd (.dK (toldK (td))), R]) (nx := fun _ H' => Q .non H') (rt := Q) (bk := fun _ _ => False) (ct := fun _ _ => False) [some (.ref s), some (.int i)] rfl ?_
  tb_start
  refine e_setD (κ := .inl (i : Int)) (by tb_rel) rfl (by unfold toldK; rw [List.length_map, sizeLine_eq]; omega) ?_
  rw [told_put]
  tb_start
  exact e_end (by tb_rel) (ke)
def S_empty (K : PySem.W.Frag) : Tri where
  G := Addr × Unit
  O := Unit
  args := fun (s, _) => [.ref s]
  cond := fun (s, _) => True
  pre := fun (s, _) => []
  ok := fun (s, _) _ => True
  res := fun (s, _) _ => .int 0
  post := fun (s, _) _ => []
theorem use_empty {K : PySem.W.Frag} {L R : List Asn} {Q : VK} {E : XK} {s : Addr} (sTk : Tks L [] R)  (kk : Al R (Q (.int 0))) : Al L (xP (S_empty K).sp [.ref s] Q E) :=
  Tri.useT (S_empty K) (s, ()) rfl trivial sTk (fun _ _ => kk )
local macro_rules | `(tactic| kpt_turns) => `(tactic| ((with_reducible apply use_empty); tb_rel))
abbrev N_Store_empty : List Str := ["self"]
theorem sc_Store_empty : FnScope N_Store_empty ["self"] (defScope s_Store_empty) := ⟨rfl, rfl, rfl, by decide +kernel, rfl, by decide +kernel, by decide +kernel⟩
theorem ok_Store_empty (T : Fx K mg) (B : Bx K mg base) : FnG P w K mg base 1 (He.fAd K ("Store", some "empty")) ["self"] (S_empty K).sp := by
  refine Tri.fnC (N := N_Store_empty) (k := 0) (S_empty K) T.d_Store_empty sc_Store_empty (fun g => rfl) (fun _ _ _ _ _ _ us hl => match us, hl with | [_], _ => rfl) fun cdv A outer s H E Q g R hcd hr hc ke kx => ⟨_, PSs.nox ((pss_one (ps_ret (ge_int rfl T.i_BARE)))), ?_⟩
  obtain ⟨s, _⟩ := g
  replace ke : Al [R] (Q (.int 0)) := ke () trivial
  try dsimp only [cxOf]
  refine e_start (L := [R]) (nx := fun _ H' => Q .non H') (rt := Q) (bk := fun _ _ => False) (ct := fun _ _ => False) [some (.ref s)] rfl ?_
  tb_start
  exact e_end (by tb_rel) (ke)
def S_wayfrom (K : PySem.W.Frag) : Tri where
  G := Addr × Addr × Addr × (List Nd) × (List Nat) × Nat × Int × Nat × (List Nat) × Unit
  O := Addr × Unit
  args := fun (s, nn, dd, ns, td, i, own, l, w, _) => [.ref s, .int i, .int own, .int l]
  cond := fun (s, nn, dd, ns, td, i, own, l, w, _) => (Wy ns own l i w) ∧ (l + w.length ≤ 100) ∧ True
  pre := fun (s, nn, dd, ns, td, i, own, l, w, _) => [Ob s (He.ga K "Store") [("nodes", .ref nn), ("told", .ref dd)], NodesA K nn (ns), pt dd (.dK (toldK (td)))]
  ok := fun (s, nn, dd, ns, td, i, own, l, w, _) (p, _) => True
  res := fun (s, nn, dd, ns, td, i, own, l, w, _) (p, _) => .ref p
  post := fun (s, nn, dd, ns, td, i, own, l, w, _) (p, _) => [pt p (.lst (w.map fun j : Nat => V.int j)), Ob s (He.ga K "Store") [("nodes", .ref nn), ("told", .ref dd)], NodesA K nn (ns), pt dd (.dK (toldK (td)))]
theorem use_wayfrom {K : PySem.W.Frag} {L R : List Asn} {Q : VK} {E : XK} {s : Addr} {nn : Addr} {dd : Addr} {ns : List Nd} {td : List Nat} {i : Nat} {own : Int} {l : Nat} {w : List Nat} (sTk : Tks L [Ob s (He.ga K "Store") [("nodes", .ref nn), ("told", .ref dd)], NodesA K nn (ns), pt dd (.dK (toldK (td)))] R) (hw : Wy ns own l i w) (hl : l + w.length ≤ 100) (kk : ∀ (p : Addr), Al (pt p (.lst (w.map fun j : Nat => V.int j)) :: Ob s (He.ga K "Store") [("nodes", .ref nn), ("told", .ref dd)] :: NodesA K nn (ns) :: pt dd (.dK (toldK (td))) :: R) (Q (.ref p))) : Al L (xP (S_wayfrom K).sp [.ref s, .int i, .int own, .int l] Q E) :=
  Tri.useT (S_wayfrom K) (s, nn, dd, ns, td, i, own, l, w, ()) rfl ⟨hw, hl, trivial⟩ sTk (fun ⟨p, _⟩ _ => kk p)
abbrev N_Store_way_from : List Str := ["self", "number", "own", "level", "found"]
theorem sc_Store_way_from : FnScope N_Store_way_from ["self", "number", "own", "level"] (defScope s_Store_way_from) := ⟨rfl, rfl, rfl, by decide +kernel, rfl, by decide +kernel, by decide +kernel⟩
theorem ok_Store_way_from (T : Fx K mg) (B : Bx K mg base) : FnG P w K mg base 2 (He.fAd K ("Store", some "way_from")) ["self", "number", "own", "level"] (S_wayfrom K).sp := by
  refine Tri.fnC (N := N_Store_way_from) (k := 1) (S_wayfrom K) T.d_Store_way_from sc_Store_way_from (fun g => rfl) (fun _ _ _ _ _ _ us hl => match us, hl with | [_, _, _, _], _ => rfl) fun cdv A outer s H E Q g R hcd hr hc ke kx => ⟨_, PSs.nox ((pss_cons (ps_set (i := 4) sc_Store_way_from.nd rfl (.inl rfl) (pe_lst (pa_cons (pv 1) pa_nil)))
    (pss_cons (ps_while PassesOwn.never (pt_val (ge_call (ok_is_fork T B) hr.mono rfl T.g_is_fork px0 (pa_cons (ge_meth (q_fld (K := K) rfl (pv 0) rfl) T.c_Nodes T.t_Nodes_at (ok_Nodes_at T B) hr.mono px0 (pa_cons (pe_ix (q_ix (K := K) rfl hr.u1) (pv 4) (pe_un un_neg pe_int) (fun _ _ => rfl)) pa_nil)) pa_nil))) (pss_cons (ps_expr (q_bm (K := K) rfl PySem.F.plainAttrs_list PySem.F.slot_list_append PySem.F.type_list_append mt_append (pv 4) (pa_cons (pe_ix (q_ix (K := K) rfl hr.u1) (pe_ix (q_ix (K := K) rfl hr.u1) (ge_meth (q_fld (K := K) rfl (pv 0) rfl) T.c_Nodes T.t_Nodes_at (ok_Nodes_at T B) hr.mono px0 (pa_cons (pe_ix (q_ix (K := K) rfl hr.u1) (pv 4) (pe_un un_neg pe_int) (fun _ _ => rfl)) pa_nil)) pe_int (fun _ _ => rfl)) (ge_call (ok_digit T B) hr.mono rfl T.g_digit px0 (pa_cons (pv 2) (pa_cons (pv 3) pa_nil))) (fun _ _ => rfl)) pa_nil)))
    (pss_one (ps_aug (i := 3) sc_Store_way_from.nd rfl (.inl rfl) pe_int p_add))))
    (pss_one (ps_ret (pv 4)))))), ?_⟩
  obtain ⟨s, nn, dd, ns, td, i, own, l, w, _⟩ := g
  obtain ⟨hw, hl, _⟩ := hc
  replace ke : ∀ (p : Addr), Al [pt p (.lst (w.map fun j : Nat => V.int j)), Ob s (He.ga K "Store") [("nodes", .ref nn), ("told", .ref dd)], NodesA K nn (ns), pt dd (.dK (toldK (td))), R] (Q (.ref p)) := fun p => ke (p, ()) trivial
  try dsimp only [cxOf]
  refine e_start (L := [Ob s (He.ga K "Store") [("nodes", .ref nn), ("told", .ref dd)], NodesA K nn (ns), pt dd (.dK (toldK (td))), R]) (nx := fun _ H' => Q .non H') (rt := Q) (bk := fun _ _ => False) (ct := fun _ _ => False) [some (.ref s), some (.int i), some (.int own), some (.int l), none] rfl ?_
  tb_start
  change Al (pt p (.lst ((([] : List Nat).map fun j : Nat => V.int j) ++ [.int i])) :: _) _
  refine e_while (fun m σ M => ∃ (u : List Nat) (j l' : Nat) (w' : List Nat), ((Wy ns own l' j w') ∧ (u ++ w' = w) ∧ (w'.length = m) ∧ (l' + w'.length ≤ 100) ∧ True) ∧ σ = [some (.ref s), some (.int i), some (.int own), some (.int l'), some (.ref p)] ∧ M = [pt p (.lst ((u.map fun j : Nat => V.int j) ++ [.int j])), Ob s (He.ga K "Store") [("nodes", .ref nn), ("told", .ref dd)], NodesA K nn (ns), pt dd (.dK (toldK (td))), R]) ⟨_, _, ⟨[], i, l, w, ⟨(hw), (rfl), (rfl), (hl), trivial⟩, rfl, rfl⟩, .ofT (by tb_rel)⟩ ?_
  rintro m σ M ⟨u, j, l', w', ⟨hw', hu, hm, hl', _⟩, rfl, rfl⟩
  tb_start
  refine e_xL (by top_args) atI_last ?_
  cases hw' with
  | stop h1 h2 =>
    rename_i x
    refine use_nat (x := x) (by tb_rel) (by k_all) fun v => ?_
    tb_start
    have e : isForkN x = false := by cases x <;> first | rfl | exact absurd rfl (h2 _ _ _ _)
    try rw [e]
    refine e_wh ?_ ?_ <;> intro c <;> (try simp only [decide_eq_true_eq, decide_eq_false_iff_not, Bool.not_eq_true', Bool.not_eq_false', Bool.and_eq_true, Bool.or_eq_true, Bool.and_eq_false_iff, Bool.or_eq_false_iff, Bool.false_or, Bool.true_and, Bool.or_false, Bool.and_true, Bool.not_true, Bool.not_false, true_and, and_true, or_false, false_or, Bool.false_eq_true, Bool.true_eq_false, not_and, Bool.not_not] at c)
    tb_start
    have e2 : (u.map fun j : Nat => V.int j) ++ [.int j] = w.map fun j : Nat => V.int j := by rw [← hu, List.map_append]; rfl
    rw [e2]
    exact e_end (by tb_rel) (ke (p))
  | step h1 h2 =>
    rename_i a b c d' w2
    refine use_nat (x := .fork a b c d') (by tb_rel) (by k_all) fun v => ?_
    tb_start
    refine e_wh ?_ ?_ <;> intro c1 <;> (try simp only [decide_eq_true_eq, decide_eq_false_iff_not, Bool.not_eq_true', Bool.not_eq_false', Bool.and_eq_true, Bool.or_eq_true, Bool.and_eq_false_iff, Bool.or_eq_false_iff, Bool.false_or, Bool.true_and, Bool.or_false, Bool.and_true, Bool.not_true, Bool.not_false, true_and, and_true, or_false, false_or, Bool.false_eq_true, Bool.true_eq_false, not_and, Bool.not_not] at c1)
    tb_start
    refine e_xL (by top_args) atI_last ?_
    refine use_nat (x := .fork a b c d') (by tb_rel) (by k_all) fun v2 => ?_
    refine Al.tk (A := Fz K v2 (Nd.fork a b c d').dat) (by tb_rel) ?_
    refine Fz.openFork fun t q e => ?_
    subst e
    tb_start
    have hul : u.length ≤ 100 := by have := congrArg List.length hu; rw [List.length_append] at this; omega
    refine e_xT (by top_args) at_part ?_
    tb_start
    have em : (u.map fun j : Nat => V.int j) ++ [V.int j] = ((u ++ [j]).map fun j : Nat => V.int j) := by rw [List.map_append]; rfl
    rw [em]
    have hm : (w2.length + 1 = m) := by rw [← hm]; rfl
    exact e_whnx (m' := w2.length) (by k_all) ⟨u ++ [j], _, l' + 1, w2, ⟨(h2), ((by rw [← hu]; simp)), (by k_all), (by k_all), trivial⟩, rfl, rfl⟩ (by tb_rel)
def S_way (K : PySem.W.Frag) : Tri where
  G := Addr × Addr × Addr × (List Nd) × (List Nat) × Nat × Str × Prs × Unit
  O := Addr × Unit
  args := fun (s, nn, dd, ns, td, i, n, ps, _) => [.ref s, .int i, .str n]
  cond := fun (s, nn, dd, ns, td, i, n, ps, _) => (Tbl ns td i ps) ∧ (Nm8 n) ∧ True
  pre := fun (s, nn, dd, ns, td, i, n, ps, _) => [Ob s (He.ga K "Store") [("nodes", .ref nn), ("told", .ref dd)], NodesA K nn (ns), pt dd (.dK (toldK (td)))]
  ok := fun (s, nn, dd, ns, td, i, n, ps, _) (p, _) => True
  res := fun (s, nn, dd, ns, td, i, n, ps, _) (p, _) => .ref p
  post := fun (s, nn, dd, ns, td, i, n, ps, _) (p, _) => [pt p (.lst ((wayN 5 ns i (mkS n) 0).map fun j : Nat => V.int j)), Ob s (He.ga K "Store") [("nodes", .ref nn), ("told", .ref dd)], NodesA K nn (ns), pt dd (.dK (toldK (td)))]
theorem use_way {K : PySem.W.Frag} {L R : List Asn} {Q : VK} {E : XK} {s : Addr} {nn : Addr} {dd : Addr} {ns : List Nd} {td : List Nat} {i : Nat} {n : Str} {ps : Prs} (sTk : Tks L [Ob s (He.ga K "Store") [("nodes", .ref nn), ("told", .ref dd)], NodesA K nn (ns), pt dd (.dK (toldK (td)))] R) (ht : Tbl ns td i ps) (hn : Nm8 n) (kk : ∀ (p : Addr), Al (pt p (.lst ((wayN 5 ns i (mkS n) 0).map fun j : Nat => V.int j)) :: Ob s (He.ga K "Store") [("nodes", .ref nn), ("told", .ref dd)] :: NodesA K nn (ns) :: pt dd (.dK (toldK (td))) :: R) (Q (.ref p))) : Al L (xP (S_way K).sp [.ref s, .int i, .str n] Q E) :=
  Tri.useT (S_way K) (s, nn, dd, ns, td, i, n, ps, ()) rfl ⟨ht, hn, trivial⟩ sTk (fun ⟨p, _⟩ _ => kk p)
abbrev N_Store_way : List Str := ["self", "table", "name"]
theorem sc_Store_way : FnScope N_Store_way ["self", "table", "name"] (defScope s_Store_way) := ⟨rfl, rfl, rfl, by decide +kernel, rfl, by decide +kernel, by decide +kernel⟩
theorem ok_Store_way (T : Fx K mg) (B : Bx K mg base) : FnG P w K mg base 4 (He.fAd K ("Store", some "way")) ["self", "table", "name"] (S_way K).sp := by
  refine Tri.fnC (N := N_Store_way) (k := 3) (S_way K) T.d_Store_way sc_Store_way (fun g => rfl) (fun _ _ _ _ _ _ us hl => match us, hl with | [_, _, _], _ => rfl) fun cdv A outer s H E Q g R hcd hr hc ke kx => ⟨_, PSs.nox ((pss_cons (ps_expr (ge_meth (pv 0) T.c_Store T.t_Store_look_table (ok_Store_look_table T B) hr.mono px0 (pa_cons (pv 1) pa_nil)))
    (pss_one (ps_ret (ge_meth (pv 0) T.c_Store T.t_Store_way_from (ok_Store_way_from T B) hr.mono px0 (pa_cons (pv 1) (pa_cons (ge_call (ok_mark T B) hr.mono rfl T.g_mark px0 (pa_cons (pv 2) pa_nil)) (pa_cons pe_int pa_nil)))))))), ?_⟩
  obtain ⟨s, nn, dd, ns, td, i, n, ps, _⟩ := g
  obtain ⟨ht, hn, _⟩ := hc
  replace ke : ∀ (p : Addr), Al [pt p (.lst ((wayN 5 ns i (mkS n) 0).map fun j : Nat => V.int j)), Ob s (He.ga K "Store") [("nodes", .ref nn), ("told", .ref dd)], NodesA K nn (ns), pt dd (.dK (toldK (td))), R] (Q (.ref p)) := fun p => ke (p, ()) trivial
  try dsimp only [cxOf]
  refine e_start (L := [Ob s (He.ga K "Store") [("nodes", .ref nn), ("told", .ref dd)], NodesA K nn (ns), pt dd (.dK (toldK (td))), R]) (nx := fun _ H' => Q .non H') (rt := Q) (bk := fun _ _ => False) (ct := fun _ _ => False) [some (.ref s), some (.int i), some (.str n)] rfl ?_
  have h1 := ht.t
  have h2 := hn.n
  have h3 := hn.b
  have hw := wy_way (mk := mkS) 5 0 ps ns i rfl (ht.mk_at (mkS n)) ht.r
  have hwl : (wayN 5 ns i (mkS n) 0).length ≤ 6 := by
    obtain ⟨w, k, e, _, _, _, h⟩ := way_ok (mk := mkS) 5 0 ps ns i rfl (ht.mk_at (mkS n)) ht.r
    rw [e, List.length_append]
    exact Nat.succ_le_succ h
  tb_start
  refine use_wayfrom (l := 0) (by tb_rel) hw (by omega) fun p => ?_
  exact e_end (by tb_rel) (ke (p))
def S_looked (K : PySem.W.Frag) : Tri where
  G := Addr × Addr × Addr × (List Nd) × (List Nat) × Nat × Str × Prs × Unit
  O := Unit
  args := fun (s, nn, dd, ns, td, i, n, ps, _) => [.ref s, .int i, .str n]
  cond := fun (s, nn, dd, ns, td, i, n, ps, _) => (Tbl ns td i ps) ∧ (Nm8 n) ∧ True
  pre := fun (s, nn, dd, ns, td, i, n, ps, _) => [Ob s (He.ga K "Store") [("nodes", .ref nn), ("told", .ref dd)], NodesA K nn (ns), pt dd (.dK (toldK (td)))]
  ok := fun (s, nn, dd, ns, td, i, n, ps, _) _ => True
  res := fun (s, nn, dd, ns, td, i, n, ps, _) _ => (fnd ps n).getD .non
  post := fun (s, nn, dd, ns, td, i, n, ps, _) _ => [Ob s (He.ga K "Store") [("nodes", .ref nn), ("told", .ref dd)], NodesA K nn (ns), pt dd (.dK (toldK (td)))]
theorem use_looked {K : PySem.W.Frag} {L R : List Asn} {Q : VK} {E : XK} {s : Addr} {nn : Addr} {dd : Addr} {ns : List Nd} {td : List Nat} {i : Nat} {n : Str} {ps : Prs} (sTk : Tks L [Ob s (He.ga K "Store") [("nodes", .ref nn), ("told", .ref dd)], NodesA K nn (ns), pt dd (.dK (toldK (td)))] R) (ht : Tbl ns td i ps) (hn : Nm8 n) (kk : Al (Ob s (He.ga K "Store") [("nodes", .ref nn), ("told", .ref dd)] :: NodesA K nn (ns) :: pt dd (.dK (toldK (td))) :: R) (Q ((fnd ps n).getD .non))) : Al L (xP (S_looked K).sp [.ref s, .int i, .str n] Q E) :=
  Tri.useT (S_looked K) (s, nn, dd, ns, td, i, n, ps, ()) rfl ⟨ht, hn, trivial⟩ sTk (fun _ _ => kk )
local macro_rules | `(tactic| kpt_turns) => `(tactic| ((with_reducible apply use_looked); tb_rel; (k_all); (k_all)))
abbrev N_Store_looked : List Str := ["self", "table", "name"]
theorem sc_Store_looked : FnScope N_Store_looked ["self", "table", "name"] (defScope s_Store_looked) := ⟨rfl, rfl, rfl, by decide +kernel, rfl, by decide +kernel, by decide +kernel⟩
theorem ok_Store_looked (T : Fx K mg) (B : Bx K mg base) : FnG P w K mg base 5 (He.fAd K ("Store", some "looked")) ["self", "table", "name"] (S_looked K).sp := by
  refine Tri.fnC (N := N_Store_looked) (k := 4) (S_looked K) T.d_Store_looked sc_Store_looked (fun g => rfl) (fun _ _ _ _ _ _ us hl => match us, hl with | [_, _, _], _ => rfl) fun cdv A outer s H E Q g R hcd hr hc ke kx => ⟨_, PSs.nox ((pss_one (ps_ret (ge_call (ok_value_in T B) hr.mono rfl T.g_value_in px0 (pa_cons (ge_meth (q_fld (K := K) rfl (pv 0) rfl) T.c_Nodes T.t_Nodes_at (ok_Nodes_at T B) hr.mono px0 (pa_cons (pe_ix (q_ix (K := K) rfl hr.u1) (ge_meth (pv 0) T.c_Store T.t_Store_way (ok_Store_way T B) hr.mono px0 (pa_cons (pv 1) (pa_cons (pv 2) pa_nil))) (pe_un un_neg pe_int) (fun _ _ => rfl)) pa_nil)) (pa_cons (pv 2) pa_nil)))))), ?_⟩
  obtain ⟨s, nn, dd, ns, td, i, n, ps, _⟩ := g
  obtain ⟨ht, hn, _⟩ := hc
  replace ke : Al [Ob s (He.ga K "Store") [("nodes", .ref nn), ("told", .ref dd)], NodesA K nn (ns), pt dd (.dK (toldK (td))), R] (Q ((fnd ps n).getD .non)) := ke () trivial
  try dsimp only [cxOf]
  refine e_start (L := [Ob s (He.ga K "Store") [("nodes", .ref nn), ("told", .ref dd)], NodesA K nn (ns), pt dd (.dK (toldK (td))), R]) (nx := fun _ H' => Q .non H') (rt := Q) (bk := fun _ _ => False) (ct := fun _ _ => False) [some (.ref s), some (.int i), some (.str n)] rfl ?_
  tb_start
  refine use_way (by tb_rel) (ht) (hn) fun p => ?_
  obtain ⟨w, k, ew, ev, _, ⟨x, ex, _⟩, _⟩ := way_ok (mk := mkS) (n := n) 5 0 ps ns i rfl (ht.mk_at (mkS n)) ht.r
  have em : ((wayN 5 ns i (mkS n) 0).map fun j : Nat => V.int j) = (w.map fun j : Nat => V.int j) ++ [V.int k] := by rw [ew, List.map_append]; rfl
  rw [em]
  tb_start
  refine e_xL (by top_args) atI_last ?_
  tb_start
  refine use_nat (x := x) (by tb_rel) (by k_all) fun v => ?_
  tb_start
  refine e_eqv (v' := (fnd ps n).getD .non) ?_ ?_
  · rw [← ex, ev]
    cases e : fnd ps n with
    | none => rfl
    | some u => exact nrm_scl (ht.v _ (fnd_some e))
  exact e_end (by tb_rel) (ke)
end

section
variable {P : Program} {w : World} {K : PySem.W.Frag} {mg : Str → Option Value} {base : Heap}
local macro_rules | `(tactic| kpt_turns) => `(tactic| ((with_reducible apply use_cell); tb_rel))
local macro_rules | `(tactic| kpt_turns) => `(tactic| ((with_reducible apply use_mark); tb_rel; (k_all); (k_all)))
local macro_rules | `(tactic| kpt_turns) => `(tactic| ((with_reducible apply use_digit); tb_rel; (k_all)))
local macro_rules | `(tactic| kpt_turns) => `(tactic| ((with_reducible apply use_isleaf); tb_rel))
local macro_rules | `(tactic| kpt_turns) => `(tactic| ((with_reducible apply use_isfork); tb_rel))
local macro_rules | `(tactic| kpt_turns) => `(tactic| ((with_reducible apply use_ninit); tb_rel))
local macro_rules | `(tactic| kpt_turns) => `(tactic| ((with_reducible apply use_nmany); tb_rel))
local macro_rules | `(tactic| kpt_turns) => `(tactic| ((with_reducible apply use_nmake); tb_rel; (k_all)))
local macro_rules | `(tactic| kpt_turns) => `(tactic| ((with_reducible apply use_nleaf); tb_rel; (k_all)))
local macro_rules | `(tactic| kpt_turns) => `(tactic| ((with_reducible apply use_nfork); tb_rel; (k_all)))
local macro_rules | `(tactic| kpt_turns) => `(tactic| ((with_reducible apply use_valuein); tb_rel))
local macro_rules | `(tactic| kpt_turns) => `(tactic| ((with_reducible apply use_alike); tb_rel; (k_all); (k_all)))
local macro_rules | `(tactic| kpt_turns) => `(tactic| ((with_reducible apply use_sinit); tb_rel))
local macro_rules | `(tactic| kpt_turns) => `(tactic| ((with_reducible apply use_look); tb_rel; (k_all)))
local macro_rules | `(tactic| kpt_turns) => `(tactic| ((with_reducible apply use_tell); tb_rel; (k_all)))
local macro_rules | `(tactic| kpt_turns) => `(tactic| ((with_reducible apply use_empty); tb_rel))
local macro_rules | `(tactic| kpt_turns) => `(tactic| ((with_reducible apply use_looked); tb_rel; (k_all); (k_all)))
/-! ### stores: puts -/
def S_parted (K : PySem.W.Frag) (j : Nat) : Tri where
  G := Addr × Addr × Addr × (List Nd) × (List Nat) × Nat × Int × Nat × Int × Nat × Unit
  O := Unit
  args := fun (s, nn, dd, ns, td, old, o, new, own, l, _) => [.ref s, .int old, .int o, .int new, .int own, .int l]
  cond := fun (s, nn, dd, ns, td, old, o, new, own, l, _) => (5 ≤ l + j) ∧ (l ≤ 5) ∧ (o ≠ own) ∧ (0 ≤ o ∧ o < 1024) ∧ (0 ≤ own ∧ own < 1024) ∧ (o % 4 ^ l = own % 4 ^ l) ∧ (ns.length + j ≤ 900000) ∧ True
  pre := fun (s, nn, dd, ns, td, old, o, new, own, l, _) => [Ob s (He.ga K "Store") [("nodes", .ref nn), ("told", .ref dd)], NodesA K nn (ns), pt dd (.dK (toldK (td)))]
  ok := fun (s, nn, dd, ns, td, old, o, new, own, l, _) _ => True
  res := fun (s, nn, dd, ns, td, old, o, new, own, l, _) _ => .int (prtN (5 - l) ns old o new own l).2
  post := fun (s, nn, dd, ns, td, old, o, new, own, l, _) _ => [Ob s (He.ga K "Store") [("nodes", .ref nn), ("told", .ref dd)], NodesA K nn ((prtN (5 - l) ns old o new own l).1), pt dd (.dK (toldK (td)))]
theorem use_parted {K : PySem.W.Frag} {j : Nat} {L R : List Asn} {Q : VK} {E : XK} {s : Addr} {nn : Addr} {dd : Addr} {ns : List Nd} {td : List Nat} {old : Nat} {o : Int} {new : Nat} {own : Int} {l : Nat} (sTk : Tks L [Ob s (He.ga K "Store") [("nodes", .ref nn), ("told", .ref dd)], NodesA K nn (ns), pt dd (.dK (toldK (td)))] R) (hl : 5 ≤ l + j) (hl5 : l ≤ 5) (hd : o ≠ own) (hb : 0 ≤ o ∧ o < 1024) (hb' : 0 ≤ own ∧ own < 1024) (hm : o % 4 ^ l = own % 4 ^ l) (hz : ns.length + j ≤ 900000) (kk : Al (Ob s (He.ga K "Store") [("nodes", .ref nn), ("told", .ref dd)] :: NodesA K nn ((prtN (5 - l) ns old o new own l).1) :: pt dd (.dK (toldK (td))) :: R) (Q (.int (prtN (5 - l) ns old o new own l).2))) : Al L (xP (S_parted K j).sp [.ref s, .int old, .int o, .int new, .int own, .int l] Q E) :=
  Tri.useT (S_parted K j) (s, nn, dd, ns, td, old, o, new, own, l, ()) rfl ⟨hl, hl5, hd, hb, hb', hm, hz, trivial⟩ sTk (fun _ _ => kk )
local macro_rules | `(tactic| kpt_turns) => `(tactic| ((with_reducible apply use_parted); tb_rel; (k_all); (k_all); (k_all); (k_all); (k_all); (k_all); (k_all)))
abbrev N_Store_parted : List Str := ["self", "old", "other", "new", "own", "level", "one", "two"]
theorem sc_Store_parted : FnScope N_Store_parted ["self", "old", "other", "new", "own", "level"] (defScope s_Store_parted) := ⟨rfl, rfl, rfl, by decide +kernel, rfl, by decide +kernel, by decide +kernel⟩
theorem ok_Store_parted (T : Fx K mg) (B : Bx K mg base) : ∀ j, FnG P w K mg base (3 + j) (He.fAd K ("Store", some "parted")) ["self", "old", "other", "new", "own", "level"] (S_parted K j).sp := by
  intro j; induction j with
  | zero =>
    refine Tri.fnC (N := N_Store_parted) (k := 2) (S_parted K 0) T.d_Store_parted sc_Store_parted (fun g => rfl) (fun _ _ _ _ _ _ us hl => match us, hl with | [_, _, _, _, _, _], _ => rfl) fun cdv A outer s H E Q g R hcd hr hc ke kx =>  False.elim ?_
    obtain ⟨s, nn, dd, ns, td, old, o, new, own, l, _⟩ := g
    obtain ⟨hl, hl5, hd, hb, hb', hm, hz, _⟩ := hc
    obtain rfl : l = 5 := by omega
    exact hd (low_all hb.1 hb.2 hb'.1 hb'.2 hm)
  | succ j ih =>
  refine Tri.fnC (N := N_Store_parted) (k := 3 + j) (S_parted K (j + 1)) T.d_Store_parted sc_Store_parted (fun g => rfl) (fun _ _ _ _ _ _ us hl => match us, hl with | [_, _, _, _, _, _], _ => rfl) fun cdv A outer s H E Q g R hcd hr hc ke kx => ⟨_, PSs.nox ((pss_cons (ps_par (i := 6) (j := 7) (by rfl) sc_Store_parted.nd rfl rfl (by decide) rfl rfl (pa_cons (ge_call (ok_digit T B) (hr.mono (by omega)) rfl T.g_digit px0 (pa_cons (pv 2) (pa_cons (pv 5) pa_nil))) (pa_cons (ge_call (ok_digit T B) (hr.mono (by omega)) rfl T.g_digit px0 (pa_cons (pv 4) (pa_cons (pv 5) pa_nil))) pa_nil)) (by rfl))
    (pss_cons (ps_if (pt_cmpR (q_eq (K := K) rfl hr.u64) (pv 6) (pv 7) (nomark _)) (pss_one (ps_ret (ge_meth (q_fld (K := K) rfl (pv 0) rfl) T.c_Nodes T.t_Nodes_fork (ok_Nodes_fork T B) (hr.mono (by omega)) px0 (pa_cons (ge_call (ok_with_part T B) (hr.mono (by omega)) rfl T.g_with_part px0 (pa_cons (pe_glob (v := .ref (He.ga K "NO_PARTS")) rfl T.g_NO_PARTS rfl) (pa_cons (pv 6) (pa_cons (ge_meth (pv 0) T.c_Store T.t_Store_parted ih (hr.mono (by omega)) px0 (pa_cons (pv 1) (pa_cons (pv 2) (pa_cons (pv 3) (pa_cons (pv 4) (pa_cons (pe_op (q_add (K := K) rfl) (pv 5) pe_int) pa_nil)))))) pa_nil)))) pa_nil)))) pss_nil)
    (pss_one (ps_ret (ge_meth (q_fld (K := K) rfl (pv 0) rfl) T.c_Nodes T.t_Nodes_fork (ok_Nodes_fork T B) (hr.mono (by omega)) px0 (pa_cons (ge_call (ok_with_part T B) (hr.mono (by omega)) rfl T.g_with_part px0 (pa_cons (ge_call (ok_with_part T B) (hr.mono (by omega)) rfl T.g_with_part px0 (pa_cons (pe_glob (v := .ref (He.ga K "NO_PARTS")) rfl T.g_NO_PARTS rfl) (pa_cons (pv 6) (pa_cons (pv 1) pa_nil)))) (pa_cons (pv 7) (pa_cons (pv 3) pa_nil)))) pa_nil))))))), ?_⟩
  obtain ⟨s, nn, dd, ns, td, old, o, new, own, l, _⟩ := g
  obtain ⟨hl, hl5, hd, hb, hb', hm, hz, _⟩ := hc
  replace ke : Al [Ob s (He.ga K "Store") [("nodes", .ref nn), ("told", .ref dd)], NodesA K nn ((prtN (5 - l) ns old o new own l).1), pt dd (.dK (toldK (td))), R] (Q (.int (prtN (5 - l) ns old o new own l).2)) := ke () trivial
  try dsimp only [cxOf]
  refine e_start (L := [Ob s (He.ga K "Store") [("nodes", .ref nn), ("told", .ref dd)], NodesA K nn (ns), pt dd (.dK (toldK (td))), R]) (nx := fun _ H' => Q .non H') (rt := Q) (bk := fun _ _ => False) (ct := fun _ _ => False) [some (.ref s), some (.int old), some (.int o), some (.int new), some (.int own), some (.int l), none, none] rfl ?_
  have hlt : l < 5 := by
    rcases Nat.lt_or_ge l 5 with q | q
    · exact q
    · obtain rfl : l = 5 := by omega
      exact absurd (low_all hb.1 hb.2 hb'.1 hb'.2 hm) hd
  obtain ⟨f, hf⟩ : ∃ f, 5 - l = f + 1 := ⟨4 - l, by omega⟩
  have hf' : 5 - (l + 1) = f := by omega
  rw [hf] at ke
  have d1 := dgt_lt o l
  have d2 := dgt_lt own l
  tb_start
  refine Al.f (xs := [V.int ((0 : Nat) : Int), V.int ((0 : Nat) : Int), V.int ((0 : Nat) : Int), V.int ((0 : Nat) : Int)]) (.wr B.u.u_NO_PARTS) ?_
  rw [← dgt_cast, ← dgt_cast]
  refine e_if ?_ ?_ <;> intro c <;> (try simp only [decide_eq_true_eq, decide_eq_false_iff_not, Bool.not_eq_true', Bool.not_eq_false', Bool.and_eq_true, Bool.or_eq_true, Bool.and_eq_false_iff, Bool.or_eq_false_iff, Bool.false_or, Bool.true_and, Bool.or_false, Bool.and_true, Bool.not_true, Bool.not_false, true_and, and_true, or_false, false_or, Bool.false_eq_true, Bool.true_eq_false, not_and, Bool.not_not] at c)
  · have c' : dgt o l = dgt own l := by omega
    have hres : prtN (f + 1) ns old o new own l = ((prtN f ns old o new own (l + 1)).1 ++ [fork4 0 0 0 0 (dgt o l) (prtN f ns old o new own (l + 1)).2], (prtN f ns old o new own (l + 1)).1.length) := by
      show (if _ then _ else _) = _
      rw [if_pos c']
    rw [hres] at ke
    have hlen := prtN_len f ns old o new own (l + 1)
    tb_start
    refine use_parted (l := l + 1) (by tb_rel) (by omega) (by omega) hd hb hb' (low_succ hm c') (by omega) ?_
    rw [hf']
    refine use_withpart (by tb_rel) (by exact d1) (Nat.le_of_ble_eq_true rfl) fun r => ?_
    obtain ⟨a, b, c, d, e1, e2⟩ := set4 (a := 0) (b := 0) (c := 0) (d := 0) (x := (prtN f ns old o new own (l + 1)).2) d1
    rw [e2]
    rw [e1] at ke
    refine use_nfork (by tb_rel) (by k_all) ?_
    exact e_end (by tb_rel) (ke)
  · have c' : ¬ dgt o l = dgt own l := by omega
    obtain ⟨a, b, c, d, e1, e2⟩ := set4 (a := 0) (b := 0) (c := 0) (d := 0) (x := old) d1
    obtain ⟨a', b', c', d', e3, e4⟩ := set4 (a := a) (b := b) (c := c) (d := d) (x := new) d2
    have hres : prtN (f + 1) ns old o new own l = (ns ++ [.fork a' b' c' d'], ns.length) := by
      show (if _ then _ else _) = _
      rw [if_neg (by assumption), e1]
      show (ns ++ [fork4 a b c d (dgt own l) new], _) = _
      rw [e3]
    rw [hres] at ke
    tb_start
    refine use_withpart (by tb_rel) (by exact d1) (Nat.le_of_ble_eq_true rfl) fun r => ?_
    rw [e2]
    tb_start
    refine use_withpart (by tb_rel) (by exact d2) (Nat.le_of_ble_eq_true rfl) fun r2 => ?_
    rw [e4]
    refine use_nfork (by tb_rel) (by k_all) ?_
    exact e_end (by tb_rel) (ke)
def S_putat (K : PySem.W.Frag) (j : Nat) : Tri where
  G := Addr × Addr × Addr × (List Nd) × (List Nat) × Nat × Str × V × Nat × Prs × Unit
  O := Unit
  args := fun (s, nn, dd, ns, td, i, n, v, l, ps, _) => [.ref s, .int i, .int (mkS n), .str n, v, .int l]
  cond := fun (s, nn, dd, ns, td, i, n, v, l, ps, _) => (6 ≤ l + j) ∧ (l ≤ 5) ∧ (At mkS l (mkS n) ps) ∧ (Rp ns i (cn mkS (5 - l) l ps)) ∧ (ns[0]? = some .bare) ∧ (Scl v) ∧ (0 ≤ mkS n ∧ mkS n < 1024) ∧ (ns.length + j + 8 ≤ 900000) ∧ (ps.length ≤ 50000) ∧ True
  pre := fun (s, nn, dd, ns, td, i, n, v, l, ps, _) => [Ob s (He.ga K "Store") [("nodes", .ref nn), ("told", .ref dd)], NodesA K nn (ns), pt dd (.dK (toldK (td))), TbW K]
  ok := fun (s, nn, dd, ns, td, i, n, v, l, ps, _) _ => True
  res := fun (s, nn, dd, ns, td, i, n, v, l, ps, _) _ => .int (putN (6 - l) ns i (mkS n) n v l).2
  post := fun (s, nn, dd, ns, td, i, n, v, l, ps, _) _ => [Ob s (He.ga K "Store") [("nodes", .ref nn), ("told", .ref dd)], NodesA K nn ((putN (6 - l) ns i (mkS n) n v l).1), pt dd (.dK (toldK (td))), TbW K]
theorem use_putat {K : PySem.W.Frag} {j : Nat} {L R : List Asn} {Q : VK} {E : XK} {s : Addr} {nn : Addr} {dd : Addr} {ns : List Nd} {td : List Nat} {i : Nat} {n : Str} {v : V} {l : Nat} {ps : Prs} (sTk : Tks L [Ob s (He.ga K "Store") [("nodes", .ref nn), ("told", .ref dd)], NodesA K nn (ns), pt dd (.dK (toldK (td))), TbW K] R) (hl : 6 ≤ l + j) (hl5 : l ≤ 5) (ha : At mkS l (mkS n) ps) (hi : Rp ns i (cn mkS (5 - l) l ps)) (h0 : ns[0]? = some .bare) (hv : Scl v) (hb : 0 ≤ mkS n ∧ mkS n < 1024) (hz : ns.length + j + 8 ≤ 900000) (hp : ps.length ≤ 50000) (kk : Al (Ob s (He.ga K "Store") [("nodes", .ref nn), ("told", .ref dd)] :: NodesA K nn ((putN (6 - l) ns i (mkS n) n v l).1) :: pt dd (.dK (toldK (td))) :: TbW K :: R) (Q (.int (putN (6 - l) ns i (mkS n) n v l).2))) : Al L (xP (S_putat K j).sp [.ref s, .int i, .int (mkS n), .str n, v, .int l] Q E) :=
  Tri.useT (S_putat K j) (s, nn, dd, ns, td, i, n, v, l, ps, ()) rfl ⟨hl, hl5, ha, hi, h0, hv, hb, hz, hp, trivial⟩ sTk (fun _ _ => kk )
local macro_rules | `(tactic| kpt_turns) => `(tactic| ((with_reducible apply use_putat); tb_rel; (k_all); (k_all); (k_all); (k_all); (k_all); (k_all); (k_all); (k_all); (k_all)))
abbrev N_Store_put_at : List Str := ["self", "number", "own", "name", "value", "level", "node", "at", "new"]
theorem sc_Store_put_at : FnScope N_Store_put_at ["self", "number", "own", "name", "value", "level"] (defScope s_Store_put_at) := ⟨rfl, rfl, rfl, by decide +kernel, rfl, by decide +kernel, by decide +kernel⟩
theorem ok_Store_put_at (T : Fx K mg) (B : Bx K mg base) : ∀ j, FnG P w K mg base (12 + j) (He.fAd K ("Store", some "put_at")) ["self", "number", "own", "name", "value", "level"] (S_putat K j).sp := by
  intro j; induction j with
  | zero =>
    refine Tri.fnC (N := N_Store_put_at) (k := 11) (S_putat K 0) T.d_Store_put_at sc_Store_put_at (fun g => rfl) (fun _ _ _ _ _ _ us hl => match us, hl with | [_, _, _, _, _, _], _ => rfl) fun cdv A outer s H E Q g R hcd hr hc ke kx =>  False.elim ?_
    obtain ⟨s, nn, dd, ns, td, i, n, v, l, ps, _⟩ := g
    obtain ⟨hl, hl5, ha, hi, h0, hv, hb, hz, hp, _⟩ := hc
    omega
  | succ j ih =>
  refine Tri.fnC (N := N_Store_put_at) (k := 12 + j) (S_putat K (j + 1)) T.d_Store_put_at sc_Store_put_at (fun g => rfl) (fun _ _ _ _ _ _ us hl => match us, hl with | [_, _, _, _, _, _], _ => rfl) fun cdv A outer s H E Q g R hcd hr hc ke kx => ⟨_, PSs.nox ((pss_cons (ps_set (i := 6) sc_Store_put_at.nd rfl (.inl rfl) (ge_meth (q_fld (K := K) rfl (pv 0) rfl) T.c_Nodes T.t_Nodes_at (ok_Nodes_at T B) (hr.mono (by omega)) px0 (pa_cons (pv 1) pa_nil)))
    (pss_cons (ps_if (pt_val (ge_call (ok_is_fork T B) (hr.mono (by omega)) rfl T.g_is_fork px0 (pa_cons (pv 6) pa_nil))) (pss_cons (ps_set (i := 7) sc_Store_put_at.nd rfl (.inl rfl) (ge_call (ok_digit T B) (hr.mono (by omega)) rfl T.g_digit px0 (pa_cons (pv 2) (pa_cons (pv 5) pa_nil))))
    (pss_one (ps_ret (ge_meth (q_fld (K := K) rfl (pv 0) rfl) T.c_Nodes T.t_Nodes_fork (ok_Nodes_fork T B) (hr.mono (by omega)) px0 (pa_cons (ge_call (ok_with_part T B) (hr.mono (by omega)) rfl T.g_with_part px0 (pa_cons (pe_ix (q_ix (K := K) rfl hr.u1) (pv 6) pe_int (fun _ _ => rfl)) (pa_cons (pv 7) (pa_cons (ge_meth (pv 0) T.c_Store T.t_Store_put_at ih (hr.mono (by omega)) px0 (pa_cons (pe_ix (q_ix (K := K) rfl hr.u1) (pe_ix (q_ix (K := K) rfl hr.u1) (pv 6) pe_int (fun _ _ => rfl)) (pv 7) (fun _ _ => rfl)) (pa_cons (pv 2) (pa_cons (pv 3) (pa_cons (pv 4) (pa_cons (pe_op (q_add (K := K) rfl) (pv 5) pe_int) pa_nil)))))) pa_nil)))) pa_nil))))) pss_nil)
    (pss_cons (ps_if (PW.pt (pw_and (pt_val (ge_call (ok_is_leaf T B) (hr.mono (by omega)) rfl T.g_is_leaf px0 (pa_cons (pv 6) pa_nil))) (pw_and1 (pt_cmpR (q_eq (K := K) rfl hr.u64) (pe_ix (q_ix (K := K) rfl hr.u1) (pv 6) pe_int (fun _ _ => rfl)) (pv 2) (nomark _))))) (pss_one (ps_ret (ge_meth (q_fld (K := K) rfl (pv 0) rfl) T.c_Nodes T.t_Nodes_leaf (ok_Nodes_leaf T B) (hr.mono (by omega)) px0 (pa_cons (pv 2) (pa_cons (ge_call (ok_pairs_with T B) (hr.mono (by omega)) rfl T.g_pairs_with px0 (pa_cons (pe_ix (q_ix (K := K) rfl hr.u1) (pv 6) pe_int (fun _ _ => rfl)) (pa_cons (pv 3) (pa_cons (pv 4) pa_nil)))) pa_nil))))) pss_nil)
    (pss_cons (ps_set (i := 8) sc_Store_put_at.nd rfl (.inl rfl) (ge_meth (q_fld (K := K) rfl (pv 0) rfl) T.c_Nodes T.t_Nodes_leaf (ok_Nodes_leaf T B) (hr.mono (by omega)) px0 (pa_cons (pv 2) (pa_cons (pe_lst (pa_cons (pe_tup (pa_cons (pv 3) (pa_cons (pv 4) pa_nil))) pa_nil)) pa_nil))))
    (pss_cons (ps_if (pt_val (ge_call (ok_is_leaf T B) (hr.mono (by omega)) rfl T.g_is_leaf px0 (pa_cons (pv 6) pa_nil))) (pss_one (ps_ret (ge_meth (pv 0) T.c_Store T.t_Store_parted (ok_Store_parted T B 8) (hr.mono (by omega)) px0 (pa_cons (pv 1) (pa_cons (pe_ix (q_ix (K := K) rfl hr.u1) (pv 6) pe_int (fun _ _ => rfl)) (pa_cons (pv 8) (pa_cons (pv 2) (pa_cons (pv 5) pa_nil)))))))) pss_nil)
    (pss_one (ps_ret (pv 8))))))))), ?_⟩
  obtain ⟨s, nn, dd, ns, td, i, n, v, l, ps, _⟩ := g
  obtain ⟨hl, hl5, ha, hi, h0, hv, hb, hz, hp, _⟩ := hc
  replace ke : Al [Ob s (He.ga K "Store") [("nodes", .ref nn), ("told", .ref dd)], NodesA K nn ((putN (6 - l) ns i (mkS n) n v l).1), pt dd (.dK (toldK (td))), TbW K, R] (Q (.int (putN (6 - l) ns i (mkS n) n v l).2)) := ke () trivial
  try dsimp only [cxOf]
  refine e_start (L := [Ob s (He.ga K "Store") [("nodes", .ref nn), ("told", .ref dd)], NodesA K nn (ns), pt dd (.dK (toldK (td))), TbW K, R]) (nx := fun _ H' => Q .non H') (rt := Q) (bk := fun _ _ => False) (ct := fun _ _ => False) [some (.ref s), some (.int i), some (.int (mkS n)), some (.str n), some (v), some (.int l), none, none, none] rfl ?_
  obtain ⟨f, hf⟩ : ∃ f, 6 - l = f + 1 := ⟨5 - l, by omega⟩
  have hf5 : 5 - l = f := by omega
  rw [hf5] at hi
  rw [hf] at ke
  tb_start
  by_cases hne : ps = []
  · subst hne
    rw [cn_nil] at hi
    cases hi with
    | bare hi =>
      have hres : putN (f + 1) ns 0 (mkS n) n v l = (ns ++ [.leaf (mkS n) [(n, v)]], ns.length) := by simp only [putN, hi]
      rw [hres] at ke
      refine use_nat (x := .bare) (by tb_rel) (by k_all) fun w => ?_
      tb_start
      rename_i p1
      refine Al.z (K := K) (x := .ref p1) (d := pd (n, v)) (.tup (by tb_rel) (.cons .str (.cons (.scl hv) .nil))) ?_
      refine LsA.fold (K := K) (a := p) (ds := [(n, v)].map pd) (by tb_rel) (LdZs.cons (.tk (by tb_rel)) .nil) ?_
      tb_start
      exact e_end (by tb_rel) (ke)
  · rcases ha.cases (r := f) (by omega) hne with ⟨m, hm, e⟩ | ⟨r', e, hm, hc⟩
    · rw [e] at hi
      have hi := hi.leaf_inv
      refine use_nat (x := .leaf m ps) (by tb_rel) (by k_all) fun w => ?_
      refine Al.tk (A := Fz K w (Nd.leaf m ps).dat) (by tb_rel) ?_
      refine Fz.openLeaf fun t q xs e2 hxl => ?_
      subst e2
      tb_start
      refine e_if ?_ ?_ <;> intro c <;> (try simp only [decide_eq_true_eq, decide_eq_false_iff_not, Bool.not_eq_true', Bool.not_eq_false', Bool.and_eq_true, Bool.or_eq_true, Bool.and_eq_false_iff, Bool.or_eq_false_iff, Bool.false_or, Bool.true_and, Bool.or_false, Bool.and_true, Bool.not_true, Bool.not_false, true_and, and_true, or_false, false_or, Bool.false_eq_true, Bool.true_eq_false, not_and, Bool.not_not] at c)
      · subst c
        have hres : putN (f + 1) ns i (mkS n) n v l = (ns ++ [.leaf (mkS n) (ins ps n v)], ns.length) := by simp only [putN, hi, if_pos]
        rw [hres] at ke
        tb_start
        refine use_pwith (by tb_rel) (hv) (by omega) fun r => ?_
        tb_start
        exact e_end (by tb_rel) (ke)
      tb_start
      rename_i p1
      refine Al.z (K := K) (x := .ref p1) (d := pd (n, v)) (.tup (by tb_rel) (.cons .str (.cons (.scl hv) .nil))) ?_
      refine LsA.fold (K := K) (a := p) (ds := [(n, v)].map pd) (by tb_rel) (LdZs.cons (.tk (by tb_rel)) .nil) ?_
      have hres : putN (f + 1) ns i (mkS n) n v l = prtN f (ns ++ [.leaf (mkS n) [(n, v)]]) i m ns.length (mkS n) l := by simp only [putN, hi, if_neg c]
      rw [hres, ← hf5] at ke
      obtain ⟨q1, hq1⟩ := List.exists_mem_of_ne_nil ps hne
      have hmq := hm q1 hq1
      have hb1 := ha.b q1 hq1
      have hw1 := ha.w q1 hq1
      rw [hmq] at hb1 hw1
      tb_start
      exact e_end (by tb_rel) (ke)
    · subst e
      rw [hc] at hi
      obtain ⟨a, b, c, d, h1, h2⟩ := Rp.part (t := cnF mkS r' l ps) hi
      have hres : putN (r' + 1 + 1) ns i (mkS n) n v l = ((putN (r' + 1) ns (part4 a b c d (dgt (mkS n) l)) (mkS n) n v (l + 1)).1 ++ [fork4 a b c d (dgt (mkS n) l) (putN (r' + 1) ns (part4 a b c d (dgt (mkS n) l)) (mkS n) n v (l + 1)).2], (putN (r' + 1) ns (part4 a b c d (dgt (mkS n) l)) (mkS n) n v (l + 1)).1.length) := by simp only [putN, h1]
      rw [hres] at ke
      have hlen := putN_len (r' + 1) ns (part4 a b c d (dgt (mkS n) l)) (mkS n) n v (l + 1)
      have hf6 : 6 - (l + 1) = r' + 1 := by omega
      have hf7 : 5 - (l + 1) = r' := by omega
      have d2 := dgt_lt (mkS n) l
      refine use_nat (x := .fork a b c d) (by tb_rel) (by k_all) fun w => ?_
      refine Al.tk (A := Fz K w (Nd.fork a b c d).dat) (by tb_rel) ?_
      refine Fz.openFork fun t q e2 => ?_
      subst e2
      tb_start
      rw [← dgt_cast]
      tb_start
      refine e_xT (by top_args) (by rw [dgt_cast]; exact at_part) ?_
      tb_start
      refine use_putat (j := j) (ps := sub mkS l (dgt (mkS n) l) ps) (l := l + 1) (by tb_rel) (by omega) (by omega) (ha.sub _ rfl rfl) (by rw [hf7]; exact h2 _ d2) h0 hv hb (by omega) (Nat.le_trans (List.length_filter_le ..) hp) ?_
      rw [hf6]
      refine use_withpart (by tb_rel) (by exact d2) (Nat.le_of_ble_eq_true rfl) fun r => ?_
      obtain ⟨a', b', c', d', e3, e4⟩ := set4 (a := a) (b := b) (c := c) (d := d) (x := (putN (r' + 1) ns (part4 a b c d (dgt (mkS n) l)) (mkS n) n v (l + 1)).2) d2
      rw [e4]
      rw [e3] at ke
      refine use_nfork (by tb_rel) (by k_all) ?_
      exact e_end (by tb_rel) (ke)
def S_put (K : PySem.W.Frag) : Tri where
  G := Addr × Addr × Addr × (List Nd) × (List Nat) × Nat × Str × Prs × V × Unit
  O := Unit
  args := fun (s, nn, dd, ns, td, i, n, ps, v, _) => [.ref s, .int i, .str n, v]
  cond := fun (s, nn, dd, ns, td, i, n, ps, v, _) => (Tbl ns td i ps) ∧ (ns[0]? = some .bare) ∧ (Nm8 n) ∧ (Scl v) ∧ (v ≠ .non) ∧ (ns.length ≤ 800000) ∧ (td.length ≤ 800000) ∧ (ps.length ≤ 50000) ∧ True
  pre := fun (s, nn, dd, ns, td, i, n, ps, v, _) => [Ob s (He.ga K "Store") [("nodes", .ref nn), ("told", .ref dd)], NodesA K nn (ns), pt dd (.dK (toldK (td))), TbW K]
  ok := fun (s, nn, dd, ns, td, i, n, ps, v, _) _ => True
  res := fun (s, nn, dd, ns, td, i, n, ps, v, _) _ => .int (putS (ns, td) i ps n v).2
  post := fun (s, nn, dd, ns, td, i, n, ps, v, _) _ => [Ob s (He.ga K "Store") [("nodes", .ref nn), ("told", .ref dd)], NodesA K nn ((putS (ns, td) i ps n v).1.1), pt dd (.dK (toldK ((putS (ns, td) i ps n v).1.2))), TbW K]
theorem use_put {K : PySem.W.Frag} {L R : List Asn} {Q : VK} {E : XK} {s : Addr} {nn : Addr} {dd : Addr} {ns : List Nd} {td : List Nat} {i : Nat} {n : Str} {ps : Prs} {v : V} (sTk : Tks L [Ob s (He.ga K "Store") [("nodes", .ref nn), ("told", .ref dd)], NodesA K nn (ns), pt dd (.dK (toldK (td))), TbW K] R) (ht : Tbl ns td i ps) (h0 : ns[0]? = some .bare) (hn : Nm8 n) (hv : Scl v) (hv0 : v ≠ .non) (hz : ns.length ≤ 800000) (hz2 : td.length ≤ 800000) (hp : ps.length ≤ 50000) (kk : Al (Ob s (He.ga K "Store") [("nodes", .ref nn), ("told", .ref dd)] :: NodesA K nn ((putS (ns, td) i ps n v).1.1) :: pt dd (.dK (toldK ((putS (ns, td) i ps n v).1.2))) :: TbW K :: R) (Q (.int (putS (ns, td) i ps n v).2))) : Al L (xP (S_put K).sp [.ref s, .int i, .str n, v] Q E) :=
  Tri.useT (S_put K) (s, nn, dd, ns, td, i, n, ps, v, ()) rfl ⟨ht, h0, hn, hv, hv0, hz, hz2, hp, trivial⟩ sTk (fun _ _ => kk )
local macro_rules | `(tactic| kpt_turns) => `(tactic| ((with_reducible apply use_put); tb_rel; (k_all); (k_all); (k_all); (k_all); (k_all); (k_all); (k_all); (k_all)))
abbrev N_Store_put : List Str := ["self", "table", "name", "value"]
theorem sc_Store_put : FnScope N_Store_put ["self", "table", "name", "value"] (defScope s_Store_put) := ⟨rfl, rfl, rfl, by decide +kernel, rfl, by decide +kernel, by decide +kernel⟩
theorem ok_Store_put (T : Fx K mg) (B : Bx K mg base) : FnG P w K mg base 21 (He.fAd K ("Store", some "put")) ["self", "table", "name", "value"] (S_put K).sp := by
  refine Tri.fnC (N := N_Store_put) (k := 20) (S_put K) T.d_Store_put sc_Store_put (fun g => rfl) (fun _ _ _ _ _ _ us hl => match us, hl with | [_, _, _, _], _ => rfl) fun cdv A outer s H E Q g R hcd hr hc ke kx => ⟨_, PSs.nox ((pss_cons (ps_if (pt_val (ge_call (ok_alike T B) hr.mono rfl T.g_alike px0 (pa_cons (ge_meth (pv 0) T.c_Store T.t_Store_looked (ok_Store_looked T B) hr.mono px0 (pa_cons (pv 1) (pa_cons (pv 2) pa_nil))) (pa_cons (pv 3) pa_nil)))) (pss_one (ps_ret (pv 1))) pss_nil)
    (pss_one (ps_ret (ge_meth (pv 0) T.c_Store T.t_Store_tell (ok_Store_tell T B) hr.mono px0 (pa_cons (ge_meth (pv 0) T.c_Store T.t_Store_put_at (ok_Store_put_at T B 8) hr.mono px0 (pa_cons (pv 1) (pa_cons (ge_call (ok_mark T B) hr.mono rfl T.g_mark px0 (pa_cons (pv 2) pa_nil)) (pa_cons (pv 2) (pa_cons (pv 3) (pa_cons pe_int pa_nil)))))) pa_nil)))))), ?_⟩
  obtain ⟨s, nn, dd, ns, td, i, n, ps, v, _⟩ := g
  obtain ⟨ht, h0, hn, hv, hv0, hz, hz2, hp, _⟩ := hc
  replace ke : Al [Ob s (He.ga K "Store") [("nodes", .ref nn), ("told", .ref dd)], NodesA K nn ((putS (ns, td) i ps n v).1.1), pt dd (.dK (toldK ((putS (ns, td) i ps n v).1.2))), TbW K, R] (Q (.int (putS (ns, td) i ps n v).2)) := ke () trivial
  try dsimp only [cxOf]
  refine e_start (L := [Ob s (He.ga K "Store") [("nodes", .ref nn), ("told", .ref dd)], NodesA K nn (ns), pt dd (.dK (toldK (td))), TbW K, R]) (nx := fun _ H' => Q .non H') (rt := Q) (bk := fun _ _ => False) (ct := fun _ _ => False) [some (.ref s), some (.int i), some (.str n), some (v)] rfl ?_
  have h2 := hn.n
  have h3 := hn.b
  have hsc : Scl ((fnd ps n).getD .non) := by
    cases e : fnd ps n with
    | none => exact .inl rfl
    | some u => exact ht.v _ (fnd_some e)
  have hb := mk_bound h2 h3
  tb_start
  refine e_if ?_ ?_ <;> intro c <;> (try simp only [decide_eq_true_eq, decide_eq_false_iff_not, Bool.not_eq_true', Bool.not_eq_false', Bool.and_eq_true, Bool.or_eq_true, Bool.and_eq_false_iff, Bool.or_eq_false_iff, Bool.false_or, Bool.true_and, Bool.or_false, Bool.and_true, Bool.not_true, Bool.not_false, true_and, and_true, or_false, false_or, Bool.false_eq_true, Bool.true_eq_false, not_and, Bool.not_not] at c)
  · have e : putS (ns, td) i ps n v = ((ns, td), i) := if_pos (by
      cases e : fnd ps n with
      | none => rw [e] at c; exact absurd c.symm hv0
      | some u => rw [e] at c; exact congrArg some c)
    rw [e] at ke
    tb_start
    exact e_end (by tb_rel) (ke)
  have e : putS (ns, td) i ps n v = (((putN 6 ns i (mkS n) n v 0).1, AL.tell td (putN 6 ns i (mkS n) n v 0).2), (putN 6 ns i (mkS n) n v 0).2) := if_neg (fun q => c (by rw [q]; rfl))
  rw [e] at ke
  tb_start
  refine use_putat (j := 8) (ps := ps) (l := 0) (by tb_rel) (by omega) (by omega) (ht.mk_at _) ht.r h0 hv hb (by omega) hp ?_
  tb_start
  exact e_end (by tb_rel) (ke)
end

section
variable {P : Program} {w : World} {K : PySem.W.Frag} {mg : Str → Option Value} {base : Heap}
local macro_rules | `(tactic| kpt_turns) => `(tactic| ((with_reducible apply use_cell); tb_rel))
local macro_rules | `(tactic| kpt_turns) => `(tactic| ((with_reducible apply use_mark); tb_rel; (k_all); (k_all)))
local macro_rules | `(tactic| kpt_turns) => `(tactic| ((with_reducible apply use_digit); tb_rel; (k_all)))
local macro_rules | `(tactic| kpt_turns) => `(tactic| ((with_reducible apply use_isleaf); tb_rel))
local macro_rules | `(tactic| kpt_turns) => `(tactic| ((with_reducible apply use_isfork); tb_rel))
local macro_rules | `(tactic| kpt_turns) => `(tactic| ((with_reducible apply use_ninit); tb_rel))
local macro_rules | `(tactic| kpt_turns) => `(tactic| ((with_reducible apply use_nmany); tb_rel))
local macro_rules | `(tactic| kpt_turns) => `(tactic| ((with_reducible apply use_nmake); tb_rel; (k_all)))
local macro_rules | `(tactic| kpt_turns) => `(tactic| ((with_reducible apply use_nleaf); tb_rel; (k_all)))
local macro_rules | `(tactic| kpt_turns) => `(tactic| ((with_reducible apply use_nfork); tb_rel; (k_all)))
local macro_rules | `(tactic| kpt_turns) => `(tactic| ((with_reducible apply use_valuein); tb_rel))
local macro_rules | `(tactic| kpt_turns) => `(tactic| ((with_reducible apply use_alike); tb_rel; (k_all); (k_all)))
local macro_rules | `(tactic| kpt_turns) => `(tactic| ((with_reducible apply use_sinit); tb_rel))
local macro_rules | `(tactic| kpt_turns) => `(tactic| ((with_reducible apply use_look); tb_rel; (k_all)))
local macro_rules | `(tactic| kpt_turns) => `(tactic| ((with_reducible apply use_tell); tb_rel; (k_all)))
local macro_rules | `(tactic| kpt_turns) => `(tactic| ((with_reducible apply use_empty); tb_rel))
local macro_rules | `(tactic| kpt_turns) => `(tactic| ((with_reducible apply use_looked); tb_rel; (k_all); (k_all)))
local macro_rules | `(tactic| kpt_turns) => `(tactic| ((with_reducible apply use_parted); tb_rel; (k_all); (k_all); (k_all); (k_all); (k_all); (k_all); (k_all)))
local macro_rules | `(tactic| kpt_turns) => `(tactic| ((with_reducible apply use_putat); tb_rel; (k_all); (k_all); (k_all); (k_all); (k_all); (k_all); (k_all); (k_all); (k_all)))
local macro_rules | `(tactic| kpt_turns) => `(tactic| ((with_reducible apply use_put); tb_rel; (k_all); (k_all); (k_all); (k_all); (k_all); (k_all); (k_all); (k_all)))
/-! ### stores: withouts -/
def lonV (ns : List Nd) (ps : List Nat) : V := match loneN ns ps with
  | some k => .int k
  | none => .non
theorem lone1 {ns : List Nd} {ps : List Nat} {k : Nat} {x : Nd} (h : ps.filter (fun k => decide (k ≠ 0)) = [k]) (hx : ns[k]? = some x) : loneN ns ps = if isLeafN x = true then some k else none := by
  unfold loneN
  rw [h]
  dsimp only
  rw [hx]
  cases x <;> rfl
theorem lone0 {ns : List Nd} {ps : List Nat} (h : ∀ k, ps.filter (fun k => decide (k ≠ 0)) ≠ [k]) : loneN ns ps = none := by
  unfold loneN
  split
  · rename_i k e; exact absurd e (h k)
  · rfl
def S_lone (K : PySem.W.Frag) : Tri where
  G := Addr × Addr × Addr × (List Nd) × (List Nat) × Addr × Nat × Nat × Nat × Nat × Unit
  O := Unit
  args := fun (s, nn, dd, ns, td, p, a, b, c, d, _) => [.ref s, .ref p]
  cond := fun (s, nn, dd, ns, td, p, a, b, c, d, _) => (∀ k ∈ [a, b, c, d], k < ns.length) ∧ True
  pre := fun (s, nn, dd, ns, td, p, a, b, c, d, _) => [Ob s (He.ga K "Store") [("nodes", .ref nn), ("told", .ref dd)], NodesA K nn (ns), pt dd (.dK (toldK (td))), FzT K p [.int a, .int b, .int c, .int d]]
  ok := fun (s, nn, dd, ns, td, p, a, b, c, d, _) _ => True
  res := fun (s, nn, dd, ns, td, p, a, b, c, d, _) _ => lonV ns [a, b, c, d]
  post := fun (s, nn, dd, ns, td, p, a, b, c, d, _) _ => [Ob s (He.ga K "Store") [("nodes", .ref nn), ("told", .ref dd)], NodesA K nn (ns), pt dd (.dK (toldK (td)))]
theorem use_lone {K : PySem.W.Frag} {L R : List Asn} {Q : VK} {E : XK} {s : Addr} {nn : Addr} {dd : Addr} {ns : List Nd} {td : List Nat} {p : Addr} {a : Nat} {b : Nat} {c : Nat} {d : Nat} (sTk : Tks L [Ob s (He.ga K "Store") [("nodes", .ref nn), ("told", .ref dd)], NodesA K nn (ns), pt dd (.dK (toldK (td))), FzT K p [.int a, .int b, .int c, .int d]] R) (hb : ∀ k ∈ [a, b, c, d], k < ns.length) (kk : Al (Ob s (He.ga K "Store") [("nodes", .ref nn), ("told", .ref dd)] :: NodesA K nn (ns) :: pt dd (.dK (toldK (td))) :: R) (Q (lonV ns [a, b, c, d]))) : Al L (xP (S_lone K).sp [.ref s, .ref p] Q E) :=
  Tri.useT (S_lone K) (s, nn, dd, ns, td, p, a, b, c, d, ()) rfl ⟨hb, trivial⟩ sTk (fun _ _ => kk )
local macro_rules | `(tactic| kpt_turns) => `(tactic| ((with_reducible apply use_lone); tb_rel; (k_all)))
abbrev N_Store_lone_leaf : List Str := ["self", "parts", "found", "part"]
theorem sc_Store_lone_leaf : FnScope N_Store_lone_leaf ["self", "parts"] (defScope s_Store_lone_leaf) := ⟨rfl, rfl, rfl, by decide +kernel, rfl, by decide +kernel, by decide +kernel⟩
theorem ok_Store_lone_leaf (T : Fx K mg) (B : Bx K mg base) : FnG P w K mg base 2 (He.fAd K ("Store", some "lone_leaf")) ["self", "parts"] (S_lone K).sp := by
  refine Tri.fnC (N := N_Store_lone_leaf) (k := 1) (S_lone K) T.d_Store_lone_leaf sc_Store_lone_leaf (fun g => rfl) (fun _ _ _ _ _ _ us hl => match us, hl with | [_, _], _ => rfl) fun cdv A outer s H E Q g R hcd hr hc ke kx => ⟨_, PSs.nox ((pss_cons (ps_setLc (i := 2) (own := [("part", 3)]) rfl sc_Store_lone_leaf.nd rfl rfl (sw_true rfl rfl rfl (by decide +kernel)) (qi_any (K := K) rfl (pv 1)) (blkOk_by (N := N_Store_lone_leaf) (sc := defScope s_Store_lone_leaf) (by decide +kernel)) (fun _ _ _ _ _ => (pg_name (i := 3) sc_Store_lone_leaf.nd rfl (.inl rfl))) (fun _ _ _ _ _ => (pts_one (pt_cmpR (q_ne (K := K) rfl hr.u64) (pv 3) (ge_int rfl T.i_BARE) (nomark _)))) (fun _ _ _ _ _ => (pv 3)))
    (pss_cons (ps_if (PW.pt (pw_and (pt_cmpR (q_eq (K := K) rfl hr.u64) (pe_callB (q_len (K := K) rfl) (by rfl) T.b_len (by decide +kernel) (pa_cons (pv 2) pa_nil)) pe_int (nomark _)) (pw_and1 (pt_val (ge_call (ok_is_leaf T B) hr.mono rfl T.g_is_leaf px0 (pa_cons (ge_meth (q_fld (K := K) rfl (pv 0) rfl) T.c_Nodes T.t_Nodes_at (ok_Nodes_at T B) hr.mono px0 (pa_cons (pe_ix (q_ix (K := K) rfl hr.u1) (pv 2) pe_int (fun _ _ => rfl)) pa_nil)) pa_nil)))))) (pss_one (ps_ret (pe_ix (q_ix (K := K) rfl hr.u1) (pv 2) pe_int (fun _ _ => rfl)))) pss_nil)
    (pss_one (ps_ret pe_non))))), ?_⟩
  obtain ⟨s, nn, dd, ns, td, p, a, b, c, d, _⟩ := g
  obtain ⟨hb, _⟩ := hc
  replace ke : Al [Ob s (He.ga K "Store") [("nodes", .ref nn), ("told", .ref dd)], NodesA K nn (ns), pt dd (.dK (toldK (td))), R] (Q (lonV ns [a, b, c, d])) := ke () trivial
  try dsimp only [cxOf]
  refine e_start (L := [Ob s (He.ga K "Store") [("nodes", .ref nn), ("told", .ref dd)], NodesA K nn (ns), pt dd (.dK (toldK (td))), FzT K p [.int a, .int b, .int c, .int d], R]) (nx := fun _ H' => Q .non H') (rt := Q) (bk := fun _ _ => False) (ct := fun _ _ => False) [some (.ref s), some (.ref p), none, none] rfl ?_
  tb_start
  generalize hps : ([a, b, c, d] : List Nat) = ps at hb ke
  rw [show ([.int a, .int b, .int c, .int d] : List V) = ps.map (fun k : Nat => V.int k) from by rw [← hps]; rfl]
  refine e_lcT (by tb_rel) (fun i acc M => ((acc = ((ps.take i).filter (fun k => decide (k ≠ 0))).map (fun k : Nat => V.int k)) ∧ True) ∧ M = [FzT K p (ps.map fun k : Nat => V.int k), Ob s (He.ga K "Store") [("nodes", .ref nn), ("told", .ref dd)], NodesA K nn ns, pt dd (.dK (toldK td)), R]) ⟨_, ⟨⟨rfl, trivial⟩, rfl⟩, .ofT (by tb_rel)⟩ (by rintro i acc M ⟨_, rfl⟩; top_args) (fun i y acc M D hx hI => ?_) (fun acc M D hI => ?_)
  · obtain ⟨⟨ha, _⟩, eM⟩ := hI
    subst eM
    obtain ⟨k, hk, rfl⟩ : ∃ k, ps[i]? = some k ∧ y = V.int (k : Nat) := by
      rw [List.getElem?_map] at hx
      cases e : ps[i]? with
      | none => rw [e] at hx; cases hx
      | some k => rw [e] at hx; cases hx; exact ⟨k, rfl, rfl⟩
    have hl : acc.length ≤ 4 := by
      rw [ha, List.length_map]
      refine Nat.le_trans (List.length_filter_le ..) (Nat.le_trans (List.length_take_le' ..) ?_)
      rw [← hps]; exact Nat.le_refl _
    have hst : (ps.take (i + 1)).filter (fun k => decide (k ≠ 0)) = (ps.take i).filter (fun k => decide (k ≠ 0)) ++ if k = 0 then [] else [k] := by
      rw [take_step hk, List.filter_append]
      by_cases e : k = 0
      · rw [if_pos e, List.filter_cons, if_neg (by simp [e])]; rfl
      · rw [if_neg e, List.filter_cons, if_pos (by simp [e])]; rfl
    tb_start
    refine e_ifb ?_ ?_ <;> intro c <;> (try simp only [decide_eq_true_eq, decide_eq_false_iff_not, Bool.not_eq_true', Bool.not_eq_false', Bool.and_eq_true, Bool.or_eq_true, Bool.and_eq_false_iff, Bool.or_eq_false_iff, Bool.false_or, Bool.true_and, Bool.or_false, Bool.and_true, Bool.not_true, Bool.not_false, true_and, and_true, or_false, false_or, Bool.false_eq_true, Bool.true_eq_false, not_and, Bool.not_not] at c)
    · tb_start
      exact e_lcA (by tb_rel) (by rw [sizeLine_eq]; omega) ⟨⟨by rw [hst, if_neg (by omega), List.map_append, ← ha]; rfl, trivial⟩, rfl⟩ (by tb_rel)
    · tb_start
      exact e_lcN (by tb_rel) ⟨⟨by rw [hst, if_pos (by omega), List.append_nil]; exact ha, trivial⟩, rfl⟩ (by tb_rel)
  · obtain ⟨⟨ha, _⟩, eM⟩ := hI
    subst eM
    rw [List.length_map, List.take_length] at ha
    have hbf : ∀ k ∈ ps.filter (fun k => decide (k ≠ 0)), k < ns.length := fun k hk => hb k (List.mem_filter.mp hk).1
    unfold lonV at ke
    generalize hq : ps.filter (fun k => decide (k ≠ 0)) = qs at ha hbf
    subst ha
    tb_start
    rcases qs with _ | ⟨k, _ | ⟨k2, qs⟩⟩
    · rw [lone0 (by rw [hq]; exact fun k e => (nomatch e))] at ke
      tb_start
      exact e_end (by tb_rel) (ke)
    · obtain ⟨x, hx⟩ : ∃ x, ns[k]? = some x := ⟨_, List.getElem?_eq_getElem (hbf k (List.mem_singleton.mpr rfl))⟩
      rw [lone1 hq hx] at ke
      change Al (pt D (.lst [V.int k]) :: _) _
      refine e_eqb (b' := true) rfl ?_
      tb_start
      refine use_nat (x := x) (by tb_rel) (by k_all) fun v => ?_
      tb_start
      refine e_ifb ?_ ?_ <;> intro c <;> (try simp only [decide_eq_true_eq, decide_eq_false_iff_not, Bool.not_eq_true', Bool.not_eq_false', Bool.and_eq_true, Bool.or_eq_true, Bool.and_eq_false_iff, Bool.or_eq_false_iff, Bool.false_or, Bool.true_and, Bool.or_false, Bool.and_true, Bool.not_true, Bool.not_false, true_and, and_true, or_false, false_or, Bool.false_eq_true, Bool.true_eq_false, not_and, Bool.not_not] at c)
      · have c' : isLeafN x = true := c
        rw [if_pos c'] at ke
        tb_start
        exact e_end (by tb_rel) (ke)
      · have c' : isLeafN x = false := c
        rw [if_neg (by rw [c']; decide)] at ke
        tb_start
        exact e_end (by tb_rel) (ke)
    · rw [lone0 (by rw [hq]; exact fun k e => (nomatch e))] at ke
      refine e_eqb (b' := false) (by rw [List.length_map, List.length_cons, List.length_cons, decide_eq_false_iff_not]; omega) ?_
      tb_start
      exact e_end (by tb_rel) (ke)
def S_leftat (K : PySem.W.Frag) (j : Nat) : Tri where
  G := Addr × Addr × Addr × (List Nd) × (List Nat) × Nat × Str × V × Nat × Prs × Unit
  O := Unit
  args := fun (s, nn, dd, ns, td, i, n, v, l, ps, _) => [.ref s, .int i, .int (mkS n), .str n, .int l]
  cond := fun (s, nn, dd, ns, td, i, n, v, l, ps, _) => (6 ≤ l + j) ∧ (l ≤ 5) ∧ (At mkS l (mkS n) ps) ∧ (Rp ns i (cn mkS (5 - l) l ps)) ∧ (ns[0]? = some .bare) ∧ ((n, v) ∈ ps) ∧ (ns.length + j + 8 ≤ 900000) ∧ (ps.length ≤ 50000) ∧ True
  pre := fun (s, nn, dd, ns, td, i, n, v, l, ps, _) => [Ob s (He.ga K "Store") [("nodes", .ref nn), ("told", .ref dd)], NodesA K nn (ns), pt dd (.dK (toldK (td)))]
  ok := fun (s, nn, dd, ns, td, i, n, v, l, ps, _) _ => True
  res := fun (s, nn, dd, ns, td, i, n, v, l, ps, _) _ => .int (delN (6 - l) ns i (mkS n) n l).2
  post := fun (s, nn, dd, ns, td, i, n, v, l, ps, _) _ => [Ob s (He.ga K "Store") [("nodes", .ref nn), ("told", .ref dd)], NodesA K nn ((delN (6 - l) ns i (mkS n) n l).1), pt dd (.dK (toldK (td)))]
theorem use_leftat {K : PySem.W.Frag} {j : Nat} {L R : List Asn} {Q : VK} {E : XK} {s : Addr} {nn : Addr} {dd : Addr} {ns : List Nd} {td : List Nat} {i : Nat} {n : Str} {v : V} {l : Nat} {ps : Prs} (sTk : Tks L [Ob s (He.ga K "Store") [("nodes", .ref nn), ("told", .ref dd)], NodesA K nn (ns), pt dd (.dK (toldK (td)))] R) (hl : 6 ≤ l + j) (hl5 : l ≤ 5) (ha : At mkS l (mkS n) ps) (hi : Rp ns i (cn mkS (5 - l) l ps)) (h0 : ns[0]? = some .bare) (hn : (n, v) ∈ ps) (hz : ns.length + j + 8 ≤ 900000) (hp : ps.length ≤ 50000) (kk : Al (Ob s (He.ga K "Store") [("nodes", .ref nn), ("told", .ref dd)] :: NodesA K nn ((delN (6 - l) ns i (mkS n) n l).1) :: pt dd (.dK (toldK (td))) :: R) (Q (.int (delN (6 - l) ns i (mkS n) n l).2))) : Al L (xP (S_leftat K j).sp [.ref s, .int i, .int (mkS n), .str n, .int l] Q E) :=
  Tri.useT (S_leftat K j) (s, nn, dd, ns, td, i, n, v, l, ps, ()) rfl ⟨hl, hl5, ha, hi, h0, hn, hz, hp, trivial⟩ sTk (fun _ _ => kk )
local macro_rules | `(tactic| kpt_turns) => `(tactic| ((with_reducible apply use_leftat); tb_rel; (k_all); (k_all); (k_all); (k_all); (k_all); (k_all); (k_all); (k_all)))
abbrev N_Store_left_at : List Str := ["self", "number", "own", "name", "level", "node", "at", "parts", "leaf", "pairs"]
theorem sc_Store_left_at : FnScope N_Store_left_at ["self", "number", "own", "name", "level"] (defScope s_Store_left_at) := ⟨rfl, rfl, rfl, by decide +kernel, rfl, by decide +kernel, by decide +kernel⟩
theorem ok_Store_left_at (T : Fx K mg) (B : Bx K mg base) : ∀ j, FnG P w K mg base (3 + j) (He.fAd K ("Store", some "left_at")) ["self", "number", "own", "name", "level"] (S_leftat K j).sp := by
  intro j; induction j with
  | zero =>
    refine Tri.fnC (N := N_Store_left_at) (k := 2) (S_leftat K 0) T.d_Store_left_at sc_Store_left_at (fun g => rfl) (fun _ _ _ _ _ _ us hl => match us, hl with | [_, _, _, _, _], _ => rfl) fun cdv A outer s H E Q g R hcd hr hc ke kx =>  False.elim ?_
    obtain ⟨s, nn, dd, ns, td, i, n, v, l, ps, _⟩ := g
    obtain ⟨hl, hl5, ha, hi, h0, hn, hz, hp, _⟩ := hc
    omega
  | succ j ih =>
  refine Tri.fnC (N := N_Store_left_at) (k := 3 + j) (S_leftat K (j + 1)) T.d_Store_left_at sc_Store_left_at (fun g => rfl) (fun _ _ _ _ _ _ us hl => match us, hl with | [_, _, _, _, _], _ => rfl) fun cdv A outer s H E Q g R hcd hr hc ke kx => ⟨_, PSs.nox ((pss_cons (ps_set (i := 5) sc_Store_left_at.nd rfl (.inl rfl) (ge_meth (q_fld (K := K) rfl (pv 0) rfl) T.c_Nodes T.t_Nodes_at (ok_Nodes_at T B) (hr.mono (by omega)) px0 (pa_cons (pv 1) pa_nil)))
    (pss_cons (ps_if (pt_val (ge_call (ok_is_fork T B) (hr.mono (by omega)) rfl T.g_is_fork px0 (pa_cons (pv 5) pa_nil))) (pss_cons (ps_set (i := 6) sc_Store_left_at.nd rfl (.inl rfl) (ge_call (ok_digit T B) (hr.mono (by omega)) rfl T.g_digit px0 (pa_cons (pv 2) (pa_cons (pv 4) pa_nil))))
    (pss_cons (ps_set (i := 7) sc_Store_left_at.nd rfl (.inl rfl) (ge_call (ok_with_part T B) (hr.mono (by omega)) rfl T.g_with_part px0 (pa_cons (pe_ix (q_ix (K := K) rfl hr.u1) (pv 5) pe_int (fun _ _ => rfl)) (pa_cons (pv 6) (pa_cons (ge_meth (pv 0) T.c_Store T.t_Store_left_at ih (hr.mono (by omega)) px0 (pa_cons (pe_ix (q_ix (K := K) rfl hr.u1) (pe_ix (q_ix (K := K) rfl hr.u1) (pv 5) pe_int (fun _ _ => rfl)) (pv 6) (fun _ _ => rfl)) (pa_cons (pv 2) (pa_cons (pv 3) (pa_cons (pe_op (q_add (K := K) rfl) (pv 4) pe_int) pa_nil))))) pa_nil)))))
    (pss_cons (ps_set (i := 8) sc_Store_left_at.nd rfl (.inl rfl) (ge_meth (pv 0) T.c_Store T.t_Store_lone_leaf (ok_Store_lone_leaf T B) (hr.mono (by omega)) px0 (pa_cons (pv 7) pa_nil)))
    (pss_one (ps_ret (pe_ifExp (pt_cmpR o_is (pv 8) pe_non (nomark _)) (ge_meth (q_fld (K := K) rfl (pv 0) rfl) T.c_Nodes T.t_Nodes_fork (ok_Nodes_fork T B) (hr.mono (by omega)) px0 (pa_cons (pv 7) pa_nil)) (pv 8))))))) pss_nil)
    (pss_cons (ps_set (i := 9) sc_Store_left_at.nd rfl (.inl rfl) (ge_call (ok_pairs_without T B) (hr.mono (by omega)) rfl T.g_pairs_without px0 (pa_cons (pe_ix (q_ix (K := K) rfl hr.u1) (pv 5) pe_int (fun _ _ => rfl)) (pa_cons (pv 3) pa_nil))))
    (pss_one (ps_ret (pe_ifExp (pt_cmpR (q_eq (K := K) rfl hr.u64) (pe_callB (q_len (K := K) rfl) (by rfl) T.b_len (by decide +kernel) (pa_cons (pv 9) pa_nil)) pe_int (nomark _)) (ge_int rfl T.i_BARE) (ge_meth (q_fld (K := K) rfl (pv 0) rfl) T.c_Nodes T.t_Nodes_leaf (ok_Nodes_leaf T B) (hr.mono (by omega)) px0 (pa_cons (pv 2) (pa_cons (pv 9) pa_nil)))))))))), ?_⟩
  obtain ⟨s, nn, dd, ns, td, i, n, v, l, ps, _⟩ := g
  obtain ⟨hl, hl5, ha, hi, h0, hn, hz, hp, _⟩ := hc
  replace ke : Al [Ob s (He.ga K "Store") [("nodes", .ref nn), ("told", .ref dd)], NodesA K nn ((delN (6 - l) ns i (mkS n) n l).1), pt dd (.dK (toldK (td))), R] (Q (.int (delN (6 - l) ns i (mkS n) n l).2)) := ke () trivial
  try dsimp only [cxOf]
  refine e_start (L := [Ob s (He.ga K "Store") [("nodes", .ref nn), ("told", .ref dd)], NodesA K nn (ns), pt dd (.dK (toldK (td))), R]) (nx := fun _ H' => Q .non H') (rt := Q) (bk := fun _ _ => False) (ct := fun _ _ => False) [some (.ref s), some (.int i), some (.int (mkS n)), some (.str n), some (.int l), none, none, none, none, none] rfl ?_
  obtain ⟨f, hf⟩ : ∃ f, 6 - l = f + 1 := ⟨5 - l, by omega⟩
  have hf5 : 5 - l = f := by omega
  rw [hf5] at hi
  rw [hf] at ke
  tb_start
  have hne : ps ≠ [] := fun e => by rw [e] at hn; cases hn
  rcases ha.cases (r := f) (by omega) hne with ⟨m, hm, e⟩ | ⟨r', e, hm, hc⟩
  · rw [e] at hi
    have hi := hi.leaf_inv
    have hres : delN (f + 1) ns i (mkS n) n l = if del ps n = [] then (ns, 0) else (ns ++ [.leaf (mkS n) (del ps n)], ns.length) := by simp only [delN, hi]
    rw [hres] at ke
    refine use_nat (x := .leaf m ps) (by tb_rel) (by k_all) fun w => ?_
    refine Al.tk (A := Fz K w (Nd.leaf m ps).dat) (by tb_rel) ?_
    refine Fz.openLeaf fun t q xs e2 hxl => ?_
    subst e2
    tb_start
    refine use_pwithout (by tb_rel) (by omega) fun r => ?_
    tb_start
    have em := hm _ hn
    rw [List.length_map]
    refine e_ifb ?_ ?_ <;> intro c <;> (try simp only [decide_eq_true_eq, decide_eq_false_iff_not, Bool.not_eq_true', Bool.not_eq_false', Bool.and_eq_true, Bool.or_eq_true, Bool.and_eq_false_iff, Bool.or_eq_false_iff, Bool.false_or, Bool.true_and, Bool.or_false, Bool.and_true, Bool.not_true, Bool.not_false, true_and, and_true, or_false, false_or, Bool.false_eq_true, Bool.true_eq_false, not_and, Bool.not_not] at c)
    · have c' : del ps n = [] := List.eq_nil_of_length_eq_zero (by omega)
      rw [if_pos c'] at ke
      tb_start
      exact e_end (by tb_rel) (ke)
    · have c' : ¬ del ps n = [] := fun e => c (by rw [e]; rfl)
      rw [if_neg c'] at ke
      tb_start
      exact e_end (by tb_rel) (ke)
  · subst e
    rw [hc] at hi
    obtain ⟨a, b, c, d, h1, h2⟩ := Rp.part (t := cnF mkS r' l ps) hi
    have hf6 : 6 - (l + 1) = r' + 1 := by omega
    have hf7 : 5 - (l + 1) = r' := by omega
    have d2 := dgt_lt (mkS n) l
    refine use_nat (x := .fork a b c d) (by tb_rel) (by k_all) fun w => ?_
    refine Al.tk (A := Fz K w (Nd.fork a b c d).dat) (by tb_rel) ?_
    refine Fz.openFork fun t q e2 => ?_
    subst e2
    tb_start
    rw [← dgt_cast]
    tb_start
    refine e_xT (by top_args) (by rw [dgt_cast]; exact at_part) ?_
    tb_start
    have hlen := delN_len (r' + 1) ns (part4 a b c d (dgt (mkS n) l)) (mkS n) n (l + 1)
    obtain ⟨ys, y1, y2⟩ := del_ok (mk := mkS) (n := n) (v := v) r' (l + 1) (sub mkS l (dgt (mkS n) l) ps) ns (part4 a b c d (dgt (mkS n) l)) (by omega) (ha.sub _ rfl rfl) (mem_sub.mpr ⟨hn, rfl⟩) h0 (h2 _ d2)
    refine use_leftat (j := j) (v := v) (ps := sub mkS l (dgt (mkS n) l) ps) (l := l + 1) (by tb_rel) (by omega) (by omega) (ha.sub _ rfl rfl) (by rw [hf7]; exact h2 _ d2) h0 (mem_sub.mpr ⟨hn, rfl⟩) (by omega) (Nat.le_trans (List.length_filter_le ..) hp) ?_
    rw [hf6]
    refine use_withpart (by tb_rel) (by exact d2) (Nat.le_of_ble_eq_true rfl) fun r => ?_
    obtain ⟨a', b', c', d', e3, e4⟩ := set4 (a := a) (b := b) (c := c) (d := d) (x := (delN (r' + 1) ns (part4 a b c d (dgt (mkS n) l)) (mkS n) n (l + 1)).2) d2
    rw [e4]
    generalize hr : delN (r' + 1) ns (part4 a b c d (dgt (mkS n) l)) (mkS n) n (l + 1) = z at y1 y2 e3 hlen
    rw [delN_fork h1 hr e3] at ke
    obtain ⟨nz, jz⟩ := z
    dsimp only at y1 y2 e3 hlen ke
    subst y1
    obtain ⟨a2, b2, c2, d3, f1, f2⟩ := fork4_eq (a := a) (b := b) (c := c) (d := d) (x := jz) d2
    rw [f1] at e3
    cases e3
    have hbd : ∀ k ∈ [a', b', c', d'], k < (ns ++ ys).length := by
      have key : ∀ q, q < 4 → part4 a' b' c' d' q < (ns ++ ys).length := fun q hq => by
        rw [f2 q hq]
        split
        · exact y2.lt
        · rw [List.length_append]; exact Nat.lt_of_lt_of_le (h2 q hq).lt (Nat.le_add_right ..)
      intro k hk
      rcases List.mem_cons.mp hk with e | hk
      · rw [e]; exact key 0 (by decide)
      rcases List.mem_cons.mp hk with e | hk
      · rw [e]; exact key 1 (by decide)
      rcases List.mem_cons.mp hk with e | hk
      · rw [e]; exact key 2 (by decide)
      rw [List.mem_singleton.mp hk]; exact key 3 (by decide)
    tb_start
    unfold lonV
    cases el : loneN (ns ++ ys) [a', b', c', d'] with
    | some k =>
      rw [el] at ke
      refine e_eqb (b' := false) (decide_eq_false (fun z => (nomatch z))) ?_
      tb_start
      exact e_end (by tb_rel) (ke)
    | none =>
      rw [el] at ke
      refine e_eqb (b' := true) (decide_eq_true rfl) ?_
      tb_start
      have h9 : (ns ++ ys).length ≤ 1000000 := by omega
      tb_start
      exact e_end (by tb_rel) (ke)
def S_without (K : PySem.W.Frag) : Tri where
  G := Addr × Addr × Addr × (List Nd) × (List Nat) × Nat × Str × Prs × Unit
  O := Unit
  args := fun (s, nn, dd, ns, td, i, n, ps, _) => [.ref s, .int i, .str n]
  cond := fun (s, nn, dd, ns, td, i, n, ps, _) => (Tbl ns td i ps) ∧ (ns[0]? = some .bare) ∧ (Nm8 n) ∧ (∀ q ∈ ps, q.2 ≠ .non) ∧ (ns.length ≤ 800000) ∧ (td.length ≤ 800000) ∧ (ps.length ≤ 50000) ∧ True
  pre := fun (s, nn, dd, ns, td, i, n, ps, _) => [Ob s (He.ga K "Store") [("nodes", .ref nn), ("told", .ref dd)], NodesA K nn (ns), pt dd (.dK (toldK (td)))]
  ok := fun (s, nn, dd, ns, td, i, n, ps, _) _ => True
  res := fun (s, nn, dd, ns, td, i, n, ps, _) _ => .int (delS (ns, td) i ps n).2
  post := fun (s, nn, dd, ns, td, i, n, ps, _) _ => [Ob s (He.ga K "Store") [("nodes", .ref nn), ("told", .ref dd)], NodesA K nn ((delS (ns, td) i ps n).1.1), pt dd (.dK (toldK ((delS (ns, td) i ps n).1.2)))]
theorem use_without {K : PySem.W.Frag} {L R : List Asn} {Q : VK} {E : XK} {s : Addr} {nn : Addr} {dd : Addr} {ns : List Nd} {td : List Nat} {i : Nat} {n : Str} {ps : Prs} (sTk : Tks L [Ob s (He.ga K "Store") [("nodes", .ref nn), ("told", .ref dd)], NodesA K nn (ns), pt dd (.dK (toldK (td)))] R) (ht : Tbl ns td i ps) (h0 : ns[0]? = some .bare) (hn : Nm8 n) (hv : ∀ q ∈ ps, q.2 ≠ .non) (hz : ns.length ≤ 800000) (hz2 : td.length ≤ 800000) (hp : ps.length ≤ 50000) (kk : Al (Ob s (He.ga K "Store") [("nodes", .ref nn), ("told", .ref dd)] :: NodesA K nn ((delS (ns, td) i ps n).1.1) :: pt dd (.dK (toldK ((delS (ns, td) i ps n).1.2))) :: R) (Q (.int (delS (ns, td) i ps n).2))) : Al L (xP (S_without K).sp [.ref s, .int i, .str n] Q E) :=
  Tri.useT (S_without K) (s, nn, dd, ns, td, i, n, ps, ()) rfl ⟨ht, h0, hn, hv, hz, hz2, hp, trivial⟩ sTk (fun _ _ => kk )
local macro_rules | `(tactic| kpt_turns) => `(tactic| ((with_reducible apply use_without); tb_rel; (k_all); (k_all); (k_all); (k_all); (k_all); (k_all); (k_all)))
abbrev N_Store_without : List Str := ["self", "table", "name"]
theorem sc_Store_without : FnScope N_Store_without ["self", "table", "name"] (defScope s_Store_without) := ⟨rfl, rfl, rfl, by decide +kernel, rfl, by decide +kernel, by decide +kernel⟩
theorem ok_Store_without (T : Fx K mg) (B : Bx K mg base) : FnG P w K mg base 12 (He.fAd K ("Store", some "without")) ["self", "table", "name"] (S_without K).sp := by
  refine Tri.fnC (N := N_Store_without) (k := 11) (S_without K) T.d_Store_without sc_Store_without (fun g => rfl) (fun _ _ _ _ _ _ us hl => match us, hl with | [_, _, _], _ => rfl) fun cdv A outer s H E Q g R hcd hr hc ke kx => ⟨_, PSs.nox ((pss_cons (ps_if (pt_cmpR o_is (ge_meth (pv 0) T.c_Store T.t_Store_looked (ok_Store_looked T B) hr.mono px0 (pa_cons (pv 1) (pa_cons (pv 2) pa_nil))) pe_non (nomark _)) (pss_one (ps_ret (pv 1))) pss_nil)
    (pss_one (ps_ret (ge_meth (pv 0) T.c_Store T.t_Store_tell (ok_Store_tell T B) hr.mono px0 (pa_cons (ge_meth (pv 0) T.c_Store T.t_Store_left_at (ok_Store_left_at T B 8) hr.mono px0 (pa_cons (pv 1) (pa_cons (ge_call (ok_mark T B) hr.mono rfl T.g_mark px0 (pa_cons (pv 2) pa_nil)) (pa_cons (pv 2) (pa_cons pe_int pa_nil))))) pa_nil)))))), ?_⟩
  obtain ⟨s, nn, dd, ns, td, i, n, ps, _⟩ := g
  obtain ⟨ht, h0, hn, hv, hz, hz2, hp, _⟩ := hc
  replace ke : Al [Ob s (He.ga K "Store") [("nodes", .ref nn), ("told", .ref dd)], NodesA K nn ((delS (ns, td) i ps n).1.1), pt dd (.dK (toldK ((delS (ns, td) i ps n).1.2))), R] (Q (.int (delS (ns, td) i ps n).2)) := ke () trivial
  try dsimp only [cxOf]
  refine e_start (L := [Ob s (He.ga K "Store") [("nodes", .ref nn), ("told", .ref dd)], NodesA K nn (ns), pt dd (.dK (toldK (td))), R]) (nx := fun _ H' => Q .non H') (rt := Q) (bk := fun _ _ => False) (ct := fun _ _ => False) [some (.ref s), some (.int i), some (.str n)] rfl ?_
  have h2 := hn.n
  have h3 := hn.b
  tb_start
  cases e : fnd ps n with
  | none =>
    have e2 : delS (ns, td) i ps n = ((ns, td), i) := if_pos e
    rw [e2] at ke
    refine e_eqb (b' := true) (decide_eq_true rfl) ?_
    tb_start
    exact e_end (by tb_rel) (ke)
  | some u =>
    have hm := fnd_some e
    have hu := hv _ hm
    have e2 : delS (ns, td) i ps n = (((delN 6 ns i (mkS n) n 0).1, AL.tell td (delN 6 ns i (mkS n) n 0).2), (delN 6 ns i (mkS n) n 0).2) := if_neg (by rw [e]; exact fun z => (nomatch z))
    rw [e2] at ke
    refine e_eqb (b' := false) (decide_eq_false hu) ?_
    tb_start
    refine use_leftat (j := 8) (v := u) (ps := ps) (l := 0) (by tb_rel) (by omega) (by omega) (ht.mk_at _) ht.r h0 hm (by omega) hp ?_
    tb_start
    exact e_end (by tb_rel) (ke)
end

section
variable {P : Program} {w : World} {K : PySem.W.Frag} {mg : Str → Option Value} {base : Heap}
local macro_rules | `(tactic| kpt_turns) => `(tactic| ((with_reducible apply use_cell); tb_rel))
local macro_rules | `(tactic| kpt_turns) => `(tactic| ((with_reducible apply use_mark); tb_rel; (k_all); (k_all)))
local macro_rules | `(tactic| kpt_turns) => `(tactic| ((with_reducible apply use_digit); tb_rel; (k_all)))
local macro_rules | `(tactic| kpt_turns) => `(tactic| ((with_reducible apply use_isleaf); tb_rel))
local macro_rules | `(tactic| kpt_turns) => `(tactic| ((with_reducible apply use_isfork); tb_rel))
local macro_rules | `(tactic| kpt_turns) => `(tactic| ((with_reducible apply use_ninit); tb_rel))
local macro_rules | `(tactic| kpt_turns) => `(tactic| ((with_reducible apply use_nmany); tb_rel))
local macro_rules | `(tactic| kpt_turns) => `(tactic| ((with_reducible apply use_nmake); tb_rel; (k_all)))
local macro_rules | `(tactic| kpt_turns) => `(tactic| ((with_reducible apply use_nleaf); tb_rel; (k_all)))
local macro_rules | `(tactic| kpt_turns) => `(tactic| ((with_reducible apply use_nfork); tb_rel; (k_all)))
local macro_rules | `(tactic| kpt_turns) => `(tactic| ((with_reducible apply use_valuein); tb_rel))
local macro_rules | `(tactic| kpt_turns) => `(tactic| ((with_reducible apply use_alike); tb_rel; (k_all); (k_all)))
local macro_rules | `(tactic| kpt_turns) => `(tactic| ((with_reducible apply use_sinit); tb_rel))
local macro_rules | `(tactic| kpt_turns) => `(tactic| ((with_reducible apply use_look); tb_rel; (k_all)))
local macro_rules | `(tactic| kpt_turns) => `(tactic| ((with_reducible apply use_tell); tb_rel; (k_all)))
local macro_rules | `(tactic| kpt_turns) => `(tactic| ((with_reducible apply use_empty); tb_rel))
local macro_rules | `(tactic| kpt_turns) => `(tactic| ((with_reducible apply use_looked); tb_rel; (k_all); (k_all)))
local macro_rules | `(tactic| kpt_turns) => `(tactic| ((with_reducible apply use_parted); tb_rel; (k_all); (k_all); (k_all); (k_all); (k_all); (k_all); (k_all)))
local macro_rules | `(tactic| kpt_turns) => `(tactic| ((with_reducible apply use_putat); tb_rel; (k_all); (k_all); (k_all); (k_all); (k_all); (k_all); (k_all); (k_all); (k_all)))
local macro_rules | `(tactic| kpt_turns) => `(tactic| ((with_reducible apply use_put); tb_rel; (k_all); (k_all); (k_all); (k_all); (k_all); (k_all); (k_all); (k_all)))
local macro_rules | `(tactic| kpt_turns) => `(tactic| ((with_reducible apply use_lone); tb_rel; (k_all)))
local macro_rules | `(tactic| kpt_turns) => `(tactic| ((with_reducible apply use_leftat); tb_rel; (k_all); (k_all); (k_all); (k_all); (k_all); (k_all); (k_all); (k_all)))
local macro_rules | `(tactic| kpt_turns) => `(tactic| ((with_reducible apply use_without); tb_rel; (k_all); (k_all); (k_all); (k_all); (k_all); (k_all); (k_all)))
/-! ### stores: nodes told -/
def S_made (K : PySem.W.Frag) : Tri where
  G := Addr × Addr × Addr × (List Nd) × (List Nat) × Unit
  O := Unit
  args := fun (s, nn, dd, ns, td, _) => [.ref s]
  cond := fun (s, nn, dd, ns, td, _) => True
  pre := fun (s, nn, dd, ns, td, _) => [Ob s (He.ga K "Store") [("nodes", .ref nn), ("told", .ref dd)], NodesA K nn (ns), pt dd (.dK (toldK (td)))]
  ok := fun (s, nn, dd, ns, td, _) _ => True
  res := fun (s, nn, dd, ns, td, _) _ => .int ns.length
  post := fun (s, nn, dd, ns, td, _) _ => [Ob s (He.ga K "Store") [("nodes", .ref nn), ("told", .ref dd)], NodesA K nn (ns), pt dd (.dK (toldK (td)))]
theorem use_made {K : PySem.W.Frag} {L R : List Asn} {Q : VK} {E : XK} {s : Addr} {nn : Addr} {dd : Addr} {ns : List Nd} {td : List Nat} (sTk : Tks L [Ob s (He.ga K "Store") [("nodes", .ref nn), ("told", .ref dd)], NodesA K nn (ns), pt dd (.dK (toldK (td)))] R)  (kk : Al (Ob s (He.ga K "Store") [("nodes", .ref nn), ("told", .ref dd)] :: NodesA K nn (ns) :: pt dd (.dK (toldK (td))) :: R) (Q (.int ns.length))) : Al L (xP (S_made K).sp [.ref s] Q E) :=
  Tri.useT (S_made K) (s, nn, dd, ns, td, ()) rfl trivial sTk (fun _ _ => kk )
local macro_rules | `(tactic| kpt_turns) => `(tactic| ((with_reducible apply use_made); tb_rel))
abbrev N_Store_made : List Str := ["self"]
theorem sc_Store_made : FnScope N_Store_made ["self"] (defScope s_Store_made) := ⟨rfl, rfl, rfl, by decide +kernel, rfl, by decide +kernel, by decide +kernel⟩
theorem ok_Store_made (T : Fx K mg) (B : Bx K mg base) : FnG P w K mg base 2 (He.fAd K ("Store", some "made")) ["self"] (S_made K).sp := by
  refine Tri.fnC (N := N_Store_made) (k := 1) (S_made K) T.d_Store_made sc_Store_made (fun g => rfl) (fun _ _ _ _ _ _ us hl => match us, hl with | [_], _ => rfl) fun cdv A outer s H E Q g R hcd hr hc ke kx => ⟨_, PSs.nox ((pss_one (ps_ret (ge_meth0 (q_fld (K := K) rfl (pv 0) rfl) T.c_Nodes T.t_Nodes_many (ok_Nodes_many T B) hr.mono px0)))), ?_⟩
  obtain ⟨s, nn, dd, ns, td, _⟩ := g
  replace ke : Al [Ob s (He.ga K "Store") [("nodes", .ref nn), ("told", .ref dd)], NodesA K nn (ns), pt dd (.dK (toldK (td))), R] (Q (.int ns.length)) := ke () trivial
  try dsimp only [cxOf]
  refine e_start (L := [Ob s (He.ga K "Store") [("nodes", .ref nn), ("told", .ref dd)], NodesA K nn (ns), pt dd (.dK (toldK (td))), R]) (nx := fun _ H' => Q .non H') (rt := Q) (bk := fun _ _ => False) (ct := fun _ _ => False) [some (.ref s)] rfl ?_
  tb_start
  exact e_end (by tb_rel) (ke)
end

section
variable {P : Program} {w : World} {K : PySem.W.Frag} {mg : Str → Option Value} {base : Heap}
local macro_rules | `(tactic| kpt_turns) => `(tactic| ((with_reducible apply use_cell); tb_rel))
local macro_rules | `(tactic| kpt_turns) => `(tactic| ((with_reducible apply use_mark); tb_rel; (k_all); (k_all)))
local macro_rules | `(tactic| kpt_turns) => `(tactic| ((with_reducible apply use_digit); tb_rel; (k_all)))
local macro_rules | `(tactic| kpt_turns) => `(tactic| ((with_reducible apply use_isleaf); tb_rel))
local macro_rules | `(tactic| kpt_turns) => `(tactic| ((with_reducible apply use_isfork); tb_rel))
local macro_rules | `(tactic| kpt_turns) => `(tactic| ((with_reducible apply use_ninit); tb_rel))
local macro_rules | `(tactic| kpt_turns) => `(tactic| ((with_reducible apply use_nmany); tb_rel))
local macro_rules | `(tactic| kpt_turns) => `(tactic| ((with_reducible apply use_nmake); tb_rel; (k_all)))
local macro_rules | `(tactic| kpt_turns) => `(tactic| ((with_reducible apply use_nleaf); tb_rel; (k_all)))
local macro_rules | `(tactic| kpt_turns) => `(tactic| ((with_reducible apply use_nfork); tb_rel; (k_all)))
local macro_rules | `(tactic| kpt_turns) => `(tactic| ((with_reducible apply use_valuein); tb_rel))
local macro_rules | `(tactic| kpt_turns) => `(tactic| ((with_reducible apply use_alike); tb_rel; (k_all); (k_all)))
local macro_rules | `(tactic| kpt_turns) => `(tactic| ((with_reducible apply use_sinit); tb_rel))
local macro_rules | `(tactic| kpt_turns) => `(tactic| ((with_reducible apply use_look); tb_rel; (k_all)))
local macro_rules | `(tactic| kpt_turns) => `(tactic| ((with_reducible apply use_tell); tb_rel; (k_all)))
local macro_rules | `(tactic| kpt_turns) => `(tactic| ((with_reducible apply use_empty); tb_rel))
local macro_rules | `(tactic| kpt_turns) => `(tactic| ((with_reducible apply use_looked); tb_rel; (k_all); (k_all)))
local macro_rules | `(tactic| kpt_turns) => `(tactic| ((with_reducible apply use_parted); tb_rel; (k_all); (k_all); (k_all); (k_all); (k_all); (k_all); (k_all)))
local macro_rules | `(tactic| kpt_turns) => `(tactic| ((with_reducible apply use_putat); tb_rel; (k_all); (k_all); (k_all); (k_all); (k_all); (k_all); (k_all); (k_all); (k_all)))
local macro_rules | `(tactic| kpt_turns) => `(tactic| ((with_reducible apply use_put); tb_rel; (k_all); (k_all); (k_all); (k_all); (k_all); (k_all); (k_all); (k_all)))
local macro_rules | `(tactic| kpt_turns) => `(tactic| ((with_reducible apply use_lone); tb_rel; (k_all)))
local macro_rules | `(tactic| kpt_turns) => `(tactic| ((with_reducible apply use_leftat); tb_rel; (k_all); (k_all); (k_all); (k_all); (k_all); (k_all); (k_all); (k_all)))
local macro_rules | `(tactic| kpt_turns) => `(tactic| ((with_reducible apply use_without); tb_rel; (k_all); (k_all); (k_all); (k_all); (k_all); (k_all); (k_all)))
local macro_rules | `(tactic| kpt_turns) => `(tactic| ((with_reducible apply use_made); tb_rel))
abbrev N_NoTable__init_ : List Str := ["self", "what"]
theorem sc_NoTable__init_ : FnScope N_NoTable__init_ ["self", "what"] (defScope s_NoTable__init_) := ⟨rfl, rfl, rfl, by decide +kernel, rfl, by decide +kernel, by decide +kernel⟩
theorem oki_NoTable (T : Fx K mg) (B : Bx K mg base) : FnG P w K mg base 1 (He.ma K (He.ga K "NoTable") "__init__") ["self", "what"] (spI (He.ga K "NoTable")) := by
  obtain ⟨fd, F⟩ := T.d_NoTable__init_
  exact fn_g (N := N_NoTable__init_) F sc_NoTable__init_ (fun vs H Q E ⟨a, w, e, _⟩ => by rw [e]; rfl) (fun _ _ _ _ _ _ us hl => match us, hl with | [_, _], _ => rfl) fun cdv A outer s H vs Q E hr h => ⟨_, PSs.nox ((pss_cons (ps_expr (pe_clsinit (by rfl) T.g_RoadError B.x.bas (pa_cons (pv 0) (pa_cons pe_str pa_nil))))
    (pss_one (ps_ost (pv 0) (pv 1))))), init_reads (B.x.xc "NoTable" (by decide)) h⟩
abbrev N_NoPlace__init_ : List Str := ["self", "what"]
theorem sc_NoPlace__init_ : FnScope N_NoPlace__init_ ["self", "what"] (defScope s_NoPlace__init_) := ⟨rfl, rfl, rfl, by decide +kernel, rfl, by decide +kernel, by decide +kernel⟩
theorem oki_NoPlace (T : Fx K mg) (B : Bx K mg base) : FnG P w K mg base 1 (He.ma K (He.ga K "NoPlace") "__init__") ["self", "what"] (spI (He.ga K "NoPlace")) := by
  obtain ⟨fd, F⟩ := T.d_NoPlace__init_
  exact fn_g (N := N_NoPlace__init_) F sc_NoPlace__init_ (fun vs H Q E ⟨a, w, e, _⟩ => by rw [e]; rfl) (fun _ _ _ _ _ _ us hl => match us, hl with | [_, _], _ => rfl) fun cdv A outer s H vs Q E hr h => ⟨_, PSs.nox ((pss_cons (ps_expr (pe_clsinit (by rfl) T.g_RoadError B.x.bas (pa_cons (pv 0) (pa_cons pe_str pa_nil))))
    (pss_one (ps_ost (pv 0) (pv 1))))), init_reads (B.x.xc "NoPlace" (by decide)) h⟩
abbrev N_NotBehind__init_ : List Str := ["self", "what"]
theorem sc_NotBehind__init_ : FnScope N_NotBehind__init_ ["self", "what"] (defScope s_NotBehind__init_) := ⟨rfl, rfl, rfl, by decide +kernel, rfl, by decide +kernel, by decide +kernel⟩
theorem oki_NotBehind (T : Fx K mg) (B : Bx K mg base) : FnG P w K mg base 1 (He.ma K (He.ga K "NotBehind") "__init__") ["self", "what"] (spI (He.ga K "NotBehind")) := by
  obtain ⟨fd, F⟩ := T.d_NotBehind__init_
  exact fn_g (N := N_NotBehind__init_) F sc_NotBehind__init_ (fun vs H Q E ⟨a, w, e, _⟩ => by rw [e]; rfl) (fun _ _ _ _ _ _ us hl => match us, hl with | [_, _], _ => rfl) fun cdv A outer s H vs Q E hr h => ⟨_, PSs.nox ((pss_cons (ps_expr (pe_clsinit (by rfl) T.g_RoadError B.x.bas (pa_cons (pv 0) (pa_cons pe_str pa_nil))))
    (pss_one (ps_ost (pv 0) (pv 1))))), init_reads (B.x.xc "NotBehind" (by decide)) h⟩
/-! ### roads -/
local macro_rules | `(tactic| kpt_turns) => `(tactic| first | ((with_reducible apply e_stmeth); tb_rel; assumption; (intro _; rfl)) | ((with_reducible apply e_stf); tb_rel; assumption; kd_mem; kd_in; (intro _; rfl)))
def S_stinit (K : PySem.W.Frag) : Tri where
  G := Addr × (Option Nat) × V × (Option (Str × Option V)) × Nat × Nat × Nat × Unit
  O := Unit
  args := fun (x, b, mv, mo, far, tab, more, _) => [.ref x, befV b, mv, .int far, .int tab, .int more]
  cond := fun (x, b, mv, mo, far, tab, more, _) => True
  pre := fun (x, b, mv, mo, far, tab, more, _) => [Ob x (He.ga K "Stop") [], Fz K mv (mvD mo)]
  ok := fun (x, b, mv, mo, far, tab, more, _) _ => True
  res := fun (x, b, mv, mo, far, tab, more, _) _ => .non
  post := fun (x, b, mv, mo, far, tab, more, _) _ => [StopA K (x, ⟨b, mo, far, tab, more⟩)]
theorem use_stinit {K : PySem.W.Frag} {L R : List Asn} {Q : VK} {E : XK} {x : Addr} {b : Option Nat} {mv : V} {mo : Option (Str × Option V)} {far : Nat} {tab : Nat} {more : Nat} (sTk : Tks L [Ob x (He.ga K "Stop") [], Fz K mv (mvD mo)] R)  (kk : Al (StopA K (x, ⟨b, mo, far, tab, more⟩) :: R) (Q (.non))) : Al L (xP (S_stinit K).sp [.ref x, befV b, mv, .int far, .int tab, .int more] Q E) :=
  Tri.useT (S_stinit K) (x, b, mv, mo, far, tab, more, ()) rfl trivial sTk (fun _ _ => kk )
local macro_rules | `(tactic| kpt_turns) => `(tactic| ((with_reducible apply use_stinit); tb_rel))
abbrev N_Stop__init_ : List Str := ["self", "before_it", "move_made", "far_on", "table_there", "nodes_more"]
theorem sc_Stop__init_ : FnScope N_Stop__init_ ["self", "before_it", "move_made", "far_on", "table_there", "nodes_more"] (defScope s_Stop__init_) := ⟨rfl, rfl, rfl, by decide +kernel, rfl, by decide +kernel, by decide +kernel⟩
theorem ok_Stop__init_ (T : Fx K mg) (B : Bx K mg base) : FnG P w K mg base 1 (He.fAd K ("Stop", some "__init__")) ["self", "before_it", "move_made", "far_on", "table_there", "nodes_more"] (S_stinit K).sp := by
  refine Tri.fnC (N := N_Stop__init_) (k := 0) (S_stinit K) T.d_Stop__init_ sc_Stop__init_ (fun g => rfl) (fun _ _ _ _ _ _ us hl => match us, hl with | [_, _, _, _, _, _], _ => rfl) fun cdv A outer s H E Q g R hcd hr hc ke kx => ⟨_, PSs.nox ((pss_cons (ps_fld (pv 0) (pv 1) rfl)
    (pss_cons (ps_fld (pv 0) (pv 2) rfl)
    (pss_cons (ps_fld (pv 0) (pv 3) rfl)
    (pss_cons (ps_fld (pv 0) (pv 4) rfl)
    (pss_one (ps_fld (pv 0) (pv 5) rfl))))))), ?_⟩
  obtain ⟨x, b, mv, mo, far, tab, more, _⟩ := g
  replace ke : Al [StopA K (x, ⟨b, mo, far, tab, more⟩), R] (Q (.non)) := ke () trivial
  try dsimp only [cxOf]
  refine e_start (L := [Ob x (He.ga K "Stop") [], Fz K mv (mvD mo), R]) (nx := fun _ H' => Q .non H') (rt := Q) (bk := fun _ _ => False) (ct := fun _ _ => False) [some (.ref x), some (befV b), some (mv), some (.int far), some (.int tab), some (.int more)] rfl ?_
  tb_start
  refine StopA.fold (a := x) (x := ⟨b, mo, far, tab, more⟩) (mv := mv) (by tb_rel) ?_
  exact e_end (by tb_rel) (ke)
def S_rinit (K : PySem.W.Frag) : Tri where
  G := Addr × Unit
  O := Addr × Addr × Addr × Addr × Addr × Unit
  args := fun (x, _) => [.ref x]
  cond := fun (x, _) => True
  pre := fun (x, _) => [Ob x (He.ga K "Roads") []]
  ok := fun (x, _) (s, sl, nn, dd, a0, _) => True
  res := fun (x, _) (s, sl, nn, dd, a0, _) => .non
  post := fun (x, _) (s, sl, nn, dd, a0, _) => [Ob x (He.ga K "Roads") [("shelf", .ref s), ("stops", .ref sl)], pt sl (.lst ([(a0, Stp.zero)].map fun z => V.ref z.1)), StsA K [(a0, Stp.zero)], Ob s (He.ga K "Store") [("nodes", .ref nn), ("told", .ref dd)], NodesA K nn ([.bare]), pt dd (.dK (toldK ([0])))]
theorem use_rinit {K : PySem.W.Frag} {L R : List Asn} {Q : VK} {E : XK} {x : Addr} (sTk : Tks L [Ob x (He.ga K "Roads") []] R)  (kk : ∀ (s : Addr) (sl : Addr) (nn : Addr) (dd : Addr) (a0 : Addr), Al (Ob x (He.ga K "Roads") [("shelf", .ref s), ("stops", .ref sl)] :: pt sl (.lst ([(a0, Stp.zero)].map fun z => V.ref z.1)) :: StsA K [(a0, Stp.zero)] :: Ob s (He.ga K "Store") [("nodes", .ref nn), ("told", .ref dd)] :: NodesA K nn ([.bare]) :: pt dd (.dK (toldK ([0]))) :: R) (Q (.non))) : Al L (xP (S_rinit K).sp [.ref x] Q E) :=
  Tri.useT (S_rinit K) (x, ()) rfl trivial sTk (fun ⟨s, sl, nn, dd, a0, _⟩ _ => kk s sl nn dd a0)
abbrev N_Roads__init_ : List Str := ["self"]
theorem sc_Roads__init_ : FnScope N_Roads__init_ ["self"] (defScope s_Roads__init_) := ⟨rfl, rfl, rfl, by decide +kernel, rfl, by decide +kernel, by decide +kernel⟩
theorem ok_Roads__init_ (T : Fx K mg) (B : Bx K mg base) : FnG P w K mg base 5 (He.fAd K ("Roads", some "__init__")) ["self"] (S_rinit K).sp := by
  refine Tri.fnC (N := N_Roads__init_) (k := 4) (S_rinit K) T.d_Roads__init_ sc_Roads__init_ (fun g => rfl) (fun _ _ _ _ _ _ us hl => match us, hl with | [_], _ => rfl) fun cdv A outer s H E Q g R hcd hr hc ke kx => ⟨_, PSs.nox ((pss_cons (ps_fld (pv 0) (ge_make0 T.m_Store (ok_Store__init_ T B) hr.mono rfl T.g_Store px0) rfl)
    (pss_one (ps_fld (pv 0) (pe_lst (pa_cons (ge_make T.m_Stop (ok_Stop__init_ T B) hr.mono rfl T.g_Stop px0 (pa_cons pe_non (pa_cons pe_non (pa_cons pe_int (pa_cons (ge_meth0 (q_fld (K := K) rfl (pv 0) rfl) T.c_Store T.t_Store_empty (ok_Store_empty T B) hr.mono px0) (pa_cons pe_int pa_nil)))))) pa_nil)) rfl)))), ?_⟩
  obtain ⟨x, _⟩ := g
  replace ke : ∀ (s : Addr) (sl : Addr) (nn : Addr) (dd : Addr) (a0 : Addr), Al [Ob x (He.ga K "Roads") [("shelf", .ref s), ("stops", .ref sl)], pt sl (.lst ([(a0, Stp.zero)].map fun z => V.ref z.1)), StsA K [(a0, Stp.zero)], Ob s (He.ga K "Store") [("nodes", .ref nn), ("told", .ref dd)], NodesA K nn ([.bare]), pt dd (.dK (toldK ([0]))), R] (Q (.non)) := fun s sl nn dd a0 => ke (s, sl, nn, dd, a0, ()) trivial
  try dsimp only [cxOf]
  refine e_start (L := [Ob x (He.ga K "Roads") [], R]) (nx := fun _ H' => Q .non H') (rt := Q) (bk := fun _ _ => False) (ct := fun _ _ => False) [some (.ref x)] rfl ?_
  tb_start
  rename_i s0
  obtain ⟨a0, rfl⟩ : ∃ y, y = p := ⟨p, rfl⟩
  refine Al.z (K := K) (x := .non) (d := mvD none) .non ?_
  refine use_stinit (b := none) (mo := none) (far := 0) (tab := 0) (more := 0) (by tb_rel) ?_
  tb_start
  refine StsA.nil (K := K) ?_
  refine StsA.add (zs := []) (by tb_rel) (by tb_rel) ?_
  change Al (StsA K [(a0, Stp.zero)] :: Ob _ _ _ :: pt p (.lst ([(a0, Stp.zero)].map fun z => V.ref z.1)) :: _) _
  refine Al.tk (A := StoreA K s0 [.bare] [0]) (by tb_rel) (StoreA.open fun nn dd => ?_)
  exact e_end (by tb_rel) (ke (s0) (p) (nn) (dd) (a0))
def S_stopat (K : PySem.W.Frag) : Tri where
  G := Addr × Addr × Addr × (List (Addr × Stp)) × Nat × Addr × Stp × Unit
  O := Unit
  args := fun (r, s, sl, zs, i, a, x, _) => [.ref r, .int i]
  cond := fun (r, s, sl, zs, i, a, x, _) => (zs[i]? = some (a, x)) ∧ True
  pre := fun (r, s, sl, zs, i, a, x, _) => [Ob r (He.ga K "Roads") [("shelf", .ref s), ("stops", .ref sl)], pt sl (.lst (zs.map fun z => V.ref z.1)), StsA K zs]
  ok := fun (r, s, sl, zs, i, a, x, _) _ => True
  res := fun (r, s, sl, zs, i, a, x, _) _ => .ref a
  post := fun (r, s, sl, zs, i, a, x, _) _ => [Ob r (He.ga K "Roads") [("shelf", .ref s), ("stops", .ref sl)], pt sl (.lst (zs.map fun z => V.ref z.1)), StsA K zs]
theorem use_stopat {K : PySem.W.Frag} {L R : List Asn} {Q : VK} {E : XK} {r : Addr} {s : Addr} {sl : Addr} {zs : List (Addr × Stp)} {i : Nat} {a : Addr} {x : Stp} (sTk : Tks L [Ob r (He.ga K "Roads") [("shelf", .ref s), ("stops", .ref sl)], pt sl (.lst (zs.map fun z => V.ref z.1)), StsA K zs] R) (hx : zs[i]? = some (a, x)) (kk : Al (Ob r (He.ga K "Roads") [("shelf", .ref s), ("stops", .ref sl)] :: pt sl (.lst (zs.map fun z => V.ref z.1)) :: StsA K zs :: R) (Q (.ref a))) : Al L (xP (S_stopat K).sp [.ref r, .int i] Q E) :=
  Tri.useT (S_stopat K) (r, s, sl, zs, i, a, x, ()) rfl ⟨hx, trivial⟩ sTk (fun _ _ => kk )
local macro_rules | `(tactic| kpt_turns) => `(tactic| ((with_reducible apply use_stopat); tb_rel; (k_all)))
abbrev N_Roads_stop_at : List Str := ["self", "place"]
theorem sc_Roads_stop_at : FnScope N_Roads_stop_at ["self", "place"] (defScope s_Roads_stop_at) := ⟨rfl, rfl, rfl, by decide +kernel, rfl, by decide +kernel, by decide +kernel⟩
theorem ok_Roads_stop_at (T : Fx K mg) (B : Bx K mg base) : FnG P w K mg base 3 (He.fAd K ("Roads", some "stop_at")) ["self", "place"] (S_stopat K).sp := by
  refine Tri.fnC (N := N_Roads_stop_at) (k := 2) (S_stopat K) T.d_Roads_stop_at sc_Roads_stop_at (fun g => rfl) (fun _ _ _ _ _ _ us hl => match us, hl with | [_, _], _ => rfl) fun cdv A outer s H E Q g R hcd hr hc ke kx => ⟨_, PSs.nox ((pss_cons (ps_if (pt_not (pt_chain o_le o_lt pe_int (pv 1) (pe_callB (q_len (K := K) rfl) (by rfl) T.b_len (by decide +kernel) (pa_cons (q_fld (K := K) rfl (pv 0) rfl) pa_nil)))) (pss_one AL.ps_never) pss_nil)
    (pss_one (ps_ret (pe_ix (q_ix (K := K) rfl hr.u1) (q_fld (K := K) rfl (pv 0) rfl) (pv 1) (fun _ _ => rfl)))))), ?_⟩
  obtain ⟨r, s, sl, zs, i, a, x, _⟩ := g
  obtain ⟨hx, _⟩ := hc
  replace ke : Al [Ob r (He.ga K "Roads") [("shelf", .ref s), ("stops", .ref sl)], pt sl (.lst (zs.map fun z => V.ref z.1)), StsA K zs, R] (Q (.ref a)) := ke () trivial
  try dsimp only [cxOf]
  refine e_start (L := [Ob r (He.ga K "Roads") [("shelf", .ref s), ("stops", .ref sl)], pt sl (.lst (zs.map fun z => V.ref z.1)), StsA K zs, R]) (nx := fun _ H' => Q .non H') (rt := Q) (bk := fun _ _ => False) (ct := fun _ _ => False) [some (.ref r), some (.int i)] rfl ?_
  have hi := (List.getElem?_eq_some_iff.mp hx).1
  tb_start
  rw [List.length_map]
  tb_start
  refine e_eqb (b' := false) (by simp; omega) ?_
  tb_start
  refine e_xL (v := .ref a) (by top_args) (atI_nat (by rw [List.getElem?_map, hx]; rfl)) ?_
  exact e_end (by tb_rel) (ke)
def S_stopatx (K : PySem.W.Frag) : Tri where
  G := Addr × Addr × Addr × (List (Addr × Stp)) × Int × Unit
  O := Unit
  args := fun (r, s, sl, zs, i, _) => [.ref r, .int i]
  cond := fun (r, s, sl, zs, i, _) => (¬ (0 ≤ i ∧ i < zs.length)) ∧ True
  pre := fun (r, s, sl, zs, i, _) => [Ob r (He.ga K "Roads") [("shelf", .ref s), ("stops", .ref sl)], pt sl (.lst (zs.map fun z => V.ref z.1)), StsA K zs]
  ok := fun (r, s, sl, zs, i, _) _ => (False) ∧ True
  res := fun (r, s, sl, zs, i, _) _ => .non
  post := fun (r, s, sl, zs, i, _) _ => []
  exc := fun (r, s, sl, zs, i, _) => fun c d M => Refd K "NoPlace" (.int i) [Ob r (He.ga K "Roads") [("shelf", .ref s), ("stops", .ref sl)], pt sl (.lst (zs.map fun z => V.ref z.1)), StsA K zs] c d M
theorem use_stopatx {K : PySem.W.Frag} {L R : List Asn} {Q : VK} {E : XK} {r : Addr} {s : Addr} {sl : Addr} {zs : List (Addr × Stp)} {i : Int} (sTk : Tks L [Ob r (He.ga K "Roads") [("shelf", .ref s), ("stops", .ref sl)], pt sl (.lst (zs.map fun z => V.ref z.1)), StsA K zs] R) (hi : ¬ (0 ≤ i ∧ i < zs.length)) (kk : ∀ (_ : False), Al R (Q (.non))) (kkx : ∀ c d M, (Refd K "NoPlace" (.int i) [Ob r (He.ga K "Roads") [("shelf", .ref s), ("stops", .ref sl)], pt sl (.lst (zs.map fun z => V.ref z.1)), StsA K zs] c d M) → Al (M ++ R) (E c d)) : Al L (xP (S_stopatx K).sp [.ref r, .int i] Q E) :=
  Tri.useT (S_stopatx K) (r, s, sl, zs, i, ()) rfl ⟨hi, trivial⟩ sTk (fun _ ⟨hh0, _⟩ => kk hh0) kkx
theorem okx_stopatx (T : Fx K mg) (B : Bx K mg base) : FnG P w K mg base 3 (He.fAd K ("Roads", some "stop_at")) ["self", "place"] (S_stopatx K).sp := by
  refine Tri.fnC (N := N_Roads_stop_at) (k := 2) (S_stopatx K) T.d_Roads_stop_at sc_Roads_stop_at (fun g => rfl) (fun _ _ _ _ _ _ us hl => match us, hl with | [_, _], _ => rfl) fun cdv A outer s H E Q g R hcd hr hc ke kx => ⟨_, ((pss_cons (ps_if (pt_not (pt_chain o_le o_lt pe_int (pv 1) (pe_callB (q_len (K := K) rfl) (by rfl) T.b_len (by decide +kernel) (pa_cons (q_fld (K := K) rfl (pv 0) rfl) pa_nil)))) (pss_one (ps_raise_w rfl (takes_of rfl rfl rfl rfl) (B.x.xc "NoPlace" (by decide)) (B.x.ini "NoPlace" (by decide)).1 (B.x.ini "NoPlace" (by decide)).2 (oki_NoPlace T B) hr.mono (by rfl) T.g_NoPlace (pa_cons (pv 1) pa_nil))) pss_nil)
    (pss_one (ps_ret (pe_ix (q_ix (K := K) rfl hr.u1) (q_fld (K := K) rfl (pv 0) rfl) (pv 1) (fun _ _ => rfl)))))), ?_⟩
  obtain ⟨r, s, sl, zs, i, _⟩ := g
  obtain ⟨hi, _⟩ := hc
  replace ke : ∀ (_ : False), Al [R] (Q (.non)) := fun hh0 => ke () ⟨hh0, trivial⟩
  replace kx : ∀ ddX, Al [pt ddX (.xd [("what", (.int i))]), Ob r (He.ga K "Roads") [("shelf", .ref s), ("stops", .ref sl)], pt sl (.lst (zs.map fun z => V.ref z.1)), StsA K zs, R] (E (.ref (He.ga K "NoPlace")) (some ddX)) := fun ddX => kx _ _ _ ⟨rfl, ddX, rfl, rfl⟩
  try dsimp only [cxOf]
  refine e_start (L := [Ob r (He.ga K "Roads") [("shelf", .ref s), ("stops", .ref sl)], pt sl (.lst (zs.map fun z => V.ref z.1)), StsA K zs, R]) (nx := fun _ H' => Q .non H') (rt := Q) (bk := fun _ _ => False) (ct := fun _ _ => False) [some (.ref r), some (.int i)] rfl ?_
  tb_start
  rw [List.length_map]
  tb_start
  refine e_eqb (b' := true) (by simp; omega) ?_
  tb_start
  exact e_end (by tb_rel) (kx _)
theorem okU_Roads_stop_at (T : Fx K mg) (B : Bx K mg base) : FnG P w K mg base 3 (He.fAd K ("Roads", some "stop_at")) ["self", "place"] (spO (S_stopat K).sp ((S_stopatx K).sp)) := FnG.or (ok_Roads_stop_at T B) ((okx_stopatx T B))
def S_tbehind (K : PySem.W.Frag) : Tri where
  G := Addr × Addr × Addr × Addr × Addr × (List Nd) × (List Nat) × Nat × Prs × Str × (Option V) × V × Unit
  O := Unit
  args := fun (r, s, sl, nn, dd, nds, td, t, ps, n, ov, mv, _) => [.ref r, .int t, mv]
  cond := fun (r, s, sl, nn, dd, nds, td, t, ps, n, ov, mv, _) => (Tbl nds td t ps) ∧ (nds[0]? = some Nd.bare) ∧ (Nm8 n) ∧ (∀ v, ov = some v → Vok v) ∧ (∀ q ∈ ps, q.2 ≠ .non) ∧ (nds.length ≤ 800000) ∧ (td.length ≤ 800000) ∧ (ps.length ≤ 50000) ∧ True
  pre := fun (r, s, sl, nn, dd, nds, td, t, ps, n, ov, mv, _) => [Ob r (He.ga K "Roads") [("shelf", .ref s), ("stops", .ref sl)], Ob s (He.ga K "Store") [("nodes", .ref nn), ("told", .ref dd)], NodesA K nn (nds), pt dd (.dK (toldK (td))), Fz K mv (mvD (some (n, ov))), TbW K]
  ok := fun (r, s, sl, nn, dd, nds, td, t, ps, n, ov, mv, _) _ => True
  res := fun (r, s, sl, nn, dd, nds, td, t, ps, n, ov, mv, _) _ => .int (stepS (nds, td) t ps (n, ov)).2
  post := fun (r, s, sl, nn, dd, nds, td, t, ps, n, ov, mv, _) _ => [Ob r (He.ga K "Roads") [("shelf", .ref s), ("stops", .ref sl)], Ob s (He.ga K "Store") [("nodes", .ref nn), ("told", .ref dd)], NodesA K nn ((stepS (nds, td) t ps (n, ov)).1.1), pt dd (.dK (toldK ((stepS (nds, td) t ps (n, ov)).1.2))), TbW K]
theorem use_tbehind {K : PySem.W.Frag} {L R : List Asn} {Q : VK} {E : XK} {r : Addr} {s : Addr} {sl : Addr} {nn : Addr} {dd : Addr} {nds : List Nd} {td : List Nat} {t : Nat} {ps : Prs} {n : Str} {ov : Option V} {mv : V} (sTk : Tks L [Ob r (He.ga K "Roads") [("shelf", .ref s), ("stops", .ref sl)], Ob s (He.ga K "Store") [("nodes", .ref nn), ("told", .ref dd)], NodesA K nn (nds), pt dd (.dK (toldK (td))), Fz K mv (mvD (some (n, ov))), TbW K] R) (ht : Tbl nds td t ps) (h0 : nds[0]? = some Nd.bare) (hn : Nm8 n) (hv : ∀ v, ov = some v → Vok v) (hne : ∀ q ∈ ps, q.2 ≠ .non) (hz : nds.length ≤ 800000) (hz2 : td.length ≤ 800000) (hp : ps.length ≤ 50000) (kk : Al (Ob r (He.ga K "Roads") [("shelf", .ref s), ("stops", .ref sl)] :: Ob s (He.ga K "Store") [("nodes", .ref nn), ("told", .ref dd)] :: NodesA K nn ((stepS (nds, td) t ps (n, ov)).1.1) :: pt dd (.dK (toldK ((stepS (nds, td) t ps (n, ov)).1.2))) :: TbW K :: R) (Q (.int (stepS (nds, td) t ps (n, ov)).2))) : Al L (xP (S_tbehind K).sp [.ref r, .int t, mv] Q E) :=
  Tri.useT (S_tbehind K) (r, s, sl, nn, dd, nds, td, t, ps, n, ov, mv, ()) rfl ⟨ht, h0, hn, hv, hne, hz, hz2, hp, trivial⟩ sTk (fun _ _ => kk )
local macro_rules | `(tactic| kpt_turns) => `(tactic| ((with_reducible apply use_tbehind); tb_rel; (k_all); (k_all); (k_all); (k_all); (k_all); (k_all); (k_all); (k_all)))
abbrev N_Roads_table_behind : List Str := ["self", "table", "move"]
theorem sc_Roads_table_behind : FnScope N_Roads_table_behind ["self", "table", "move"] (defScope s_Roads_table_behind) := ⟨rfl, rfl, rfl, by decide +kernel, rfl, by decide +kernel, by decide +kernel⟩
theorem ok_Roads_table_behind (T : Fx K mg) (B : Bx K mg base) : FnG P w K mg base 22 (He.fAd K ("Roads", some "table_behind")) ["self", "table", "move"] (S_tbehind K).sp := by
  refine Tri.fnC (N := N_Roads_table_behind) (k := 21) (S_tbehind K) T.d_Roads_table_behind sc_Roads_table_behind (fun g => rfl) (fun _ _ _ _ _ _ us hl => match us, hl with | [_, _, _], _ => rfl) fun cdv A outer s H E Q g R hcd hr hc ke kx => ⟨_, PSs.nox ((pss_cons (ps_if (pt_cmpR (q_eq (K := K) rfl hr.u64) (pe_ix (q_ix (K := K) rfl hr.u1) (pv 2) pe_int (fun _ _ => rfl)) pe_str (nomark _)) (pss_one (ps_ret (ge_meth (q_fld (K := K) rfl (pv 0) rfl) T.c_Store T.t_Store_put (ok_Store_put T B) hr.mono px0 (pa_cons (pv 1) (pa_cons (pe_ix (q_ix (K := K) rfl hr.u1) (pv 2) pe_int (fun _ _ => rfl)) (pa_cons (pe_ix (q_ix (K := K) rfl hr.u1) (pv 2) pe_int (fun _ _ => rfl)) pa_nil)))))) pss_nil)
    (pss_one (ps_ret (ge_meth (q_fld (K := K) rfl (pv 0) rfl) T.c_Store T.t_Store_without (ok_Store_without T B) hr.mono px0 (pa_cons (pv 1) (pa_cons (pe_ix (q_ix (K := K) rfl hr.u1) (pv 2) pe_int (fun _ _ => rfl)) pa_nil))))))), ?_⟩
  obtain ⟨r, s, sl, nn, dd, nds, td, t, ps, n, ov, mv, _⟩ := g
  obtain ⟨ht, h0, hn, hv, hne, hz, hz2, hp, _⟩ := hc
  replace ke : Al [Ob r (He.ga K "Roads") [("shelf", .ref s), ("stops", .ref sl)], Ob s (He.ga K "Store") [("nodes", .ref nn), ("told", .ref dd)], NodesA K nn ((stepS (nds, td) t ps (n, ov)).1.1), pt dd (.dK (toldK ((stepS (nds, td) t ps (n, ov)).1.2))), TbW K, R] (Q (.int (stepS (nds, td) t ps (n, ov)).2)) := ke () trivial
  try dsimp only [cxOf]
  refine e_start (L := [Ob r (He.ga K "Roads") [("shelf", .ref s), ("stops", .ref sl)], Ob s (He.ga K "Store") [("nodes", .ref nn), ("told", .ref dd)], NodesA K nn (nds), pt dd (.dK (toldK (td))), Fz K mv (mvD (some (n, ov))), TbW K, R]) (nx := fun _ H' => Q .non H') (rt := Q) (bk := fun _ _ => False) (ct := fun _ _ => False) [some (.ref r), some (.int t), some (mv)] rfl ?_
  cases ov with
  | some v =>
    have hvv := hv v rfl
    simp only [stepS] at ke
    refine Al.tk (A := Fz K mv (mvD (some (n, some v)))) (by tb_rel) (Fz.move3 hvv.scl fun t0 e => ?_)
    subst e
    tb_start
    refine e_eqb (b' := true) (by decide) ?_
    tb_start
    refine use_put (by tb_rel) ht h0 hn hvv.scl hvv.ne hz hz2 hp ?_
    exact e_end (by tb_rel) (ke)
  | none =>
    simp only [stepS] at ke
    refine Al.tk (A := Fz K mv (mvD (some (n, none)))) (by tb_rel) (Fz.move2 fun t0 e => ?_)
    subst e
    tb_start
    refine e_eqb (b' := false) (by decide) ?_
    tb_start
    exact e_end (by tb_rel) (ke)
def S_goon (K : PySem.W.Frag) : Tri where
  G := Addr × Addr × Addr × Addr × Addr × (List Nd) × (List Nat) × (List (Addr × Stp)) × (List Prs) × Nat × Str × (Option V) × V × Prs × Addr × Stp × Unit
  O := Addr × Unit
  args := fun (r, s, sl, nn, dd, nds, td, zs, hs, i, n, ov, mv, h, a, y, _) => [.ref r, .int i, mv]
  cond := fun (r, s, sl, nn, dd, nds, td, zs, hs, i, n, ov, mv, h, a, y, _) => (RdOk nds td zs hs) ∧ (nds[0]? = some Nd.bare) ∧ (zs[i]? = some (a, y)) ∧ (hs[i]? = some h) ∧ (Nm8 n) ∧ (∀ v, ov = some v → Vok v) ∧ (nds.length ≤ 700000) ∧ (td.length ≤ 700000) ∧ (zs.length ≤ 100000) ∧ (h.length ≤ 50000) ∧ True
  pre := fun (r, s, sl, nn, dd, nds, td, zs, hs, i, n, ov, mv, h, a, y, _) => [Ob r (He.ga K "Roads") [("shelf", .ref s), ("stops", .ref sl)], pt sl (.lst ((zs).map fun z => V.ref z.1)), StsA K (zs), Ob s (He.ga K "Store") [("nodes", .ref nn), ("told", .ref dd)], NodesA K nn (nds), pt dd (.dK (toldK (td))), Fz K mv (mvD (some (n, ov))), TbW K]
  ok := fun (r, s, sl, nn, dd, nds, td, zs, hs, i, n, ov, mv, h, a, y, _) (a', _) => True
  res := fun (r, s, sl, nn, dd, nds, td, zs, hs, i, n, ov, mv, h, a, y, _) (a', _) => .int zs.length
  post := fun (r, s, sl, nn, dd, nds, td, zs, hs, i, n, ov, mv, h, a, y, _) (a', _) => [Ob r (He.ga K "Roads") [("shelf", .ref s), ("stops", .ref sl)], pt sl (.lst ((zs ++ [(a', newStp (nds, td) i y h (n, ov))]).map fun z => V.ref z.1)), StsA K (zs ++ [(a', newStp (nds, td) i y h (n, ov))]), Ob s (He.ga K "Store") [("nodes", .ref nn), ("told", .ref dd)], NodesA K nn ((stepS (nds, td) y.tab (srt h) (n, ov)).1.1), pt dd (.dK (toldK ((stepS (nds, td) y.tab (srt h) (n, ov)).1.2))), TbW K]
theorem use_goon {K : PySem.W.Frag} {L R : List Asn} {Q : VK} {E : XK} {r : Addr} {s : Addr} {sl : Addr} {nn : Addr} {dd : Addr} {nds : List Nd} {td : List Nat} {zs : List (Addr × Stp)} {hs : List Prs} {i : Nat} {n : Str} {ov : Option V} {mv : V} {h : Prs} {a : Addr} {y : Stp} (sTk : Tks L [Ob r (He.ga K "Roads") [("shelf", .ref s), ("stops", .ref sl)], pt sl (.lst ((zs).map fun z => V.ref z.1)), StsA K (zs), Ob s (He.ga K "Store") [("nodes", .ref nn), ("told", .ref dd)], NodesA K nn (nds), pt dd (.dK (toldK (td))), Fz K mv (mvD (some (n, ov))), TbW K] R) (I : RdOk nds td zs hs) (h0 : nds[0]? = some Nd.bare) (hx : zs[i]? = some (a, y)) (hh : hs[i]? = some h) (hn : Nm8 n) (hv : ∀ v, ov = some v → Vok v) (hz : nds.length ≤ 700000) (hz2 : td.length ≤ 700000) (hz3 : zs.length ≤ 100000) (hp : h.length ≤ 50000) (kk : ∀ (a' : Addr), Al (Ob r (He.ga K "Roads") [("shelf", .ref s), ("stops", .ref sl)] :: pt sl (.lst ((zs ++ [(a', newStp (nds, td) i y h (n, ov))]).map fun z => V.ref z.1)) :: StsA K (zs ++ [(a', newStp (nds, td) i y h (n, ov))]) :: Ob s (He.ga K "Store") [("nodes", .ref nn), ("told", .ref dd)] :: NodesA K nn ((stepS (nds, td) y.tab (srt h) (n, ov)).1.1) :: pt dd (.dK (toldK ((stepS (nds, td) y.tab (srt h) (n, ov)).1.2))) :: TbW K :: R) (Q (.int zs.length))) : Al L (xP (S_goon K).sp [.ref r, .int i, mv] Q E) :=
  Tri.useT (S_goon K) (r, s, sl, nn, dd, nds, td, zs, hs, i, n, ov, mv, h, a, y, ()) rfl ⟨I, h0, hx, hh, hn, hv, hz, hz2, hz3, hp, trivial⟩ sTk (fun ⟨a', _⟩ _ => kk a')
abbrev N_Roads_go_on : List Str := ["self", "place", "move", "stop", "nodes_ahead", "table"]
theorem sc_Roads_go_on : FnScope N_Roads_go_on ["self", "place", "move"] (defScope s_Roads_go_on) := ⟨rfl, rfl, rfl, by decide +kernel, rfl, by decide +kernel, by decide +kernel⟩
theorem ok_Roads_go_on (T : Fx K mg) (B : Bx K mg base) : FnG P w K mg base 23 (He.fAd K ("Roads", some "go_on")) ["self", "place", "move"] (S_goon K).sp := by
  refine Tri.fnC (N := N_Roads_go_on) (k := 22) (S_goon K) T.d_Roads_go_on sc_Roads_go_on (fun g => rfl) (fun _ _ _ _ _ _ us hl => match us, hl with | [_, _, _], _ => rfl) fun cdv A outer s H E Q g R hcd hr hc ke kx => ⟨_, PSs.nox ((pss_cons (ps_set (i := 3) sc_Roads_go_on.nd rfl (.inl rfl) (ge_meth (pv 0) T.c_Roads T.t_Roads_stop_at (ok_Roads_stop_at T B) hr.mono px0 (pa_cons (pv 1) pa_nil)))
    (pss_cons (ps_set (i := 4) sc_Roads_go_on.nd rfl (.inl rfl) (ge_meth0 (q_fld (K := K) rfl (pv 0) rfl) T.c_Store T.t_Store_made (ok_Store_made T B) hr.mono px0))
    (pss_cons (ps_set (i := 5) sc_Roads_go_on.nd rfl (.inl rfl) (ge_meth (pv 0) T.c_Roads T.t_Roads_table_behind (ok_Roads_table_behind T B) hr.mono px0 (pa_cons (q_fld (K := K) rfl (pv 3) rfl) (pa_cons (pv 2) pa_nil))))
    (pss_cons (ps_expr (q_bm (K := K) rfl PySem.F.plainAttrs_list PySem.F.slot_list_append PySem.F.type_list_append mt_append (q_fld (K := K) rfl (pv 0) rfl) (pa_cons (ge_make T.m_Stop (ok_Stop__init_ T B) hr.mono rfl T.g_Stop px0 (pa_cons (pv 1) (pa_cons (pv 2) (pa_cons (pe_op (q_add (K := K) rfl) (q_fld (K := K) rfl (pv 3) rfl) pe_int) (pa_cons (pv 5) (pa_cons (pe_op o_sub (ge_meth0 (q_fld (K := K) rfl (pv 0) rfl) T.c_Store T.t_Store_made (ok_Store_made T B) hr.mono px0) (pv 4)) pa_nil)))))) pa_nil)))
    (pss_one (ps_ret (pe_op o_sub (pe_callB (q_len (K := K) rfl) (by rfl) T.b_len (by decide +kernel) (pa_cons (q_fld (K := K) rfl (pv 0) rfl) pa_nil)) pe_int)))))))), ?_⟩
  obtain ⟨r, s, sl, nn, dd, nds, td, zs, hs, i, n, ov, mv, h, a, y, _⟩ := g
  obtain ⟨I, h0, hx, hh, hn, hv, hz, hz2, hz3, hp, _⟩ := hc
  replace ke : ∀ (a' : Addr), Al [Ob r (He.ga K "Roads") [("shelf", .ref s), ("stops", .ref sl)], pt sl (.lst ((zs ++ [(a', newStp (nds, td) i y h (n, ov))]).map fun z => V.ref z.1)), StsA K (zs ++ [(a', newStp (nds, td) i y h (n, ov))]), Ob s (He.ga K "Store") [("nodes", .ref nn), ("told", .ref dd)], NodesA K nn ((stepS (nds, td) y.tab (srt h) (n, ov)).1.1), pt dd (.dK (toldK ((stepS (nds, td) y.tab (srt h) (n, ov)).1.2))), TbW K, R] (Q (.int zs.length)) := fun a' => ke (a', ()) trivial
  try dsimp only [cxOf]
  refine e_start (L := [Ob r (He.ga K "Roads") [("shelf", .ref s), ("stops", .ref sl)], pt sl (.lst ((zs).map fun z => V.ref z.1)), StsA K (zs), Ob s (He.ga K "Store") [("nodes", .ref nn), ("told", .ref dd)], NodesA K nn (nds), pt dd (.dK (toldK (td))), Fz K mv (mvD (some (n, ov))), TbW K, R]) (nx := fun _ H' => Q .non H') (rt := Q) (bk := fun _ _ => False) (ct := fun _ _ => False) [some (.ref r), some (.int i), some (mv), none, none, none] rfl ?_
  have hT := I.tb i a y h hx hh
  have hH := I.hh h (List.mem_of_getElem? hh)
  have hne := Tbl.ne_non (ns := nds) (td := td) (i := 0) hH
  have hA := (I.go h0 hx hh hn hv a).2
  obtain ⟨ys, hys⟩ := hA.n
  have hsl : (srt h).length ≤ 50000 := by rw [srt_len]; exact hp
  tb_start
  try refine e_stf (by tb_rel) hx (by kd_mem) (by kd_in) (fun _ => rfl) ?_
  tb_start
  try refine e_stf (by tb_rel) hx (by kd_mem) (by kd_in) (fun _ => rfl) ?_
  tb_start
  have hle : nds.length ≤ (stepS (nds, td) y.tab (srt h) (n, ov)).1.1.length := by rw [hys, List.length_append]; exact Nat.le_add_right ..
  rw [show ((stepS (nds, td) y.tab (srt h) (n, ov)).1.1.length : Int) - (nds.length : Nat) = (((stepS (nds, td) y.tab (srt h) (n, ov)).1.1.length - nds.length : Nat) : Int) by omega, show ((y.far : Nat) : Int) + 1 = ((y.far + 1 : Nat) : Int) by omega]
  refine use_stinit (b := some i) (mo := some (n, ov)) (by tb_rel) ?_
  obtain ⟨a', rfl⟩ : ∃ y, y = p := ⟨p, rfl⟩
  tb_start
  refine StsA.add (by tb_rel) (by tb_rel) ?_
  change Al (StsA K (zs ++ [(a', newStp (nds, td) i y h (n, ov))]) :: _) _
  rw [show zs.map (fun z : Addr × Stp => V.ref z.1) ++ [V.ref a'] = (zs ++ [(a', newStp (nds, td) i y h (n, ov))]).map (fun z : Addr × Stp => V.ref z.1) from by rw [List.map_append]; rfl]
  tb_start
  rw [List.length_map, List.length_append, List.length_singleton, show (((zs.length + 1 : Nat) : Int) - 1) = (zs.length : Nat) by omega]
  exact e_end (by tb_rel) (ke (a'))
def S_rput (K : PySem.W.Frag) : Tri where
  G := Addr × Addr × Addr × Addr × Addr × (List Nd) × (List Nat) × (List (Addr × Stp)) × (List Prs) × Nat × Str × V × Prs × Addr × Stp × Unit
  O := Addr × Unit
  args := fun (r, s, sl, nn, dd, nds, td, zs, hs, i, n, v, h, a, y, _) => [.ref r, .int i, .str n, v]
  cond := fun (r, s, sl, nn, dd, nds, td, zs, hs, i, n, v, h, a, y, _) => (RdOk nds td zs hs) ∧ (nds[0]? = some Nd.bare) ∧ (zs[i]? = some (a, y)) ∧ (hs[i]? = some h) ∧ (Nm8 n) ∧ (Vok v) ∧ (nds.length ≤ 700000) ∧ (td.length ≤ 700000) ∧ (zs.length ≤ 100000) ∧ (h.length ≤ 50000) ∧ True
  pre := fun (r, s, sl, nn, dd, nds, td, zs, hs, i, n, v, h, a, y, _) => [Ob r (He.ga K "Roads") [("shelf", .ref s), ("stops", .ref sl)], pt sl (.lst ((zs).map fun z => V.ref z.1)), StsA K (zs), Ob s (He.ga K "Store") [("nodes", .ref nn), ("told", .ref dd)], NodesA K nn (nds), pt dd (.dK (toldK (td))), TbW K]
  ok := fun (r, s, sl, nn, dd, nds, td, zs, hs, i, n, v, h, a, y, _) (a', _) => True
  res := fun (r, s, sl, nn, dd, nds, td, zs, hs, i, n, v, h, a, y, _) (a', _) => .int zs.length
  post := fun (r, s, sl, nn, dd, nds, td, zs, hs, i, n, v, h, a, y, _) (a', _) => [Ob r (He.ga K "Roads") [("shelf", .ref s), ("stops", .ref sl)], pt sl (.lst ((zs ++ [(a', newStp (nds, td) i y h (n, some v))]).map fun z => V.ref z.1)), StsA K (zs ++ [(a', newStp (nds, td) i y h (n, some v))]), Ob s (He.ga K "Store") [("nodes", .ref nn), ("told", .ref dd)], NodesA K nn ((stepS (nds, td) y.tab (srt h) (n, some v)).1.1), pt dd (.dK (toldK ((stepS (nds, td) y.tab (srt h) (n, some v)).1.2))), TbW K]
theorem use_rput {K : PySem.W.Frag} {L R : List Asn} {Q : VK} {E : XK} {r : Addr} {s : Addr} {sl : Addr} {nn : Addr} {dd : Addr} {nds : List Nd} {td : List Nat} {zs : List (Addr × Stp)} {hs : List Prs} {i : Nat} {n : Str} {v : V} {h : Prs} {a : Addr} {y : Stp} (sTk : Tks L [Ob r (He.ga K "Roads") [("shelf", .ref s), ("stops", .ref sl)], pt sl (.lst ((zs).map fun z => V.ref z.1)), StsA K (zs), Ob s (He.ga K "Store") [("nodes", .ref nn), ("told", .ref dd)], NodesA K nn (nds), pt dd (.dK (toldK (td))), TbW K] R) (I : RdOk nds td zs hs) (h0 : nds[0]? = some Nd.bare) (hx : zs[i]? = some (a, y)) (hh : hs[i]? = some h) (hn : Nm8 n) (hv : Vok v) (hz : nds.length ≤ 700000) (hz2 : td.length ≤ 700000) (hz3 : zs.length ≤ 100000) (hp : h.length ≤ 50000) (kk : ∀ (a' : Addr), Al (Ob r (He.ga K "Roads") [("shelf", .ref s), ("stops", .ref sl)] :: pt sl (.lst ((zs ++ [(a', newStp (nds, td) i y h (n, some v))]).map fun z => V.ref z.1)) :: StsA K (zs ++ [(a', newStp (nds, td) i y h (n, some v))]) :: Ob s (He.ga K "Store") [("nodes", .ref nn), ("told", .ref dd)] :: NodesA K nn ((stepS (nds, td) y.tab (srt h) (n, some v)).1.1) :: pt dd (.dK (toldK ((stepS (nds, td) y.tab (srt h) (n, some v)).1.2))) :: TbW K :: R) (Q (.int zs.length))) : Al L (xP (S_rput K).sp [.ref r, .int i, .str n, v] Q E) :=
  Tri.useT (S_rput K) (r, s, sl, nn, dd, nds, td, zs, hs, i, n, v, h, a, y, ()) rfl ⟨I, h0, hx, hh, hn, hv, hz, hz2, hz3, hp, trivial⟩ sTk (fun ⟨a', _⟩ _ => kk a')
abbrev N_Roads_put : List Str := ["self", "place", "name", "value"]
theorem sc_Roads_put : FnScope N_Roads_put ["self", "place", "name", "value"] (defScope s_Roads_put) := ⟨rfl, rfl, rfl, by decide +kernel, rfl, by decide +kernel, by decide +kernel⟩
theorem ok_Roads_put (T : Fx K mg) (B : Bx K mg base) : FnG P w K mg base 24 (He.fAd K ("Roads", some "put")) ["self", "place", "name", "value"] (S_rput K).sp := by
  refine Tri.fnC (N := N_Roads_put) (k := 23) (S_rput K) T.d_Roads_put sc_Roads_put (fun g => rfl) (fun _ _ _ _ _ _ us hl => match us, hl with | [_, _, _, _], _ => rfl) fun cdv A outer s H E Q g R hcd hr hc ke kx => ⟨_, PSs.nox ((pss_one (ps_ret (ge_meth (pv 0) T.c_Roads T.t_Roads_go_on (ok_Roads_go_on T B) hr.mono px0 (pa_cons (pv 1) (pa_cons (pe_tup (pa_cons pe_str (pa_cons (pv 2) (pa_cons (pv 3) pa_nil)))) pa_nil)))))), ?_⟩
  obtain ⟨r, s, sl, nn, dd, nds, td, zs, hs, i, n, v, h, a, y, _⟩ := g
  obtain ⟨I, h0, hx, hh, hn, hv, hz, hz2, hz3, hp, _⟩ := hc
  replace ke : ∀ (a' : Addr), Al [Ob r (He.ga K "Roads") [("shelf", .ref s), ("stops", .ref sl)], pt sl (.lst ((zs ++ [(a', newStp (nds, td) i y h (n, some v))]).map fun z => V.ref z.1)), StsA K (zs ++ [(a', newStp (nds, td) i y h (n, some v))]), Ob s (He.ga K "Store") [("nodes", .ref nn), ("told", .ref dd)], NodesA K nn ((stepS (nds, td) y.tab (srt h) (n, some v)).1.1), pt dd (.dK (toldK ((stepS (nds, td) y.tab (srt h) (n, some v)).1.2))), TbW K, R] (Q (.int zs.length)) := fun a' => ke (a', ()) trivial
  try dsimp only [cxOf]
  refine e_start (L := [Ob r (He.ga K "Roads") [("shelf", .ref s), ("stops", .ref sl)], pt sl (.lst ((zs).map fun z => V.ref z.1)), StsA K (zs), Ob s (He.ga K "Store") [("nodes", .ref nn), ("told", .ref dd)], NodesA K nn (nds), pt dd (.dK (toldK (td))), TbW K, R]) (nx := fun _ H' => Q .non H') (rt := Q) (bk := fun _ _ => False) (ct := fun _ _ => False) [some (.ref r), some (.int i), some (.str n), some (v)] rfl ?_
  tb_start
  obtain ⟨p0, rfl⟩ : ∃ y, y = p := ⟨p, rfl⟩
  refine Al.z (K := K) (x := .ref p0) (d := mvD (some (n, some v))) (LdZ.move3 hv.scl (.tk (by tb_rel))) ?_
  refine use_goon (by tb_rel) I h0 hx hh hn (fun u e => by cases e; exact hv) hz hz2 hz3 hp fun a' => ?_
  exact e_end (by tb_rel) (ke (a'))
def S_rclear (K : PySem.W.Frag) : Tri where
  G := Addr × Addr × Addr × Addr × Addr × (List Nd) × (List Nat) × (List (Addr × Stp)) × (List Prs) × Nat × Str × Prs × Addr × Stp × Unit
  O := Addr × Unit
  args := fun (r, s, sl, nn, dd, nds, td, zs, hs, i, n, h, a, y, _) => [.ref r, .int i, .str n]
  cond := fun (r, s, sl, nn, dd, nds, td, zs, hs, i, n, h, a, y, _) => (RdOk nds td zs hs) ∧ (nds[0]? = some Nd.bare) ∧ (zs[i]? = some (a, y)) ∧ (hs[i]? = some h) ∧ (Nm8 n) ∧ (nds.length ≤ 700000) ∧ (td.length ≤ 700000) ∧ (zs.length ≤ 100000) ∧ (h.length ≤ 50000) ∧ True
  pre := fun (r, s, sl, nn, dd, nds, td, zs, hs, i, n, h, a, y, _) => [Ob r (He.ga K "Roads") [("shelf", .ref s), ("stops", .ref sl)], pt sl (.lst ((zs).map fun z => V.ref z.1)), StsA K (zs), Ob s (He.ga K "Store") [("nodes", .ref nn), ("told", .ref dd)], NodesA K nn (nds), pt dd (.dK (toldK (td))), TbW K]
  ok := fun (r, s, sl, nn, dd, nds, td, zs, hs, i, n, h, a, y, _) (a', _) => True
  res := fun (r, s, sl, nn, dd, nds, td, zs, hs, i, n, h, a, y, _) (a', _) => .int zs.length
  post := fun (r, s, sl, nn, dd, nds, td, zs, hs, i, n, h, a, y, _) (a', _) => [Ob r (He.ga K "Roads") [("shelf", .ref s), ("stops", .ref sl)], pt sl (.lst ((zs ++ [(a', newStp (nds, td) i y h (n, none))]).map fun z => V.ref z.1)), StsA K (zs ++ [(a', newStp (nds, td) i y h (n, none))]), Ob s (He.ga K "Store") [("nodes", .ref nn), ("told", .ref dd)], NodesA K nn ((stepS (nds, td) y.tab (srt h) (n, none)).1.1), pt dd (.dK (toldK ((stepS (nds, td) y.tab (srt h) (n, none)).1.2))), TbW K]
theorem use_rclear {K : PySem.W.Frag} {L R : List Asn} {Q : VK} {E : XK} {r : Addr} {s : Addr} {sl : Addr} {nn : Addr} {dd : Addr} {nds : List Nd} {td : List Nat} {zs : List (Addr × Stp)} {hs : List Prs} {i : Nat} {n : Str} {h : Prs} {a : Addr} {y : Stp} (sTk : Tks L [Ob r (He.ga K "Roads") [("shelf", .ref s), ("stops", .ref sl)], pt sl (.lst ((zs).map fun z => V.ref z.1)), StsA K (zs), Ob s (He.ga K "Store") [("nodes", .ref nn), ("told", .ref dd)], NodesA K nn (nds), pt dd (.dK (toldK (td))), TbW K] R) (I : RdOk nds td zs hs) (h0 : nds[0]? = some Nd.bare) (hx : zs[i]? = some (a, y)) (hh : hs[i]? = some h) (hn : Nm8 n) (hz : nds.length ≤ 700000) (hz2 : td.length ≤ 700000) (hz3 : zs.length ≤ 100000) (hp : h.length ≤ 50000) (kk : ∀ (a' : Addr), Al (Ob r (He.ga K "Roads") [("shelf", .ref s), ("stops", .ref sl)] :: pt sl (.lst ((zs ++ [(a', newStp (nds, td) i y h (n, none))]).map fun z => V.ref z.1)) :: StsA K (zs ++ [(a', newStp (nds, td) i y h (n, none))]) :: Ob s (He.ga K "Store") [("nodes", .ref nn), ("told", .ref dd)] :: NodesA K nn ((stepS (nds, td) y.tab (srt h) (n, none)).1.1) :: pt dd (.dK (toldK ((stepS (nds, td) y.tab (srt h) (n, none)).1.2))) :: TbW K :: R) (Q (.int zs.length))) : Al L (xP (S_rclear K).sp [.ref r, .int i, .str n] Q E) :=
  Tri.useT (S_rclear K) (r, s, sl, nn, dd, nds, td, zs, hs, i, n, h, a, y, ()) rfl ⟨I, h0, hx, hh, hn, hz, hz2, hz3, hp, trivial⟩ sTk (fun ⟨a', _⟩ _ => kk a')
abbrev N_Roads_clear : List Str := ["self", "place", "name"]
theorem sc_Roads_clear : FnScope N_Roads_clear ["self", "place", "name"] (defScope s_Roads_clear) := ⟨rfl, rfl, rfl, by decide +kernel, rfl, by decide +kernel, by decide +kernel⟩
theorem ok_Roads_clear (T : Fx K mg) (B : Bx K mg base) : FnG P w K mg base 24 (He.fAd K ("Roads", some "clear")) ["self", "place", "name"] (S_rclear K).sp := by
  refine Tri.fnC (N := N_Roads_clear) (k := 23) (S_rclear K) T.d_Roads_clear sc_Roads_clear (fun g => rfl) (fun _ _ _ _ _ _ us hl => match us, hl with | [_, _, _], _ => rfl) fun cdv A outer s H E Q g R hcd hr hc ke kx => ⟨_, PSs.nox ((pss_one (ps_ret (ge_meth (pv 0) T.c_Roads T.t_Roads_go_on (ok_Roads_go_on T B) hr.mono px0 (pa_cons (pv 1) (pa_cons (pe_tup (pa_cons pe_str (pa_cons (pv 2) pa_nil))) pa_nil)))))), ?_⟩
  obtain ⟨r, s, sl, nn, dd, nds, td, zs, hs, i, n, h, a, y, _⟩ := g
  obtain ⟨I, h0, hx, hh, hn, hz, hz2, hz3, hp, _⟩ := hc
  replace ke : ∀ (a' : Addr), Al [Ob r (He.ga K "Roads") [("shelf", .ref s), ("stops", .ref sl)], pt sl (.lst ((zs ++ [(a', newStp (nds, td) i y h (n, none))]).map fun z => V.ref z.1)), StsA K (zs ++ [(a', newStp (nds, td) i y h (n, none))]), Ob s (He.ga K "Store") [("nodes", .ref nn), ("told", .ref dd)], NodesA K nn ((stepS (nds, td) y.tab (srt h) (n, none)).1.1), pt dd (.dK (toldK ((stepS (nds, td) y.tab (srt h) (n, none)).1.2))), TbW K, R] (Q (.int zs.length)) := fun a' => ke (a', ()) trivial
  try dsimp only [cxOf]
  refine e_start (L := [Ob r (He.ga K "Roads") [("shelf", .ref s), ("stops", .ref sl)], pt sl (.lst ((zs).map fun z => V.ref z.1)), StsA K (zs), Ob s (He.ga K "Store") [("nodes", .ref nn), ("told", .ref dd)], NodesA K nn (nds), pt dd (.dK (toldK (td))), TbW K, R]) (nx := fun _ H' => Q .non H') (rt := Q) (bk := fun _ _ => False) (ct := fun _ _ => False) [some (.ref r), some (.int i), some (.str n)] rfl ?_
  tb_start
  obtain ⟨p0, rfl⟩ : ∃ y, y = p := ⟨p, rfl⟩
  refine Al.z (K := K) (x := .ref p0) (d := mvD (some (n, none))) (LdZ.move2 (.tk (by tb_rel))) ?_
  refine use_goon (by tb_rel) I h0 hx hh hn (fun u e => by cases e) hz hz2 hz3 hp fun a' => ?_
  exact e_end (by tb_rel) (ke (a'))
def S_places (K : PySem.W.Frag) : Tri where
  G := Addr × Addr × Addr × (List (Addr × Stp)) × Unit
  O := Unit
  args := fun (r, s, sl, zs, _) => [.ref r]
  cond := fun (r, s, sl, zs, _) => True
  pre := fun (r, s, sl, zs, _) => [Ob r (He.ga K "Roads") [("shelf", .ref s), ("stops", .ref sl)], pt sl (.lst (zs.map fun z => V.ref z.1)), StsA K zs]
  ok := fun (r, s, sl, zs, _) _ => True
  res := fun (r, s, sl, zs, _) _ => .int zs.length
  post := fun (r, s, sl, zs, _) _ => [Ob r (He.ga K "Roads") [("shelf", .ref s), ("stops", .ref sl)], pt sl (.lst (zs.map fun z => V.ref z.1)), StsA K zs]
theorem use_places {K : PySem.W.Frag} {L R : List Asn} {Q : VK} {E : XK} {r : Addr} {s : Addr} {sl : Addr} {zs : List (Addr × Stp)} (sTk : Tks L [Ob r (He.ga K "Roads") [("shelf", .ref s), ("stops", .ref sl)], pt sl (.lst (zs.map fun z => V.ref z.1)), StsA K zs] R)  (kk : Al (Ob r (He.ga K "Roads") [("shelf", .ref s), ("stops", .ref sl)] :: pt sl (.lst (zs.map fun z => V.ref z.1)) :: StsA K zs :: R) (Q (.int zs.length))) : Al L (xP (S_places K).sp [.ref r] Q E) :=
  Tri.useT (S_places K) (r, s, sl, zs, ()) rfl trivial sTk (fun _ _ => kk )
local macro_rules | `(tactic| kpt_turns) => `(tactic| ((with_reducible apply use_places); tb_rel))
abbrev N_Roads_places : List Str := ["self"]
theorem sc_Roads_places : FnScope N_Roads_places ["self"] (defScope s_Roads_places) := ⟨rfl, rfl, rfl, by decide +kernel, rfl, by decide +kernel, by decide +kernel⟩
theorem ok_Roads_places (T : Fx K mg) (B : Bx K mg base) : FnG P w K mg base 1 (He.fAd K ("Roads", some "places")) ["self"] (S_places K).sp := by
  refine Tri.fnC (N := N_Roads_places) (k := 0) (S_places K) T.d_Roads_places sc_Roads_places (fun g => rfl) (fun _ _ _ _ _ _ us hl => match us, hl with | [_], _ => rfl) fun cdv A outer s H E Q g R hcd hr hc ke kx => ⟨_, PSs.nox ((pss_one (ps_ret (pe_callB (q_len (K := K) rfl) (by rfl) T.b_len (by decide +kernel) (pa_cons (q_fld (K := K) rfl (pv 0) rfl) pa_nil))))), ?_⟩
  obtain ⟨r, s, sl, zs, _⟩ := g
  replace ke : Al [Ob r (He.ga K "Roads") [("shelf", .ref s), ("stops", .ref sl)], pt sl (.lst (zs.map fun z => V.ref z.1)), StsA K zs, R] (Q (.int zs.length)) := ke () trivial
  try dsimp only [cxOf]
  refine e_start (L := [Ob r (He.ga K "Roads") [("shelf", .ref s), ("stops", .ref sl)], pt sl (.lst (zs.map fun z => V.ref z.1)), StsA K zs, R]) (nx := fun _ H' => Q .non H') (rt := Q) (bk := fun _ _ => False) (ct := fun _ _ => False) [some (.ref r)] rfl ?_
  tb_start
  rw [List.length_map]
  exact e_end (by tb_rel) (ke)
def S_rstep (K : PySem.W.Frag) : Tri where
  G := Addr × Addr × Addr × (List (Addr × Stp)) × Nat × Addr × Stp × Unit
  O := V × Unit
  args := fun (r, s, sl, zs, i, a, x, _) => [.ref r, .int i]
  cond := fun (r, s, sl, zs, i, a, x, _) => (zs[i]? = some (a, x)) ∧ True
  pre := fun (r, s, sl, zs, i, a, x, _) => [Ob r (He.ga K "Roads") [("shelf", .ref s), ("stops", .ref sl)], pt sl (.lst (zs.map fun z => V.ref z.1)), StsA K zs]
  ok := fun (r, s, sl, zs, i, a, x, _) (mv, _) => True
  res := fun (r, s, sl, zs, i, a, x, _) (mv, _) => mv
  post := fun (r, s, sl, zs, i, a, x, _) (mv, _) => [Fz K mv (mvD x.mov), Ob r (He.ga K "Roads") [("shelf", .ref s), ("stops", .ref sl)], pt sl (.lst (zs.map fun z => V.ref z.1)), StsA K zs]
theorem use_rstep {K : PySem.W.Frag} {L R : List Asn} {Q : VK} {E : XK} {r : Addr} {s : Addr} {sl : Addr} {zs : List (Addr × Stp)} {i : Nat} {a : Addr} {x : Stp} (sTk : Tks L [Ob r (He.ga K "Roads") [("shelf", .ref s), ("stops", .ref sl)], pt sl (.lst (zs.map fun z => V.ref z.1)), StsA K zs] R) (hx : zs[i]? = some (a, x)) (kk : ∀ (mv : V), Al (Fz K mv (mvD x.mov) :: Ob r (He.ga K "Roads") [("shelf", .ref s), ("stops", .ref sl)] :: pt sl (.lst (zs.map fun z => V.ref z.1)) :: StsA K zs :: R) (Q (mv))) : Al L (xP (S_rstep K).sp [.ref r, .int i] Q E) :=
  Tri.useT (S_rstep K) (r, s, sl, zs, i, a, x, ()) rfl ⟨hx, trivial⟩ sTk (fun ⟨mv, _⟩ _ => kk mv)
abbrev N_Roads_step : List Str := ["self", "place"]
theorem sc_Roads_step : FnScope N_Roads_step ["self", "place"] (defScope s_Roads_step) := ⟨rfl, rfl, rfl, by decide +kernel, rfl, by decide +kernel, by decide +kernel⟩
theorem ok_Roads_step (T : Fx K mg) (B : Bx K mg base) : FnG P w K mg base 4 (He.fAd K ("Roads", some "step")) ["self", "place"] (S_rstep K).sp := by
  refine Tri.fnC (N := N_Roads_step) (k := 3) (S_rstep K) T.d_Roads_step sc_Roads_step (fun g => rfl) (fun _ _ _ _ _ _ us hl => match us, hl with | [_, _], _ => rfl) fun cdv A outer s H E Q g R hcd hr hc ke kx => ⟨_, PSs.nox ((pss_one (ps_ret (q_fld (K := K) rfl (ge_meth (pv 0) T.c_Roads T.t_Roads_stop_at (ok_Roads_stop_at T B) hr.mono px0 (pa_cons (pv 1) pa_nil)) rfl)))), ?_⟩
  obtain ⟨r, s, sl, zs, i, a, x, _⟩ := g
  obtain ⟨hx, _⟩ := hc
  replace ke : ∀ (mv : V), Al [Fz K mv (mvD x.mov), Ob r (He.ga K "Roads") [("shelf", .ref s), ("stops", .ref sl)], pt sl (.lst (zs.map fun z => V.ref z.1)), StsA K zs, R] (Q (mv)) := fun mv => ke (mv, ()) trivial
  try dsimp only [cxOf]
  refine e_start (L := [Ob r (He.ga K "Roads") [("shelf", .ref s), ("stops", .ref sl)], pt sl (.lst (zs.map fun z => V.ref z.1)), StsA K zs, R]) (nx := fun _ H' => Q .non H') (rt := Q) (bk := fun _ _ => False) (ct := fun _ _ => False) [some (.ref r), some (.int i)] rfl ?_
  tb_start
  refine e_stm (by tb_rel) hx (by kd_mem) (by kd_in) fun mv => ?_
  exact e_end (by tb_rel) (ke (mv))
def S_backto (K : PySem.W.Frag) : Tri where
  G := Addr × Addr × Addr × (List (Addr × Stp)) × Nat × Nat × (List Nat) × (List Nat) × Unit
  O := Addr × Unit
  args := fun (r, s, sl, zs, e, i, u, v, _) => [.ref r, .int e, .int i]
  cond := fun (r, s, sl, zs, e, i, u, v, _) => (Rd zs i (u ++ e :: v)) ∧ (i < zs.length) ∧ (zs.length ≤ 100000) ∧ True
  pre := fun (r, s, sl, zs, e, i, u, v, _) => [Ob r (He.ga K "Roads") [("shelf", .ref s), ("stops", .ref sl)], pt sl (.lst (zs.map fun z => V.ref z.1)), StsA K zs]
  ok := fun (r, s, sl, zs, e, i, u, v, _) (p, _) => True
  res := fun (r, s, sl, zs, e, i, u, v, _) (p, _) => .ref p
  post := fun (r, s, sl, zs, e, i, u, v, _) (p, _) => [pt p (.lst ((e :: v).map fun j : Nat => V.int j)), Ob r (He.ga K "Roads") [("shelf", .ref s), ("stops", .ref sl)], pt sl (.lst (zs.map fun z => V.ref z.1)), StsA K zs]
theorem use_backto {K : PySem.W.Frag} {L R : List Asn} {Q : VK} {E : XK} {r : Addr} {s : Addr} {sl : Addr} {zs : List (Addr × Stp)} {e : Nat} {i : Nat} {u : List Nat} {v : List Nat} (sTk : Tks L [Ob r (He.ga K "Roads") [("shelf", .ref s), ("stops", .ref sl)], pt sl (.lst (zs.map fun z => V.ref z.1)), StsA K zs] R) (hr : Rd zs i (u ++ e :: v)) (hi : i < zs.length) (hz : zs.length ≤ 100000) (kk : ∀ (p : Addr), Al (pt p (.lst ((e :: v).map fun j : Nat => V.int j)) :: Ob r (He.ga K "Roads") [("shelf", .ref s), ("stops", .ref sl)] :: pt sl (.lst (zs.map fun z => V.ref z.1)) :: StsA K zs :: R) (Q (.ref p))) : Al L (xP (S_backto K).sp [.ref r, .int e, .int i] Q E) :=
  Tri.useT (S_backto K) (r, s, sl, zs, e, i, u, v, ()) rfl ⟨hr, hi, hz, trivial⟩ sTk (fun ⟨p, _⟩ _ => kk p)
abbrev N_Roads_back_to : List Str := ["self", "early", "late", "found"]
theorem sc_Roads_back_to : FnScope N_Roads_back_to ["self", "early", "late"] (defScope s_Roads_back_to) := ⟨rfl, rfl, rfl, by decide +kernel, rfl, by decide +kernel, by decide +kernel⟩
theorem ok_Roads_back_to (T : Fx K mg) (B : Bx K mg base) : FnG P w K mg base 1 (He.fAd K ("Roads", some "back_to")) ["self", "early", "late"] (S_backto K).sp := by
  refine Tri.fnC (N := N_Roads_back_to) (k := 0) (S_backto K) T.d_Roads_back_to sc_Roads_back_to (fun g => rfl) (fun _ _ _ _ _ _ us hl => match us, hl with | [_, _, _], _ => rfl) fun cdv A outer s H E Q g R hcd hr hc ke kx => ⟨_, PSs.nox ((pss_cons (ps_set (i := 3) sc_Roads_back_to.nd rfl (.inl rfl) (pe_lst (pa_cons (pv 2) pa_nil)))
    (pss_cons (ps_while PassesOwn.never (pt_cmpR (q_ne (K := K) rfl hr.u64) (pe_ix (q_ix (K := K) rfl hr.u1) (pv 3) (pe_un un_neg pe_int) (fun _ _ => rfl)) (pv 1) (nomark _)) (pss_one (ps_expr (q_bm (K := K) rfl PySem.F.plainAttrs_list PySem.F.slot_list_append PySem.F.type_list_append mt_append (pv 3) (pa_cons (q_fld (K := K) rfl (pe_ix (q_ix (K := K) rfl hr.u1) (q_fld (K := K) rfl (pv 0) rfl) (pe_ix (q_ix (K := K) rfl hr.u1) (pv 3) (pe_un un_neg pe_int) (fun _ _ => rfl)) (fun _ _ => rfl)) rfl) pa_nil)))))
    (pss_cons (ps_expr (q_bm0 (K := K) rfl PySem.F.plainAttrs_list PySem.F.slot_list_reverse PySem.F.type_list_reverse mt_reverse (pv 3)))
    (pss_one (ps_ret (pv 3))))))), ?_⟩
  obtain ⟨r, s, sl, zs, e, i, u, v, _⟩ := g
  obtain ⟨hr, hi, hz, _⟩ := hc
  replace ke : ∀ (p : Addr), Al [pt p (.lst ((e :: v).map fun j : Nat => V.int j)), Ob r (He.ga K "Roads") [("shelf", .ref s), ("stops", .ref sl)], pt sl (.lst (zs.map fun z => V.ref z.1)), StsA K zs, R] (Q (.ref p)) := fun p => ke (p, ()) trivial
  try dsimp only [cxOf]
  refine e_start (L := [Ob r (He.ga K "Roads") [("shelf", .ref s), ("stops", .ref sl)], pt sl (.lst (zs.map fun z => V.ref z.1)), StsA K zs, R]) (nx := fun _ H' => Q .non H') (rt := Q) (bk := fun _ _ => False) (ct := fun _ _ => False) [some (.ref r), some (.int e), some (.int i), none] rfl ?_
  have hlen := hr.len
  have hup := hr.up
  obtain ⟨q0, hq0⟩ : ∃ q0, e :: v = q0 ++ [i] := by
    obtain ⟨u', e1⟩ := hr.last
    rcases List.eq_nil_or_concat (e :: v) with z | ⟨q0, t, z⟩
    · cases z
    · rw [List.concat_eq_append] at z
      rw [z, ← List.append_assoc] at e1
      obtain ⟨_, e2⟩ := List.append_inj' e1 rfl
      injection e2 with e3
      exact ⟨q0, by rw [z, e3]⟩
  tb_start
  change Al (pt p (.lst (([i] : List Nat).reverse.map fun j : Nat => V.int j)) :: _) _
  refine e_while (fun m σ M => ∃ (q : List Nat) (c : Nat) (t : List Nat), ((e :: v = q ++ c :: t) ∧ (q.length = m) ∧ True) ∧ σ = [some (.ref r), some (.int e), some (.int i), some (.ref p)] ∧ M = [pt p (.lst ((c :: t).reverse.map fun j : Nat => V.int j)), Ob r (He.ga K "Roads") [("shelf", .ref s), ("stops", .ref sl)], pt sl (.lst (zs.map fun z => V.ref z.1)), StsA K zs, R]) ⟨q0.length, _, ⟨q0, i, [], ⟨(hq0), (rfl), trivial⟩, rfl, rfl⟩, .ofT (by tb_rel)⟩ ?_
  rintro m σ M ⟨q, c, t, ⟨hq, hm, _⟩, rfl, rfl⟩
  have hct : (c :: t).length ≤ zs.length := by have := congrArg List.length hq; rw [List.length_append] at this hlen; omega
  tb_start
  refine e_xL (v := .int (c : Nat)) (by top_args) (by rw [List.reverse_cons, List.map_append]; exact atI_last) ?_
  tb_start
  refine e_wh ?_ ?_ <;> intro c1 <;> (try simp only [decide_eq_true_eq, decide_eq_false_iff_not, Bool.not_eq_true', Bool.not_eq_false', Bool.and_eq_true, Bool.or_eq_true, Bool.and_eq_false_iff, Bool.or_eq_false_iff, Bool.false_or, Bool.true_and, Bool.or_false, Bool.and_true, Bool.not_true, Bool.not_false, true_and, and_true, or_false, false_or, Bool.false_eq_true, Bool.true_eq_false, not_and, Bool.not_not] at c1)
  · rcases List.eq_nil_or_concat q with z | ⟨q', b, z⟩
    · rw [z] at hq
      injection hq with e1 e2
      exact absurd (congrArg (fun k : Nat => (k : Int)) e1.symm) c1
    · rw [List.concat_eq_append] at z
      rw [z, List.append_assoc] at hq
      obtain ⟨a1, x1, h1, h2, h3⟩ := Rd.adj (u := u ++ q') (b := b) (c := c) (v := t) (by rw [hq] at hr; rw [List.append_assoc]; exact hr)
      tb_start
      refine e_xL (v := .int (c : Nat)) (by top_args) (by rw [List.reverse_cons, List.map_append]; exact atI_last) ?_
      tb_start
      refine e_xL (v := .ref a1) (by top_args) (atI_nat (by rw [List.getElem?_map, h1]; rfl)) ?_
      tb_start
      try refine e_stf (v := befV x1.bef) (by tb_rel) h1 (by kd_mem) (by kd_in) (fun _ => rfl) ?_
      rw [h2]
      tb_start
      refine e_append (by tb_rel) (by rw [List.length_map, List.length_reverse, sizeLine_eq]; omega) ?_
      rw [show (c :: t).reverse.map (fun j : Nat => V.int j) ++ [befV (some b)] = (b :: c :: t).reverse.map (fun j : Nat => V.int j) from by rw [List.reverse_cons (a := b), List.map_append]; rfl]
      tb_start
      have hm2 : q'.length + 1 = m := by rw [← hm, z, List.length_append]; rfl
      exact e_whnx (m' := q'.length) (by k_all) ⟨q', b, c :: t, ⟨(hq), (rfl), trivial⟩, rfl, rfl⟩ (by tb_rel)
  · have c2 : c = e := by omega
    subst c2
    have e1 : t = v := by
      rw [List.pairwise_append] at hup
      have h2 := hup.2.1
      rw [List.pairwise_cons] at h2
      cases q with
      | nil => injection hq with _ e2; exact e2.symm
      | cons a q =>
        injection hq with e2 e3
        have := h2.1 c (by rw [e3]; exact List.mem_append.mpr (.inr (List.mem_cons_self ..)))
        omega
    subst e1
    clear hq hup hr hlen hq0 hct
    tb_start
    rw [← List.map_reverse, List.reverse_reverse]
    exact e_end (by tb_rel) (ke (p))
end

section
variable {P : Program} {w : World} {K : PySem.W.Frag} {mg : Str → Option Value} {base : Heap}
local macro_rules | `(tactic| kpt_turns) => `(tactic| ((with_reducible apply use_cell); tb_rel))
local macro_rules | `(tactic| kpt_turns) => `(tactic| ((with_reducible apply use_mark); tb_rel; (k_all); (k_all)))
local macro_rules | `(tactic| kpt_turns) => `(tactic| ((with_reducible apply use_digit); tb_rel; (k_all)))
local macro_rules | `(tactic| kpt_turns) => `(tactic| ((with_reducible apply use_isleaf); tb_rel))
local macro_rules | `(tactic| kpt_turns) => `(tactic| ((with_reducible apply use_isfork); tb_rel))
local macro_rules | `(tactic| kpt_turns) => `(tactic| ((with_reducible apply use_ninit); tb_rel))
local macro_rules | `(tactic| kpt_turns) => `(tactic| ((with_reducible apply use_nmany); tb_rel))
local macro_rules | `(tactic| kpt_turns) => `(tactic| ((with_reducible apply use_nmake); tb_rel; (k_all)))
local macro_rules | `(tactic| kpt_turns) => `(tactic| ((with_reducible apply use_nleaf); tb_rel; (k_all)))
local macro_rules | `(tactic| kpt_turns) => `(tactic| ((with_reducible apply use_nfork); tb_rel; (k_all)))
local macro_rules | `(tactic| kpt_turns) => `(tactic| ((with_reducible apply use_valuein); tb_rel))
local macro_rules | `(tactic| kpt_turns) => `(tactic| ((with_reducible apply use_alike); tb_rel; (k_all); (k_all)))
local macro_rules | `(tactic| kpt_turns) => `(tactic| ((with_reducible apply use_sinit); tb_rel))
local macro_rules | `(tactic| kpt_turns) => `(tactic| ((with_reducible apply use_look); tb_rel; (k_all)))
local macro_rules | `(tactic| kpt_turns) => `(tactic| ((with_reducible apply use_tell); tb_rel; (k_all)))
local macro_rules | `(tactic| kpt_turns) => `(tactic| ((with_reducible apply use_empty); tb_rel))
local macro_rules | `(tactic| kpt_turns) => `(tactic| ((with_reducible apply use_looked); tb_rel; (k_all); (k_all)))
local macro_rules | `(tactic| kpt_turns) => `(tactic| ((with_reducible apply use_parted); tb_rel; (k_all); (k_all); (k_all); (k_all); (k_all); (k_all); (k_all)))
local macro_rules | `(tactic| kpt_turns) => `(tactic| ((with_reducible apply use_putat); tb_rel; (k_all); (k_all); (k_all); (k_all); (k_all); (k_all); (k_all); (k_all); (k_all)))
local macro_rules | `(tactic| kpt_turns) => `(tactic| ((with_reducible apply use_put); tb_rel; (k_all); (k_all); (k_all); (k_all); (k_all); (k_all); (k_all); (k_all)))
local macro_rules | `(tactic| kpt_turns) => `(tactic| ((with_reducible apply use_lone); tb_rel; (k_all)))
local macro_rules | `(tactic| kpt_turns) => `(tactic| ((with_reducible apply use_leftat); tb_rel; (k_all); (k_all); (k_all); (k_all); (k_all); (k_all); (k_all); (k_all)))
local macro_rules | `(tactic| kpt_turns) => `(tactic| ((with_reducible apply use_without); tb_rel; (k_all); (k_all); (k_all); (k_all); (k_all); (k_all); (k_all)))
local macro_rules | `(tactic| kpt_turns) => `(tactic| ((with_reducible apply use_made); tb_rel))
local macro_rules | `(tactic| kpt_turns) => `(tactic| first | ((with_reducible apply e_stmeth); tb_rel; assumption; (intro _; rfl)) | ((with_reducible apply e_stf); tb_rel; assumption; kd_mem; kd_in; (intro _; rfl)))
local macro_rules | `(tactic| kpt_turns) => `(tactic| ((with_reducible apply use_stinit); tb_rel))
local macro_rules | `(tactic| kpt_turns) => `(tactic| ((with_reducible apply use_stopat); tb_rel; (k_all)))
local macro_rules | `(tactic| kpt_turns) => `(tactic| ((with_reducible apply use_tbehind); tb_rel; (k_all); (k_all); (k_all); (k_all); (k_all); (k_all); (k_all); (k_all)))
local macro_rules | `(tactic| kpt_turns) => `(tactic| ((with_reducible apply use_places); tb_rel))
/-! ### roads: where two part, what is between -/
def S_stopsat (K : PySem.W.Frag) : Tri where
  G := Addr × Addr × Addr × (List (Addr × Stp)) × Nat × Addr × Stp × Nat × Addr × Stp × Unit
  O := Addr × Unit
  args := fun (r, s, sl, zs, i, a, x, j, a', x', _) => [.ref r, .int i, .int j]
  cond := fun (r, s, sl, zs, i, a, x, j, a', x', _) => (zs[i]? = some (a, x)) ∧ (zs[j]? = some (a', x')) ∧ True
  pre := fun (r, s, sl, zs, i, a, x, j, a', x', _) => [Ob r (He.ga K "Roads") [("shelf", .ref s), ("stops", .ref sl)], pt sl (.lst (zs.map fun z => V.ref z.1)), StsA K zs]
  ok := fun (r, s, sl, zs, i, a, x, j, a', x', _) (p, _) => True
  res := fun (r, s, sl, zs, i, a, x, j, a', x', _) (p, _) => .ref p
  post := fun (r, s, sl, zs, i, a, x, j, a', x', _) (p, _) => [pt p (.tup [.ref a, .ref a']), Ob r (He.ga K "Roads") [("shelf", .ref s), ("stops", .ref sl)], pt sl (.lst (zs.map fun z => V.ref z.1)), StsA K zs]
theorem use_stopsat {K : PySem.W.Frag} {L R : List Asn} {Q : VK} {E : XK} {r : Addr} {s : Addr} {sl : Addr} {zs : List (Addr × Stp)} {i : Nat} {a : Addr} {x : Stp} {j : Nat} {a' : Addr} {x' : Stp} (sTk : Tks L [Ob r (He.ga K "Roads") [("shelf", .ref s), ("stops", .ref sl)], pt sl (.lst (zs.map fun z => V.ref z.1)), StsA K zs] R) (hx : zs[i]? = some (a, x)) (hx' : zs[j]? = some (a', x')) (kk : ∀ (p : Addr), Al (pt p (.tup [.ref a, .ref a']) :: Ob r (He.ga K "Roads") [("shelf", .ref s), ("stops", .ref sl)] :: pt sl (.lst (zs.map fun z => V.ref z.1)) :: StsA K zs :: R) (Q (.ref p))) : Al L (xP (S_stopsat K).sp [.ref r, .int i, .int j] Q E) :=
  Tri.useT (S_stopsat K) (r, s, sl, zs, i, a, x, j, a', x', ()) rfl ⟨hx, hx', trivial⟩ sTk (fun ⟨p, _⟩ _ => kk p)
abbrev N_Roads_stops_at : List Str := ["self", "one", "other"]
theorem sc_Roads_stops_at : FnScope N_Roads_stops_at ["self", "one", "other"] (defScope s_Roads_stops_at) := ⟨rfl, rfl, rfl, by decide +kernel, rfl, by decide +kernel, by decide +kernel⟩
theorem ok_Roads_stops_at (T : Fx K mg) (B : Bx K mg base) : FnG P w K mg base 4 (He.fAd K ("Roads", some "stops_at")) ["self", "one", "other"] (S_stopsat K).sp := by
  refine Tri.fnC (N := N_Roads_stops_at) (k := 3) (S_stopsat K) T.d_Roads_stops_at sc_Roads_stops_at (fun g => rfl) (fun _ _ _ _ _ _ us hl => match us, hl with | [_, _, _], _ => rfl) fun cdv A outer s H E Q g R hcd hr hc ke kx => ⟨_, PSs.nox ((pss_one (ps_ret (pe_tup (pa_cons (ge_meth (pv 0) T.c_Roads T.t_Roads_stop_at (ok_Roads_stop_at T B) hr.mono px0 (pa_cons (pv 1) pa_nil)) (pa_cons (ge_meth (pv 0) T.c_Roads T.t_Roads_stop_at (ok_Roads_stop_at T B) hr.mono px0 (pa_cons (pv 2) pa_nil)) pa_nil)))))), ?_⟩
  obtain ⟨r, s, sl, zs, i, a, x, j, a', x', _⟩ := g
  obtain ⟨hx, hx', _⟩ := hc
  replace ke : ∀ (p : Addr), Al [pt p (.tup [.ref a, .ref a']), Ob r (He.ga K "Roads") [("shelf", .ref s), ("stops", .ref sl)], pt sl (.lst (zs.map fun z => V.ref z.1)), StsA K zs, R] (Q (.ref p)) := fun p => ke (p, ()) trivial
  try dsimp only [cxOf]
  refine e_start (L := [Ob r (He.ga K "Roads") [("shelf", .ref s), ("stops", .ref sl)], pt sl (.lst (zs.map fun z => V.ref z.1)), StsA K zs, R]) (nx := fun _ H' => Q .non H') (rt := Q) (bk := fun _ _ => False) (ct := fun _ _ => False) [some (.ref r), some (.int i), some (.int j)] rfl ?_
  tb_start
  exact e_end (by tb_rel) (ke (p))
def S_stopsatx (K : PySem.W.Frag) : Tri where
  G := Addr × Addr × Addr × (List (Addr × Stp)) × Int × Int × Unit
  O := Unit
  args := fun (r, s, sl, zs, i, j, _) => [.ref r, .int i, .int j]
  cond := fun (r, s, sl, zs, i, j, _) => (¬ (0 ≤ i ∧ i < zs.length)) ∧ True
  pre := fun (r, s, sl, zs, i, j, _) => [Ob r (He.ga K "Roads") [("shelf", .ref s), ("stops", .ref sl)], pt sl (.lst (zs.map fun z => V.ref z.1)), StsA K zs]
  ok := fun (r, s, sl, zs, i, j, _) _ => (False) ∧ True
  res := fun (r, s, sl, zs, i, j, _) _ => .non
  post := fun (r, s, sl, zs, i, j, _) _ => []
  exc := fun (r, s, sl, zs, i, j, _) => fun c d M => Refd K "NoPlace" (.int i) [Ob r (He.ga K "Roads") [("shelf", .ref s), ("stops", .ref sl)], pt sl (.lst (zs.map fun z => V.ref z.1)), StsA K zs] c d M
theorem use_stopsatx {K : PySem.W.Frag} {L R : List Asn} {Q : VK} {E : XK} {r : Addr} {s : Addr} {sl : Addr} {zs : List (Addr × Stp)} {i : Int} {j : Int} (sTk : Tks L [Ob r (He.ga K "Roads") [("shelf", .ref s), ("stops", .ref sl)], pt sl (.lst (zs.map fun z => V.ref z.1)), StsA K zs] R) (hi : ¬ (0 ≤ i ∧ i < zs.length)) (kk : ∀ (_ : False), Al R (Q (.non))) (kkx : ∀ c d M, (Refd K "NoPlace" (.int i) [Ob r (He.ga K "Roads") [("shelf", .ref s), ("stops", .ref sl)], pt sl (.lst (zs.map fun z => V.ref z.1)), StsA K zs] c d M) → Al (M ++ R) (E c d)) : Al L (xP (S_stopsatx K).sp [.ref r, .int i, .int j] Q E) :=
  Tri.useT (S_stopsatx K) (r, s, sl, zs, i, j, ()) rfl ⟨hi, trivial⟩ sTk (fun _ ⟨hh0, _⟩ => kk hh0) kkx
theorem okx_stopsatx (T : Fx K mg) (B : Bx K mg base) : FnG P w K mg base 4 (He.fAd K ("Roads", some "stops_at")) ["self", "one", "other"] (S_stopsatx K).sp := by
  refine Tri.fnC (N := N_Roads_stops_at) (k := 3) (S_stopsatx K) T.d_Roads_stops_at sc_Roads_stops_at (fun g => rfl) (fun _ _ _ _ _ _ us hl => match us, hl with | [_, _, _], _ => rfl) fun cdv A outer s H E Q g R hcd hr hc ke kx => ⟨_, ((pss_one (ps_ret (pe_tup (pa_cons (ge_methW (pv 0) T.c_Roads T.t_Roads_stop_at (okU_Roads_stop_at T B) hr.mono (takes_of rfl rfl rfl rfl) (pa_cons (pv 1) pa_nil)) (pa_cons (ge_methW (pv 0) T.c_Roads T.t_Roads_stop_at (okU_Roads_stop_at T B) hr.mono (takes_of rfl rfl rfl rfl) (pa_cons (pv 2) pa_nil)) pa_nil)))))), ?_⟩
  obtain ⟨r, s, sl, zs, i, j, _⟩ := g
  obtain ⟨hi, _⟩ := hc
  replace ke : ∀ (_ : False), Al [R] (Q (.non)) := fun hh0 => ke () ⟨hh0, trivial⟩
  replace kx : ∀ ddX, Al [pt ddX (.xd [("what", (.int i))]), Ob r (He.ga K "Roads") [("shelf", .ref s), ("stops", .ref sl)], pt sl (.lst (zs.map fun z => V.ref z.1)), StsA K zs, R] (E (.ref (He.ga K "NoPlace")) (some ddX)) := fun ddX => kx _ _ _ ⟨rfl, ddX, rfl, rfl⟩
  try dsimp only [cxOf]
  refine e_start (L := [Ob r (He.ga K "Roads") [("shelf", .ref s), ("stops", .ref sl)], pt sl (.lst (zs.map fun z => V.ref z.1)), StsA K zs, R]) (nx := fun _ H' => Q .non H') (rt := Q) (bk := fun _ _ => False) (ct := fun _ _ => False) [some (.ref r), some (.int i), some (.int j)] rfl ?_
  tb_start
  refine e_spR ?_
  refine use_stopatx (by tb_rel) (hi) (fun hF => hF.elim) (fun c d M hx => ?_)
  obtain ⟨rfl, dd, rfl, rfl⟩ := hx
  simp only [List.cons_append, List.nil_append]
  exact e_end (by tb_rel) (kx _)
def S_stopsaty (K : PySem.W.Frag) : Tri where
  G := Addr × Addr × Addr × (List (Addr × Stp)) × Nat × Int × Addr × Stp × Unit
  O := Unit
  args := fun (r, s, sl, zs, i, j, a, x, _) => [.ref r, .int i, .int j]
  cond := fun (r, s, sl, zs, i, j, a, x, _) => (zs[i]? = some (a, x)) ∧ (¬ (0 ≤ j ∧ j < zs.length)) ∧ True
  pre := fun (r, s, sl, zs, i, j, a, x, _) => [Ob r (He.ga K "Roads") [("shelf", .ref s), ("stops", .ref sl)], pt sl (.lst (zs.map fun z => V.ref z.1)), StsA K zs]
  ok := fun (r, s, sl, zs, i, j, a, x, _) _ => (False) ∧ True
  res := fun (r, s, sl, zs, i, j, a, x, _) _ => .non
  post := fun (r, s, sl, zs, i, j, a, x, _) _ => []
  exc := fun (r, s, sl, zs, i, j, a, x, _) => fun c d M => Refd K "NoPlace" (.int j) [Ob r (He.ga K "Roads") [("shelf", .ref s), ("stops", .ref sl)], pt sl (.lst (zs.map fun z => V.ref z.1)), StsA K zs] c d M
theorem use_stopsaty {K : PySem.W.Frag} {L R : List Asn} {Q : VK} {E : XK} {r : Addr} {s : Addr} {sl : Addr} {zs : List (Addr × Stp)} {i : Nat} {j : Int} {a : Addr} {x : Stp} (sTk : Tks L [Ob r (He.ga K "Roads") [("shelf", .ref s), ("stops", .ref sl)], pt sl (.lst (zs.map fun z => V.ref z.1)), StsA K zs] R) (hx : zs[i]? = some (a, x)) (hj : ¬ (0 ≤ j ∧ j < zs.length)) (kk : ∀ (_ : False), Al R (Q (.non))) (kkx : ∀ c d M, (Refd K "NoPlace" (.int j) [Ob r (He.ga K "Roads") [("shelf", .ref s), ("stops", .ref sl)], pt sl (.lst (zs.map fun z => V.ref z.1)), StsA K zs] c d M) → Al (M ++ R) (E c d)) : Al L (xP (S_stopsaty K).sp [.ref r, .int i, .int j] Q E) :=
  Tri.useT (S_stopsaty K) (r, s, sl, zs, i, j, a, x, ()) rfl ⟨hx, hj, trivial⟩ sTk (fun _ ⟨hh0, _⟩ => kk hh0) kkx
theorem okx_stopsaty (T : Fx K mg) (B : Bx K mg base) : FnG P w K mg base 4 (He.fAd K ("Roads", some "stops_at")) ["self", "one", "other"] (S_stopsaty K).sp := by
  refine Tri.fnC (N := N_Roads_stops_at) (k := 3) (S_stopsaty K) T.d_Roads_stops_at sc_Roads_stops_at (fun g => rfl) (fun _ _ _ _ _ _ us hl => match us, hl with | [_, _, _], _ => rfl) fun cdv A outer s H E Q g R hcd hr hc ke kx => ⟨_, ((pss_one (ps_ret (pe_tup (pa_cons (ge_methW (pv 0) T.c_Roads T.t_Roads_stop_at (okU_Roads_stop_at T B) hr.mono (takes_of rfl rfl rfl rfl) (pa_cons (pv 1) pa_nil)) (pa_cons (ge_methW (pv 0) T.c_Roads T.t_Roads_stop_at (okU_Roads_stop_at T B) hr.mono (takes_of rfl rfl rfl rfl) (pa_cons (pv 2) pa_nil)) pa_nil)))))), ?_⟩
  obtain ⟨r, s, sl, zs, i, j, a, x, _⟩ := g
  obtain ⟨hx, hj, _⟩ := hc
  replace ke : ∀ (_ : False), Al [R] (Q (.non)) := fun hh0 => ke () ⟨hh0, trivial⟩
  replace kx : ∀ ddX, Al [pt ddX (.xd [("what", (.int j))]), Ob r (He.ga K "Roads") [("shelf", .ref s), ("stops", .ref sl)], pt sl (.lst (zs.map fun z => V.ref z.1)), StsA K zs, R] (E (.ref (He.ga K "NoPlace")) (some ddX)) := fun ddX => kx _ _ _ ⟨rfl, ddX, rfl, rfl⟩
  try dsimp only [cxOf]
  refine e_start (L := [Ob r (He.ga K "Roads") [("shelf", .ref s), ("stops", .ref sl)], pt sl (.lst (zs.map fun z => V.ref z.1)), StsA K zs, R]) (nx := fun _ H' => Q .non H') (rt := Q) (bk := fun _ _ => False) (ct := fun _ _ => False) [some (.ref r), some (.int i), some (.int j)] rfl ?_
  tb_start
  refine e_spL ?_
  refine use_stopat (by tb_rel) (hx) ?_
  tb_start
  refine e_spR ?_
  refine use_stopatx (by tb_rel) (hj) (fun hF => hF.elim) (fun c d M hx => ?_)
  obtain ⟨rfl, dd, rfl, rfl⟩ := hx
  simp only [List.cons_append, List.nil_append]
  exact e_end (by tb_rel) (kx _)
theorem okU_Roads_stops_at (T : Fx K mg) (B : Bx K mg base) : FnG P w K mg base 4 (He.fAd K ("Roads", some "stops_at")) ["self", "one", "other"] (spO (S_stopsat K).sp (spO (S_stopsatx K).sp ((S_stopsaty K).sp))) := FnG.or (ok_Roads_stops_at T B) (FnG.or (okx_stopsatx T B) ((okx_stopsaty T B)))
def S_meeting (K : PySem.W.Frag) : Tri where
  G := Addr × Addr × Addr × (List (Addr × Stp)) × (List Nd) × (List Nat) × (List Prs) × Nat × Nat × (List Nat) × (List Nat) × Unit
  O := Unit
  args := fun (r, s, sl, zs, nds, td, hs, i, j, w, w', _) => [.ref r, .int i, .int j]
  cond := fun (r, s, sl, zs, nds, td, hs, i, j, w, w', _) => (RdOk nds td zs hs) ∧ (Rd zs i w) ∧ (Rd zs j w') ∧ (i < zs.length) ∧ (j < zs.length) ∧ True
  pre := fun (r, s, sl, zs, nds, td, hs, i, j, w, w', _) => [Ob r (He.ga K "Roads") [("shelf", .ref s), ("stops", .ref sl)], pt sl (.lst (zs.map fun z => V.ref z.1)), StsA K zs]
  ok := fun (r, s, sl, zs, nds, td, hs, i, j, w, w', _) _ => True
  res := fun (r, s, sl, zs, nds, td, hs, i, j, w, w', _) _ => .int (meetR w w' : Nat)
  post := fun (r, s, sl, zs, nds, td, hs, i, j, w, w', _) _ => [Ob r (He.ga K "Roads") [("shelf", .ref s), ("stops", .ref sl)], pt sl (.lst (zs.map fun z => V.ref z.1)), StsA K zs]
theorem use_meeting {K : PySem.W.Frag} {L R : List Asn} {Q : VK} {E : XK} {r : Addr} {s : Addr} {sl : Addr} {zs : List (Addr × Stp)} {nds : List Nd} {td : List Nat} {hs : List Prs} {i : Nat} {j : Nat} {w : List Nat} {w' : List Nat} (sTk : Tks L [Ob r (He.ga K "Roads") [("shelf", .ref s), ("stops", .ref sl)], pt sl (.lst (zs.map fun z => V.ref z.1)), StsA K zs] R) (I : RdOk nds td zs hs) (hr : Rd zs i w) (hr' : Rd zs j w') (hi : i < zs.length) (hj : j < zs.length) (kk : Al (Ob r (He.ga K "Roads") [("shelf", .ref s), ("stops", .ref sl)] :: pt sl (.lst (zs.map fun z => V.ref z.1)) :: StsA K zs :: R) (Q (.int (meetR w w' : Nat)))) : Al L (xP (S_meeting K).sp [.ref r, .int i, .int j] Q E) :=
  Tri.useT (S_meeting K) (r, s, sl, zs, nds, td, hs, i, j, w, w', ()) rfl ⟨I, hr, hr', hi, hj, trivial⟩ sTk (fun _ _ => kk )
local macro_rules | `(tactic| kpt_turns) => `(tactic| ((with_reducible apply use_meeting); tb_rel; (k_all); (k_all); (k_all); (k_all); (k_all)))
abbrev N_Roads_meeting : List Str := ["self", "one", "other", "left", "right"]
theorem sc_Roads_meeting : FnScope N_Roads_meeting ["self", "one", "other"] (defScope s_Roads_meeting) := ⟨rfl, rfl, rfl, by decide +kernel, rfl, by decide +kernel, by decide +kernel⟩
theorem ok_Roads_meeting (T : Fx K mg) (B : Bx K mg base) : FnG P w K mg base 5 (He.fAd K ("Roads", some "meeting")) ["self", "one", "other"] (S_meeting K).sp := by
  refine Tri.fnC (N := N_Roads_meeting) (k := 4) (S_meeting K) T.d_Roads_meeting sc_Roads_meeting (fun g => rfl) (fun _ _ _ _ _ _ us hl => match us, hl with | [_, _, _], _ => rfl) fun cdv A outer s H E Q g R hcd hr hc ke kx => ⟨_, PSs.nox ((pss_cons (ps_asg (ge_meth (pv 0) T.c_Roads T.t_Roads_stops_at (ok_Roads_stops_at T B) hr.mono px0 (pa_cons (pv 1) (pa_cons (pv 2) pa_nil))) (qg_tup (K := K) (n := 2) rfl rfl (pgs_cons (pg_name (i := 3) sc_Roads_meeting.nd rfl (.inl rfl)) (pgs_cons (pg_name (i := 4) sc_Roads_meeting.nd rfl (.inl rfl)) pgs_nil))))
    (pss_cons (ps_while PassesOwn.never (pt_cmpR (q_ne (K := K) rfl hr.u64) (pv 1) (pv 2) (nomark _)) (pss_one (ps_if (pt_cmpR o_ge (q_fld (K := K) rfl (pv 3) rfl) (q_fld (K := K) rfl (pv 4) rfl) (nomark _)) (pss_cons (ps_set (i := 1) sc_Roads_meeting.nd rfl (.inl rfl) (q_fld (K := K) rfl (pv 3) rfl))
    (pss_one (ps_set (i := 3) sc_Roads_meeting.nd rfl (.inl rfl) (pe_ix (q_ix (K := K) rfl hr.u1) (q_fld (K := K) rfl (pv 0) rfl) (pv 1) (fun _ _ => rfl))))) (pss_cons (ps_set (i := 2) sc_Roads_meeting.nd rfl (.inl rfl) (q_fld (K := K) rfl (pv 4) rfl))
    (pss_one (ps_set (i := 4) sc_Roads_meeting.nd rfl (.inl rfl) (pe_ix (q_ix (K := K) rfl hr.u1) (q_fld (K := K) rfl (pv 0) rfl) (pv 2) (fun _ _ => rfl))))))))
    (pss_one (ps_ret (pv 1)))))), ?_⟩
  obtain ⟨r, s, sl, zs, nds, td, hs, i, j, w, w', _⟩ := g
  obtain ⟨I, hr, hr', hi, hj, _⟩ := hc
  replace ke : Al [Ob r (He.ga K "Roads") [("shelf", .ref s), ("stops", .ref sl)], pt sl (.lst (zs.map fun z => V.ref z.1)), StsA K zs, R] (Q (.int (meetR w w' : Nat))) := ke () trivial
  try dsimp only [cxOf]
  refine e_start (L := [Ob r (He.ga K "Roads") [("shelf", .ref s), ("stops", .ref sl)], pt sl (.lst (zs.map fun z => V.ref z.1)), StsA K zs, R]) (nx := fun _ H' => Q .non H') (rt := Q) (bk := fun _ _ => False) (ct := fun _ _ => False) [some (.ref r), some (.int i), some (.int j), none, none] rfl ?_
  obtain ⟨⟨a, x⟩, hx⟩ : ∃ z, zs[i]? = some z := ⟨_, List.getElem?_eq_getElem hi⟩
  obtain ⟨⟨a', x'⟩, hx'⟩ : ∃ z, zs[j]? = some z := ⟨_, List.getElem?_eq_getElem hj⟩
  obtain ⟨q0, hq0⟩ := hr.last
  obtain ⟨q0', hq0'⟩ := hr'.last
  tb_start
  refine use_stopsat (by tb_rel) hx hx' fun p => ?_
  tb_start
  refine e_while (fun m σ M => ∃ (q : List Nat) (c : Nat) (t : List Nat) (a : Addr) (x : Stp) (q' : List Nat) (c' : Nat) (t' : List Nat) (a' : Addr) (x' : Stp), ((w = q ++ c :: t) ∧ (w' = q' ++ c' :: t') ∧ (q.length + q'.length = m) ∧ (zs[c]? = some (a, x)) ∧ (zs[c']? = some (a', x')) ∧ (∀ k ∈ t, k ∉ w') ∧ (∀ k ∈ t', k ∉ w) ∧ True) ∧ σ = [some (.ref r), some (.int c), some (.int c'), some (.ref a), some (.ref a')] ∧ M = [Ob r (He.ga K "Roads") [("shelf", .ref s), ("stops", .ref sl)], pt sl (.lst (zs.map fun z => V.ref z.1)), StsA K zs, R]) ⟨q0.length + q0'.length, _, ⟨q0, i, [], a, x, q0', j, [], a', x', ⟨(hq0), (hq0'), (rfl), (hx), (hx'), ((fun k hk => by cases hk)), ((fun k hk => by cases hk)), trivial⟩, rfl, rfl⟩, .ofT (by tb_rel)⟩ ?_
  rintro m σ M ⟨q, c, t, a, x, q', c', t', a', x', ⟨hq, hq', hm, hx, hx', ht, ht', _⟩, rfl, rfl⟩
  tb_start
  refine e_wh ?_ ?_ <;> intro c1 <;> (try simp only [decide_eq_true_eq, decide_eq_false_iff_not, Bool.not_eq_true', Bool.not_eq_false', Bool.and_eq_true, Bool.or_eq_true, Bool.and_eq_false_iff, Bool.or_eq_false_iff, Bool.false_or, Bool.true_and, Bool.or_false, Bool.and_true, Bool.not_true, Bool.not_false, true_and, and_true, or_false, false_or, Bool.false_eq_true, Bool.true_eq_false, not_and, Bool.not_not] at c1)
  · have hne : c ≠ c' := fun e => c1 (by rw [e])
    tb_start
    refine e_ifb ?_ ?_ <;> intro c2 <;> (try simp only [decide_eq_true_eq, decide_eq_false_iff_not, Bool.not_eq_true', Bool.not_eq_false', Bool.and_eq_true, Bool.or_eq_true, Bool.and_eq_false_iff, Bool.or_eq_false_iff, Bool.false_or, Bool.true_and, Bool.or_false, Bool.and_true, Bool.not_true, Bool.not_false, true_and, and_true, or_false, false_or, Bool.false_eq_true, Bool.true_eq_false, not_and, Bool.not_not] at c2)
    · obtain ⟨o1, o2⟩ := I.off hr hr' hq hq' hx hx' ht' hne (by omega)
      obtain ⟨q1, b, rfl⟩ : ∃ q1 b, q = q1 ++ [b] := ⟨q.dropLast, q.getLast o2, (List.dropLast_concat_getLast _).symm⟩
      rw [List.append_assoc] at hq
      obtain ⟨a2, x2, h1, h2, h3⟩ := Rd.adj (u := q1) (b := b) (c := c) (v := t) (by rw [hq] at hr; exact hr)
      rw [hx] at h1
      cases h1
      obtain ⟨⟨a3, x3⟩, hx3⟩ : ∃ z, zs[b]? = some z := ⟨_, List.getElem?_eq_getElem (hr.lt hi b (by rw [hq]; exact List.mem_append.mpr (.inr (List.mem_cons_self ..))))⟩
      tb_start
      rw [h2]
      tb_start
      change Al _ (x2 _ (.ref sl) (.int (b : Nat)) _)
      refine e_xL (v := .ref a3) (by top_args) (atI_nat (by rw [List.getElem?_map, hx3]; rfl)) ?_
      tb_start
      rw [List.length_append, List.length_singleton] at hm
      exact e_whnx (m' := q1.length + q'.length) (by k_all) ⟨q1, b, c :: t, a3, x3, q', c', t', a', x', ⟨(hq), (hq'), (rfl), (hx3), (hx'), ((fun k hk => by rcases List.mem_cons.mp hk with e | e; (rw [e]; exact o1); exact ht k e)), (ht'), trivial⟩, rfl, rfl⟩ (by tb_rel)
    · obtain ⟨o1, o2⟩ := I.off hr' hr hq' hq hx' hx ht (fun e => hne e.symm) (by omega)
      obtain ⟨q1, b, rfl⟩ : ∃ q1 b, q' = q1 ++ [b] := ⟨q'.dropLast, q'.getLast o2, (List.dropLast_concat_getLast _).symm⟩
      rw [List.append_assoc] at hq'
      obtain ⟨a2, x2, h1, h2, h3⟩ := Rd.adj (u := q1) (b := b) (c := c') (v := t') (by rw [hq'] at hr'; exact hr')
      rw [hx'] at h1
      cases h1
      obtain ⟨⟨a3, x3⟩, hx3⟩ : ∃ z, zs[b]? = some z := ⟨_, List.getElem?_eq_getElem (hr'.lt hj b (by rw [hq']; exact List.mem_append.mpr (.inr (List.mem_cons_self ..))))⟩
      tb_start
      rw [h2]
      tb_start
      change Al _ (x2 _ (.ref sl) (.int (b : Nat)) _)
      refine e_xL (v := .ref a3) (by top_args) (atI_nat (by rw [List.getElem?_map, hx3]; rfl)) ?_
      tb_start
      rw [List.length_append, List.length_singleton] at hm
      exact e_whnx (m' := q.length + q1.length) (by k_all) ⟨q, c, t, a, x, q1, b, c' :: t', a3, x3, ⟨(hq), (hq'), (rfl), (hx), (hx3), (ht), ((fun k hk => by rcases List.mem_cons.mp hk with e | e; (rw [e]; exact o1); exact ht' k e)), trivial⟩, rfl, rfl⟩ (by tb_rel)
  · have c3 : c = c' := by omega
    subst c3
    have e1 : meetR w w' = c := meetR_at hq (by rw [hq']; exact List.mem_append.mpr (.inr (List.mem_cons_self ..))) ht
    rw [e1] at ke
    tb_start
    exact e_end (by tb_rel) (ke)
def S_meetingx (K : PySem.W.Frag) : Tri where
  G := Addr × Addr × Addr × (List (Addr × Stp)) × Int × Int × Unit
  O := Unit
  args := fun (r, s, sl, zs, i, j, _) => [.ref r, .int i, .int j]
  cond := fun (r, s, sl, zs, i, j, _) => (¬ (0 ≤ i ∧ i < zs.length)) ∧ True
  pre := fun (r, s, sl, zs, i, j, _) => [Ob r (He.ga K "Roads") [("shelf", .ref s), ("stops", .ref sl)], pt sl (.lst (zs.map fun z => V.ref z.1)), StsA K zs]
  ok := fun (r, s, sl, zs, i, j, _) _ => (False) ∧ True
  res := fun (r, s, sl, zs, i, j, _) _ => .non
  post := fun (r, s, sl, zs, i, j, _) _ => []
  exc := fun (r, s, sl, zs, i, j, _) => fun c d M => Refd K "NoPlace" (.int i) [Ob r (He.ga K "Roads") [("shelf", .ref s), ("stops", .ref sl)], pt sl (.lst (zs.map fun z => V.ref z.1)), StsA K zs] c d M
theorem use_meetingx {K : PySem.W.Frag} {L R : List Asn} {Q : VK} {E : XK} {r : Addr} {s : Addr} {sl : Addr} {zs : List (Addr × Stp)} {i : Int} {j : Int} (sTk : Tks L [Ob r (He.ga K "Roads") [("shelf", .ref s), ("stops", .ref sl)], pt sl (.lst (zs.map fun z => V.ref z.1)), StsA K zs] R) (hi : ¬ (0 ≤ i ∧ i < zs.length)) (kk : ∀ (_ : False), Al R (Q (.non))) (kkx : ∀ c d M, (Refd K "NoPlace" (.int i) [Ob r (He.ga K "Roads") [("shelf", .ref s), ("stops", .ref sl)], pt sl (.lst (zs.map fun z => V.ref z.1)), StsA K zs] c d M) → Al (M ++ R) (E c d)) : Al L (xP (S_meetingx K).sp [.ref r, .int i, .int j] Q E) :=
  Tri.useT (S_meetingx K) (r, s, sl, zs, i, j, ()) rfl ⟨hi, trivial⟩ sTk (fun _ ⟨hh0, _⟩ => kk hh0) kkx
theorem okx_meetingx (T : Fx K mg) (B : Bx K mg base) : FnG P w K mg base 5 (He.fAd K ("Roads", some "meeting")) ["self", "one", "other"] (S_meetingx K).sp := by
  refine Tri.fnC (N := N_Roads_meeting) (k := 4) (S_meetingx K) T.d_Roads_meeting sc_Roads_meeting (fun g => rfl) (fun _ _ _ _ _ _ us hl => match us, hl with | [_, _, _], _ => rfl) fun cdv A outer s H E Q g R hcd hr hc ke kx => ⟨_, ((pss_cons (ps_asg (ge_methW (pv 0) T.c_Roads T.t_Roads_stops_at (okU_Roads_stops_at T B) hr.mono (takes_of rfl rfl rfl rfl) (pa_cons (pv 1) (pa_cons (pv 2) pa_nil))) (qg_tup (K := K) (n := 2) rfl rfl (pgs_cons (pg_name (i := 3) sc_Roads_meeting.nd rfl (.inl rfl)) (pgs_cons (pg_name (i := 4) sc_Roads_meeting.nd rfl (.inl rfl)) pgs_nil))))
    (pss_cons (ps_while (passes_of rfl) (pt_cmpR (q_ne (K := K) rfl hr.u64) (pv 1) (pv 2) (nomark _)) (pss_one (ps_if (pt_cmpR o_ge (q_fld (K := K) rfl (pv 3) rfl) (q_fld (K := K) rfl (pv 4) rfl) (nomark _)) (pss_cons (ps_set (i := 1) sc_Roads_meeting.nd rfl (.inl rfl) (q_fld (K := K) rfl (pv 3) rfl))
    (pss_one (ps_set (i := 3) sc_Roads_meeting.nd rfl (.inl rfl) (pe_ix (q_ix (K := K) rfl hr.u1) (q_fld (K := K) rfl (pv 0) rfl) (pv 1) (fun _ _ => rfl))))) (pss_cons (ps_set (i := 2) sc_Roads_meeting.nd rfl (.inl rfl) (q_fld (K := K) rfl (pv 4) rfl))
    (pss_one (ps_set (i := 4) sc_Roads_meeting.nd rfl (.inl rfl) (pe_ix (q_ix (K := K) rfl hr.u1) (q_fld (K := K) rfl (pv 0) rfl) (pv 2) (fun _ _ => rfl))))))))
    (pss_one (ps_ret (pv 1)))))), ?_⟩
  obtain ⟨r, s, sl, zs, i, j, _⟩ := g
  obtain ⟨hi, _⟩ := hc
  replace ke : ∀ (_ : False), Al [R] (Q (.non)) := fun hh0 => ke () ⟨hh0, trivial⟩
  replace kx : ∀ ddX, Al [pt ddX (.xd [("what", (.int i))]), Ob r (He.ga K "Roads") [("shelf", .ref s), ("stops", .ref sl)], pt sl (.lst (zs.map fun z => V.ref z.1)), StsA K zs, R] (E (.ref (He.ga K "NoPlace")) (some ddX)) := fun ddX => kx _ _ _ ⟨rfl, ddX, rfl, rfl⟩
  try dsimp only [cxOf]
  refine e_start (L := [Ob r (He.ga K "Roads") [("shelf", .ref s), ("stops", .ref sl)], pt sl (.lst (zs.map fun z => V.ref z.1)), StsA K zs, R]) (nx := fun _ H' => Q .non H') (rt := Q) (bk := fun _ _ => False) (ct := fun _ _ => False) [some (.ref r), some (.int i), some (.int j), none, none] rfl ?_
  tb_start
  refine e_spR ?_
  refine e_spL ?_
  refine use_stopsatx (by tb_rel) (hi) (fun hF => hF.elim) (fun c d M hx => ?_)
  obtain ⟨rfl, dd, rfl, rfl⟩ := hx
  simp only [List.cons_append, List.nil_append]
  exact e_end (by tb_rel) (kx _)
def S_meetingy (K : PySem.W.Frag) : Tri where
  G := Addr × Addr × Addr × (List (Addr × Stp)) × Nat × Int × Addr × Stp × Unit
  O := Unit
  args := fun (r, s, sl, zs, i, j, a, x, _) => [.ref r, .int i, .int j]
  cond := fun (r, s, sl, zs, i, j, a, x, _) => (zs[i]? = some (a, x)) ∧ (¬ (0 ≤ j ∧ j < zs.length)) ∧ True
  pre := fun (r, s, sl, zs, i, j, a, x, _) => [Ob r (He.ga K "Roads") [("shelf", .ref s), ("stops", .ref sl)], pt sl (.lst (zs.map fun z => V.ref z.1)), StsA K zs]
  ok := fun (r, s, sl, zs, i, j, a, x, _) _ => (False) ∧ True
  res := fun (r, s, sl, zs, i, j, a, x, _) _ => .non
  post := fun (r, s, sl, zs, i, j, a, x, _) _ => []
  exc := fun (r, s, sl, zs, i, j, a, x, _) => fun c d M => Refd K "NoPlace" (.int j) [Ob r (He.ga K "Roads") [("shelf", .ref s), ("stops", .ref sl)], pt sl (.lst (zs.map fun z => V.ref z.1)), StsA K zs] c d M
theorem use_meetingy {K : PySem.W.Frag} {L R : List Asn} {Q : VK} {E : XK} {r : Addr} {s : Addr} {sl : Addr} {zs : List (Addr × Stp)} {i : Nat} {j : Int} {a : Addr} {x : Stp} (sTk : Tks L [Ob r (He.ga K "Roads") [("shelf", .ref s), ("stops", .ref sl)], pt sl (.lst (zs.map fun z => V.ref z.1)), StsA K zs] R) (hx : zs[i]? = some (a, x)) (hj : ¬ (0 ≤ j ∧ j < zs.length)) (kk : ∀ (_ : False), Al R (Q (.non))) (kkx : ∀ c d M, (Refd K "NoPlace" (.int j) [Ob r (He.ga K "Roads") [("shelf", .ref s), ("stops", .ref sl)], pt sl (.lst (zs.map fun z => V.ref z.1)), StsA K zs] c d M) → Al (M ++ R) (E c d)) : Al L (xP (S_meetingy K).sp [.ref r, .int i, .int j] Q E) :=
  Tri.useT (S_meetingy K) (r, s, sl, zs, i, j, a, x, ()) rfl ⟨hx, hj, trivial⟩ sTk (fun _ ⟨hh0, _⟩ => kk hh0) kkx
theorem okx_meetingy (T : Fx K mg) (B : Bx K mg base) : FnG P w K mg base 5 (He.fAd K ("Roads", some "meeting")) ["self", "one", "other"] (S_meetingy K).sp := by
  refine Tri.fnC (N := N_Roads_meeting) (k := 4) (S_meetingy K) T.d_Roads_meeting sc_Roads_meeting (fun g => rfl) (fun _ _ _ _ _ _ us hl => match us, hl with | [_, _, _], _ => rfl) fun cdv A outer s H E Q g R hcd hr hc ke kx => ⟨_, ((pss_cons (ps_asg (ge_methW (pv 0) T.c_Roads T.t_Roads_stops_at (okU_Roads_stops_at T B) hr.mono (takes_of rfl rfl rfl rfl) (pa_cons (pv 1) (pa_cons (pv 2) pa_nil))) (qg_tup (K := K) (n := 2) rfl rfl (pgs_cons (pg_name (i := 3) sc_Roads_meeting.nd rfl (.inl rfl)) (pgs_cons (pg_name (i := 4) sc_Roads_meeting.nd rfl (.inl rfl)) pgs_nil))))
    (pss_cons (ps_while (passes_of rfl) (pt_cmpR (q_ne (K := K) rfl hr.u64) (pv 1) (pv 2) (nomark _)) (pss_one (ps_if (pt_cmpR o_ge (q_fld (K := K) rfl (pv 3) rfl) (q_fld (K := K) rfl (pv 4) rfl) (nomark _)) (pss_cons (ps_set (i := 1) sc_Roads_meeting.nd rfl (.inl rfl) (q_fld (K := K) rfl (pv 3) rfl))
    (pss_one (ps_set (i := 3) sc_Roads_meeting.nd rfl (.inl rfl) (pe_ix (q_ix (K := K) rfl hr.u1) (q_fld (K := K) rfl (pv 0) rfl) (pv 1) (fun _ _ => rfl))))) (pss_cons (ps_set (i := 2) sc_Roads_meeting.nd rfl (.inl rfl) (q_fld (K := K) rfl (pv 4) rfl))
    (pss_one (ps_set (i := 4) sc_Roads_meeting.nd rfl (.inl rfl) (pe_ix (q_ix (K := K) rfl hr.u1) (q_fld (K := K) rfl (pv 0) rfl) (pv 2) (fun _ _ => rfl))))))))
    (pss_one (ps_ret (pv 1)))))), ?_⟩
  obtain ⟨r, s, sl, zs, i, j, a, x, _⟩ := g
  obtain ⟨hx, hj, _⟩ := hc
  replace ke : ∀ (_ : False), Al [R] (Q (.non)) := fun hh0 => ke () ⟨hh0, trivial⟩
  replace kx : ∀ ddX, Al [pt ddX (.xd [("what", (.int j))]), Ob r (He.ga K "Roads") [("shelf", .ref s), ("stops", .ref sl)], pt sl (.lst (zs.map fun z => V.ref z.1)), StsA K zs, R] (E (.ref (He.ga K "NoPlace")) (some ddX)) := fun ddX => kx _ _ _ ⟨rfl, ddX, rfl, rfl⟩
  try dsimp only [cxOf]
  refine e_start (L := [Ob r (He.ga K "Roads") [("shelf", .ref s), ("stops", .ref sl)], pt sl (.lst (zs.map fun z => V.ref z.1)), StsA K zs, R]) (nx := fun _ H' => Q .non H') (rt := Q) (bk := fun _ _ => False) (ct := fun _ _ => False) [some (.ref r), some (.int i), some (.int j), none, none] rfl ?_
  tb_start
  refine e_spR ?_
  refine e_spR ?_
  refine use_stopsaty (by tb_rel) (hx) (hj) (fun hF => hF.elim) (fun c d M hx => ?_)
  obtain ⟨rfl, dd, rfl, rfl⟩ := hx
  simp only [List.cons_append, List.nil_append]
  exact e_end (by tb_rel) (kx _)
theorem okU_Roads_meeting (T : Fx K mg) (B : Bx K mg base) : FnG P w K mg base 5 (He.fAd K ("Roads", some "meeting")) ["self", "one", "other"] (spO (S_meeting K).sp (spO (S_meetingx K).sp ((S_meetingy K).sp))) := FnG.or (ok_Roads_meeting T B) (FnG.or (okx_meetingx T B) ((okx_meetingy T B)))
def S_between (K : PySem.W.Frag) : Tri where
  G := Addr × Addr × Addr × (List (Addr × Stp)) × (List Nd) × (List Nat) × (List Prs) × Nat × Nat × (List Nat) × (List Nat) × (List Nat) × Unit
  O := Addr × Unit
  args := fun (r, s, sl, zs, nds, td, hs, i, j, w, u, v, _) => [.ref r, .int i, .int j]
  cond := fun (r, s, sl, zs, nds, td, hs, i, j, w, u, v, _) => (RdOk nds td zs hs) ∧ (Rd zs i w) ∧ (Rd zs j (u ++ i :: v)) ∧ (i < zs.length) ∧ (j < zs.length) ∧ (zs.length ≤ 100000) ∧ True
  pre := fun (r, s, sl, zs, nds, td, hs, i, j, w, u, v, _) => [Ob r (He.ga K "Roads") [("shelf", .ref s), ("stops", .ref sl)], pt sl (.lst (zs.map fun z => V.ref z.1)), StsA K zs]
  ok := fun (r, s, sl, zs, nds, td, hs, i, j, w, u, v, _) (p, _) => True
  res := fun (r, s, sl, zs, nds, td, hs, i, j, w, u, v, _) (p, _) => .ref p
  post := fun (r, s, sl, zs, nds, td, hs, i, j, w, u, v, _) (p, _) => [pt p (.lst (v.map fun j : Nat => V.int j)), Ob r (He.ga K "Roads") [("shelf", .ref s), ("stops", .ref sl)], pt sl (.lst (zs.map fun z => V.ref z.1)), StsA K zs]
theorem use_between {K : PySem.W.Frag} {L R : List Asn} {Q : VK} {E : XK} {r : Addr} {s : Addr} {sl : Addr} {zs : List (Addr × Stp)} {nds : List Nd} {td : List Nat} {hs : List Prs} {i : Nat} {j : Nat} {w : List Nat} {u : List Nat} {v : List Nat} (sTk : Tks L [Ob r (He.ga K "Roads") [("shelf", .ref s), ("stops", .ref sl)], pt sl (.lst (zs.map fun z => V.ref z.1)), StsA K zs] R) (I : RdOk nds td zs hs) (hr : Rd zs i w) (hr' : Rd zs j (u ++ i :: v)) (hi : i < zs.length) (hj : j < zs.length) (hz : zs.length ≤ 100000) (kk : ∀ (p : Addr), Al (pt p (.lst (v.map fun j : Nat => V.int j)) :: Ob r (He.ga K "Roads") [("shelf", .ref s), ("stops", .ref sl)] :: pt sl (.lst (zs.map fun z => V.ref z.1)) :: StsA K zs :: R) (Q (.ref p))) : Al L (xP (S_between K).sp [.ref r, .int i, .int j] Q E) :=
  Tri.useT (S_between K) (r, s, sl, zs, nds, td, hs, i, j, w, u, v, ()) rfl ⟨I, hr, hr', hi, hj, hz, trivial⟩ sTk (fun ⟨p, _⟩ _ => kk p)
abbrev N_Roads_between : List Str := ["self", "early", "late"]
theorem sc_Roads_between : FnScope N_Roads_between ["self", "early", "late"] (defScope s_Roads_between) := ⟨rfl, rfl, rfl, by decide +kernel, rfl, by decide +kernel, by decide +kernel⟩
theorem ok_Roads_between (T : Fx K mg) (B : Bx K mg base) : FnG P w K mg base 6 (He.fAd K ("Roads", some "between")) ["self", "early", "late"] (S_between K).sp := by
  refine Tri.fnC (N := N_Roads_between) (k := 5) (S_between K) T.d_Roads_between sc_Roads_between (fun g => rfl) (fun _ _ _ _ _ _ us hl => match us, hl with | [_, _, _], _ => rfl) fun cdv A outer s H E Q g R hcd hr hc ke kx => ⟨_, PSs.nox ((pss_cons (ps_if (pt_cmpR (q_ne (K := K) rfl hr.u64) (ge_meth (pv 0) T.c_Roads T.t_Roads_meeting (ok_Roads_meeting T B) hr.mono px0 (pa_cons (pv 1) (pa_cons (pv 2) pa_nil))) (pv 1) (nomark _)) (pss_one AL.ps_never) pss_nil)
    (pss_one (ps_ret (pe_slice (q_sl (K := K) rfl) (ge_meth (pv 0) T.c_Roads T.t_Roads_back_to (ok_Roads_back_to T B) hr.mono px0 (pa_cons (pv 1) (pa_cons (pv 2) pa_nil))) (po_some pe_int) po_none))))), ?_⟩
  obtain ⟨r, s, sl, zs, nds, td, hs, i, j, w, u, v, _⟩ := g
  obtain ⟨I, hr, hr', hi, hj, hz, _⟩ := hc
  replace ke : ∀ (p : Addr), Al [pt p (.lst (v.map fun j : Nat => V.int j)), Ob r (He.ga K "Roads") [("shelf", .ref s), ("stops", .ref sl)], pt sl (.lst (zs.map fun z => V.ref z.1)), StsA K zs, R] (Q (.ref p)) := fun p => ke (p, ()) trivial
  try dsimp only [cxOf]
  refine e_start (L := [Ob r (He.ga K "Roads") [("shelf", .ref s), ("stops", .ref sl)], pt sl (.lst (zs.map fun z => V.ref z.1)), StsA K zs, R]) (nx := fun _ H' => Q .non H') (rt := Q) (bk := fun _ _ => False) (ct := fun _ _ => False) [some (.ref r), some (.int i), some (.int j)] rfl ?_
  have e1 : meetR w (u ++ i :: v) = i := meetR_on hr hr' (List.mem_append.mpr (.inr (List.mem_cons_self ..)))
  tb_start
  rw [e1]
  tb_start
  refine e_eqb (b' := false) (by simp) ?_
  tb_start
  refine use_backto (by tb_rel) hr' hj hz fun p => ?_
  tb_start
  refine e_slL (by top_args) fun c => ?_
  rw [show cutV ((i :: v).map fun j : Nat => V.int j) (some 1) none = v.map fun j : Nat => V.int j from by rw [show (1 : Int) = ((1 : Nat) : Int) from rfl, cutV_drop (by simp)]; rfl]
  exact e_end (by tb_rel) (ke (c))
def S_betweenx (K : PySem.W.Frag) : Tri where
  G := Addr × Addr × Addr × (List (Addr × Stp)) × Int × Int × Unit
  O := Unit
  args := fun (r, s, sl, zs, i, j, _) => [.ref r, .int i, .int j]
  cond := fun (r, s, sl, zs, i, j, _) => (¬ (0 ≤ i ∧ i < zs.length)) ∧ True
  pre := fun (r, s, sl, zs, i, j, _) => [Ob r (He.ga K "Roads") [("shelf", .ref s), ("stops", .ref sl)], pt sl (.lst (zs.map fun z => V.ref z.1)), StsA K zs]
  ok := fun (r, s, sl, zs, i, j, _) _ => (False) ∧ True
  res := fun (r, s, sl, zs, i, j, _) _ => .non
  post := fun (r, s, sl, zs, i, j, _) _ => []
  exc := fun (r, s, sl, zs, i, j, _) => fun c d M => Refd K "NoPlace" (.int i) [Ob r (He.ga K "Roads") [("shelf", .ref s), ("stops", .ref sl)], pt sl (.lst (zs.map fun z => V.ref z.1)), StsA K zs] c d M
theorem use_betweenx {K : PySem.W.Frag} {L R : List Asn} {Q : VK} {E : XK} {r : Addr} {s : Addr} {sl : Addr} {zs : List (Addr × Stp)} {i : Int} {j : Int} (sTk : Tks L [Ob r (He.ga K "Roads") [("shelf", .ref s), ("stops", .ref sl)], pt sl (.lst (zs.map fun z => V.ref z.1)), StsA K zs] R) (hi : ¬ (0 ≤ i ∧ i < zs.length)) (kk : ∀ (_ : False), Al R (Q (.non))) (kkx : ∀ c d M, (Refd K "NoPlace" (.int i) [Ob r (He.ga K "Roads") [("shelf", .ref s), ("stops", .ref sl)], pt sl (.lst (zs.map fun z => V.ref z.1)), StsA K zs] c d M) → Al (M ++ R) (E c d)) : Al L (xP (S_betweenx K).sp [.ref r, .int i, .int j] Q E) :=
  Tri.useT (S_betweenx K) (r, s, sl, zs, i, j, ()) rfl ⟨hi, trivial⟩ sTk (fun _ ⟨hh0, _⟩ => kk hh0) kkx
theorem okx_betweenx (T : Fx K mg) (B : Bx K mg base) : FnG P w K mg base 6 (He.fAd K ("Roads", some "between")) ["self", "early", "late"] (S_betweenx K).sp := by
  refine Tri.fnC (N := N_Roads_between) (k := 5) (S_betweenx K) T.d_Roads_between sc_Roads_between (fun g => rfl) (fun _ _ _ _ _ _ us hl => match us, hl with | [_, _, _], _ => rfl) fun cdv A outer s H E Q g R hcd hr hc ke kx => ⟨_, ((pss_cons (ps_if (pt_cmpR (q_ne (K := K) rfl hr.u64) (ge_methW (pv 0) T.c_Roads T.t_Roads_meeting (okU_Roads_meeting T B) hr.mono (takes_of rfl rfl rfl rfl) (pa_cons (pv 1) (pa_cons (pv 2) pa_nil))) (pv 1) (nomark _)) (pss_one (ps_raise_w rfl (takes_of rfl rfl rfl rfl) (B.x.xc "NotBehind" (by decide)) (B.x.ini "NotBehind" (by decide)).1 (B.x.ini "NotBehind" (by decide)).2 (oki_NotBehind T B) hr.mono (by rfl) T.g_NotBehind (pa_cons (pv 1) pa_nil))) pss_nil)
    (pss_one (ps_ret (pe_slice (q_sl (K := K) rfl) (ge_meth (pv 0) T.c_Roads T.t_Roads_back_to (ok_Roads_back_to T B) hr.mono px0 (pa_cons (pv 1) (pa_cons (pv 2) pa_nil))) (po_some pe_int) po_none))))), ?_⟩
  obtain ⟨r, s, sl, zs, i, j, _⟩ := g
  obtain ⟨hi, _⟩ := hc
  replace ke : ∀ (_ : False), Al [R] (Q (.non)) := fun hh0 => ke () ⟨hh0, trivial⟩
  replace kx : ∀ ddX, Al [pt ddX (.xd [("what", (.int i))]), Ob r (He.ga K "Roads") [("shelf", .ref s), ("stops", .ref sl)], pt sl (.lst (zs.map fun z => V.ref z.1)), StsA K zs, R] (E (.ref (He.ga K "NoPlace")) (some ddX)) := fun ddX => kx _ _ _ ⟨rfl, ddX, rfl, rfl⟩
  try dsimp only [cxOf]
  refine e_start (L := [Ob r (He.ga K "Roads") [("shelf", .ref s), ("stops", .ref sl)], pt sl (.lst (zs.map fun z => V.ref z.1)), StsA K zs, R]) (nx := fun _ H' => Q .non H') (rt := Q) (bk := fun _ _ => False) (ct := fun _ _ => False) [some (.ref r), some (.int i), some (.int j)] rfl ?_
  tb_start
  refine e_spR ?_
  refine e_spL ?_
  refine use_meetingx (by tb_rel) (hi) (fun hF => hF.elim) (fun c d M hx => ?_)
  obtain ⟨rfl, dd, rfl, rfl⟩ := hx
  simp only [List.cons_append, List.nil_append]
  exact e_end (by tb_rel) (kx _)
def S_betweeny (K : PySem.W.Frag) : Tri where
  G := Addr × Addr × Addr × (List (Addr × Stp)) × Nat × Int × Addr × Stp × Unit
  O := Unit
  args := fun (r, s, sl, zs, i, j, a, x, _) => [.ref r, .int i, .int j]
  cond := fun (r, s, sl, zs, i, j, a, x, _) => (zs[i]? = some (a, x)) ∧ (¬ (0 ≤ j ∧ j < zs.length)) ∧ True
  pre := fun (r, s, sl, zs, i, j, a, x, _) => [Ob r (He.ga K "Roads") [("shelf", .ref s), ("stops", .ref sl)], pt sl (.lst (zs.map fun z => V.ref z.1)), StsA K zs]
  ok := fun (r, s, sl, zs, i, j, a, x, _) _ => (False) ∧ True
  res := fun (r, s, sl, zs, i, j, a, x, _) _ => .non
  post := fun (r, s, sl, zs, i, j, a, x, _) _ => []
  exc := fun (r, s, sl, zs, i, j, a, x, _) => fun c d M => Refd K "NoPlace" (.int j) [Ob r (He.ga K "Roads") [("shelf", .ref s), ("stops", .ref sl)], pt sl (.lst (zs.map fun z => V.ref z.1)), StsA K zs] c d M
theorem use_betweeny {K : PySem.W.Frag} {L R : List Asn} {Q : VK} {E : XK} {r : Addr} {s : Addr} {sl : Addr} {zs : List (Addr × Stp)} {i : Nat} {j : Int} {a : Addr} {x : Stp} (sTk : Tks L [Ob r (He.ga K "Roads") [("shelf", .ref s), ("stops", .ref sl)], pt sl (.lst (zs.map fun z => V.ref z.1)), StsA K zs] R) (hx : zs[i]? = some (a, x)) (hj : ¬ (0 ≤ j ∧ j < zs.length)) (kk : ∀ (_ : False), Al R (Q (.non))) (kkx : ∀ c d M, (Refd K "NoPlace" (.int j) [Ob r (He.ga K "Roads") [("shelf", .ref s), ("stops", .ref sl)], pt sl (.lst (zs.map fun z => V.ref z.1)), StsA K zs] c d M) → Al (M ++ R) (E c d)) : Al L (xP (S_betweeny K).sp [.ref r, .int i, .int j] Q E) :=
  Tri.useT (S_betweeny K) (r, s, sl, zs, i, j, a, x, ()) rfl ⟨hx, hj, trivial⟩ sTk (fun _ ⟨hh0, _⟩ => kk hh0) kkx
theorem okx_betweeny (T : Fx K mg) (B : Bx K mg base) : FnG P w K mg base 6 (He.fAd K ("Roads", some "between")) ["self", "early", "late"] (S_betweeny K).sp := by
  refine Tri.fnC (N := N_Roads_between) (k := 5) (S_betweeny K) T.d_Roads_between sc_Roads_between (fun g => rfl) (fun _ _ _ _ _ _ us hl => match us, hl with | [_, _, _], _ => rfl) fun cdv A outer s H E Q g R hcd hr hc ke kx => ⟨_, ((pss_cons (ps_if (pt_cmpR (q_ne (K := K) rfl hr.u64) (ge_methW (pv 0) T.c_Roads T.t_Roads_meeting (okU_Roads_meeting T B) hr.mono (takes_of rfl rfl rfl rfl) (pa_cons (pv 1) (pa_cons (pv 2) pa_nil))) (pv 1) (nomark _)) (pss_one (ps_raise_w rfl (takes_of rfl rfl rfl rfl) (B.x.xc "NotBehind" (by decide)) (B.x.ini "NotBehind" (by decide)).1 (B.x.ini "NotBehind" (by decide)).2 (oki_NotBehind T B) hr.mono (by rfl) T.g_NotBehind (pa_cons (pv 1) pa_nil))) pss_nil)
    (pss_one (ps_ret (pe_slice (q_sl (K := K) rfl) (ge_meth (pv 0) T.c_Roads T.t_Roads_back_to (ok_Roads_back_to T B) hr.mono px0 (pa_cons (pv 1) (pa_cons (pv 2) pa_nil))) (po_some pe_int) po_none))))), ?_⟩
  obtain ⟨r, s, sl, zs, i, j, a, x, _⟩ := g
  obtain ⟨hx, hj, _⟩ := hc
  replace ke : ∀ (_ : False), Al [R] (Q (.non)) := fun hh0 => ke () ⟨hh0, trivial⟩
  replace kx : ∀ ddX, Al [pt ddX (.xd [("what", (.int j))]), Ob r (He.ga K "Roads") [("shelf", .ref s), ("stops", .ref sl)], pt sl (.lst (zs.map fun z => V.ref z.1)), StsA K zs, R] (E (.ref (He.ga K "NoPlace")) (some ddX)) := fun ddX => kx _ _ _ ⟨rfl, ddX, rfl, rfl⟩
  try dsimp only [cxOf]
  refine e_start (L := [Ob r (He.ga K "Roads") [("shelf", .ref s), ("stops", .ref sl)], pt sl (.lst (zs.map fun z => V.ref z.1)), StsA K zs, R]) (nx := fun _ H' => Q .non H') (rt := Q) (bk := fun _ _ => False) (ct := fun _ _ => False) [some (.ref r), some (.int i), some (.int j)] rfl ?_
  tb_start
  refine e_spR ?_
  refine e_spR ?_
  refine use_meetingy (by tb_rel) (hx) (hj) (fun hF => hF.elim) (fun c d M hx => ?_)
  obtain ⟨rfl, dd, rfl, rfl⟩ := hx
  simp only [List.cons_append, List.nil_append]
  exact e_end (by tb_rel) (kx _)
def S_betweenb (K : PySem.W.Frag) : Tri where
  G := Addr × Addr × Addr × (List (Addr × Stp)) × (List Nd) × (List Nat) × (List Prs) × Nat × Nat × (List Nat) × (List Nat) × Unit
  O := Unit
  args := fun (r, s, sl, zs, nds, td, hs, i, j, w, w', _) => [.ref r, .int i, .int j]
  cond := fun (r, s, sl, zs, nds, td, hs, i, j, w, w', _) => (RdOk nds td zs hs) ∧ (Rd zs i w) ∧ (Rd zs j w') ∧ (i < zs.length) ∧ (j < zs.length) ∧ (i ∉ w') ∧ True
  pre := fun (r, s, sl, zs, nds, td, hs, i, j, w, w', _) => [Ob r (He.ga K "Roads") [("shelf", .ref s), ("stops", .ref sl)], pt sl (.lst (zs.map fun z => V.ref z.1)), StsA K zs]
  ok := fun (r, s, sl, zs, nds, td, hs, i, j, w, w', _) _ => (False) ∧ True
  res := fun (r, s, sl, zs, nds, td, hs, i, j, w, w', _) _ => .non
  post := fun (r, s, sl, zs, nds, td, hs, i, j, w, w', _) _ => []
  exc := fun (r, s, sl, zs, nds, td, hs, i, j, w, w', _) => fun c d M => Refd K "NotBehind" (.int i) [Ob r (He.ga K "Roads") [("shelf", .ref s), ("stops", .ref sl)], pt sl (.lst (zs.map fun z => V.ref z.1)), StsA K zs] c d M
theorem use_betweenb {K : PySem.W.Frag} {L R : List Asn} {Q : VK} {E : XK} {r : Addr} {s : Addr} {sl : Addr} {zs : List (Addr × Stp)} {nds : List Nd} {td : List Nat} {hs : List Prs} {i : Nat} {j : Nat} {w : List Nat} {w' : List Nat} (sTk : Tks L [Ob r (He.ga K "Roads") [("shelf", .ref s), ("stops", .ref sl)], pt sl (.lst (zs.map fun z => V.ref z.1)), StsA K zs] R) (I : RdOk nds td zs hs) (hr : Rd zs i w) (hr' : Rd zs j w') (hi : i < zs.length) (hj : j < zs.length) (hn : i ∉ w') (kk : ∀ (_ : False), Al R (Q (.non))) (kkx : ∀ c d M, (Refd K "NotBehind" (.int i) [Ob r (He.ga K "Roads") [("shelf", .ref s), ("stops", .ref sl)], pt sl (.lst (zs.map fun z => V.ref z.1)), StsA K zs] c d M) → Al (M ++ R) (E c d)) : Al L (xP (S_betweenb K).sp [.ref r, .int i, .int j] Q E) :=
  Tri.useT (S_betweenb K) (r, s, sl, zs, nds, td, hs, i, j, w, w', ()) rfl ⟨I, hr, hr', hi, hj, hn, trivial⟩ sTk (fun _ ⟨hh0, _⟩ => kk hh0) kkx
theorem okx_betweenb (T : Fx K mg) (B : Bx K mg base) : FnG P w K mg base 6 (He.fAd K ("Roads", some "between")) ["self", "early", "late"] (S_betweenb K).sp := by
  refine Tri.fnC (N := N_Roads_between) (k := 5) (S_betweenb K) T.d_Roads_between sc_Roads_between (fun g => rfl) (fun _ _ _ _ _ _ us hl => match us, hl with | [_, _, _], _ => rfl) fun cdv A outer s H E Q g R hcd hr hc ke kx => ⟨_, ((pss_cons (ps_if (pt_cmpR (q_ne (K := K) rfl hr.u64) (ge_methW (pv 0) T.c_Roads T.t_Roads_meeting (okU_Roads_meeting T B) hr.mono (takes_of rfl rfl rfl rfl) (pa_cons (pv 1) (pa_cons (pv 2) pa_nil))) (pv 1) (nomark _)) (pss_one (ps_raise_w rfl (takes_of rfl rfl rfl rfl) (B.x.xc "NotBehind" (by decide)) (B.x.ini "NotBehind" (by decide)).1 (B.x.ini "NotBehind" (by decide)).2 (oki_NotBehind T B) hr.mono (by rfl) T.g_NotBehind (pa_cons (pv 1) pa_nil))) pss_nil)
    (pss_one (ps_ret (pe_slice (q_sl (K := K) rfl) (ge_meth (pv 0) T.c_Roads T.t_Roads_back_to (ok_Roads_back_to T B) hr.mono px0 (pa_cons (pv 1) (pa_cons (pv 2) pa_nil))) (po_some pe_int) po_none))))), ?_⟩
  obtain ⟨r, s, sl, zs, nds, td, hs, i, j, w, w', _⟩ := g
  obtain ⟨I, hr, hr', hi, hj, hn, _⟩ := hc
  replace ke : ∀ (_ : False), Al [R] (Q (.non)) := fun hh0 => ke () ⟨hh0, trivial⟩
  replace kx : ∀ ddX, Al [pt ddX (.xd [("what", (.int i))]), Ob r (He.ga K "Roads") [("shelf", .ref s), ("stops", .ref sl)], pt sl (.lst (zs.map fun z => V.ref z.1)), StsA K zs, R] (E (.ref (He.ga K "NotBehind")) (some ddX)) := fun ddX => kx _ _ _ ⟨rfl, ddX, rfl, rfl⟩
  try dsimp only [cxOf]
  refine e_start (L := [Ob r (He.ga K "Roads") [("shelf", .ref s), ("stops", .ref sl)], pt sl (.lst (zs.map fun z => V.ref z.1)), StsA K zs, R]) (nx := fun _ H' => Q .non H') (rt := Q) (bk := fun _ _ => False) (ct := fun _ _ => False) [some (.ref r), some (.int i), some (.int j)] rfl ?_
  have e1 : meetR w w' ≠ i := meetR_off hr hr' hn
  tb_start
  refine e_spL ?_
  refine use_meeting (by tb_rel) (I) (hr) (hr') (hi) (hj) ?_
  tb_start
  refine e_eqb (b' := true) (by simp; omega) ?_
  tb_start
  exact e_end (by tb_rel) (kx _)
theorem okU_Roads_between (T : Fx K mg) (B : Bx K mg base) : FnG P w K mg base 6 (He.fAd K ("Roads", some "between")) ["self", "early", "late"] (spO (S_between K).sp (spO (S_betweenx K).sp (spO (S_betweeny K).sp ((S_betweenb K).sp)))) := FnG.or (ok_Roads_between T B) (FnG.or (okx_betweenx T B) (FnG.or (okx_betweeny T B) ((okx_betweenb T B))))
end

section
variable {P : Program} {w : World} {K : PySem.W.Frag} {mg : Str → Option Value} {base : Heap}
local macro_rules | `(tactic| kpt_turns) => `(tactic| ((with_reducible apply use_cell); tb_rel))
local macro_rules | `(tactic| kpt_turns) => `(tactic| ((with_reducible apply use_mark); tb_rel; (k_all); (k_all)))
local macro_rules | `(tactic| kpt_turns) => `(tactic| ((with_reducible apply use_digit); tb_rel; (k_all)))
local macro_rules | `(tactic| kpt_turns) => `(tactic| ((with_reducible apply use_isleaf); tb_rel))
local macro_rules | `(tactic| kpt_turns) => `(tactic| ((with_reducible apply use_isfork); tb_rel))
local macro_rules | `(tactic| kpt_turns) => `(tactic| ((with_reducible apply use_ninit); tb_rel))
local macro_rules | `(tactic| kpt_turns) => `(tactic| ((with_reducible apply use_nmany); tb_rel))
local macro_rules | `(tactic| kpt_turns) => `(tactic| ((with_reducible apply use_nmake); tb_rel; (k_all)))
local macro_rules | `(tactic| kpt_turns) => `(tactic| ((with_reducible apply use_nleaf); tb_rel; (k_all)))
local macro_rules | `(tactic| kpt_turns) => `(tactic| ((with_reducible apply use_nfork); tb_rel; (k_all)))
local macro_rules | `(tactic| kpt_turns) => `(tactic| ((with_reducible apply use_valuein); tb_rel))
local macro_rules | `(tactic| kpt_turns) => `(tactic| ((with_reducible apply use_alike); tb_rel; (k_all); (k_all)))
local macro_rules | `(tactic| kpt_turns) => `(tactic| ((with_reducible apply use_sinit); tb_rel))
local macro_rules | `(tactic| kpt_turns) => `(tactic| ((with_reducible apply use_look); tb_rel; (k_all)))
local macro_rules | `(tactic| kpt_turns) => `(tactic| ((with_reducible apply use_tell); tb_rel; (k_all)))
local macro_rules | `(tactic| kpt_turns) => `(tactic| ((with_reducible apply use_empty); tb_rel))
local macro_rules | `(tactic| kpt_turns) => `(tactic| ((with_reducible apply use_looked); tb_rel; (k_all); (k_all)))
local macro_rules | `(tactic| kpt_turns) => `(tactic| ((with_reducible apply use_parted); tb_rel; (k_all); (k_all); (k_all); (k_all); (k_all); (k_all); (k_all)))
local macro_rules | `(tactic| kpt_turns) => `(tactic| ((with_reducible apply use_putat); tb_rel; (k_all); (k_all); (k_all); (k_all); (k_all); (k_all); (k_all); (k_all); (k_all)))
local macro_rules | `(tactic| kpt_turns) => `(tactic| ((with_reducible apply use_put); tb_rel; (k_all); (k_all); (k_all); (k_all); (k_all); (k_all); (k_all); (k_all)))
local macro_rules | `(tactic| kpt_turns) => `(tactic| ((with_reducible apply use_lone); tb_rel; (k_all)))
local macro_rules | `(tactic| kpt_turns) => `(tactic| ((with_reducible apply use_leftat); tb_rel; (k_all); (k_all); (k_all); (k_all); (k_all); (k_all); (k_all); (k_all)))
local macro_rules | `(tactic| kpt_turns) => `(tactic| ((with_reducible apply use_without); tb_rel; (k_all); (k_all); (k_all); (k_all); (k_all); (k_all); (k_all)))
local macro_rules | `(tactic| kpt_turns) => `(tactic| ((with_reducible apply use_made); tb_rel))
local macro_rules | `(tactic| kpt_turns) => `(tactic| first | ((with_reducible apply e_stmeth); tb_rel; assumption; (intro _; rfl)) | ((with_reducible apply e_stf); tb_rel; assumption; kd_mem; kd_in; (intro _; rfl)))
local macro_rules | `(tactic| kpt_turns) => `(tactic| ((with_reducible apply use_stinit); tb_rel))
local macro_rules | `(tactic| kpt_turns) => `(tactic| ((with_reducible apply use_stopat); tb_rel; (k_all)))
local macro_rules | `(tactic| kpt_turns) => `(tactic| ((with_reducible apply use_tbehind); tb_rel; (k_all); (k_all); (k_all); (k_all); (k_all); (k_all); (k_all); (k_all)))
local macro_rules | `(tactic| kpt_turns) => `(tactic| ((with_reducible apply use_places); tb_rel))
local macro_rules | `(tactic| kpt_turns) => `(tactic| ((with_reducible apply use_meeting); tb_rel; (k_all); (k_all); (k_all); (k_all); (k_all)))
/-! ### roads: looking back -/

/-! ### papers -/
def isMv (m : Option (Str × Option V)) (n : Str) : Bool := match m with
  | none => false
  | some (m, _) => decide (m = n)
theorem isMv_of {x : Stp} {n : Str} : isMv x.mov n = isOf x n := rfl
def S_issof (K : PySem.W.Frag) : Tri where
  G := V × (Option (Str × Option V)) × Str × Unit
  O := Unit
  args := fun (mv, m, n, _) => [mv, .str n]
  cond := fun (mv, m, n, _) => (∀ k v, m = some (k, some v) → Scl v) ∧ True
  pre := fun (mv, m, n, _) => [Fz K mv (mvD m)]
  ok := fun (mv, m, n, _) _ => True
  res := fun (mv, m, n, _) _ => .bl (isMv m n)
  post := fun (mv, m, n, _) _ => []
theorem use_issof {K : PySem.W.Frag} {L R : List Asn} {Q : VK} {E : XK} {mv : V} {m : Option (Str × Option V)} {n : Str} (sTk : Tks L [Fz K mv (mvD m)] R) (hv : ∀ k v, m = some (k, some v) → Scl v) (kk : Al R (Q (.bl (isMv m n)))) : Al L (xP (S_issof K).sp [mv, .str n] Q E) :=
  Tri.useT (S_issof K) (mv, m, n, ()) rfl ⟨hv, trivial⟩ sTk (fun _ _ => kk )
local macro_rules | `(tactic| kpt_turns) => `(tactic| ((with_reducible apply use_issof); tb_rel; (k_all)))
abbrev N_is_step_of : List Str := ["step", "name"]
theorem sc_is_step_of : FnScope N_is_step_of ["step", "name"] (defScope s_is_step_of) := ⟨rfl, rfl, rfl, by decide +kernel, rfl, by decide +kernel, by decide +kernel⟩
theorem ok_is_step_of (T : Fx K mg) (B : Bx K mg base) : FnG P w K mg base 1 (He.fAd K ("is_step_of", none)) ["step", "name"] (S_issof K).sp := by
  refine Tri.fnC (N := N_is_step_of) (k := 0) (S_issof K) T.d_is_step_of sc_is_step_of (fun g => rfl) (fun _ _ _ _ _ _ us hl => match us, hl with | [_, _], _ => rfl) fun cdv A outer s H E Q g R hcd hr hc ke kx => ⟨_, PSs.nox ((pss_one (ps_ret (pe_and (pe_cmpR o_isnot (pv 0) pe_non (nomark _)) (pe_one (pe_cmpR (q_eq (K := K) rfl hr.u64) (pe_ix (q_ix (K := K) rfl hr.u1) (pv 0) pe_int (fun _ _ => rfl)) (pv 1) (nomark _))))))), ?_⟩
  obtain ⟨mv, m, n, _⟩ := g
  obtain ⟨hv, _⟩ := hc
  replace ke : Al [R] (Q (.bl (isMv m n))) := ke () trivial
  try dsimp only [cxOf]
  refine e_start (L := [Fz K mv (mvD m), R]) (nx := fun _ H' => Q .non H') (rt := Q) (bk := fun _ _ => False) (ct := fun _ _ => False) [some (mv), some (.str n)] rfl ?_
  rcases m with _ | ⟨m, _ | v⟩
  · refine Fz.move0 fun e => ?_
    subst e
    tb_start
    exact e_end (by tb_rel) (ke)
  · refine Fz.move2 fun t e => ?_
    subst e
    tb_start
    exact e_end (by tb_rel) (ke)
  · refine Fz.move3 (hv m v rfl) fun t e => ?_
    subst e
    tb_start
    exact e_end (by tb_rel) (ke)
def S_bpaper (K : PySem.W.Frag) : Tri where
  G := Addr × Addr × Addr × (List Nd) × (List Nat) × (List (Addr × Stp)) × (List Prs) × Nat × Nat × (List Nat) × (List Nat) × (List Nat) × Str × Unit
  O := Addr × Unit
  args := fun (r, s, sl, nds, td, zs, hs, i, j, w, u, v, n, _) => [.ref r, .int i, .int j, .str n]
  cond := fun (r, s, sl, nds, td, zs, hs, i, j, w, u, v, n, _) => (RdOk nds td zs hs) ∧ (Rd zs i w) ∧ (Rd zs j (u ++ i :: v)) ∧ (i < zs.length) ∧ (j < zs.length) ∧ (zs.length ≤ 1000) ∧ True
  pre := fun (r, s, sl, nds, td, zs, hs, i, j, w, u, v, n, _) => [Ob r (He.ga K "Roads") [("shelf", .ref s), ("stops", .ref sl)], pt sl (.lst (zs.map fun z => V.ref z.1)), StsA K zs]
  ok := fun (r, s, sl, nds, td, zs, hs, i, j, w, u, v, n, _) (p, _) => True
  res := fun (r, s, sl, nds, td, zs, hs, i, j, w, u, v, n, _) (p, _) => .ref p
  post := fun (r, s, sl, nds, td, zs, hs, i, j, w, u, v, n, _) (p, _) => [pt p (.tup ((v.filter (hasN zs n)).map fun j : Nat => V.int j)), Ob r (He.ga K "Roads") [("shelf", .ref s), ("stops", .ref sl)], pt sl (.lst (zs.map fun z => V.ref z.1)), StsA K zs]
theorem use_bpaper {K : PySem.W.Frag} {L R : List Asn} {Q : VK} {E : XK} {r : Addr} {s : Addr} {sl : Addr} {nds : List Nd} {td : List Nat} {zs : List (Addr × Stp)} {hs : List Prs} {i : Nat} {j : Nat} {w : List Nat} {u : List Nat} {v : List Nat} {n : Str} (sTk : Tks L [Ob r (He.ga K "Roads") [("shelf", .ref s), ("stops", .ref sl)], pt sl (.lst (zs.map fun z => V.ref z.1)), StsA K zs] R) (I : RdOk nds td zs hs) (hr : Rd zs i w) (hr' : Rd zs j (u ++ i :: v)) (hi : i < zs.length) (hj : j < zs.length) (hz : zs.length ≤ 1000) (kk : ∀ (p : Addr), Al (pt p (.tup ((v.filter (hasN zs n)).map fun j : Nat => V.int j)) :: Ob r (He.ga K "Roads") [("shelf", .ref s), ("stops", .ref sl)] :: pt sl (.lst (zs.map fun z => V.ref z.1)) :: StsA K zs :: R) (Q (.ref p))) : Al L (xP (S_bpaper K).sp [.ref r, .int i, .int j, .str n] Q E) :=
  Tri.useT (S_bpaper K) (r, s, sl, nds, td, zs, hs, i, j, w, u, v, n, ()) rfl ⟨I, hr, hr', hi, hj, hz, trivial⟩ sTk (fun ⟨p, _⟩ _ => kk p)
abbrev N_between_paper : List Str := ["roads", "early", "late", "name", "place"]
theorem sc_between_paper : FnScope N_between_paper ["roads", "early", "late", "name"] (defScope s_between_paper) := ⟨rfl, rfl, rfl, by decide +kernel, rfl, by decide +kernel, by decide +kernel⟩
theorem ok_between_paper (T : Fx K mg) (B : Bx K mg base) : FnG P w K mg base 7 (He.fAd K ("between_paper", none)) ["roads", "early", "late", "name"] (S_bpaper K).sp := by
  refine Tri.fnC (N := N_between_paper) (k := 6) (S_bpaper K) T.d_between_paper sc_between_paper (fun g => rfl) (fun _ _ _ _ _ _ us hl => match us, hl with | [_, _, _, _], _ => rfl) fun cdv A outer s H E Q g R hcd hr hc ke kx => ⟨_, PSs.nox ((pss_one (ps_ret (pe_callTy (q_tup (K := K) rfl) (by rfl) T.b_tuple (by decide +kernel) (pa_cons (pe_lc (own := [("place", 4)]) rfl sc_between_paper.nd (qi_any (K := K) rfl (ge_meth (pv 0) T.c_Roads T.t_Roads_between (ok_Roads_between T B) hr.mono px0 (pa_cons (pv 1) (pa_cons (pv 2) pa_nil)))) (blkOk_by (N := N_between_paper) (sc := defScope s_between_paper) (by decide +kernel)) (fun _ _ _ _ _ => (pg_name (i := 4) sc_between_paper.nd rfl (.inl rfl))) (fun _ _ _ _ _ => (pts_one (pt_val (ge_call (ok_is_step_of T B) hr.mono rfl T.g_is_step_of px0 (pa_cons (ge_meth (pv 0) T.c_Roads T.t_Roads_step (ok_Roads_step T B) hr.mono px0 (pa_cons (pv 4) pa_nil)) (pa_cons (pv 3) pa_nil)))))) (fun _ _ _ _ _ => (pv 4))) pa_nil))))), ?_⟩
  obtain ⟨r, s, sl, nds, td, zs, hs, i, j, w, u, v, n, _⟩ := g
  obtain ⟨I, hr, hr', hi, hj, hz, _⟩ := hc
  replace ke : ∀ (p : Addr), Al [pt p (.tup ((v.filter (hasN zs n)).map fun j : Nat => V.int j)), Ob r (He.ga K "Roads") [("shelf", .ref s), ("stops", .ref sl)], pt sl (.lst (zs.map fun z => V.ref z.1)), StsA K zs, R] (Q (.ref p)) := fun p => ke (p, ()) trivial
  try dsimp only [cxOf]
  refine e_start (L := [Ob r (He.ga K "Roads") [("shelf", .ref s), ("stops", .ref sl)], pt sl (.lst (zs.map fun z => V.ref z.1)), StsA K zs, R]) (nx := fun _ H' => Q .non H') (rt := Q) (bk := fun _ _ => False) (ct := fun _ _ => False) [some (.ref r), some (.int i), some (.int j), some (.str n), none] rfl ?_
  have hzz : zs.length ≤ 100000 := by omega
  have hvl : v.length ≤ 1000 := by have := hr'.len; rw [List.length_append, List.length_cons] at this; omega
  tb_start
  refine use_between (by tb_rel) I hr hr' hi hj hzz fun pb => ?_
  tb_start
  refine e_lcL (by tb_rel) (fun k acc M => acc = ((v.take k).filter (hasN zs n)).map (fun j : Nat => V.int j) ∧ M = [pt pb (.lst (v.map fun j : Nat => V.int j)), Ob r (He.ga K "Roads") [("shelf", .ref s), ("stops", .ref sl)], pt sl (.lst (zs.map fun z => V.ref z.1)), StsA K zs, R]) ⟨_, ⟨rfl, rfl⟩, .ofT (by tb_rel)⟩ (by rintro k acc M ⟨_, rfl⟩; top_args) (fun k x acc M D hx hI => ?_) (fun acc M D hI => ?_)
  · obtain ⟨rfl, rfl⟩ := hI
    obtain ⟨c, hc, rfl⟩ : ∃ c, v[k]? = some c ∧ x = V.int (c : Nat) := by
      rw [List.getElem?_map] at hx
      cases e : v[k]? with
      | none => rw [e] at hx; cases hx
      | some y => rw [e] at hx; cases hx; exact ⟨y, rfl, rfl⟩
    have hkl : k < v.length := (List.getElem?_eq_some_iff.mp hc).1
    obtain ⟨⟨a1, x1⟩, h1⟩ : ∃ z, zs[c]? = some z := ⟨_, List.getElem?_eq_getElem (hr'.lt hj c (List.mem_append.mpr (.inr (List.mem_cons_of_mem _ (List.mem_of_getElem? hc)))))⟩
    have hv1 := I.scl h1
    have hN := hasN_at (n := n) h1
    have hfl : ((v.take k).filter (hasN zs n)).length ≤ 1000 := Nat.le_trans (List.length_filter_le ..) (by rw [List.length_take]; omega)
    have hst : (v.take (k + 1)).filter (hasN zs n) = (v.take k).filter (hasN zs n) ++ if hasN zs n c = true then [c] else [] := by
      rw [take_step hc, List.filter_append, List.filter_cons]
      by_cases m : hasN zs n c = true
      · rw [if_pos m, if_pos m]; rfl
      · rw [if_neg m, if_neg m]; rfl
    tb_start
    refine use_rstep (by tb_rel) h1 fun mv => ?_
    tb_start
    rw [isMv_of, ← hN]
    refine e_ifb ?_ ?_ <;> intro m <;> (try simp only [decide_eq_true_eq, decide_eq_false_iff_not, Bool.not_eq_true', Bool.not_eq_false', Bool.and_eq_true, Bool.or_eq_true, Bool.and_eq_false_iff, Bool.or_eq_false_iff, Bool.false_or, Bool.true_and, Bool.or_false, Bool.and_true, Bool.not_true, Bool.not_false, true_and, and_true, or_false, false_or, Bool.false_eq_true, Bool.true_eq_false, not_and, Bool.not_not] at m)
    · tb_start
      exact e_lcA (by tb_rel) (by rw [List.length_map, sizeLine_eq]; omega) ⟨by rw [hst, if_pos m, List.map_append]; rfl, rfl⟩ (by tb_rel)
    · tb_start
      exact e_lcN (by tb_rel) ⟨by rw [hst, if_neg (by rw [m]; decide), List.append_nil], rfl⟩ (by tb_rel)
  · obtain ⟨rfl, rfl⟩ := hI
    rw [List.length_map, List.take_length]
    tb_start
    exact e_end (by tb_rel) (ke (_))
def S_bpaperx (K : PySem.W.Frag) : Tri where
  G := Addr × Addr × Addr × (List (Addr × Stp)) × Int × Int × Str × Unit
  O := Unit
  args := fun (r, s, sl, zs, i, j, n, _) => [.ref r, .int i, .int j, .str n]
  cond := fun (r, s, sl, zs, i, j, n, _) => (¬ (0 ≤ i ∧ i < zs.length)) ∧ True
  pre := fun (r, s, sl, zs, i, j, n, _) => [Ob r (He.ga K "Roads") [("shelf", .ref s), ("stops", .ref sl)], pt sl (.lst (zs.map fun z => V.ref z.1)), StsA K zs]
  ok := fun (r, s, sl, zs, i, j, n, _) _ => (False) ∧ True
  res := fun (r, s, sl, zs, i, j, n, _) _ => .non
  post := fun (r, s, sl, zs, i, j, n, _) _ => []
  exc := fun (r, s, sl, zs, i, j, n, _) => fun c d M => Refd K "NoPlace" (.int i) [Ob r (He.ga K "Roads") [("shelf", .ref s), ("stops", .ref sl)], pt sl (.lst (zs.map fun z => V.ref z.1)), StsA K zs] c d M
theorem use_bpaperx {K : PySem.W.Frag} {L R : List Asn} {Q : VK} {E : XK} {r : Addr} {s : Addr} {sl : Addr} {zs : List (Addr × Stp)} {i : Int} {j : Int} {n : Str} (sTk : Tks L [Ob r (He.ga K "Roads") [("shelf", .ref s), ("stops", .ref sl)], pt sl (.lst (zs.map fun z => V.ref z.1)), StsA K zs] R) (hi : ¬ (0 ≤ i ∧ i < zs.length)) (kk : ∀ (_ : False), Al R (Q (.non))) (kkx : ∀ c d M, (Refd K "NoPlace" (.int i) [Ob r (He.ga K "Roads") [("shelf", .ref s), ("stops", .ref sl)], pt sl (.lst (zs.map fun z => V.ref z.1)), StsA K zs] c d M) → Al (M ++ R) (E c d)) : Al L (xP (S_bpaperx K).sp [.ref r, .int i, .int j, .str n] Q E) :=
  Tri.useT (S_bpaperx K) (r, s, sl, zs, i, j, n, ()) rfl ⟨hi, trivial⟩ sTk (fun _ ⟨hh0, _⟩ => kk hh0) kkx
theorem okx_bpaperx (T : Fx K mg) (B : Bx K mg base) : FnG P w K mg base 7 (He.fAd K ("between_paper", none)) ["roads", "early", "late", "name"] (S_bpaperx K).sp := by
  refine Tri.fnC (N := N_between_paper) (k := 6) (S_bpaperx K) T.d_between_paper sc_between_paper (fun g => rfl) (fun _ _ _ _ _ _ us hl => match us, hl with | [_, _, _, _], _ => rfl) fun cdv A outer s H E Q g R hcd hr hc ke kx => ⟨_, ((pss_one (ps_ret (pe_callTy (q_tup (K := K) rfl) (by rfl) T.b_tuple (by decide +kernel) (pa_cons (pe_lc (own := [("place", 4)]) rfl sc_between_paper.nd (qi_any (K := K) rfl (ge_methW (pv 0) T.c_Roads T.t_Roads_between (okU_Roads_between T B) hr.mono (takes_of rfl rfl rfl rfl) (pa_cons (pv 1) (pa_cons (pv 2) pa_nil)))) (blkOk_by (N := N_between_paper) (sc := defScope s_between_paper) (by decide +kernel)) (fun _ _ _ _ _ => (pg_name (i := 4) sc_between_paper.nd rfl (.inl rfl))) (fun _ _ _ _ _ => (pts_one (pt_val (ge_call (ok_is_step_of T B) hr.mono rfl T.g_is_step_of px0 (pa_cons (ge_meth (pv 0) T.c_Roads T.t_Roads_step (ok_Roads_step T B) hr.mono px0 (pa_cons (pv 4) pa_nil)) (pa_cons (pv 3) pa_nil)))))) (fun _ _ _ _ _ => (pv 4))) pa_nil))))), ?_⟩
  obtain ⟨r, s, sl, zs, i, j, n, _⟩ := g
  obtain ⟨hi, _⟩ := hc
  replace ke : ∀ (_ : False), Al [R] (Q (.non)) := fun hh0 => ke () ⟨hh0, trivial⟩
  replace kx : ∀ ddX, Al [pt ddX (.xd [("what", (.int i))]), Ob r (He.ga K "Roads") [("shelf", .ref s), ("stops", .ref sl)], pt sl (.lst (zs.map fun z => V.ref z.1)), StsA K zs, R] (E (.ref (He.ga K "NoPlace")) (some ddX)) := fun ddX => kx _ _ _ ⟨rfl, ddX, rfl, rfl⟩
  try dsimp only [cxOf]
  refine e_start (L := [Ob r (He.ga K "Roads") [("shelf", .ref s), ("stops", .ref sl)], pt sl (.lst (zs.map fun z => V.ref z.1)), StsA K zs, R]) (nx := fun _ H' => Q .non H') (rt := Q) (bk := fun _ _ => False) (ct := fun _ _ => False) [some (.ref r), some (.int i), some (.int j), some (.str n), none] rfl ?_
  tb_start
  refine e_spR ?_
  refine e_spL ?_
  refine use_betweenx (by tb_rel) (hi) (fun hF => hF.elim) (fun c d M hx => ?_)
  obtain ⟨rfl, dd, rfl, rfl⟩ := hx
  simp only [List.cons_append, List.nil_append]
  exact e_end (by tb_rel) (kx _)
def S_bpapery (K : PySem.W.Frag) : Tri where
  G := Addr × Addr × Addr × (List (Addr × Stp)) × Nat × Int × Str × Addr × Stp × Unit
  O := Unit
  args := fun (r, s, sl, zs, i, j, n, a, x, _) => [.ref r, .int i, .int j, .str n]
  cond := fun (r, s, sl, zs, i, j, n, a, x, _) => (zs[i]? = some (a, x)) ∧ (¬ (0 ≤ j ∧ j < zs.length)) ∧ True
  pre := fun (r, s, sl, zs, i, j, n, a, x, _) => [Ob r (He.ga K "Roads") [("shelf", .ref s), ("stops", .ref sl)], pt sl (.lst (zs.map fun z => V.ref z.1)), StsA K zs]
  ok := fun (r, s, sl, zs, i, j, n, a, x, _) _ => (False) ∧ True
  res := fun (r, s, sl, zs, i, j, n, a, x, _) _ => .non
  post := fun (r, s, sl, zs, i, j, n, a, x, _) _ => []
  exc := fun (r, s, sl, zs, i, j, n, a, x, _) => fun c d M => Refd K "NoPlace" (.int j) [Ob r (He.ga K "Roads") [("shelf", .ref s), ("stops", .ref sl)], pt sl (.lst (zs.map fun z => V.ref z.1)), StsA K zs] c d M
theorem use_bpapery {K : PySem.W.Frag} {L R : List Asn} {Q : VK} {E : XK} {r : Addr} {s : Addr} {sl : Addr} {zs : List (Addr × Stp)} {i : Nat} {j : Int} {n : Str} {a : Addr} {x : Stp} (sTk : Tks L [Ob r (He.ga K "Roads") [("shelf", .ref s), ("stops", .ref sl)], pt sl (.lst (zs.map fun z => V.ref z.1)), StsA K zs] R) (hx : zs[i]? = some (a, x)) (hj : ¬ (0 ≤ j ∧ j < zs.length)) (kk : ∀ (_ : False), Al R (Q (.non))) (kkx : ∀ c d M, (Refd K "NoPlace" (.int j) [Ob r (He.ga K "Roads") [("shelf", .ref s), ("stops", .ref sl)], pt sl (.lst (zs.map fun z => V.ref z.1)), StsA K zs] c d M) → Al (M ++ R) (E c d)) : Al L (xP (S_bpapery K).sp [.ref r, .int i, .int j, .str n] Q E) :=
  Tri.useT (S_bpapery K) (r, s, sl, zs, i, j, n, a, x, ()) rfl ⟨hx, hj, trivial⟩ sTk (fun _ ⟨hh0, _⟩ => kk hh0) kkx
theorem okx_bpapery (T : Fx K mg) (B : Bx K mg base) : FnG P w K mg base 7 (He.fAd K ("between_paper", none)) ["roads", "early", "late", "name"] (S_bpapery K).sp := by
  refine Tri.fnC (N := N_between_paper) (k := 6) (S_bpapery K) T.d_between_paper sc_between_paper (fun g => rfl) (fun _ _ _ _ _ _ us hl => match us, hl with | [_, _, _, _], _ => rfl) fun cdv A outer s H E Q g R hcd hr hc ke kx => ⟨_, ((pss_one (ps_ret (pe_callTy (q_tup (K := K) rfl) (by rfl) T.b_tuple (by decide +kernel) (pa_cons (pe_lc (own := [("place", 4)]) rfl sc_between_paper.nd (qi_any (K := K) rfl (ge_methW (pv 0) T.c_Roads T.t_Roads_between (okU_Roads_between T B) hr.mono (takes_of rfl rfl rfl rfl) (pa_cons (pv 1) (pa_cons (pv 2) pa_nil)))) (blkOk_by (N := N_between_paper) (sc := defScope s_between_paper) (by decide +kernel)) (fun _ _ _ _ _ => (pg_name (i := 4) sc_between_paper.nd rfl (.inl rfl))) (fun _ _ _ _ _ => (pts_one (pt_val (ge_call (ok_is_step_of T B) hr.mono rfl T.g_is_step_of px0 (pa_cons (ge_meth (pv 0) T.c_Roads T.t_Roads_step (ok_Roads_step T B) hr.mono px0 (pa_cons (pv 4) pa_nil)) (pa_cons (pv 3) pa_nil)))))) (fun _ _ _ _ _ => (pv 4))) pa_nil))))), ?_⟩
  obtain ⟨r, s, sl, zs, i, j, n, a, x, _⟩ := g
  obtain ⟨hx, hj, _⟩ := hc
  replace ke : ∀ (_ : False), Al [R] (Q (.non)) := fun hh0 => ke () ⟨hh0, trivial⟩
  replace kx : ∀ ddX, Al [pt ddX (.xd [("what", (.int j))]), Ob r (He.ga K "Roads") [("shelf", .ref s), ("stops", .ref sl)], pt sl (.lst (zs.map fun z => V.ref z.1)), StsA K zs, R] (E (.ref (He.ga K "NoPlace")) (some ddX)) := fun ddX => kx _ _ _ ⟨rfl, ddX, rfl, rfl⟩
  try dsimp only [cxOf]
  refine e_start (L := [Ob r (He.ga K "Roads") [("shelf", .ref s), ("stops", .ref sl)], pt sl (.lst (zs.map fun z => V.ref z.1)), StsA K zs, R]) (nx := fun _ H' => Q .non H') (rt := Q) (bk := fun _ _ => False) (ct := fun _ _ => False) [some (.ref r), some (.int i), some (.int j), some (.str n), none] rfl ?_
  tb_start
  refine e_spR ?_
  refine e_spR ?_
  refine e_spL ?_
  refine use_betweeny (by tb_rel) (hx) (hj) (fun hF => hF.elim) (fun c d M hx => ?_)
  obtain ⟨rfl, dd, rfl, rfl⟩ := hx
  simp only [List.cons_append, List.nil_append]
  exact e_end (by tb_rel) (kx _)
def S_bpaperb (K : PySem.W.Frag) : Tri where
  G := Addr × Addr × Addr × (List Nd) × (List Nat) × (List (Addr × Stp)) × (List Prs) × Nat × Nat × (List Nat) × (List Nat) × Str × Unit
  O := Unit
  args := fun (r, s, sl, nds, td, zs, hs, i, j, w, w', n, _) => [.ref r, .int i, .int j, .str n]
  cond := fun (r, s, sl, nds, td, zs, hs, i, j, w, w', n, _) => (RdOk nds td zs hs) ∧ (Rd zs i w) ∧ (Rd zs j w') ∧ (i < zs.length) ∧ (j < zs.length) ∧ (i ∉ w') ∧ True
  pre := fun (r, s, sl, nds, td, zs, hs, i, j, w, w', n, _) => [Ob r (He.ga K "Roads") [("shelf", .ref s), ("stops", .ref sl)], pt sl (.lst (zs.map fun z => V.ref z.1)), StsA K zs]
  ok := fun (r, s, sl, nds, td, zs, hs, i, j, w, w', n, _) _ => (False) ∧ True
  res := fun (r, s, sl, nds, td, zs, hs, i, j, w, w', n, _) _ => .non
  post := fun (r, s, sl, nds, td, zs, hs, i, j, w, w', n, _) _ => []
  exc := fun (r, s, sl, nds, td, zs, hs, i, j, w, w', n, _) => fun c d M => Refd K "NotBehind" (.int i) [Ob r (He.ga K "Roads") [("shelf", .ref s), ("stops", .ref sl)], pt sl (.lst (zs.map fun z => V.ref z.1)), StsA K zs] c d M
theorem use_bpaperb {K : PySem.W.Frag} {L R : List Asn} {Q : VK} {E : XK} {r : Addr} {s : Addr} {sl : Addr} {nds : List Nd} {td : List Nat} {zs : List (Addr × Stp)} {hs : List Prs} {i : Nat} {j : Nat} {w : List Nat} {w' : List Nat} {n : Str} (sTk : Tks L [Ob r (He.ga K "Roads") [("shelf", .ref s), ("stops", .ref sl)], pt sl (.lst (zs.map fun z => V.ref z.1)), StsA K zs] R) (I : RdOk nds td zs hs) (hr : Rd zs i w) (hr' : Rd zs j w') (hi : i < zs.length) (hj : j < zs.length) (hn : i ∉ w') (kk : ∀ (_ : False), Al R (Q (.non))) (kkx : ∀ c d M, (Refd K "NotBehind" (.int i) [Ob r (He.ga K "Roads") [("shelf", .ref s), ("stops", .ref sl)], pt sl (.lst (zs.map fun z => V.ref z.1)), StsA K zs] c d M) → Al (M ++ R) (E c d)) : Al L (xP (S_bpaperb K).sp [.ref r, .int i, .int j, .str n] Q E) :=
  Tri.useT (S_bpaperb K) (r, s, sl, nds, td, zs, hs, i, j, w, w', n, ()) rfl ⟨I, hr, hr', hi, hj, hn, trivial⟩ sTk (fun _ ⟨hh0, _⟩ => kk hh0) kkx
theorem okx_bpaperb (T : Fx K mg) (B : Bx K mg base) : FnG P w K mg base 7 (He.fAd K ("between_paper", none)) ["roads", "early", "late", "name"] (S_bpaperb K).sp := by
  refine Tri.fnC (N := N_between_paper) (k := 6) (S_bpaperb K) T.d_between_paper sc_between_paper (fun g => rfl) (fun _ _ _ _ _ _ us hl => match us, hl with | [_, _, _, _], _ => rfl) fun cdv A outer s H E Q g R hcd hr hc ke kx => ⟨_, ((pss_one (ps_ret (pe_callTy (q_tup (K := K) rfl) (by rfl) T.b_tuple (by decide +kernel) (pa_cons (pe_lc (own := [("place", 4)]) rfl sc_between_paper.nd (qi_any (K := K) rfl (ge_methW (pv 0) T.c_Roads T.t_Roads_between (okU_Roads_between T B) hr.mono (takes_of rfl rfl rfl rfl) (pa_cons (pv 1) (pa_cons (pv 2) pa_nil)))) (blkOk_by (N := N_between_paper) (sc := defScope s_between_paper) (by decide +kernel)) (fun _ _ _ _ _ => (pg_name (i := 4) sc_between_paper.nd rfl (.inl rfl))) (fun _ _ _ _ _ => (pts_one (pt_val (ge_call (ok_is_step_of T B) hr.mono rfl T.g_is_step_of px0 (pa_cons (ge_meth (pv 0) T.c_Roads T.t_Roads_step (ok_Roads_step T B) hr.mono px0 (pa_cons (pv 4) pa_nil)) (pa_cons (pv 3) pa_nil)))))) (fun _ _ _ _ _ => (pv 4))) pa_nil))))), ?_⟩
  obtain ⟨r, s, sl, nds, td, zs, hs, i, j, w, w', n, _⟩ := g
  obtain ⟨I, hr, hr', hi, hj, hn, _⟩ := hc
  replace ke : ∀ (_ : False), Al [R] (Q (.non)) := fun hh0 => ke () ⟨hh0, trivial⟩
  replace kx : ∀ ddX, Al [pt ddX (.xd [("what", (.int i))]), Ob r (He.ga K "Roads") [("shelf", .ref s), ("stops", .ref sl)], pt sl (.lst (zs.map fun z => V.ref z.1)), StsA K zs, R] (E (.ref (He.ga K "NotBehind")) (some ddX)) := fun ddX => kx _ _ _ ⟨rfl, ddX, rfl, rfl⟩
  try dsimp only [cxOf]
  refine e_start (L := [Ob r (He.ga K "Roads") [("shelf", .ref s), ("stops", .ref sl)], pt sl (.lst (zs.map fun z => V.ref z.1)), StsA K zs, R]) (nx := fun _ H' => Q .non H') (rt := Q) (bk := fun _ _ => False) (ct := fun _ _ => False) [some (.ref r), some (.int i), some (.int j), some (.str n), none] rfl ?_
  tb_start
  refine e_spR ?_
  refine e_spR ?_
  refine e_spR ?_
  refine use_betweenb (by tb_rel) (I) (hr) (hr') (hi) (hj) (hn) (fun hF => hF.elim) (fun c d M hx => ?_)
  obtain ⟨rfl, dd, rfl, rfl⟩ := hx
  simp only [List.cons_append, List.nil_append]
  exact e_end (by tb_rel) (kx _)
theorem okU_between_paper (T : Fx K mg) (B : Bx K mg base) : FnG P w K mg base 7 (He.fAd K ("between_paper", none)) ["roads", "early", "late", "name"] (spO (S_bpaper K).sp (spO (S_bpaperx K).sp (spO (S_bpapery K).sp ((S_bpaperb K).sp)))) := FnG.or (ok_between_paper T B) (FnG.or (okx_bpaperx T B) (FnG.or (okx_bpapery T B) ((okx_bpaperb T B))))
end

section
variable {P : Program} {w : World} {K : PySem.W.Frag} {mg : Str → Option Value} {base : Heap}
local macro_rules | `(tactic| kpt_turns) => `(tactic| ((with_reducible apply use_cell); tb_rel))
local macro_rules | `(tactic| kpt_turns) => `(tactic| ((with_reducible apply use_mark); tb_rel; (k_all); (k_all)))
local macro_rules | `(tactic| kpt_turns) => `(tactic| ((with_reducible apply use_digit); tb_rel; (k_all)))
local macro_rules | `(tactic| kpt_turns) => `(tactic| ((with_reducible apply use_isleaf); tb_rel))
local macro_rules | `(tactic| kpt_turns) => `(tactic| ((with_reducible apply use_isfork); tb_rel))
local macro_rules | `(tactic| kpt_turns) => `(tactic| ((with_reducible apply use_ninit); tb_rel))
local macro_rules | `(tactic| kpt_turns) => `(tactic| ((with_reducible apply use_nmany); tb_rel))
local macro_rules | `(tactic| kpt_turns) => `(tactic| ((with_reducible apply use_nmake); tb_rel; (k_all)))
local macro_rules | `(tactic| kpt_turns) => `(tactic| ((with_reducible apply use_nleaf); tb_rel; (k_all)))
local macro_rules | `(tactic| kpt_turns) => `(tactic| ((with_reducible apply use_nfork); tb_rel; (k_all)))
local macro_rules | `(tactic| kpt_turns) => `(tactic| ((with_reducible apply use_valuein); tb_rel))
local macro_rules | `(tactic| kpt_turns) => `(tactic| ((with_reducible apply use_alike); tb_rel; (k_all); (k_all)))
local macro_rules | `(tactic| kpt_turns) => `(tactic| ((with_reducible apply use_sinit); tb_rel))
local macro_rules | `(tactic| kpt_turns) => `(tactic| ((with_reducible apply use_look); tb_rel; (k_all)))
local macro_rules | `(tactic| kpt_turns) => `(tactic| ((with_reducible apply use_tell); tb_rel; (k_all)))
local macro_rules | `(tactic| kpt_turns) => `(tactic| ((with_reducible apply use_empty); tb_rel))
local macro_rules | `(tactic| kpt_turns) => `(tactic| ((with_reducible apply use_looked); tb_rel; (k_all); (k_all)))
local macro_rules | `(tactic| kpt_turns) => `(tactic| ((with_reducible apply use_parted); tb_rel; (k_all); (k_all); (k_all); (k_all); (k_all); (k_all); (k_all)))
local macro_rules | `(tactic| kpt_turns) => `(tactic| ((with_reducible apply use_putat); tb_rel; (k_all); (k_all); (k_all); (k_all); (k_all); (k_all); (k_all); (k_all); (k_all)))
local macro_rules | `(tactic| kpt_turns) => `(tactic| ((with_reducible apply use_put); tb_rel; (k_all); (k_all); (k_all); (k_all); (k_all); (k_all); (k_all); (k_all)))
local macro_rules | `(tactic| kpt_turns) => `(tactic| ((with_reducible apply use_lone); tb_rel; (k_all)))
local macro_rules | `(tactic| kpt_turns) => `(tactic| ((with_reducible apply use_leftat); tb_rel; (k_all); (k_all); (k_all); (k_all); (k_all); (k_all); (k_all); (k_all)))
local macro_rules | `(tactic| kpt_turns) => `(tactic| ((with_reducible apply use_without); tb_rel; (k_all); (k_all); (k_all); (k_all); (k_all); (k_all); (k_all)))
local macro_rules | `(tactic| kpt_turns) => `(tactic| ((with_reducible apply use_made); tb_rel))
local macro_rules | `(tactic| kpt_turns) => `(tactic| first | ((with_reducible apply e_stmeth); tb_rel; assumption; (intro _; rfl)) | ((with_reducible apply e_stf); tb_rel; assumption; kd_mem; kd_in; (intro _; rfl)))
local macro_rules | `(tactic| kpt_turns) => `(tactic| ((with_reducible apply use_stinit); tb_rel))
local macro_rules | `(tactic| kpt_turns) => `(tactic| ((with_reducible apply use_stopat); tb_rel; (k_all)))
local macro_rules | `(tactic| kpt_turns) => `(tactic| ((with_reducible apply use_tbehind); tb_rel; (k_all); (k_all); (k_all); (k_all); (k_all); (k_all); (k_all); (k_all)))
local macro_rules | `(tactic| kpt_turns) => `(tactic| ((with_reducible apply use_places); tb_rel))
local macro_rules | `(tactic| kpt_turns) => `(tactic| ((with_reducible apply use_meeting); tb_rel; (k_all); (k_all); (k_all); (k_all); (k_all)))
local macro_rules | `(tactic| kpt_turns) => `(tactic| ((with_reducible apply use_issof); tb_rel; (k_all)))
def S_value (K : PySem.W.Frag) : Tri where
  G := Addr × Nat × Unit
  O := V × Unit
  args := fun (b, n, _) => [.ref b]
  cond := fun (b, n, _) => (n < 274877906944) ∧ True
  pre := fun (b, n, _) => [Box b n]
  ok := fun (b, n, _) (v, _) => (Vok v) ∧ True
  res := fun (b, n, _) (v, _) => v
  post := fun (b, n, _) (v, _) => [Box b (n + 43)]
theorem use_value {K : PySem.W.Frag} {L R : List Asn} {Q : VK} {E : XK} {b : Addr} {n : Nat} (sTk : Tks L [Box b n] R) (h0 : n < 274877906944) (kk : ∀ (v : V) (_ : Vok v), Al (Box b (n + 43) :: R) (Q (v))) : Al L (xP (S_value K).sp [.ref b] Q E) :=
  Tri.useT (S_value K) (b, n, ()) rfl ⟨h0, trivial⟩ sTk (fun ⟨v, _⟩ ⟨hh0, _⟩ => kk v hh0)
abbrev N__law_value : List Str := ["_law_box_here", "_law_way", "_law_signs", "_law_place"]
theorem sc__law_value : FnScope N__law_value ["_law_box_here"] (defScope s__law_value) := ⟨rfl, rfl, rfl, by decide +kernel, rfl, by decide +kernel, by decide +kernel⟩
theorem ok__law_value (T : Fx K mg) (B : Bx K mg base) : FnG P w K mg base 2 (He.fAd K ("_law_value", none)) ["_law_box_here"] (S_value K).sp := by
  refine Tri.fnC (N := N__law_value) (k := 1) (S_value K) T.d__law_value sc__law_value (fun g => rfl) (fun _ _ _ _ _ _ us hl => match us, hl with | [_], _ => rfl) fun cdv A outer s H E Q g R hcd hr hc ke kx => ⟨_, PSs.nox ((pss_cons (ps_set (i := 1) sc__law_value.nd rfl (.inl rfl) (ge_call (ok__law_take T B) hr.mono rfl T.g__law_take px0 (pa_cons (pv 0) (pa_cons pe_int pa_nil))))
    (pss_cons (ps_if (pt_cmpR o_lt (pv 1) pe_int (nomark _)) (pss_one (ps_ret (pe_op o_sub (ge_call (ok__law_take T B) hr.mono rfl T.g__law_take px0 (pa_cons (pv 0) (pa_cons pe_int pa_nil))) pe_int))) pss_nil)
    (pss_cons (ps_if (pt_cmpR (q_eq (K := K) rfl hr.u64) (pv 1) pe_int (nomark _)) (pss_one (ps_ret (pe_ix (q_ix (K := K) rfl hr.u1) (pe_lst (pa_cons (pe_op o_sub (pe_op o_pow pe_int pe_int) pe_int) (pa_cons (pe_op o_sub pe_int (pe_op o_pow pe_int pe_int)) (pa_cons (pe_op o_pow pe_int pe_int) (pa_cons pe_int pa_nil))))) (ge_call (ok__law_take T B) hr.mono rfl T.g__law_take px0 (pa_cons (pv 0) (pa_cons pe_int pa_nil))) (fun _ _ => rfl)))) pss_nil)
    (pss_cons (ps_if (pt_cmpR (q_eq (K := K) rfl hr.u64) (pv 1) pe_int (nomark _)) (pss_one (ps_ret (pe_ix (q_ix (K := K) rfl hr.u1) (pe_lst (pa_cons pe_str (pa_cons pe_str (pa_cons pe_str (pa_cons pe_str (pa_cons pe_str (pa_cons pe_str (pa_cons pe_str (pa_cons pe_str pa_nil))))))))) (ge_call (ok__law_take T B) hr.mono rfl T.g__law_take px0 (pa_cons (pv 0) (pa_cons pe_int pa_nil))) (fun _ _ => rfl)))) pss_nil)
    (pss_cons (ps_set (i := 2) sc__law_value.nd rfl (.inr rfl) pe_str)
    (pss_one (ps_ret (q_bm (K := K) rfl PySem.F.plainAttrs_str PySem.F.slot_str_join PySem.F.type_str_join (q_join (K := K) rfl) pe_str (pa_cons (pe_lc (own := [("_law_place", 3)]) rfl sc__law_value.nd (pi_range1 (by rfl) T.b_range (pa_cons (ge_call (ok__law_take T B) hr.mono rfl T.g__law_take px0 (pa_cons (pv 0) (pa_cons (pe_ifExp (pt_cmpR (q_eq (K := K) rfl hr.u64) (pv 1) pe_int (nomark _)) pe_int pe_int) pa_nil))) pa_nil)) (blkOk_by (N := N__law_value) (sc := defScope s__law_value) (by decide +kernel)) (fun _ _ _ _ _ => (pg_name (i := 3) sc__law_value.nd rfl (.inl rfl))) (fun _ _ _ _ _ => pts_nil) (fun _ _ _ _ _ => (pe_ix (q_ix (K := K) rfl hr.u1) (pv 2) (ge_call (ok__law_take T B) hr.mono rfl T.g__law_take px0 (pa_cons (pv 0) (pa_cons (pe_callB (q_len (K := K) rfl) (by rfl) T.b_len (by decide +kernel) (pa_cons (pv 2) pa_nil)) pa_nil))) (fun _ _ => rfl)))) pa_nil)))))))))), ?_⟩
  obtain ⟨b, n, _⟩ := g
  obtain ⟨h0, _⟩ := hc
  replace ke : ∀ (v : V) (_ : Vok v), Al [Box b (n + 43), R] (Q (v)) := fun v hh0 => ke (v, ()) ⟨hh0, trivial⟩
  try dsimp only [cxOf]
  refine e_start (L := [Box b n, R]) (nx := fun _ H' => Q .non H') (rt := Q) (bk := fun _ _ => False) (ct := fun _ _ => False) [some (.ref b), none, none, none] rfl ?_
  tb_start
  refine use_take (by tb_rel) (by k_all) (by k_all) (by k_all) fun way w1 w2 => ?_
  tb_start
  refine e_if ?_ ?_ <;> intro c1 <;> (try simp only [decide_eq_true_eq, decide_eq_false_iff_not, Bool.not_eq_true', Bool.not_eq_false', Bool.and_eq_true, Bool.or_eq_true, Bool.and_eq_false_iff, Bool.or_eq_false_iff, Bool.false_or, Bool.true_and, Bool.or_false, Bool.and_true, Bool.not_true, Bool.not_false, true_and, and_true, or_false, false_or, Bool.false_eq_true, Bool.true_eq_false, not_and, Bool.not_not] at c1)
  · tb_start
    refine use_take (by tb_rel) (by k_all) (by k_all) (by k_all) fun o o1 o2 => ?_
    tb_start
    exact e_end (by tb_rel) (ke (_) (.inl ⟨_, rfl, by omega⟩))
  tb_start
  refine e_if ?_ ?_ <;> intro c2 <;> (try simp only [decide_eq_true_eq, decide_eq_false_iff_not, Bool.not_eq_true', Bool.not_eq_false', Bool.and_eq_true, Bool.or_eq_true, Bool.and_eq_false_iff, Bool.or_eq_false_iff, Bool.false_or, Bool.true_and, Bool.or_false, Bool.and_true, Bool.not_true, Bool.not_false, true_and, and_true, or_false, false_or, Bool.false_eq_true, Bool.true_eq_false, not_and, Bool.not_not] at c2)
  · tb_start
    refine use_take (by tb_rel) (by k_all) (by k_all) (by k_all) fun o o1 o2 => ?_
    obtain ⟨v, hv, ha⟩ := pick4 (a := .int (10 ^ Int.toNat 30 - 1)) (b := .int (1 - 10 ^ Int.toNat 30)) (c := .int (10 ^ Int.toNat 29)) (d := .int 0) o1 o2
    tb_start
    refine e_end (by tb_rel) (ke v ?_)
    rcases hv with rfl | rfl | rfl | rfl
    · exact .inl ⟨_, rfl, by decide +kernel⟩
    · exact .inl ⟨_, rfl, by decide +kernel⟩
    · exact .inl ⟨_, rfl, by decide +kernel⟩
    · exact .inl ⟨_, rfl, by decide +kernel⟩
  tb_start
  refine e_if ?_ ?_ <;> intro c3 <;> (try simp only [decide_eq_true_eq, decide_eq_false_iff_not, Bool.not_eq_true', Bool.not_eq_false', Bool.and_eq_true, Bool.or_eq_true, Bool.and_eq_false_iff, Bool.or_eq_false_iff, Bool.false_or, Bool.true_and, Bool.or_false, Bool.and_true, Bool.not_true, Bool.not_false, true_and, and_true, or_false, false_or, Bool.false_eq_true, Bool.true_eq_false, not_and, Bool.not_not] at c3)
  · tb_start
    refine use_take (by tb_rel) (by k_all) (by k_all) (by k_all) fun o o1 o2 => ?_
    obtain ⟨v, hv, ha⟩ := pick8 (a := .str "") (b := .str "0") (c := .str "-1") (d := .str "a") (e := .str "none") (f := .str "'") (g := .str "\\") (h := .str " ") o1 o2
    tb_start
    refine e_end (by tb_rel) (ke v ?_)
    rcases hv with rfl | rfl | rfl | rfl | rfl | rfl | rfl | rfl <;> exact Vok.lit (by decide +kernel)
  tb_start
  generalize hm : (if decide (way = 4) = true then (4 : Int) else 41) = m
  have hm' : m = 4 ∨ m = 41 := by split at hm <;> omega
  refine use_take (by tb_rel) (by omega) (by omega) (by omega) fun t t1 t2 => ?_
  tb_start
  refine e_lcR0 (by tb_rel) (fun j acc M => ∃ cs : List Nat, (cs.length = j ∧ ∀ c ∈ cs, 32 ≤ c ∧ c ≤ 126) ∧ acc = cs.map (fun c => V.str ⟨#[c]⟩) ∧ M = [Box b (n + 1 + 1 + j), R]) ⟨_, ⟨[], ⟨rfl, fun c hc => by cases hc⟩, rfl, rfl⟩, .ofT (by tb_rel)⟩ ?_ ?_
  · rintro j acc M D hj ⟨cs, ⟨hl, hcs⟩, rfl, rfl⟩
    tb_start
    refine use_take (by tb_rel) (by omega) (by decide +kernel) (by decide +kernel) fun o o1 o2 => ?_
    tb_start
    refine e_sgn (m := 94) (by decide) (by decide +kernel) o1 o2 fun c h1 h2 => ?_
    refine e_lcA (by tb_rel) (by rw [List.length_map, sizeLine_eq]; omega) ⟨cs ++ [c], ⟨by rw [List.length_append, hl]; rfl, fun d hd => ?_⟩, map_push (g := fun c => V.str ⟨#[c]⟩), rfl⟩ (by tb_rel)
    rcases List.mem_append.mp hd with q | q
    · exact hcs d q
    · rw [List.mem_singleton.mp q]; exact ⟨h1, h2⟩
  · rintro acc M D ⟨cs, ⟨hl, hcs⟩, rfl, rfl⟩
    tb_start
    refine e_joinS (by tb_rel) (by omega) ?_
    refine e_end (by tb_rel) (ke _ (.inr ⟨_, rfl, ?_, ?_⟩))
    · exact fun c hc => hcs c (by simpa using hc)
    · show cs.toArray.size ≤ 40
      rw [List.size_toArray]; omega
end

section
variable {P : Program} {w : World} {K : PySem.W.Frag} {mg : Str → Option Value} {base : Heap}
local macro_rules | `(tactic| kpt_turns) => `(tactic| ((with_reducible apply use_cell); tb_rel))
local macro_rules | `(tactic| kpt_turns) => `(tactic| ((with_reducible apply use_mark); tb_rel; (k_all); (k_all)))
local macro_rules | `(tactic| kpt_turns) => `(tactic| ((with_reducible apply use_digit); tb_rel; (k_all)))
local macro_rules | `(tactic| kpt_turns) => `(tactic| ((with_reducible apply use_isleaf); tb_rel))
local macro_rules | `(tactic| kpt_turns) => `(tactic| ((with_reducible apply use_isfork); tb_rel))
local macro_rules | `(tactic| kpt_turns) => `(tactic| ((with_reducible apply use_ninit); tb_rel))
local macro_rules | `(tactic| kpt_turns) => `(tactic| ((with_reducible apply use_nmany); tb_rel))
local macro_rules | `(tactic| kpt_turns) => `(tactic| ((with_reducible apply use_nmake); tb_rel; (k_all)))
local macro_rules | `(tactic| kpt_turns) => `(tactic| ((with_reducible apply use_nleaf); tb_rel; (k_all)))
local macro_rules | `(tactic| kpt_turns) => `(tactic| ((with_reducible apply use_nfork); tb_rel; (k_all)))
local macro_rules | `(tactic| kpt_turns) => `(tactic| ((with_reducible apply use_valuein); tb_rel))
local macro_rules | `(tactic| kpt_turns) => `(tactic| ((with_reducible apply use_alike); tb_rel; (k_all); (k_all)))
local macro_rules | `(tactic| kpt_turns) => `(tactic| ((with_reducible apply use_sinit); tb_rel))
local macro_rules | `(tactic| kpt_turns) => `(tactic| ((with_reducible apply use_look); tb_rel; (k_all)))
local macro_rules | `(tactic| kpt_turns) => `(tactic| ((with_reducible apply use_tell); tb_rel; (k_all)))
local macro_rules | `(tactic| kpt_turns) => `(tactic| ((with_reducible apply use_empty); tb_rel))
local macro_rules | `(tactic| kpt_turns) => `(tactic| ((with_reducible apply use_looked); tb_rel; (k_all); (k_all)))
local macro_rules | `(tactic| kpt_turns) => `(tactic| ((with_reducible apply use_parted); tb_rel; (k_all); (k_all); (k_all); (k_all); (k_all); (k_all); (k_all)))
local macro_rules | `(tactic| kpt_turns) => `(tactic| ((with_reducible apply use_putat); tb_rel; (k_all); (k_all); (k_all); (k_all); (k_all); (k_all); (k_all); (k_all); (k_all)))
local macro_rules | `(tactic| kpt_turns) => `(tactic| ((with_reducible apply use_put); tb_rel; (k_all); (k_all); (k_all); (k_all); (k_all); (k_all); (k_all); (k_all)))
local macro_rules | `(tactic| kpt_turns) => `(tactic| ((with_reducible apply use_lone); tb_rel; (k_all)))
local macro_rules | `(tactic| kpt_turns) => `(tactic| ((with_reducible apply use_leftat); tb_rel; (k_all); (k_all); (k_all); (k_all); (k_all); (k_all); (k_all); (k_all)))
local macro_rules | `(tactic| kpt_turns) => `(tactic| ((with_reducible apply use_without); tb_rel; (k_all); (k_all); (k_all); (k_all); (k_all); (k_all); (k_all)))
local macro_rules | `(tactic| kpt_turns) => `(tactic| ((with_reducible apply use_made); tb_rel))
local macro_rules | `(tactic| kpt_turns) => `(tactic| first | ((with_reducible apply e_stmeth); tb_rel; assumption; (intro _; rfl)) | ((with_reducible apply e_stf); tb_rel; assumption; kd_mem; kd_in; (intro _; rfl)))
local macro_rules | `(tactic| kpt_turns) => `(tactic| ((with_reducible apply use_stinit); tb_rel))
local macro_rules | `(tactic| kpt_turns) => `(tactic| ((with_reducible apply use_stopat); tb_rel; (k_all)))
local macro_rules | `(tactic| kpt_turns) => `(tactic| ((with_reducible apply use_tbehind); tb_rel; (k_all); (k_all); (k_all); (k_all); (k_all); (k_all); (k_all); (k_all)))
local macro_rules | `(tactic| kpt_turns) => `(tactic| ((with_reducible apply use_places); tb_rel))
local macro_rules | `(tactic| kpt_turns) => `(tactic| ((with_reducible apply use_meeting); tb_rel; (k_all); (k_all); (k_all); (k_all); (k_all)))
local macro_rules | `(tactic| kpt_turns) => `(tactic| ((with_reducible apply use_issof); tb_rel; (k_all)))
/-! ### names, values and steps drawn for roads -/
theorem rep01 {v : Bool} {z : Str} : ∃ es : List Str, (List.replicate (if v = true then (1 : Int) else 0).toNat [V.str z]).flatten = es.map V.str ∧ es.length ≤ 1 ∧ ∀ y ∈ es, y = z := by
  cases v
  · exact ⟨[], rfl, Nat.zero_le _, fun y hy => by cases hy⟩
  · exact ⟨[z], rfl, Nat.le_refl _, fun y hy => List.mem_singleton.mp hy⟩
theorem cutV_upto {xs : List V} {k : Nat} : cutV xs none (some (k : Int)) = xs.take k := by
  rcases Nat.le_total k xs.length with h | h
  · exact cutV_take h
  · unfold cutV
    rw [show HT.sIx xs.length 0 none = 0 from rfl, HT.sIx_nat, Nat.min_eq_right h, List.drop_zero, Nat.sub_zero, List.take_length, List.take_of_length_le h]
theorem nodup_le {l : List Str} : ∀ {us : List Str}, l.Nodup → (∀ z ∈ l, z ∈ us) → l.length ≤ us.length := by
  induction l with
  | nil => intro us _ _; exact Nat.zero_le _
  | cons a l ih =>
    intro us h hs
    rw [List.nodup_cons] at h
    have ha := hs a (List.mem_cons_self ..)
    have h1 := ih (us := us.erase a) h.2 fun z hz => (List.mem_erase_of_ne (fun e => h.1 (by rw [← e]; exact hz))).mpr (hs z (List.mem_cons_of_mem _ hz))
    rw [List.length_erase_of_mem ha] at h1
    have := List.length_pos_of_mem ha
    rw [List.length_cons]
    omega
theorem Nms.app {xs ys : List Str} (h : Nms xs) (h' : Nms ys) : Nms (xs ++ ys) := fun z hz => (List.mem_append.mp hz).elim (h z) (h' z)
def S_pool (K : PySem.W.Frag) : Tri where
  G := Addr × Nat × Nat × Unit
  O := Addr × (List Str) × Unit
  args := fun (b, n, many, _) => [.ref b, .int many]
  cond := fun (b, n, many, _) => (n < 137438953472) ∧ (many ≤ 676) ∧ (1 ≤ many) ∧ True
  pre := fun (b, n, many, _) => [Box b n]
  ok := fun (b, n, many, _) (p, ws, _) => (Nms ws) ∧ (ws.length = many) ∧ (1 ≤ ws.length) ∧ (ws.Nodup) ∧ True
  res := fun (b, n, many, _) (p, ws, _) => .ref p
  post := fun (b, n, many, _) (p, ws, _) => [pt p (.lst (ws.map V.str)), Box b (n + 16 + many)]
theorem use_pool {K : PySem.W.Frag} {L R : List Asn} {Q : VK} {E : XK} {b : Addr} {n : Nat} {many : Nat} (sTk : Tks L [Box b n] R) (hn : n < 137438953472) (hm : many ≤ 676) (hm1 : 1 ≤ many) (kk : ∀ (p : Addr) (ws : List Str) (_ : Nms ws) (_ : ws.length = many) (_ : 1 ≤ ws.length) (_ : ws.Nodup), Al (pt p (.lst (ws.map V.str)) :: Box b (n + 16 + many) :: R) (Q (.ref p))) : Al L (xP (S_pool K).sp [.ref b, .int many] Q E) :=
  Tri.useT (S_pool K) (b, n, many, ()) rfl ⟨hn, hm, hm1, trivial⟩ sTk (fun ⟨p, ws, _⟩ ⟨hh0, hh1, hh2, hh3, _⟩ => kk p ws hh0 hh1 hh2 hh3)
abbrev N__law_pool : List Str := ["_law_box_here", "_law_many", "_law_letters", "_law_found", "_law_name", "_law_one", "_law_other", "_law_twin", "_law_place"]
theorem sc__law_pool : FnScope N__law_pool ["_law_box_here", "_law_many"] (defScope s__law_pool) := ⟨rfl, rfl, rfl, by decide +kernel, rfl, by decide +kernel, by decide +kernel⟩
theorem ok__law_pool (T : Fx K mg) (B : Bx K mg base) : FnG P w K mg base 3 (He.fAd K ("_law_pool", none)) ["_law_box_here", "_law_many"] (S_pool K).sp := by
  refine Tri.fnC (N := N__law_pool) (k := 2) (S_pool K) T.d__law_pool sc__law_pool (fun g => rfl) (fun _ _ _ _ _ _ us hl => match us, hl with | [_, _], _ => rfl) fun cdv A outer s H E Q g R hcd hr hc ke kx => ⟨_, PSs.nox ((pss_cons (ps_asg (pe_tup (pa_cons pe_str (pa_cons (pe_lst pa_nil) pa_nil))) (qg_tup (K := K) (n := 2) rfl rfl (pgs_cons (pg_name (i := 2) sc__law_pool.nd rfl (.inl rfl)) (pgs_cons (pg_name (i := 3) sc__law_pool.nd rfl (.inr rfl)) pgs_nil))))
    (pss_cons (ps_for PassesOwn.never rfl (qi_any (K := K) rfl (ge_call (ok__law_names T B) hr.mono rfl T.g__law_names px0 (pa_cons (pv 0) (pa_cons (pv 1) pa_nil)))) (pg_name (i := 4) sc__law_pool.nd rfl (.inl rfl)) (pss_cons (ps_par (i := 5) (j := 6) (by rfl) sc__law_pool.nd rfl rfl (by decide) rfl rfl (pa_cons (pe_op (q_add (K := K) rfl) (q_bm (K := K) rfl PySem.F.plainAttrs_str PySem.F.slot_str_index PySem.F.type_str_index m_sindex (pv 2) (pa_cons (pe_ix (q_ix (K := K) rfl hr.u1) (pv 4) pe_int (fun _ _ => rfl)) pa_nil)) pe_int) (pa_cons (pe_op o_sub (q_bm (K := K) rfl PySem.F.plainAttrs_str PySem.F.slot_str_index PySem.F.type_str_index m_sindex (pv 2) (pa_cons (pe_ix (q_ix (K := K) rfl hr.u1) (pv 4) pe_int (fun _ _ => rfl)) pa_nil)) pe_int) pa_nil)) (by rfl))
    (pss_cons (ps_set (i := 7) sc__law_pool.nd rfl (.inl rfl) (pe_op (q_add (K := K) rfl) (pe_op (q_add (K := K) rfl) (pe_ix (q_ix (K := K) rfl hr.u1) (pv 2) (pe_op o_mod (pv 5) pe_int) (fun _ _ => rfl)) (pe_ix (q_ix (K := K) rfl hr.u1) (pv 2) (pv 6) (fun _ _ => rfl))) (pe_slice (q_sl (K := K) rfl) (pv 4) (po_some pe_int) po_none)))
    (pss_one (ps_expr (q_bm (K := K) rfl PySem.F.plainAttrs_list PySem.F.slot_list_extend PySem.F.type_list_extend (mt_extendT (K := K) rfl) (pv 3) (pa_cons (pe_op (q_add (K := K) rfl) (pe_lst (pa_cons (pv 4) pa_nil)) (pe_op o_mul (pe_lst (pa_cons (pv 7) pa_nil)) (pe_callTy k_int (by rfl) T.b_int (by decide +kernel) (pa_cons (pe_and (pe_cmpR o_lt (pv 5) pe_int (nomark _)) (pe_and (pe_cmpR o_ge (pv 6) pe_int (nomark _)) (pe_one (pe_cmpR (q_eq (K := K) rfl hr.u64) (ge_call (ok__law_take T B) hr.mono rfl T.g__law_take px0 (pa_cons (pv 0) (pa_cons pe_int pa_nil))) pe_int (nomark _))))) pa_nil)))) pa_nil)))))))
    (pss_one (ps_ret (pe_slice (q_sl (K := K) rfl) (pe_lc (own := [("_law_place", 8), ("_law_name", 4)]) rfl sc__law_pool.nd (qi_enum (K := K) rfl (by rfl) T.b_enumerate (pa_cons (pv 3) pa_nil)) (blkOk_by (N := N__law_pool) (sc := defScope s__law_pool) (by decide +kernel)) (fun _ _ _ _ _ => (qg_tup (K := K) (n := 2) rfl rfl (pgs_cons (pg_name (i := 8) sc__law_pool.nd rfl (.inl rfl)) (pgs_cons (pg_name (i := 4) sc__law_pool.nd rfl (.inl rfl)) pgs_nil)))) (fun _ _ _ _ _ => (pts_one (pt_cmpR (q_notin (K := K) rfl hr.u65) (pv 4) (pe_slice (q_sl (K := K) rfl) (pv 3) po_none (po_some (pv 8))) (by rfl)))) (fun _ _ _ _ _ => (pv 4))) po_none (po_some (pv 1)))))))), ?_⟩
  obtain ⟨b, n, many, _⟩ := g
  obtain ⟨hn, hm, hm1, _⟩ := hc
  replace ke : ∀ (p : Addr) (ws : List Str) (_ : Nms ws) (_ : ws.length = many) (_ : 1 ≤ ws.length) (_ : ws.Nodup), Al [pt p (.lst (ws.map V.str)), Box b (n + 16 + many), R] (Q (.ref p)) := fun p ws hh0 hh1 hh2 hh3 => ke (p, ws, ()) ⟨hh0, hh1, hh2, hh3, trivial⟩
  try dsimp only [cxOf]
  refine e_start (L := [Box b n, R]) (nx := fun _ H' => Q .non H') (rt := Q) (bk := fun _ _ => False) (ct := fun _ _ => False) [some (.ref b), some (.int many), none, none, none, none, none, none, none] rfl ?_
  tb_start
  obtain ⟨tq, rfl⟩ : ∃ y, y = p := ⟨p, rfl⟩
  obtain ⟨pf, rfl⟩ : ∃ y, y = p := ⟨p, rfl⟩
  refine use_names (by tb_rel) (by k_all) (by k_all) fun pn ns0 hw0 hl0 hd0 h20 => ?_
  have hnl : (ns0.map V.str).length = many := by rw [List.length_map]; exact hl0
  tb_start
  refine Al.tk (A := pt pf (.lst [])) (by tb_rel) ?_
  change Al (pt pf (.lst (([] : List Str).map V.str)) :: _) _
  refine e_forL (fun i σ M => ∃ (fs : List Str) (oA_0 oA_1 oA_2 oA_3 : Option V), ((Nms fs) ∧ (fs.length ≤ 2 * i) ∧ (1 ≤ i → 1 ≤ fs.length) ∧ (∀ z ∈ ns0.take i, z ∈ fs) ∧ True) ∧ σ = [some (.ref b), some (.int many), some (.str "abcdefghijklmnopqrstuvwxyz"), some (.ref pf), oA_0, oA_1, oA_2, oA_3, none] ∧ M = [pt pf (.lst (fs.map V.str)), pt pn (.lst (ns0.map V.str)), Box b (n + 16 + i), R]) ⟨_, ⟨[], _, _, _, _, ⟨((fun z hz => by cases hz)), (by k_all), ((by omega)), ((fun z hz => by rw [List.take_zero] at hz; cases hz)), trivial⟩, rfl, rfl⟩, .ofT (by tb_rel)⟩ (by rintro i σ M ⟨fs, oA_0, oA_1, oA_2, oA_3, ⟨hf, hfl, hf1, hfs, _⟩, rfl, rfl⟩; top_args) (fun i x σ M hx hI => ?_) (fun σ M hI => ?_) <;> obtain ⟨fs, oA_0, oA_1, oA_2, oA_3, ⟨hf, hfl, hf1, hfs, _⟩, eσ, eM⟩ := hI <;> subst eσ eM
  · obtain ⟨nm, hnm, hmm, rfl⟩ := strs_at hx
    have him : i < many := by have := (List.getElem?_eq_some_iff.mp hnm).1; omega
    have hn8 := hw0 nm hmm
    have hs2 := h20 nm hmm
    have hsb := hn8.b
    tb_start
    refine e_xNm (i := 0) hn8.n (by omega) (by omega) fun c0 _ a1 a2 => ?_
    tb_start
    obtain ⟨r0, ho0⟩ := occ_at a1 a2
    refine e_sindex ho0 ?_
    tb_start
    refine e_xNm (i := 1) hn8.n (by omega) (by omega) fun c1 _ a3 a4 => ?_
    tb_start
    obtain ⟨r1, ho1⟩ := occ_at a3 a4
    refine e_sindex ho1 ?_
    tb_start
    refine e_abc (by omega) (by omega) ?_
    tb_start
    refine e_abcM (by omega) (by omega) fun c2 b1 b2 => ?_
    tb_start
    refine e_slS (by rw [str_len, sizeLine_eq]; omega) ?_
    have hcc : (cutS nm (some 2) none).cps.toList = nm.cps.toList.drop 2 := (cutS_cps nm 2).2
    have hcs : (cutS nm (some 2) none).cps.size = nm.cps.size - 2 := by rw [← Array.length_toList, hcc, List.length_drop, Array.length_toList]
    have hcn : Nm (cutS nm (some 2) none) := by
      rw [Nm.iff]
      intro c hc
      rw [hcc] at hc
      exact Nm.iff.mp hn8.n c (List.mem_of_mem_drop hc)
    clear hcc
    generalize cutS nm (some 2) none = tl at hcs hcn ⊢
    tb_start
    rename_i ln
    obtain ⟨lt, rfl⟩ : ∃ y, y = p := ⟨p, rfl⟩
    have htw : Nm8 ((⟨#[97 + ((((c0 - 97 : Nat) : Int) + 2) % 26).toNat]⟩ : Str) ++ (⟨#[c2]⟩ : Str) ++ tl) := by
      refine ⟨?_, ?_, ?_⟩
      · rw [Nm.iff]
        intro c hc
        rw [app_cps, app_cps] at hc
        rcases List.mem_append.mp hc with m | m
        · rcases List.mem_append.mp m with m | m
          · rw [List.mem_singleton.mp m]; omega
          · rw [List.mem_singleton.mp m]; omega
        · exact Nm.iff.mp hcn c m
      · rw [app_size, app_size, one_size, one_size]; omega
      · rw [app_size, app_size, one_size, one_size]; omega
    generalize ((⟨#[97 + ((((c0 - 97 : Nat) : Int) + 2) % 26).toNat]⟩ : Str) ++ (⟨#[c2]⟩ : Str) ++ tl) = tw at htw ⊢
    refine e_joinN (fun σ M => ∃ (v : Bool), (True) ∧ σ = .bl v ∧ M = [Box b (n + 16 + (i + 1)), pt lt (.lst [.str tw]), pt ln (.lst [.str nm]), pt pf (.lst (fs.map V.str)), pt pn (.lst (ns0.map V.str)), R]) (fun F hJ => ?_) (fun σ M hI => ?_) <;> (try (obtain ⟨v, _, eσ, eM⟩ := hI; subst eσ eM))
    · refine e_ifb ?_ ?_ <;> intro d1 <;> (try simp only [decide_eq_true_eq, decide_eq_false_iff_not, Bool.not_eq_true', Bool.not_eq_false', Bool.and_eq_true, Bool.or_eq_true, Bool.and_eq_false_iff, Bool.or_eq_false_iff, Bool.false_or, Bool.true_and, Bool.or_false, Bool.and_true, Bool.not_true, Bool.not_false, true_and, and_true, or_false, false_or, Bool.false_eq_true, Bool.true_eq_false, not_and, Bool.not_not] at d1)
      · tb_start
        refine e_ifb ?_ ?_ <;> intro d2 <;> (try simp only [decide_eq_true_eq, decide_eq_false_iff_not, Bool.not_eq_true', Bool.not_eq_false', Bool.and_eq_true, Bool.or_eq_true, Bool.and_eq_false_iff, Bool.or_eq_false_iff, Bool.false_or, Bool.true_and, Bool.or_false, Bool.and_true, Bool.not_true, Bool.not_false, true_and, and_true, or_false, false_or, Bool.false_eq_true, Bool.true_eq_false, not_and, Bool.not_not] at d2)
        · tb_start
          refine use_take (by tb_rel) (by omega) (by decide) (by decide) fun o o1 o2 => ?_
          tb_start
          exact e_jn hJ ⟨_, trivial, rfl, rfl⟩ (by tb_rel)
        · tb_start
          exact e_jn hJ ⟨_, trivial, rfl, rfl⟩ (by tb_rel)
      · tb_start
        exact e_jn hJ ⟨_, trivial, rfl, rfl⟩ (by tb_rel)
    tb_start
    refine e_rep (by tb_rel) (by split <;> decide) (by split <;> decide) (by show 1 * Int.toNat _ ≤ _; rw [sizeLine_eq]; split <;> decide) fun c => ?_
    obtain ⟨es, hes, hel, hem⟩ := rep01 (v := v) (z := tw)
    rw [hes]
    tb_start
    rw [show fs.map V.str ++ ([V.str nm] ++ es.map V.str) = (fs ++ (nm :: es)).map V.str from by rw [List.map_append]; rfl]
    try refine e_rest (by assumption) ?_
    exact e_nx ⟨fs ++ (nm :: es), _, _, _, _, ⟨((Nms.app (xs := fs) hf fun z hz => by rcases List.mem_cons.mp hz with e | m; (rw [e]; exact hn8); (rw [hem z m]; exact htw))), ((by rw [List.length_append, List.length_cons]; omega)), ((fun _ => by rw [List.length_append, List.length_cons]; omega)), ((fun z hz => by rw [take_step hnm] at hz; rcases List.mem_append.mp hz with m | m; (exact List.mem_append.mpr (.inl (hfs z m))); (rw [List.mem_singleton.mp m]; exact List.mem_append.mpr (.inr (List.mem_cons_self ..))))), trivial⟩, rfl, rfl⟩ (by tb_rel)
  have hfl2 : fs.length ≤ 2 * many := by omega
  have hf2 : 1 ≤ fs.length := hf1 (by omega)
  tb_start
  refine e_lcEn (by tb_rel) (fun j acc M => ∃ us : List Str, ((acc = us.map V.str ∧ us.Nodup ∧ us.length ≤ j) ∧ ∀ z, z ∈ us ↔ z ∈ fs.take j) ∧ M = [pt pf (.lst (fs.map V.str)), pt pn (.lst (ns0.map V.str)), Box b (n + 16 + many), R]) ⟨_, ⟨[], ⟨⟨rfl, List.nodup_nil, Nat.zero_le _⟩, fun z => by simp⟩, rfl⟩, .ofT (by tb_rel)⟩ (by rintro j acc M ⟨us, _, rfl⟩; top_args) (fun j x acc M D T0 hx hI => ?_) (fun acc M D hI => ?_)
  · obtain ⟨us, ⟨⟨rfl, hu1, hu2⟩, hu3⟩, rfl⟩ := hI
    obtain ⟨nm, hnm, hmm, rfl⟩ := strs_at hx
    have hjl : j < fs.length := (List.getElem?_eq_some_iff.mp hnm).1
    have htk : fs.take (j + 1) = fs.take j ++ [nm] := take_step hnm
    tb_start
    refine e_slL (by top_args) fun c => ?_
    rw [cutV_take (by rw [List.length_map]; omega), ← List.map_take]
    refine e_notinL (by top_args) rfl (flat_strs _) ?_
    rw [inV_strs]
    tb_start
    refine e_ifb ?_ ?_ <;> intro d <;> (try simp only [decide_eq_true_eq, decide_eq_false_iff_not, Bool.not_eq_true', Bool.not_eq_false', Bool.and_eq_true, Bool.or_eq_true, Bool.and_eq_false_iff, Bool.or_eq_false_iff, Bool.false_or, Bool.true_and, Bool.or_false, Bool.and_true, Bool.not_true, Bool.not_false, true_and, and_true, or_false, false_or, Bool.false_eq_true, Bool.true_eq_false, not_and, Bool.not_not] at d)
    · tb_start
      refine e_lcA (by tb_rel) (by rw [List.length_map, sizeLine_eq]; omega) ⟨us ++ [nm], ⟨⟨by rw [List.map_append]; rfl, ?_, by rw [List.length_append, List.length_singleton]; omega⟩, fun z => ?_⟩, rfl⟩ (by tb_rel)
      · rw [List.nodup_append]
        refine ⟨hu1, List.pairwise_singleton _ _, fun y hy z hz e => ?_⟩
        rw [List.mem_singleton.mp hz] at e
        subst e
        exact d ((hu3 _).mp hy)
      · rw [htk, List.mem_append, List.mem_append, hu3]
    · tb_start
      refine e_lcN (by tb_rel) ⟨us, ⟨⟨rfl, hu1, by omega⟩, fun z => ?_⟩, rfl⟩ (by tb_rel)
      rw [htk, List.mem_append, hu3, List.mem_singleton]
      exact ⟨.inl, fun h => h.elim id fun e => by rw [e]; exact d⟩
  · obtain ⟨us, ⟨⟨rfl, hu1, hu2⟩, hu3⟩, rfl⟩ := hI
    rw [List.length_map, List.take_length] at hu3
    rw [List.length_map] at hu2
    tb_start
    refine e_slL (by top_args) fun c => ?_
    rw [cutV_upto, ← List.map_take]
    have h1 : 1 ≤ us.length := by
      obtain ⟨z, hz⟩ := List.exists_mem_of_ne_nil fs (fun e => by rw [e] at hf2; exact absurd hf2 (by decide))
      exact List.length_pos_of_mem ((hu3 z).mpr hz)
    have hge : ns0.length ≤ us.length := nodup_le hd0 fun z hz => (hu3 z).mpr (hfs z (by rw [List.length_map, List.take_length]; exact hz))
    exact e_end (by tb_rel) (ke (c) (us.take many) ((fun z hz => hf z ((hu3 z).mp (List.mem_of_mem_take hz)))) ((by rw [List.length_take]; omega)) ((by rw [List.length_take]; omega)) ((hu1.sublist (List.take_sublist ..))))
end

section
variable {P : Program} {w : World} {K : PySem.W.Frag} {mg : Str → Option Value} {base : Heap}
local macro_rules | `(tactic| kpt_turns) => `(tactic| ((with_reducible apply use_cell); tb_rel))
local macro_rules | `(tactic| kpt_turns) => `(tactic| ((with_reducible apply use_mark); tb_rel; (k_all); (k_all)))
local macro_rules | `(tactic| kpt_turns) => `(tactic| ((with_reducible apply use_digit); tb_rel; (k_all)))
local macro_rules | `(tactic| kpt_turns) => `(tactic| ((with_reducible apply use_isleaf); tb_rel))
local macro_rules | `(tactic| kpt_turns) => `(tactic| ((with_reducible apply use_isfork); tb_rel))
local macro_rules | `(tactic| kpt_turns) => `(tactic| ((with_reducible apply use_ninit); tb_rel))
local macro_rules | `(tactic| kpt_turns) => `(tactic| ((with_reducible apply use_nmany); tb_rel))
local macro_rules | `(tactic| kpt_turns) => `(tactic| ((with_reducible apply use_nmake); tb_rel; (k_all)))
local macro_rules | `(tactic| kpt_turns) => `(tactic| ((with_reducible apply use_nleaf); tb_rel; (k_all)))
local macro_rules | `(tactic| kpt_turns) => `(tactic| ((with_reducible apply use_nfork); tb_rel; (k_all)))
local macro_rules | `(tactic| kpt_turns) => `(tactic| ((with_reducible apply use_valuein); tb_rel))
local macro_rules | `(tactic| kpt_turns) => `(tactic| ((with_reducible apply use_alike); tb_rel; (k_all); (k_all)))
local macro_rules | `(tactic| kpt_turns) => `(tactic| ((with_reducible apply use_sinit); tb_rel))
local macro_rules | `(tactic| kpt_turns) => `(tactic| ((with_reducible apply use_look); tb_rel; (k_all)))
local macro_rules | `(tactic| kpt_turns) => `(tactic| ((with_reducible apply use_tell); tb_rel; (k_all)))
local macro_rules | `(tactic| kpt_turns) => `(tactic| ((with_reducible apply use_empty); tb_rel))
local macro_rules | `(tactic| kpt_turns) => `(tactic| ((with_reducible apply use_looked); tb_rel; (k_all); (k_all)))
local macro_rules | `(tactic| kpt_turns) => `(tactic| ((with_reducible apply use_parted); tb_rel; (k_all); (k_all); (k_all); (k_all); (k_all); (k_all); (k_all)))
local macro_rules | `(tactic| kpt_turns) => `(tactic| ((with_reducible apply use_putat); tb_rel; (k_all); (k_all); (k_all); (k_all); (k_all); (k_all); (k_all); (k_all); (k_all)))
local macro_rules | `(tactic| kpt_turns) => `(tactic| ((with_reducible apply use_put); tb_rel; (k_all); (k_all); (k_all); (k_all); (k_all); (k_all); (k_all); (k_all)))
local macro_rules | `(tactic| kpt_turns) => `(tactic| ((with_reducible apply use_lone); tb_rel; (k_all)))
local macro_rules | `(tactic| kpt_turns) => `(tactic| ((with_reducible apply use_leftat); tb_rel; (k_all); (k_all); (k_all); (k_all); (k_all); (k_all); (k_all); (k_all)))
local macro_rules | `(tactic| kpt_turns) => `(tactic| ((with_reducible apply use_without); tb_rel; (k_all); (k_all); (k_all); (k_all); (k_all); (k_all); (k_all)))
local macro_rules | `(tactic| kpt_turns) => `(tactic| ((with_reducible apply use_made); tb_rel))
local macro_rules | `(tactic| kpt_turns) => `(tactic| first | ((with_reducible apply e_stmeth); tb_rel; assumption; (intro _; rfl)) | ((with_reducible apply e_stf); tb_rel; assumption; kd_mem; kd_in; (intro _; rfl)))
local macro_rules | `(tactic| kpt_turns) => `(tactic| ((with_reducible apply use_stinit); tb_rel))
local macro_rules | `(tactic| kpt_turns) => `(tactic| ((with_reducible apply use_stopat); tb_rel; (k_all)))
local macro_rules | `(tactic| kpt_turns) => `(tactic| ((with_reducible apply use_tbehind); tb_rel; (k_all); (k_all); (k_all); (k_all); (k_all); (k_all); (k_all); (k_all)))
local macro_rules | `(tactic| kpt_turns) => `(tactic| ((with_reducible apply use_places); tb_rel))
local macro_rules | `(tactic| kpt_turns) => `(tactic| ((with_reducible apply use_meeting); tb_rel; (k_all); (k_all); (k_all); (k_all); (k_all)))
local macro_rules | `(tactic| kpt_turns) => `(tactic| ((with_reducible apply use_issof); tb_rel; (k_all)))
def S_values (K : PySem.W.Frag) : Tri where
  G := Addr × Nat × Unit
  O := Addr × (List V) × Unit
  args := fun (b, n, _) => [.ref b]
  cond := fun (b, n, _) => (n < 137438953472) ∧ True
  pre := fun (b, n, _) => [Box b n]
  ok := fun (b, n, _) (p, vs, _) => (∀ v ∈ vs, Vok v) ∧ (vs.length = 5) ∧ True
  res := fun (b, n, _) (p, vs, _) => .ref p
  post := fun (b, n, _) (p, vs, _) => [pt p (.lst vs), Box b (n + 129)]
theorem use_values {K : PySem.W.Frag} {L R : List Asn} {Q : VK} {E : XK} {b : Addr} {n : Nat} (sTk : Tks L [Box b n] R) (hn : n < 137438953472) (kk : ∀ (p : Addr) (vs : List V) (_ : ∀ v ∈ vs, Vok v) (_ : vs.length = 5), Al (pt p (.lst vs) :: Box b (n + 129) :: R) (Q (.ref p))) : Al L (xP (S_values K).sp [.ref b] Q E) :=
  Tri.useT (S_values K) (b, n, ()) rfl ⟨hn, trivial⟩ sTk (fun ⟨p, vs, _⟩ ⟨hh0, hh1, _⟩ => kk p vs hh0 hh1)
abbrev N__law_values : List Str := ["_law_box_here", "_law_k"]
theorem sc__law_values : FnScope N__law_values ["_law_box_here"] (defScope s__law_values) := ⟨rfl, rfl, rfl, by decide +kernel, rfl, by decide +kernel, by decide +kernel⟩
theorem ok__law_values (T : Fx K mg) (B : Bx K mg base) : FnG P w K mg base 3 (He.fAd K ("_law_values", none)) ["_law_box_here"] (S_values K).sp := by
  refine Tri.fnC (N := N__law_values) (k := 2) (S_values K) T.d__law_values sc__law_values (fun g => rfl) (fun _ _ _ _ _ _ us hl => match us, hl with | [_], _ => rfl) fun cdv A outer s H E Q g R hcd hr hc ke kx => ⟨_, PSs.nox ((pss_one (ps_ret (pe_op (q_add (K := K) rfl) (pe_lc (own := [("_law_k", 1)]) rfl sc__law_values.nd (pi_range1 (by rfl) T.b_range (pa_cons pe_int pa_nil)) (blkOk_by (N := N__law_values) (sc := defScope s__law_values) (by decide +kernel)) (fun _ _ _ _ _ => (pg_name (i := 1) sc__law_values.nd rfl (.inl rfl))) (fun _ _ _ _ _ => pts_nil) (fun _ _ _ _ _ => (ge_call (ok__law_value T B) hr.mono rfl T.g__law_value px0 (pa_cons (pv 0) pa_nil)))) (pe_lst (pa_cons pe_int (pa_cons pe_str pa_nil))))))), ?_⟩
  obtain ⟨b, n, _⟩ := g
  obtain ⟨hn, _⟩ := hc
  replace ke : ∀ (p : Addr) (vs : List V) (_ : ∀ v ∈ vs, Vok v) (_ : vs.length = 5), Al [pt p (.lst vs), Box b (n + 129), R] (Q (.ref p)) := fun p vs hh0 hh1 => ke (p, vs, ()) ⟨hh0, hh1, trivial⟩
  try dsimp only [cxOf]
  refine e_start (L := [Box b n, R]) (nx := fun _ H' => Q .non H') (rt := Q) (bk := fun _ _ => False) (ct := fun _ _ => False) [some (.ref b), none] rfl ?_
  tb_start
  refine e_lcR0 (by tb_rel) (fun j acc M => (acc.length = j ∧ ∀ v ∈ acc, Vok v) ∧ M = [Box b (n + 43 * j), R]) ⟨_, ⟨⟨rfl, fun v hv => by cases hv⟩, rfl⟩, .ofT (by tb_rel)⟩ ?_ ?_
  · rintro j acc M D hj ⟨⟨hl, hv⟩, rfl⟩
    tb_start
    refine use_value (by tb_rel) (by omega) fun v hv2 => ?_
    exact e_lcA (by tb_rel) (by rw [sizeLine_eq]; omega) ⟨⟨by rw [List.length_append, hl]; rfl, fun u hu => (List.mem_append.mp hu).elim (hv u) fun m => by rw [List.mem_singleton.mp m]; exact hv2⟩, rfl⟩ (by tb_rel)
  · rintro acc M D ⟨⟨hl, hv⟩, rfl⟩
    tb_start
    exact e_end (by tb_rel) (ke (_) (_) ((fun u hu => (List.mem_append.mp hu).elim (hv u) fun m => by rcases List.mem_cons.mp m with e | m; (rw [e]; exact .inl ⟨1, rfl, by decide⟩); (rw [List.mem_singleton.mp m]; exact Vok.lit (by decide +kernel)))) ((by rw [List.length_append, hl]; rfl)))
def S_step (K : PySem.W.Frag) : Tri where
  G := Addr × Nat × Addr × (List Str) × Addr × (List V) × Unit
  O := Addr × Str × (Option V) × Unit
  args := fun (b, n, pn, ws, pv, vs, _) => [.ref b, .ref pn, .ref pv]
  cond := fun (b, n, pn, ws, pv, vs, _) => (n < 137438953472) ∧ (Nms ws) ∧ (1 ≤ ws.length) ∧ (ws.length ≤ 1000) ∧ (∀ v ∈ vs, Vok v) ∧ (1 ≤ vs.length) ∧ (vs.length ≤ 1000) ∧ True
  pre := fun (b, n, pn, ws, pv, vs, _) => [Box b n, pt pn (.lst (ws.map V.str)), pt pv (.lst vs)]
  ok := fun (b, n, pn, ws, pv, vs, _) (p, nm, ov, _) => (nm ∈ ws) ∧ (∀ v, ov = some v → v ∈ vs) ∧ True
  res := fun (b, n, pn, ws, pv, vs, _) (p, nm, ov, _) => .ref p
  post := fun (b, n, pn, ws, pv, vs, _) (p, nm, ov, _) => [Fz K (.ref p) (mvD (some (nm, ov))), Box b (n + 3), pt pn (.lst (ws.map V.str)), pt pv (.lst vs)]
theorem use_step {K : PySem.W.Frag} {L R : List Asn} {Q : VK} {E : XK} {b : Addr} {n : Nat} {pn : Addr} {ws : List Str} {pv : Addr} {vs : List V} (sTk : Tks L [Box b n, pt pn (.lst (ws.map V.str)), pt pv (.lst vs)] R) (hn : n < 137438953472) (hw : Nms ws) (hw1 : 1 ≤ ws.length) (hw2 : ws.length ≤ 1000) (hv : ∀ v ∈ vs, Vok v) (hv1 : 1 ≤ vs.length) (hv2 : vs.length ≤ 1000) (kk : ∀ (p : Addr) (nm : Str) (ov : Option V) (_ : nm ∈ ws) (_ : ∀ v, ov = some v → v ∈ vs), Al (Fz K (.ref p) (mvD (some (nm, ov))) :: Box b (n + 3) :: pt pn (.lst (ws.map V.str)) :: pt pv (.lst vs) :: R) (Q (.ref p))) : Al L (xP (S_step K).sp [.ref b, .ref pn, .ref pv] Q E) :=
  Tri.useT (S_step K) (b, n, pn, ws, pv, vs, ()) rfl ⟨hn, hw, hw1, hw2, hv, hv1, hv2, trivial⟩ sTk (fun ⟨p, nm, ov, _⟩ ⟨hh0, hh1, _⟩ => kk p nm ov hh0 hh1)
abbrev N__law_step : List Str := ["_law_box_here", "_law_names_here", "_law_values_here", "_law_name"]
theorem sc__law_step : FnScope N__law_step ["_law_box_here", "_law_names_here", "_law_values_here"] (defScope s__law_step) := ⟨rfl, rfl, rfl, by decide +kernel, rfl, by decide +kernel, by decide +kernel⟩
theorem ok__law_step (T : Fx K mg) (B : Bx K mg base) : FnG P w K mg base 2 (He.fAd K ("_law_step", none)) ["_law_box_here", "_law_names_here", "_law_values_here"] (S_step K).sp := by
  refine Tri.fnC (N := N__law_step) (k := 1) (S_step K) T.d__law_step sc__law_step (fun g => rfl) (fun _ _ _ _ _ _ us hl => match us, hl with | [_, _, _], _ => rfl) fun cdv A outer s H E Q g R hcd hr hc ke kx => ⟨_, PSs.nox ((pss_cons (ps_set (i := 3) sc__law_step.nd rfl (.inl rfl) (pe_ix (q_ix (K := K) rfl hr.u1) (pv 1) (ge_call (ok__law_take T B) hr.mono rfl T.g__law_take px0 (pa_cons (pv 0) (pa_cons (pe_callB (q_len (K := K) rfl) (by rfl) T.b_len (by decide +kernel) (pa_cons (pv 1) pa_nil)) pa_nil))) (fun _ _ => rfl)))
    (pss_cons (ps_if (pt_cmpR (q_eq (K := K) rfl hr.u64) (ge_call (ok__law_take T B) hr.mono rfl T.g__law_take px0 (pa_cons (pv 0) (pa_cons pe_int pa_nil))) pe_int (nomark _)) (pss_one (ps_ret (pe_tup (pa_cons pe_str (pa_cons (pv 3) pa_nil))))) pss_nil)
    (pss_one (ps_ret (pe_tup (pa_cons pe_str (pa_cons (pv 3) (pa_cons (pe_ix (q_ix (K := K) rfl hr.u1) (pv 2) (ge_call (ok__law_take T B) hr.mono rfl T.g__law_take px0 (pa_cons (pv 0) (pa_cons (pe_callB (q_len (K := K) rfl) (by rfl) T.b_len (by decide +kernel) (pa_cons (pv 2) pa_nil)) pa_nil))) (fun _ _ => rfl)) pa_nil))))))))), ?_⟩
  obtain ⟨b, n, pn, ws, pv, vs, _⟩ := g
  obtain ⟨hn, hw, hw1, hw2, hv, hv1, hv2, _⟩ := hc
  replace ke : ∀ (p : Addr) (nm : Str) (ov : Option V) (_ : nm ∈ ws) (_ : ∀ v, ov = some v → v ∈ vs), Al [Fz K (.ref p) (mvD (some (nm, ov))), Box b (n + 3), pt pn (.lst (ws.map V.str)), pt pv (.lst vs), R] (Q (.ref p)) := fun p nm ov hh0 hh1 => ke (p, nm, ov, ()) ⟨hh0, hh1, trivial⟩
  try dsimp only [cxOf]
  refine e_start (L := [Box b n, pt pn (.lst (ws.map V.str)), pt pv (.lst vs), R]) (nx := fun _ H' => Q .non H') (rt := Q) (bk := fun _ _ => False) (ct := fun _ _ => False) [some (.ref b), some (.ref pn), some (.ref pv), none] rfl ?_
  tb_start
  rw [List.length_map]
  refine use_take (by tb_rel) (by omega) (by omega) (by omega) fun o o1 o2 => ?_
  obtain ⟨j, rfl⟩ : ∃ j : Nat, o = j := ⟨o.toNat, by omega⟩
  obtain ⟨nm, hnm⟩ : ∃ z, ws[j]? = some z := ⟨_, List.getElem?_eq_getElem (by omega)⟩
  have hm := List.mem_of_getElem? hnm
  refine e_xL (by top_args) (atI_nat (v := .str nm) (by rw [List.getElem?_map, hnm]; rfl)) ?_
  tb_start
  refine use_take (by tb_rel) (by omega) (by decide) (by decide) fun t t1 t2 => ?_
  tb_start
  refine e_if ?_ ?_ <;> intro c <;> (try simp only [decide_eq_true_eq, decide_eq_false_iff_not, Bool.not_eq_true', Bool.not_eq_false', Bool.and_eq_true, Bool.or_eq_true, Bool.and_eq_false_iff, Bool.or_eq_false_iff, Bool.false_or, Bool.true_and, Bool.or_false, Bool.and_true, Bool.not_true, Bool.not_false, true_and, and_true, or_false, false_or, Bool.false_eq_true, Bool.true_eq_false, not_and, Bool.not_not] at c)
  · tb_start
    refine Al.z (K := K) (x := .ref p) (d := mvD (some (nm, none))) (LdZ.move2 (.tk (by tb_rel))) ?_
    exact e_end (by tb_rel) (ke (_) (nm) (none) (hm) ((fun v e => by cases e)))
  · tb_start
    refine use_take (by tb_rel) (by omega) (by omega) (by omega) fun u u1 u2 => ?_
    obtain ⟨k, rfl⟩ : ∃ j : Nat, u = j := ⟨u.toNat, by omega⟩
    obtain ⟨v, hvk⟩ : ∃ v, vs[k]? = some v := ⟨_, List.getElem?_eq_getElem (by omega)⟩
    have hvm := List.mem_of_getElem? hvk
    refine e_xL (by top_args) (atI_nat hvk) ?_
    tb_start
    refine Al.z (K := K) (x := .ref p) (d := mvD (some (nm, some v))) (LdZ.move3 (hv v hvm).scl (.tk (by tb_rel))) ?_
    exact e_end (by tb_rel) (ke (_) (nm) (some v) (hm) ((fun w e => by cases e; exact hvm)))
def S_from (K : PySem.W.Frag) : Tri where
  G := Addr × Nat × Addr × (List PyData) × Unit
  O := Nat × Unit
  args := fun (b, n, p, ds, _) => [.ref b, .ref p]
  cond := fun (b, n, p, ds, _) => (n < 137438953472) ∧ (1 ≤ ds.length) ∧ (ds.length ≤ 100000) ∧ True
  pre := fun (b, n, p, ds, _) => [Box b n, LsA K p ds]
  ok := fun (b, n, p, ds, _) (o, _) => (o < ds.length) ∧ True
  res := fun (b, n, p, ds, _) (o, _) => .int o
  post := fun (b, n, p, ds, _) (o, _) => [Box b (n + 2), LsA K p ds]
theorem use_from {K : PySem.W.Frag} {L R : List Asn} {Q : VK} {E : XK} {b : Addr} {n : Nat} {p : Addr} {ds : List PyData} (sTk : Tks L [Box b n, LsA K p ds] R) (hn : n < 137438953472) (h1 : 1 ≤ ds.length) (h2 : ds.length ≤ 100000) (kk : ∀ (o : Nat) (_ : o < ds.length), Al (Box b (n + 2) :: LsA K p ds :: R) (Q (.int o))) : Al L (xP (S_from K).sp [.ref b, .ref p] Q E) :=
  Tri.useT (S_from K) (b, n, p, ds, ()) rfl ⟨hn, h1, h2, trivial⟩ sTk (fun ⟨o, _⟩ ⟨hh0, _⟩ => kk o hh0)
abbrev N__law_from : List Str := ["_law_box_here", "_law_stops", "_law_way"]
theorem sc__law_from : FnScope N__law_from ["_law_box_here", "_law_stops"] (defScope s__law_from) := ⟨rfl, rfl, rfl, by decide +kernel, rfl, by decide +kernel, by decide +kernel⟩
theorem ok__law_from (T : Fx K mg) (B : Bx K mg base) : FnG P w K mg base 2 (He.fAd K ("_law_from", none)) ["_law_box_here", "_law_stops"] (S_from K).sp := by
  refine Tri.fnC (N := N__law_from) (k := 1) (S_from K) T.d__law_from sc__law_from (fun g => rfl) (fun _ _ _ _ _ _ us hl => match us, hl with | [_, _], _ => rfl) fun cdv A outer s H E Q g R hcd hr hc ke kx => ⟨_, PSs.nox ((pss_cons (ps_set (i := 2) sc__law_from.nd rfl (.inl rfl) (ge_call (ok__law_take T B) hr.mono rfl T.g__law_take px0 (pa_cons (pv 0) (pa_cons pe_int pa_nil))))
    (pss_cons (ps_if (pt_cmpR o_lt (pv 2) pe_int (nomark _)) (pss_one (ps_ret (pe_op o_sub (pe_callB (q_len (K := K) rfl) (by rfl) T.b_len (by decide +kernel) (pa_cons (pv 1) pa_nil)) pe_int))) pss_nil)
    (pss_cons (ps_if (pt_cmpR (q_eq (K := K) rfl hr.u64) (pv 2) pe_int (nomark _)) (pss_one (ps_ret (pe_callB (k_max rfl) (by rfl) T.b_max (by decide +kernel) (pa_cons pe_int (pa_cons (pe_op o_sub (pe_op o_sub (pe_callB (q_len (K := K) rfl) (by rfl) T.b_len (by decide +kernel) (pa_cons (pv 1) pa_nil)) pe_int) (ge_call (ok__law_take T B) hr.mono rfl T.g__law_take px0 (pa_cons (pv 0) (pa_cons pe_int pa_nil)))) pa_nil))))) pss_nil)
    (pss_one (ps_ret (ge_call (ok__law_take T B) hr.mono rfl T.g__law_take px0 (pa_cons (pv 0) (pa_cons (pe_callB (q_len (K := K) rfl) (by rfl) T.b_len (by decide +kernel) (pa_cons (pv 1) pa_nil)) pa_nil))))))))), ?_⟩
  obtain ⟨b, n, p, ds, _⟩ := g
  obtain ⟨hn, h1, h2, _⟩ := hc
  replace ke : ∀ (o : Nat) (_ : o < ds.length), Al [Box b (n + 2), LsA K p ds, R] (Q (.int o)) := fun o hh0 => ke (o, ()) ⟨hh0, trivial⟩
  try dsimp only [cxOf]
  refine e_start (L := [Box b n, LsA K p ds, R]) (nx := fun _ H' => Q .non H') (rt := Q) (bk := fun _ _ => False) (ct := fun _ _ => False) [some (.ref b), some (.ref p), none] rfl ?_
  tb_start
  refine use_take (by tb_rel) (by omega) (by decide) (by decide) fun w w1 w2 => ?_
  tb_start
  refine e_if ?_ ?_ <;> intro c <;> (try simp only [decide_eq_true_eq, decide_eq_false_iff_not, Bool.not_eq_true', Bool.not_eq_false', Bool.and_eq_true, Bool.or_eq_true, Bool.and_eq_false_iff, Bool.or_eq_false_iff, Bool.false_or, Bool.true_and, Bool.or_false, Bool.and_true, Bool.not_true, Bool.not_false, true_and, and_true, or_false, false_or, Bool.false_eq_true, Bool.true_eq_false, not_and, Bool.not_not] at c)
  · tb_start
    rw [show ((ds.length : Nat) : Int) - 1 = ((ds.length - 1 : Nat) : Int) by omega]
    exact e_end (by tb_rel) (ke (ds.length - 1) (by k_all))
  · tb_start
    refine e_if ?_ ?_ <;> intro c1 <;> (try simp only [decide_eq_true_eq, decide_eq_false_iff_not, Bool.not_eq_true', Bool.not_eq_false', Bool.and_eq_true, Bool.or_eq_true, Bool.and_eq_false_iff, Bool.or_eq_false_iff, Bool.false_or, Bool.true_and, Bool.or_false, Bool.and_true, Bool.not_true, Bool.not_false, true_and, and_true, or_false, false_or, Bool.false_eq_true, Bool.true_eq_false, not_and, Bool.not_not] at c1)
    · tb_start
      refine use_take (by tb_rel) (by omega) (by decide) (by decide) fun t t1 t2 => ?_
      tb_start
      obtain ⟨o, ho, e⟩ : ∃ o : Nat, o < ds.length ∧ (if (((ds.length : Nat) : Int) - 1 - t) > 0 then (((ds.length : Nat) : Int) - 1 - t) else 0) = (o : Int) := by
        split
        · exact ⟨(((ds.length : Nat) : Int) - 1 - t).toNat, by omega, by omega⟩
        · exact ⟨0, by omega, rfl⟩
      rw [e]
      exact e_end (by tb_rel) (ke (o) (by k_all))
    · tb_start
      refine use_take (by tb_rel) (by omega) (by omega) (by omega) fun t t1 t2 => ?_
      obtain ⟨j, rfl⟩ : ∃ j : Nat, t = j := ⟨t.toNat, by omega⟩
      exact e_end (by tb_rel) (ke (j) (by k_all))
def S_grown (K : PySem.W.Frag) : Tri where
  G := Addr × Addr × Addr × Addr × Addr × (List Nd) × (List Nat) × (List (Addr × Stp)) × (List Prs) × Nat × Str × (Option V) × Addr × Addr × Prs × Addr × Stp × Unit
  O := Addr × Unit
  args := fun (r, s, sl, nn, dd, nds, td, zs, hs, i, n, ov, pl, t, h, a, y, _) => [.ref r, .ref pl, .int i, .ref t]
  cond := fun (r, s, sl, nn, dd, nds, td, zs, hs, i, n, ov, pl, t, h, a, y, _) => (RdOk nds td zs hs) ∧ (nds[0]? = some Nd.bare) ∧ (zs[i]? = some (a, y)) ∧ (hs[i]? = some h) ∧ (Nm8 n) ∧ (∀ v, ov = some v → Vok v) ∧ (nds.length ≤ 700000) ∧ (td.length ≤ 700000) ∧ (zs.length ≤ 100000) ∧ (h.length ≤ 50000) ∧ True
  pre := fun (r, s, sl, nn, dd, nds, td, zs, hs, i, n, ov, pl, t, h, a, y, _) => [Ob r (He.ga K "Roads") [("shelf", .ref s), ("stops", .ref sl)], pt sl (.lst ((zs).map fun z => V.ref z.1)), StsA K (zs), Ob s (He.ga K "Store") [("nodes", .ref nn), ("told", .ref dd)], NodesA K nn (nds), pt dd (.dK (toldK (td))), LsA K pl (zs.map stD), Fz K (.ref t) (mvD (some (n, ov))), TbW K]
  ok := fun (r, s, sl, nn, dd, nds, td, zs, hs, i, n, ov, pl, t, h, a, y, _) (a', _) => True
  res := fun (r, s, sl, nn, dd, nds, td, zs, hs, i, n, ov, pl, t, h, a, y, _) (a', _) => .bl true
  post := fun (r, s, sl, nn, dd, nds, td, zs, hs, i, n, ov, pl, t, h, a, y, _) (a', _) => [Ob r (He.ga K "Roads") [("shelf", .ref s), ("stops", .ref sl)], pt sl (.lst ((zs ++ [(a', newStp (nds, td) i y h (n, ov))]).map fun z => V.ref z.1)), StsA K (zs ++ [(a', newStp (nds, td) i y h (n, ov))]), Ob s (He.ga K "Store") [("nodes", .ref nn), ("told", .ref dd)], NodesA K nn ((stepS (nds, td) y.tab (srt h) (n, ov)).1.1), pt dd (.dK (toldK ((stepS (nds, td) y.tab (srt h) (n, ov)).1.2))), LsA K pl ((zs ++ [(a', newStp (nds, td) i y h (n, ov))]).map stD), TbW K]
theorem use_grown {K : PySem.W.Frag} {L R : List Asn} {Q : VK} {E : XK} {r : Addr} {s : Addr} {sl : Addr} {nn : Addr} {dd : Addr} {nds : List Nd} {td : List Nat} {zs : List (Addr × Stp)} {hs : List Prs} {i : Nat} {n : Str} {ov : Option V} {pl : Addr} {t : Addr} {h : Prs} {a : Addr} {y : Stp} (sTk : Tks L [Ob r (He.ga K "Roads") [("shelf", .ref s), ("stops", .ref sl)], pt sl (.lst ((zs).map fun z => V.ref z.1)), StsA K (zs), Ob s (He.ga K "Store") [("nodes", .ref nn), ("told", .ref dd)], NodesA K nn (nds), pt dd (.dK (toldK (td))), LsA K pl (zs.map stD), Fz K (.ref t) (mvD (some (n, ov))), TbW K] R) (I : RdOk nds td zs hs) (h0 : nds[0]? = some Nd.bare) (hx : zs[i]? = some (a, y)) (hh : hs[i]? = some h) (hn : Nm8 n) (hv : ∀ v, ov = some v → Vok v) (hz : nds.length ≤ 700000) (hz2 : td.length ≤ 700000) (hz3 : zs.length ≤ 100000) (hp : h.length ≤ 50000) (kk : ∀ (a' : Addr), Al (Ob r (He.ga K "Roads") [("shelf", .ref s), ("stops", .ref sl)] :: pt sl (.lst ((zs ++ [(a', newStp (nds, td) i y h (n, ov))]).map fun z => V.ref z.1)) :: StsA K (zs ++ [(a', newStp (nds, td) i y h (n, ov))]) :: Ob s (He.ga K "Store") [("nodes", .ref nn), ("told", .ref dd)] :: NodesA K nn ((stepS (nds, td) y.tab (srt h) (n, ov)).1.1) :: pt dd (.dK (toldK ((stepS (nds, td) y.tab (srt h) (n, ov)).1.2))) :: LsA K pl ((zs ++ [(a', newStp (nds, td) i y h (n, ov))]).map stD) :: TbW K :: R) (Q (.bl true))) : Al L (xP (S_grown K).sp [.ref r, .ref pl, .int i, .ref t] Q E) :=
  Tri.useT (S_grown K) (r, s, sl, nn, dd, nds, td, zs, hs, i, n, ov, pl, t, h, a, y, ()) rfl ⟨I, h0, hx, hh, hn, hv, hz, hz2, hz3, hp, trivial⟩ sTk (fun ⟨a', _⟩ _ => kk a')
abbrev N__law_grown : List Str := ["_law_roads", "_law_stops", "_law_place", "_law_step_here", "_law_told_here"]
theorem sc__law_grown : FnScope N__law_grown ["_law_roads", "_law_stops", "_law_place", "_law_step_here"] (defScope s__law_grown) := ⟨rfl, rfl, rfl, by decide +kernel, rfl, by decide +kernel, by decide +kernel⟩
theorem ok__law_grown (T : Fx K mg) (B : Bx K mg base) : FnG P w K mg base 25 (He.fAd K ("_law_grown", none)) ["_law_roads", "_law_stops", "_law_place", "_law_step_here"] (S_grown K).sp := by
  refine Tri.fnC (N := N__law_grown) (k := 24) (S_grown K) T.d__law_grown sc__law_grown (fun g => rfl) (fun _ _ _ _ _ _ us hl => match us, hl with | [_, _, _, _], _ => rfl) fun cdv A outer s H E Q g R hcd hr hc ke kx => ⟨_, PSs.nox ((pss_cons (ps_if (pt_cmpR (q_eq (K := K) rfl hr.u64) (pe_ix (q_ix (K := K) rfl hr.u1) (pv 3) pe_int (fun _ _ => rfl)) pe_str (nomark _)) (pss_one (ps_set (i := 4) sc__law_grown.nd rfl (.inl rfl) (ge_meth (pv 0) T.c_Roads T.t_Roads_put (ok_Roads_put T B) hr.mono px0 (pa_cons (pv 2) (pa_cons (pe_ix (q_ix (K := K) rfl hr.u1) (pv 3) pe_int (fun _ _ => rfl)) (pa_cons (pe_ix (q_ix (K := K) rfl hr.u1) (pv 3) pe_int (fun _ _ => rfl)) pa_nil)))))) (pss_one (ps_set (i := 4) sc__law_grown.nd rfl (.inl rfl) (ge_meth (pv 0) T.c_Roads T.t_Roads_clear (ok_Roads_clear T B) hr.mono px0 (pa_cons (pv 2) (pa_cons (pe_ix (q_ix (K := K) rfl hr.u1) (pv 3) pe_int (fun _ _ => rfl)) pa_nil))))))
    (pss_cons (ps_expr (q_bm (K := K) rfl PySem.F.plainAttrs_list PySem.F.slot_list_append PySem.F.type_list_append mt_append (pv 1) (pa_cons (pe_tup (pa_cons (pv 2) (pa_cons (pv 3) pa_nil))) pa_nil)))
    (pss_one (ps_ret (pe_and (pe_callB (q_isi (K := K) rfl) (by rfl) T.b_isinstance (by decide +kernel) (pa_cons (pv 4) (pa_cons (q_ty (T := "int") (by rfl) T.b_int (by decide +kernel)) pa_nil))) (pe_and (pe_not (pe_callB (q_isi (K := K) rfl) (by rfl) T.b_isinstance (by decide +kernel) (pa_cons (pv 4) (pa_cons (q_ty (T := "bool") (by rfl) T.b_bool (by decide +kernel)) pa_nil)))) (pe_one (pe_cmpR (q_eq (K := K) rfl hr.u64) (pv 4) (pe_op o_sub (pe_callB (q_len (K := K) rfl) (by rfl) T.b_len (by decide +kernel) (pa_cons (pv 1) pa_nil)) pe_int) (nomark _)))))))))), ?_⟩
  obtain ⟨r, s, sl, nn, dd, nds, td, zs, hs, i, n, ov, pl, t, h, a, y, _⟩ := g
  obtain ⟨I, h0, hx, hh, hn, hv, hz, hz2, hz3, hp, _⟩ := hc
  replace ke : ∀ (a' : Addr), Al [Ob r (He.ga K "Roads") [("shelf", .ref s), ("stops", .ref sl)], pt sl (.lst ((zs ++ [(a', newStp (nds, td) i y h (n, ov))]).map fun z => V.ref z.1)), StsA K (zs ++ [(a', newStp (nds, td) i y h (n, ov))]), Ob s (He.ga K "Store") [("nodes", .ref nn), ("told", .ref dd)], NodesA K nn ((stepS (nds, td) y.tab (srt h) (n, ov)).1.1), pt dd (.dK (toldK ((stepS (nds, td) y.tab (srt h) (n, ov)).1.2))), LsA K pl ((zs ++ [(a', newStp (nds, td) i y h (n, ov))]).map stD), TbW K, R] (Q (.bl true)) := fun a' => ke (a', ()) trivial
  try dsimp only [cxOf]
  refine e_start (L := [Ob r (He.ga K "Roads") [("shelf", .ref s), ("stops", .ref sl)], pt sl (.lst ((zs).map fun z => V.ref z.1)), StsA K (zs), Ob s (He.ga K "Store") [("nodes", .ref nn), ("told", .ref dd)], NodesA K nn (nds), pt dd (.dK (toldK (td))), LsA K pl (zs.map stD), Fz K (.ref t) (mvD (some (n, ov))), TbW K, R]) (nx := fun _ H' => Q .non H') (rt := Q) (bk := fun _ _ => False) (ct := fun _ _ => False) [some (.ref r), some (.ref pl), some (.int i), some (.ref t), none] rfl ?_
  have hzl : (zs.map stD).length = zs.length := List.length_map ..
  rcases ov with _ | v
  · refine Al.tk (A := Fz K (.ref t) (mvD (some (n, none)))) (by tb_rel) (Fz.move2 fun t0 e => ?_)
    cases e
    tb_start
    refine e_eqb (b' := false) (by decide) ?_
    tb_start
    refine use_rclear (by tb_rel) I h0 hx hh hn hz hz2 hz3 hp fun a' => ?_
    tb_start
    refine Al.z (K := K) (x := .ref p) (d := .tuple [befD (some i), mvD (some (n, none))]) (LdZ.tup (by tb_rel) (.cons .int (.cons (.tk (by tb_rel)) .nil))) ?_
    refine e_lsapp (by tb_rel) (.tk (by tb_rel)) (by rw [hzl, sizeLine_eq]; omega) ?_
    rw [show zs.map stD ++ [PyData.tuple [befD (some i), mvD (some (n, none))]] = (zs ++ [(a', newStp (nds, td) i y h (n, none))]).map stD from by rw [List.map_append]; rfl]
    have hl2 : ((zs ++ [(a', newStp (nds, td) i y h (n, none))]).map stD).length = zs.length + 1 := by rw [List.length_map, List.length_append]; rfl
    tb_start
    refine e_eqv (v' := .bl true) (by rw [hl2]; simp) ?_
    exact e_end (by tb_rel) (ke (a'))
  · have hvv := hv v rfl
    refine Al.tk (A := Fz K (.ref t) (mvD (some (n, some v)))) (by tb_rel) (Fz.move3 hvv.scl fun t0 e => ?_)
    cases e
    tb_start
    refine e_eqb (b' := true) (by decide) ?_
    tb_start
    refine use_rput (by tb_rel) I h0 hx hh hn hvv hz hz2 hz3 hp fun a' => ?_
    tb_start
    refine Al.z (K := K) (x := .ref p) (d := .tuple [befD (some i), mvD (some (n, some v))]) (LdZ.tup (by tb_rel) (.cons .int (.cons (.tk (by tb_rel)) .nil))) ?_
    refine e_lsapp (by tb_rel) (.tk (by tb_rel)) (by rw [hzl, sizeLine_eq]; omega) ?_
    rw [show zs.map stD ++ [PyData.tuple [befD (some i), mvD (some (n, some v))]] = (zs ++ [(a', newStp (nds, td) i y h (n, some v))]).map stD from by rw [List.map_append]; rfl]
    have hl2 : ((zs ++ [(a', newStp (nds, td) i y h (n, some v))]).map stD).length = zs.length + 1 := by rw [List.length_map, List.length_append]; rfl
    tb_start
    refine e_eqv (v' := .bl true) (by rw [hl2]; simp) ?_
    exact e_end (by tb_rel) (ke (a'))
def S_lroad (K : PySem.W.Frag) : Tri where
  G := Addr × (List (Addr × Stp)) × Nat × (List Nat) × Unit
  O := Addr × Unit
  args := fun (pl, zs, i, w, _) => [.ref pl, .int i]
  cond := fun (pl, zs, i, w, _) => (Rd zs i w) ∧ (i < zs.length) ∧ (zs.length ≤ 100000) ∧ True
  pre := fun (pl, zs, i, w, _) => [LsA K pl (zs.map stD)]
  ok := fun (pl, zs, i, w, _) (f, _) => True
  res := fun (pl, zs, i, w, _) (f, _) => .ref f
  post := fun (pl, zs, i, w, _) (f, _) => [pt f (.lst (w.map fun j : Nat => V.int j)), LsA K pl (zs.map stD)]
theorem use_lroad {K : PySem.W.Frag} {L R : List Asn} {Q : VK} {E : XK} {pl : Addr} {zs : List (Addr × Stp)} {i : Nat} {w : List Nat} (sTk : Tks L [LsA K pl (zs.map stD)] R) (hr : Rd zs i w) (hi : i < zs.length) (hz : zs.length ≤ 100000) (kk : ∀ (f : Addr), Al (pt f (.lst (w.map fun j : Nat => V.int j)) :: LsA K pl (zs.map stD) :: R) (Q (.ref f))) : Al L (xP (S_lroad K).sp [.ref pl, .int i] Q E) :=
  Tri.useT (S_lroad K) (pl, zs, i, w, ()) rfl ⟨hr, hi, hz, trivial⟩ sTk (fun ⟨f, _⟩ _ => kk f)
abbrev N__law_road : List Str := ["_law_stops", "_law_place", "_law_found"]
theorem sc__law_road : FnScope N__law_road ["_law_stops", "_law_place"] (defScope s__law_road) := ⟨rfl, rfl, rfl, by decide +kernel, rfl, by decide +kernel, by decide +kernel⟩
theorem ok__law_road (T : Fx K mg) (B : Bx K mg base) : FnG P w K mg base 1 (He.fAd K ("_law_road", none)) ["_law_stops", "_law_place"] (S_lroad K).sp := by
  refine Tri.fnC (N := N__law_road) (k := 0) (S_lroad K) T.d__law_road sc__law_road (fun g => rfl) (fun _ _ _ _ _ _ us hl => match us, hl with | [_, _], _ => rfl) fun cdv A outer s H E Q g R hcd hr hc ke kx => ⟨_, PSs.nox ((pss_cons (ps_set (i := 2) sc__law_road.nd rfl (.inl rfl) (pe_lst (pa_cons (pv 1) pa_nil)))
    (pss_cons (ps_while PassesOwn.never (pt_cmpR o_gt (pe_ix (q_ix (K := K) rfl hr.u1) (pv 2) pe_int (fun _ _ => rfl)) pe_int (nomark _)) (pss_one (ps_expr (q_bm (K := K) rfl PySem.F.plainAttrs_list PySem.F.slot_list_insert PySem.F.type_list_insert mt_insertK (pv 2) (pa_cons pe_int (pa_cons (pe_ix (q_ix (K := K) rfl hr.u1) (pe_ix (q_ix (K := K) rfl hr.u1) (pv 0) (pe_ix (q_ix (K := K) rfl hr.u1) (pv 2) pe_int (fun _ _ => rfl)) (fun _ _ => rfl)) pe_int (fun _ _ => rfl)) pa_nil))))))
    (pss_one (ps_ret (pv 2)))))), ?_⟩
  obtain ⟨pl, zs, i, w, _⟩ := g
  obtain ⟨hr, hi, hz, _⟩ := hc
  replace ke : ∀ (f : Addr), Al [pt f (.lst (w.map fun j : Nat => V.int j)), LsA K pl (zs.map stD), R] (Q (.ref f)) := fun f => ke (f, ()) trivial
  try dsimp only [cxOf]
  refine e_start (L := [LsA K pl (zs.map stD), R]) (nx := fun _ H' => Q .non H') (rt := Q) (bk := fun _ _ => False) (ct := fun _ _ => False) [some (.ref pl), some (.int i), none] rfl ?_
  have hlen := hr.len
  obtain ⟨q0, hq0⟩ := hr.last
  obtain ⟨v0, hv0⟩ := hr.head
  have hup := hr.up
  tb_start
  obtain ⟨f, rfl⟩ : ∃ y, y = p := ⟨p, rfl⟩
  change Al (pt f (.lst (V.int (i : Nat) :: ([] : List Nat).map fun j : Nat => V.int j)) :: _) _
  refine e_while (fun m σ M => ∃ (q : List Nat) (c : Nat) (t : List Nat), ((w = q ++ c :: t) ∧ (q.length = m) ∧ True) ∧ σ = [some (.ref pl), some (.int i), some (.ref f)] ∧ M = [pt f (.lst (V.int (c : Nat) :: t.map fun j : Nat => V.int j)), LsA K pl (zs.map stD), R]) ⟨q0.length, _, ⟨q0, i, [], ⟨(hq0), (rfl), trivial⟩, rfl, rfl⟩, .ofT (by tb_rel)⟩ ?_
  rintro m σ M ⟨q, c, t, ⟨hq, hm, _⟩, rfl, rfl⟩
  have hct : (c :: t).length ≤ zs.length := by have := congrArg List.length hq; rw [List.length_append] at this; omega
  tb_start
  refine e_wh ?_ ?_ <;> intro c1 <;> (try simp only [decide_eq_true_eq, decide_eq_false_iff_not, Bool.not_eq_true', Bool.not_eq_false', Bool.and_eq_true, Bool.or_eq_true, Bool.and_eq_false_iff, Bool.or_eq_false_iff, Bool.false_or, Bool.true_and, Bool.or_false, Bool.and_true, Bool.not_true, Bool.not_false, true_and, and_true, or_false, false_or, Bool.false_eq_true, Bool.true_eq_false, not_and, Bool.not_not] at c1)
  · rcases List.eq_nil_or_concat q with z | ⟨q', b, z⟩
    · rw [z, hv0] at hq
      injection hq with e1 e2
      omega
    · rw [List.concat_eq_append] at z
      rw [z, List.append_assoc] at hq
      obtain ⟨a1, x1, h1, h2, h3⟩ := Rd.adj (u := q') (b := b) (c := c) (v := t) (by rw [hq] at hr; exact hr)
      obtain ⟨bf, mo, fa, ta, mr⟩ := x1
      dsimp only at h2
      subst h2
      tb_start
      refine e_lsx (d := stD (a1, ⟨some b, mo, fa, ta, mr⟩)) (by tb_rel) (by rw [List.getElem?_map, h1]; rfl) fun x => ?_
      refine Fz.row (b := some b) (m := mo) fun t1 mv e => ?_
      subst e
      tb_start
      refine e_ins0 (by tb_rel) (by rw [sizeLine_eq]; simp only [List.length_cons, List.length_map] at hct ⊢; omega) ?_
      tb_start
      change Al (pt f (.lst (V.int (b : Nat) :: (c :: t).map fun j : Nat => V.int j)) :: _) _
      have hm2 : q'.length + 1 = m := by rw [← hm, z, List.length_append]; rfl
      exact e_whnx (m' := q'.length) (by k_all) ⟨q', b, c :: t, ⟨(hq), (rfl), trivial⟩, rfl, rfl⟩ (by tb_rel)
  · have e1 : q = [] := by
      rcases q with _ | ⟨d, q⟩
      · rfl
      · rw [hq, List.cons_append, List.pairwise_cons] at hup
        have := hup.1 c (List.mem_append.mpr (.inr (List.mem_cons_self ..)))
        omega
    subst e1
    have hq2 : w = c :: t := hq
    tb_start
    change Al (pt f (.lst ((c :: t).map fun j : Nat => V.int j)) :: _) _
    rw [← hq2]
    exact e_end (by tb_rel) (ke (f))
end

section
variable {P : Program} {w : World} {K : PySem.W.Frag} {mg : Str → Option Value} {base : Heap}
local macro_rules | `(tactic| kpt_turns) => `(tactic| ((with_reducible apply use_cell); tb_rel))
local macro_rules | `(tactic| kpt_turns) => `(tactic| ((with_reducible apply use_mark); tb_rel; (k_all); (k_all)))
local macro_rules | `(tactic| kpt_turns) => `(tactic| ((with_reducible apply use_digit); tb_rel; (k_all)))
local macro_rules | `(tactic| kpt_turns) => `(tactic| ((with_reducible apply use_isleaf); tb_rel))
local macro_rules | `(tactic| kpt_turns) => `(tactic| ((with_reducible apply use_isfork); tb_rel))
local macro_rules | `(tactic| kpt_turns) => `(tactic| ((with_reducible apply use_ninit); tb_rel))
local macro_rules | `(tactic| kpt_turns) => `(tactic| ((with_reducible apply use_nmany); tb_rel))
local macro_rules | `(tactic| kpt_turns) => `(tactic| ((with_reducible apply use_nmake); tb_rel; (k_all)))
local macro_rules | `(tactic| kpt_turns) => `(tactic| ((with_reducible apply use_nleaf); tb_rel; (k_all)))
local macro_rules | `(tactic| kpt_turns) => `(tactic| ((with_reducible apply use_nfork); tb_rel; (k_all)))
local macro_rules | `(tactic| kpt_turns) => `(tactic| ((with_reducible apply use_valuein); tb_rel))
local macro_rules | `(tactic| kpt_turns) => `(tactic| ((with_reducible apply use_alike); tb_rel; (k_all); (k_all)))
local macro_rules | `(tactic| kpt_turns) => `(tactic| ((with_reducible apply use_sinit); tb_rel))
local macro_rules | `(tactic| kpt_turns) => `(tactic| ((with_reducible apply use_look); tb_rel; (k_all)))
local macro_rules | `(tactic| kpt_turns) => `(tactic| ((with_reducible apply use_tell); tb_rel; (k_all)))
local macro_rules | `(tactic| kpt_turns) => `(tactic| ((with_reducible apply use_empty); tb_rel))
local macro_rules | `(tactic| kpt_turns) => `(tactic| ((with_reducible apply use_looked); tb_rel; (k_all); (k_all)))
local macro_rules | `(tactic| kpt_turns) => `(tactic| ((with_reducible apply use_parted); tb_rel; (k_all); (k_all); (k_all); (k_all); (k_all); (k_all); (k_all)))
local macro_rules | `(tactic| kpt_turns) => `(tactic| ((with_reducible apply use_putat); tb_rel; (k_all); (k_all); (k_all); (k_all); (k_all); (k_all); (k_all); (k_all); (k_all)))
local macro_rules | `(tactic| kpt_turns) => `(tactic| ((with_reducible apply use_put); tb_rel; (k_all); (k_all); (k_all); (k_all); (k_all); (k_all); (k_all); (k_all)))
local macro_rules | `(tactic| kpt_turns) => `(tactic| ((with_reducible apply use_lone); tb_rel; (k_all)))
local macro_rules | `(tactic| kpt_turns) => `(tactic| ((with_reducible apply use_leftat); tb_rel; (k_all); (k_all); (k_all); (k_all); (k_all); (k_all); (k_all); (k_all)))
local macro_rules | `(tactic| kpt_turns) => `(tactic| ((with_reducible apply use_without); tb_rel; (k_all); (k_all); (k_all); (k_all); (k_all); (k_all); (k_all)))
local macro_rules | `(tactic| kpt_turns) => `(tactic| ((with_reducible apply use_made); tb_rel))
local macro_rules | `(tactic| kpt_turns) => `(tactic| first | ((with_reducible apply e_stmeth); tb_rel; assumption; (intro _; rfl)) | ((with_reducible apply e_stf); tb_rel; assumption; kd_mem; kd_in; (intro _; rfl)))
local macro_rules | `(tactic| kpt_turns) => `(tactic| ((with_reducible apply use_stinit); tb_rel))
local macro_rules | `(tactic| kpt_turns) => `(tactic| ((with_reducible apply use_stopat); tb_rel; (k_all)))
local macro_rules | `(tactic| kpt_turns) => `(tactic| ((with_reducible apply use_tbehind); tb_rel; (k_all); (k_all); (k_all); (k_all); (k_all); (k_all); (k_all); (k_all)))
local macro_rules | `(tactic| kpt_turns) => `(tactic| ((with_reducible apply use_places); tb_rel))
local macro_rules | `(tactic| kpt_turns) => `(tactic| ((with_reducible apply use_meeting); tb_rel; (k_all); (k_all); (k_all); (k_all); (k_all)))
local macro_rules | `(tactic| kpt_turns) => `(tactic| ((with_reducible apply use_issof); tb_rel; (k_all)))
theorem all_true {n : Nat} : ((List.range n).map fun _ => true).all id = true := by
  rw [List.all_eq_true]
  intro x hx
  obtain ⟨_, _, rfl⟩ := List.mem_map.mp hx
  rfl
theorem meetR_max {zs : List (Addr × Stp)} {i j : Nat} {w w' : List Nat} (h : Rd zs i w) (h' : Rd zs j w') : meetR w w' ∈ w ∧ meetR w w' ∈ w' ∧ (∀ k ∈ w, k ∈ w' → k ≤ meetR w w') ∧ ∃ q, w.filter (fun k => decide (k ∈ w')) = q ++ [meetR w w'] := by
  have hne : w.filter (fun k => decide (k ∈ w')) ≠ [] := by
    obtain ⟨u, hu⟩ := h.head
    obtain ⟨u', hu'⟩ := h'.head
    intro z
    rw [List.filter_eq_nil_iff] at z
    exact z 0 (by rw [hu]; exact List.mem_cons_self ..) (decide_eq_true (by rw [hu']; exact List.mem_cons_self ..))
  have e : w.filter (fun k => decide (k ∈ w')) = (w.filter (fun k => decide (k ∈ w'))).dropLast ++ [(w.filter (fun k => decide (k ∈ w'))).getLast hne] := (List.dropLast_concat_getLast _).symm
  have e2 : meetR w w' = (w.filter (fun k => decide (k ∈ w'))).getLast hne := by unfold meetR; rw [List.getLast?_eq_some_getLast hne]; rfl
  rw [← e2] at e
  have m : meetR w w' ∈ w.filter (fun k => decide (k ∈ w')) := by rw [e2]; exact List.getLast_mem hne
  rw [List.mem_filter] at m
  refine ⟨m.1, of_decide_eq_true m.2, fun k hk hk' => ?_, _, e⟩
  have hup := h.up.filter (fun k => decide (k ∈ w'))
  have mk : k ∈ w.filter (fun k => decide (k ∈ w')) := List.mem_filter.mpr ⟨hk, decide_eq_true hk'⟩
  rw [e] at hup mk
  rw [List.pairwise_append] at hup
  rcases List.mem_append.mp mk with z | z
  · exact Nat.le_of_lt (hup.2.2 k z _ (List.mem_singleton.mpr rfl))
  · rw [List.mem_singleton.mp z]; exact Nat.le_refl _
theorem meetR_comm {zs : List (Addr × Stp)} {i j : Nat} {w w' : List Nat} (h : Rd zs i w) (h' : Rd zs j w') : meetR w' w = meetR w w' := by
  obtain ⟨a1, a2, a3, _⟩ := meetR_max h h'
  obtain ⟨b1, b2, b3, _⟩ := meetR_max h' h
  exact Nat.le_antisymm (a3 _ b2 b1) (b3 _ a2 a1)
theorem idx_split {w u v : List Nat} {i : Nat} (e : w = u ++ i :: v) (hu : i ∉ u) : w.idxOf i = u.length ∧ w.drop (w.idxOf i + 1) = v := by
  have e1 : w.idxOf i = u.length := by rw [e, List.idxOf_append, if_neg hu, List.idxOf_cons_self, Nat.zero_add]
  refine ⟨e1, ?_⟩
  rw [e1, e, show u ++ i :: v = (u ++ [i]) ++ v by rw [List.append_assoc]; rfl, List.drop_left' (by rw [List.length_append]; rfl)]
theorem Rd.nodup {zs : List (Addr × Stp)} {j i : Nat} {u v : List Nat} (h : Rd zs j (u ++ i :: v)) : i ∉ u := fun m => by
  have := h.up
  rw [List.pairwise_append] at this
  exact Nat.lt_irrefl _ (this.2.2 i m i (List.mem_cons_self ..))
def TOk (zs : List (Addr × Stp)) (n : Str) (e l : Int) (o : HO) : Prop :=
  (∃ (i j : Nat) (w u v : List Nat), e = i ∧ l = j ∧ Rd zs i w ∧ Rd zs j (u ++ i :: v) ∧ i < zs.length ∧ j < zs.length ∧ o = .tup ((v.filter (hasN zs n)).map fun j : Nat => V.int j)) ∨
  (∃ (i j : Nat) (w w' : List Nat), e = i ∧ l = j ∧ Rd zs i w ∧ Rd zs j w' ∧ i < zs.length ∧ j < zs.length ∧ i ∉ w' ∧ o = .lst [.str "behind", .int i]) ∨
  (¬ (0 ≤ e ∧ e < zs.length) ∧ o = .lst [.str "place", .int e]) ∨
  (∃ (i : Nat) (a : Addr) (x : Stp), e = i ∧ zs[i]? = some (a, x) ∧ ¬ (0 ≤ l ∧ l < zs.length) ∧ o = .lst [.str "place", .int l])
def S_ltold (K : PySem.W.Frag) : Tri where
  G := Addr × Addr × Addr × (List Nd) × (List Nat) × (List (Addr × Stp)) × (List Prs) × Int × Int × Str × HO × Unit
  O := Addr × Unit
  args := fun (r, s, sl, nds, td, zs, hs, e, l, n, o, _) => [.ref r, .int e, .int l, .str n]
  cond := fun (r, s, sl, nds, td, zs, hs, e, l, n, o, _) => (RdOk nds td zs hs) ∧ (TOk zs n e l o) ∧ (zs.length ≤ 1000) ∧ True
  pre := fun (r, s, sl, nds, td, zs, hs, e, l, n, o, _) => [Ob r (He.ga K "Roads") [("shelf", .ref s), ("stops", .ref sl)], pt sl (.lst (zs.map fun z => V.ref z.1)), StsA K zs]
  ok := fun (r, s, sl, nds, td, zs, hs, e, l, n, o, _) (p, _) => True
  res := fun (r, s, sl, nds, td, zs, hs, e, l, n, o, _) (p, _) => .ref p
  post := fun (r, s, sl, nds, td, zs, hs, e, l, n, o, _) (p, _) => [pt p o, Ob r (He.ga K "Roads") [("shelf", .ref s), ("stops", .ref sl)], pt sl (.lst (zs.map fun z => V.ref z.1)), StsA K zs]
theorem use_ltold {K : PySem.W.Frag} {L R : List Asn} {Q : VK} {E : XK} {r : Addr} {s : Addr} {sl : Addr} {nds : List Nd} {td : List Nat} {zs : List (Addr × Stp)} {hs : List Prs} {e : Int} {l : Int} {n : Str} {o : HO} (sTk : Tks L [Ob r (He.ga K "Roads") [("shelf", .ref s), ("stops", .ref sl)], pt sl (.lst (zs.map fun z => V.ref z.1)), StsA K zs] R) (I : RdOk nds td zs hs) (hT : TOk zs n e l o) (hz : zs.length ≤ 1000) (kk : ∀ (p : Addr), Al (pt p o :: Ob r (He.ga K "Roads") [("shelf", .ref s), ("stops", .ref sl)] :: pt sl (.lst (zs.map fun z => V.ref z.1)) :: StsA K zs :: R) (Q (.ref p))) : Al L (xP (S_ltold K).sp [.ref r, .int e, .int l, .str n] Q E) :=
  Tri.useT (S_ltold K) (r, s, sl, nds, td, zs, hs, e, l, n, o, ()) rfl ⟨I, hT, hz, trivial⟩ sTk (fun ⟨p, _⟩ _ => kk p)
abbrev N__law_told : List Str := ["_law_roads", "_law_early", "_law_late", "_law_name", "_law_caught", "_law_found", "error"]
theorem sc__law_told : FnScope N__law_told ["_law_roads", "_law_early", "_law_late", "_law_name"] (defScope s__law_told) := ⟨rfl, rfl, rfl, by decide +kernel, rfl, by decide +kernel, by decide +kernel⟩
theorem ok__law_told (T : Fx K mg) (B : Bx K mg base) : FnG P w K mg base 8 (He.fAd K ("_law_told", none)) ["_law_roads", "_law_early", "_law_late", "_law_name"] (S_ltold K).sp := by
  refine Tri.fnC (N := N__law_told) (k := 7) (S_ltold K) T.d__law_told sc__law_told (fun g => rfl) (fun _ _ _ _ _ _ us hl => match us, hl with | [_, _, _, _], _ => rfl) fun cdv A outer s H E Q g R hcd hr hc ke kx => ⟨_, PSs.nox ((pss_cons (ps_asg (pe_tup (pa_cons pe_non (pa_cons pe_non pa_nil))) (qg_tup (K := K) (n := 2) rfl rfl (pgs_cons (pg_name (i := 4) sc__law_told.nd rfl (.inl rfl)) (pgs_cons (pg_name (i := 5) sc__law_told.nd rfl (.inl rfl)) pgs_nil))))
    (pss_cons (ps_try_note (c := .ref (He.ga K "RoadError")) (i := 6) (j := 4) rfl rfl sc__law_told.nd rfl rfl rfl rfl rfl (by decide) (by decide) ⟨by rfl, by decide, .inl T.g_RoadError⟩ LamX.takes0 (fun W pn xe tk pw => (pss_one (ps_set (i := 5) sc__law_told.nd rfl (.inl rfl) (ge_callW (okU_between_paper T B) hr.mono rfl T.g_between_paper tk (pa_cons (pv 0) (pa_cons (pv 1) (pa_cons (pv 2) (pa_cons (pv 3) pa_nil)))))))))
    (pss_cons (ps_if (pt_cmpR o_is (pv 4) pe_non (nomark _)) (pss_one (ps_ret (pv 5))) pss_nil)
    (pss_cons (ps_if (PW.pt (pw_or (pt_not (pt_val (pe_callB (k_isK (K := K) rfl) (by rfl) T.b_isinstance (by decide +kernel) (pa_cons (pv 4) (pa_cons (q_ty (T := "ValueError") (by rfl) T.b_ValueError (by decide +kernel)) pa_nil))))) (pw_or1 (pt_cmpR (q_eq (K := K) rfl hr.u64) (pe_callB (k_isK (K := K) rfl) (by rfl) T.b_isinstance (by decide +kernel) (pa_cons (pv 4) (pa_cons (pe_glob (v := .ref (He.ga K "NoPlace")) rfl T.g_NoPlace rfl) pa_nil))) (pe_callB (k_isK (K := K) rfl) (by rfl) T.b_isinstance (by decide +kernel) (pa_cons (pv 4) (pa_cons (pe_glob (v := .ref (He.ga K "NotBehind")) rfl T.g_NotBehind rfl) pa_nil))) (nomark _))))) (pss_one (ps_ret pe_str)) pss_nil)
    (pss_one (ps_ret (pe_op (q_add (K := K) rfl) (pe_ix (q_ix (K := K) rfl hr.u1) (pe_lst (pa_cons (pe_lst (pa_cons pe_str pa_nil)) (pa_cons (pe_lst (pa_cons pe_str pa_nil)) pa_nil))) (pe_callTy k_int (by rfl) T.b_int (by decide +kernel) (pa_cons (pe_callB (k_isK (K := K) rfl) (by rfl) T.b_isinstance (by decide +kernel) (pa_cons (pv 4) (pa_cons (pe_glob (v := .ref (He.ga K "NotBehind")) rfl T.g_NotBehind rfl) pa_nil))) pa_nil)) (fun _ _ => rfl)) (pe_lst (pa_cons (pe_xk (K := K) rfl (pv 4)) pa_nil)))))))))), ?_⟩
  obtain ⟨r, s, sl, nds, td, zs, hs, e, l, n, o, _⟩ := g
  obtain ⟨I, hT, hz, _⟩ := hc
  replace ke : ∀ (p : Addr), Al [pt p o, Ob r (He.ga K "Roads") [("shelf", .ref s), ("stops", .ref sl)], pt sl (.lst (zs.map fun z => V.ref z.1)), StsA K zs, R] (Q (.ref p)) := fun p => ke (p, ()) trivial
  try dsimp only [cxOf]
  refine e_start (L := [Ob r (He.ga K "Roads") [("shelf", .ref s), ("stops", .ref sl)], pt sl (.lst (zs.map fun z => V.ref z.1)), StsA K zs, R]) (nx := fun _ H' => Q .non H') (rt := Q) (bk := fun _ _ => False) (ct := fun _ _ => False) [some (.ref r), some (.int e), some (.int l), some (.str n), none, none, none] rfl ?_
  rcases hT with ⟨i, j, w, u, v, rfl, rfl, hr, hr', hi, hj, rfl⟩ | ⟨i, j, w, w', rfl, rfl, hr, hr', hi, hj, hn, rfl⟩ | ⟨hi, rfl⟩ | ⟨i, a, x, rfl, hx, hl, rfl⟩
  · tb_start
    refine e_spL ?_
    refine use_bpaper (by tb_rel) (I) (hr) (hr') (hi) (hj) (hz) fun pq => ?_
    tb_start
    exact e_end (by tb_rel) (ke (pq))
  · tb_start
    refine e_spR ?_
    refine e_spR ?_
    refine e_spR ?_
    refine use_bpaperb (by tb_rel) (I) (hr) (hr') (hi) (hj) (hn) (fun hF => hF.elim) (fun c d M hx => ?_)
    obtain ⟨rfl, dd, rfl, rfl⟩ := hx
    simp only [List.cons_append, List.nil_append]
    refine e_note (B.x.base "NotBehind" (by decide)) fun ea => ?_
    dsimp only
    simp only [List.set_cons_zero, List.set_cons_succ]
    tb_start
    refine e_isKT (by tb_rel) (by tb_rel) (B.x.xc "NotBehind" (by decide)) (B.x.ve "NotBehind" (by decide)) ?_
    tb_start
    refine e_eqb (b' := false) (by decide) ?_
    tb_start
    refine e_isK (by tb_rel) (by tb_rel) (B.x.xc "NotBehind" (by decide)) (B.x.one "NotBehind" (by decide) "NoPlace" (by decide)) ?_
    tb_start
    refine e_isK (by tb_rel) (by tb_rel) (B.x.xc "NotBehind" (by decide)) (B.x.one "NotBehind" (by decide) "NotBehind" (by decide)) ?_
    tb_start
    refine e_eqb (b' := false) (by decide) ?_
    tb_start
    rename_i la lb
    obtain ⟨lo, rfl⟩ : ∃ y, y = p := ⟨p, rfl⟩
    refine e_isK (b := true) (by tb_rel) (by tb_rel) (B.x.xc "NotBehind" (by decide)) ((B.x.one "NotBehind" (by decide) "NotBehind" (by decide)).trans (by decide)) ?_
    tb_start
    refine e_xL (v := .ref lb) (by top_args) (by exact at1) ?_
    tb_start
    refine e_xk (by tb_rel) (by tb_rel) (B.x.xc "NotBehind" (by decide)) ?_
    tb_start
    change Al (pt p (.lst [.str "behind", .int i]) :: _) _
    exact e_end (by tb_rel) (ke (p))
  · tb_start
    refine e_spR ?_
    refine e_spL ?_
    refine use_bpaperx (by tb_rel) (hi) (fun hF => hF.elim) (fun c d M hx => ?_)
    obtain ⟨rfl, dd, rfl, rfl⟩ := hx
    simp only [List.cons_append, List.nil_append]
    refine e_note (B.x.base "NoPlace" (by decide)) fun ea => ?_
    dsimp only
    simp only [List.set_cons_zero, List.set_cons_succ]
    tb_start
    refine e_isKT (by tb_rel) (by tb_rel) (B.x.xc "NoPlace" (by decide)) (B.x.ve "NoPlace" (by decide)) ?_
    tb_start
    refine e_eqb (b' := false) (by decide) ?_
    tb_start
    refine e_isK (by tb_rel) (by tb_rel) (B.x.xc "NoPlace" (by decide)) (B.x.one "NoPlace" (by decide) "NoPlace" (by decide)) ?_
    tb_start
    refine e_isK (by tb_rel) (by tb_rel) (B.x.xc "NoPlace" (by decide)) (B.x.one "NoPlace" (by decide) "NotBehind" (by decide)) ?_
    tb_start
    refine e_eqb (b' := false) (by decide) ?_
    tb_start
    rename_i la lb
    obtain ⟨lo, rfl⟩ : ∃ y, y = p := ⟨p, rfl⟩
    refine e_isK (b := false) (by tb_rel) (by tb_rel) (B.x.xc "NoPlace" (by decide)) ((B.x.one "NoPlace" (by decide) "NotBehind" (by decide)).trans (by decide)) ?_
    tb_start
    refine e_xL (v := .ref la) (by top_args) (by exact at0) ?_
    tb_start
    refine e_xk (by tb_rel) (by tb_rel) (B.x.xc "NoPlace" (by decide)) ?_
    tb_start
    change Al (pt p (.lst [.str "place", .int e]) :: _) _
    exact e_end (by tb_rel) (ke (p))
  · tb_start
    refine e_spR ?_
    refine e_spR ?_
    refine e_spL ?_
    refine use_bpapery (by tb_rel) (hx) (hl) (fun hF => hF.elim) (fun c d M hx => ?_)
    obtain ⟨rfl, dd, rfl, rfl⟩ := hx
    simp only [List.cons_append, List.nil_append]
    refine e_note (B.x.base "NoPlace" (by decide)) fun ea => ?_
    dsimp only
    simp only [List.set_cons_zero, List.set_cons_succ]
    tb_start
    refine e_isKT (by tb_rel) (by tb_rel) (B.x.xc "NoPlace" (by decide)) (B.x.ve "NoPlace" (by decide)) ?_
    tb_start
    refine e_eqb (b' := false) (by decide) ?_
    tb_start
    refine e_isK (by tb_rel) (by tb_rel) (B.x.xc "NoPlace" (by decide)) (B.x.one "NoPlace" (by decide) "NoPlace" (by decide)) ?_
    tb_start
    refine e_isK (by tb_rel) (by tb_rel) (B.x.xc "NoPlace" (by decide)) (B.x.one "NoPlace" (by decide) "NotBehind" (by decide)) ?_
    tb_start
    refine e_eqb (b' := false) (by decide) ?_
    tb_start
    rename_i la lb
    obtain ⟨lo, rfl⟩ : ∃ y, y = p := ⟨p, rfl⟩
    refine e_isK (b := false) (by tb_rel) (by tb_rel) (B.x.xc "NoPlace" (by decide)) ((B.x.one "NoPlace" (by decide) "NotBehind" (by decide)).trans (by decide)) ?_
    tb_start
    refine e_xL (v := .ref la) (by top_args) (by exact at0) ?_
    tb_start
    refine e_xk (by tb_rel) (by tb_rel) (B.x.xc "NoPlace" (by decide)) ?_
    tb_start
    change Al (pt p (.lst [.str "place", .int l]) :: _) _
    exact e_end (by tb_rel) (ke (p))
theorem e_indexN {L : List Asn} {Q : VK} {K : PySem.W.Frag} {a : Addr} {ns : List Nat} {i : Nat} (h : Ldg L K a (ns.map fun j : Nat => V.int j)) (m : i ∈ ns) (k : Al L (Q (.int ((ns.idxOf i : Nat) : Int)))) : Al L (xM (rIndex K) (.ref a) [.int (i : Nat)] Q) := by
  have hlt := List.idxOf_lt_length_iff.mpr m
  refine e_indexV (j := ns.idxOf i) (z := .int (i : Nat)) h rfl (flat_ints _) (by rw [List.getElem?_map, List.getElem?_eq_getElem hlt, List.getElem_idxOf hlt]; rfl) (by show decide ((i : Int) = i) = true; simp) (fun q z' hq hz => ?_) k
  rw [List.getElem?_map, List.getElem?_eq_getElem (by omega)] at hz
  cases hz
  show decide (((ns[q]'(by omega) : Nat) : Int) = (i : Nat)) = false
  have := List.not_of_lt_findIdx (xs := ns) (p := fun x => x == i) (i := q) (by exact hq)
  exact decide_eq_false (fun e => by
    have e2 : (ns[q]'(by omega) : Nat) = i := by omega
    simp [e2] at this)
def behD (i : Nat) : PyData := .list [.str "behind", .int i]
theorem behD_shaped {i : Nat} : SeqAt.shaped (behD i) = true := Lo.shaped (.lst fun d hd => by
  simp only [List.mem_cons, List.not_mem_nil, or_false] at hd
  rcases hd with rfl | rfl
  · exact .str (by decide +kernel)
  · exact .int _) (Nat.le_trans (depth_lst (k := 0) fun d hd => by
  simp only [List.mem_cons, List.not_mem_nil, or_false] at hd
  rcases hd with rfl | rfl <;> exact Nat.le_refl 0) (by decide))
theorem LdD.two {L L0 : List Asn} {K : PySem.W.Frag} {p : Addr} {i : Nat} (r : Tk L (pt p (.lst [.str "behind", .int i])) L0) : LdD L K (.ref p) (behD i) := ⟨fun H s => .lst (SqL.of (r.pat s)) (.cons (.str _) (.cons (.int _) .nil))⟩
def tupN (ns : List Nat) : PyData := .tuple ((ns.map fun j : Nat => (j : Int)).map PyData.int)
theorem tupN_shaped {ns : List Nat} : SeqAt.shaped (tupN ns) = true := Lo.shaped (.tup fun d hd => by
  obtain ⟨k, _, rfl⟩ := List.mem_map.mp hd
  exact .int _) (Nat.le_trans (depth_tup (k := 0) fun d hd => by
  obtain ⟨k, _, rfl⟩ := List.mem_map.mp hd
  exact Nat.le_refl 0) (by decide))
theorem LdD.tupN {L L0 : List Asn} {K : PySem.W.Frag} {p : Addr} {ns : List Nat} (r : Tk L (pt p (.tup (ns.map fun j : Nat => V.int j))) L0) : LdD L K (.ref p) (My.tupN ns) := ⟨fun H s => .tup (SqT.of (r.pat s)) (by rw [nats_ints]; exact DpAll.ints _)⟩
def S_pright (K : PySem.W.Frag) : Tri where
  G := Addr × Addr × Addr × Addr × (List Nd) × (List Nat) × (List (Addr × Stp)) × (List Prs) × Nat × Nat × (List Nat) × (List Nat) × Str × Unit
  O := Unit
  args := fun (r, s, sl, pl, nds, td, zs, hs, i, j, w, w', n, _) => [.ref r, .ref pl, .int i, .int j, .str n]
  cond := fun (r, s, sl, pl, nds, td, zs, hs, i, j, w, w', n, _) => (RdOk nds td zs hs) ∧ (Rd zs i w) ∧ (Rd zs j w') ∧ (i < zs.length) ∧ (j < zs.length) ∧ (zs.length ≤ 1000) ∧ True
  pre := fun (r, s, sl, pl, nds, td, zs, hs, i, j, w, w', n, _) => [Ob r (He.ga K "Roads") [("shelf", .ref s), ("stops", .ref sl)], pt sl (.lst (zs.map fun z => V.ref z.1)), StsA K zs, LsA K pl (zs.map stD)]
  ok := fun (r, s, sl, pl, nds, td, zs, hs, i, j, w, w', n, _) _ => True
  res := fun (r, s, sl, pl, nds, td, zs, hs, i, j, w, w', n, _) _ => .bl true
  post := fun (r, s, sl, pl, nds, td, zs, hs, i, j, w, w', n, _) _ => [Ob r (He.ga K "Roads") [("shelf", .ref s), ("stops", .ref sl)], pt sl (.lst (zs.map fun z => V.ref z.1)), StsA K zs, LsA K pl (zs.map stD)]
theorem use_pright {K : PySem.W.Frag} {L R : List Asn} {Q : VK} {E : XK} {r : Addr} {s : Addr} {sl : Addr} {pl : Addr} {nds : List Nd} {td : List Nat} {zs : List (Addr × Stp)} {hs : List Prs} {i : Nat} {j : Nat} {w : List Nat} {w' : List Nat} {n : Str} (sTk : Tks L [Ob r (He.ga K "Roads") [("shelf", .ref s), ("stops", .ref sl)], pt sl (.lst (zs.map fun z => V.ref z.1)), StsA K zs, LsA K pl (zs.map stD)] R) (I : RdOk nds td zs hs) (hr : Rd zs i w) (hr' : Rd zs j w') (hi : i < zs.length) (hj : j < zs.length) (hz : zs.length ≤ 1000) (kk : Al (Ob r (He.ga K "Roads") [("shelf", .ref s), ("stops", .ref sl)] :: pt sl (.lst (zs.map fun z => V.ref z.1)) :: StsA K zs :: LsA K pl (zs.map stD) :: R) (Q (.bl true))) : Al L (xP (S_pright K).sp [.ref r, .ref pl, .int i, .int j, .str n] Q E) :=
  Tri.useT (S_pright K) (r, s, sl, pl, nds, td, zs, hs, i, j, w, w', n, ()) rfl ⟨I, hr, hr', hi, hj, hz, trivial⟩ sTk (fun _ _ => kk )
local macro_rules | `(tactic| kpt_turns) => `(tactic| ((with_reducible apply use_pright); tb_rel; (k_all); (k_all); (k_all); (k_all); (k_all); (k_all)))
abbrev N__law_paper_right : List Str := ["_law_roads", "_law_stops", "_law_early", "_law_late", "_law_name", "_law_road_here", "_law_found", "_law_due", "_law_place", "_law_one"]
theorem sc__law_paper_right : FnScope N__law_paper_right ["_law_roads", "_law_stops", "_law_early", "_law_late", "_law_name"] (defScope s__law_paper_right) := ⟨rfl, rfl, rfl, by decide +kernel, rfl, by decide +kernel, by decide +kernel⟩
theorem ok__law_paper_right (T : Fx K mg) (B : Bx K mg base) : FnG P w K mg base 9 (He.fAd K ("_law_paper_right", none)) ["_law_roads", "_law_stops", "_law_early", "_law_late", "_law_name"] (S_pright K).sp := by
  refine Tri.fnC (N := N__law_paper_right) (k := 8) (S_pright K) T.d__law_paper_right sc__law_paper_right (fun g => rfl) (fun _ _ _ _ _ _ us hl => match us, hl with | [_, _, _, _, _], _ => rfl) fun cdv A outer s H E Q g R hcd hr hc ke kx => ⟨_, PSs.nox ((pss_cons (ps_set (i := 5) sc__law_paper_right.nd rfl (.inl rfl) (ge_call (ok__law_road T B) hr.mono rfl T.g__law_road px0 (pa_cons (pv 1) (pa_cons (pv 3) pa_nil))))
    (pss_cons (ps_set (i := 6) sc__law_paper_right.nd rfl (.inl rfl) (ge_call (ok__law_told T B) hr.mono rfl T.g__law_told px0 (pa_cons (pv 0) (pa_cons (pv 2) (pa_cons (pv 3) (pa_cons (pv 4) pa_nil))))))
    (pss_cons (ps_if (pt_cmpR (q_notin (K := K) rfl hr.u65) (pv 2) (pv 5) (by rfl)) (pss_one (ps_ret (pe_cmpR (q_eq (K := K) rfl hr.u64) (pv 6) (pe_lst (pa_cons pe_str (pa_cons (pv 2) pa_nil))) (nomark _)))) pss_nil)
    (pss_cons (ps_setLc (i := 7) (own := [("_law_place", 8)]) rfl sc__law_paper_right.nd rfl rfl (sw_true rfl rfl rfl (by decide +kernel)) (qi_any (K := K) rfl (pe_slice (q_sl (K := K) rfl) (pv 5) (po_some (pe_op (q_add (K := K) rfl) (q_bm (K := K) rfl PySem.F.plainAttrs_list PySem.F.slot_list_index PySem.F.type_list_index (k_indexV (K := K) rfl) (pv 5) (pa_cons (pv 2) pa_nil)) pe_int)) po_none)) (blkOk_by (N := N__law_paper_right) (sc := defScope s__law_paper_right) (by decide +kernel)) (fun _ _ _ _ _ => (pg_name (i := 8) sc__law_paper_right.nd rfl (.inl rfl))) (fun _ _ _ _ _ => (pts_one (pt_cmpR (q_eq (K := K) rfl hr.u64) (pe_ix (q_ix (K := K) rfl hr.u1) (pe_ix (q_ix (K := K) rfl hr.u1) (pe_ix (q_ix (K := K) rfl hr.u1) (pv 1) (pv 8) (fun _ _ => rfl)) pe_int (fun _ _ => rfl)) pe_int (fun _ _ => rfl)) (pv 4) (nomark _)))) (fun _ _ _ _ _ => (pv 8)))
    (pss_one (ps_ret (pe_and (pe_callB (q_isi (K := K) rfl) (by rfl) T.b_isinstance (by decide +kernel) (pa_cons (pv 6) (pa_cons (q_ty (T := "tuple") (by rfl) T.b_tuple (by decide +kernel)) pa_nil))) (pe_and (pe_cmpR (q_eq (K := K) rfl hr.u64) (pv 6) (pe_callTy (q_tup (K := K) rfl) (by rfl) T.b_tuple (by decide +kernel) (pa_cons (pv 7) pa_nil)) (nomark _)) (pe_one (pe_not (pe_callB (q_any (K := K) rfl rfl) (by rfl) T.b_any (by decide +kernel) (pa_cons (pe_lc (own := [("_law_one", 9)]) rfl sc__law_paper_right.nd (qi_any (K := K) rfl (pv 6)) (blkOk_by (N := N__law_paper_right) (sc := defScope s__law_paper_right) (by decide +kernel)) (fun _ _ _ _ _ => (pg_name (i := 9) sc__law_paper_right.nd rfl (.inl rfl))) (fun _ _ _ _ _ => pts_nil) (fun _ _ _ _ _ => (pe_callB (q_isi (K := K) rfl) (by rfl) T.b_isinstance (by decide +kernel) (pa_cons (pv 9) (pa_cons (q_ty (T := "bool") (by rfl) T.b_bool (by decide +kernel)) pa_nil))))) pa_nil))))))))))))), ?_⟩
  obtain ⟨r, s, sl, pl, nds, td, zs, hs, i, j, w, w', n, _⟩ := g
  obtain ⟨I, hr, hr', hi, hj, hz, _⟩ := hc
  replace ke : Al [Ob r (He.ga K "Roads") [("shelf", .ref s), ("stops", .ref sl)], pt sl (.lst (zs.map fun z => V.ref z.1)), StsA K zs, LsA K pl (zs.map stD), R] (Q (.bl true)) := ke () trivial
  try dsimp only [cxOf]
  refine e_start (L := [Ob r (He.ga K "Roads") [("shelf", .ref s), ("stops", .ref sl)], pt sl (.lst (zs.map fun z => V.ref z.1)), StsA K zs, LsA K pl (zs.map stD), R]) (nx := fun _ H' => Q .non H') (rt := Q) (bk := fun _ _ => False) (ct := fun _ _ => False) [some (.ref r), some (.ref pl), some (.int i), some (.int j), some (.str n), none, none, none, none, none] rfl ?_
  have hzz : zs.length ≤ 100000 := by omega
  have hwl := hr'.len
  tb_start
  refine use_lroad (by tb_rel) hr' hj hzz fun fr => ?_
  tb_start
  by_cases m : i ∈ w'
  · obtain ⟨u, v, e⟩ := List.append_of_mem m
    subst e
    refine use_ltold (o := .tup ((v.filter (hasN zs n)).map fun j : Nat => V.int j)) (by tb_rel) I (.inl ⟨i, j, w, u, v, rfl, rfl, hr, hr', hi, hj, rfl⟩) hz fun pf => ?_
    tb_start
    refine e_notinL (by top_args) rfl (flat_ints _) ?_
    rw [inV_nats]
    tb_start
    refine e_eqb (b' := false) (by simp) ?_
    tb_start
    refine e_indexN (by top_args) m ?_
    tb_start
    refine e_slL (by top_args) fun c => ?_
    rw [show cutV ((u ++ i :: v).map fun j : Nat => V.int j) (some (((u ++ i :: v).idxOf i : Nat) + 1)) none = v.map fun j : Nat => V.int j from by rw [show (((u ++ i :: v).idxOf i : Nat) : Int) + 1 = (((u ++ i :: v).idxOf i + 1 : Nat) : Int) by omega, cutV_drop (by rw [List.length_map]; exact List.idxOf_lt_length_iff.mpr m), ← List.map_drop, (idx_split rfl (Rd.nodup hr')).2]]
    have hvl : v.length ≤ 1000 := by rw [List.length_append, List.length_cons] at hwl; omega
    tb_start
    refine e_lcL (by tb_rel) (fun k acc M => acc = ((v.take k).filter (hasN zs n)).map (fun j : Nat => V.int j) ∧ M = [pt c (.lst (v.map fun j : Nat => V.int j)), pt pf (.tup ((v.filter (hasN zs n)).map fun j : Nat => V.int j)), Ob r (He.ga K "Roads") [("shelf", .ref s), ("stops", .ref sl)], pt sl (.lst (zs.map fun z => V.ref z.1)), StsA K zs, LsA K pl (zs.map stD), R]) ⟨_, ⟨rfl, rfl⟩, .ofT (by tb_rel)⟩ (by rintro k acc M ⟨_, rfl⟩; top_args) (fun k x acc M D hx hI => ?_) (fun acc M D hI => ?_)
    · obtain ⟨rfl, rfl⟩ := hI
      obtain ⟨c1, hc, rfl⟩ : ∃ c1, v[k]? = some c1 ∧ x = V.int (c1 : Nat) := by
        rw [List.getElem?_map] at hx
        cases e : v[k]? with
        | none => rw [e] at hx; cases hx
        | some y => rw [e] at hx; cases hx; exact ⟨y, rfl, rfl⟩
      have hkl : k < v.length := (List.getElem?_eq_some_iff.mp hc).1
      have hcm := List.mem_of_getElem? hc
      have hup := hr'.up
      rw [List.pairwise_append, List.pairwise_cons] at hup
      have hci := hup.2.1.1 c1 hcm
      obtain ⟨c2, rfl⟩ : ∃ c2, c1 = c2 + 1 := ⟨c1 - 1, by omega⟩
      obtain ⟨⟨a1, x1⟩, h1⟩ : ∃ z, zs[c2 + 1]? = some z := ⟨_, List.getElem?_eq_getElem (hr'.lt hj _ (List.mem_append.mpr (.inr (List.mem_cons_of_mem _ hcm))))⟩
      obtain ⟨b, mm, ov, a', y, h', q1, q2, q3, q4, q5, q6, q7, q8, q9⟩ := I.st _ _ _ h1
      have hN : hasN zs n (c2 + 1) = decide (mm = n) := by rw [hasN_at h1]; unfold isOf; rw [q3]
      have hfl : ((v.take k).filter (hasN zs n)).length ≤ 1000 := Nat.le_trans (List.length_filter_le ..) (by rw [List.length_take]; omega)
      have hst : (v.take (k + 1)).filter (hasN zs n) = (v.take k).filter (hasN zs n) ++ if hasN zs n (c2 + 1) = true then [c2 + 1] else [] := by
        rw [take_step hc, List.filter_append, List.filter_cons]
        by_cases m : hasN zs n (c2 + 1) = true
        · rw [if_pos m, if_pos m]; rfl
        · rw [if_neg m, if_neg m]; rfl
      obtain ⟨bf, mo, fa, ta, mr⟩ := x1
      dsimp only at q3
      subst q3
      have hstd : (zs.map stD)[c2 + 1]? = some (stD (a1, ⟨bf, some (mm, ov), fa, ta, mr⟩)) := by rw [List.getElem?_map, h1]; rfl
      tb_start
      refine e_lsx (by tb_rel) hstd fun v1 => ?_
      refine Fz.row (b := bf) (m := some (mm, ov)) fun t1 mv e => ?_
      subst e
      tb_start
      rcases ov with _ | vv
      · refine Al.tk (A := Fz K mv (mvD (some (mm, none)))) (by tb_rel) (Fz.move2 fun t0 e => ?_)
        subst e
        tb_start
        rw [← hN]
        refine e_ifb ?_ ?_ <;> intro m2 <;> (try simp only [decide_eq_true_eq, decide_eq_false_iff_not, Bool.not_eq_true', Bool.not_eq_false', Bool.and_eq_true, Bool.or_eq_true, Bool.and_eq_false_iff, Bool.or_eq_false_iff, Bool.false_or, Bool.true_and, Bool.or_false, Bool.and_true, Bool.not_true, Bool.not_false, true_and, and_true, or_false, false_or, Bool.false_eq_true, Bool.true_eq_false, not_and, Bool.not_not] at m2)
        · tb_start
          exact e_lcA (by tb_rel) (by rw [List.length_map, sizeLine_eq]; omega) ⟨by rw [hst, if_pos m2, List.map_append]; rfl, rfl⟩ (by tb_rel)
        · tb_start
          exact e_lcN (by tb_rel) ⟨by rw [hst, if_neg (by rw [m2]; decide), List.append_nil], rfl⟩ (by tb_rel)
      · refine Al.tk (A := Fz K mv (mvD (some (mm, some vv)))) (by tb_rel) (Fz.move3 (q5 vv rfl).scl fun t0 e => ?_)
        subst e
        tb_start
        rw [← hN]
        refine e_ifb ?_ ?_ <;> intro m2 <;> (try simp only [decide_eq_true_eq, decide_eq_false_iff_not, Bool.not_eq_true', Bool.not_eq_false', Bool.and_eq_true, Bool.or_eq_true, Bool.and_eq_false_iff, Bool.or_eq_false_iff, Bool.false_or, Bool.true_and, Bool.or_false, Bool.and_true, Bool.not_true, Bool.not_false, true_and, and_true, or_false, false_or, Bool.false_eq_true, Bool.true_eq_false, not_and, Bool.not_not] at m2)
        · tb_start
          exact e_lcA (by tb_rel) (by rw [List.length_map, sizeLine_eq]; omega) ⟨by rw [hst, if_pos m2, List.map_append]; rfl, rfl⟩ (by tb_rel)
        · tb_start
          exact e_lcN (by tb_rel) ⟨by rw [hst, if_neg (by rw [m2]; decide), List.append_nil], rfl⟩ (by tb_rel)
    · obtain ⟨rfl, rfl⟩ := hI
      rw [List.length_map, List.take_length]
      tb_start
      refine e_isi_t (LdD.tupN (p := pf) (by tb_rel)) ?_
      tb_start
      obtain ⟨pg, rfl⟩ : ∃ y, y = p := ⟨p, rfl⟩
      refine e_eqD (b := true) (LdD.tupN (p := pf) (by tb_rel)) (LdD.tupN (p := pg) (by tb_rel)) tupN_shaped tupN_shaped ?_
      rw [eqv_self tupN_shaped]
      tb_start
      have hvf : (v.filter (hasN zs n)).length ≤ 1000 := Nat.le_trans (List.length_filter_le ..) hvl
      refine e_lcT (by tb_rel) (Pure (fun _ => .bl false) _) ⟨_, ⟨rfl, rfl⟩, .refl⟩ (by rintro _ _ _ ⟨_, rfl⟩; top_args) (fun k x acc M D hx hI => ?_) (fun acc M D hI => ?_) <;> obtain ⟨eacc, eM⟩ := hI <;> subst eacc eM
      · have hk : k < 1000 := by have := (List.getElem?_eq_some_iff.mp hx).1; rw [List.length_map] at this; omega
        rw [List.getElem?_map] at hx
        obtain ⟨c9, rfl⟩ : ∃ c9 : Nat, x = V.int (c9 : Nat) := by
          cases e : (v.filter (hasN zs n))[k]? with
          | none => rw [e] at hx; cases hx
          | some y => rw [e] at hx; cases hx; exact ⟨y, rfl⟩
        tb_start
        exact e_lcP (by tb_rel) (by k_all) rfl (by tb_rel)
      refine e_anyP (f := fun _ => false) (by tb_rel) ?_
      tb_start
      refine e_eqv (v' := .bl true) (by simp) ?_
      exact e_end (by tb_rel) (ke)
  · refine use_ltold (o := .lst [.str "behind", .int i]) (by tb_rel) I (.inr (.inl ⟨i, j, w, w', rfl, rfl, hr, hr', hi, hj, m, rfl⟩)) hz fun pf => ?_
    tb_start
    refine e_notinL (by top_args) rfl (flat_ints _) ?_
    rw [inV_nats]
    tb_start
    refine e_eqb (b' := true) (by simp [m]) ?_
    tb_start
    refine e_eqD (b := true) (LdD.two (i := i) (p := pf) (by tb_rel)) (LdD.two (i := i) (by tb_rel)) behD_shaped behD_shaped ?_
    refine e_eqv (v' := .bl true) (by rw [eqv_self behD_shaped]) ?_
    exact e_end (by tb_rel) (ke)
end

section
variable {P : Program} {w : World} {K : PySem.W.Frag} {mg : Str → Option Value} {base : Heap}
local macro_rules | `(tactic| kpt_turns) => `(tactic| ((with_reducible apply use_cell); tb_rel))
local macro_rules | `(tactic| kpt_turns) => `(tactic| ((with_reducible apply use_mark); tb_rel; (k_all); (k_all)))
local macro_rules | `(tactic| kpt_turns) => `(tactic| ((with_reducible apply use_digit); tb_rel; (k_all)))
local macro_rules | `(tactic| kpt_turns) => `(tactic| ((with_reducible apply use_isleaf); tb_rel))
local macro_rules | `(tactic| kpt_turns) => `(tactic| ((with_reducible apply use_isfork); tb_rel))
local macro_rules | `(tactic| kpt_turns) => `(tactic| ((with_reducible apply use_ninit); tb_rel))
local macro_rules | `(tactic| kpt_turns) => `(tactic| ((with_reducible apply use_nmany); tb_rel))
local macro_rules | `(tactic| kpt_turns) => `(tactic| ((with_reducible apply use_nmake); tb_rel; (k_all)))
local macro_rules | `(tactic| kpt_turns) => `(tactic| ((with_reducible apply use_nleaf); tb_rel; (k_all)))
local macro_rules | `(tactic| kpt_turns) => `(tactic| ((with_reducible apply use_nfork); tb_rel; (k_all)))
local macro_rules | `(tactic| kpt_turns) => `(tactic| ((with_reducible apply use_valuein); tb_rel))
local macro_rules | `(tactic| kpt_turns) => `(tactic| ((with_reducible apply use_alike); tb_rel; (k_all); (k_all)))
local macro_rules | `(tactic| kpt_turns) => `(tactic| ((with_reducible apply use_sinit); tb_rel))
local macro_rules | `(tactic| kpt_turns) => `(tactic| ((with_reducible apply use_look); tb_rel; (k_all)))
local macro_rules | `(tactic| kpt_turns) => `(tactic| ((with_reducible apply use_tell); tb_rel; (k_all)))
local macro_rules | `(tactic| kpt_turns) => `(tactic| ((with_reducible apply use_empty); tb_rel))
local macro_rules | `(tactic| kpt_turns) => `(tactic| ((with_reducible apply use_looked); tb_rel; (k_all); (k_all)))
local macro_rules | `(tactic| kpt_turns) => `(tactic| ((with_reducible apply use_parted); tb_rel; (k_all); (k_all); (k_all); (k_all); (k_all); (k_all); (k_all)))
local macro_rules | `(tactic| kpt_turns) => `(tactic| ((with_reducible apply use_putat); tb_rel; (k_all); (k_all); (k_all); (k_all); (k_all); (k_all); (k_all); (k_all); (k_all)))
local macro_rules | `(tactic| kpt_turns) => `(tactic| ((with_reducible apply use_put); tb_rel; (k_all); (k_all); (k_all); (k_all); (k_all); (k_all); (k_all); (k_all)))
local macro_rules | `(tactic| kpt_turns) => `(tactic| ((with_reducible apply use_lone); tb_rel; (k_all)))
local macro_rules | `(tactic| kpt_turns) => `(tactic| ((with_reducible apply use_leftat); tb_rel; (k_all); (k_all); (k_all); (k_all); (k_all); (k_all); (k_all); (k_all)))
local macro_rules | `(tactic| kpt_turns) => `(tactic| ((with_reducible apply use_without); tb_rel; (k_all); (k_all); (k_all); (k_all); (k_all); (k_all); (k_all)))
local macro_rules | `(tactic| kpt_turns) => `(tactic| ((with_reducible apply use_made); tb_rel))
local macro_rules | `(tactic| kpt_turns) => `(tactic| first | ((with_reducible apply e_stmeth); tb_rel; assumption; (intro _; rfl)) | ((with_reducible apply e_stf); tb_rel; assumption; kd_mem; kd_in; (intro _; rfl)))
local macro_rules | `(tactic| kpt_turns) => `(tactic| ((with_reducible apply use_stinit); tb_rel))
local macro_rules | `(tactic| kpt_turns) => `(tactic| ((with_reducible apply use_stopat); tb_rel; (k_all)))
local macro_rules | `(tactic| kpt_turns) => `(tactic| ((with_reducible apply use_tbehind); tb_rel; (k_all); (k_all); (k_all); (k_all); (k_all); (k_all); (k_all); (k_all)))
local macro_rules | `(tactic| kpt_turns) => `(tactic| ((with_reducible apply use_places); tb_rel))
local macro_rules | `(tactic| kpt_turns) => `(tactic| ((with_reducible apply use_meeting); tb_rel; (k_all); (k_all); (k_all); (k_all); (k_all)))
local macro_rules | `(tactic| kpt_turns) => `(tactic| ((with_reducible apply use_issof); tb_rel; (k_all)))
local macro_rules | `(tactic| kpt_turns) => `(tactic| ((with_reducible apply use_pright); tb_rel; (k_all); (k_all); (k_all); (k_all); (k_all); (k_all)))
def plD (i : Int) : PyData := .list [.str "place", .int i]
theorem plD_shaped {i : Int} : SeqAt.shaped (plD i) = true := Lo.shaped (.lst fun d hd => by
  simp only [List.mem_cons, List.not_mem_nil, or_false] at hd
  rcases hd with rfl | rfl
  · exact .str (by decide +kernel)
  · exact .int _) (Nat.le_trans (depth_lst (k := 0) fun d hd => by
  simp only [List.mem_cons, List.not_mem_nil, or_false] at hd
  rcases hd with rfl | rfl <;> exact Nat.le_refl 0) (by decide))
theorem LdD.twoI {L L0 : List Asn} {K : PySem.W.Frag} {p : Addr} {i : Int} (r : Tk L (pt p (.lst [.str "place", .int i])) L0) : LdD L K (.ref p) (plD i) := ⟨fun H s => .lst (SqL.of (r.pat s)) (.cons (.str _) (.cons (.int _) .nil))⟩
def S_right (K : PySem.W.Frag) : Tri where
  G := Addr × Unit
  O := Unit
  args := fun (b, _) => [.ref b]
  cond := fun (b, _) => True
  pre := fun (b, _) => [Box b 0, TbW K]
  ok := fun (b, _) _ => True
  res := fun (b, _) _ => .bl true
  post := fun (b, _) _ => [TbW K]
theorem use_right {K : PySem.W.Frag} {L R : List Asn} {Q : VK} {E : XK} {b : Addr} (sTk : Tks L [Box b 0, TbW K] R)  (kk : Al (TbW K :: R) (Q (.bl true))) : Al L (xP (S_right K).sp [.ref b] Q E) :=
  Tri.useT (S_right K) (b, ()) rfl trivial sTk (fun _ _ => kk )
local macro_rules | `(tactic| kpt_turns) => `(tactic| ((with_reducible apply use_right); tb_rel))
abbrev N__law_right : List Str := ["_law_box_here", "_law_names_here", "_law_values_here", "_law_roads", "_law_stops", "_law_turn", "_law_late", "_law_road_here", "_law_early", "_law_last", "_law_due", "_law_name"]
theorem sc__law_right : FnScope N__law_right ["_law_box_here"] (defScope s__law_right) := ⟨rfl, rfl, rfl, by decide +kernel, rfl, by decide +kernel, by decide +kernel⟩
theorem ok__law_right (T : Fx K mg) (B : Bx K mg base) : FnG P w K mg base 26 (He.fAd K ("_law_right", none)) ["_law_box_here"] (S_right K).sp := by
  refine Tri.fnC (N := N__law_right) (k := 25) (S_right K) T.d__law_right sc__law_right (fun g => rfl) (fun _ _ _ _ _ _ us hl => match us, hl with | [_], _ => rfl) fun cdv A outer s H E Q g R hcd hr hc ke kx => ⟨_, PSs.nox ((pss_cons (ps_par (i := 1) (j := 2) (by rfl) sc__law_right.nd rfl rfl (by decide) rfl rfl (pa_cons (ge_call (ok__law_pool T B) hr.mono rfl T.g__law_pool px0 (pa_cons (pv 0) (pa_cons (pe_op (q_add (K := K) rfl) pe_int (ge_call (ok__law_take T B) hr.mono rfl T.g__law_take px0 (pa_cons (pv 0) (pa_cons pe_int pa_nil)))) pa_nil))) (pa_cons (ge_call (ok__law_values T B) hr.mono rfl T.g__law_values px0 (pa_cons (pv 0) pa_nil)) pa_nil)) (by rfl))
    (pss_cons (ps_set (i := 2) sc__law_right.nd rfl (.inl rfl) (pe_op (q_add (K := K) rfl) (pv 2) (pe_lst (pa_cons (pe_ix (q_ix (K := K) rfl hr.u1) (pv 1) pe_int (fun _ _ => rfl)) (pa_cons (pe_ix (q_ix (K := K) rfl hr.u1) (pv 1) (pe_un un_neg pe_int) (fun _ _ => rfl)) (pa_cons pe_str (pa_cons pe_str pa_nil)))))))
    (pss_cons (ps_asg (pe_tup (pa_cons (ge_make0 T.m_Roads (ok_Roads__init_ T B) hr.mono rfl T.g_Roads px0) (pa_cons (pe_lst (pa_cons (pe_tup (pa_cons pe_non (pa_cons pe_non pa_nil))) pa_nil)) pa_nil))) (qg_tup (K := K) (n := 2) rfl rfl (pgs_cons (pg_name (i := 3) sc__law_right.nd rfl (.inr rfl)) (pgs_cons (pg_name (i := 4) sc__law_right.nd rfl (.inr rfl)) pgs_nil))))
    (pss_cons (ps_for PassesOwn.never rfl (pi_range1 (by rfl) T.b_range (pa_cons (ge_call (ok__law_take T B) hr.mono rfl T.g__law_take px0 (pa_cons (pv 0) (pa_cons pe_int pa_nil))) pa_nil)) (pg_name (i := 5) sc__law_right.nd rfl (.inl rfl)) (pss_cons (ps_if (pt_not (pt_val (ge_call (ok__law_grown T B) hr.mono rfl T.g__law_grown px0 (pa_cons (pv 3) (pa_cons (pv 4) (pa_cons (ge_call (ok__law_from T B) hr.mono rfl T.g__law_from px0 (pa_cons (pv 0) (pa_cons (pv 4) pa_nil))) (pa_cons (ge_call (ok__law_step T B) hr.mono rfl T.g__law_step px0 (pa_cons (pv 0) (pa_cons (pe_slice (q_sl (K := K) rfl) (pv 1) (po_some pe_int) po_none) (pa_cons (pv 2) pa_nil)))) pa_nil))))))) (pss_one (ps_ret pe_bl)) pss_nil)
    (pss_cons (ps_set (i := 6) sc__law_right.nd rfl (.inl rfl) (ge_call (ok__law_take T B) hr.mono rfl T.g__law_take px0 (pa_cons (pv 0) (pa_cons (pe_callB (q_len (K := K) rfl) (by rfl) T.b_len (by decide +kernel) (pa_cons (pv 4) pa_nil)) pa_nil))))
    (pss_cons (ps_set (i := 7) sc__law_right.nd rfl (.inl rfl) (ge_call (ok__law_road T B) hr.mono rfl T.g__law_road px0 (pa_cons (pv 4) (pa_cons (pv 6) pa_nil))))
    (pss_one (ps_for PassesOwn.never rfl (qi_any (K := K) rfl (pe_lst (pa_cons (ge_call (ok__law_take T B) hr.mono rfl T.g__law_take px0 (pa_cons (pv 0) (pa_cons (pe_callB (q_len (K := K) rfl) (by rfl) T.b_len (by decide +kernel) (pa_cons (pv 4) pa_nil)) pa_nil))) (pa_cons (pe_ix (q_ix (K := K) rfl hr.u1) (pv 7) (ge_call (ok__law_take T B) hr.mono rfl T.g__law_take px0 (pa_cons (pv 0) (pa_cons (pe_callB (q_len (K := K) rfl) (by rfl) T.b_len (by decide +kernel) (pa_cons (pv 7) pa_nil)) pa_nil))) (fun _ _ => rfl)) (pa_cons (pv 6) (pa_cons pe_int pa_nil)))))) (pg_name (i := 8) sc__law_right.nd rfl (.inl rfl)) (pss_one (ps_if (pt_not (pt_val (ge_call (ok__law_paper_right T B) hr.mono rfl T.g__law_paper_right px0 (pa_cons (pv 3) (pa_cons (pv 4) (pa_cons (pv 8) (pa_cons (pv 6) (pa_cons (pe_ix (q_ix (K := K) rfl hr.u1) (pv 1) (ge_call (ok__law_take T B) hr.mono rfl T.g__law_take px0 (pa_cons (pv 0) (pa_cons (pe_callB (q_len (K := K) rfl) (by rfl) T.b_len (by decide +kernel) (pa_cons (pv 1) pa_nil)) pa_nil))) (fun _ _ => rfl)) pa_nil)))))))) (pss_one (ps_ret pe_bl)) pss_nil))))))))
    (pss_cons (ps_set (i := 9) sc__law_right.nd rfl (.inr rfl) (pe_op o_sub (pe_callB (q_len (K := K) rfl) (by rfl) T.b_len (by decide +kernel) (pa_cons (pv 4) pa_nil)) pe_int))
    (pss_cons (ps_for PassesOwn.never rfl (qi_any (K := K) rfl (pe_lst (pa_cons (pe_tup (pa_cons (pe_un un_neg pe_int) (pa_cons (pv 9) (pa_cons (pe_un un_neg pe_int) pa_nil)))) (pa_cons (pe_tup (pa_cons (pv 9) (pa_cons (pe_op (q_add (K := K) rfl) (pv 9) pe_int) (pa_cons (pe_op (q_add (K := K) rfl) (pv 9) pe_int) pa_nil)))) (pa_cons (pe_tup (pa_cons (pe_op (q_add (K := K) rfl) (pv 9) pe_int) (pa_cons (pe_un un_neg pe_int) (pa_cons (pe_op (q_add (K := K) rfl) (pv 9) pe_int) pa_nil)))) pa_nil))))) (qg_tup (K := K) (n := 3) rfl rfl (pgs_cons (pg_name (i := 8) sc__law_right.nd rfl (.inl rfl)) (pgs_cons (pg_name (i := 6) sc__law_right.nd rfl (.inl rfl)) (pgs_cons (pg_name (i := 10) sc__law_right.nd rfl (.inl rfl)) pgs_nil)))) (pss_one (ps_if (pt_cmpR (q_ne (K := K) rfl hr.u64) (ge_call (ok__law_told T B) hr.mono rfl T.g__law_told px0 (pa_cons (pv 3) (pa_cons (pv 8) (pa_cons (pv 6) (pa_cons (pe_ix (q_ix (K := K) rfl hr.u1) (pv 1) pe_int (fun _ _ => rfl)) pa_nil))))) (pe_lst (pa_cons pe_str (pa_cons (pv 10) pa_nil))) (nomark _)) (pss_one (ps_ret pe_bl)) pss_nil)))
    (pss_cons (ps_if (pt_not (pt_val (pe_callB (q_all (K := K) rfl rfl) (by rfl) T.b_all (by decide +kernel) (pa_cons (pe_lc (own := [("_law_name", 11)]) rfl sc__law_right.nd (qi_any (K := K) rfl (pv 1)) (blkOk_by (N := N__law_right) (sc := defScope s__law_right) (by decide +kernel)) (fun _ _ _ _ _ => (pg_name (i := 11) sc__law_right.nd rfl (.inl rfl))) (fun _ _ _ _ _ => pts_nil) (fun _ _ _ _ _ => (ge_call (ok__law_paper_right T B) hr.mono rfl T.g__law_paper_right px0 (pa_cons (pv 3) (pa_cons (pv 4) (pa_cons pe_int (pa_cons (pv 9) (pa_cons (pv 11) pa_nil)))))))) pa_nil)))) (pss_one (ps_ret pe_bl)) pss_nil)
    (pss_one (ps_ret (pe_cmpR (q_eq (K := K) rfl hr.u64) (ge_meth0 (pv 3) T.c_Roads T.t_Roads_places (ok_Roads_places T B) hr.mono px0) (pe_callB (q_len (K := K) rfl) (by rfl) T.b_len (by decide +kernel) (pa_cons (pv 4) pa_nil)) (nomark _)))))))))))), ?_⟩
  obtain ⟨b, _⟩ := g
  replace ke : Al [TbW K, R] (Q (.bl true)) := ke () trivial
  try dsimp only [cxOf]
  refine e_start (L := [Box b 0, TbW K, R]) (nx := fun _ H' => Q .non H') (rt := Q) (bk := fun _ _ => False) (ct := fun _ _ => False) [some (.ref b), none, none, none, none, none, none, none, none, none, none, none] rfl ?_
  tb_start
  refine use_take (by tb_rel) (by omega) (by decide) (by decide) fun o o1 o2 => ?_
  tb_start
  obtain ⟨m, rfl⟩ : ∃ j : Nat, o = j := ⟨o.toNat, by omega⟩
  rw [show (2 : Int) + (m : Int) = ((2 + m : Nat) : Int) by omega]
  refine use_pool (by tb_rel) (by omega) (by omega) (by omega) fun pn ws hw hwl hw1 hd => ?_
  tb_start
  refine use_values (by tb_rel) (by omega) fun pv0 vs hv hvl => ?_
  tb_start
  obtain ⟨n0, hn0⟩ : ∃ z, ws[0]? = some z := ⟨_, List.getElem?_eq_getElem (by omega)⟩
  obtain ⟨ws', nl, ews⟩ : ∃ ws' nl, ws = ws' ++ [nl] := ⟨ws.dropLast, ws.getLast (fun e => by rw [e] at hw1; simp at hw1), (List.dropLast_concat_getLast _).symm⟩
  have hm0 := hw n0 (List.mem_of_getElem? hn0)
  have hml := hw nl (by rw [ews]; exact List.mem_append.mpr (.inr (List.mem_singleton.mpr rfl)))
  refine e_xL (by top_args) (atI_nat (j := 0) (v := .str n0) (by rw [List.getElem?_map, hn0]; rfl)) ?_
  tb_start
  refine e_xL (v := .str nl) (by top_args) (by rw [ews, List.map_append]; exact atI_last) ?_
  clear ews
  tb_start
  rename_i l4 pv
  obtain ⟨r, rfl⟩ : ∃ y, y = p := ⟨p, rfl⟩
  refine use_rinit (by tb_rel) fun s sl nn dd a0 => ?_
  tb_start
  rename_i tq pl
  refine LsA.fold (K := K) (a := pl) (ds := [(a0, Stp.zero)].map stD) (by tb_rel) (.cons (.tup (by tb_rel) (.cons .non (.cons .non .nil))) .nil) ?_
  have hvs : ∀ v ∈ vs ++ [V.str n0, V.str nl, V.str "set", V.str "clear"], Vok v := fun v hv2 => by
    rcases List.mem_append.mp hv2 with m | m
    · exact hv v m
    · simp only [List.mem_cons, List.not_mem_nil, or_false] at m
      rcases m with rfl | rfl | rfl | rfl
      · exact hm0.vok
      · exact hml.vok
      · exact Vok.lit (by decide +kernel)
      · exact Vok.lit (by decide +kernel)
  have hvsl : (vs ++ [V.str n0, V.str nl, V.str "set", V.str "clear"]).length = 9 := by rw [List.length_append, hvl]; rfl
  generalize vs ++ [V.str n0, V.str nl, V.str "set", V.str "clear"] = vs2 at hvs hvsl ⊢
  refine use_take (by tb_rel) (by omega) (by decide) (by decide) fun q h3 h4 => ?_
  tb_start
  refine e_forR0 (fun t σ M => ∃ (nds : List Nd) (td : List Nat) (zs : List (Addr × Stp)) (hs : List Prs) (oA_0 oA_1 oA_2 oA_3 oA_4 oA_5 : Option V), ((RdOk nds td zs hs) ∧ (nds[0]? = some Nd.bare) ∧ (zs.length = t + 1) ∧ (nds.length ≤ 1 + 7 * t) ∧ (td.length ≤ 1 + t) ∧ (∀ h ∈ hs, h.length ≤ t) ∧ True) ∧ σ = [some (.ref b), some (.ref pn), some (.ref pv), some (.ref r), some (.ref pl), oA_0, oA_1, oA_2, oA_3, oA_4, oA_5, none] ∧ M = [Box b (1000 + 20 * t), Ob r (He.ga K "Roads") [("shelf", .ref s), ("stops", .ref sl)], pt sl (.lst ((zs).map fun z => V.ref z.1)), StsA K (zs), Ob s (He.ga K "Store") [("nodes", .ref nn), ("told", .ref dd)], NodesA K nn (nds), pt dd (.dK (toldK (td))), LsA K pl (zs.map stD), pt pn (.lst (ws.map V.str)), pt pv (.lst vs2), TbW K, R]) ⟨_, ⟨[.bare], [0], [(a0, Stp.zero)], [[]], _, _, _, _, _, _, ⟨(RdOk.zero), (rfl), (rfl), (by k_all), (by k_all), ((fun h hh => by rw [List.mem_singleton.mp hh]; exact Nat.le_refl _)), trivial⟩, rfl, rfl⟩, .ofT (by tb_rel)⟩ (fun t σ M hi hI => ?_) (fun σ M hI => ?_) <;> obtain ⟨nds, td, zs, hs, oA_0, oA_1, oA_2, oA_3, oA_4, oA_5, ⟨I, h0, hzl, hnl, htl, hhl, _⟩, eσ, eM⟩ := hI <;> subst eσ eM
  · have ht : t < 61 := by omega
    have hzm : (zs.map stD).length = t + 1 := by rw [List.length_map]; exact hzl
    tb_start
    refine use_from (by tb_rel) (by omega) (by omega) (by omega) fun i hi => ?_
    tb_start
    refine e_slL (by top_args) fun pn1 => ?_
    rw [show cutV (ws.map V.str) (some 1) none = (ws.drop 1).map V.str from by rw [show (1 : Int) = ((1 : Nat) : Int) from rfl, cutV_drop (by rw [List.length_map]; omega), List.map_drop]]
    tb_start
    refine use_step (by tb_rel) (by omega) (fun z hz => hw z (List.mem_of_mem_drop hz)) (by rw [List.length_drop]; omega) (by rw [List.length_drop]; omega) hvs (by omega) (by omega) fun tm nm ov hm hov => ?_
    have hn8 := hw nm (List.mem_of_mem_drop hm)
    obtain ⟨⟨a1, y⟩, hx⟩ : ∃ z, zs[i]? = some z := ⟨_, List.getElem?_eq_getElem (by omega)⟩
    obtain ⟨h, hh⟩ : ∃ z, hs[i]? = some z := ⟨_, List.getElem?_eq_getElem (by rw [I.len]; omega)⟩
    have hvo : ∀ v, ov = some v → Vok v := fun v e => hvs v (hov v e)
    have hhl1 := hhl h (List.mem_of_getElem? hh)
    tb_start
    refine use_grown (by tb_rel) I h0 hx hh hn8 hvo (by omega) (by omega) (by omega) (by omega) fun a' => ?_
    obtain ⟨I2, A2⟩ := I.go h0 hx hh hn8 hvo a'
    have h02 := A2.zero h0
    have hA := A2.a
    have hB := A2.b
    dsimp only at hA hB h02
    have hhl2 : ∀ g ∈ hs ++ [stepH h (nm, ov)], g.length ≤ t + 1 := fun g hg => by
      rcases List.mem_append.mp hg with m | m
      · exact Nat.le_succ_of_le (hhl g m)
      · rw [List.mem_singleton.mp m]; exact Nat.le_trans stepH_len (Nat.succ_le_succ hhl1)
    have hnl2 : (stepS (nds, td) y.tab (AL.srt h) (nm, ov)).1.1.length ≤ 1 + 7 * (t + 1) := by omega
    have htl2 : (stepS (nds, td) y.tab (AL.srt h) (nm, ov)).1.2.length ≤ 1 + (t + 1) := by omega
    generalize (stepS (nds, td) y.tab (AL.srt h) (nm, ov)).1.1 = nds2 at I2 h02 hnl2 ⊢
    generalize (stepS (nds, td) y.tab (AL.srt h) (nm, ov)).1.2 = td2 at I2 htl2 ⊢
    have hzl2 : (zs ++ [(a', newStp (nds, td) i y h (nm, ov))]).length = t + 2 := by rw [List.length_append, hzl]; rfl
    generalize zs ++ [(a', newStp (nds, td) i y h (nm, ov))] = zs2 at I2 hzl2 ⊢
    generalize hs ++ [stepH h (nm, ov)] = hs2 at I2 hhl2
    clear A2 hA hB hx hh hhl1
    have hzm2 : (zs2.map stD).length = t + 2 := by rw [List.length_map]; exact hzl2
    tb_start
    refine e_eqb (b' := false) rfl ?_
    tb_start
    have hz1000 : zs2.length ≤ 1000 := by omega
    have hzz : zs2.length ≤ 100000 := by omega
    refine use_take (by tb_rel) (by omega) (by omega) (by omega) fun u u1 u2 => ?_
    obtain ⟨u, rfl⟩ : ∃ j : Nat, u = j := ⟨u.toNat, by omega⟩
    have hu : u < zs2.length := by omega
    obtain ⟨wu, hru⟩ := I2.rd hu
    have hwu := hru.len
    have hwu1 : 1 ≤ wu.length := List.length_pos_iff.mpr hru.ne
    tb_start
    refine use_lroad (by tb_rel) hru hu hzz fun fu => ?_
    tb_start
    refine use_take (by tb_rel) (by omega) (by omega) (by omega) fun g g1 g2 => ?_
    obtain ⟨g, rfl⟩ : ∃ j : Nat, g = j := ⟨g.toNat, by omega⟩
    tb_start
    rw [List.length_map (as := wu)]
    refine use_take (by tb_rel) (by omega) (by omega) (by omega) fun k0 k1 k2 => ?_
    obtain ⟨k0, rfl⟩ : ∃ j : Nat, k0 = j := ⟨k0.toNat, by omega⟩
    obtain ⟨c, hc⟩ : ∃ z, wu[k0]? = some z := ⟨_, List.getElem?_eq_getElem (by omega)⟩
    have hcl : c < zs2.length := hru.lt hu c (List.mem_of_getElem? hc)
    refine e_xL (by top_args) (atI_nat (v := .int (c : Nat)) (by rw [List.getElem?_map, hc]; rfl)) ?_
    tb_start
    obtain ⟨lq, rfl⟩ : ∃ y, y = p := ⟨p, rfl⟩
    refine Al.tk (A := pt lq (.lst [V.int (g : Nat), V.int (c : Nat), V.int (u : Nat), V.int 0])) (by tb_rel) ?_
    change Al (pt lq (.lst (([g, c, u, 0] : List Nat).map fun j : Nat => V.int j)) :: _) _
    have hes : ∀ e ∈ ([g, c, u, 0] : List Nat), e < zs2.length := fun e he => by
      simp only [List.mem_cons, List.not_mem_nil, or_false] at he
      omega
    have hel : ([g, c, u, 0] : List Nat).length = 4 := rfl
    generalize ([g, c, u, 0] : List Nat) = es at hes hel ⊢
    refine e_forL (fun k σ M => ∃ (oB_0 oB_1 oB_2 oB_3 oB_4 : Option V), (True) ∧ σ = [some (.ref b), some (.ref pn), some (.ref pv), some (.ref r), some (.ref pl), oB_0, some (.int u), oB_1, oB_2, oB_3, oB_4, none] ∧ M = [Box b (1000 + 20 * t + 8 + k), pt lq (.lst (es.map fun j : Nat => V.int j)), Ob r (He.ga K "Roads") [("shelf", .ref s), ("stops", .ref sl)], pt sl (.lst (zs2.map fun z => V.ref z.1)), StsA K zs2, Ob s (He.ga K "Store") [("nodes", .ref nn), ("told", .ref dd)], NodesA K nn nds2, pt dd (.dK (toldK td2)), LsA K pl (zs2.map stD), pt pn (.lst (ws.map V.str)), pt pv (.lst vs2), TbW K, R]) ⟨_, ⟨_, _, _, _, _, trivial, rfl, rfl⟩, .ofT (by tb_rel)⟩ (by rintro k σ M ⟨oB_0, oB_1, oB_2, oB_3, oB_4, _, rfl, rfl⟩; top_args) (fun k x σ M hx hI => ?_) (fun σ M hI => ?_) <;> obtain ⟨oB_0, oB_1, oB_2, oB_3, oB_4, _, eσ, eM⟩ := hI <;> subst eσ eM
    · obtain ⟨e, he, rfl⟩ : ∃ e, es[k]? = some e ∧ x = V.int (e : Nat) := by
        rw [List.getElem?_map] at hx
        cases q : es[k]? with
        | none => rw [q] at hx; cases hx
        | some y => rw [q] at hx; cases hx; exact ⟨y, rfl, rfl⟩
      have hk4 : k < 4 := by have := (List.getElem?_eq_some_iff.mp he).1; omega
      have hel2 := hes e (List.mem_of_getElem? he)
      obtain ⟨we, hre⟩ := I2.rd hel2
      tb_start
      rw [List.length_map (as := ws)]
      refine use_take (by tb_rel) (by omega) (by omega) (by omega) fun y0 y1 y2 => ?_
      obtain ⟨y0, rfl⟩ : ∃ j : Nat, y0 = j := ⟨y0.toNat, by omega⟩
      obtain ⟨nk, hnk⟩ : ∃ z, ws[y0]? = some z := ⟨_, List.getElem?_eq_getElem (by omega)⟩
      refine e_xL (by top_args) (atI_nat (v := .str nk) (by rw [List.getElem?_map, hnk]; rfl)) ?_
      tb_start
      refine e_eqb (b' := false) rfl ?_
      tb_start
      try refine e_rest (by assumption) ?_
      exact e_nx ⟨_, _, _, _, _, trivial, rfl, rfl⟩ (by tb_rel)
    rw [show (List.map (fun j : Nat => V.int (j : Nat)) es).length = 4 from by rw [List.length_map]; exact hel]
    tb_start
    try refine e_rest (by assumption) ?_
    exact e_nx ⟨nds2, td2, zs2, hs2, _, _, _, _, _, _, ⟨(I2), (h02), (hzl2), (hnl2), (htl2), (hhl2), trivial⟩, rfl, rfl⟩ (by tb_rel)
  have hz1000 : zs.length ≤ 1000 := by omega
  have hl0 : 0 < zs.length := by omega
  have hll : zs.length - 1 < zs.length := by omega
  obtain ⟨⟨ax, xx⟩, hxx⟩ : ∃ z, zs[zs.length - 1]? = some z := ⟨_, List.getElem?_eq_getElem (by omega)⟩
  obtain ⟨wl, hrl⟩ := I.rd hll
  tb_start
  rw [List.length_map, show ((zs.length : Nat) : Int) - 1 = ((zs.length - 1 : Nat) : Int) by omega]
  tb_start
  rename_i t1 t2 t3
  obtain ⟨lq, rfl⟩ : ∃ y, y = p := ⟨p, rfl⟩
  have hpd : ∀ d : Int, SeqAt.shaped (plD d) = true := fun d => plD_shaped
  refine e_forL (fun k σ M => ∃ (oC_0 oC_1 oC_2 oC_3 oC_4 : Option V), (True) ∧ σ = [some (.ref b), some (.ref pn), some (.ref pv), some (.ref r), some (.ref pl), oC_0, oC_1, oC_2, oC_3, some (.int (zs.length - 1 : Nat)), oC_4, none] ∧ M = [pt lq (.lst [V.ref t1, V.ref t2, V.ref t3]), pt t3 (.tup [V.int (((zs.length - 1 : Nat) : Int) + 9), V.int (-3), V.int (((zs.length - 1 : Nat) : Int) + 9)]), pt t2 (.tup [V.int (zs.length - 1 : Nat), V.int (((zs.length - 1 : Nat) : Int) + 1), V.int (((zs.length - 1 : Nat) : Int) + 1)]), pt t1 (.tup [V.int (-1), V.int (zs.length - 1 : Nat), V.int (-1)]), Ob r (He.ga K "Roads") [("shelf", .ref s), ("stops", .ref sl)], pt sl (.lst ((zs).map fun z => V.ref z.1)), StsA K (zs), Ob s (He.ga K "Store") [("nodes", .ref nn), ("told", .ref dd)], NodesA K nn (nds), pt dd (.dK (toldK (td))), LsA K pl (zs.map stD), pt pn (.lst (ws.map V.str)), TbW K, R]) ⟨_, ⟨_, _, _, _, _, trivial, rfl, rfl⟩, .ofT (by tb_rel)⟩ (by rintro k σ M ⟨oC_0, oC_1, oC_2, oC_3, oC_4, _, rfl, rfl⟩; top_args) (fun k x σ M hx hI => ?_) (fun σ M hI => ?_) <;> obtain ⟨oC_0, oC_1, oC_2, oC_3, oC_4, _, eσ, eM⟩ := hI <;> subst eσ eM
  · have hk : k < 3 := (List.getElem?_eq_some_iff.mp hx).1
    obtain rfl | rfl | rfl : k = 0 ∨ k = 1 ∨ k = 2 := by omega
    all_goals cases hx
    · tb_start
      refine e_xL (by top_args) (atI_nat (j := 0) (v := .str n0) (by rw [List.getElem?_map, hn0]; rfl)) ?_
      refine use_ltold (by tb_rel) I (.inr (.inr (.inl ⟨by omega, rfl⟩))) hz1000 fun pf => ?_
      tb_start
      refine e_neD (LdD.twoI (p := pf) (by tb_rel)) (LdD.twoI (by tb_rel)) (hpd _) (hpd _) ?_
      tb_start
      refine e_eqb (b' := false) (by rw [eqv_self (hpd _)]; rfl) ?_
      tb_start
      try refine e_rest (by assumption) ?_
      exact e_nx ⟨_, _, _, _, _, trivial, rfl, rfl⟩ (by tb_rel)
    · tb_start
      refine e_xL (by top_args) (atI_nat (j := 0) (v := .str n0) (by rw [List.getElem?_map, hn0]; rfl)) ?_
      refine use_ltold (by tb_rel) I (.inr (.inr (.inr ⟨_, ax, xx, rfl, hxx, by omega, rfl⟩))) hz1000 fun pf => ?_
      tb_start
      refine e_neD (LdD.twoI (p := pf) (by tb_rel)) (LdD.twoI (by tb_rel)) (hpd _) (hpd _) ?_
      tb_start
      refine e_eqb (b' := false) (by rw [eqv_self (hpd _)]; rfl) ?_
      tb_start
      try refine e_rest (by assumption) ?_
      exact e_nx ⟨_, _, _, _, _, trivial, rfl, rfl⟩ (by tb_rel)
    · tb_start
      refine e_xL (by top_args) (atI_nat (j := 0) (v := .str n0) (by rw [List.getElem?_map, hn0]; rfl)) ?_
      refine use_ltold (by tb_rel) I (.inr (.inr (.inl ⟨by omega, rfl⟩))) hz1000 fun pf => ?_
      tb_start
      refine e_neD (LdD.twoI (p := pf) (by tb_rel)) (LdD.twoI (by tb_rel)) (hpd _) (hpd _) ?_
      tb_start
      refine e_eqb (b' := false) (by rw [eqv_self (hpd _)]; rfl) ?_
      tb_start
      try refine e_rest (by assumption) ?_
      exact e_nx ⟨_, _, _, _, _, trivial, rfl, rfl⟩ (by tb_rel)
  tb_start
  refine e_lcL (by tb_rel) (Pure (fun _ => .bl true) _) ⟨_, ⟨rfl, rfl⟩, .refl⟩ (by rintro _ _ _ ⟨_, rfl⟩; top_args) (fun k x acc M D hx hI => ?_) (fun acc M D hI => ?_) <;> obtain ⟨eacc, eM⟩ := hI <;> subst eacc eM
  · obtain ⟨z, hz, _, rfl⟩ := strs_at hx
    have hk : k < 1000 := by have := (List.getElem?_eq_some_iff.mp hz).1; omega
    tb_start
    refine use_pright (i := 0) (by tb_rel) I .zero hrl hl0 hll hz1000 ?_
    tb_start
    exact e_lcP (by tb_rel) (by k_all) rfl (by tb_rel)
  refine e_allP (f := fun _ => true) (by tb_rel) ?_
  rw [all_true]
  tb_start
  refine e_eqb (b' := false) rfl ?_
  tb_start
  rw [List.length_map]
  tb_start
  refine e_eqv (v' := .bl true) (by simp) ?_
  exact e_end (by tb_rel) (ke)
abbrev N_law : List Str := ["_law_script", "_law_k"]
theorem sc_law : FnScope N_law ["_law_script"] (defScope s_law) := ⟨rfl, rfl, rfl, by decide +kernel, rfl, by decide +kernel, by decide +kernel⟩
theorem ok_law (T : Fx K mg) (B : Bx K mg base) : FnG P w K mg base 27 (He.fAd K ("law", none)) ["_law_script"] (S_lawX K).sp := by
  refine Tri.fnC (N := N_law) (k := 26) (S_lawX K) T.d_law sc_law (fun g => rfl) (fun _ _ _ _ _ _ us hl => match us, hl with | [_], _ => rfl) fun cdv A outer s H E Q g R hcd hr hc ke kx => ⟨_, PSs.nox ((pss_one (ps_ret (pe_callB (q_all (K := K) rfl rfl) (by rfl) T.b_all (by decide +kernel) (pa_cons (pe_lc (own := [("_law_k", 1)]) rfl sc_law.nd (pi_range1 (by rfl) T.b_range (pa_cons (pe_op (q_add (K := K) rfl) pe_int (pe_callB (k_min rfl) (by rfl) T.b_min (by decide +kernel) (pa_cons pe_int (pa_cons (pe_callB (q_len (K := K) rfl) (by rfl) T.b_len (by decide +kernel) (pa_cons (pv 0) pa_nil)) pa_nil)))) pa_nil)) (blkOk_by (N := N_law) (sc := defScope s_law) (by decide +kernel)) (fun _ _ _ _ _ => (pg_name (i := 1) sc_law.nd rfl (.inl rfl))) (fun _ _ _ _ _ => pts_nil) (fun _ _ _ _ _ => (ge_call (ok__law_right T B) hr.mono rfl T.g__law_right px0 (pa_cons (ge_call (ok__law_box T B) hr.mono rfl T.g__law_box px0 (pa_cons (pv 0) (pa_cons (pv 1) pa_nil))) pa_nil)))) pa_nil))))), ?_⟩
  obtain ⟨a, ns⟩ := g
  obtain ⟨hns, hbits⟩ := hc
  replace ke : Al [R] (Q (.bl true)) := ke () trivial
  try dsimp only [cxOf]
  refine e_start (L := [TabA (tabAd K ("pairs_with", none)) "pairs_with.<locals>.<lambda>", sq K a (ns.map V.int), R]) (nx := fun _ H' => Q .non H') (rt := Q) (bk := fun _ _ => False) (ct := fun _ _ => False) [some (.ref a), none] rfl ?_
  have hns' : ns.length ≤ 63 := hns
  tb_start
  rw [List.length_map]
  tb_start
  refine e_lcR0 (by tb_rel) (Pure (fun _ => .bl true) _) ⟨_, ⟨rfl, rfl⟩, .refl⟩ (fun k acc M D hi hI => ?_) (fun acc M D hI => ?_) <;> obtain ⟨eacc, eM⟩ := hI <;> subst eacc eM
  · have hk : k ≤ 63 := by split at hi <;> omega
    tb_start
    refine use_box (by tb_rel) (by k_all) fun b => ?_
    tb_start
    exact e_lcP (by tb_rel) (by k_all) rfl (by tb_rel)
  refine e_allP (f := fun _ => true) (by tb_rel) ?_
  rw [all_true]
  exact e_end (by tb_rel) (ke)
end

local macro_rules | `(tactic| kpt_turns) => `(tactic| ((with_reducible apply use_cell); tb_rel))
local macro_rules | `(tactic| kpt_turns) => `(tactic| ((with_reducible apply use_mark); tb_rel; (k_all); (k_all)))
local macro_rules | `(tactic| kpt_turns) => `(tactic| ((with_reducible apply use_digit); tb_rel; (k_all)))
local macro_rules | `(tactic| kpt_turns) => `(tactic| ((with_reducible apply use_isleaf); tb_rel))
local macro_rules | `(tactic| kpt_turns) => `(tactic| ((with_reducible apply use_isfork); tb_rel))
local macro_rules | `(tactic| kpt_turns) => `(tactic| ((with_reducible apply use_ninit); tb_rel))
local macro_rules | `(tactic| kpt_turns) => `(tactic| ((with_reducible apply use_nmany); tb_rel))
local macro_rules | `(tactic| kpt_turns) => `(tactic| ((with_reducible apply use_nmake); tb_rel; (k_all)))
local macro_rules | `(tactic| kpt_turns) => `(tactic| ((with_reducible apply use_nleaf); tb_rel; (k_all)))
local macro_rules | `(tactic| kpt_turns) => `(tactic| ((with_reducible apply use_nfork); tb_rel; (k_all)))
local macro_rules | `(tactic| kpt_turns) => `(tactic| ((with_reducible apply use_valuein); tb_rel))
local macro_rules | `(tactic| kpt_turns) => `(tactic| ((with_reducible apply use_alike); tb_rel; (k_all); (k_all)))
local macro_rules | `(tactic| kpt_turns) => `(tactic| ((with_reducible apply use_sinit); tb_rel))
local macro_rules | `(tactic| kpt_turns) => `(tactic| ((with_reducible apply use_look); tb_rel; (k_all)))
local macro_rules | `(tactic| kpt_turns) => `(tactic| ((with_reducible apply use_tell); tb_rel; (k_all)))
local macro_rules | `(tactic| kpt_turns) => `(tactic| ((with_reducible apply use_empty); tb_rel))
local macro_rules | `(tactic| kpt_turns) => `(tactic| ((with_reducible apply use_looked); tb_rel; (k_all); (k_all)))
local macro_rules | `(tactic| kpt_turns) => `(tactic| ((with_reducible apply use_parted); tb_rel; (k_all); (k_all); (k_all); (k_all); (k_all); (k_all); (k_all)))
local macro_rules | `(tactic| kpt_turns) => `(tactic| ((with_reducible apply use_putat); tb_rel; (k_all); (k_all); (k_all); (k_all); (k_all); (k_all); (k_all); (k_all); (k_all)))
local macro_rules | `(tactic| kpt_turns) => `(tactic| ((with_reducible apply use_put); tb_rel; (k_all); (k_all); (k_all); (k_all); (k_all); (k_all); (k_all); (k_all)))
local macro_rules | `(tactic| kpt_turns) => `(tactic| ((with_reducible apply use_lone); tb_rel; (k_all)))
local macro_rules | `(tactic| kpt_turns) => `(tactic| ((with_reducible apply use_leftat); tb_rel; (k_all); (k_all); (k_all); (k_all); (k_all); (k_all); (k_all); (k_all)))
local macro_rules | `(tactic| kpt_turns) => `(tactic| ((with_reducible apply use_without); tb_rel; (k_all); (k_all); (k_all); (k_all); (k_all); (k_all); (k_all)))
local macro_rules | `(tactic| kpt_turns) => `(tactic| ((with_reducible apply use_made); tb_rel))
local macro_rules | `(tactic| kpt_turns) => `(tactic| first | ((with_reducible apply e_stmeth); tb_rel; assumption; (intro _; rfl)) | ((with_reducible apply e_stf); tb_rel; assumption; kd_mem; kd_in; (intro _; rfl)))
local macro_rules | `(tactic| kpt_turns) => `(tactic| ((with_reducible apply use_stinit); tb_rel))
local macro_rules | `(tactic| kpt_turns) => `(tactic| ((with_reducible apply use_stopat); tb_rel; (k_all)))
local macro_rules | `(tactic| kpt_turns) => `(tactic| ((with_reducible apply use_tbehind); tb_rel; (k_all); (k_all); (k_all); (k_all); (k_all); (k_all); (k_all); (k_all)))
local macro_rules | `(tactic| kpt_turns) => `(tactic| ((with_reducible apply use_places); tb_rel))
local macro_rules | `(tactic| kpt_turns) => `(tactic| ((with_reducible apply use_meeting); tb_rel; (k_all); (k_all); (k_all); (k_all); (k_all)))
local macro_rules | `(tactic| kpt_turns) => `(tactic| ((with_reducible apply use_issof); tb_rel; (k_all)))
local macro_rules | `(tactic| kpt_turns) => `(tactic| ((with_reducible apply use_pright); tb_rel; (k_all); (k_all); (k_all); (k_all); (k_all); (k_all)))
local macro_rules | `(tactic| kpt_turns) => `(tactic| ((with_reducible apply use_right); tb_rel))
end My
open PySem PySem.W PySem.Calls PyProof.Rows
theorem PySem.Challenge.cw_roadsettings_k29_papers_of_what_is_betwe_holds : PySem.Challenge.rw_roadsettings_k29_papers_of_what_is_betwe.Holds := by
  w_on; o_law
  refine HandSHeadRun.head_any (r := OpenLaw.row PySem.Challenge.rw_roadsettings_k29_papers_of_what_is_betwe) (q := view (OpenLaw.row PySem.Challenge.rw_roadsettings_k29_papers_of_what_is_betwe).prog [50]) (H := My.hkX) (ob := My.obXx) (M := 20000) (loose := My.loose) (d := HandSHeadRun.topDef (OpenLaw.row PySem.Challenge.rw_roadsettings_k29_papers_of_what_is_betwe).prog 50) (kwd := []) (AL.obX_eq _ _ _ _ _ _ _)
    (by kernel_rfl) (fun s => by kernel_rfl) My.run (by kernel_rfl) (by kernel_rfl) (by kernel_rfl) (by rfl) (by first | assumption | decide +kernel) (by decide +kernel) ⟨rfl, rfl, rfl, rfl, rfl, by decide +kernel⟩ ?hw ?hc
  case hw => w_witness2
  case hc =>
    refine AL.walk_t (l := PySem.Challenge.rw_roadsettings_k29_papers_of_what_is_betwe) (k := 27) rfl (by kernel_rfl) ⟨rfl, by decide, by decide⟩ ?F
    intro w mg fa h Y G hmg0
    obtain ⟨K, Z, hck⟩ := Y
    have T := My.fx_of Z.kin G Z.d
    have hmg : mg ("law" : PySem.Str) = some (.ref fa) := by
      have e : (HandSHeadRun.topDef (OpenLaw.row PySem.Challenge.rw_roadsettings_k29_papers_of_what_is_betwe).prog 50).name = ("law" : PySem.Str) := by kernel_rfl
      rw [← e]
      exact hmg0
    have ea := hmg.symm.trans T.g_law
    cases ea
    exact AL.ends_t Z ["pairs_with.<locals>.<lambda>"] rfl "_law_script" fun base kb bmb => My.ok_law T ⟨⟨trivial, fun H => He.tupB_ok (Z.tp ("FIRST", _) (by unfold My.tps; exact List.mem_cons_self ..)) H, fun H => He.tupB_ok (Z.tp ("NO_PARTS", _) (by unfold My.tps; apply List.mem_cons_of_mem; exact List.mem_cons_self ..)) H⟩, AL.exfB_ok hck, AL.tabB_ok kb (Z.tb ("pairs_with", none) (by decide)) (bmb ("pairs_with", none) (by decide))⟩
