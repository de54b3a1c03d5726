import PyProof.Rows.All
import Wide.All
import OpenK.AllK
import Wide.FinOn
import KE.DatumMore
import KE.KExcLine
import HandS.ForMost
import HandS.Exc
import HandS.TryOnly
import HandS.ExcOwn
import HandS.WordsExc
import HandS.IsInst
import HandS.ExcValue
import HandS.Conv
import HandS.Style
import HandS.SortOrd
import HandS.CallSlots
import HandS.Defaults
import HandS.ExcIs
import HandS.Deep
import HandS.Dict
import HandS.SortInts
import PySem.Challenge.RW_pairhall_k72_cheapest_plans
set_option Elab.async false
set_option linter.all false
set_option maxRecDepth 100000
namespace PyI
open PySem PySem.Spec PyProof.Rows L2

/-! ### values -/
inductive Fl where
  | own | sh | bw | tr
  deriving DecidableEq, Repr, Inhabited

/-- the kind of an object: a list, a dict (keys ints and texts, or tuples of them), an instance -/
inductive Kd where
  | lst | dK (ks : List Key) | dT (ks : List (List Key)) | ins (c : Str) (fs : List Str)
  deriving DecidableEq, Inhabited

/-- what stands for itself: a built-in class, an own class, an own def, an exception of an own class -/
inductive Sym where
  | ty (n : String) | cls (c : Str) | fn (c : Str) | exc (c : Str)
  deriving DecidableEq, Inhabited
inductive Vl where
  | non | bl (b : Bool) | int (i : Int) | str (x : Str) | ref (n : Nat) | sym (k : Sym)
  | tup (xs : List Vl) | nd (f : Fl) (k : Kd) (xs : List Vl)
  deriving Inhabited
abbrev Vl.lst (f : Fl) (xs : List Vl) : Vl := .nd f .lst xs
/-- the object of a kind, with what is in it -/
def hoOf (mg : Str → Option Value) (k : Kd) (xs : List V) (o : HO) : Prop := match k with
  | .lst => o = .lst xs
  | .dK ks => ks.length = xs.length ∧ o = .dK (ks.zip xs)
  | .dT ks => ks.length = xs.length ∧ o = .dT (ks.zip xs)
  | .ins c fs => fs.length = xs.length ∧ ∃ C dx, mg c = some (.ref C) ∧ o = .ins C dx (fs.zip xs)

/-- the mutable ones -/
def MutO : Option HO → Prop
  | some (.lst _) => True
  | some (.dK _) => True
  | some (.dT _) => True
  | some (.ins _ _ _) => True
  | _ => False

/-- a list of the written part -/
def KL (K : PySem.W.Frag) (a : Addr) (xs : List V) : Prop :=
  ∃ (o : Obj) (its : Array Value) (n : Nat), K.lookup a = some o ∧ o.cls = .type "list" ∧ o.dict = none ∧ o.data = .seq its n ∧ its.size ≤ sizeLine ∧ Vals xs its.toList

theorem hoOf_mut {mg : Str → Option Value} {k : Kd} {xs : List V} {o : HO} (h : hoOf mg k xs o) : MutO (some o) := by
  cases k with
  | lst => cases h; trivial
  | dK ks => obtain ⟨_, rfl⟩ := h; trivial
  | dT ks => obtain ⟨_, rfl⟩ := h; trivial
  | ins c fs => obtain ⟨_, C, dx, _, rfl⟩ := h; trivial
/-- a caught exception of the class cls, at a -/
def ExT (cls : Value) (a : Addr) : HO := .ext fun h => ∃ oe : Obj, h.get? a = some oe ∧ Zc cls none oe ∧ ∃ vs, oe.data = .fields vs
def symR (mg : Str → Option Value) (H : Hp) (k : Sym) (x : V) : Prop := match k with
  | .ty n => x = .ty n
  | .cls c => ∃ C, mg c = some (.ref C) ∧ x = .ref C
  | .fn c => ∃ C, mg c = some (.ref C) ∧ x = .ref C
  | .exc c => ∃ C a, mg c = some (.ref C) ∧ x = .ref a ∧ H a = some (ExT (.ref C) a)
theorem symR.keep {mg : Str → Option Value} {H H' : Hp} {k : Sym} {x : V} (h : symR mg H k x) (s : ∀ b o, H b = some o → ¬ MutO (some o) → H' b = some o) : symR mg H' k x := by
  cases k with
  | exc c =>
    obtain ⟨C, a, h1, h2, h3⟩ := h
    exact ⟨C, a, h1, h2, s a _ h3 fun z => z⟩
  | _ => exact h
mutual
inductive Rep (K : PySem.W.Frag) (mg : Str → Option Value) (H : Hp) (F T : Addr → Prop) (as : List Addr) : Vl → V → (Addr → Nat) → Prop
  | non (hc : ∀ b, c b = 0) : Rep K mg H F T as .non .non c
  | bl (hc : ∀ b, c b = 0) : Rep K mg H F T as (.bl k) (.bl k) c
  | int (hc : ∀ b, c b = 0) : Rep K mg H F T as (.int i) (.int i) c
  | str (hc : ∀ b, c b = 0) : Rep K mg H F T as (.str x) (.str x) c
  | ref (h : as[n]? = some a) (hc : ∀ b, c b = 0) : Rep K mg H F T as (.ref n) (.ref a) c
  | sym (h : symR mg H k x) (hc : ∀ b, c b = 0) : Rep K mg H F T as (.sym k) x c
  | tup (h : SqT K H a xs) (r : Reps K mg H F T as vs xs c) : Rep K mg H F T as (.tup vs) (.ref a) c
  | own (h : H a = some o) (ho : hoOf mg k xs o) (r : Reps K mg H F T as vs xs c') (hc : ∀ b, c b = (if b = a then 1 else 0) + c' b) : Rep K mg H F T as (.nd .own k vs) (.ref a) c
  | sh (h : (F a ∧ ∃ o, hoOf mg k xs o ∧ L2.Rd H a o) ∨ (k = .lst ∧ KL K a xs)) (r : Reps K mg H F T as vs xs c) (hc : ∀ b, c b = 0) : Rep K mg H F T as (.nd .sh k vs) (.ref a) c
  | bw (h : (T a ∧ ∃ o, hoOf mg k xs o ∧ L2.Rd H a o) ∨ (k = .lst ∧ KL K a xs)) (r : Reps K mg H F T as vs xs c) (hc : ∀ b, c b = 0) : Rep K mg H F T as (.nd .bw k vs) (.ref a) c
  | tr (h : (∃ o, hoOf mg k xs o ∧ L2.Rd H a o) ∨ (k = .lst ∧ KL K a xs)) (r : Reps K mg H F T as vs xs c) (hc : ∀ b, c b = 0) : Rep K mg H F T as (.nd .tr k vs) (.ref a) c
inductive Reps (K : PySem.W.Frag) (mg : Str → Option Value) (H : Hp) (F T : Addr → Prop) (as : List Addr) : List Vl → List V → (Addr → Nat) → Prop
  | nil (hc : ∀ b, c b = 0) : Reps K mg H F T as [] [] c
  | cons (r : Rep K mg H F T as v x c1) (s : Reps K mg H F T as vs xs c2) (hc : ∀ b, c b = c1 b + c2 b) : Reps K mg H F T as (v :: vs) (x :: xs) c
end

mutual
/-- no transient list within -/
def noTr : Vl → Bool
  | .tup xs => noTrs xs
  | .nd f _ xs => (f != .tr) && noTrs xs
  | _ => true
def noTrs : List Vl → Bool
  | [] => true
  | v :: r => noTr v && noTrs r
end

section
variable {K : PySem.W.Frag} {mg : Str → Option Value} {H H' : Hp} {F F' T T' : Addr → Prop} {as as' : List Addr}
theorem KL.seq {a : Addr} {xs : List V} (h : KL K a xs) : SqL K H a xs := .inr h
/-- what must stay -/
def Stay (H H' : Hp) (F T : Addr → Prop) (c : Addr → Nat) : Prop := ∀ b o, H b = some o → (F b ∨ T b ∨ c b ≠ 0 ∨ ¬ MutO (some o)) → H' b = some o
theorem Stay.rd {c : Addr → Nat} {a : Addr} {u : HO} (s : Stay H H' F T c) (h : L2.Rd H a u) (q : F a ∨ T a ∨ c a ≠ 0 ∨ ¬ MutO (some u)) : L2.Rd H' a u := by
  rcases h with h | ⟨o, h⟩
  · exact .inl (s _ _ h q)
  · exact .inr ⟨o, s _ _ h (.inr (.inr (.inr (fun z => z))))⟩
theorem Stay.sqT {c : Addr → Nat} {a : Addr} {xs : List V} (s : Stay H H' F T c) (h : SqT K H a xs) : SqT K H' a xs := by
  rcases h with h | h
  · exact .inl (s.rd h (.inr (.inr (.inr fun z => z))))
  · exact .inr h
theorem Stay.le {c c' : Addr → Nat} (s : Stay H H' F T c) (h : ∀ b, c' b ≠ 0 → c b ≠ 0) : Stay H H' F T c' := fun b o e q => s b o e (by
  rcases q with q | q | q | q
  · exact .inl q
  · exact .inr (.inl q)
  · exact .inr (.inr (.inl (h b q)))
  · exact .inr (.inr (.inr q)))
mutual
theorem Rep.stay {v : Vl} {x : V} {c : Addr → Nat} (r : Rep K mg H F T as v x c) (nt : noTr v = true) (s : Stay H H' F T c) (hF : ∀ b, F b → F' b) (hT : ∀ b, T b → T' b) (ha : ∀ (n : Nat) (a : Addr), as[n]? = some a → as'[n]? = some a) : Rep K mg H' F' T' as' v x c := by
  cases r with
  | non hc => exact .non hc
  | bl hc => exact .bl hc
  | int hc => exact .int hc
  | str hc => exact .str hc
  | ref h hc => exact .ref (ha _ _ h) hc
  | sym h hc => exact .sym (h.keep fun b o e q => s b o e (.inr (.inr (.inr q)))) hc
  | tup h r =>
    unfold noTr at nt
    exact .tup (s.sqT h) (Reps.stay r nt s hF hT ha)
  | own h ho r hc =>
    unfold noTr at nt
    simp only [Bool.and_eq_true] at nt
    exact .own (s _ _ h (.inr (.inr (.inl (by rw [hc]; simp))))) ho (Reps.stay r nt.2 (s.le fun b q => by rw [hc]; omega) hF hT ha) hc
  | sh h r hc =>
    unfold noTr at nt
    simp only [Bool.and_eq_true] at nt
    refine .sh ?_ (Reps.stay r nt.2 s hF hT ha) hc
    rcases h with ⟨h1, h2⟩ | h
    · obtain ⟨o, ho, h2⟩ := h2
      exact .inl ⟨hF _ h1, o, ho, s.rd h2 (.inl h1)⟩
    · exact .inr h
  | bw h r hc =>
    unfold noTr at nt
    simp only [Bool.and_eq_true] at nt
    refine .bw ?_ (Reps.stay r nt.2 s hF hT ha) hc
    rcases h with ⟨h1, h2⟩ | h
    · obtain ⟨o, ho, h2⟩ := h2
      exact .inl ⟨hT _ h1, o, ho, s.rd h2 (.inr (.inl h1))⟩
    · exact .inr h
  | tr h r hc =>
    unfold noTr at nt
    simp at nt
theorem Reps.stay {v : List Vl} {x : List V} {c : Addr → Nat} (r : Reps K mg H F T as v x c) (nt : noTrs v = true) (s : Stay H H' F T c) (hF : ∀ b, F b → F' b) (hT : ∀ b, T b → T' b) (ha : ∀ (n : Nat) (a : Addr), as[n]? = some a → as'[n]? = some a) : Reps K mg H' F' T' as' v x c := by
  cases r with
  | nil hc => exact .nil hc
  | cons r1 r2 hc =>
    unfold noTrs at nt
    simp only [Bool.and_eq_true] at nt
    exact .cons (Rep.stay r1 nt.1 (s.le fun b q => by rw [hc]; omega) hF hT ha) (Reps.stay r2 nt.2 (s.le fun b q => by rw [hc]; omega) hF hT ha) hc
end

mutual
/-- .. where all that is tracked stays -/
theorem Rep.same {v : Vl} {x : V} {c : Addr → Nat} (r : Rep K mg H F T as v x c) (s : Same H H') (hF : ∀ b, F b → F' b) (hT : ∀ b, T b → T' b) (ha : ∀ (n : Nat) (a : Addr), as[n]? = some a → as'[n]? = some a) : Rep K mg H' F' T' as' v x c := by
  have st : Stay H H' F T c := fun b o e _ => s b o e
  cases r with
  | non hc => exact .non hc
  | bl hc => exact .bl hc
  | int hc => exact .int hc
  | str hc => exact .str hc
  | ref h hc => exact .ref (ha _ _ h) hc
  | sym h hc => exact .sym (h.keep fun b o e q => s b o e) hc
  | tup h r => exact .tup (st.sqT h) (Reps.same r s hF hT ha)
  | own h ho r hc => exact .own (s _ _ h) ho (Reps.same r s hF hT ha) hc
  | sh h r hc =>
    refine .sh ?_ (Reps.same r s hF hT ha) hc
    rcases h with ⟨h1, h2⟩ | h
    · obtain ⟨o, ho, h2⟩ := h2
      exact .inl ⟨hF _ h1, o, ho, st.rd h2 (.inl h1)⟩
    · exact .inr h
  | bw h r hc =>
    refine .bw ?_ (Reps.same r s hF hT ha) hc
    rcases h with ⟨h1, h2⟩ | h
    · obtain ⟨o, ho, h2⟩ := h2
      exact .inl ⟨hT _ h1, o, ho, st.rd h2 (.inr (.inl h1))⟩
    · exact .inr h
  | tr h r hc =>
    refine .tr ?_ (Reps.same r s hF hT ha) hc
    rcases h with ⟨o, ho, h2⟩ | h
    · refine .inl ⟨o, ho, ?_⟩
      rcases h2 with h2 | ⟨u, h2⟩
      · exact .inl (s _ _ h2)
      · exact .inr ⟨u, s _ _ h2⟩
    · exact .inr h
theorem Reps.same {v : List Vl} {x : List V} {c : Addr → Nat} (r : Reps K mg H F T as v x c) (s : Same H H') (hF : ∀ b, F b → F' b) (hT : ∀ b, T b → T' b) (ha : ∀ (n : Nat) (a : Addr), as[n]? = some a → as'[n]? = some a) : Reps K mg H' F' T' as' v x c := by
  cases r with
  | nil hc => exact .nil hc
  | cons r1 r2 hc => exact .cons (Rep.same r1 s hF hT ha) (Reps.same r2 s hF hT ha) hc
end
mutual
/-- what is counted is mutable and tracked -/
theorem Rep.mu {v : Vl} {x : V} {c : Addr → Nat} (r : Rep K mg H F T as v x c) : ∀ b, c b ≠ 0 → MutO (H b) := by
  cases r with
  | non hc => exact fun b q => absurd (hc b) q
  | bl hc => exact fun b q => absurd (hc b) q
  | int hc => exact fun b q => absurd (hc b) q
  | str hc => exact fun b q => absurd (hc b) q
  | ref h hc => exact fun b q => absurd (hc b) q
  | sym h hc => exact fun b q => absurd (hc b) q
  | tup h r => exact Reps.mu r
  | own h ho r hc =>
    rename_i a o k xs vs c'
    intro b q
    by_cases e : b = a
    · rw [e, h]; exact hoOf_mut ho
    · rw [hc, if_neg e] at q
      exact Reps.mu r b (by omega)
  | sh h r hc => exact fun b q => absurd (hc b) q
  | bw h r hc => exact fun b q => absurd (hc b) q
  | tr h r hc => exact fun b q => absurd (hc b) q
theorem Reps.mu {v : List Vl} {x : List V} {c : Addr → Nat} (r : Reps K mg H F T as v x c) : ∀ b, c b ≠ 0 → MutO (H b) := by
  cases r with
  | nil hc => exact fun b q => absurd (hc b) q
  | cons r1 r2 hc =>
    rename_i c1 vs xs c2
    intro b q
    rw [hc] at q
    by_cases e : c1 b = 0
    · exact Reps.mu r2 b (by omega)
    · exact Rep.mu r1 b e
end
end

/-! ### flags -/
mutual
/-- every list within under one flag -/
def setF (f : Fl) : Vl → Vl
  | .tup xs => .tup (setFs f xs)
  | .nd _ k xs => .nd f k (setFs f xs)
  | .non => .non
  | .bl b => .bl b
  | .int i => .int i
  | .str x => .str x
  | .ref n => .ref n
  | .sym c => .sym c
def setFs (f : Fl) : List Vl → List Vl
  | [] => []
  | v :: r => setF f v :: setFs f r
end
mutual
/-- a peek: what is own is transient -/
def peek : Vl → Vl
  | .tup xs => .tup (peeks xs)
  | .nd f k xs => .nd (if f = .own then .tr else f) k (peeks xs)
  | .non => .non
  | .bl b => .bl b
  | .int i => .int i
  | .str x => .str x
  | .ref n => .ref n
  | .sym c => .sym c
def peeks : List Vl → List Vl
  | [] => []
  | v :: r => peek v :: peeks r
end
mutual
/-- no ref within -/
def noRef : Vl → Bool
  | .ref _ => false
  | .tup xs => noRefs xs
  | .nd _ _ xs => noRefs xs
  | _ => true
def noRefs : List Vl → Bool
  | [] => true
  | v :: r => noRef v && noRefs r
end
mutual
/-- all lists within are own, no refs -/
def allOwn : Vl → Bool
  | .ref _ => false
  | .tup xs => allOwns xs
  | .nd f _ xs => (f == .own) && allOwns xs
  | _ => true
def allOwns : List Vl → Bool
  | [] => true
  | v :: r => allOwn v && allOwns r
end
mutual
/-- no own list within (may be copied) -/
def noOwn : Vl → Bool
  | .tup xs => noOwns xs
  | .nd f _ xs => (f != .own) && noOwns xs
  | _ => true
def noOwns : List Vl → Bool
  | [] => true
  | v :: r => noOwn v && noOwns r
end
mutual
/-- may be stored: no transient, no borrowed -/
def stor : Vl → Bool
  | .tup xs => stors xs
  | .nd f _ xs => (f == .own || f == .sh) && stors xs
  | _ => true
def stors : List Vl → Bool
  | [] => true
  | v :: r => stor v && stors r
end
section
variable {K : PySem.W.Frag} {mg : Str → Option Value} {H H' : Hp} {F F' T T' : Addr → Prop} {as as' : List Addr}
mutual
theorem stor_noTr : ∀ {v : Vl}, stor v = true → noTr v = true
  | .tup xs, h => by unfold stor at h; unfold noTr; exact stors_noTrs h
  | .nd f _ xs, h => by
    unfold stor at h; unfold noTr
    simp only [Bool.and_eq_true] at h ⊢
    refine ⟨?_, stors_noTrs h.2⟩
    cases f <;> simp_all <;> decide
  | .non, _ => rfl
  | .bl _, _ => rfl
  | .int _, _ => rfl
  | .str _, _ => rfl
  | .ref _, _ => rfl
  | .sym _, _ => rfl
theorem stors_noTrs : ∀ {vs : List Vl}, stors vs = true → noTrs vs = true
  | [], _ => rfl
  | v :: r, h => by
    unfold stors at h; unfold noTrs
    simp only [Bool.and_eq_true] at h ⊢
    exact ⟨stor_noTr h.1, stors_noTrs h.2⟩
end
mutual
/-- the borrowed don't matter where there are none -/
theorem Rep.anyT {v : Vl} {x : V} {c : Addr → Nat} (r : Rep K mg H F T as v x c) (s : stor v = true) : Rep K mg H F T' as v x c := by
  cases r with
  | non hc => exact .non hc
  | bl hc => exact .bl hc
  | int hc => exact .int hc
  | str hc => exact .str hc
  | ref h hc => exact .ref h hc
  | sym h hc => exact .sym h hc
  | tup h r => unfold stor at s; exact .tup h (Reps.anyT r s)
  | own h ho r hc => unfold stor at s; simp only [Bool.and_eq_true] at s; exact .own h ho (Reps.anyT r s.2) hc
  | sh h r hc => unfold stor at s; simp only [Bool.and_eq_true] at s; exact .sh h (Reps.anyT r s.2) hc
  | bw h r hc => unfold stor at s; simp at s
  | tr h r hc => unfold stor at s; simp at s
theorem Reps.anyT {v : List Vl} {x : List V} {c : Addr → Nat} (r : Reps K mg H F T as v x c) (s : stors v = true) : Reps K mg H F T' as v x c := by
  cases r with
  | nil hc => exact .nil hc
  | cons r1 r2 hc => unfold stors at s; simp only [Bool.and_eq_true] at s; exact .cons (Rep.anyT r1 s.1) (Reps.anyT r2 s.2) hc
end
mutual
/-- a peek -/
theorem Rep.peek {v : Vl} {x : V} {c : Addr → Nat} (r : Rep K mg H F T as v x c) : Rep K mg H F T as (peek v) x (fun _ => 0) := by
  cases r with
  | non hc => unfold PyI.peek; exact .non fun _ => rfl
  | bl hc => unfold PyI.peek; exact .bl fun _ => rfl
  | int hc => unfold PyI.peek; exact .int fun _ => rfl
  | str hc => unfold PyI.peek; exact .str fun _ => rfl
  | ref h hc => unfold PyI.peek; exact .ref h fun _ => rfl
  | sym h hc => unfold PyI.peek; exact .sym h fun _ => rfl
  | tup h r => unfold PyI.peek; exact .tup h (Reps.peek r)
  | own h ho r hc => unfold PyI.peek; exact .tr (.inl ⟨_, ho, .inl h⟩) (Reps.peek r) fun _ => rfl
  | sh h r hc => unfold PyI.peek; exact .sh h (Reps.peek r) fun _ => rfl
  | bw h r hc => unfold PyI.peek; exact .bw h (Reps.peek r) fun _ => rfl
  | tr h r hc => unfold PyI.peek; exact .tr h (Reps.peek r) fun _ => rfl
theorem Reps.peek {v : List Vl} {x : List V} {c : Addr → Nat} (r : Reps K mg H F T as v x c) : Reps K mg H F T as (peeks v) x (fun _ => 0) := by
  cases r with
  | nil hc => unfold peeks; exact .nil fun _ => rfl
  | cons r1 r2 hc => unfold peeks; exact .cons (Rep.peek r1) (Reps.peek r2) fun _ => rfl
end
/-- what is tracked -/
def Trk (H : Hp) : Addr → Prop := fun b => H b ≠ none
theorem rd_trk {a : Addr} {u : HO} (h : L2.Rd H a u) : Trk H a := by
  rcases h with h | ⟨o, h⟩ <;> (intro e; rw [h] at e; cases e)
theorem sh_rd {a : Addr} {k : Kd} {xs : List V} {S : Addr → Prop} (h : (S a ∧ ∃ o, hoOf mg k xs o ∧ L2.Rd H a o) ∨ (k = .lst ∧ KL K a xs)) : (Trk H a ∧ ∃ o, hoOf mg k xs o ∧ L2.Rd H a o) ∨ (k = .lst ∧ KL K a xs) := by
  rcases h with ⟨_, o, ho, h⟩ | h
  · exact .inl ⟨rd_trk h, o, ho, h⟩
  · exact .inr h
mutual
/-- handed to a call: all is shared, all that is tracked stands still -/
theorem Rep.hand {v : Vl} {x : V} {c : Addr → Nat} (r : Rep K mg H F T as v x c) (nr : noRef v = true) : Rep K mg H (Trk H) T' as' (setF .sh v) x (fun _ => 0) := by
  cases r with
  | non hc => unfold setF; exact .non fun _ => rfl
  | bl hc => unfold setF; exact .bl fun _ => rfl
  | int hc => unfold setF; exact .int fun _ => rfl
  | str hc => unfold setF; exact .str fun _ => rfl
  | ref h hc => unfold noRef at nr; cases nr
  | sym h hc => unfold setF; exact .sym h fun _ => rfl
  | tup h r => unfold noRef at nr; unfold setF; exact .tup h (Reps.hand r nr)
  | own h ho r hc => unfold noRef at nr; unfold setF; exact .sh (.inl ⟨(by intro e; rw [h] at e; cases e), _, ho, .inl h⟩) (Reps.hand r nr) fun _ => rfl
  | sh h r hc => unfold noRef at nr; unfold setF; exact .sh (sh_rd h) (Reps.hand r nr) fun _ => rfl
  | bw h r hc => unfold noRef at nr; unfold setF; exact .sh (sh_rd h) (Reps.hand r nr) fun _ => rfl
  | tr h r hc =>
    unfold noRef at nr; unfold setF
    refine .sh ?_ (Reps.hand r nr) fun _ => rfl
    rcases h with ⟨o, ho, h⟩ | h
    · exact .inl ⟨rd_trk h, o, ho, h⟩
    · exact .inr h
theorem Reps.hand {v : List Vl} {x : List V} {c : Addr → Nat} (r : Reps K mg H F T as v x c) (nr : noRefs v = true) : Reps K mg H (Trk H) T' as' (setFs .sh v) x (fun _ => 0) := by
  cases r with
  | nil hc => unfold setFs; exact .nil fun _ => rfl
  | cons r1 r2 hc =>
    unfold noRefs at nr
    simp only [Bool.and_eq_true] at nr
    unfold setFs; exact .cons (Rep.hand r1 nr.1) (Reps.hand r2 nr.2) fun _ => rfl
end
mutual
/-- an own value of a call comes home: its refs are none, what stands still there doesn't matter -/
theorem Rep.home {v : Vl} {x : V} {c : Addr → Nat} (r : Rep K mg H F T as v x c) (nr : allOwn v = true) : Rep K mg H F' T' as' v x c := by
  cases r with
  | non hc => exact .non hc
  | bl hc => exact .bl hc
  | int hc => exact .int hc
  | str hc => exact .str hc
  | ref h hc => unfold allOwn at nr; cases nr
  | sym h hc => exact .sym h hc
  | tup h r => unfold allOwn at nr; exact .tup h (Reps.home r nr)
  | own h ho r hc => unfold allOwn at nr; simp only [Bool.and_eq_true] at nr; exact .own h ho (Reps.home r nr.2) hc
  | sh h r hc => unfold allOwn at nr; simp only [Bool.and_eq_true] at nr; exact absurd nr.1 (by decide)
  | bw h r hc => unfold allOwn at nr; simp only [Bool.and_eq_true] at nr; exact absurd nr.1 (by decide)
  | tr h r hc => unfold allOwn at nr; simp only [Bool.and_eq_true] at nr; exact absurd nr.1 (by decide)
theorem Reps.home {v : List Vl} {x : List V} {c : Addr → Nat} (r : Reps K mg H F T as v x c) (nr : allOwns v = true) : Reps K mg H F' T' as' v x c := by
  cases r with
  | nil hc => exact .nil hc
  | cons r1 r2 hc =>
    unfold allOwns at nr
    simp only [Bool.and_eq_true] at nr
    exact .cons (Rep.home r1 nr.1) (Reps.home r2 nr.2) hc
end
mutual
/-- frozen: what was counted stands still from now on -/
theorem Rep.freeze {v : Vl} {x : V} {c : Addr → Nat} (r : Rep K mg H F T as v x c) (st : stor v = true) (hF : ∀ b, F b → F' b) (hc' : ∀ b, c b ≠ 0 → F' b) : Rep K mg H F' T' as (setF .sh v) x (fun _ => 0) := by
  cases r with
  | non hc => unfold setF; exact .non fun _ => rfl
  | bl hc => unfold setF; exact .bl fun _ => rfl
  | int hc => unfold setF; exact .int fun _ => rfl
  | str hc => unfold setF; exact .str fun _ => rfl
  | ref h hc => unfold setF; exact .ref h fun _ => rfl
  | sym h hc => unfold setF; exact .sym h fun _ => rfl
  | tup h r => unfold stor at st; unfold setF; exact .tup h (Reps.freeze r st hF hc')
  | own h ho r hc =>
    unfold stor at st; simp only [Bool.and_eq_true] at st; unfold setF
    exact .sh (.inl ⟨hc' _ (by rw [hc]; simp), _, ho, .inl h⟩) (Reps.freeze r st.2 hF fun b q => hc' b (by rw [hc]; omega)) fun _ => rfl
  | sh h r hc =>
    unfold stor at st; simp only [Bool.and_eq_true] at st; unfold setF
    refine .sh ?_ (Reps.freeze r st.2 hF hc') fun _ => rfl
    rcases h with ⟨h1, h2⟩ | h
    · exact .inl ⟨hF _ h1, h2⟩
    · exact .inr h
  | bw h r hc => unfold stor at st; simp at st
  | tr h r hc => unfold stor at st; simp at st
theorem Reps.freeze {v : List Vl} {x : List V} {c : Addr → Nat} (r : Reps K mg H F T as v x c) (st : stors v = true) (hF : ∀ b, F b → F' b) (hc' : ∀ b, c b ≠ 0 → F' b) : Reps K mg H F' T' as (setFs .sh v) x (fun _ => 0) := by
  cases r with
  | nil hc => unfold setFs; exact .nil fun _ => rfl
  | cons r1 r2 hc =>
    unfold stors at st
    simp only [Bool.and_eq_true] at st
    unfold setFs; exact .cons (Rep.freeze r1 st.1 hF fun b q => hc' b (by rw [hc]; omega)) (Reps.freeze r2 st.2 hF fun b q => hc' b (by rw [hc]; omega)) fun _ => rfl
end
end

/-! ### slots -/
inductive RepSl (K : PySem.W.Frag) (mg : Str → Option Value) (H : Hp) (F T : Addr → Prop) (as : List Addr) : List (Option Vl) → L2.St → (Addr → Nat) → Prop
  | nil (hc : ∀ b, c b = 0) : RepSl K mg H F T as [] [] c
  | no (s : RepSl K mg H F T as sl σ c) : RepSl K mg H F T as (none :: sl) (o :: σ) c
  | yes (r : Rep K mg H F T as v x c1) (nt : noTr v = true) (s : RepSl K mg H F T as sl σ c2) (hc : ∀ b, c b = c1 b + c2 b) : RepSl K mg H F T as (some v :: sl) (some x :: σ) c
section
variable {K : PySem.W.Frag} {mg : Str → Option Value} {H H' : Hp} {F F' T T' : Addr → Prop} {as as' : List Addr}
theorem RepSl.len : ∀ {sl : List (Option Vl)} {σ : L2.St} {c : Addr → Nat}, RepSl K mg H F T as sl σ c → sl.length = σ.length
  | _, _, _, .nil _ => rfl
  | _, _, _, .no s => by simp [s.len]
  | _, _, _, .yes _ _ s _ => by simp [s.len]
theorem RepSl.mu : ∀ {sl : List (Option Vl)} {σ : L2.St} {c : Addr → Nat}, RepSl K mg H F T as sl σ c → ∀ b, c b ≠ 0 → MutO (H b)
  | _, _, _, .nil hc => fun b q => absurd (hc b) q
  | _, _, _, .no s => s.mu
  | _, _, _, .yes (c1 := c1) r _ s hc => fun b q => by
    rw [hc] at q
    by_cases e : c1 b = 0
    · exact s.mu b (by rw [e] at q; omega)
    · exact r.mu b e
theorem RepSl.stay : ∀ {sl : List (Option Vl)} {σ : L2.St} {c : Addr → Nat}, RepSl K mg H F T as sl σ c → Stay H H' F T c → (∀ b, F b → F' b) → (∀ b, T b → T' b) → (∀ (n : Nat) (a : Addr), as[n]? = some a → as'[n]? = some a) → RepSl K mg H' F' T' as' sl σ c
  | _, _, _, .nil hc, _, _, _, _ => .nil hc
  | _, _, _, .no s, t, hF, hT, ha => .no (s.stay t hF hT ha)
  | _, _, _, .yes r nt s hc, t, hF, hT, ha => .yes (r.stay nt (t.le fun b q => by rw [hc]; omega) hF hT ha) nt (s.stay (t.le fun b q => by rw [hc]; omega) hF hT ha) hc
theorem RepSl.get : ∀ {sl : List (Option Vl)} {σ : L2.St} {c : Addr → Nat} {i : Nat} {v : Vl}, RepSl K mg H F T as sl σ c → sl[i]? = some (some v) →
    ∃ x c1 c2, σ[i]? = some (some x) ∧ Rep K mg H F T as v x c1 ∧ noTr v = true ∧ RepSl K mg H F T as (sl.set i none) σ c2 ∧ ∀ b, c b = c1 b + c2 b
  | _, _, _, _, _, .nil _, e => by simp at e
  | _, _, _, 0, _, .no s, e => by simp at e
  | _, _, _, i + 1, _, .no s, e => by
    obtain ⟨x, c1, c2, h1, h2, h3, h4, h5⟩ := s.get (i := i) (by simpa using e)
    exact ⟨x, c1, c2, by simpa using h1, h2, h3, .no h4, h5⟩
  | _, _, _, 0, _, .yes r nt s hc, e => by
    simp at e
    subst e
    exact ⟨_, _, _, rfl, r, nt, .no s, hc⟩
  | _, _, _, i + 1, _, .yes r nt s hc, e => by
    obtain ⟨x, c1, c2, h1, h2, h3, h4, h5⟩ := s.get (i := i) (by simpa using e)
    exact ⟨x, c1, _, by simpa using h1, h2, h3, .yes r nt h4 (fun _ => rfl), fun b => by rw [hc, h5]; omega⟩
theorem RepSl.drop : ∀ {sl : List (Option Vl)} {σ : L2.St} {c : Addr → Nat} (i : Nat), RepSl K mg H F T as sl σ c → ∃ c', RepSl K mg H F T as (sl.set i none) σ c' ∧ ∀ b, c' b ≤ c b
  | _, _, _, i, .nil hc => ⟨_, .nil hc, fun _ => Nat.le_refl _⟩
  | _, _, _, 0, .no s => ⟨_, .no s, fun _ => Nat.le_refl _⟩
  | _, _, _, i + 1, .no s => by
    obtain ⟨c', h1, h2⟩ := s.drop i
    exact ⟨c', .no h1, h2⟩
  | _, _, _, 0, .yes r nt s hc => ⟨_, .no s, fun b => by rw [hc]; omega⟩
  | _, _, _, i + 1, .yes r nt s hc => by
    obtain ⟨c', h1, h2⟩ := s.drop i
    exact ⟨_, .yes r nt h1 (fun _ => rfl), fun b => by rw [hc]; have := h2 b; omega⟩
theorem RepSl.put : ∀ {sl : List (Option Vl)} {σ : L2.St} {c1 c2 : Addr → Nat} {i : Nat} {v : Vl} {x : V}, RepSl K mg H F T as (sl.set i none) σ c2 → i < sl.length → Rep K mg H F T as v x c1 → noTr v = true →
    RepSl K mg H F T as (sl.set i (some v)) (σ.set i (some x)) (fun b => c1 b + c2 b)
  | [], _, _, _, _, _, _, s, h, _, _ => absurd h (Nat.not_lt_zero _)
  | _ :: _, [], _, _, _, _, _, s, _, _, _ => by have := s.len; simp at this
  | _ :: _, _ :: _, _, _, 0, _, _, .no s, _, r, nt => .yes r nt s fun _ => rfl
  | _ :: _, _ :: _, _, _, i + 1, _, _, .no s, h, r, nt => .no (s.put (Nat.lt_of_succ_lt_succ h) r nt)
  | _ :: _, _ :: _, _, _, i + 1, _, _, .yes r0 nt0 s hc, h, r, nt => .yes r0 nt0 (s.put (Nat.lt_of_succ_lt_succ h) r nt) fun b => by rw [hc]; omega
theorem RepSl.putOld : ∀ {sl : List (Option Vl)} {σ : L2.St} {c1 c2 : Addr → Nat} {i : Nat} {v : Vl} {x : V}, RepSl K mg H F T as (sl.set i none) σ c2 → i < sl.length → σ[i]? = some (some x) → Rep K mg H F T as v x c1 → noTr v = true →
    RepSl K mg H F T as (sl.set i (some v)) σ (fun b => c1 b + c2 b) := fun {sl σ c1 c2 i v x} s h e r nt => by
  have := s.put (i := i) h r nt
  rwa [show σ.set i (some x) = σ from List.ext_getElem? fun j => by
    by_cases q : i = j
    · subst q
      rw [List.getElem?_set_self (List.getElem?_eq_some_iff.mp e).1, e]
    · rw [List.getElem?_set_ne q]] at this
end
end PyI

namespace PyI
open PySem PySem.Spec PyProof.Rows L2

/-- slots, cells, the slots that are not to be stored to -/
structure Sta where
  sl : List (Option Vl)
  hp : List Vl
  la : List Nat
inductive R (α : Type) where
  | ok (a : α) | exc (c : Str) (s : Sta) | bad
abbrev E := Sta → R (Vl × Sta × Bool)
abbrev Pre (as as' : List Addr) : Prop := ∀ (n : Nat) (a : Addr), as[n]? = some a → as'[n]? = some a

structure Rel (K : PySem.W.Frag) (mg : Str → Option Value) (F T : Addr → Prop) (as : List Addr) (L : List (Nat × V)) (st : Sta) (σ : L2.St) (H : Hp) (c : Addr → Nat) : Prop where
  rep : ∃ c1 c2, RepSl K mg H F T as st.sl σ c1 ∧ Reps K mg H F T as st.hp (as.map V.ref) c2 ∧ noTrs st.hp = true ∧ ∀ b, c b = c1 b + c2 b
  le : ∀ b, c b ≤ 1
  fr : ∀ b, F b ∨ T b → c b = 0 ∧ H b ≠ none
  lk : st.la = L.map (·.1) ∧ ∀ p ∈ L, σ[p.1]? = some (some p.2)
structure Step (F : Addr → Prop) (c : Addr → Nat) (H : Hp) (F' : Addr → Prop) (c' : Addr → Nat) (H' : Hp) : Prop where
  keep : ∀ b o, H b = some o → c b = 0 → H' b = some o
  grow : ∀ b, c' b ≠ 0 → c b ≠ 0 ∨ H b = none
  le : ∀ b, c' b ≤ 1
  sub : ∀ b, F b → F' b
  dis : ∀ b, F' b → c' b = 0
  fgr : ∀ b, F' b → F b ∨ c b ≠ 0 ∨ H b = none
  trk : ∀ b, H b ≠ none → H' b ≠ none

theorem Same.trk {H H' : Hp} (s : Same H H') : ∀ b, H b ≠ none → H' b ≠ none := fun b q e => by
  cases z : H b with
  | none => exact q z
  | some o => rw [s b o z] at e; cases e
section
variable {K : PySem.W.Frag} {mg : Str → Option Value} {H H' H1 H2 : Hp} {F F' F1 F2 T T' : Addr → Prop} {as as' as1 as2 : List Addr} {L : List (Nat × V)} {st st' : Sta} {σ : L2.St} {c c' c1 c2 c3 cv : Addr → Nat}
theorem Pre.refl : Pre as as := fun _ _ h => h
theorem Pre.trans (a : Pre as as1) (b : Pre as1 as2) : Pre as as2 := fun n x h => b n x (a n x h)
theorem Rel.mu (r : Rel K mg F T as L st σ H c) : ∀ b, c b ≠ 0 → MutO (H b) := by
  obtain ⟨c1, c2, h1, h2, _, h3⟩ := r.rep
  intro b q
  rw [h3] at q
  by_cases e : c1 b = 0
  · exact h2.mu b (by omega)
  · exact h1.mu b e
theorem Rel.len (r : Rel K mg F T as L st σ H c) : st.sl.length = σ.length := by
  obtain ⟨c1, c2, h1, _⟩ := r.rep
  exact h1.len
theorem Rel.there (r : Rel K mg F T as L st σ H c) (b : Addr) (q : c b ≠ 0) : H b ≠ none := fun e => by
  have := r.mu b q
  rw [e] at this
  exact this
/-- what stays of a value in flight behind a step -/
theorem Rel.stay (r : Rel K mg F T as L st σ H c) (hd : ∀ b, cv b ≠ 0 → c b = 0) (s : ∀ b o, H b = some o → c b = 0 → H' b = some o) : Stay H H' F T cv := fun b o e q => by
  refine s b o e ?_
  rcases q with q | q | q | q
  · exact (r.fr b (.inl q)).1
  · exact (r.fr b (.inr q)).1
  · exact hd b q
  · by_cases z : c b = 0
    · exact z
    · have := r.mu b z
      rw [e] at this
      exact absurd this q
theorem Rel.same (r : Rel K mg F T as L st σ H c) (s : Same H H') : Rel K mg F T as L st σ H' c := by
  obtain ⟨c1, c2, h1, h2, h3, h4⟩ := r.rep
  have sy : ∀ d, Stay H H' F T d := fun d b o e _ => s b o e
  refine ⟨⟨c1, c2, h1.stay (sy _) (fun _ h => h) (fun _ h => h) Pre.refl, h2.stay h3 (sy _) (fun _ h => h) (fun _ h => h) Pre.refl, h3, h4⟩, r.le, fun b q => ⟨(r.fr b q).1, fun e => ?_⟩, r.lk⟩
  cases z : H b with
  | none => exact (r.fr b q).2 z
  | some o => rw [s b o z] at e; cases e
theorem Step.refl (h : ∀ b, c b ≤ 1) (d : ∀ b, F b → c b = 0) : Step F c H F c H := ⟨fun _ _ e _ => e, fun _ q => .inl q, h, fun _ h => h, d, fun _ h => .inl h, fun _ h => h⟩
theorem Rel.refl (r : Rel K mg F T as L st σ H c) : Step F c H F c H := Step.refl r.le fun b q => (r.fr b (.inl q)).1
/-- a step's end as a beginning -/
theorem Step.here (s : Step F c H F' c' H') : Step F' c' H' F' c' H' := Step.refl s.le s.dis
/-- less is held -/
theorem Step.less (s : Step F c H F' c' H') (h : ∀ b, c2 b ≤ c' b) : Step F c H F' c2 H' := ⟨s.keep, fun b q => s.grow b (by have := h b; omega), fun b => Nat.le_trans (h b) (s.le b), s.sub, fun b q => by have := h b; have := s.dis b q; omega, s.fgr, s.trk⟩
theorem Step.trans (a : Step F c H F1 c1 H1) (b : Step F1 c1 H1 F2 c2 H2) : Step F c H F2 c2 H2 where
  keep := fun d o e q => by
    refine b.keep d o (a.keep d o e q) ?_
    by_cases z : c1 d = 0
    · exact z
    · rcases a.grow d z with y | y
      · exact absurd q y
      · rw [e] at y; cases y
  grow := fun d q => by
    rcases b.grow d q with y | y
    · exact a.grow d y
    · by_cases z : c d = 0
      · refine .inr ?_
        cases w : H d with
        | none => rfl
        | some o => rw [a.keep d o w z] at y; cases y
      · exact .inl z
  le := b.le
  sub := fun d h => b.sub d (a.sub d h)
  dis := b.dis
  fgr := fun d q => by
    rcases b.fgr d q with y | y | y
    · exact a.fgr d y
    · exact .inr (a.grow d y)
    · by_cases z : c d = 0
      · refine .inr (.inr ?_)
        cases w : H d with
        | none => rfl
        | some o => rw [a.keep d o w z] at y; cases y
      · exact .inr (.inl z)
  trk := fun d q => b.trk d (a.trk d q)
/-- a step, a value (cv) in flight through a second one -/
theorem Step.flight (r1 : Rel K mg F1 T as1 L st' σ H1 c1) (mv : ∀ b, cv b ≠ 0 → MutO (H1 b)) (a : Step F c H F1 (fun b => c1 b + cv b) H1) (b : Step F1 c1 H1 F2 c2 H2) : Step F c H F2 (fun b => c2 b + cv b) H2 where
  keep := fun d o e q => by
    have h1 := a.keep d o e q
    refine b.keep d o h1 ?_
    by_cases z : c1 d = 0
    · exact z
    · rcases a.grow d (by show c1 d + cv d ≠ 0; omega) with y | y
      · exact absurd q y
      · rw [e] at y; cases y
  grow := fun d q => by
    by_cases w : cv d = 0
    · rcases b.grow d (by have : c2 d + cv d ≠ 0 := q; omega) with y | y
      · exact a.grow d (by show c1 d + cv d ≠ 0; omega)
      · by_cases z : c d = 0
        · refine .inr ?_
          cases w : H d with
          | none => rfl
          | some o => rw [a.keep d o w z] at y; cases y
        · exact .inl z
    · exact a.grow d (by show c1 d + cv d ≠ 0; omega)
  le := fun d => by
    show c2 d + cv d ≤ 1
    by_cases w : cv d = 0
    · have := b.le d; omega
    · have h1 := a.le d
      have h1 : c1 d + cv d ≤ 1 := h1
      have z : c1 d = 0 := by omega
      have y : c2 d = 0 := by
        by_cases y : c2 d = 0
        · exact y
        · rcases b.grow d y with y | y
          · exact absurd z y
          · have := mv d w
            rw [y] at this
            exact this.elim
      omega
  sub := fun d h => b.sub d (a.sub d h)
  dis := fun d q => by
    have h0 := b.dis d q
    show c2 d + cv d = 0
    have h1 := a.le d
    have h1 : c1 d + cv d ≤ 1 := h1
    rcases b.fgr d q with y | y | y
    · have := a.dis d y
      have : c1 d + cv d = 0 := this
      omega
    · omega
    · by_cases w : cv d = 0
      · omega
      · have := mv d w
        rw [y] at this
        exact this.elim
  fgr := fun d q => by
    rcases b.fgr d q with y | y | y
    · exact a.fgr d y
    · exact .inr (a.grow d (by show c1 d + cv d ≠ 0; omega))
    · by_cases z : c d = 0
      · refine .inr (.inr ?_)
        cases w : H d with
        | none => rfl
        | some o => rw [a.keep d o w z] at y; cases y
      · exact .inr (.inl z)
  trk := fun d q => b.trk d (a.trk d q)
end

/-! ### expressions -/
/-- what is wanted of an exception: of its class by the module's name -/
def XPost (K : PySem.W.Frag) (mg : Str → Option Value) (W : WX) (T : Addr → Prop) (as : List Addr) (L : List (Nat × V)) (F : Addr → Prop) (c : Addr → Nat) (H : Hp) (cl : Str) (st' : Sta) : Prop :=
  ∀ F' as' σ' H' c1, Rel K mg F' T as' L st' σ' H' c1 → Step F c H F' c1 H' → Pre as as' → ∀ C, mg cl = some (.ref C) → W (.ref C) none σ' H'
def EPost (K : PySem.W.Frag) (mg : Str → Option Value) (W : WX) (F T : Addr → Prop) (as : List Addr) (L : List (Nat × V)) (st : Sta) (c : Addr → Nat) (σ : L2.St) (H : Hp) (r : R (Vl × Sta × Bool)) (Q : VK) : Prop := match r with
  | .ok (v, st', eff) => ∀ F' as' H' x c1 c2, Rel K mg F' T as' L st' σ H' c1 → Rep K mg H' F' T as' v x c2 → Step F c H F' (fun b => c1 b + c2 b) H' → Pre as as' → (eff = false → Same H H' ∧ st' = st ∧ ∀ b, F' b → F b) → Q x H'
  | .exc cl st' => XPost K mg W T as L F c H cl st'
  | .bad => False
def EI (K : PySem.W.Frag) (mg : Str → Option Value) (W : WX) (f : E) : TE := fun σ H Q => ∃ F T as L st c, Rel K mg F T as L st σ H c ∧ EPost K mg W F T as L st c σ H (f st) Q
def EOk (X : Cx) (e : Expr) (f : E) : Prop := ∀ W, Takes X W → PE X e (EI X.K X.mg W f)
/-- a test: its value is a bool -/
def TsI (K : PySem.W.Frag) (mg : Str → Option Value) (W : WX) (f : E) : TT := fun σ H Q => EI K mg W f σ H fun x H' => ∃ b, x = .bl b ∧ Q b H'
def TOk (X : Cx) (e : Expr) (f : E) : Prop := ∀ W, Takes X W → PT X e (TsI X.K X.mg W f)
def TWOk (X : Cx) (e : Expr) (f : E) : Prop := ∀ W, Takes X W → PW X e (TsI X.K X.mg W f)

/-- several, from the left -/
def evs : List E → Sta → R (List Vl × Sta × Bool)
  | [], st => .ok ([], st, false)
  | f :: r, st => match f st with
    | .ok (v, st1, e1) => match evs r st1 with
      | .ok (vs, st2, e2) => if noTr v || !e2 then .ok (v :: vs, st2, e1 || e2) else .bad
      | .exc c s => .exc c s
      | .bad => .bad
    | .exc c s => .exc c s
    | .bad => .bad
def APost (K : PySem.W.Frag) (mg : Str → Option Value) (W : WX) (F T : Addr → Prop) (as : List Addr) (L : List (Nat × V)) (st : Sta) (c : Addr → Nat) (σ : L2.St) (H : Hp) (r : R (List Vl × Sta × Bool)) (Q : List V → Hp → Prop) : Prop := match r with
  | .ok (vs, st', eff) => ∀ F' as' H' xs c1 c2, Rel K mg F' T as' L st' σ H' c1 → Reps K mg H' F' T as' vs xs c2 → Step F c H F' (fun b => c1 b + c2 b) H' → Pre as as' → (eff = false → Same H H' ∧ st' = st ∧ ∀ b, F' b → F b) → Q xs H'
  | .exc cl st' => XPost K mg W T as L F c H cl st'
  | .bad => False
def AI (K : PySem.W.Frag) (mg : Str → Option Value) (W : WX) (fs : List E) : TA := fun σ H Q => ∃ F T as L st c, Rel K mg F T as L st σ H c ∧ APost K mg W F T as L st c σ H (evs fs st) Q
section
variable {K : PySem.W.Frag} {mg : Str → Option Value} {W : WX} {f : E} {fs : List E} {σ : L2.St} {H : Hp}
theorem XPost.back {T : Addr → Prop} {as as1 : List Addr} {L : List (Nat × V)} {F F1 : Addr → Prop} {c c1 cv : Addr → Nat} {H H1 : Hp} {cl : Str} {st1 st' : Sta} (h : XPost K mg W T as L F c H cl st') (r1 : Rel K mg F1 T as1 L st1 σ H1 c1) (mv : ∀ b, cv b ≠ 0 → MutO (H1 b)) (a : Step F c H F1 (fun b => c1 b + cv b) H1) (p : Pre as as1) :
    XPost K mg W T as1 L F1 c1 H1 cl st' := fun F' as' σ' H' c2 r2 s2 p2 C hC => h F' as' σ' H' c2 r2 ((Step.flight r1 mv a s2).less fun b => Nat.le_add_right _ _) (p.trans p2) C hC
theorem AI.nil {Q : List V → Hp → Prop} (h : AI K mg W [] σ H Q) : Q [] H := by
  obtain ⟨F, T, as, L, st, c, r, p⟩ := h
  exact p F as H [] c (fun _ => 0) r (.nil fun _ => rfl) r.refl Pre.refl fun _ => ⟨Same.refl H, rfl, fun _ h => h⟩
theorem AI.cons {Q : List V → Hp → Prop} (h : AI K mg W (f :: fs) σ H Q) : EI K mg W f σ H fun x H1 => AI K mg W fs σ H1 fun xs H2 => Q (x :: xs) H2 := by
  obtain ⟨F, T, as, L, st, c, r, p⟩ := h
  refine ⟨F, T, as, L, st, c, r, ?_⟩
  unfold evs at p
  cases e1 : f st with
  | bad => rw [e1] at p; exact p
  | exc cl s => rw [e1] at p; exact p
  | ok q =>
    obtain ⟨v, st1, f1⟩ := q
    rw [e1] at p
    intro F1 as1 H1 x c1 cv r1 rv s1 p1 ef1
    refine ⟨F1, T, as1, L, st1, c1, r1, ?_⟩
    simp only at p
    cases e2 : evs fs st1 with
    | bad => rw [e2] at p; exact (show False from p).elim
    | exc cl s => rw [e2] at p; exact XPost.back p r1 rv.mu s1 p1
    | ok q =>
      obtain ⟨vs, st2, f2⟩ := q
      rw [e2] at p
      simp only at p
      intro F2 as2 H2 xs c2 cw r2 rw' s2 p2 ef2
      by_cases cond : (noTr v || !f2) = true
      · rw [if_pos cond] at p
        have fl := Step.flight r1 rv.mu s1 (s2)
        have rv2 : Rep K mg H2 F2 T as2 v x cv := by
          by_cases nt : noTr v = true
          · refine rv.stay nt (r1.stay (fun b q => ?_) s2.keep) s2.sub (fun _ h => h) p2
            have := s1.le b
            have : c1 b + cv b ≤ 1 := this
            omega
          · have nf : f2 = false := by
              cases f2 with
              | false => rfl
              | true => simp [nt] at cond
            exact rv.same (ef2 nf).1 s2.sub (fun _ h => h) p2
        refine p F2 as2 H2 (x :: xs) c2 (fun b => cv b + cw b) r2 (.cons rv2 rw' fun _ => rfl) (fl.less fun b => ?_) (p1.trans p2) fun q => ?_
        · show c2 b + (cv b + cw b) ≤ (c2 b + cw b) + cv b
          omega
        · have q' : (f1 || f2) = false := q
          have q1 : f1 = false := by cases f1 with | false => rfl | true => simp at q'
          have q2 : f2 = false := by cases f2 with | false => rfl | true => simp [q1] at q'
          exact ⟨(ef1 q1).1.trans (ef2 q2).1, (ef2 q2).2.1.trans (ef1 q1).2.1, fun b h => (ef1 q1).2.2 b ((ef2 q2).2.2 b h)⟩
      · rw [if_neg cond] at p
        exact (show False from p).elim
theorem _root_.L2.PE.imp {X : Cx} {e : Expr} {t t' : TE} (h : PE X e t) (i : ∀ σ H Q, t' σ H Q → t σ H Q) : PE X e t' := ⟨fun pins s σ H Q I hq => h.run pins s σ H Q I (i σ H Q hq)⟩
theorem _root_.L2.PT.imp {X : Cx} {e : Expr} {t t' : TT} (h : PT X e t) (i : ∀ σ H Q, t' σ H Q → t σ H Q) : PT X e t' := ⟨fun pins s σ H Q I hq => h.run pins s σ H Q I (i σ H Q hq)⟩
theorem _root_.L2.PW.imp {X : Cx} {e : Expr} {t t' : TT} (h : PW X e t) (i : ∀ σ H Q, t' σ H Q → t σ H Q) : PW X e t' := ⟨fun wh pins s σ H Q I hq => h.run wh pins s σ H Q I (i σ H Q hq)⟩
theorem _root_.L2.PA.imp {X : Cx} {es : List Expr} {t t' : TA} (h : PA X es t) (i : ∀ σ H Q, t' σ H Q → t σ H Q) : PA X es t' := ⟨fun pos pins s σ H Q I hq => h.run pos pins s σ H Q I (i σ H Q hq)⟩
theorem _root_.L2.PS.imp {X : Cx} {s : Stmt} {t t' : TS} (h : PS X s t) (i : ∀ D σ H, t' D σ H → t D σ H) : PS X s t' := ⟨fun pins s σ H D I hq => h.run pins s σ H D I (i D σ H hq)⟩
theorem _root_.L2.PSs.imp {X : Cx} {s : List Stmt} {t t' : TS} (h : PSs X s t) (i : ∀ D σ H, t' D σ H → t D σ H) : PSs X s t' := ⟨fun pins s σ H D I hq => h.run pins s σ H D I (i D σ H hq)⟩
/-- argument lists -/
def AOk (X : Cx) (es : List Expr) (fs : List E) : Prop := ∀ W, Takes X W → PA X es (AI X.K X.mg W fs)
theorem AOk.nil {X : Cx} : AOk X [] [] := fun W _ => pa_nil.imp fun _ _ _ h => h.nil
theorem AOk.cons {X : Cx} {e : Expr} {es : List Expr} {f : E} {fs : List E} (h : EOk X e f) (r : AOk X es fs) (hs : starEach (e :: es) X.env = (false, eval e X.env) :: starEach es X.env := by rfl) : AOk X (e :: es) (f :: fs) := fun W t =>
  (pa_cons (h W t) (r W t) hs).imp fun _ _ _ h => h.cons
end
end PyI

namespace PyI
open PySem PySem.Spec PyProof.Rows L2

/-- within n, either way (a check that the kernel does not unfold number by number) -/
def inB (n : Nat) (j : Int) : Bool := Nat.ble j.natAbs n
theorem inB_eq (n : Nat) (j : Int) : (inB n j = true) = (j.natAbs ≤ n) := by unfold inB; rw [Nat.ble_eq]
/-! ### a function of the values -/
def opE (g : List Vl → Option Vl) (fs : List E) : E := fun st => match evs fs st with
  | .ok (vs, st1, e) => (match g vs with
    | some v => .ok (v, st1, e)
    | none => .bad)
  | .exc c s => .exc c s
  | .bad => .bad
/-- what the wanted end is to bear: the value, less or new -/
abbrev Fin (K : PySem.W.Frag) (mg : Str → Option Value) (F T : Addr → Prop) (as : List Addr) (c : Addr → Nat) (H : Hp) (v : Vl) (Q : VK) : Prop :=
  ∀ H3 x c5, Rep K mg H3 F T as v x c5 → (∀ b, c5 b ≤ c b ∨ (H b = none ∧ c5 b ≤ 1)) → Same H H3 → Q x H3
def GOp (K : PySem.W.Frag) (mg : Str → Option Value) (g : List Vl → Option Vl) (r : List V → Hp → VK → Prop) : Prop :=
  ∀ (H : Hp) (F T : Addr → Prop) (as : List Addr) (vs : List Vl) (xs : List V) (c : Addr → Nat) (v : Vl) (Q : VK), Reps K mg H F T as vs xs c → (∀ b, c b ≤ 1) → g vs = some v → Fin K mg F T as c H v Q → r xs H Q
section
variable {K : PySem.W.Frag} {mg : Str → Option Value} {W : WX} {fs : List E} {σ : L2.St} {H : Hp} {Q : VK}
theorem EI.op {g : List Vl → Option Vl} {r : List V → Hp → VK → Prop} (h : EI K mg W (opE g fs) σ H Q) (hg : GOp K mg g r) : AI K mg W fs σ H fun xs H2 => r xs H2 Q := by
  obtain ⟨F, T, as, L, st, c0, r0, p⟩ := h
  refine ⟨F, T, as, L, st, c0, r0, ?_⟩
  unfold opE at p
  cases e1 : evs fs st with
  | bad => rw [e1] at p; exact p
  | exc cl s => rw [e1] at p; exact p
  | ok q =>
    obtain ⟨vs, st1, f1⟩ := q
    rw [e1] at p
    simp only at p
    intro F1 as1 H2 xs c1 c r1 rv s1 p1 ef
    cases e2 : g vs with
    | none => rw [e2] at p; exact (show False from p).elim
    | some v =>
      rw [e2] at p
      simp only at p
      refine hg H2 F1 T as1 vs xs c v Q rv (fun b => by have := s1.le b; have : c1 b + c b ≤ 1 := this; omega) e2 fun H3 x c5 rx hc sm => ?_
      refine p F1 as1 H3 x c1 c5 (r1.same sm) rx ⟨fun b o e q => sm b o (s1.keep b o e q), fun b q => ?_, fun b => ?_, s1.sub, fun b q => ?_, s1.fgr, fun b q => PyI.Same.trk sm b (s1.trk b q)⟩ p1 fun q => ⟨(ef q).1.trans sm, (ef q).2⟩
      · rcases hc b with z | ⟨z, _⟩
        · exact s1.grow b (by show c1 b + c b ≠ 0; have : c1 b + c5 b ≠ 0 := q; omega)
        · by_cases y : c0 b = 0
          · refine .inr ?_
            cases w : H b with
            | none => rfl
            | some o => rw [s1.keep b o w y] at z; cases z
          · exact .inl y
      · show c1 b + c5 b ≤ 1
        rcases hc b with z | ⟨z, y⟩
        · have := s1.le b; have : c1 b + c b ≤ 1 := this; omega
        · by_cases w : c1 b = 0
          · omega
          · exact absurd z (r1.there b w)
      · show c1 b + c5 b = 0
        have h0 := s1.dis b q
        have h0 : c1 b + c b = 0 := h0
        rcases hc b with z | ⟨z, y⟩
        · omega
        · exact absurd z (r1.fr b (.inl q)).2
end

/-! ### scalars -/
section
variable {K : PySem.W.Frag} {mg : Str → Option Value} {H : Hp} {F T : Addr → Prop} {as : List Addr} {c : Addr → Nat}
theorem Rep.non' : Rep K mg H F T as .non .non (fun _ => 0) := .non fun _ => rfl
theorem Rep.bl' {k : Bool} : Rep K mg H F T as (.bl k) (.bl k) (fun _ => 0) := .bl fun _ => rfl
theorem Rep.int' {i : Int} : Rep K mg H F T as (.int i) (.int i) (fun _ => 0) := .int fun _ => rfl
theorem Rep.str' {x : Str} : Rep K mg H F T as (.str x) (.str x) (fun _ => 0) := .str fun _ => rfl
theorem Fin.bl {H : Hp} {k : Bool} {Q : VK} (f : Fin K mg F T as c H (.bl k) Q) : Q (.bl k) H := f H _ _ Rep.bl' (fun b => .inl (Nat.zero_le _)) (Same.refl H)
theorem Fin.int {H : Hp} {k : Int} {Q : VK} (f : Fin K mg F T as c H (.int k) Q) : Q (.int k) H := f H _ _ Rep.int' (fun b => .inl (Nat.zero_le _)) (Same.refl H)
theorem Fin.str {H : Hp} {k : Str} {Q : VK} (f : Fin K mg F T as c H (.str k) Q) : Q (.str k) H := f H _ _ Rep.str' (fun b => .inl (Nat.zero_le _)) (Same.refl H)
theorem Fin.non {H : Hp} {Q : VK} (f : Fin K mg F T as c H .non Q) : Q .non H := f H _ _ Rep.non' (fun b => .inl (Nat.zero_le _)) (Same.refl H)
theorem Rep.inv_int {i : Int} {x : V} (r : Rep K mg H F T as (.int i) x c) : x = .int i := by cases r; rfl
theorem Rep.inv_bl {i : Bool} {x : V} (r : Rep K mg H F T as (.bl i) x c) : x = .bl i := by cases r; rfl
theorem Rep.inv_str {i : Str} {x : V} (r : Rep K mg H F T as (.str i) x c) : x = .str i := by cases r; rfl
theorem Rep.inv_non {x : V} (r : Rep K mg H F T as .non x c) : x = .non := by cases r; rfl
theorem Rep.inv_tup {vs : List Vl} {x : V} (r : Rep K mg H F T as (.tup vs) x c) : ∃ a xs, x = .ref a ∧ SqT K H a xs ∧ Reps K mg H F T as vs xs c := by cases r with | tup h r => exact ⟨_, _, rfl, h, r⟩
/-- a list, whatever its flag -/
theorem Rep.inv_lst {f : Fl} {vs : List Vl} {x : V} (r : Rep K mg H F T as (.nd f .lst vs) x c) : ∃ a xs c', x = .ref a ∧ SqL K H a xs ∧ Reps K mg H F T as vs xs c' ∧ ∀ b, c' b ≤ c b := by
  cases r with
  | own h ho r hc =>
    cases ho
    exact ⟨_, _, _, rfl, SqL.of h, r, fun b => by rw [hc]; omega⟩
  | sh h r hc =>
    rcases h with ⟨_, o, ho, h⟩ | ⟨_, h⟩
    · cases ho; exact ⟨_, _, _, rfl, .inl h, r, fun _ => Nat.le_refl _⟩
    · exact ⟨_, _, _, rfl, h.seq, r, fun _ => Nat.le_refl _⟩
  | bw h r hc =>
    rcases h with ⟨_, o, ho, h⟩ | ⟨_, h⟩
    · cases ho; exact ⟨_, _, _, rfl, .inl h, r, fun _ => Nat.le_refl _⟩
    · exact ⟨_, _, _, rfl, h.seq, r, fun _ => Nat.le_refl _⟩
  | tr h r hc =>
    rcases h with ⟨o, ho, h⟩ | ⟨_, h⟩
    · cases ho; exact ⟨_, _, _, rfl, .inl h, r, fun _ => Nat.le_refl _⟩
    · exact ⟨_, _, _, rfl, h.seq, r, fun _ => Nat.le_refl _⟩
theorem Reps.inv1 {v : Vl} {xs : List V} (r : Reps K mg H F T as [v] xs c) : ∃ x, xs = [x] ∧ Rep K mg H F T as v x c := by
  cases r with
  | cons r1 r2 hc =>
    cases r2 with
    | nil h0 =>
      refine ⟨_, rfl, ?_⟩
      rename_i x c1 c2
      have e : c = c1 := funext fun b => by rw [hc, h0]; rfl
      rw [e]; exact r1
theorem Reps.inv2 {v w : Vl} {xs : List V} (r : Reps K mg H F T as [v, w] xs c) : ∃ x y c1 c2, xs = [x, y] ∧ Rep K mg H F T as v x c1 ∧ Rep K mg H F T as w y c2 ∧ ∀ b, c b = c1 b + c2 b := by
  cases r with
  | cons r1 r2 hc =>
    obtain ⟨y, e, r3⟩ := r2.inv1
    subst e
    exact ⟨_, _, _, _, rfl, r1, r3, hc⟩
theorem Reps.length : ∀ {vs : List Vl} {xs : List V} {c : Addr → Nat}, Reps K mg H F T as vs xs c → vs.length = xs.length
  | _, _, _, .nil _ => rfl
  | _, _, _, .cons _ s _ => by simp [Reps.length s]
end

/-! ### lists made -/
/-- a new list of these -/
def mkL (xs : List Vl) : Vl := if stors xs then .nd .own .lst xs else .nd .tr .lst (peeks xs)
section
variable {K : PySem.W.Frag} {mg : Str → Option Value} {H H3 : Hp} {F T : Addr → Prop} {as : List Addr} {c c5 : Addr → Nat}
theorem Fin.mkL {vs : List Vl} {xs : List V} {p : Addr} {Q : VK} (f : Fin K mg F T as c H (mkL vs) Q) (r : Reps K mg H F T as vs xs c5) (hc : ∀ b, c5 b ≤ c b) (hl : ∀ b, c b ≤ 1) (sm : Same H H3) (hn : H p = none) (h : H3 p = some (.lst xs)) : Q (.ref p) H3 := by
  have r3 := r.same sm (fun _ h => h) (fun _ h => h) Pre.refl
  have nz : c5 p = 0 := by
    by_cases e : c5 p = 0
    · exact e
    · have := r.mu p e
      rw [hn] at this
      exact this.elim
  unfold PyI.mkL at f
  by_cases s : stors vs = true
  · rw [if_pos s] at f
    refine f H3 (.ref p) (fun b => (if b = p then 1 else 0) + c5 b) (.own h rfl r3 fun _ => rfl) (fun b => ?_) sm
    by_cases e : b = p
    · subst e
      exact .inr ⟨hn, by simp [nz]⟩
    · refine .inl ?_
      simp only [if_neg e]
      have := hc b
      omega
  · rw [if_neg s] at f
    exact f H3 (.ref p) (fun _ => 0) (.tr (.inl ⟨_, rfl, .inl h⟩) r3.peek fun _ => rfl) (fun b => .inl (Nat.zero_le _)) sm
theorem same_new {o : HO} {p : Addr} (h : H p = none) : Same H (upd H p o) := fun b x e => by
  rw [upd_ne (ne_of_none e h)]; exact e
theorem Reps.append : ∀ {vs ws : List Vl} {xs ys : List V} {c1 c2 : Addr → Nat}, Reps K mg H F T as vs xs c1 → Reps K mg H F T as ws ys c2 → Reps K mg H F T as (vs ++ ws) (xs ++ ys) (fun b => c1 b + c2 b)
  | _, _, _, _, c1, c2, .nil hc, s => by
    have e : (fun b => c1 b + c2 b) = c2 := funext fun b => by rw [hc]; omega
    rw [e]; exact s
  | _, _, _, _, _, _, .cons r t hc, s => .cons r (t.append s) fun b => by rw [hc]; omega
theorem Reps.take : ∀ {vs : List Vl} {xs : List V} {c : Addr → Nat} (n : Nat), Reps K mg H F T as vs xs c → ∃ c', Reps K mg H F T as (vs.take n) (xs.take n) c' ∧ ∀ b, c' b ≤ c b
  | _, _, _, 0, r => ⟨fun _ => 0, by simp only [List.take_zero]; exact .nil fun _ => rfl, fun _ => Nat.zero_le _⟩
  | _, _, _, n + 1, .nil hc => ⟨_, .nil hc, fun _ => Nat.le_refl _⟩
  | _, _, _, n + 1, .cons r s hc => by
    obtain ⟨c', h1, h2⟩ := s.take n
    exact ⟨_, .cons r h1 fun _ => rfl, fun b => by rw [hc]; have := h2 b; omega⟩
theorem Reps.drop : ∀ {vs : List Vl} {xs : List V} {c : Addr → Nat} (n : Nat), Reps K mg H F T as vs xs c → ∃ c', Reps K mg H F T as (vs.drop n) (xs.drop n) c' ∧ ∀ b, c' b ≤ c b
  | _, _, _, 0, r => ⟨_, r, fun _ => Nat.le_refl _⟩
  | _, _, _, n + 1, .nil hc => ⟨_, .nil hc, fun _ => Nat.le_refl _⟩
  | _, _, _, n + 1, .cons r s hc => by
    obtain ⟨c', h1, h2⟩ := s.drop n
    exact ⟨c', h1, fun b => by rw [hc]; have := h2 b; omega⟩
theorem Reps.at : ∀ {vs : List Vl} {xs : List V} {c : Addr → Nat} {i : Nat} {v : Vl}, Reps K mg H F T as vs xs c → vs[i]? = some v → ∃ x c', xs[i]? = some x ∧ Rep K mg H F T as v x c' ∧ ∀ b, c' b ≤ c b
  | _, _, _, _, _, .nil _, e => by simp at e
  | _, _, _, 0, _, .cons r s hc, e => by
    simp at e
    subst e
    exact ⟨_, _, rfl, r, fun b => by rw [hc]; omega⟩
  | _, _, _, i + 1, _, .cons r s hc, e => by
    obtain ⟨x, c', h1, h2, h3⟩ := s.at (i := i) (by simpa using e)
    exact ⟨x, c', by simpa using h1, h2, fun b => by rw [hc]; have := h3 b; omega⟩
mutual
theorem Rep.none0 : ∀ {v : Vl} {x : V} {c : Addr → Nat}, Rep K mg H F T as v x c → noOwn v = true → ∀ b, c b = 0
  | _, _, _, .non hc, _ => hc
  | _, _, _, .bl hc, _ => hc
  | _, _, _, .int hc, _ => hc
  | _, _, _, .str hc, _ => hc
  | _, _, _, .ref _ hc, _ => hc
  | _, _, _, .sym _ hc, _ => hc
  | _, _, _, .tup _ r, n => by unfold noOwn at n; exact Reps.none0 r n
  | _, _, _, .own _ _ r hc, n => by unfold noOwn at n; simp at n
  | _, _, _, .sh _ _ hc, _ => hc
  | _, _, _, .bw _ _ hc, _ => hc
  | _, _, _, .tr _ _ hc, _ => hc
theorem Reps.none0 : ∀ {v : List Vl} {x : List V} {c : Addr → Nat}, Reps K mg H F T as v x c → noOwns v = true → ∀ b, c b = 0
  | _, _, _, .nil hc, _ => hc
  | _, _, _, .cons r s hc, n => fun b => by
    unfold noOwns at n
    simp only [Bool.and_eq_true] at n
    rw [hc, Rep.none0 r n.1, Reps.none0 s n.2]
end
end
end PyI

namespace PyI
open PySem PySem.Spec PyProof.Rows L2

/-- weaken what is wanted -/
theorem EI.mono {K : PySem.W.Frag} {mg : Str → Option Value} {W : WX} {f : E} {σ : L2.St} {H : Hp} {Q Q' : VK} (h : EI K mg W f σ H Q) (i : ∀ x H', Q x H' → Q' x H') : EI K mg W f σ H Q' := by
  obtain ⟨F, T, as, L, st, c, r0, p⟩ := h
  refine ⟨F, T, as, L, st, c, r0, ?_⟩
  cases e : f st with
  | bad => rw [e] at p; exact p
  | exc cl s => rw [e] at p; exact p
  | ok q =>
    obtain ⟨v, st1, f1⟩ := q
    rw [e] at p
    exact fun F' as' H' x c1 c2 r1 rv s1 p1 ef => i _ _ (p F' as' H' x c1 c2 r1 rv s1 p1 ef)
theorem AI.mono {K : PySem.W.Frag} {mg : Str → Option Value} {W : WX} {f : List E} {σ : L2.St} {H : Hp} {Q Q' : List V → Hp → Prop} (h : AI K mg W f σ H Q) (i : ∀ x H', Q x H' → Q' x H') : AI K mg W f σ H Q' := by
  obtain ⟨F, T, as, L, st, c, r0, p⟩ := h
  refine ⟨F, T, as, L, st, c, r0, ?_⟩
  cases e : evs f st with
  | bad => rw [e] at p; exact p
  | exc cl s => rw [e] at p; exact p
  | ok q =>
    obtain ⟨v, st1, f1⟩ := q
    rw [e] at p
    exact fun F' as' H' x c1 c2 r1 rv s1 p1 ef => i _ _ (p F' as' H' x c1 c2 r1 rv s1 p1 ef)
theorem AI.one {K : PySem.W.Frag} {mg : Str → Option Value} {W : WX} {f : E} {σ : L2.St} {H : Hp} {Q : List V → Hp → Prop} (h : AI K mg W [f] σ H Q) : EI K mg W f σ H fun x H1 => Q [x] H1 := h.cons.mono fun _ _ h => h.nil
theorem AI.two {K : PySem.W.Frag} {mg : Str → Option Value} {W : WX} {f g : E} {σ : L2.St} {H : Hp} {Q : List V → Hp → Prop} (h : AI K mg W [f, g] σ H Q) : EI K mg W f σ H fun x H1 => EI K mg W g σ H1 fun y H2 => Q [x, y] H2 := h.cons.mono fun _ _ h => h.one
section
variable {X : Cx} {a b : Expr} {fa fb : E} {pos : Pos}
theorem EOk.bin {op : Operator} {g : List Vl → Option Vl} {r : R2} (ho : OpR X (binaryOp op) r) (hg : GOp X.K X.mg g (fun xs H Q => ∃ x y, xs = [x, y] ∧ r x y H Q)) (ha : EOk X a fa) (hb : EOk X b fb) : EOk X (.BinOp a op b pos) (opE g [fa, fb]) := fun W t =>
  (pe_op ho (ha W t) (hb W t)).imp fun σ H Q h => (h.op hg).two.mono fun _ _ h => h.mono fun _ _ ⟨_, _, e, q⟩ => by cases e; exact q
theorem EOk.un {op : UnaryOp} {g : List Vl → Option Vl} {r : V → Hp → VK → Prop} (ho : UnR X (unaryOp op) r) (hg : GOp X.K X.mg g (fun xs H Q => ∃ x, xs = [x] ∧ r x H Q)) (ha : EOk X a fa) : EOk X (.UnaryOp op a pos) (opE g [fa]) := fun W t =>
  (pe_un ho (ha W t)).imp fun σ H Q h => (h.op hg).one.mono fun _ _ ⟨_, e, q⟩ => by cases e; exact q
theorem EOk.cmp {op : CmpOp} {g : List Vl → Option Vl} {r : R2} (ho : OpR X (compareOp op) r) (hg : GOp X.K X.mg g (fun xs H Q => ∃ x y, xs = [x, y] ∧ r x y H Q)) (ha : EOk X a fa) (hb : EOk X b fb) (hm : behindInMarks op b = false) : EOk X (.Compare a [op] [b] pos) (opE g [fa, fb]) := fun W t =>
  (pe_cmpR ho (ha W t) (hb W t) hm).imp fun σ H Q h => (h.op hg).two.mono fun _ _ h => h.mono fun _ _ ⟨_, _, e, q⟩ => by cases e; exact q
theorem TOk.cmp {op : CmpOp} {g : List Vl → Option Vl} {r : R2} (ho : OpR X (compareOp op) r) (hg : GOp X.K X.mg g (fun xs H Q => ∃ x y, xs = [x, y] ∧ r x y H Q)) (ha : EOk X a fa) (hb : EOk X b fb) (hm : behindInMarks op b = false) : TOk X (.Compare a [op] [b] pos) (opE g [fa, fb]) := fun W t =>
  (pt_cmpR ho (ha W t) (hb W t) hm).imp fun σ H Q h => (EI.op h hg).two.mono fun _ _ h => h.mono fun _ _ ⟨_, _, e, q⟩ => by cases e; exact q
theorem EOk.callB {x : Str} {id : String} {p : Pos} {e : Expr} {es : List Expr} {fs : List E} {g : List Vl → Option Vl} {r : List V → Hp → VK → Prop} (hc : CallR X (.builtin id) r) (hg : GOp X.K X.mg g r) (hgl : Gl X x) (hm : X.mg x = none) (hv : bootBuiltins x = some (.builtin id)) (ha : AOk X (e :: es) fs)
    (hn : x ≠ "__name__" := by decide) (hdb : (x == ("__debug__" : Str)) = false := by decide) (he : starEach (e :: es) X.env = (false, eval e X.env) :: starEach es X.env := by rfl) (hpl : (backTo pos (starEach es X.env)).any (·.1) = false := by rfl) : EOk X (.Call (.Name x p) (e :: es) [] pos) (opE g fs) := fun W t =>
  (pe_callB hc hgl hm hv (ha W t) hn hdb he hpl).imp fun σ H Q h => h.op hg
theorem EOk.callTy {x : Str} {id : String} {p : Pos} {e : Expr} {es : List Expr} {fs : List E} {g : List Vl → Option Vl} {r : List V → Hp → VK → Prop} (hc : CallR X (.type id) r) (hg : GOp X.K X.mg g r) (hgl : Gl X x) (hm : X.mg x = none) (hv : bootBuiltins x = some (.type id)) (ha : AOk X (e :: es) fs)
    (hn : x ≠ "__name__" := by decide) (hdb : (x == ("__debug__" : Str)) = false := by decide) (he : starEach (e :: es) X.env = (false, eval e X.env) :: starEach es X.env := by rfl) (hpl : (backTo pos (starEach es X.env)).any (·.1) = false := by rfl) : EOk X (.Call (.Name x p) (e :: es) [] pos) (opE g fs) := fun W t =>
  (pe_callTy hc hgl hm hv (ha W t) hn hdb he hpl).imp fun σ H Q h => h.op hg
theorem EOk.ix {r : R2} {g : List Vl → Option Vl} (hr : IxR X r) (hg : GOp X.K X.mg g (fun xs H Q => ∃ x y, xs = [x, y] ∧ r x y H Q)) (ha : EOk X a fa) (hb : EOk X b fb) (hs : PlainIx b) : EOk X (.Subscript a b pos) (opE g [fa, fb]) := fun W t =>
  (pe_ix hr (ha W t) (hb W t) hs).imp fun σ H Q h => (h.op hg).two.mono fun _ _ h => h.mono fun _ _ ⟨_, _, e, q⟩ => by cases e; exact q
end

/-! ### whole numbers -/
def i2 (f : Int → Int → Vl) : List Vl → Option Vl
  | [.int i, .int j] => some (f i j)
  | _ => none
def i2c (C : Int → Int → Bool) (f : Int → Int → Vl) : List Vl → Option Vl
  | [.int i, .int j] => if C i j then some (f i j) else none
  | _ => none
theorem i2c_inv {C : Int → Int → Bool} {f : Int → Int → Vl} : ∀ {vs : List Vl} {v : Vl}, i2c C f vs = some v → ∃ i j, vs = [.int i, .int j] ∧ C i j = true ∧ v = f i j := by
  intro vs v h
  unfold i2c at h
  split at h
  · split at h
    · rename_i i j hc
      exact ⟨i, j, rfl, hc, (Option.some.inj h).symm⟩
    · cases h
  · cases h
section
variable {K : PySem.W.Frag} {mg : Str → Option Value}
theorem gop_i2 {C : Int → Int → Prop} {D : Int → Int → Bool} {f : Int → Int → Int} (hC : ∀ i j, D i j = true → C i j) : GOp K mg (i2c D fun i j => .int (f i j)) (fun xs H Q => ∃ x y, xs = [x, y] ∧ rI C (fun i j => .int (f i j)) x y H Q) := by
  intro H F T as vs xs c v Q r hl e fin
  obtain ⟨i, j, rfl, hc, rfl⟩ := i2c_inv e
  obtain ⟨x, y, c1, c2, rfl, r1, r2, _⟩ := r.inv2
  exact ⟨x, y, rfl, i, j, r1.inv_int, r2.inv_int, hC i j hc, fin.int⟩
theorem gop_i2' {D : Int → Int → Bool} {f : Int → Int → Int} : GOp K mg (i2c D fun i j => .int (f i j)) (fun xs H Q => ∃ x y, xs = [x, y] ∧ rI0 (fun i j => .int (f i j)) x y H Q) := by
  intro H F T as vs xs c v Q r hl e fin
  obtain ⟨i, j, rfl, hc, rfl⟩ := i2c_inv e
  obtain ⟨x, y, c1, c2, rfl, r1, r2, _⟩ := r.inv2
  exact ⟨x, y, rfl, i, j, r1.inv_int, r2.inv_int, fin.int⟩
theorem gop_b2' {D : Int → Int → Bool} {f : Int → Int → Bool} : GOp K mg (i2c D fun i j => .bl (f i j)) (fun xs H Q => ∃ x y, xs = [x, y] ∧ rI0 (fun i j => .bl (f i j)) x y H Q) := by
  intro H F T as vs xs c v Q r hl e fin
  obtain ⟨i, j, rfl, hc, rfl⟩ := i2c_inv e
  obtain ⟨x, y, c1, c2, rfl, r1, r2, _⟩ := r.inv2
  exact ⟨x, y, rfl, i, j, r1.inv_int, r2.inv_int, fin.bl⟩
end
def gSub : List Vl → Option Vl := i2c (fun _ _ => true) fun i j => .int (i - j)
def gDiv : List Vl → Option Vl := i2c (fun _ j => decide (0 < j) && inB 1073741823 j) fun i j => .int (i / j)
def gMod : List Vl → Option Vl := i2c (fun _ j => decide (0 < j)) fun i j => .int (i % j)
def gPow : List Vl → Option Vl := i2c (fun i j => decide (0 ≤ j) && inB 1000000 j && inB 18446744073709551615 i) fun i j => .int (i ^ j.toNat)
def gShl : List Vl → Option Vl := i2c (fun i j => decide (0 ≤ j) && inB 1000000 j && inB 18446744073709551615 i) fun i j => .int (i * 2 ^ j.toNat)
def gShr : List Vl → Option Vl := i2c (fun _ j => decide (0 ≤ j)) fun i j => .int (i / 2 ^ j.toNat)
def gAnd : List Vl → Option Vl := i2c (fun _ _ => true) fun i j => .int (Builtin.bitAnd i j)
def gOr : List Vl → Option Vl := i2c (fun _ _ => true) fun i j => .int (Builtin.bitOr i j)
def gXor : List Vl → Option Vl := i2c (fun _ _ => true) fun i j => .int (Builtin.bitXor i j)
def gNeg : List Vl → Option Vl
  | [.int i] => some (.int (-i))
  | _ => none
section
variable {X : Cx} {a b : Expr} {fa fb : E} {pos : Pos}
theorem EOk.sub (ha : EOk X a fa) (hb : EOk X b fb) : EOk X (.BinOp a .Sub b pos) (opE gSub [fa, fb]) := .bin op_sub gop_i2' ha hb
theorem EOk.div (ha : EOk X a fa) (hb : EOk X b fb) : EOk X (.BinOp a .FloorDiv b pos) (opE gDiv [fa, fb]) := .bin op_fdiv (gop_i2 fun i j h => by simp only [Bool.and_eq_true, decide_eq_true_eq, inB_eq] at h; exact ⟨h.1, by omega⟩) ha hb
theorem EOk.mod (ha : EOk X a fa) (hb : EOk X b fb) : EOk X (.BinOp a .Mod b pos) (opE gMod [fa, fb]) := .bin op_mod (gop_i2 fun i j h => by simpa using h) ha hb
theorem EOk.pow (ha : EOk X a fa) (hb : EOk X b fb) : EOk X (.BinOp a .Pow b pos) (opE gPow [fa, fb]) := .bin op_pow (gop_i2 fun i j h => by simp only [Bool.and_eq_true, decide_eq_true_eq, inB_eq] at h; exact ⟨h.1.1, by omega, by omega⟩) ha hb
theorem EOk.shl (ha : EOk X a fa) (hb : EOk X b fb) : EOk X (.BinOp a .LShift b pos) (opE gShl [fa, fb]) := .bin op_shl (gop_i2 fun i j h => by simp only [Bool.and_eq_true, decide_eq_true_eq, inB_eq] at h; exact ⟨h.1.1, by omega, by omega⟩) ha hb
theorem EOk.shr (ha : EOk X a fa) (hb : EOk X b fb) : EOk X (.BinOp a .RShift b pos) (opE gShr [fa, fb]) := .bin op_shr (gop_i2 fun i j h => by simpa using h) ha hb
theorem EOk.and_ (ha : EOk X a fa) (hb : EOk X b fb) : EOk X (.BinOp a .BitAnd b pos) (opE gAnd [fa, fb]) := .bin op_and gop_i2' ha hb
theorem EOk.or_ (ha : EOk X a fa) (hb : EOk X b fb) : EOk X (.BinOp a .BitOr b pos) (opE gOr [fa, fb]) := .bin op_or gop_i2' ha hb
theorem EOk.xor_ (ha : EOk X a fa) (hb : EOk X b fb) : EOk X (.BinOp a .BitXor b pos) (opE gXor [fa, fb]) := .bin op_xor gop_i2' ha hb
theorem EOk.neg (ha : EOk X a fa) : EOk X (.UnaryOp .USub a pos) (opE gNeg [fa]) := .un un_neg (by
  intro H F T as vs xs c v Q r hl e fin
  unfold gNeg at e
  split at e
  · cases e
    obtain ⟨x, rfl, r1⟩ := r.inv1
    exact ⟨x, rfl, _, r1.inv_int, fin.int⟩
  · cases e) ha
end

/-! ### +, * of several kinds -/
def gAdd : List Vl → Option Vl
  | [.int i, .int j] => some (.int (i + j))
  | [.str i, .str j] => if i.length + j.length ≤ sizeLine then some (.str (i ++ j)) else none
  | [.tup xs, .tup ys] => if xs.isEmpty || decide (sizeLine < xs.length + ys.length) then none else some (.tup (xs ++ ys))
  | [.nd f .lst xs, .nd g .lst ys] => if xs.length + ys.length ≤ sizeLine then some (mkL (xs ++ ys)) else none
  | _ => none
/-- + of two lists that may be read -/
def rCatS (K : PySem.W.Frag) : R2 := fun x y H Q => ∃ l b xs zs, x = .ref l ∧ y = .ref b ∧ SqL K H l xs ∧ SqL K H b zs ∧ xs.length + zs.length ≤ sizeLine ∧ ∀ p, H p = none → Q (.ref p) (upd H p (.lst (xs ++ zs)))
theorem op_catS {X : Cx} : OpR X (binaryOp .Add) (rCatS X.K) := by
  intro pins s σ H x y v u Q I rx ry h
  obtain ⟨l, b, xs, zs, rfl, rfl, hH, hB, hz, q⟩ := h
  cases rx
  cases ry
  obtain ⟨its, r, p, z⟩ := I.list hH
  obtain ⟨its2, r2, p2, z2⟩ := I.list hB
  obtain ⟨⟨cls, dd, data, sl⟩, n, ho, hc, hd, hdd⟩ := p
  obtain ⟨⟨cls2, dd2, data2, sl2⟩, n2, ho2, hc2, hd2, hdd2⟩ := p2
  simp only at hc hd hdd hc2 hd2 hdd2
  subst hc hd hdd hc2 hd2 hdd2
  have hl := r.length
  have hl2 := r2.length
  have e : its.toArray ++ its2.toArray = (its ++ its2).toArray := by simp
  refine concat_meets ⟨_, ho, rfl⟩ ⟨_, ho2, rfl⟩ noFill_list_add seq_list_add PySem.F.slot_list_add PySem.F.entry_list_add (PySem.F.args_list_add_2 _ _) (PyProof.Rows.list_addW l b its.toArray its2.toArray n n2 none none sl sl2 (by simp; omega)) ⟨ho, ho2, ?_⟩
  rw [e]
  exact ⟨.ref _, _, I.lnew (t' := s.toks) (r.append r2) (by rw [List.length_append]; omega), rfl, q _ I.fresh⟩
section
variable {K : PySem.W.Frag} {mg : Str → Option Value}
def rAddA (K : PySem.W.Frag) : R2 := fun x y H Q => ((rI0 (fun i j => .int (i + j)) x y H Q ∨ (∃ i j, x = .str i ∧ y = .str j ∧ i.length + j.length ≤ sizeLine ∧ Q (.str (i ++ j)) H)) ∨ rCatT K x y H Q) ∨ rCatS K x y H Q
theorem gop_add : GOp K mg gAdd (fun xs H Q => ∃ x y, xs = [x, y] ∧ rAddA K x y H Q) := by
  intro H F T as vs xs c v Q r hl e fin
  unfold gAdd at e
  split at e
  · cases e
    obtain ⟨x, y, c1, c2, rfl, r1, r2, _⟩ := r.inv2
    exact ⟨x, y, rfl, .inl (.inl (.inl ⟨_, _, r1.inv_int, r2.inv_int, fin.int⟩))⟩
  · split at e
    · cases e
      obtain ⟨x, y, c1, c2, rfl, r1, r2, _⟩ := r.inv2
      exact ⟨x, y, rfl, .inl (.inl (.inr ⟨_, _, r1.inv_str, r2.inv_str, by assumption, fin.str⟩))⟩
    · cases e
  · split at e
    · cases e
    · rename_i xs1 ys1 hc
      cases e
      simp only [Bool.or_eq_true, decide_eq_true_eq, not_or, List.isEmpty_iff] at hc
      obtain ⟨x, y, c1, c2, rfl, r1, r2, hcc⟩ := r.inv2
      obtain ⟨a, xa, rfl, h1, s1⟩ := r1.inv_tup
      obtain ⟨b, xb, rfl, h2, s2⟩ := r2.inv_tup
      have l1 := s1.length
      have l2 := s2.length
      have ne : xa ≠ [] := fun z => hc.1 (by rw [z] at l1; exact List.length_eq_zero_iff.mp l1)
      refine ⟨.ref a, .ref b, rfl, .inl (.inr ⟨a, b, xa, xb, rfl, rfl, h1, h2, ne, by omega, fun z => ?_, fun z p hp => ?_⟩)⟩
      · have z2 : ys1 = [] := List.length_eq_zero_iff.mp (by rw [l2, z]; rfl)
        subst z2
        rw [List.append_nil] at fin
        exact fin H _ c1 (.tup h1 s1) (fun b => .inl (by rw [hcc]; omega)) (Same.refl H)
      · have sm : Same H (upd H p (.tup (xa ++ xb))) := same_new hp
        exact fin _ _ _ (.tup (.inl (.inl upd_same)) ((s1.append s2).same sm (fun _ h => h) (fun _ h => h) Pre.refl)) (fun b => .inl (by rw [hcc]; exact Nat.le_refl _)) sm
  · split at e
    · cases e
      obtain ⟨x, y, c1, c2, rfl, r1, r2, hcc⟩ := r.inv2
      obtain ⟨a, xa, c1', rfl, h1, s1, k1⟩ := r1.inv_lst
      obtain ⟨b, xb, c2', rfl, h2, s2, k2⟩ := r2.inv_lst
      have l1 := s1.length
      have l2 := s2.length
      refine ⟨.ref a, .ref b, rfl, .inr ⟨a, b, xa, xb, rfl, rfl, h1, h2, by omega, fun p hp => ?_⟩⟩
      exact fin.mkL (s1.append s2) (fun b => by rw [hcc]; have := k1 b; have := k2 b; omega) hl (same_new hp) hp upd_same
    · cases e
  · cases e
end
def gMul : List Vl → Option Vl
  | [.int i, .int j] => if inB 18446744073709551615 i || inB 18446744073709551615 j then some (.int (i * j)) else none
  | [.nd .own .lst xs, .int k] => if inB 9223372036854775807 k && decide (xs.length * k.toNat ≤ sizeLine) then
      some (if noOwns xs then mkL (List.replicate k.toNat xs).flatten else .nd .tr .lst (List.replicate k.toNat (peeks xs)).flatten) else none
  | _ => none
section
variable {K : PySem.W.Frag} {mg : Str → Option Value} {H : Hp} {F T : Addr → Prop} {as : List Addr}
theorem Reps.rep {vs : List Vl} {xs : List V} (r : Reps K mg H F T as vs xs (fun _ => 0)) : ∀ k : Nat, Reps K mg H F T as (List.replicate k vs).flatten (List.replicate k xs).flatten (fun _ => 0)
  | 0 => .nil fun _ => rfl
  | k + 1 => by
    have := r.append (Reps.rep r k)
    simpa [List.replicate_succ] using this
def rMulA : R2 := fun x y H Q => rI CMul (fun i j => .int (i * j)) x y H Q ∨ rRep x y H Q
theorem gop_mul : GOp K mg gMul (fun xs H Q => ∃ x y, xs = [x, y] ∧ rMulA x y H Q) := by
  intro H F T as vs xs c v Q r hl e fin
  unfold gMul at e
  split at e
  · split at e
    · rename_i i j hc
      cases e
      obtain ⟨x, y, c1, c2, rfl, r1, r2, _⟩ := r.inv2
      refine ⟨x, y, rfl, .inl ⟨i, j, r1.inv_int, r2.inv_int, ?_, fin.int⟩⟩
      simp only [Bool.or_eq_true, inB_eq] at hc
      show _ ∨ _
      omega
    · cases e
  · split at e
    · rename_i ys k hc
      simp only [Bool.and_eq_true, decide_eq_true_eq, inB_eq] at hc
      obtain ⟨x, y, c1, c2, rfl, r1, r2, hcc⟩ := r.inv2
      have z := r2.inv_int
      subst z
      cases r1 with
      | own h ho r1 hc1 =>
        cases ho
        have l1 := r1.length
        refine ⟨_, _, rfl, .inr ⟨_, k, _, rfl, rfl, h, by omega, by omega, by rw [← l1]; exact hc.2, fun p hp => ?_⟩⟩
        have e' := Option.some.inj e
        by_cases no : noOwns ys = true
        · rw [if_pos no] at e'
          subst e'
          have z0 := Reps.none0 r1 no
          rename_i c'
          have z1 : c' = fun _ => 0 := funext z0
          rw [z1] at r1
          exact fin.mkL (r1.rep k.toNat) (fun b => Nat.zero_le _) hl (same_new hp) hp upd_same
        · rw [if_neg no] at e'
          subst e'
          rename_i a0 xs0 c'
          have sm : Same H (upd H p (.lst (List.replicate k.toNat xs0).flatten)) := same_new hp
          exact fin _ (.ref p) (fun _ => 0) (.tr (.inl ⟨_, rfl, .inl upd_same⟩) ((Reps.rep r1.peek k.toNat).same sm (fun _ h => h) (fun _ h => h) Pre.refl) fun _ => rfl) (fun b => .inl (Nat.zero_le _)) sm
    · cases e
  · cases e
end
section
variable {X : Cx} {a b : Expr} {fa fb : E} {pos : Pos}
theorem EOk.add (ha : EOk X a fa) (hb : EOk X b fb) : EOk X (.BinOp a .Add b pos) (opE gAdd [fa, fb]) := .bin (((op_add.or op_add_str).or op_catT).or op_catS) gop_add ha hb
theorem EOk.mul (ha : EOk X a fa) (hb : EOk X b fb) : EOk X (.BinOp a .Mult b pos) (opE gMul [fa, fb]) := .bin (op_mul.or op_rep) gop_mul ha hb
end

/-! ### comparisons -/
def gLt : List Vl → Option Vl := i2c (fun _ _ => true) fun i j => .bl (decide (i < j))
def gLe : List Vl → Option Vl := i2c (fun _ _ => true) fun i j => .bl (decide (i ≤ j))
def gGt : List Vl → Option Vl := i2c (fun _ _ => true) fun i j => .bl (decide (j < i))
def gGe : List Vl → Option Vl := i2c (fun _ _ => true) fun i j => .bl (decide (j ≤ i))
mutual
def pyOf : Vl → Option PyData
  | .non => some .none
  | .bl b => some (.bool b)
  | .int i => some (.int i)
  | .str x => some (.str x)
  | .tup xs => (pysOf xs).map .tuple
  | .nd _ .lst xs => (pysOf xs).map .list
  | _ => none
def pysOf : List Vl → Option (List PyData)
  | [] => some []
  | v :: r => match pyOf v, pysOf r with
    | some d, some ds => some (d :: ds)
    | _, _ => none
end
section
variable {K : PySem.W.Frag} {mg : Str → Option Value} {H : Hp} {F T : Addr → Prop} {as : List Addr}
mutual
theorem Rep.dp : ∀ {v : Vl} {x : V} {c : Addr → Nat} {d : PyData}, Rep K mg H F T as v x c → pyOf v = some d → Dp K H x d
  | .non, _, _, _, r, e => by unfold pyOf at e; cases e; rw [r.inv_non]; exact .non
  | .bl _, _, _, _, r, e => by unfold pyOf at e; cases e; rw [r.inv_bl]; exact .bl _
  | .int _, _, _, _, r, e => by unfold pyOf at e; cases e; rw [r.inv_int]; exact .int _
  | .str _, _, _, _, r, e => by unfold pyOf at e; cases e; rw [r.inv_str]; exact .str _
  | .ref _, _, _, _, r, e => by unfold pyOf at e; cases e
  | .sym _, _, _, _, r, e => by unfold pyOf at e; cases e
  | .tup xs, _, _, _, r, e => by
    unfold pyOf at e
    obtain ⟨ds, e1, e2⟩ := Option.map_eq_some_iff.mp e
    subst e2
    obtain ⟨a, ys, rfl, h, s⟩ := r.inv_tup
    exact .tup h (Reps.dp s e1)
  | .nd f .lst xs, _, _, _, r, e => by
    unfold pyOf at e
    obtain ⟨ds, e1, e2⟩ := Option.map_eq_some_iff.mp e
    subst e2
    obtain ⟨a, ys, c', rfl, h, s, _⟩ := r.inv_lst
    exact .lst h (Reps.dp s e1)
  | .nd f (.dK _) xs, _, _, _, r, e => by unfold pyOf at e; cases e
  | .nd f (.dT _) xs, _, _, _, r, e => by unfold pyOf at e; cases e
  | .nd f (.ins _ _) xs, _, _, _, r, e => by unfold pyOf at e; cases e
theorem Reps.dp : ∀ {v : List Vl} {x : List V} {c : Addr → Nat} {d : List PyData}, Reps K mg H F T as v x c → pysOf v = some d → DpAll K H x d
  | _, _, _, _, .nil _, e => by unfold pysOf at e; cases e; exact .nil
  | _, _, _, _, .cons r s _, e => by
    unfold pysOf at e
    split at e
    · rename_i d ds e1 e2
      cases e
      exact .cons (Rep.dp r e1) (Reps.dp s e2)
    · cases e
end
end
def gEq : List Vl → Option Vl
  | [a, b] => match pyOf a, pyOf b with
    | some d, some e => if SeqAt.shaped d && SeqAt.shaped e then some (.bl (PyData.eqv d e)) else none
    | _, _ => none
  | _ => none
def gNe : List Vl → Option Vl
  | [a, b] => match pyOf a, pyOf b with
    | some d, some e => if SeqAt.shaped d && SeqAt.shaped e then some (.bl (!PyData.eqv d e)) else none
    | _, _ => none
  | _ => none
def isNon : Vl → Bool
  | .non => true
  | _ => false
def gIsN : List Vl → Option Vl
  | [a] => some (.bl (isNon a))
  | _ => none
def gNotN : List Vl → Option Vl
  | [a] => some (.bl (!isNon a))
  | _ => none
section
variable {K : PySem.W.Frag} {mg : Str → Option Value}
theorem gop_eq : GOp K mg gEq (fun xs H Q => ∃ x y, xs = [x, y] ∧ rEqD K x y H Q) := by
  intro H F T as vs xs c v Q r hl e fin
  unfold gEq at e
  split at e
  · split at e
    · split at e
      · rename_i a b d d' e1 e2 hc
        cases e
        simp only [Bool.and_eq_true] at hc
        obtain ⟨x, y, c1, c2, rfl, r1, r2, _⟩ := r.inv2
        exact ⟨x, y, rfl, d, d', r1.dp e1, r2.dp e2, hc.1, hc.2, fin.bl⟩
      · cases e
    · cases e
  · cases e
theorem gop_ne : GOp K mg gNe (fun xs H Q => ∃ x y, xs = [x, y] ∧ rNeD K x y H Q) := by
  intro H F T as vs xs c v Q r hl e fin
  unfold gNe at e
  split at e
  · split at e
    · split at e
      · rename_i a b d d' e1 e2 hc
        cases e
        simp only [Bool.and_eq_true] at hc
        obtain ⟨x, y, c1, c2, rfl, r1, r2, _⟩ := r.inv2
        exact ⟨x, y, rfl, d, d', r1.dp e1, r2.dp e2, hc.1, hc.2, fin.bl⟩
      · cases e
    · cases e
  · cases e
theorem Rep.isN {H : Hp} {F T : Addr → Prop} {as : List Addr} {v : Vl} {x : V} {c : Addr → Nat} (r : Rep K mg H F T as v x c) : decide (x = .non) = isNon v := by
  cases r with
  | sym h hc =>
    rename_i k
    cases k with
    | ty n => cases h; rfl
    | cls c => obtain ⟨_, _, rfl⟩ := h; rfl
    | fn c => obtain ⟨_, _, rfl⟩ := h; rfl
    | exc c => obtain ⟨_, _, _, rfl, _⟩ := h; rfl
  | _ => simp [isNon]
theorem gop_isN : GOp K mg gIsN (fun xs H Q => ∃ x, xs = [x] ∧ Q (.bl (decide (x = .non))) H) := by
  intro H F T as vs xs c v Q r hl e fin
  unfold gIsN at e
  split at e
  · cases e
    obtain ⟨x, rfl, r1⟩ := r.inv1
    refine ⟨x, rfl, ?_⟩
    rw [r1.isN]
    exact fin.bl
  · cases e
theorem gop_notN : GOp K mg gNotN (fun xs H Q => ∃ x, xs = [x] ∧ Q (.bl (!decide (x = .non))) H) := by
  intro H F T as vs xs c v Q r hl e fin
  unfold gNotN at e
  split at e
  · rename_i a
    cases e
    obtain ⟨x, rfl, r1⟩ := r.inv1
    refine ⟨x, rfl, ?_⟩
    rw [r1.isN]
    exact fin.bl
  · cases e
end
section
variable {X : Cx} {a b : Expr} {fa fb : E} {pos : Pos}
theorem EOk.lt (ha : EOk X a fa) (hb : EOk X b fb) : EOk X (.Compare a [.Lt] [b] pos) (opE gLt [fa, fb]) := .cmp op_lt gop_b2' ha hb (nomark _)
theorem EOk.le (ha : EOk X a fa) (hb : EOk X b fb) : EOk X (.Compare a [.LtE] [b] pos) (opE gLe [fa, fb]) := .cmp op_le gop_b2' ha hb (nomark _)
theorem EOk.gt (ha : EOk X a fa) (hb : EOk X b fb) : EOk X (.Compare a [.Gt] [b] pos) (opE gGt [fa, fb]) := .cmp op_gt gop_b2' ha hb (nomark _)
theorem EOk.ge (ha : EOk X a fa) (hb : EOk X b fb) : EOk X (.Compare a [.GtE] [b] pos) (opE gGe [fa, fb]) := .cmp op_ge gop_b2' ha hb (nomark _)
theorem EOk.eq (hu : X.A.units + 64 < cLine) (ha : EOk X a fa) (hb : EOk X b fb) : EOk X (.Compare a [.Eq] [b] pos) (opE gEq [fa, fb]) := .cmp (op_eqD hu) gop_eq ha hb (nomark _)
theorem EOk.ne (hu : X.A.units + 64 < cLine) (ha : EOk X a fa) (hb : EOk X b fb) : EOk X (.Compare a [.NotEq] [b] pos) (opE gNe [fa, fb]) := .cmp (op_neD hu) gop_ne ha hb (nomark _)
theorem TOk.lt (ha : EOk X a fa) (hb : EOk X b fb) : TOk X (.Compare a [.Lt] [b] pos) (opE gLt [fa, fb]) := .cmp op_lt gop_b2' ha hb (nomark _)
theorem TOk.le (ha : EOk X a fa) (hb : EOk X b fb) : TOk X (.Compare a [.LtE] [b] pos) (opE gLe [fa, fb]) := .cmp op_le gop_b2' ha hb (nomark _)
theorem TOk.gt (ha : EOk X a fa) (hb : EOk X b fb) : TOk X (.Compare a [.Gt] [b] pos) (opE gGt [fa, fb]) := .cmp op_gt gop_b2' ha hb (nomark _)
theorem TOk.ge (ha : EOk X a fa) (hb : EOk X b fb) : TOk X (.Compare a [.GtE] [b] pos) (opE gGe [fa, fb]) := .cmp op_ge gop_b2' ha hb (nomark _)
theorem TOk.eq (hu : X.A.units + 64 < cLine) (ha : EOk X a fa) (hb : EOk X b fb) : TOk X (.Compare a [.Eq] [b] pos) (opE gEq [fa, fb]) := .cmp (op_eqD hu) gop_eq ha hb (nomark _)
theorem TOk.ne (hu : X.A.units + 64 < cLine) (ha : EOk X a fa) (hb : EOk X b fb) : TOk X (.Compare a [.NotEq] [b] pos) (opE gNe [fa, fb]) := .cmp (op_neD hu) gop_ne ha hb (nomark _)
theorem EOk.isN {j pos'} (ha : EOk X a fa) : EOk X (.Compare a [.Is] [.Constant .none j pos'] pos) (opE gIsN [fa]) := fun W t =>
  (pe_cmp (pc_isN (ha W t))).imp fun σ H Q h => (h.op gop_isN).one.mono fun _ _ ⟨_, e, q⟩ => by cases e; exact q
theorem EOk.notN {j pos'} (ha : EOk X a fa) : EOk X (.Compare a [.IsNot] [.Constant .none j pos'] pos) (opE gNotN [fa]) := fun W t =>
  (pe_cmp (pc_notN (ha W t))).imp fun σ H Q h => (h.op gop_notN).one.mono fun _ _ ⟨_, e, q⟩ => by cases e; exact q
theorem TOk.isN {j pos'} (ha : EOk X a fa) : TOk X (.Compare a [.Is] [.Constant .none j pos'] pos) (opE gIsN [fa]) := fun W t =>
  (pt_cmp (pc_isN (ha W t))).imp fun σ H Q h => (EI.op h gop_isN).one.mono fun _ _ ⟨_, e, q⟩ => by cases e; exact q
theorem TOk.notN {j pos'} (ha : EOk X a fa) : TOk X (.Compare a [.IsNot] [.Constant .none j pos'] pos) (opE gNotN [fa]) := fun W t =>
  (pt_cmp (pc_notN (ha W t))).imp fun σ H Q h => (EI.op h gop_notN).one.mono fun _ _ ⟨_, e, q⟩ => by cases e; exact q
end
end PyI

namespace PyI
open PySem PySem.Spec PyProof.Rows L2

/-! ### names, constants -/
def cstE (v : Vl) : E := fun st => .ok (v, st, false)
/-- a name, peeked at -/
def varE (i : Nat) : E := fun st => match st.sl[i]? with
  | some (some (.ref n)) => (match st.hp[n]? with
    | some w => .ok (peek w, st, false)
    | none => .bad)
  | some (some v) => .ok (peek v, st, false)
  | _ => .bad
/-- a name that holds a cell: the cell itself -/
def rawE (i : Nat) : E := fun st => match st.sl[i]? with
  | some (some (.ref n)) => .ok (.ref n, st, false)
  | _ => .bad
/-- a name's value, taken: the name is without one behind it (what is not own is copied) -/
def takE (i : Nat) : E := fun st => match st.sl[i]? with
  | some (some v) => if noOwn v then .ok (v, st, false) else if st.la.contains i then .bad else .ok (v, { st with sl := st.sl.set i none }, true)
  | _ => .bad
/-- a name's value, shared from now on -/
def frzE (i : Nat) : E := fun st => match st.sl[i]? with
  | some (some v) => if noOwn v then .ok (v, st, false) else if stor v then .ok (setF .sh v, { st with sl := st.sl.set i (some (setF .sh v)) }, true) else .bad
  | _ => .bad
section
variable {K : PySem.W.Frag} {mg : Str → Option Value} {H H' : Hp} {F T : Addr → Prop} {as : List Addr} {L : List (Nat × V)} {st : Sta} {σ : L2.St} {c : Addr → Nat}
mutual
theorem noTr_sh : ∀ {v : Vl}, noTr (setF .sh v) = true
  | .tup xs => by unfold setF noTr; exact noTrs_sh
  | .nd f k xs => by unfold setF noTr; simp only [Bool.and_eq_true]; exact ⟨by decide, noTrs_sh⟩
  | .non => rfl
  | .bl _ => rfl
  | .int _ => rfl
  | .str _ => rfl
  | .ref _ => rfl
  | .sym _ => rfl
theorem noTrs_sh : ∀ {v : List Vl}, noTrs (setFs .sh v) = true
  | [] => rfl
  | v :: r => by unfold setFs noTrs; simp only [Bool.and_eq_true]; exact ⟨noTr_sh, noTrs_sh⟩
end
theorem Rel.slot {i : Nat} {v : Vl} (r : Rel K mg F T as L st σ H c) (e : st.sl[i]? = some (some v)) : ∃ x c1 c2, σ[i]? = some (some x) ∧ Rep K mg H F T as v x c1 ∧ noTr v = true ∧ Rel K mg F T as L { st with sl := st.sl.set i none } σ H c2 ∧ ∀ b, c b = c1 b + c2 b := by
  obtain ⟨d1, d2, h1, h2, h3, h4⟩ := r.rep
  obtain ⟨x, c1, c2, e1, r1, n1, s1, k1⟩ := h1.get e
  refine ⟨x, c1, fun b => c2 b + d2 b, e1, r1, n1, ⟨⟨c2, d2, s1, h2, h3, fun _ => rfl⟩, fun b => ?_, fun b q => ⟨?_, (r.fr b q).2⟩, r.lk⟩, fun b => by show c b = c1 b + (c2 b + d2 b); rw [h4, k1]; omega⟩
  · have := r.le b; rw [h4, k1] at this; omega
  · have := (r.fr b q).1; rw [h4, k1] at this; omega
theorem Rel.fill {i : Nat} {v : Vl} {x : V} {c1 c2 : Addr → Nat} (r : Rel K mg F T as L { st with sl := st.sl.set i none } σ H c2) (hi : i < st.sl.length) (e : σ[i]? = some (some x)) (rv : Rep K mg H F T as v x c1) (nt : noTr v = true) (hle : ∀ b, c1 b + c2 b ≤ 1) (hF : ∀ b, F b ∨ T b → c1 b = 0) :
    Rel K mg F T as L { st with sl := st.sl.set i (some v) } σ H (fun b => c1 b + c2 b) := by
  obtain ⟨d1, d2, h1, h2, h3, h4⟩ := r.rep
  exact ⟨⟨_, d2, h1.putOld hi e rv nt, h2, h3, fun b => by show c1 b + c2 b = c1 b + d1 b + d2 b; rw [h4]; omega⟩, hle, fun b q => ⟨by have := hF b q; have := (r.fr b q).1; show c1 b + c2 b = 0; omega, (r.fr b q).2⟩, r.lk⟩
theorem Rel.cell {n : Nat} {v : Vl} (r : Rel K mg F T as L st σ H c) (e : st.hp[n]? = some v) : ∃ a c1, as[n]? = some a ∧ Rep K mg H F T as v (.ref a) c1 ∧ noTr v = true ∧ ∀ b, c1 b ≤ c b := by
  obtain ⟨d1, d2, h1, h2, h3, h4⟩ := r.rep
  obtain ⟨x, c1, e1, r1, k1⟩ := h2.at e
  rw [List.getElem?_map] at e1
  obtain ⟨a, ea, e2⟩ := Option.map_eq_some_iff.mp e1
  subst e2
  have nt : ∀ {vs : List Vl} {i : Nat}, noTrs vs = true → vs[i]? = some v → noTr v = true := by
    intro vs
    induction vs with
    | nil => intro i _ h; simp at h
    | cons w r ih =>
      intro i h1 h2
      unfold noTrs at h1
      simp only [Bool.and_eq_true] at h1
      cases i with
      | zero => simp at h2; subst h2; exact h1.1
      | succ i => exact ih h1.2 (by simpa using h2)
  exact ⟨a, c1, ea, r1, nt h3 e, fun b => by rw [h4]; have := k1 b; omega⟩
end
section
variable {X : Cx}
theorem EOk.cst {e : Expr} {v : Vl} {x : V} (h : PE X e (tC x)) (hr : ∀ H F T as, Rep X.K X.mg H F T as v x (fun _ => 0)) : EOk X e (cstE v) := fun W t => h.imp fun σ H Q hq => by
  obtain ⟨F, T, as, L, st, c, r, p⟩ := hq
  exact p F as H x c (fun _ => 0) r (hr H F T as) r.refl Pre.refl fun _ => ⟨Same.refl H, rfl, fun _ h => h⟩
theorem EOk.int {i j pos} : EOk X (.Constant (.int i) j pos) (cstE (.int i)) := .cst pe_int fun _ _ _ _ => Rep.int'
theorem EOk.bl {b j pos} : EOk X (.Constant (.bool b) j pos) (cstE (.bl b)) := .cst pe_bl fun _ _ _ _ => Rep.bl'
theorem EOk.non {j pos} : EOk X (.Constant .none j pos) (cstE .non) := .cst pe_non fun _ _ _ _ => Rep.non'
theorem EOk.str {x j pos} : EOk X (.Constant (.str x) j pos) (cstE (.str x)) := .cst pe_str fun _ _ _ _ => Rep.str'
theorem EOk.glob {x : Str} {v : Vl} {y : V} {u : Value} {pos : Pos} (hg : Gl X x) (hm : X.mg x = some u) (r : RelV y u) (hr : ∀ H F T as, Rep X.K X.mg H F T as v y (fun _ => 0)) (hd : (x == ("__debug__" : Str)) = false := by decide) : EOk X (.Name x pos) (cstE v) := .cst (pe_glob hg hm r hd) hr
section
variable {x : Str} {pos : Pos} {i : Nat} (hN : X.N[i]? = some x) (hv : Vis X.env.scope x) (hd : (x == ("__debug__" : Str)) = false) (hcd : (x == ("__classdict__" : Str)) = false)
include hN hv hd hcd
theorem EOk.var : EOk X (.Name x pos) (varE i) := fun W t => (pe_var hN hv hd hcd).imp fun σ H Q h => by
  obtain ⟨F, T, as, L, st, c, r, p⟩ := h
  unfold varE at p
  split at p
  · rename_i n e
    split at p
    · rename_i w ew
      obtain ⟨x, c1, c2, e1, r1, n1, r2, k⟩ := r.slot e
      obtain ⟨a, c3, ea, r3, _⟩ := r.cell ew
      cases r1 with
      | ref h hc =>
        rw [h] at ea
        cases ea
        exact ⟨_, e1, p F as H _ c (fun _ => 0) r r3.peek r.refl Pre.refl fun _ => ⟨Same.refl H, rfl, fun _ h => h⟩⟩
    · exact (show False from p).elim
  · rename_i v ne e
    obtain ⟨x, c1, c2, e1, r1, n1, r2, k⟩ := r.slot e
    exact ⟨_, e1, p F as H _ c (fun _ => 0) r r1.peek r.refl Pre.refl fun _ => ⟨Same.refl H, rfl, fun _ h => h⟩⟩
  · exact (show False from p).elim
theorem EOk.raw : EOk X (.Name x pos) (rawE i) := fun W t => (pe_var hN hv hd hcd).imp fun σ H Q h => by
  obtain ⟨F, T, as, L, st, c, r, p⟩ := h
  unfold rawE at p
  split at p
  · rename_i n e
    obtain ⟨x, c1, c2, e1, r1, n1, r2, k⟩ := r.slot e
    have z : ∀ b, c1 b = 0 := Rep.none0 r1 rfl
    have z' : c1 = fun _ => 0 := funext z
    exact ⟨_, e1, p F as H _ c c1 r r1 (r.refl.less fun b => by show c b + c1 b ≤ c b; rw [z]; exact Nat.le_refl _) Pre.refl fun _ => ⟨Same.refl H, rfl, fun _ h => h⟩⟩
  · exact (show False from p).elim
theorem EOk.tak : EOk X (.Name x pos) (takE i) := fun W t => (pe_var hN hv hd hcd).imp fun σ H Q h => by
  obtain ⟨F, T, as, L, st, c, r, p⟩ := h
  unfold takE at p
  split at p
  · rename_i v e
    obtain ⟨x, c1, c2, e1, r1, n1, r2, k⟩ := r.slot e
    refine ⟨_, e1, ?_⟩
    split at p
    · rename_i no
      have z : ∀ b, c1 b = 0 := Rep.none0 r1 no
      exact p F as H _ c c1 r r1 (r.refl.less fun b => by show c b + c1 b ≤ c b; rw [z]; exact Nat.le_refl _) Pre.refl fun _ => ⟨Same.refl H, rfl, fun _ h => h⟩
    · split at p
      · exact (show False from p).elim
      · exact p F as H _ c2 c1 r2 r1 (r.refl.less fun b => by show c2 b + c1 b ≤ c b; rw [k]; omega) Pre.refl fun q => nomatch q
  · exact (show False from p).elim
theorem EOk.frz : EOk X (.Name x pos) (frzE i) := fun W t => (pe_var hN hv hd hcd).imp fun σ H Q h => by
  obtain ⟨F, T, as, L, st, c, r, p⟩ := h
  unfold frzE at p
  split at p
  · rename_i v e
    obtain ⟨x, c1, c2, e1, r1, n1, r2, k⟩ := r.slot e
    refine ⟨_, e1, ?_⟩
    split at p
    · rename_i no
      have z : ∀ b, c1 b = 0 := Rep.none0 r1 no
      exact p F as H _ c c1 r r1 (r.refl.less fun b => by show c b + c1 b ≤ c b; rw [z]; exact Nat.le_refl _) Pre.refl fun _ => ⟨Same.refl H, rfl, fun _ h => h⟩
    · split at p
      · rename_i sv
        have hi : i < st.sl.length := (List.getElem?_eq_some_iff.mp e).1
        obtain ⟨d1, d2, h1, h2, h3, h4⟩ := r2.rep
        have mo : ∀ b, F b → (F b ∨ c1 b ≠ 0) := fun b q => .inl q
        have sy : ∀ (d : Addr → Nat), Stay H H F T d := fun d b o e _ => e
        have r2' : Rel X.K X.mg (fun b => F b ∨ c1 b ≠ 0) T as L { st with sl := st.sl.set i none } σ H c2 := by
          refine ⟨⟨d1, d2, h1.stay (sy _) mo (fun _ h => h) Pre.refl, h2.stay h3 (sy _) mo (fun _ h => h) Pre.refl, h3, h4⟩, r2.le, fun b q => ?_, r2.lk⟩
          rcases q with (q | q) | q
          · exact r2.fr b (.inl q)
          · have := r.le b
            rw [k] at this
            refine ⟨by omega, fun z => ?_⟩
            have := r1.mu b q
            rw [z] at this
            exact this
          · exact r2.fr b (.inr q)
        have rf : ∀ T', Rep X.K X.mg H (fun b => F b ∨ c1 b ≠ 0) T' as (setF .sh v) x (fun _ => 0) := fun T' => r1.freeze sv mo fun b q => .inr q
        have r3 := r2'.fill hi e1 (rf T) noTr_sh (fun b => by have := r2.le b; omega) fun b _ => rfl
        refine p (fun b => F b ∨ c1 b ≠ 0) as H x _ (fun _ => 0) r3 (rf T) ⟨fun _ _ e _ => e, fun b q => .inl ?_, fun b => ?_, mo, fun b q => ?_, fun b q => ?_, fun _ h => h⟩ Pre.refl fun q => nomatch q
        · have q' : 0 + c2 b + 0 ≠ 0 := q
          rw [k]; omega
        · show 0 + c2 b + 0 ≤ 1
          have := r2.le b; omega
        · show 0 + c2 b + 0 = 0
          have := (r2'.fr b (.inl q)).1; omega
        · rcases q with q | q
          · exact .inl q
          · exact .inr (.inl (by rw [k]; omega))
      · exact (show False from p).elim
  · exact (show False from p).elim
end
end

/-! ### and, or, not, a if t else b -/
def seqE (f : E) (k : Vl → Option (E ⊕ Vl)) : E := fun st => match f st with
  | .ok (v, st1, e1) => (match k v with
    | some (.inl g) => (match g st1 with
      | .ok (w, st2, e2) => .ok (w, st2, e1 || e2)
      | .exc c s => .exc c s
      | .bad => .bad)
    | some (.inr w) => .ok (w, st1, e1)
    | none => .bad)
  | .exc c s => .exc c s
  | .bad => .bad
def andE (f g : E) : E := seqE f fun v => match v with
  | .bl true => some (.inl g)
  | .bl false => some (.inr (.bl false))
  | _ => none
def orE (f g : E) : E := seqE f fun v => match v with
  | .bl true => some (.inr (.bl true))
  | .bl false => some (.inl g)
  | _ => none
def ifE (t f g : E) : E := seqE t fun v => match v with
  | .bl true => some (.inl f)
  | .bl false => some (.inl g)
  | _ => none
def gNot : List Vl → Option Vl
  | [.bl b] => some (.bl (!b))
  | _ => none
def notE (f : E) : E := opE gNot [f]
section
variable {K : PySem.W.Frag} {mg : Str → Option Value} {W : WX} {σ : L2.St} {H : Hp} {Q : VK}
theorem EI.seq {f : E} {k : Vl → Option (E ⊕ Vl)} (h : EI K mg W (seqE f k) σ H Q) (hk : ∀ v w, k v = some (.inr w) → ∃ b, w = .bl b) (hv : ∀ v z, k v = some z → ∃ b, v = .bl b) :
    EI K mg W f σ H fun x H1 => ∃ v z, k v = some z ∧ (∃ b, v = .bl b ∧ x = .bl b) ∧ match z with
      | .inl g => EI K mg W g σ H1 Q
      | .inr w => ∀ b, w = .bl b → Q (.bl b) H1 := by
  obtain ⟨F, T, as, L, st, c, r, p⟩ := h
  refine ⟨F, T, as, L, st, c, r, ?_⟩
  unfold seqE at p
  cases e1 : f st with
  | bad => rw [e1] at p; exact p
  | exc cl s => rw [e1] at p; exact p
  | ok q =>
    obtain ⟨v, st1, f1⟩ := q
    rw [e1] at p
    simp only at p
    intro F1 as1 H1 x c1 c2 r1 rv s1 p1 ef1
    cases e2 : k v with
    | none => rw [e2] at p; exact (show False from p).elim
    | some z =>
      rw [e2] at p
      obtain ⟨b, rfl⟩ := hv v z e2
      have ex := rv.inv_bl
      subst ex
      have z0 : ∀ b, c2 b = 0 := Rep.none0 rv rfl
      have s1' : Step F c H F1 c1 H1 := s1.less fun b => by omega
      refine ⟨_, z, e2, ⟨b, rfl, rfl⟩, ?_⟩
      cases z with
      | inr w =>
        intro b' hb
        subst hb
        simp only at p
        exact p F1 as1 H1 _ c1 (fun _ => 0) r1 Rep.bl' s1' p1 ef1
      | inl g =>
        refine ⟨F1, T, as1, L, st1, c1, r1, ?_⟩
        simp only at p
        cases e3 : g st1 with
        | bad => rw [e3] at p; exact (show False from p).elim
        | exc cl s => rw [e3] at p; exact XPost.back p r1 (cv := fun _ => 0) (fun b q => absurd rfl q) s1' p1
        | ok q =>
          obtain ⟨w, st2, f2⟩ := q
          rw [e3] at p
          simp only at p
          intro F2 as2 H2 y c3 c4 r2 rw' s2 p2 ef2
          refine p F2 as2 H2 y c3 c4 r2 rw' (s1'.trans s2) (p1.trans p2) fun q => ?_
          have q' : (f1 || f2) = false := q
          have q1 : f1 = false := by cases f1 with | false => rfl | true => simp at q'
          have q2 : f2 = false := by cases f2 with | false => rfl | true => simp [q1] at q'
          exact ⟨(ef1 q1).1.trans (ef2 q2).1, (ef2 q2).2.1.trans (ef1 q1).2.1, fun b h => (ef1 q1).2.2 b ((ef2 q2).2.2 b h)⟩
theorem EI.and {f g : E} (h : EI K mg W (andE f g) σ H Q) : EI K mg W f σ H fun x H1 => ∃ c, x = .bl c ∧ if c = true then EI K mg W g σ H1 Q else Q (.bl false) H1 := by
  refine (EI.seq h (fun v w e => ?_) fun v z e => ?_).mono fun x H1 ⟨v, z, e, ⟨b, e1, e2⟩, q⟩ => ?_
  · split at e <;> first | (cases e; exact ⟨_, rfl⟩) | cases e
  · split at e <;> first | exact ⟨_, rfl⟩ | cases e
  · subst e1 e2
    refine ⟨b, rfl, ?_⟩
    cases b with
    | true => cases e; exact q
    | false => cases e; exact q _ rfl
theorem EI.or {f g : E} (h : EI K mg W (orE f g) σ H Q) : EI K mg W f σ H fun x H1 => ∃ c, x = .bl c ∧ if c = true then Q (.bl true) H1 else EI K mg W g σ H1 Q := by
  refine (EI.seq h (fun v w e => ?_) fun v z e => ?_).mono fun x H1 ⟨v, z, e, ⟨b, e1, e2⟩, q⟩ => ?_
  · split at e <;> first | (cases e; exact ⟨_, rfl⟩) | cases e
  · split at e <;> first | exact ⟨_, rfl⟩ | cases e
  · subst e1 e2
    refine ⟨b, rfl, ?_⟩
    cases b with
    | true => cases e; exact q _ rfl
    | false => cases e; exact q
theorem EI.ite {t f g : E} (h : EI K mg W (ifE t f g) σ H Q) : EI K mg W t σ H fun x H1 => ∃ c, x = .bl c ∧ if c = true then EI K mg W f σ H1 Q else EI K mg W g σ H1 Q := by
  refine (EI.seq h (fun v w e => ?_) fun v z e => ?_).mono fun x H1 ⟨v, z, e, ⟨b, e1, e2⟩, q⟩ => ?_
  · split at e <;> first | (cases e; exact ⟨_, rfl⟩) | cases e
  · split at e <;> first | exact ⟨_, rfl⟩ | cases e
  · subst e1 e2
    refine ⟨b, rfl, ?_⟩
    cases b with
    | true => cases e; exact q
    | false => cases e; exact q
theorem gop_not : GOp K mg gNot (fun xs H Q => ∃ x c, xs = [x] ∧ x = .bl c ∧ Q (.bl (!c)) H) := by
  intro H F T as vs xs c v Q r hl e fin
  unfold gNot at e
  split at e
  · cases e
    obtain ⟨x, rfl, r1⟩ := r.inv1
    exact ⟨x, _, rfl, r1.inv_bl, fin.bl⟩
  · cases e
theorem EI.not {f : E} (h : EI K mg W (notE f) σ H Q) : EI K mg W f σ H fun x H1 => ∃ c, x = .bl c ∧ Q (.bl (!c)) H1 := (EI.op h gop_not).one.mono fun _ _ ⟨_, c, e, e2, q⟩ => by cases e; exact ⟨c, e2, q⟩
end
section
variable {X : Cx} {a b c : Expr} {rest : List Expr} {fa fb fc : E} {pos : Pos}
theorem TOk.val {e : Expr} {f : E} (h : EOk X e f) (he : ∀ whole, isTrue e X.env whole = (do let v ← whole; standAt e.pos; holding [v] (truthy v)) := by intro _; rfl) : TOk X e f := fun W t => (pt_val (h W t) he).imp fun σ H Q h => h
theorem EOk.one {op} (h : EOk X a fa) : EOk X (.BoolOp op [a] pos) fa := fun W t => pe_one (h W t)
theorem EOk.and (ha : EOk X a fa) (hb : EOk X (.BoolOp .And (b :: rest) pos) fb) : EOk X (.BoolOp .And (a :: b :: rest) pos) (andE fa fb) := fun W t => (pe_and (ha W t) (hb W t)).imp fun σ H Q h => h.and
theorem EOk.or (ha : EOk X a fa) (hb : EOk X (.BoolOp .Or (b :: rest) pos) fb) : EOk X (.BoolOp .Or (a :: b :: rest) pos) (orE fa fb) := fun W t => (pe_or (ha W t) (hb W t)).imp fun σ H Q h => h.or
theorem EOk.not (ha : EOk X a fa) : EOk X (.UnaryOp .Not a pos) (notE fa) := fun W t => (pe_not (ha W t)).imp fun σ H Q h => h.not
theorem TWOk.pt (h : TWOk X a fa) : TOk X a fa := fun W t => (h W t).pt
theorem TWOk.and1 (h : TOk X a fa) : TWOk X (.BoolOp .And [a] pos) fa := fun W t => pw_and1 (h W t)
theorem TWOk.or1 (h : TOk X a fa) : TWOk X (.BoolOp .Or [a] pos) fa := fun W t => pw_or1 (h W t)
theorem TWOk.and (ha : TOk X a fa) (hb : TWOk X (.BoolOp .And (b :: rest) pos) fb) : TWOk X (.BoolOp .And (a :: b :: rest) pos) (andE fa fb) := fun W t =>
  (pw_and (ha W t) (hb W t)).imp fun σ H Q h => (EI.and h).mono fun x H1 ⟨c, e, q⟩ => ⟨c, e, by
    cases c with
    | true => exact q
    | false => obtain ⟨b, e, q⟩ := q; cases e; exact q⟩
theorem TWOk.or (ha : TOk X a fa) (hb : TWOk X (.BoolOp .Or (b :: rest) pos) fb) : TWOk X (.BoolOp .Or (a :: b :: rest) pos) (orE fa fb) := fun W t =>
  (pw_or (ha W t) (hb W t)).imp fun σ H Q h => (EI.or h).mono fun x H1 ⟨c, e, q⟩ => ⟨c, e, by
    cases c with
    | true => obtain ⟨b, e, q⟩ := q; cases e; exact q
    | false => exact q⟩
theorem TOk.not (ha : TOk X a fa) : TOk X (.UnaryOp .Not a pos) (notE fa) := fun W t =>
  (pt_not (ha W t)).imp fun σ H Q h => (EI.not h).mono fun x H1 ⟨c, e, q⟩ => ⟨c, e, by obtain ⟨b, e, q⟩ := q; cases e; exact q⟩
theorem EOk.ife (hc : TOk X c fc) (ha : EOk X a fa) (hb : EOk X b fb) : EOk X (.IfExp c a b pos) (ifE fc fa fb) := fun W t =>
  (pe_ifExp (hc W t) (ha W t) (hb W t)).imp fun σ H Q h => (EI.ite h).mono fun x H1 ⟨c, e, q⟩ => ⟨c, e, q⟩
end
end PyI

namespace PyI
open PySem PySem.Spec PyProof.Rows L2

/-! ### statements -/
inductive RS where
  | nx (s : Sta) | rt (v : Vl) (s : Sta) | bk (s : Sta) | ct (s : Sta) | exc (c : Str) (s : Sta) | bad
abbrev C := Sta → RS
def SPost (K : PySem.W.Frag) (mg : Str → Option Value) (W : WX) (D : Ends) (T : Addr → Prop) (as : List Addr) (L : List (Nat × V)) (F : Addr → Prop) (c : Addr → Nat) (H : Hp) : RS → Prop
  | .nx st' => ∀ F' as' σ' H' c', Rel K mg F' T as' L st' σ' H' c' → Step F c H F' c' H' → Pre as as' → D.nx σ' H'
  | .bk st' => ∀ F' as' σ' H' c', Rel K mg F' T as' L st' σ' H' c' → Step F c H F' c' H' → Pre as as' → D.bk σ' H'
  | .ct st' => ∀ F' as' σ' H' c', Rel K mg F' T as' L st' σ' H' c' → Step F c H F' c' H' → Pre as as' → D.ct σ' H'
  | .rt v st' => ∀ F' as' σ' H' x c1 c2, Rel K mg F' T as' L st' σ' H' c1 → Rep K mg H' F' T as' v x c2 → Step F c H F' (fun b => c1 b + c2 b) H' → Pre as as' → D.rt x H'
  | .exc cl st' => XPost K mg W T as L F c H cl st'
  | .bad => False
def SI (K : PySem.W.Frag) (mg : Str → Option Value) (W : WX) (f : C) : TS := fun D σ H => ∃ F T as L st c, Rel K mg F T as L st σ H c ∧ SPost K mg W D T as L F c H (f st)
def SOk (X : Cx) (s : Stmt) (f : C) : Prop := ∀ W, Takes X W → PS X s (SI X.K X.mg W f)
def SsOk (X : Cx) (s : List Stmt) (f : C) : Prop := ∀ W, Takes X W → PSs X s (SI X.K X.mg W f)

section
variable {K : PySem.W.Frag} {mg : Str → Option Value} {W : WX} {D : Ends} {T : Addr → Prop} {as as1 : List Addr} {L : List (Nat × V)} {F F1 : Addr → Prop} {c c1 : Addr → Nat} {H H1 : Hp} {σ : L2.St}
/-- what is wanted, from a later state on -/
theorem SPost.back {r : RS} (h : SPost K mg W D T as L F c H r) (s : Step F c H F1 c1 H1) (p : Pre as as1) : SPost K mg W D T as1 L F1 c1 H1 r := by
  cases r with
  | nx st' => exact fun F' as' σ' H' c' r2 s2 p2 => h F' as' σ' H' c' r2 (s.trans s2) (p.trans p2)
  | bk st' => exact fun F' as' σ' H' c' r2 s2 p2 => h F' as' σ' H' c' r2 (s.trans s2) (p.trans p2)
  | ct st' => exact fun F' as' σ' H' c' r2 s2 p2 => h F' as' σ' H' c' r2 (s.trans s2) (p.trans p2)
  | rt v st' => exact fun F' as' σ' H' x c1 c2 r2 rv s2 p2 => h F' as' σ' H' x c1 c2 r2 rv (s.trans s2) (p.trans p2)
  | exc cl st' => exact fun F' as' σ' H' c1 r2 s2 p2 => h F' as' σ' H' c1 r2 (s.trans s2) (p.trans p2)
  | bad => exact h
/-- an expression, then a statement of its value -/
def bindC (f : E) (k : Vl → Sta → RS) : C := fun st => match f st with
  | .ok (v, st1, _) => k v st1
  | .exc cl s => .exc cl s
  | .bad => .bad
/-- a state, a value in flight -/
structure Fly (K : PySem.W.Frag) (mg : Str → Option Value) (F T : Addr → Prop) (as : List Addr) (L : List (Nat × V)) (st : Sta) (σ : L2.St) (H : Hp) (c1 c2 : Addr → Nat) : Prop where
  r : Rel K mg F T as L st σ H c1
  s : Step F (fun b => c1 b + c2 b) H F (fun b => c1 b + c2 b) H
  t : ∀ b, T b → c2 b = 0
theorem SI.bind {f : E} {k : Vl → Sta → RS} (h : SI K mg W (bindC f k) D σ H) : EI K mg W f σ H fun x H1 => ∃ F T as L v st c1 c2, Fly K mg F T as L st σ H1 c1 c2 ∧ Rep K mg H1 F T as v x c2 ∧ SPost K mg W D T as L F (fun b => c1 b + c2 b) H1 (k v st) := by
  obtain ⟨F, T, as, L, st, c, r, p⟩ := h
  refine ⟨F, T, as, L, st, c, r, ?_⟩
  unfold bindC at p
  cases e1 : f st with
  | bad => rw [e1] at p; exact p
  | exc cl s => rw [e1] at p; exact p
  | ok q =>
    obtain ⟨v, st1, f1⟩ := q
    rw [e1] at p
    refine fun F1 as1 H1 x c1 c2 r1 rv s1 p1 ef1 => ⟨F1, T, as1, L, v, st1, c1, c2, ⟨r1, s1.here, fun b q => ?_⟩, rv, SPost.back p s1 p1⟩
    by_cases z : c2 b = 0
    · exact z
    · have h0 := r.fr b (.inr q)
      rcases s1.grow b (by show c1 b + c2 b ≠ 0; omega) with y | y
      · exact absurd h0.1 y
      · exact absurd y h0.2
end


def seqC (f g : C) : C := fun st => match f st with
  | .nx s => g s
  | r => r
def passC : C := .nx
def brkC : C := .bk
def cntC : C := .ct
def retC (f : E) : C := bindC f .rt
def retNC : C := .rt .non
def expC (f : E) : C := bindC f fun _ s => .nx s
def ifC (t : E) (f g : C) : C := bindC t fun v s => match v with
  | .bl true => f s
  | .bl false => g s
  | _ => .bad
section
variable {X : Cx} {e c : Expr} {s : Stmt} {ss : List Stmt} {f g : C} {fe fc : E} {pos : Pos} {a b : List Stmt}
theorem SsOk.nil : SsOk X [] passC := fun W t => pss_nil.imp fun D σ H h => by
  obtain ⟨F, T, as, L, st, c, r, p⟩ := h
  exact p F as σ H c r r.refl Pre.refl
theorem SsOk.one (h : SOk X s f) : SsOk X [s] f := fun W t => pss_one (h W t)
theorem SsOk.cons (h : SOk X s f) (r : SsOk X ss g) : SsOk X (s :: ss) (seqC f g) := fun W t => (pss_cons (h W t) (r W t)).imp fun D σ H h => by
  obtain ⟨F, T, as, L, st, c, r, p⟩ := h
  refine ⟨F, T, as, L, st, c, r, ?_⟩
  unfold seqC at p
  cases e1 : f st with
  | nx s1 =>
    rw [e1] at p
    exact fun F1 as1 σ1 H1 c1 r1 t1 p1 => ⟨F1, T, as1, L, s1, c1, r1, SPost.back p t1 p1⟩
  | rt v s1 => rw [e1] at p; exact p
  | bk s1 => rw [e1] at p; exact p
  | ct s1 => rw [e1] at p; exact p
  | exc cl s1 => rw [e1] at p; exact p
  | bad => rw [e1] at p; exact p
theorem SOk.pass : SOk X (.Pass pos) passC := fun W t => ps_pass.imp fun D σ H h => by
  obtain ⟨F, T, as, L, st, c, r, p⟩ := h
  exact p F as σ H c r r.refl Pre.refl
theorem SOk.brk : SOk X (.Break pos) brkC := fun W t => ps_break.imp fun D σ H h => by
  obtain ⟨F, T, as, L, st, c, r, p⟩ := h
  exact p F as σ H c r r.refl Pre.refl
theorem SOk.cnt : SOk X (.Continue pos) cntC := fun W t => ps_continue.imp fun D σ H h => by
  obtain ⟨F, T, as, L, st, c, r, p⟩ := h
  exact p F as σ H c r r.refl Pre.refl
theorem SOk.doc {x j pos'} : SOk X (.Expr (.Constant (.str x) j pos) pos') passC := fun W t => ps_doc.imp fun D σ H h => by
  obtain ⟨F, T, as, L, st, c, r, p⟩ := h
  exact p F as σ H c r r.refl Pre.refl
theorem SOk.ret (h : EOk X e fe) : SOk X (.Return (some e) pos) (retC fe) := fun W t => (ps_ret (h W t)).imp fun D σ H h => by
  refine h.bind.mono fun x H1 ⟨F, T, as, L, v, st, c1, c2, r1, rv, p⟩ => ?_
  exact p F as σ H1 x c1 c2 r1.r rv r1.s Pre.refl
theorem SOk.retN : SOk X (.Return none pos) retNC := fun W t => ps_retN.imp fun D σ H h => by
  obtain ⟨F, T, as, L, st, c, r, p⟩ := h
  exact p F as σ H _ c (fun _ => 0) r Rep.non' r.refl Pre.refl
theorem SOk.exp (h : EOk X e fe) (hs : swapsWith e none pos.line X.env = pure false := by rfl) : SOk X (.Expr e pos) (expC fe) := fun W t => (ps_expr (h W t) hs).imp fun D σ H h => by
  refine h.bind.mono fun x H1 ⟨F, T, as, L, v, st, c1, c2, r1, rv, p⟩ => ?_
  exact p F as σ H1 c1 r1.r (r1.s.less fun b => Nat.le_add_right _ _) Pre.refl
theorem SOk.ite (hc : TOk X c fc) (ha : SsOk X a f) (hb : SsOk X b g) : SOk X (.If c a b pos) (ifC fc f g) := fun W t => (ps_if (hc W t) (ha W t) (hb W t)).imp fun D σ H h => by
  refine h.bind.mono fun x H1 ⟨F, T, as, L, v, st, c1, c2, r1, rv, p⟩ => ?_
  cases v with
  | bl b =>
    refine ⟨b, rv.inv_bl, ?_⟩
    have z0 : ∀ b, c2 b = 0 := Rep.none0 rv rfl
    have s1 : Step F (fun b => c1 b + c2 b) H1 F c1 H1 := r1.s.less fun b => Nat.le_add_right _ _
    cases b with
    | true => exact ⟨F, T, as, L, st, c1, r1.r, SPost.back p s1 Pre.refl⟩
    | false => exact ⟨F, T, as, L, st, c1, r1.r, SPost.back p s1 Pre.refl⟩
  | _ => exact (show False from p).elim
end

/-! ### targets -/
abbrev Tg := Vl → Sta → Option Sta
def tgN (i : Nat) : Tg := fun v st => if stor v && decide (i < st.sl.length) && !st.la.contains i then some { st with sl := st.sl.set i (some v) } else none
abbrev Tgs := List Vl → Sta → Option Sta
def tgsN : Tgs := fun vs st => match vs with
  | [] => some st
  | _ => none
def tgsC (g : Tg) (r : Tgs) : Tgs := fun vs st => match vs with
  | v :: ws => (match g v st with
    | some st1 => r ws st1
    | none => none)
  | [] => none
def tgT (n : Nat) (r : Tgs) : Tg := fun v st => match v with
  | .tup vs => if vs.length = n then r vs st else none
  | _ => none
def GI (K : PySem.W.Frag) (mg : Str → Option Value) (g : Tg) : TG := fun x σ H Q => ∃ F T as L st v c1 c2, Fly K mg F T as L st σ H c1 c2 ∧ Rep K mg H F T as v x c2 ∧ ∃ st', g v st = some st' ∧ ∀ σ' c', Rel K mg F T as L st' σ' H c' → (∀ b, c' b ≤ c1 b + c2 b) → Q σ' H
def GsI (K : PySem.W.Frag) (mg : Str → Option Value) (g : Tgs) : TGs := fun xs σ H Q => ∃ F T as L st vs c1 c2, Fly K mg F T as L st σ H c1 c2 ∧ Reps K mg H F T as vs xs c2 ∧ ∃ st', g vs st = some st' ∧ ∀ σ' c', Rel K mg F T as L st' σ' H c' → (∀ b, c' b ≤ c1 b + c2 b) → Q σ' H
def GOk (X : Cx) (tg : Expr) (g : Tg) : Prop := PG X tg (GI X.K X.mg g)
def GsOk (X : Cx) (tg : List Expr) (g : Tgs) : Prop := PGs X tg (GsI X.K X.mg g)
theorem _root_.L2.PG.imp {X : Cx} {e : Expr} {t t' : TG} (h : PG X e t) (i : ∀ x σ H Q, t' x σ H Q → t x σ H Q) : PG X e t' := ⟨fun pins s σ H v u Q I r hq => h.run pins s σ H v u Q I r (i v σ H Q hq)⟩
theorem _root_.L2.PGs.imp {X : Cx} {e : List Expr} {t t' : TGs} (h : PGs X e t) (i : ∀ x σ H Q, t' x σ H Q → t x σ H Q) : PGs X e t' := ⟨fun pins s σ H v u Q I r hq => h.run pins s σ H v u Q I r (i v σ H Q hq)⟩
section
variable {K : PySem.W.Frag} {mg : Str → Option Value} {H H' : Hp} {F T : Addr → Prop} {as : List Addr} {L : List (Nat × V)} {st : Sta} {σ : L2.St} {c c1 c2 : Addr → Nat}
/-- a slot is stored to -/
theorem Fly.store {i : Nat} {v : Vl} {x : V} (f : Fly K mg F T as L st σ H c1 c2) (rv : Rep K mg H F T as v x c2) (sv : stor v = true) (hi : i < st.sl.length) (hl : st.la.contains i = false) :
    ∃ c', Rel K mg F T as L { st with sl := st.sl.set i (some v) } (σ.set i (some x)) H c' ∧ ∀ b, c' b ≤ c1 b + c2 b := by
  have r := f.r
  have le : ∀ b, c1 b + c2 b ≤ 1 := f.s.le
  have hF : ∀ b, F b ∨ T b → c2 b = 0 := fun b q => by
    rcases q with q | q
    · have : c1 b + c2 b = 0 := f.s.dis b q
      omega
    · exact f.t b q
  obtain ⟨d1, d2, h1, h2, h3, h4⟩ := r.rep
  obtain ⟨d3, s3, k3⟩ := h1.drop i
  refine ⟨fun b => (c2 b + d3 b) + d2 b, ⟨⟨_, d2, s3.put hi rv (stor_noTr sv), h2, h3, fun _ => rfl⟩, fun b => ?_, fun b q => ⟨?_, (r.fr b q).2⟩, r.lk.1, fun p hp => ?_⟩, fun b => ?_⟩
  · show c2 b + d3 b + d2 b ≤ 1
    have := le b; have := k3 b; have := h4 b; omega
  · show c2 b + d3 b + d2 b = 0
    have := hF b q; have := (r.fr b q).1; have := k3 b; have := h4 b; omega
  · rw [List.getElem?_set_ne]
    · exact r.lk.2 p hp
    · intro e
      have hm : i ∈ st.la := by rw [r.lk.1, e]; exact List.mem_map_of_mem hp
      rw [List.contains_eq_mem, decide_eq_true hm] at hl
      cases hl
  · show c2 b + d3 b + d2 b ≤ c1 b + c2 b
    have := k3 b; have := h4 b; omega
end
section
variable {X : Cx} {pos : Pos}
theorem GOk.name {i : Nat} {x : Str} (hN : X.N.Nodup) (hi : X.N[i]? = some x) (hx : Loc X.env.scope x) (hf : X.fn x = true ∨ X.env.scope.names.lookup x = some .local := by first | exact .inl rfl | exact .inr rfl | assumption) : GOk X (.Name x pos) (tgN i) :=
  (pg_name hN hi hx hf).imp fun x σ H Q ⟨F, T, as, L, st, v, c1, c2, f, rv, st', e, q⟩ => by
    unfold tgN at e
    split at e
    · rename_i hc
      cases e
      simp only [Bool.and_eq_true, decide_eq_true_eq, Bool.not_eq_true'] at hc
      obtain ⟨c', r', k'⟩ := f.store rv hc.1.1 hc.1.2 hc.2
      exact q _ c' r' k'
    · cases e
theorem GsOk.nil : GsOk X [] tgsN := pgs_nil.imp fun xs σ H Q ⟨F, T, as, L, st, vs, c1, c2, f, rv, st', e, q⟩ => by
  unfold tgsN at e
  split at e
  · cases e
    cases rv with
    | nil hc => exact ⟨rfl, q σ c1 f.r fun b => Nat.le_add_right _ _⟩
  · cases e
/-- part of what flies lands -/
theorem Fly.rest {K : PySem.W.Frag} {mg : Str → Option Value} {H : Hp} {F T : Addr → Prop} {as : List Addr} {L : List (Nat × V)} {st st' : Sta} {σ σ' : L2.St} {c1 c2 c3 c4 c5 : Addr → Nat} (f : Fly K mg F T as L st σ H c1 c2) (r : Rel K mg F T as L st' σ' H c5) (h2 : ∀ b, c3 b + c4 b ≤ c2 b) (h5 : ∀ b, c5 b ≤ c1 b + c3 b) : Fly K mg F T as L st' σ' H c5 c4 :=
  ⟨r, Step.refl (fun b => by have : c1 b + c2 b ≤ 1 := f.s.le b; have := h2 b; have := h5 b; omega) fun b q => by have : c1 b + c2 b = 0 := f.s.dis b q; have := h2 b; have := h5 b; omega, fun b q => by have := f.t b q; have := h2 b; omega⟩
/-- .. is still in flight -/
theorem Fly.part {K : PySem.W.Frag} {mg : Str → Option Value} {H : Hp} {F T : Addr → Prop} {as : List Addr} {L : List (Nat × V)} {st : Sta} {σ : L2.St} {c1 c2 c3 : Addr → Nat} (f : Fly K mg F T as L st σ H c1 c2) (h2 : ∀ b, c3 b ≤ c2 b) : Fly K mg F T as L st σ H c1 c3 :=
  ⟨f.r, Step.refl (fun b => by have : c1 b + c2 b ≤ 1 := f.s.le b; have := h2 b; omega) fun b q => by have : c1 b + c2 b = 0 := f.s.dis b q; have := h2 b; omega, fun b q => by have := f.t b q; have := h2 b; omega⟩
theorem GsOk.cons {e : Expr} {es : List Expr} {g : Tg} {r : Tgs} (h1 : GOk X e g) (h2 : GsOk X es r) (hs : (assignEach (e :: es) X.env).map (·.2) = assign e X.env :: (assignEach es X.env).map (·.2) := by rfl) : GsOk X (e :: es) (tgsC g r) :=
  (pgs_cons h1 h2 hs).imp fun xs σ H Q ⟨F, T, as, L, st, vs, c1, c2, f, rv, st', e, q⟩ => by
    unfold tgsC at e
    split at e
    · rename_i v ws
      split at e
      · rename_i st1 e1
        cases rv with
        | cons r1 r2 hc =>
          refine ⟨_, _, rfl, F, T, as, L, st, v, c1, _, f.part fun b => by rw [hc]; exact Nat.le_add_right _ _, r1, st1, e1, fun σ' c' r' k' => ?_⟩
          exact ⟨F, T, as, L, st1, ws, c', _, f.rest r' (fun b => by rw [hc]; exact Nat.le_refl _) k', r2, st', e, fun σ2 c6 r6 k6 => q σ2 c6 r6 fun b => by have := k6 b; have := k' b; rw [hc]; omega⟩
      · cases e
    · cases e
theorem GOk.tup {es : List Expr} {k : Nat} {r : Tgs} {n : Nat} (hc : X.calm = true) (h : GsOk X es r) (hn : (assignEach es X.env).length = n := by rfl) (hst : (assignEach es X.env).findIdx? (·.1) = none := by rfl) : GOk X (.Tuple es k pos) (tgT n r) :=
  (pg_tup hc h hn hst).imp fun x σ H Q ⟨F, T, as, L, st, v, c1, c2, f, rv, st', e, q⟩ => by
    unfold tgT at e
    split at e
    · rename_i vs
      split at e
      · rename_i hl
        obtain ⟨a, xs, rfl, h1, s1⟩ := rv.inv_tup
        exact ⟨a, xs, rfl, h1, by rw [← s1.length]; exact hl, F, T, as, L, st, vs, c1, c2, f, s1, st', e, q⟩
      · cases e
    · cases e
end
/-- target = value -/
def asgC (g : Tg) (f : E) : C := bindC f fun v s => match g v s with
  | some s' => .nx s'
  | none => .bad
section
variable {X : Cx} {pos : Pos} {tg e : Expr} {g : Tg} {f : E}
theorem SOk.asg_of {D : Ends} {W : WX} {σ : L2.St} {H : Hp} (h : SI X.K X.mg W (asgC g f) D σ H) : EI X.K X.mg W f σ H fun x H1 => GI X.K X.mg g x σ H1 D.nx := by
  refine h.bind.mono fun x H1 ⟨F, T, as, L, v, st, c1, c2, r1, rv, p⟩ => ?_
  split at p
  · rename_i s' e
    exact ⟨F, T, as, L, st, v, c1, c2, r1, rv, s', e, fun σ' c' r' k' => p F as σ' H1 c' r' (r1.s.less k') Pre.refl⟩
  · exact (show False from p).elim
theorem SOk.asg (h : EOk X e f) (hg : GOk X tg g) (hs : swapsWithSole [tg] e pos.line X.env = pure false := by rfl) (hw : swappedStores [tg] e X.env = pure none := by rfl)
    (h1 : (assignEach [tg] X.env).map (·.2) = [assign tg X.env] := by rfl) : SOk X (.Assign [tg] e pos) (asgC g f) := fun W t => (ps_asg (h W t) hg hs hw h1).imp fun D σ H h => SOk.asg_of h
theorem SOk.set {i : Nat} {x : Str} {pos' : Pos} (hN : X.N.Nodup) (hi : X.N[i]? = some x) (hx : Loc X.env.scope x) (h : EOk X e f) (hs : swapsWith e (some (.Name x pos')) pos.line X.env = pure false := by rfl) (hf : X.fn x = true ∨ X.env.scope.names.lookup x = some .local := by first | exact .inl rfl | exact .inr rfl | assumption) : SOk X (.Assign [.Name x pos'] e pos) (asgC (tgN i) f) := fun W t =>
  (ps_set hN hi hx (h W t) hs hf).imp fun D σ H h => (SOk.asg_of h).mono fun x H1 ⟨F, T, as, L, st, v, c1, c2, f, rv, st', e, q⟩ => by
    unfold tgN at e
    split at e
    · rename_i hc
      cases e
      simp only [Bool.and_eq_true, decide_eq_true_eq, Bool.not_eq_true'] at hc
      obtain ⟨c', r', k'⟩ := f.store rv hc.1.1 hc.1.2 hc.2
      exact q _ c' r' k'
    · cases e
end
end PyI

namespace PyI
open PySem PySem.Spec PyProof.Rows L2

/-! ### list nodes -/
def Nod (K : PySem.W.Frag) (H : Hp) (F T : Addr → Prop) (f : Fl) (a : Addr) (xs : List V) (c : Addr → Nat) : Prop := match f with
  | .own => H a = some (.lst xs) ∧ ∀ b, c b = if b = a then 1 else 0
  | .sh => ((F a ∧ L2.Rd H a (.lst xs)) ∨ KL K a xs) ∧ ∀ b, c b = 0
  | .bw => ((T a ∧ L2.Rd H a (.lst xs)) ∨ KL K a xs) ∧ ∀ b, c b = 0
  | .tr => (L2.Rd H a (.lst xs) ∨ KL K a xs) ∧ ∀ b, c b = 0
section
variable {K : PySem.W.Frag} {mg : Str → Option Value} {H H' : Hp} {F F' T : Addr → Prop} {as as' : List Addr} {L : List (Nat × V)} {st : Sta} {σ : L2.St} {c c1 : Addr → Nat} {f : Fl} {a : Addr} {xs : List V}
theorem Rep.nod {vs : List Vl} {x : V} (r : Rep K mg H F T as (.nd f .lst vs) x c) : ∃ a xs cn cr, x = .ref a ∧ Nod K H F T f a xs cn ∧ Reps K mg H F T as vs xs cr ∧ ∀ b, c b = cn b + cr b := by
  cases r with
  | own h ho r hc => cases ho; exact ⟨_, _, _, _, rfl, ⟨h, fun _ => rfl⟩, r, hc⟩
  | sh h r hc =>
    refine ⟨_, _, fun _ => 0, _, rfl, ⟨?_, fun _ => rfl⟩, r, fun b => (Nat.zero_add _).symm⟩
    rcases h with ⟨h1, o, ho, h⟩ | ⟨_, h⟩
    · cases ho; exact .inl ⟨h1, h⟩
    · exact .inr h
  | bw h r hc =>
    refine ⟨_, _, fun _ => 0, _, rfl, ⟨?_, fun _ => rfl⟩, r, fun b => (Nat.zero_add _).symm⟩
    rcases h with ⟨h1, o, ho, h⟩ | ⟨_, h⟩
    · cases ho; exact .inl ⟨h1, h⟩
    · exact .inr h
  | tr h r hc =>
    refine ⟨_, _, fun _ => 0, _, rfl, ⟨?_, fun _ => rfl⟩, r, fun b => (Nat.zero_add _).symm⟩
    rcases h with ⟨o, ho, h⟩ | ⟨_, h⟩
    · cases ho; exact .inl h
    · exact .inr h
theorem Nod.seq (n : Nod K H F T f a xs c) : SqL K H a xs := by
  cases f with
  | own => exact SqL.of n.1
  | sh => rcases n.1 with ⟨_, h⟩ | h; exact .inl h; exact .inr h
  | bw => rcases n.1 with ⟨_, h⟩ | h; exact .inl h; exact .inr h
  | tr => rcases n.1 with h | h; exact .inl h; exact .inr h
theorem Nod.mu (n : Nod K H F T f a xs c) : ∀ b, c b ≠ 0 → MutO (H b) := by
  cases f with
  | own =>
    intro b q
    rw [n.2] at q
    by_cases e : b = a
    · rw [e, n.1]; trivial
    · rw [if_neg e] at q; exact absurd rfl q
  | sh => exact fun b q => absurd (n.2 b) q
  | bw => exact fun b q => absurd (n.2 b) q
  | tr => exact fun b q => absurd (n.2 b) q
theorem Nod.stay (n : Nod K H F T f a xs c) (hf : f ≠ .tr) (s : Stay H H' F T c) (hF : ∀ b, F b → F' b) : Nod K H' F' T f a xs c := by
  cases f with
  | own => exact ⟨s _ _ n.1 (.inr (.inr (.inl (by rw [n.2]; simp)))), n.2⟩
  | sh =>
    refine ⟨?_, n.2⟩
    rcases n.1 with ⟨h1, h⟩ | h
    · exact .inl ⟨hF _ h1, s.rd h (.inl h1)⟩
    · exact .inr h
  | bw =>
    refine ⟨?_, n.2⟩
    rcases n.1 with ⟨h1, h⟩ | h
    · exact .inl ⟨h1, s.rd h (.inr (.inl h1))⟩
    · exact .inr h
  | tr => exact absurd rfl hf
theorem Nod.same (n : Nod K H F T f a xs c) (s : Same H H') (hF : ∀ b, F b → F' b) : Nod K H' F' T f a xs c := by
  cases f with
  | own => exact ⟨s _ _ n.1, n.2⟩
  | sh =>
    refine ⟨?_, n.2⟩
    rcases n.1 with ⟨h1, h⟩ | h
    · refine .inl ⟨hF _ h1, ?_⟩
      rcases h with h | ⟨o, h⟩
      · exact .inl (s _ _ h)
      · exact .inr ⟨o, s _ _ h⟩
    · exact .inr h
  | bw =>
    refine ⟨?_, n.2⟩
    rcases n.1 with ⟨h1, h⟩ | h
    · refine .inl ⟨h1, ?_⟩
      rcases h with h | ⟨o, h⟩
      · exact .inl (s _ _ h)
      · exact .inr ⟨o, s _ _ h⟩
    · exact .inr h
  | tr =>
    refine ⟨?_, n.2⟩
    rcases n.1 with h | h
    · rcases h with h | ⟨o, h⟩
      · exact .inl (.inl (s _ _ h))
      · exact .inl (.inr ⟨o, s _ _ h⟩)
    · exact .inr h
end

/-! ### what is walked -/
structure Walk (K : PySem.W.Frag) (mg : Str → Option Value) (T : Addr → Prop) (J : It) (tr : Bool) where
  P : Nat → List Vl → Hp → (Addr → Nat) → (Addr → Prop) → List Addr → Prop
  same : ∀ {i r H H' c F F' as as'}, P i r H c F as → Same H H' → (∀ b, F b → F' b) → Pre as as' → P i r H' c F' as'
  step : ∀ {i r H H' c F F' as as'}, tr = false → P i r H c F as → (∀ d, (∀ b, d b ≠ 0 → c b ≠ 0) → Stay H H' F T d) → (∀ b, F b → F' b) → Pre as as' → P i r H' c F' as'
  mu : ∀ {i r H c F as}, P i r H c F as → ∀ b, c b ≠ 0 → MutO (H b)
  stop : ∀ {i H c F as}, P i [] H c F as → J.stop i H
  go : ∀ {i v r H c F as}, P i (v :: r) H c F as → J.go i H
  yld : ∀ {i v r Hm H c F as x H'}, P i (v :: r) Hm c F as → Same Hm H → J.yld i H x H' → Same H H' ∧ ∃ Hm' c1 c2, Same Hm Hm' ∧ Same Hm' H' ∧ (∀ b, Hm' b ≠ none → Hm b ≠ none ∨ H b = none) ∧ Rep K mg Hm' F T as v x c1 ∧ P (i + 1) r Hm' c2 F as ∧ ∀ b, c1 b + c2 b ≤ c b
abbrev Src := Sta → R (List Vl × Bool × Sta × Bool)
def SrcI (K : PySem.W.Frag) (mg : Str → Option Value) (W : WX) (src : Src) : TI := fun σ H Rr => ∃ F T as L st c, Rel K mg F T as L st σ H c ∧ match src st with
  | .ok (items, tr, st', eff) => ∀ F' as' H' c1 c2 J (w : Walk K mg T J tr), Rel K mg F' T as' L st' σ H' c1 → w.P 0 items H' c2 F' as' → Step F c H F' (fun b => c1 b + c2 b) H' → Pre as as' → (eff = false → Same H H' ∧ st' = st ∧ ∀ b, F' b → F b) → Rr J H'
  | .exc cl st' => XPost K mg W T as L F c H cl st'
  | .bad => False
def SrcOk (X : Cx) (tg iter : Expr) (src : Src) : Prop := ∀ W, Takes X W → PI X tg iter (SrcI X.K X.mg W src)
theorem _root_.L2.PI.imp {X : Cx} {tg e : Expr} {t t' : TI} (h : PI X tg e t) (i : ∀ σ H Q, t' σ H Q → t σ H Q) : PI X tg e t' := ⟨fun pins s σ H Rr I hq => h.run pins s σ H Rr I (i σ H Rr hq)⟩

theorem same_upd2 {Hm H : Hp} {a : Addr} {o : HO} (s : Same Hm H) : Same (upd Hm a o) (upd H a o) := fun b x e => by
  by_cases q : b = a
  · rw [q, upd_same] at e ⊢; exact e
  · rw [upd_ne q] at e ⊢; exact s b x e
theorem new_upd {Hm H : Hp} {a : Addr} {o : HO} (h : H a = none) : ∀ b, upd Hm a o b ≠ none → Hm b ≠ none ∨ H b = none := fun b q => by
  by_cases z : b = a
  · rw [z]; exact .inr h
  · rw [upd_ne z] at q; exact .inl q
section
variable {K : PySem.W.Frag} {mg : Str → Option Value} {T : Addr → Prop}
/-- an int range: lo, lo + 1, .. -/
def intsV (lo : Int) (n : Nat) : List Vl := (List.range n).map fun k => .int (lo + (k : Nat))
def walkR (lo : Int) (n : Nat) : Walk K mg T (Itr lo n) false where
  P := fun i r H c F as => i + r.length = n ∧ r = (intsV lo n).drop i ∧ ∀ b, c b = 0
  same := fun h _ _ _ => h
  step := fun _ h _ _ _ => h
  mu := fun h b q => absurd (h.2.2 b) q
  stop := fun h => by have := h.1; simp at this; exact Nat.le_of_eq this.symm
  go := fun h => by have := h.1; simp at this; show _ < n; omega
  yld := fun {i v r Hm H c F as x H'} h sH y => by
    obtain ⟨h1, h2, h3⟩ := h
    obtain ⟨rfl, rfl⟩ := y
    refine ⟨Same.refl _, Hm, fun _ => 0, fun _ => 0, Same.refl _, sH, fun b q => .inl q, ?_, ⟨by simp at h1; omega, ?_, fun _ => rfl⟩, fun b => Nat.zero_le _⟩
    · have e : v = .int (lo + (i : Nat)) := by
        have : (intsV lo n)[i]? = some v := by
          have := congrArg (fun l => l[0]?) h2
          simp [List.getElem?_drop] at this
          exact this.symm
        unfold intsV at this
        rw [List.getElem?_map] at this
        obtain ⟨k, e1, e2⟩ := Option.map_eq_some_iff.mp this
        rw [List.getElem?_range (by simp at h1; omega)] at e1
        cases e1
        exact e2.symm
      rw [e]
      exact Rep.int'
    · have := congrArg List.tail h2
      simpa using this
/-- lo, lo + c, .. -/
def intsC (lo c : Int) (n : Nat) : List Vl := (List.range n).map fun k => .int (lo + (k : Nat) * c)
def walkC (lo d : Int) (n : Nat) : Walk K mg T (Itc lo d n) false where
  P := fun i r H c F as => i + r.length = n ∧ r = (intsC lo d n).drop i ∧ ∀ b, c b = 0
  same := fun h _ _ _ => h
  step := fun _ h _ _ _ => h
  mu := fun h b q => absurd (h.2.2 b) q
  stop := fun h => by have := h.1; simp at this; exact Nat.le_of_eq this.symm
  go := fun h => by have := h.1; simp at this; show _ < n; omega
  yld := fun {i v r Hm H c F as x H'} h sH y => by
    obtain ⟨h1, h2, h3⟩ := h
    obtain ⟨rfl, rfl⟩ := y
    refine ⟨Same.refl _, Hm, fun _ => 0, fun _ => 0, Same.refl _, sH, fun b q => .inl q, ?_, ⟨by simp at h1; omega, ?_, fun _ => rfl⟩, fun b => Nat.zero_le _⟩
    · have e : v = .int (lo + (i : Nat) * d) := by
        have : (intsC lo d n)[i]? = some v := by
          have := congrArg (fun l => l[0]?) h2
          simp [List.getElem?_drop] at this
          exact this.symm
        unfold intsC at this
        rw [List.getElem?_map] at this
        obtain ⟨k, e1, e2⟩ := Option.map_eq_some_iff.mp this
        rw [List.getElem?_range (by simp at h1; omega)] at e1
        cases e1
        exact e2.symm
      rw [e]
      exact Rep.int'
    · have := congrArg List.tail h2
      simpa using this
theorem drop_cons {α : Type} {l r : List α} {x : α} {i : Nat} (h : l.drop i = x :: r) : l[i]? = some x ∧ l.drop (i + 1) = r := by
  constructor
  · have := congrArg (fun l => l[0]?) h
    simpa [List.getElem?_drop] using this
  · have := congrArg List.tail h
    simpa using this
/-- a list -/
def walkL (f : Fl) (a : Addr) (xs : List V) (tr : Bool) : Walk K mg T (Itl K a) tr where
  P := fun i r H c F as => ∃ cn cr, Nod K H F T f a xs cn ∧ Reps K mg H F T as r (xs.drop i) cr ∧ (tr = false → f ≠ .tr ∧ noTrs r = true) ∧ ∀ b, c b = cn b + cr b
  same := fun ⟨cn, cr, n, r, t, e⟩ s hF p => ⟨cn, cr, n.same s hF, r.same s hF (fun _ h => h) p, t, e⟩
  step := fun ht ⟨cn, cr, n, r, t, e⟩ s hF p => ⟨cn, cr, n.stay (t ht).1 (s _ fun b q => by rw [e]; omega) hF, r.stay (t ht).2 (s _ fun b q => by rw [e]; omega) hF (fun _ h => h) p, t, e⟩
  mu := fun ⟨cn, cr, n, r, t, e⟩ b q => by
    by_cases z : cn b = 0
    · exact r.mu b (by rw [e] at q; omega)
    · exact n.mu b z
  stop := fun {i H c F as} ⟨cn, cr, n, r, t, e⟩ => ⟨xs, n.seq, by
    have := r.length
    simp at this
    omega⟩
  go := fun {i v r' H c F as} ⟨cn, cr, n, r, t, e⟩ => by
    have := r.length
    simp at this
    exact ⟨xs, xs[i]'(by omega), n.seq, List.getElem?_eq_getElem _⟩
  yld := fun {i v r' Hm H c F as x H'} ⟨cn, cr, n, r, t, e⟩ sH y => by
    obtain ⟨rfl, y⟩ := y
    generalize hd : xs.drop i = ys at r
    cases r with
    | cons r1 r2 hc =>
      obtain ⟨h1, h2⟩ := drop_cons hd
      have ex := y xs (sH.seq n.seq)
      rw [h1] at ex
      cases ex
      refine ⟨Same.refl _, Hm, _, _, Same.refl _, sH, fun b q => .inl q, r1, ⟨cn, _, n, by rw [h2]; exact r2, fun q => ⟨(t q).1, ?_⟩, fun _ => rfl⟩, fun b => by rw [e, hc]; omega⟩
      have := (t q).2
      unfold noTrs at this
      simp only [Bool.and_eq_true] at this
      exact this.2
/-- a tuple -/
def walkT (a : Addr) (xs : List V) (tr : Bool) : Walk K mg T (Itt K a) tr where
  P := fun i r H c F as => SqT K H a xs ∧ Reps K mg H F T as r (xs.drop i) c ∧ (tr = false → noTrs r = true)
  same := fun ⟨n, r, t⟩ s hF p => ⟨(show Stay _ _ (fun _ => False) (fun _ => False) (fun _ => 0) from fun b o e _ => s b o e).sqT n, r.same s hF (fun _ h => h) p, t⟩
  step := fun ht ⟨n, r, t⟩ s hF p => ⟨(s _ fun b q => q).sqT n, r.stay (t ht) (s _ fun b q => q) hF (fun _ h => h) p, t⟩
  mu := fun ⟨n, r, t⟩ b q => r.mu b q
  stop := fun {i H c F as} ⟨n, r, t⟩ => ⟨xs, n, by
    have := r.length
    simp at this
    omega⟩
  go := fun {i v r' H c F as} ⟨n, r, t⟩ => by
    have := r.length
    simp at this
    exact ⟨xs, xs[i]'(by omega), n, List.getElem?_eq_getElem _⟩
  yld := fun {i v r' Hm H c F as x H'} ⟨n, r, t⟩ sH y => by
    obtain ⟨rfl, y⟩ := y
    generalize hd : xs.drop i = ys at r
    cases r with
    | cons r1 r2 hc =>
      obtain ⟨h1, h2⟩ := drop_cons hd
      have ex := y xs ((show Stay _ _ (fun _ => False) (fun _ => False) (fun _ => 0) from fun b o e _ => sH b o e).sqT n)
      rw [h1] at ex
      cases ex
      refine ⟨Same.refl _, Hm, _, _, Same.refl _, sH, fun b q => .inl q, r1, ⟨n, by rw [h2]; exact r2, fun q => ?_⟩, fun b => by rw [hc]; exact Nat.le_refl _⟩
      have := t q
      unfold noTrs at this
      simp only [Bool.and_eq_true] at this
      exact this.2
/-- the items with their places -/
def enumV : Nat → List Vl → List Vl
  | _, [] => []
  | i, v :: r => .tup [.int (i : Nat), v] :: enumV (i + 1) r
theorem enumV_nil {i : Nat} : ∀ {r : List Vl}, enumV i r = [] → r = []
  | [], _ => rfl
  | _ :: _, h => nomatch h
theorem enumV_cons {i : Nat} {v : Vl} {s : List Vl} : ∀ {r : List Vl}, enumV i r = v :: s → ∃ w t, r = w :: t ∧ v = .tup [.int (i : Nat), w] ∧ s = enumV (i + 1) t
  | [], h => nomatch h
  | w :: t, h => by cases h; exact ⟨w, t, rfl, rfl, rfl⟩
def walkE (f : Fl) (a : Addr) (xs : List V) (tr : Bool) : Walk K mg T (Ite K a) tr where
  P := fun i r H c F as => ∃ r0, r = enumV i r0 ∧ ∃ cn cr, Nod K H F T f a xs cn ∧ Reps K mg H F T as r0 (xs.drop i) cr ∧ (tr = false → f ≠ .tr ∧ noTrs r0 = true) ∧ ∀ b, c b = cn b + cr b
  same := fun ⟨r0, e0, cn, cr, n, r, t, e⟩ s hF p => ⟨r0, e0, cn, cr, n.same s hF, r.same s hF (fun _ h => h) p, t, e⟩
  step := fun ht ⟨r0, e0, cn, cr, n, r, t, e⟩ s hF p => ⟨r0, e0, cn, cr, n.stay (t ht).1 (s _ fun b q => by rw [e]; omega) hF, r.stay (t ht).2 (s _ fun b q => by rw [e]; omega) hF (fun _ h => h) p, t, e⟩
  mu := fun ⟨r0, e0, cn, cr, n, r, t, e⟩ b q => by
    by_cases z : cn b = 0
    · exact r.mu b (by rw [e] at q; omega)
    · exact n.mu b z
  stop := fun {i H c F as} ⟨r0, e0, cn, cr, n, r, t, e⟩ => ⟨xs, n.seq, by
    have z := enumV_nil e0.symm
    subst z
    have := r.length
    simp at this
    omega⟩
  go := fun {i v r' H c F as} ⟨r0, e0, cn, cr, n, r, t, e⟩ => by
    obtain ⟨w, t', rfl, _, _⟩ := enumV_cons e0.symm
    have := r.length
    simp at this
    exact ⟨xs, xs[i]'(by omega), n.seq, List.getElem?_eq_getElem _⟩
  yld := fun {i v r' Hm H c F as x H'} ⟨r0, e0, cn, cr, n, r, t, e⟩ sH y => by
    obtain ⟨w, t', rfl, rfl, rfl⟩ := enumV_cons e0.symm
    obtain ⟨Ta, x0, rfl, hT, rfl, y⟩ := y
    generalize hd : xs.drop i = ys at r
    cases r with
    | cons r1 r2 hc =>
      obtain ⟨h1, h2⟩ := drop_cons hd
      have ex := y xs (sH.seq n.seq)
      rw [h1] at ex
      cases ex
      have hTm : Hm Ta = none := sH.free hT
      have sm : Same Hm (upd Hm Ta (.tup [.int (i : Nat), x0])) := same_new hTm
      refine ⟨same_new hT, _, _, _, sm, same_upd2 sH, new_upd hT, .tup (.inl (.inl upd_same)) (.cons Rep.int' (.cons (r1.same sm (fun _ h => h) (fun _ h => h) Pre.refl) (.nil fun _ => rfl) fun _ => rfl) fun _ => rfl), ⟨t', rfl, cn, _, n.same sm (fun _ h => h), by rw [h2]; exact r2.same sm (fun _ h => h) (fun _ h => h) Pre.refl, fun q => ⟨(t q).1, ?_⟩, fun _ => rfl⟩, fun b => by rw [e, hc]; omega⟩
      have := (t q).2
      unfold noTrs at this
      simp only [Bool.and_eq_true] at this
      exact this.2
/-- two lists, item by item -/
def zipV : List Vl → List Vl → List Vl
  | v :: r, w :: s => .tup [v, w] :: zipV r s
  | _, _ => []
theorem zipV_nil : ∀ {r s : List Vl}, zipV r s = [] → r = [] ∨ s = []
  | [], _, _ => .inl rfl
  | _ :: _, [], _ => .inr rfl
  | _ :: _, _ :: _, h => nomatch h
theorem zipV_cons {v : Vl} {t : List Vl} : ∀ {r s : List Vl}, zipV r s = v :: t → ∃ a r' b s', r = a :: r' ∧ s = b :: s' ∧ v = .tup [a, b] ∧ t = zipV r' s'
  | [], _, h => nomatch h
  | _ :: _, [], h => nomatch h
  | a :: r, b :: s, h => by cases h; exact ⟨a, r, b, s, rfl, rfl, rfl, rfl⟩
def walkZ (f g : Fl) (a b : Addr) (xs ys : List V) (tr : Bool) : Walk K mg T (Itz K a b) tr where
  P := fun i r H c F as => ∃ r0 s0, r = zipV r0 s0 ∧ ∃ cn cm cr cs, Nod K H F T f a xs cn ∧ Nod K H F T g b ys cm ∧ Reps K mg H F T as r0 (xs.drop i) cr ∧ Reps K mg H F T as s0 (ys.drop i) cs ∧ (tr = false → (f ≠ .tr ∧ g ≠ .tr) ∧ noTrs r0 = true ∧ noTrs s0 = true) ∧ ∀ b, c b = (cn b + cm b) + (cr b + cs b)
  same := fun ⟨r0, s0, e0, cn, cm, cr, cs, n, m, r, s', t, e⟩ s hF p => ⟨r0, s0, e0, cn, cm, cr, cs, n.same s hF, m.same s hF, r.same s hF (fun _ h => h) p, s'.same s hF (fun _ h => h) p, t, e⟩
  step := fun ht ⟨r0, s0, e0, cn, cm, cr, cs, n, m, r, s', t, e⟩ s hF p => ⟨r0, s0, e0, cn, cm, cr, cs, n.stay (t ht).1.1 (s _ fun b q => by rw [e]; omega) hF, m.stay (t ht).1.2 (s _ fun b q => by rw [e]; omega) hF,
    r.stay (t ht).2.1 (s _ fun b q => by rw [e]; omega) hF (fun _ h => h) p, s'.stay (t ht).2.2 (s _ fun b q => by rw [e]; omega) hF (fun _ h => h) p, t, e⟩
  mu := fun ⟨r0, s0, e0, cn, cm, cr, cs, n, m, r, s', t, e⟩ b q => by
    by_cases z : cn b = 0
    · by_cases z2 : cm b = 0
      · by_cases z3 : cr b = 0
        · exact s'.mu b (by rw [e] at q; omega)
        · exact r.mu b z3
      · exact m.mu b z2
    · exact n.mu b z
  stop := fun {i H c F as} ⟨r0, s0, e0, cn, cm, cr, cs, n, m, r, s', t, e⟩ => ⟨xs, ys, n.seq, m.seq, by
    have l1 := r.length
    have l2 := s'.length
    rcases zipV_nil e0.symm with z | z
    · subst z; simp at l1; left; omega
    · subst z; simp at l2; right; omega⟩
  go := fun {i v r' H c F as} ⟨r0, s0, e0, cn, cm, cr, cs, n, m, r, s', t, e⟩ => by
    obtain ⟨v1, r1, v2, s1, rfl, rfl, _, _⟩ := zipV_cons e0.symm
    have l1 := r.length
    have l2 := s'.length
    simp at l1 l2
    exact ⟨xs, ys, xs[i]'(by omega), ys[i]'(by omega), n.seq, m.seq, List.getElem?_eq_getElem _, List.getElem?_eq_getElem _⟩
  yld := fun {i v r' Hm H c F as x H'} ⟨r0, s0, e0, cn, cm, cr, cs, n, m, r, s', t, e⟩ sH y => by
    obtain ⟨v1, q1, v2, q2, rfl, rfl, rfl, rfl⟩ := zipV_cons e0.symm
    obtain ⟨Ta, x0, y0, rfl, hT, rfl, y1, y2⟩ := y
    generalize hd : xs.drop i = zs at r
    generalize hd2 : ys.drop i = ws at s'
    cases r with
    | cons r1 r2 hc =>
      cases s' with
      | cons t1 t2 hc2 =>
        obtain ⟨h1, h2⟩ := drop_cons hd
        obtain ⟨h3, h4⟩ := drop_cons hd2
        have ex := y1 xs (sH.seq n.seq)
        rw [h1] at ex
        cases ex
        have ey := y2 ys (sH.seq m.seq)
        rw [h3] at ey
        cases ey
        have hTm : Hm Ta = none := sH.free hT
        have sm : Same Hm (upd Hm Ta (.tup [x0, y0])) := same_new hTm
        refine ⟨same_new hT, _, _, _, sm, same_upd2 sH, new_upd hT, .tup (.inl (.inl upd_same)) (.cons (r1.same sm (fun _ h => h) (fun _ h => h) Pre.refl) (.cons (t1.same sm (fun _ h => h) (fun _ h => h) Pre.refl) (.nil fun _ => rfl) fun _ => rfl) fun _ => rfl),
          ⟨q1, q2, rfl, cn, cm, _, _, n.same sm (fun _ h => h), m.same sm (fun _ h => h), by rw [h2]; exact r2.same sm (fun _ h => h) (fun _ h => h) Pre.refl, by rw [h4]; exact t2.same sm (fun _ h => h) (fun _ h => h) Pre.refl, fun q => ⟨(t q).1, ?_⟩, fun _ => rfl⟩, fun b => by rw [e, hc, hc2]; omega⟩
        have u1 := (t q).2.1
        have u2 := (t q).2.2
        unfold noTrs at u1 u2
        simp only [Bool.and_eq_true] at u1 u2
        exact ⟨u1.2, u2.2⟩
end
end PyI

namespace PyI
open PySem PySem.Spec PyProof.Rows L2

def srcE (h : List Vl → Option (List Vl × Bool)) (fs : List E) : Src := fun st => match evs fs st with
  | .ok (vs, st1, e) => (match h vs with
    | some (items, tr) => .ok (items, tr, st1, e)
    | none => .bad)
  | .exc c s => .exc c s
  | .bad => .bad
section
variable {K : PySem.W.Frag} {mg : Str → Option Value} {W : WX} {fs : List E} {σ : L2.St} {H : Hp}
theorem SrcI.args {h : List Vl → Option (List Vl × Bool)} {Rr : It → Hp → Prop} (hi : SrcI K mg W (srcE h fs) σ H Rr) : AI K mg W fs σ H fun xs H1 => ∃ F T as vs c items tr, Reps K mg H1 F T as vs xs c ∧ h vs = some (items, tr) ∧ ∀ (J : It) (w : Walk K mg T J tr) c3, w.P 0 items H1 c3 F as → (∀ b, c3 b ≤ c b) → Rr J H1 := by
  obtain ⟨F, T, as, L, st, c0, r0, p⟩ := hi
  refine ⟨F, T, as, L, st, c0, r0, ?_⟩
  unfold srcE at p
  cases e1 : evs fs st with
  | bad => rw [e1] at p; exact p
  | exc cl s => rw [e1] at p; exact p
  | ok q =>
    obtain ⟨vs, st1, f1⟩ := q
    rw [e1] at p
    simp only at p
    intro F1 as1 H2 xs c1 c r1 rv s1 p1 ef
    cases e2 : h vs with
    | none => rw [e2] at p; exact (show False from p).elim
    | some z =>
      obtain ⟨items, tr⟩ := z
      rw [e2] at p
      simp only at p
      exact ⟨F1, T, as1, vs, c, items, tr, rv, e2, fun J w c3 wp hc => p F1 as1 H2 c1 c3 J w r1 wp (s1.less fun b => by have := hc b; omega) p1 ef⟩
end
def hSeq : List Vl → Option (List Vl × Bool)
  | [.nd f .lst vs] => some (vs, f == .tr || !noTrs vs)
  | [.tup vs] => some (vs, !noTrs vs)
  | _ => none
def hEnum : List Vl → Option (List Vl × Bool)
  | [.nd f .lst vs] => some (enumV 0 vs, f == .tr || !noTrs vs)
  | _ => none
def hZip : List Vl → Option (List Vl × Bool)
  | [.nd f .lst vs, .nd g .lst ws] => some (zipV vs ws, (f == .tr || g == .tr) || !(noTrs vs && noTrs ws))
  | _ => none
def hRng1 : List Vl → Option (List Vl × Bool)
  | [.int j] => if inB 4611686018427387903 j then some (intsV 0 j.toNat, false) else none
  | _ => none
def hRng2 : List Vl → Option (List Vl × Bool)
  | [.int i, .int j] => if inB 4611686018427387903 i && inB 4611686018427387903 j then some (intsV i (j - i).toNat, false) else none
  | _ => none
/-- a step of -1 -/
def hRng3 : List Vl → Option (List Vl × Bool)
  | [.int i, .int j, .int (-1)] => if inB 4611686018427387903 i && inB 4611686018427387903 j then some (intsC i (-1) (i - j).toNat, false) else none
  | _ => none
def iSeq (K : PySem.W.Frag) (tl : TE) : TI := fun σ H Rr => tl σ H fun x H1 => ∃ a, x = .ref a ∧ (((∃ xs, SqL K H1 a xs) ∧ Rr (Itl K a) H1) ∨ ((∃ xs, SqT K H1 a xs) ∧ Rr (Itt K a) H1))
theorem pi_seq {X : Cx} {tg l : Expr} {tl : TE} (hl : PE X l tl) : PI X tg l (iSeq X.K tl) := by
  refine ⟨fun pins s σ H Rr I h => ?_⟩
  refine thn (hl.run pins s σ H _ I h) fun v s1 ⟨x, H1, I1, r1, q1⟩ => ?_
  obtain ⟨a, e, q⟩ := q1
  subst e
  cases r1
  rcases q with ⟨⟨xs, hq⟩, q⟩ | ⟨⟨xs, hq⟩, q⟩
  · obtain ⟨its, rv, p, hz⟩ := I1.list hq
    refine wpAny_pyIter_list p.isList ?_
    refine ⟨s1.heap.objs.size, [s1.heap.objs.size], _, _, H1, rfl, I1.kept (t' := s1.toks) fun b o e => Heap.get?_push_of_some _ e, turn_list a _, ⟨_, Heap.get?_push_size _ rfl, rfl, rfl⟩, fun b hb => ?_, q⟩
    have e : b = s1.heap.objs.size := by simpa using hb
    subst e
    exact I1.fpOk (Nat.le_refl _) (I1.hok.fresh (Nat.le_refl _))
  · obtain ⟨its, rv, p, hz⟩ := I1.tuple hq
    refine wpAny_pyIter_tuple (show s1.heap.IsTuple a its.toArray from p) ?_
    refine ⟨s1.heap.objs.size, [s1.heap.objs.size], _, _, H1, rfl, I1.kept (t' := s1.toks) fun b o e => Heap.get?_push_of_some _ e, turn_tuple a _, ⟨_, Heap.get?_push_size _ rfl, rfl, rfl⟩, fun b hb => ?_, q⟩
    have e : b = s1.heap.objs.size := by simpa using hb
    subst e
    exact I1.fpOk (Nat.le_refl _) (I1.hok.fresh (Nat.le_refl _))
theorem tr_of {f : Fl} {n : Bool} (h : (f == .tr || !n) = false) : f ≠ .tr ∧ n = true := by
  cases f <;> cases n <;> simp_all <;> decide
section
variable {X : Cx} {tg e e2 e3 : Expr} {f f2 f3 : E} {p pos tpos : Pos} {elts : List Expr} {kk : Nat}
theorem SrcOk.seq (h : EOk X e f) : SrcOk X tg e (srcE hSeq [f]) := fun W t => (pi_seq (h W t)).imp fun σ H Rr hi => by
  refine hi.args.one.mono fun x H1 ⟨F, T, as, vs, c, items, tr, r, e1, q⟩ => ?_
  unfold hSeq at e1
  split at e1
  · rename_i f vs
    cases e1
    obtain ⟨x', e2, r1⟩ := r.inv1
    cases e2
    obtain ⟨a, xs, cn, cr, rfl, n, rr, hc⟩ := r1.nod
    exact ⟨a, rfl, .inl ⟨⟨xs, n.seq⟩, q _ (walkL f a xs _) c ⟨cn, cr, n, rr, fun z => tr_of z, hc⟩ fun b => Nat.le_refl _⟩⟩
  · cases e1
    obtain ⟨x', e2, r1⟩ := r.inv1
    cases e2
    obtain ⟨a, xs, rfl, n, rr⟩ := r1.inv_tup
    exact ⟨a, rfl, .inr ⟨⟨xs, n⟩, q _ (walkT a xs _) c ⟨n, rr, fun z => by simpa using z⟩ fun b => Nat.le_refl _⟩⟩
  · cases e1
theorem SrcOk.enum (hg : Gl X "enumerate") (hm : X.mg "enumerate" = none) (h : AOk X [e] [f]) (hs : starEach [e] X.env = [(false, eval e X.env)] := by rfl) : SrcOk X (.Tuple elts kk tpos) (.Call (.Name "enumerate" p) [e] [] pos) (srcE hEnum [f]) := fun W t => (pi_enum hg hm (h W t) hs).imp fun σ H Rr hi => by
  refine hi.args.mono fun x H1 ⟨F, T, as, vs, c, items, tr, r, e1, q⟩ => ?_
  unfold hEnum at e1
  split at e1
  · rename_i f vs
    cases e1
    obtain ⟨x', e2, r1⟩ := r.inv1
    cases e2
    obtain ⟨a, xs, cn, cr, rfl, n, rr, hc⟩ := r1.nod
    exact ⟨a, xs, rfl, n.seq, q _ (walkE f a xs _) c ⟨vs, rfl, cn, cr, n, rr, fun z => tr_of z, hc⟩ fun b => Nat.le_refl _⟩
  · cases e1
theorem SrcOk.zip (hg : Gl X "zip") (hm : X.mg "zip" = none) (h : AOk X [e, e2] [f, f2]) (hs : starEach [e, e2] X.env = (false, eval e X.env) :: starEach [e2] X.env := by rfl) (hpl : (backTo pos (starEach [e2] X.env)).any (·.1) = false := by rfl) :
    SrcOk X (.Tuple elts kk tpos) (.Call (.Name "zip" p) [e, e2] [] pos) (srcE hZip [f, f2]) := fun W t => (pi_zip hg hm (h W t) hs hpl).imp fun σ H Rr hi => by
  refine hi.args.mono fun x H1 ⟨F, T, as, vs, c, items, tr, r, e1, q⟩ => ?_
  unfold hZip at e1
  split at e1
  · rename_i f vs g ws
    cases e1
    obtain ⟨x', y', d1, d2, e2, r1, r2, hcc⟩ := r.inv2
    cases e2
    obtain ⟨a, xs, cn, cr, rfl, n, rr, hc⟩ := r1.nod
    obtain ⟨b, ys, cm, cs, rfl, m, ss, hc2⟩ := r2.nod
    refine ⟨a, b, xs, ys, rfl, n.seq, m.seq, q _ (walkZ f g a b xs ys _) c ⟨vs, ws, rfl, cn, cm, cr, cs, n, m, rr, ss, fun z => ?_, fun b => by rw [hcc, hc, hc2]; omega⟩ fun b => Nat.le_refl _⟩
    simp only [Bool.or_eq_false_iff, Bool.not_eq_false', Bool.and_eq_true, beq_eq_false_iff_ne] at z
    exact ⟨z.1, z.2⟩
  · cases e1
theorem SrcOk.rng1 (hg : Gl X "range") (hm : X.mg "range" = none) (h : AOk X [e] [f]) (hs : starEach [e] X.env = [(false, eval e X.env)] := by rfl) : SrcOk X tg (.Call (.Name "range" p) [e] [] pos) (srcE hRng1 [f]) := fun W t => (pi_range1 hg hm (h W t) hs).imp fun σ H Rr hi => by
  refine hi.args.mono fun x H1 ⟨F, T, as, vs, c, items, tr, r, e1, q⟩ => ?_
  unfold hRng1 at e1
  split at e1
  · split at e1
    · rename_i j hc
      cases e1
      simp only [inB_eq] at hc
      obtain ⟨x', e2, r1⟩ := r.inv1
      cases e2
      cases r1.inv_int
      exact ⟨j, rfl, by omega, by omega, q _ (walkR 0 j.toNat) (fun _ => 0) ⟨by simp [intsV], rfl, fun _ => rfl⟩ fun b => Nat.zero_le _⟩
    · cases e1
  · cases e1
theorem SrcOk.rng2 (hg : Gl X "range") (hm : X.mg "range" = none) (h : AOk X [e, e2] [f, f2]) (hs : starEach [e, e2] X.env = [(false, eval e X.env), (false, eval e2 X.env)] := by rfl) (hs2 : starEach [e2] X.env = [(false, eval e2 X.env)] := by rfl) :
    SrcOk X tg (.Call (.Name "range" p) [e, e2] [] pos) (srcE hRng2 [f, f2]) := fun W t => (pi_range2 hg hm (h W t) hs hs2).imp fun σ H Rr hi => by
  refine hi.args.mono fun x H1 ⟨F, T, as, vs, c, items, tr, r, e1, q⟩ => ?_
  unfold hRng2 at e1
  split at e1
  · split at e1
    · rename_i i j hc
      cases e1
      simp only [Bool.and_eq_true, inB_eq] at hc
      obtain ⟨x', y', d1, d2, e2, r1, r2, hcc⟩ := r.inv2
      cases e2
      cases r1.inv_int
      cases r2.inv_int
      exact ⟨i, j, rfl, ⟨by omega, by omega, by omega, by omega⟩, q _ (walkR i (j - i).toNat) (fun _ => 0) ⟨by simp [intsV], rfl, fun _ => rfl⟩ fun b => Nat.zero_le _⟩
    · cases e1
  · cases e1
theorem Reps.inv3 {K : PySem.W.Frag} {mg : Str → Option Value} {H : Hp} {F T : Addr → Prop} {as : List Addr} {c : Addr → Nat} {u v w : Vl} {xs : List V} (r : Reps K mg H F T as [u, v, w] xs c) : ∃ x y z c1 c2 c3, xs = [x, y, z] ∧ Rep K mg H F T as u x c1 ∧ Rep K mg H F T as v y c2 ∧ Rep K mg H F T as w z c3 ∧ ∀ b, c b = c1 b + (c2 b + c3 b) := by
  cases r with
  | cons r1 r2 hc =>
    obtain ⟨y, z, c1, c2, e, r3, r4, h2⟩ := r2.inv2
    subst e
    exact ⟨_, _, _, _, _, _, rfl, r1, r3, r4, fun b => by rw [hc, h2]⟩
theorem SrcOk.rng3 (hg : Gl X "range") (hm : X.mg "range" = none) (h : AOk X [e, e2, e3] [f, f2, f3]) (hs : starEach [e, e2, e3] X.env = (false, eval e X.env) :: starEach [e2, e3] X.env := by rfl) (hpl : (backTo pos (starEach [e2, e3] X.env)).any (·.1) = false := by rfl) :
    SrcOk X tg (.Call (.Name "range" p) [e, e2, e3] [] pos) (srcE hRng3 [f, f2, f3]) := fun W t => (pi_range3 hg hm (h W t) hs hpl).imp fun σ H Rr hi => by
  refine hi.args.mono fun x H1 ⟨F, T, as, vs, c, items, tr, r, e1, q⟩ => ?_
  unfold hRng3 at e1
  split at e1
  · split at e1
    · rename_i i j hc
      cases e1
      simp only [Bool.and_eq_true, inB_eq] at hc
      obtain ⟨x', y', z', d1, d2, d3, e2, r1, r2, r3, hcc⟩ := r.inv3
      cases e2
      cases r1.inv_int
      cases r2.inv_int
      cases r3.inv_int
      exact ⟨i, j, -1, (i - j).toNat, rfl, RgC.neg (by omega) (by omega) (by omega) (by omega), q _ (walkC i (-1) (i - j).toNat) (fun _ => 0) ⟨by simp [intsC], rfl, fun _ => rfl⟩ fun b => Nat.zero_le _⟩
    · cases e1
  · cases e1
end

/-! ### for -/
def forL (g : Tg) (body : C) : List Vl → C
  | [] => .nx
  | v :: r => fun st => match g v st with
    | none => .bad
    | some st1 => match body st1 with
      | .nx st2 => forL g body r st2
      | .ct st2 => forL g body r st2
      | .bk st2 => .nx st2
      | z => z
def forC (g : Tg) (src : Src) (body : C) : C := fun st => match src st with
  | .ok (items, tr, st1, _) => if tr then .bad else forL g body items st1
  | .exc cl s => .exc cl s
  | .bad => .bad
/-- what flies through a step -/
theorem Step.stayF {F F' : Addr → Prop} {T : Addr → Prop} {c c' cv : Addr → Nat} {H H' : Hp} {K : PySem.W.Frag} {mg : Str → Option Value} {as : List Addr} {L : List (Nat × V)} {st : Sta} {σ : L2.St} (r : Rel K mg F T as L st σ H c) (hd : ∀ b, cv b ≠ 0 → c b = 0) (s : Step F c H F' c' H') : ∀ d, (∀ b, d b ≠ 0 → cv b ≠ 0) → Stay H H' F T d :=
  fun d h => r.stay (fun b q => hd b (h b q)) s.keep
section
variable {X : Cx} {tg iter : Expr} {body : List Stmt} {g : Tg} {src : Src} {f : C} {pos : Pos}
theorem SOk.for_ (hp : PassesOwn (model X.prog X.w) X.A X.env X.xe) (hc : X.calm = true) (hi : SrcOk X tg iter src) (hg : GOk X tg g) (hb : SsOk X body f) (hs : ∀ x, foldedSetIterable iter X.env x = pure x := by intro _; rfl) : SOk X (.For tg iter body [] pos) (forC g src f) := fun W t => (ps_for hp hc (hi W t) hg (hb W t) hs).imp fun D σ H h => by
  obtain ⟨F, T, as, L, st, c, r, p⟩ := h
  refine ⟨F, T, as, L, st, c, r, ?_⟩
  unfold forC at p
  cases e1 : src st with
  | bad => rw [e1] at p; exact p
  | exc cl s => rw [e1] at p; exact p
  | ok q =>
    obtain ⟨items, tr, st1, f1⟩ := q
    rw [e1] at p
    simp only at p
    intro F1 as1 H1 c1 c2 J w r1 wp s1 p1 ef1
    cases tr with
    | true => exact (show False from p).elim
    | false =>
      rw [if_neg Bool.false_ne_true] at p
      have fl0 : Fly X.K X.mg F1 T as1 L st1 σ H1 c1 c2 := ⟨r1, s1.here, fun b q => by
        by_cases z : c2 b = 0
        · exact z
        · have h0 := r.fr b (.inr q)
          rcases s1.grow b (by show c1 b + c2 b ≠ 0; omega) with y | y
          · exact absurd h0.1 y
          · exact absurd y h0.2⟩
      refine ⟨fun i m σ H => ∃ F as st c1 c2 rest, m = rest.length ∧ Fly X.K X.mg F T as L st σ H c1 c2 ∧ w.P i rest H c2 F as ∧ SPost X.K X.mg W D T as L F (fun b => c1 b + c2 b) H (forL g f rest st),
        ⟨items.length, F1, as1, st1, c1, c2, items, rfl, fl0, wp, SPost.back p s1 p1⟩, ?_⟩
      rintro i m σ H ⟨F, as, st, c1, c2, rest, rfl, fl, wp, p⟩
      cases rest with
      | nil => exact .inl ⟨w.stop wp, p F as σ H c1 fl.r (fl.s.less fun b => Nat.le_add_right _ _) Pre.refl⟩
      | cons v rest =>
        refine .inr ⟨w.go wp, fun σ' H' => ∃ m', m' < (v :: rest).length ∧ ∃ F as st c1 c2 rest, m' = rest.length ∧ Fly X.K X.mg F T as L st σ' H' c1 c2 ∧ w.P (i + 1) rest H' c2 F as ∧ SPost X.K X.mg W D T as L F (fun b => c1 b + c2 b) H' (forL g f rest st), fun _ _ h => h, fun x H' y => ?_⟩
        obtain ⟨sm, Hm', d1, d2, _, sH', _, rv0, wp0, hd⟩ := w.yld wp (Same.refl _) y
        have rv := rv0.same sH' (fun _ h => h) (fun _ h => h) Pre.refl
        have wp' := w.same wp0 sH' (fun _ h => h) Pre.refl
        have le : ∀ b, c1 b + c2 b ≤ 1 := fl.s.le
        have dis : ∀ b, F b → c1 b + c2 b = 0 := fl.s.dis
        unfold forL at p
        cases e2 : g v st with
        | none => rw [e2] at p; exact (show False from p).elim
        | some st1 =>
          rw [e2] at p
          simp only at p
          refine ⟨F, T, as, L, st, v, c1, d1, ⟨fl.r.same sm, Step.refl (fun b => by have := le b; have := hd b; omega) (fun b q => by have := dis b q; have := hd b; omega), fun b q => by have := fl.t b q; have := hd b; omega⟩, rv, st1, e2, fun σ1 c5 r5 k5 => ?_⟩
          refine ⟨F, T, as, L, st1, c5, r5, ?_⟩
          have sa : Step F (fun b => c1 b + c2 b) H F (fun b => c5 b + d2 b) H' := ⟨fun b o e _ => sm b o e, fun b q => .inl (by have := k5 b; have := hd b; have q' : c5 b + d2 b ≠ 0 := q; show c1 b + c2 b ≠ 0; omega),
            fun b => by have := k5 b; have := hd b; have := le b; show c5 b + d2 b ≤ 1; omega, fun _ h => h, fun b q => by have := k5 b; have := hd b; have := dis b q; show c5 b + d2 b = 0; omega, fun _ h => .inl h, PyI.Same.trk sm⟩
          have sb : Step F (fun b => c1 b + c2 b) H F c5 H' := sa.less fun b => Nat.le_add_right _ _
          have more : ∀ {st2 : Sta}, SPost X.K X.mg W D T as L F (fun b => c1 b + c2 b) H (forL g f rest st2) → ∀ F' as' σ' H2 c', Rel X.K X.mg F' T as' L st2 σ' H2 c' → Step F c5 H' F' c' H2 → Pre as as' →
              ∃ m', m' < (v :: rest).length ∧ ∃ F as st c1 c2 rest, m' = rest.length ∧ Fly X.K X.mg F T as L st σ' H2 c1 c2 ∧ w.P (i + 1) rest H2 c2 F as ∧ SPost X.K X.mg W D T as L F (fun b => c1 b + c2 b) H2 (forL g f rest st) := fun {st2} p F2 as2 σ2 H2 c6 r6 s6 p6 => by
            have mv := w.mu wp'
            have sc := Step.flight r5 mv sa s6
            refine ⟨rest.length, Nat.lt_succ_self _, F2, as2, st2, c6, d2, rest, rfl, ⟨r6, sc.here, fun b q => by have := fl.t b q; have := hd b; omega⟩, ?_, SPost.back p sc p6⟩
            exact w.step rfl wp' (s6.stayF r5 fun b q => by have : c5 b + d2 b ≤ 1 := sa.le b; omega) s6.sub p6
          cases e3 : f st1 with
          | bad => rw [e3] at p; exact (show False from p).elim
          | exc cl s => rw [e3] at p; exact SPost.back (r := .exc cl s) p sb Pre.refl
          | rt v s => rw [e3] at p; exact SPost.back (r := .rt v s) p sb Pre.refl
          | bk s => rw [e3] at p; exact SPost.back (r := .nx s) p sb Pre.refl
          | nx s => rw [e3] at p; exact more p
          | ct s => rw [e3] at p; exact more p
end
end PyI

namespace PyI
open PySem PySem.Spec PyProof.Rows L2

/-! ### defs -/
inductive RF where
  | ok (v : Vl) | exc (c : Str) | bad
/-- a def of data: what it hands back is its own; what is handed in is only read -/
def spP (K : PySem.W.Frag) (mg : Str → Option Value) (n : Nat) (Fn : List Vl → RF) : Sp := fun xs H Q E => xs.length = n ∧ ∃ vs, Reps K mg H (Trk H) (fun _ => False) [] (setFs .sh vs) xs (fun _ => 0) ∧ match Fn (setFs .sh vs) with
  | .ok v => allOwn v = true ∧ ∀ H' x c, Same H H' → Rep K mg H' (fun _ => False) (fun _ => False) [] v x c → (∀ b, c b ≤ 1) → (∀ b, c b ≠ 0 → H b = none) → Q x H'
  | .exc cl => ∀ H', Same H H' → ∀ C, mg cl = some (.ref C) → E (.ref C) none H'
  | .bad => False
def callE (n : Nat) (Fn : List Vl → RF) (fs : List E) (ds : List Vl) : E := fun st => match evs fs st with
  | .ok (vs, st1, e) => if noRefs vs && decide (vs.length + ds.length = n) then (match Fn (setFs .sh (vs ++ ds)) with
    | .ok v => if allOwn v then .ok (v, st1, e) else .bad
    | .exc c => .exc c st1
    | .bad => .bad) else .bad
  | .exc c s => .exc c s
  | .bad => .bad
theorem setFs_append {f : Fl} : ∀ {vs ws : List Vl}, setFs f (vs ++ ws) = setFs f vs ++ setFs f ws
  | [], _ => by unfold setFs; simp [setFs]
  | v :: r, ws => by
    show setF f v :: setFs f (r ++ ws) = setF f v :: (setFs f r ++ setFs f ws)
    rw [setFs_append]
theorem len_setFs (f : Fl) : ∀ vs : List Vl, (setFs f vs).length = vs.length
  | [] => rfl
  | v :: r => by show (setFs f r).length + 1 = r.length + 1; rw [len_setFs f r]
theorem EI.call {K : PySem.W.Frag} {mg : Str → Option Value} {W : WX} {n : Nat} {Fn : List Vl → RF} {fs : List E} {ds : List Vl} {dxs : List V} {σ : L2.St} {H : Hp} {Q : VK} (h : EI K mg W (callE n Fn fs ds) σ H Q) (hds : ∀ H F T as, Reps K mg H F T as (setFs .sh ds) dxs (fun _ => 0)) : AI K mg W fs σ H fun xs H1 => spP K mg n Fn (xs ++ dxs) H1 Q (WE W σ) := by
  obtain ⟨F, T, as, L, st, c0, r0, p⟩ := h
  refine ⟨F, T, as, L, st, c0, r0, ?_⟩
  unfold callE at p
  cases e1 : evs fs st with
  | bad => rw [e1] at p; exact p
  | exc cl s => rw [e1] at p; exact p
  | ok q =>
    obtain ⟨vs, st1, f1⟩ := q
    rw [e1] at p
    simp only at p
    intro F1 as1 H2 xs c1 c r1 rv s1 p1 ef
    by_cases nr : (noRefs vs && decide (vs.length + ds.length = n)) = true
    · rw [if_pos nr] at p
      simp only [Bool.and_eq_true, decide_eq_true_eq] at nr
      have l1 := rv.length
      have l2 := (hds H F T as).length
      have l3 : ds.length = dxs.length := by
        rw [← l2]
        exact (len_setFs _ _).symm
      refine ⟨by rw [List.length_append]; omega, vs ++ ds, ?_, ?_⟩
      · rw [setFs_append]
        exact (rv.hand nr.1).append (hds _ _ _ _)
      cases e2 : Fn (setFs .sh (vs ++ ds)) with
      | bad => rw [e2] at p; exact (show False from p).elim
      | exc cl =>
        rw [e2] at p
        intro H' sm C hC
        refine p F1 as1 σ H' c1 (r1.same sm) ⟨fun b o e q => sm b o (s1.keep b o e q), fun b q => s1.grow b (by show c1 b + c b ≠ 0; omega), fun b => by have := s1.le b; have : c1 b + c b ≤ 1 := this; omega, s1.sub, fun b q => by have := s1.dis b q; have : c1 b + c b = 0 := this; omega, s1.fgr, fun b q => PyI.Same.trk sm b (s1.trk b q)⟩ p1 C hC
      | ok v =>
        rw [e2] at p
        by_cases ow : allOwn v = true
        · simp only [if_pos ow] at p
          refine ⟨ow, fun H' x c5 sm rx le fr => ?_⟩
          refine p F1 as1 H' x c1 c5 (r1.same sm) (rx.home ow) ⟨fun b o e q => sm b o (s1.keep b o e q), fun b q => ?_, fun b => ?_, s1.sub, fun b q => ?_, s1.fgr, fun b q => PyI.Same.trk sm b (s1.trk b q)⟩ p1 fun q => ⟨(ef q).1.trans sm, (ef q).2⟩
          · by_cases z : c1 b = 0
            · have q' : c1 b + c5 b ≠ 0 := q
              have y := fr b (by omega)
              by_cases w : c0 b = 0
              · refine .inr ?_
                cases u : H b with
                | none => rfl
                | some o => rw [s1.keep b o u w] at y; cases y
              · exact .inl w
            · exact s1.grow b (by show c1 b + c b ≠ 0; omega)
          · show c1 b + c5 b ≤ 1
            by_cases z : c1 b = 0
            · have := le b; omega
            · have y := r1.there b z
              have : c5 b = 0 := by
                by_cases w : c5 b = 0
                · exact w
                · exact absurd (fr b w) y
              have := r1.le b
              omega
          · show c1 b + c5 b = 0
            have h0 := r1.fr b (.inl q)
            have : c5 b = 0 := by
              by_cases w : c5 b = 0
              · exact w
              · exact absurd (fr b w) h0.2
            omega
        · simp only [if_neg ow] at p
          exact (show False from p).elim
    · rw [if_neg nr] at p
      exact (show False from p).elim
theorem spP.len {K : PySem.W.Frag} {mg : Str → Option Value} {n : Nat} {Fn : List Vl → RF} {xs : List V} {H : Hp} {Q : VK} {E : XK} (h : spP K mg n Fn xs H Q E) : xs.length = n := h.1
section
variable {X : Cx} {k n : Nat} {f : Addr} {fd : FuncData} {ps : List Str} {Fn : List Vl → RF} {x : Str} {p pos : Pos} {e : Expr} {es : List Expr} {fs : List E}
theorem EOk.call (G : FnOk X.prog X.w X.K X.mg X.base (L2.CX X.prog X.w) k f fd ps (spP X.K X.mg ps.length Fn)) (hr : Room k X.A) (hg : Gl X x) (hm : X.mg x = some (.ref f)) (hk : PySem.W.keepIn X.K (.ref f) = true) (hb : Binds X.K fd ps [])
    (ha : AOk X (e :: es) fs) (hdb : (x == ("__debug__" : Str)) = false := by decide) (he : starEach (e :: es) X.env = (false, eval e X.env) :: starEach es X.env := by rfl) (hpl : (backTo pos (starEach es X.env)).any (·.1) = false := by rfl) :
    EOk X (.Call (.Name x p) (e :: es) [] pos) (callE ps.length Fn fs []) := fun W t =>
  (pe_callS (E := WE W) G hr hg hm hk hb (fun σ => passAt t σ) (ha W t) hdb he hpl).imp fun σ H Q h => (h.call (dxs := []) fun _ _ _ _ => .nil fun _ => rfl).mono fun xs H1 q => by rw [List.append_nil] at q; exact q
/-- .. with defaults -/
theorem EOk.callD {ds : List Vl} {dvs : List V} {dus : List Value} (G : FnOk X.prog X.w X.K X.mg X.base (L2.CX X.prog X.w) k f fd ps (spP X.K X.mg ps.length Fn)) (hr : Room k X.A) (hg : Gl X x) (hm : X.mg x = some (.ref f)) (hk : PySem.W.keepIn X.K (.ref f) = true) (hb : Binds X.K fd ps dus) (hd : Vals dvs dus)
    (hds : ∀ H F T as, Reps X.K X.mg H F T as (setFs .sh ds) dvs (fun _ => 0)) (ha : AOk X (e :: es) fs) (hdb : (x == ("__debug__" : Str)) = false := by decide) (he : starEach (e :: es) X.env = (false, eval e X.env) :: starEach es X.env := by rfl) (hpl : (backTo pos (starEach es X.env)).any (·.1) = false := by rfl) :
    EOk X (.Call (.Name x p) (e :: es) [] pos) (callE ps.length Fn fs ds) := fun W t =>
  (pe_callSD (E := WE W) G hr hg hm hk hb hd (fun σ => passAt t σ) (ha W t) hdb he hpl).imp fun σ H Q h => h.call hds
end

/-! ### a def by its body -/
def runF (n : Nat) (body : C) : List Vl → RF := fun vs => match body ⟨vs.map some ++ List.replicate (n - vs.length) none, [], []⟩ with
  | .nx _ => .ok .non
  | .rt v _ => if allOwn v then .ok v else .bad
  | .exc c _ => .exc c
  | _ => .bad
section
variable {K : PySem.W.Frag} {mg : Str → Option Value} {H : Hp} {F T : Addr → Prop} {as : List Addr}
theorem RepSl.ofReps : ∀ {vs : List Vl} {xs : List V} {n : Nat}, Reps K mg H F T as vs xs (fun _ => 0) → noTrs vs = true → RepSl K mg H F T as (vs.map some ++ List.replicate n none) (xs.map some ++ List.replicate n none) (fun _ => 0)
  | _, _, 0, .nil _, _ => .nil fun _ => rfl
  | _, _, n + 1, .nil hc, h => .no (RepSl.ofReps (n := n) (.nil hc) h)
  | _, _, n, .cons r s hc, h => by
    unfold noTrs at h
    simp only [Bool.and_eq_true] at h
    rename_i v x c1 vs xs c2
    have z1 : c1 = fun _ => 0 := funext fun b => by have := hc b; show c1 b = 0; omega
    have z2 : c2 = fun _ => 0 := funext fun b => by have := hc b; show c2 b = 0; omega
    subst z1 z2
    exact .yes r h.1 (RepSl.ofReps s h.2) fun _ => rfl
end
/-- what the body is to be, in its context -/
def BodyOk (P : Program) (w : World) (K : PySem.W.Frag) (mg : Str → Option Value) (base : Heap) (k : Nat) (N : List Str) (qual : Str) (st : Stmt) (f : Addr) (body : C) : Prop :=
  ∀ (cdv : Value) (A : Around) (outer : List Env) (s : Shared) (H : Hp) (E : XK), Room k (A.deeper (envOfC qual (defScope st) s.heap.objs.size f cdv)) → SsOk (cxOf (L2.CX P w) P w K mg base N qual (defScope st) f cdv A outer s H E) (defBody st) body
theorem body_ok {K : PySem.W.Frag} {mg : Str → Option Value} {body : C} {N ps : List Str} {vs : List V} {H : Hp} {Q : VK} {E : XK} {n : Nat} (hN : ps.length ≤ N.length) (h : spP K mg ps.length (runF N.length body) vs H Q E) : SI K mg (fun cls d _ H => E cls d H) body { nx := fun _ H' => Q .non H', rt := Q } (L2.start N vs) H := by
  obtain ⟨hl, ws, rv, q⟩ := h
  have lw := rv.length
  refine ⟨Trk H, fun _ => False, [], [], ⟨(setFs .sh ws).map some ++ List.replicate (N.length - (setFs .sh ws).length) none, [], []⟩, fun _ => 0, ⟨⟨fun _ => 0, fun _ => 0, ?_, .nil fun _ => rfl, rfl, fun _ => rfl⟩, fun _ => Nat.zero_le _, fun b z => ⟨rfl, by rcases z with z | z; exact z; exact z.elim⟩, rfl, fun p hp => nomatch hp⟩, ?_⟩
  · unfold L2.start
    show RepSl K mg H _ _ _ ((setFs .sh ws).map some ++ List.replicate (N.length - (setFs .sh ws).length) none) _ _
    rw [lw]
    exact RepSl.ofReps rv noTrs_sh
  · unfold runF at q
    have zero : ∀ {F' : Addr → Prop} {c : Addr → Nat} {H' : Hp}, Step (Trk H) (fun _ => 0) H F' c H' → Same H H' := fun s b o e => s.keep b o e rfl
    cases e1 : body ⟨(setFs .sh ws).map some ++ List.replicate (N.length - (setFs .sh ws).length) none, [], []⟩ with
    | bad => rw [e1] at q; exact q
    | bk s => rw [e1] at q; exact (show False from q).elim
    | ct s => rw [e1] at q; exact (show False from q).elim
    | exc cl s =>
      rw [e1] at q
      exact fun F' as' σ' H' c1 r s p C hC => q H' (zero s) C hC
    | nx s =>
      rw [e1] at q
      exact fun F' as' σ' H' c' r s p => q.2 H' .non (fun _ => 0) (zero s) Rep.non' (fun _ => Nat.zero_le _) fun b z => absurd rfl z
    | rt v s =>
      rw [e1] at q
      by_cases ow : allOwn v = true
      · simp only [if_pos ow] at q
        refine fun F' as' σ' H' x c1 c2 r rx s p => q.2 H' x c2 (zero s) (rx.home ow) (fun b => by have := s.le b; have : c1 b + c2 b ≤ 1 := this; omega) fun b z => ?_
        rcases s.grow b (by show c1 b + c2 b ≠ 0; omega) with y | y
        · exact absurd rfl y
        · exact y
      · simp only [if_neg ow] at q
theorem Fun.okP {P : Program} {w : World} {K : PySem.W.Frag} {mg : Str → Option Value} {base : Heap} {x qual : Str} {st : Stmt} {f : Addr} {fd : FuncData} {N ps : List Str} {k : Nat} {body : C} (F : L2.Fun K x qual st f fd) (S : FnScope N ps (defScope st)) (hb : BodyOk P w K mg base k N qual st f body) :
    FnOk P w K mg base (L2.CX P w) (k + 1) f fd ps (spP K mg ps.length (runF N.length body)) := by
  have hpl : ps.length ≤ N.length := by have := congrArg List.length S.pre; rw [List.length_take] at this; omega
  refine F.okX S (fun vs H Q E h => h.1) fun cdv A outer s H vs Q E hr h => ?_
  exact ⟨_, hb cdv A outer s H E hr (fun cls d _ H => E cls d H) (takes_of rfl rfl rfl rfl), body_ok (n := 0) hpl h⟩
/-- for one with default values -/
theorem FunD.okP {P : Program} {w : World} {K : PySem.W.Frag} {mg : Str → Option Value} {base : Heap} {x qual : Str} {st : Stmt} {dvs : List V} {f : Addr} {fd : FuncData} {N ps : List Str} {k : Nat} {body : C} (F : L2.FunD K x qual (defArgs st) (defBody st) (defScope st) dvs [] f fd) (S : FnScope N ps (defScope st)) (hb : BodyOk P w K mg base k N qual st f body) :
    FnOk P w K mg base (L2.CX P w) (k + 1) f fd ps (spP K mg ps.length (runF N.length body)) := by
  have hpl : ps.length ≤ N.length := by have := congrArg List.length S.pre; rw [List.length_take] at this; omega
  refine F.ok S (fun vs H Q E h => h.1) fun cdv A outer s H vs Q E hr h => ?_
  exact ⟨_, hb cdv A outer s H E hr (fun cls d _ H => E cls d H) (takes_of rfl rfl rfl rfl), body_ok (n := 0) hpl h⟩
/-- a def whose function is another form of the same -/
theorem FnOk.eqF {P : Program} {w : World} {K : PySem.W.Frag} {mg : Str → Option Value} {base : Heap} {k n : Nat} {f : Addr} {fd : FuncData} {ps : List Str} {F G : List Vl → RF} (h : FnOk P w K mg base (L2.CX P w) k f fd ps (spP K mg n F)) (e : F = G) : FnOk P w K mg base (L2.CX P w) k f fd ps (spP K mg n G) := e ▸ h

/-! ### raise -/
def rsC (cl : Str) : C := .exc cl
section
variable {X : Cx} {x m : Str} {j : Nat} {p p2 pos rpos : Pos} {C : Addr} {B newId initId : String} {bmB : List Value}
theorem SOk.raise (hc : X.calm = true) (F : ExcBaseFacts B newId initId bmB) (q : PySem.W.excIn X.K C bmB newId = true) (gC : X.mg x = some (.ref C)) (kC : PySem.W.keepIn X.K (.ref C) = true) (r : Raises X (.ref C)) (hg : Gl X x)
    (hd : (x == ("__debug__" : Str)) = false := by decide) : SOk X (.Raise (some (.Call (.Name x p) [.Constant (.str m) j p2] [] pos)) none rpos) (rsC x) := fun W t =>
  (ps_raise hc t (pmk_own F q gC kC r hg hd)).imp fun D σ H h => by
    obtain ⟨Fs, T, as, L, st, c, r, p⟩ := h
    exact p Fs as σ H c r r.refl Pre.refl C gC
end
end PyI

namespace PyI
open PySem PySem.Spec PyProof.Rows L2

/-! ### comprehensions -/
def wipeF (vs : List Nat) : Nat → List (Option Vl) → List (Option Vl)
  | _, [] => []
  | n, o :: r => (if vs.contains n then none else o) :: wipeF vs (n + 1) r
def keepF (vs : List Nat) : Nat → List (Option Vl) → List (Option Vl)
  | _, [] => []
  | n, o :: r => (if vs.contains n then o else none) :: keepF vs (n + 1) r
def mergeS : List (Option Vl) → List (Option Vl) → List (Option Vl)
  | some v :: r, _ :: s => some v :: mergeS r s
  | none :: r, o :: s => o :: mergeS r s
  | _, s => s
def wipeS (vs : List Nat) (st : Sta) : Sta := { st with sl := wipeF vs 0 st.sl }
/-- the slots vs as they were in old -/
def backS (vs : List Nat) (old st : Sta) : Sta := { st with sl := mergeS (keepF vs 0 old.sl) st.sl }
theorem merge_keep (vs : List Nat) : ∀ (n : Nat) (sl : List (Option Vl)), mergeS (keepF vs n sl) (wipeF vs n sl) = sl
  | _, [] => rfl
  | n, o :: r => by
    unfold keepF wipeF
    by_cases h : vs.contains n = true
    · rw [if_pos h, if_pos h]
      cases o with
      | none => show none :: _ = _; rw [merge_keep]
      | some v => show some v :: _ = _; rw [merge_keep]
    · rw [if_neg h, if_neg h]
      show o :: _ = _
      rw [merge_keep]
theorem back_wipe (vs : List Nat) (st : Sta) : backS vs st (wipeS vs st) = st := by
  unfold backS wipeS
  simp only [merge_keep]
theorem wipeF_set {vs : List Nat} {x : Option Vl} : ∀ {n i : Nat} {sl : List (Option Vl)}, vs.contains (n + i) = true → wipeF vs n (sl.set i x) = wipeF vs n sl
  | _, _, [], _ => rfl
  | n, 0, o :: r, h => by
    show wipeF vs n (x :: r) = _
    unfold wipeF
    rw [Nat.add_zero] at h
    rw [if_pos h, if_pos h]
  | n, i + 1, o :: r, h => by
    show wipeF vs n (o :: r.set i x) = _
    unfold wipeF
    rw [wipeF_set (n := n + 1) (i := i) (by rw [show n + 1 + i = n + (i + 1) by omega]; exact h)]
theorem wipeF_idem (vs : List Nat) : ∀ (n : Nat) (sl : List (Option Vl)), wipeF vs n (wipeF vs n sl) = wipeF vs n sl
  | _, [] => rfl
  | n, o :: r => by
    show wipeF vs n (_ :: wipeF vs (n + 1) r) = _ :: wipeF vs (n + 1) r
    show _ :: wipeF vs (n + 1) (wipeF vs (n + 1) r) = _
    rw [wipeF_idem]
    congr 1
    split <;> rfl
theorem wipeS_idem (vs : List Nat) (st : Sta) : wipeS vs (wipeS vs st) = wipeS vs st := by
  unfold wipeS; simp only [wipeF_idem]
def compL (vs : List Nat) (g : Tg) (cond elt : E) (tr : Bool) : List Vl → Sta → R (List Vl × Sta × Bool)
  | [], st => .ok ([], st, false)
  | v :: r, st => match g v st with
    | none => .bad
    | some st1 => match cond st1 with
      | .ok (.bl true, st2, e1) => (match elt st2 with
        | .ok (y, st3, e2) => if noTr y && (!tr || !(e1 || e2)) then (match compL vs g cond elt tr r (wipeS vs st3) with
          | .ok (ys, st4, e3) => .ok (y :: ys, st4, (e1 || e2) || e3)
          | _ => .bad) else .bad
        | _ => .bad)
      | .ok (.bl false, st2, e1) => if !tr || !e1 then (match compL vs g cond elt tr r (wipeS vs st2) with
          | .ok (ys, st4, e3) => .ok (ys, st4, e1 || e3)
          | _ => .bad) else .bad
      | _ => .bad
def compE (vs : List Nat) (g : Tg) (src : Src) (cond elt : E) : E := fun st => match src st with
  | .ok (items, tr, st1, e0) => if vs.any (fun i => st1.la.contains i) then .bad else (match compL vs g cond elt tr items (wipeS vs st1) with
    | .ok (ys, st2, eL) => if decide (ys.length < sizeLine) then .ok (mkL ys, backS vs st1 st2, e0 || eL) else .bad
    | _ => .bad)
  | .exc c s => .exc c s
  | .bad => .bad
/-- targets that leave all but some slots as they are -/
def GVI (K : PySem.W.Frag) (mg : Str → Option Value) (vs : List Nat) (g : Tg) : TG := fun x σ H Q => ∃ F T as L st v c1 c2, Fly K mg F T as L st σ H c1 c2 ∧ Rep K mg H F T as v x c2 ∧ ∃ st', g v st = some st' ∧ ∀ σ' c', Rel K mg F T as L st' σ' H c' → (∀ b, c' b ≤ c1 b + c2 b) → L2.wipe σ' vs = L2.wipe σ vs → wipeS vs st' = wipeS vs st → Q σ' H
def GVsI (K : PySem.W.Frag) (mg : Str → Option Value) (vs : List Nat) (g : Tgs) : TGs := fun xs σ H Q => ∃ F T as L st ws c1 c2, Fly K mg F T as L st σ H c1 c2 ∧ Reps K mg H F T as ws xs c2 ∧ ∃ st', g ws st = some st' ∧ ∀ σ' c', Rel K mg F T as L st' σ' H c' → (∀ b, c' b ≤ c1 b + c2 b) → L2.wipe σ' vs = L2.wipe σ vs → wipeS vs st' = wipeS vs st → Q σ' H
def GVOk (X : Cx) (vs : List Nat) (tg : Expr) (g : Tg) : Prop := PG X tg (GVI X.K X.mg vs g)
def GVsOk (X : Cx) (vs : List Nat) (tg : List Expr) (g : Tgs) : Prop := PGs X tg (GVsI X.K X.mg vs g)
theorem wipe_set {x : Option V} : ∀ {vs : List Nat} {σ : L2.St} {i : Nat}, i ∈ vs → L2.wipe (σ.set i x) vs = L2.wipe σ vs
  | [], _, _, h => nomatch h
  | j :: r, σ, i, h => by
    have out : ∀ {r : List Nat}, i ∉ r → L2.wipe (σ.set i x) r = (L2.wipe σ r).set i x := by
      intro r
      induction r with
      | nil => intro _; rfl
      | cons k r ih =>
        intro hn
        show (L2.wipe (σ.set i x) r).set k none = ((L2.wipe σ r).set k none).set i x
        rw [ih (fun z => hn (List.mem_cons_of_mem _ z)), List.set_comm _ _ (fun z => hn (by rw [z]; exact List.mem_cons_self))]
    show (L2.wipe (σ.set i x) r).set j none = (L2.wipe σ r).set j none
    by_cases hr : i ∈ r
    · rw [wipe_set hr]
    · rcases List.mem_cons.mp h with e | h
      · subst e
        rw [out hr, List.set_set]
      · exact absurd h hr
section
variable {X : Cx} {vs : List Nat} {pos : Pos}
theorem GVOk.name {i : Nat} {x : Str} (hN : X.N.Nodup) (hi : X.N[i]? = some x) (hx : Loc X.env.scope x) (hm : i ∈ vs) (hf : X.fn x = true ∨ X.env.scope.names.lookup x = some .local := by first | exact .inl rfl | exact .inr rfl | assumption) : GVOk X vs (.Name x pos) (tgN i) :=
  (pg_name hN hi hx hf).imp fun x σ H Q ⟨F, T, as, L, st, v, c1, c2, f, rv, st', e, q⟩ => by
    unfold tgN at e
    split at e
    · rename_i hc
      cases e
      simp only [Bool.and_eq_true, decide_eq_true_eq, Bool.not_eq_true'] at hc
      obtain ⟨c', r', k'⟩ := f.store rv hc.1.1 hc.1.2 hc.2
      exact q _ c' r' k' (wipe_set hm) (by unfold wipeS; simp only; rw [wipeF_set (by rw [Nat.zero_add, List.contains_eq_mem]; exact decide_eq_true hm)])
    · cases e
theorem GVsOk.nil : GVsOk X vs [] tgsN := pgs_nil.imp fun xs σ H Q ⟨F, T, as, L, st, ws, c1, c2, f, rv, st', e, q⟩ => by
  unfold tgsN at e
  split at e
  · cases e
    cases rv with
    | nil hc => exact ⟨rfl, q σ c1 f.r (fun b => Nat.le_add_right _ _) rfl rfl⟩
  · cases e
theorem GVsOk.cons {e : Expr} {es : List Expr} {g : Tg} {r : Tgs} (h1 : GVOk X vs e g) (h2 : GVsOk X vs es r) (hs : (assignEach (e :: es) X.env).map (·.2) = assign e X.env :: (assignEach es X.env).map (·.2) := by rfl) : GVsOk X vs (e :: es) (tgsC g r) :=
  (pgs_cons h1 h2 hs).imp fun xs σ H Q ⟨F, T, as, L, st, ws, c1, c2, f, rv, st', e, q⟩ => by
    unfold tgsC at e
    split at e
    · rename_i v ws
      split at e
      · rename_i st1 e1
        cases rv with
        | cons r1 r2 hc =>
          refine ⟨_, _, rfl, F, T, as, L, st, v, c1, _, f.part fun b => by rw [hc]; exact Nat.le_add_right _ _, r1, st1, e1, fun σ' c' r' k' w' u' => ?_⟩
          exact ⟨F, T, as, L, st1, ws, c', _, f.rest r' (fun b => by rw [hc]; exact Nat.le_refl _) k', r2, st', e, fun σ2 c6 r6 k6 w6 u6 => q σ2 c6 r6 (fun b => by have := k6 b; have := k' b; rw [hc]; omega) (w6.trans w') (u6.trans u')⟩
      · cases e
    · cases e
theorem GVOk.tup {es : List Expr} {k : Nat} {r : Tgs} {n : Nat} (hc : X.calm = true) (h : GVsOk X vs es r) (hn : (assignEach es X.env).length = n := by rfl) (hst : (assignEach es X.env).findIdx? (·.1) = none := by rfl) : GVOk X vs (.Tuple es k pos) (tgT n r) :=
  (pg_tup hc h hn hst).imp fun x σ H Q ⟨F, T, as, L, st, v, c1, c2, f, rv, st', e, q⟩ => by
    unfold tgT at e
    split at e
    · rename_i vs
      split at e
      · rename_i hl
        obtain ⟨a, xs, rfl, h1, s1⟩ := rv.inv_tup
        exact ⟨a, xs, rfl, h1, by rw [← s1.length]; exact hl, F, T, as, L, st, vs, c1, c2, f, s1, st', e, q⟩
      · cases e
    · cases e
end
section
variable {K : PySem.W.Frag} {mg : Str → Option Value} {H H' : Hp} {F T : Addr → Prop} {as : List Addr} {L : List (Nat × V)} {st : Sta} {σ σ' : L2.St} {c : Addr → Nat}
/-- the slots' values matter only where a slot has one -/
theorem RepSl.other : ∀ {sl : List (Option Vl)} {σ σ' : L2.St} {c : Addr → Nat}, RepSl K mg H F T as sl σ c → σ.length = σ'.length → (∀ (i : Nat) v, sl[i]? = some (some v) → σ'[i]? = σ[i]?) → RepSl K mg H F T as sl σ' c
  | _, _, [], _, .nil hc, _, _ => .nil hc
  | _, _, _ :: _, _, .nil _, l, _ => by simp at l
  | _, _, [], _, .no _, l, _ => by simp at l
  | _, _, [], _, .yes _ _ _ _, l, _ => by simp at l
  | _, _, o :: σ', _, .no s, l, h => .no (s.other (by simpa using l) fun i v e => by simpa using h (i + 1) v (by simpa using e))
  | _, _, o :: σ', _, .yes r nt s hc, l, h => by
    have e := h 0 _ rfl
    simp at e
    subst e
    exact .yes r nt (s.other (by simpa using l) fun i v e => by simpa using h (i + 1) v (by simpa using e)) hc
theorem wipeF_some {vs : List Nat} {v : Vl} : ∀ {n i : Nat} {sl : List (Option Vl)}, (wipeF vs n sl)[i]? = some (some v) → n + i ∉ vs
  | n, i, [], h => by simp [wipeF] at h
  | n, 0, o :: r, h => by
    unfold wipeF at h
    intro hm
    rw [if_pos (by rw [List.contains_eq_mem]; exact decide_eq_true hm)] at h
    simp at h
  | n, i + 1, o :: r, h => by
    unfold wipeF at h
    have := wipeF_some (n := n + 1) (i := i) (sl := r) (by simpa using h)
    rwa [show n + 1 + i = n + (i + 1) by omega] at this
theorem RepSl.split (vs : List Nat) : ∀ {n : Nat} {sl : List (Option Vl)} {σ : L2.St} {c : Addr → Nat}, RepSl K mg H F T as sl σ c → ∃ ck cw, RepSl K mg H F T as (keepF vs n sl) σ ck ∧ RepSl K mg H F T as (wipeF vs n sl) σ cw ∧ ∀ b, c b = ck b + cw b
  | _, _, _, _, .nil hc => ⟨fun _ => 0, fun _ => 0, .nil fun _ => rfl, .nil fun _ => rfl, fun b => hc b⟩
  | n, _, _, _, .no s => by
    obtain ⟨ck, cw, h1, h2, h3⟩ := RepSl.split vs (n := n + 1) s
    refine ⟨ck, cw, ?_, ?_, h3⟩
    · unfold keepF; rw [show (if vs.contains n = true then (none : Option Vl) else none) = none by split <;> rfl]; exact .no h1
    · unfold wipeF; rw [show (if vs.contains n = true then (none : Option Vl) else none) = none by split <;> rfl]; exact .no h2
  | n, _, _, _, .yes (c1 := c1) r nt s hc => by
    obtain ⟨ck, cw, h1, h2, h3⟩ := RepSl.split vs (n := n + 1) s
    by_cases hv : vs.contains n = true
    · refine ⟨fun b => c1 b + ck b, cw, ?_, ?_, fun b => ?_⟩
      · unfold keepF; rw [if_pos hv]; exact .yes r nt h1 fun _ => rfl
      · unfold wipeF; rw [if_pos hv]; exact .no h2
      · show _ = (c1 b + ck b) + cw b; rw [hc, h3]; omega
    · refine ⟨ck, fun b => c1 b + cw b, ?_, ?_, fun b => ?_⟩
      · unfold keepF; rw [if_neg hv]; exact .no h1
      · unfold wipeF; rw [if_neg hv]; exact .yes r nt h2 fun _ => rfl
      · show _ = ck b + (c1 b + cw b); rw [hc, h3]; omega
theorem RepSl.merge : ∀ {a b : List (Option Vl)} {σ : L2.St} {c1 c2 : Addr → Nat}, RepSl K mg H F T as a σ c1 → RepSl K mg H F T as b σ c2 → ∃ c, RepSl K mg H F T as (mergeS a b) σ c ∧ ∀ d, c d ≤ c1 d + c2 d
  | _, _, _, _, _, .nil hc, .nil hc' => ⟨fun _ => 0, .nil fun _ => rfl, fun _ => Nat.zero_le _⟩
  | _, _, _, _, _, .no s, .no t => by
    obtain ⟨c, h1, h2⟩ := s.merge t
    exact ⟨c, .no h1, h2⟩
  | _, _, _, _, _, .no s, .yes r nt t hc => by
    obtain ⟨c, h1, h2⟩ := s.merge t
    exact ⟨_, .yes r nt h1 fun _ => rfl, fun d => by rw [hc]; have := h2 d; omega⟩
  | _, _, _, _, _, .yes r nt s hc, .no t => by
    obtain ⟨c, h1, h2⟩ := s.merge t
    exact ⟨_, .yes r nt h1 fun _ => rfl, fun d => by rw [hc]; have := h2 d; omega⟩
  | _, _, _, _, _, .yes r nt s hc, .yes r' nt' t hc' => by
    obtain ⟨c, h1, h2⟩ := s.merge t
    exact ⟨_, .yes r nt h1 fun _ => rfl, fun d => by rw [hc, hc']; have := h2 d; omega⟩
theorem Rel.wipe (r : Rel K mg F T as L st σ H c) (vs : List Nat) (hl : vs.any (fun i => st.la.contains i) = false) : ∃ ck cw, RepSl K mg H F T as (keepF vs 0 st.sl) σ ck ∧ Rel K mg F T as L (wipeS vs st) (L2.wipe σ vs) H cw ∧ ∀ b, ck b + cw b ≤ c b := by
  obtain ⟨d1, d2, h1, h2, h3, h4⟩ := r.rep
  obtain ⟨ck, cw, s1, s2, s3⟩ := h1.split vs (n := 0)
  have s2' : RepSl K mg H F T as (wipeF vs 0 st.sl) (L2.wipe σ vs) cw := s2.other (wipe_length σ vs).symm fun i v e => wipe_out (by have := wipeF_some e; rwa [Nat.zero_add] at this)
  refine ⟨ck, fun b => cw b + d2 b, s1, ⟨⟨cw, d2, s2', h2, h3, fun _ => rfl⟩, fun b => ?_, fun b q => ⟨?_, (r.fr b q).2⟩, r.lk.1, fun p hp => ?_⟩, fun b => ?_⟩
  · have := r.le b; have := s3 b; have := h4 b; show cw b + d2 b ≤ 1; omega
  · have := (r.fr b q).1; have := s3 b; have := h4 b; show cw b + d2 b = 0; omega
  · have hm : p.1 ∉ vs := fun z => by
      have hm : p.1 ∈ st.la := by rw [r.lk.1]; exact List.mem_map_of_mem hp
      have : vs.any (fun i => st.la.contains i) = true := List.any_eq_true.mpr ⟨p.1, z, by rw [List.contains_eq_mem]; exact decide_eq_true hm⟩
      rw [hl] at this; cases this
    rw [wipe_out hm]
    exact r.lk.2 p hp
  · show ck b + (cw b + d2 b) ≤ c b; have := s3 b; have := h4 b; omega
/-- behind the comprehension -/
theorem Rel.back {vs : List Nat} {old st0 : Sta} {ck : Addr → Nat} (r : Rel K mg F T as L (wipeS vs st0) (L2.wipe σ vs) H c) (hk : RepSl K mg H F T as (keepF vs 0 old.sl) σ ck) (hL : ∀ p ∈ L, σ[p.1]? = some (some p.2)) (le : ∀ b, ck b + c b ≤ 1) (hF : ∀ b, F b ∨ T b → ck b = 0) :
    ∃ c', Rel K mg F T as L (backS vs old (wipeS vs st0)) σ H c' ∧ ∀ b, c' b ≤ ck b + c b := by
  obtain ⟨d1, d2, h1, h2, h3, h4⟩ := r.rep
  have h1' : RepSl K mg H F T as (wipeF vs 0 st0.sl) σ d1 := RepSl.other h1 (wipe_length σ vs) fun i v e => (wipe_out (by have := wipeF_some e; rwa [Nat.zero_add] at this)).symm
  obtain ⟨cm, hm, km⟩ := hk.merge h1'
  refine ⟨fun b => cm b + d2 b, ⟨⟨cm, d2, hm, h2, h3, fun _ => rfl⟩, fun b => ?_, fun b q => ⟨?_, (r.fr b q).2⟩, r.lk.1, hL⟩, fun b => ?_⟩
  · have := le b; have := km b; have := h4 b; show cm b + d2 b ≤ 1; omega
  · have := (r.fr b q).1; have := hF b q; have := km b; have := h4 b; show cm b + d2 b = 0; omega
  · show cm b + d2 b ≤ ck b + c b; have := km b; have := h4 b; omega
end
theorem Rel.asEq {K : PySem.W.Frag} {mg : Str → Option Value} {H H' : Hp} {F F' T : Addr → Prop} {as as' : List Addr} {L L' : List (Nat × V)} {st : Sta} {σ σ' : L2.St} {c c' : Addr → Nat} (r : Rel K mg F T as L st σ H c) (r' : Rel K mg F' T as' L' st σ' H' c') (p : Pre as as') : as' = as := by
  obtain ⟨_, _, _, h1, _⟩ := r.rep
  obtain ⟨_, _, _, h2, _⟩ := r'.rep
  have l1 := h1.length
  have l2 := h2.length
  rw [List.length_map] at l1 l2
  refine List.ext_getElem? fun n => ?_
  by_cases hn : n < as.length
  · have e := p n as[n] (List.getElem?_eq_getElem hn)
    rw [e, List.getElem?_eq_getElem hn]
  · rw [List.getElem?_eq_none (by omega), List.getElem?_eq_none (by omega)]
def CTOk (X : Cx) (ifs : List Expr) (f : E) : Prop := ∀ W, Takes X W → PTs X ifs (TsI X.K X.mg W f)
theorem _root_.L2.PTs.imp {X : Cx} {e : List Expr} {t t' : TT} (h : PTs X e t) (i : ∀ σ H Q, t' σ H Q → t σ H Q) : PTs X e t' := ⟨fun pins s σ H Q I hq => h.run pins s σ H Q I (i σ H Q hq)⟩
theorem CTOk.nil {X : Cx} : CTOk X [] (cstE (.bl true)) := fun W t => pts_nil.imp fun σ H Q h => by
  obtain ⟨F, T, as, L, st, c, r, p⟩ := h
  obtain ⟨b, e, q⟩ := p F as H _ c (fun _ => 0) r Rep.bl' r.refl Pre.refl fun _ => ⟨Same.refl H, rfl, fun _ h => h⟩
  cases e
  exact q
theorem CTOk.one {X : Cx} {c : Expr} {f : E} (h : TOk X c f) : CTOk X [c] f := fun W t => pts_one (h W t)
theorem compL_nil {vs : List Nat} {g : Tg} {cond elt : E} {tr : Bool} {st st2 : Sta} {ys : List Vl} {e : Bool} (h : compL vs g cond elt tr [] st = .ok (ys, st2, e)) : ys = [] ∧ st2 = st ∧ e = false := by
  unfold compL at h
  cases h
  exact ⟨rfl, rfl, rfl⟩
theorem compL_cons {vs : List Nat} {g : Tg} {cond elt : E} {tr : Bool} {v : Vl} {r : List Vl} {st st9 : Sta} {ys : List Vl} {e : Bool} (h : compL vs g cond elt tr (v :: r) st = .ok (ys, st9, e)) :
    ∃ st1, g v st = some st1 ∧ ∃ b st2 e1, cond st1 = .ok (.bl b, st2, e1) ∧
      if b = true then ∃ y st3 e2 ys' e3, elt st2 = .ok (y, st3, e2) ∧ noTr y = true ∧ (tr = true → e1 = false ∧ e2 = false) ∧ compL vs g cond elt tr r (wipeS vs st3) = .ok (ys', st9, e3) ∧ ys = y :: ys' ∧ e = ((e1 || e2) || e3)
      else ∃ e3, (tr = true → e1 = false) ∧ compL vs g cond elt tr r (wipeS vs st2) = .ok (ys, st9, e3) ∧ e = (e1 || e3) := by
  unfold compL at h
  split at h
  · cases h
  · rename_i st1 e0
    refine ⟨st1, e0, ?_⟩
    split at h
    · rename_i st2 e1 ec
      refine ⟨true, st2, e1, ec, ?_⟩
      split at h
      · rename_i y st3 e2 ee
        split at h
        · rename_i hc
          simp only [Bool.and_eq_true, Bool.or_eq_true, Bool.not_eq_true'] at hc
          split at h
          · rename_i ys' st4 e3 er
            cases h
            rw [if_pos rfl]
            refine ⟨y, st3, e2, ys', e3, ee, hc.1, fun z => ?_, er, rfl, rfl⟩
            rcases hc.2 with q | q
            · rw [z] at q; cases q
            · cases e1 <;> cases e2 <;> simp_all
          · cases h
        · cases h
      · cases h
    · rename_i st2 e1 ec
      refine ⟨false, st2, e1, ec, ?_⟩
      split at h
      · rename_i hc
        simp only [Bool.or_eq_true, Bool.not_eq_true'] at hc
        split at h
        · rename_i ys' st4 e3 er
          cases h
          rw [if_neg Bool.false_ne_true]
          refine ⟨e3, fun z => ?_, er, rfl⟩
          rcases hc with q | q
          · rw [z] at q; cases q
          · exact q
        · cases h
      · cases h
    · cases h
/-- Same but for one new list -/
theorem same_back {H H' : Hp} {D : Addr} {o : HO} (hD : H D = none) (s : Same (upd H D o) H') (o' : HO) : Same H (upd H' D o') := fun b x e => by
  have ne : b ≠ D := ne_of_none e hD
  rw [upd_ne ne]
  exact s b x (by rw [upd_ne ne]; exact e)
end PyI

namespace PyI
open PySem PySem.Spec PyProof.Rows L2

theorem wipe_wipe (σ : L2.St) (vs : List Nat) : L2.wipe (L2.wipe σ vs) vs = L2.wipe σ vs := by
  refine List.ext_getElem? fun i => ?_
  by_cases h : i ∈ vs
  · have key : ∀ {σ : L2.St} {r : List Nat}, i ∈ r → (L2.wipe σ r)[i]? = if i < σ.length then some none else none := by
      intro σ r
      induction r with
      | nil => intro h; cases h
      | cons j r ih =>
        intro h
        show ((L2.wipe σ r).set j none)[i]? = _
        by_cases e : j = i
        · subst e
          by_cases hl : j < σ.length
          · rw [List.getElem?_set_self (by rw [wipe_length]; exact hl), if_pos hl]
          · rw [List.getElem?_eq_none (by rw [List.length_set, wipe_length]; omega), if_neg hl]
        · rw [List.getElem?_set_ne e]
          rcases List.mem_cons.mp h with h | h
          · exact absurd h.symm e
          · exact ih h
    rw [key h, key h, wipe_length]
  · rw [wipe_out h]
section
variable {K : PySem.W.Frag} {mg : Str → Option Value} {H H' : Hp} {F T : Addr → Prop} {as : List Addr} {L : List (Nat × V)} {st : Sta} {σ : L2.St} {c : Addr → Nat} {D : Addr} {o : HO}
theorem stay_wr (hd : ∀ b, F b ∨ T b ∨ c b ≠ 0 → b ≠ D) (hm : MutO (H D)) : Stay H (upd H D o) F T c := fun b x e q => by
  have ne : b ≠ D := by
    rcases q with q | q | q | q
    · exact hd b (.inl q)
    · exact hd b (.inr (.inl q))
    · exact hd b (.inr (.inr q))
    · rintro rfl
      rw [e] at hm
      exact q hm
  rw [upd_ne ne]; exact e
theorem Rel.wr (r : Rel K mg F T as L st σ H c) (hd : ∀ b, F b ∨ T b ∨ c b ≠ 0 → b ≠ D) (hm : MutO (H D)) : Rel K mg F T as L st σ (upd H D o) c := by
  obtain ⟨c1, c2, h1, h2, h3, h4⟩ := r.rep
  refine ⟨⟨c1, c2, h1.stay (stay_wr (fun b q => hd b ?_) hm) (fun _ h => h) (fun _ h => h) Pre.refl, h2.stay h3 (stay_wr (fun b q => hd b ?_) hm) (fun _ h => h) (fun _ h => h) Pre.refl, h3, h4⟩, r.le, fun b q => ⟨(r.fr b q).1, ?_⟩, r.lk⟩
  · rcases q with q | q | q
    · exact .inl q
    · exact .inr (.inl q)
    · exact .inr (.inr (by rw [h4]; omega))
  · rcases q with q | q | q
    · exact .inl q
    · exact .inr (.inl q)
    · exact .inr (.inr (by rw [h4]; omega))
  · rw [upd_ne (hd b (q.elim .inl fun z => .inr (.inl z)))]
    exact (r.fr b q).2
end
/-- the new list counted -/
abbrev oneD (D : Addr) : Addr → Nat := fun b => if b = D then 1 else 0
theorem Step.wr {F F' : Addr → Prop} {c c' : Addr → Nat} {H H' : Hp} {D : Addr} {o : HO} (s : Step F c H F' c' H') (hD : c' D ≠ 0) (hn : H D = none) : Step F c H F' c' (upd H' D o) :=
  ⟨fun b x e q => by rw [upd_ne (ne_of_none e hn)]; exact s.keep b x e q, s.grow, s.le, s.sub, s.dis, s.fgr, fun b q => by
    by_cases e : b = D
    · rw [e, upd_same]; exact fun z => nomatch z
    · rw [upd_ne e]; exact s.trk b q⟩
section
variable {X : Cx} {elt tg iter : Expr} {ifs : List Expr} {scope : Scope} {own : List (Str × Nat)} {pos : Pos} {g : Tg} {src : Src} {cond fe : E}
theorem tLc_of {K : PySem.W.Frag} {mg : Str → Option Value} {W : WX} {vs : List Nat} {σ : L2.St} {H : Hp} {Q : VK} (h : EI K mg W (compE vs g src cond fe) σ H Q) :
    tLc (SrcI K mg W src) (GVI K mg vs g) (TsI K mg (fun _ _ _ _ => False) cond) (EI K mg (fun _ _ _ _ => False) fe) vs σ H Q := by
  obtain ⟨F0, T, as0, L, st0, c0, r0, p⟩ := h
  refine ⟨F0, T, as0, L, st0, c0, r0, ?_⟩
  unfold compE at p
  cases e1 : src st0 with
  | bad => rw [e1] at p; exact p
  | exc cl s => rw [e1] at p; exact p
  | ok q =>
    obtain ⟨items, tr, st1, e0⟩ := q
    rw [e1] at p
    simp only at p
    intro F1 as1 H1 c1 c2 J w r1 wp s1 p1 ef1 D hD
    by_cases hla : vs.any (fun i => st1.la.contains i) = true
    · rw [if_pos hla] at p; exact (show False from p).elim
    rw [if_neg hla] at p
    have hla : vs.any (fun i => st1.la.contains i) = false := by simpa using hla
    cases e2 : compL vs g cond fe tr items (wipeS vs st1) with
    | bad => rw [e2] at p; exact (show False from p).elim
    | exc cl s => rw [e2] at p; exact (show False from p).elim
    | ok q =>
      obtain ⟨ys, st9, eL⟩ := q
      rw [e2] at p
      simp only at p
      by_cases hz : ys.length < sizeLine
      case neg => rw [if_neg (by simpa using hz)] at p; exact (show False from p).elim
      rw [if_pos (by simpa using hz)] at p
      have hn : H D = none := by
        cases z : H D with
        | none => rfl
        | some o => exact absurd hD (s1.trk D (by rw [z]; exact fun q => nomatch q))
      obtain ⟨ck, cw, rk, rw_, kw⟩ := (r1.same (same_new (o := .lst []) hD)).wipe vs hla
      have c12 : c1 D = 0 ∧ c2 D = 0 := ⟨by
        by_cases z : c1 D = 0
        · exact z
        · exact absurd hD (r1.there D z), by
        by_cases z : c2 D = 0
        · exact z
        · have := w.mu wp D z
          rw [hD] at this
          exact this.elim⟩
      have tz : ∀ {F' : Addr → Prop} {c' : Addr → Nat} {H' : Hp}, Step F0 c0 H F' c' H' → ∀ b, T b → c' b = 0 := fun {F' c' H'} s b q => by
        have h0 := r0.fr b (.inr q)
        by_cases z : c' b = 0
        · exact z
        · rcases s.grow b z with y | y
          · exact absurd h0.1 y
          · exact absurd y h0.2
      refine ⟨fun i m H' => ∃ F as s0 d1 cr ca rest acc accV ysr er, m = rest.length ∧ Rel K mg F T as L (wipeS vs s0) (L2.wipe σ vs) H' d1 ∧ RepSl K mg H' F T as (keepF vs 0 st1.sl) σ ck ∧
          (if tr = true then ∃ Hm, Same Hm H' ∧ Hm D = none ∧ w.P i rest Hm cr F as else w.P i rest H' cr F as) ∧ compL vs g cond fe tr rest (wipeS vs s0) = .ok (ysr, st9, er) ∧ ys = acc ++ ysr ∧
          Reps K mg H' F T as acc accV ca ∧ noTrs acc = true ∧ H' D = some (.lst accV) ∧ Step F0 c0 H F (fun b => d1 b + (ck b + (cr b + ca b) + oneD D b)) H' ∧ Pre as0 as ∧
          (eL = false → er = false ∧ Same H1 H' ∧ (∀ b, F b → F1 b) ∧ wipeS vs s0 = wipeS vs st1), ?_, ?_⟩
      · refine ⟨items.length, F1, as1, st1, cw, c2, fun _ => 0, items, [], [], ys, eL, rfl, rw_, rk, ?_, e2, rfl, .nil fun _ => rfl, rfl, upd_same, ?_, p1, fun z => ⟨z, same_new hD, fun _ h => h, rfl⟩⟩
        · by_cases ht : tr = true
          · rw [if_pos ht]; exact ⟨H1, same_new hD, hD, wp⟩
          · rw [if_neg ht]; exact w.same wp (same_new hD) (fun _ h => h) Pre.refl
        · refine ⟨fun b x e q => by rw [upd_ne (ne_of_none e hn)]; exact s1.keep b x e q, fun b q => ?_, fun b => ?_, s1.sub, fun b q => ?_, s1.fgr, fun b q => PyI.Same.trk (same_new hD) b (s1.trk b q)⟩
          · by_cases z : b = D
            · rw [z]; exact .inr hn
            · refine s1.grow b ?_
              have q' : cw b + (ck b + (c2 b + 0) + oneD D b) ≠ 0 := q
              have := kw b
              show c1 b + c2 b ≠ 0
              simp only [oneD, if_neg z] at q'
              omega
          · show cw b + (ck b + (c2 b + 0) + oneD D b) ≤ 1
            have := kw b
            have h1 : c1 b + c2 b ≤ 1 := s1.le b
            by_cases z : b = D
            · subst z; simp only [oneD, if_pos]; have := c12.1; have := c12.2; omega
            · simp only [oneD, if_neg z]; omega
          · show cw b + (ck b + (c2 b + 0) + oneD D b) = 0
            have := kw b
            have h1 : c1 b + c2 b = 0 := s1.dis b q
            by_cases z : b = D
            · exact absurd hD (by rw [← z]; exact (r1.fr b (.inl q)).2)
            · simp only [oneD, if_neg z]; omega
      rintro i m H' ⟨F, as, s0, d1, cr, ca, rest, acc, accV, ysr, er, rfl, rl, rk, wp, ec, ey, ra, na, hDl, sp, pp, pure⟩
      have le : ∀ b, d1 b + (ck b + (cr b + ca b) + oneD D b) ≤ 1 := sp.le
      have dis : ∀ b, F b → d1 b + (ck b + (cr b + ca b) + oneD D b) = 0 := sp.dis
      have tz' : ∀ b, T b → d1 b + (ck b + (cr b + ca b) + oneD D b) = 0 := tz sp
      have oD : oneD D D = 1 := if_pos rfl
      cases rest with
      | nil =>
        obtain ⟨z1, z2, z3⟩ := compL_nil ec
        subst z1 z2 z3
        rw [List.append_nil] at ey
        subst ey
        have hstop : J.stop i H' := by
          by_cases ht : tr = true
          · rw [if_pos ht] at wp
            obtain ⟨Hm, sm, _, wp⟩ := wp
            exact w.stop (w.same wp sm (fun _ h => h) Pre.refl)
          · rw [if_neg ht] at wp; exact w.stop wp
        refine .inl ⟨hstop, ?_⟩
        obtain ⟨cv, rv, kv⟩ : ∃ cv, Rep K mg H' F T as (mkL ys) (.ref D) cv ∧ ∀ b, cv b ≤ ca b + oneD D b := by
          unfold mkL
          by_cases s : stors ys = true
          · rw [if_pos s]
            exact ⟨fun b => oneD D b + ca b, .own hDl rfl ra fun b => rfl, fun b => by show oneD D b + ca b ≤ _; omega⟩
          · rw [if_neg s]
            exact ⟨fun _ => 0, .tr (.inl ⟨_, rfl, .inl hDl⟩) ra.peek fun _ => rfl, fun b => Nat.zero_le _⟩
        obtain ⟨cb, rb, kb⟩ := rl.back (old := st1) rk r1.lk.2 (fun b => by have := le b; omega) fun b q => by
          rcases q with q | q
          · have := dis b q; omega
          · have := tz' b q; omega
        refine p F as H' (.ref D) cb cv rb rv (sp.less fun b => by have := kv b; have := kb b; show cb b + cv b ≤ d1 b + (ck b + (cr b + ca b) + oneD D b); omega) pp fun q => ?_
        have q1 : e0 = false := by cases e0 with | false => rfl | true => simp at q
        have q2 : eL = false := by cases eL with | false => rfl | true => simp [q1] at q
        obtain ⟨_, sm, fl, ew⟩ := pure q2
        exact ⟨(ef1 q1).1.trans sm, by rw [ew, back_wipe]; exact (ef1 q1).2.1, fun b h => (ef1 q1).2.2 b (fl b h)⟩
      | cons v rest =>
        obtain ⟨sg, eg, b, s2, f1, ec1, br⟩ := compL_cons ec
        -- the walk at this turn
        have go : J.go i H' := by
          by_cases ht : tr = true
          · rw [if_pos ht] at wp
            obtain ⟨Hm, sm, _, wp⟩ := wp
            exact w.go (w.same wp sm (fun _ h => h) Pre.refl)
          · rw [if_neg ht] at wp; exact w.go wp
        refine .inr ⟨go, fun H2 => ∃ m', m' < (v :: rest).length ∧ ∃ F as s0 d1 cr ca rest acc accV ysr er, m' = rest.length ∧ Rel K mg F T as L (wipeS vs s0) (L2.wipe σ vs) H2 d1 ∧ RepSl K mg H2 F T as (keepF vs 0 st1.sl) σ ck ∧
          (if tr = true then ∃ Hm, Same Hm H2 ∧ Hm D = none ∧ w.P (i + 1) rest Hm cr F as else w.P (i + 1) rest H2 cr F as) ∧ compL vs g cond fe tr rest (wipeS vs s0) = .ok (ysr, st9, er) ∧ ys = acc ++ ysr ∧
          Reps K mg H2 F T as acc accV ca ∧ noTrs acc = true ∧ H2 D = some (.lst accV) ∧ Step F0 c0 H F (fun b => d1 b + (ck b + (cr b + ca b) + oneD D b)) H2 ∧ Pre as0 as ∧
          (eL = false → er = false ∧ Same H1 H2 ∧ (∀ b, F b → F1 b) ∧ wipeS vs s0 = wipeS vs st1), fun _ h => h, fun x H2 y => ?_⟩
        obtain ⟨sm, x1, x2, rv, wp', hd⟩ : Same H' H2 ∧ ∃ x1 x2, Rep K mg H2 F T as v x x1 ∧ (if tr = true then ∃ Hm, Same Hm H2 ∧ Hm D = none ∧ w.P (i + 1) rest Hm x2 F as else w.P (i + 1) rest H2 x2 F as) ∧ ∀ b, x1 b + x2 b ≤ cr b := by
          by_cases ht : tr = true
          · rw [if_pos ht] at wp
            obtain ⟨Hm, sm, hm, wp⟩ := wp
            obtain ⟨sH, Hm', x1, x2, s1', s2', nw, rv, wp', hd⟩ := w.yld wp sm y
            refine ⟨sH, x1, x2, rv.same s2' (fun _ h => h) (fun _ h => h) Pre.refl, ?_, hd⟩
            rw [if_pos ht]
            refine ⟨Hm', s2', ?_, wp'⟩
            cases z : Hm' D with
            | none => rfl
            | some o =>
              rcases nw D (by rw [z]; exact fun q => nomatch q) with u | u
              · exact absurd hm u
              · rw [hDl] at u; cases u
          · rw [if_neg ht] at wp
            obtain ⟨sH, Hm', x1, x2, s1', s2', nw, rv, wp', hd⟩ := w.yld wp (Same.refl _) y
            refine ⟨sH, x1, x2, rv.same s2' (fun _ h => h) (fun _ h => h) Pre.refl, ?_, hd⟩
            rw [if_neg ht]
            exact w.same wp' s2' (fun _ h => h) Pre.refl
        have mw : ∀ b, x2 b ≠ 0 → MutO (H2 b) := fun b q => by
          by_cases ht : tr = true
          · rw [if_pos ht] at wp'
            obtain ⟨Hm, sm, _, wp'⟩ := wp'
            have := w.mu wp' b q
            cases z : Hm b with
            | none => rw [z] at this; exact this.elim
            | some o => rw [sm b o z, ← z]; exact this
          · rw [if_neg ht] at wp'; exact w.mu wp' b q
        have ra2 := ra.same sm (fun _ h => h) (fun _ h => h) Pre.refl
        have symt : ∀ d, Stay H' H2 F T d := fun d b o e _ => sm b o e
        have rk2 := rk.stay (symt _) (fun _ h => h) (fun _ h => h) Pre.refl
        have hD2 : H2 D = some (.lst accV) := sm _ _ hDl
        refine ⟨F, T, as, L, wipeS vs s0, v, d1, x1, ⟨rl.same sm, Step.refl (fun b => by have := le b; have := hd b; omega) (fun b q => by have := dis b q; have := hd b; omega), fun b q => by have := tz' b q; have := hd b; omega⟩, rv, sg, eg, fun σ2 d5 r5 k5 w5 u5 => ⟨by rw [w5, wipe_wipe], ?_⟩⟩
        rw [wipe_wipe] at w5
        rw [wipeS_idem] at u5
        -- in flight through the turn: x2, ca, ck, D
        have fl_le : ∀ b, d5 b + (ck b + (x2 b + ca b) + oneD D b) ≤ 1 := fun b => by have := le b; have := hd b; have := k5 b; omega
        have sa : Step F0 c0 H F (fun b => d5 b + (ck b + (x2 b + ca b) + oneD D b)) H2 := ⟨fun b o e q => sm b o (sp.keep b o e q), fun b q => sp.grow b (by have := hd b; have := k5 b; have q' : d5 b + (ck b + (x2 b + ca b) + oneD D b) ≠ 0 := q; show d1 b + (ck b + (cr b + ca b) + oneD D b) ≠ 0; omega), fl_le, sp.sub,
          fun b q => by have := dis b q; have := hd b; have := k5 b; show d5 b + (ck b + (x2 b + ca b) + oneD D b) = 0; omega, sp.fgr, fun b q => PyI.Same.trk sm b (sp.trk b q)⟩
        have mv : ∀ b, (ck b + (x2 b + ca b) + oneD D b) ≠ 0 → MutO (H2 b) := fun b q => by
          by_cases z1 : ck b = 0
          · by_cases z2 : x2 b = 0
            · by_cases z3 : ca b = 0
              · by_cases z4 : b = D
                · rw [z4, hD2]; trivial
                · simp only [oneD, if_neg z4] at q; omega
              · exact ra2.mu b z3
            · exact mw b z2
          · exact rk2.mu b z1
        refine ⟨F, T, as, L, sg, d5, r5, ?_⟩
        rw [ec1]
        intro F2 as2 H3 xb d6 cx r6 rx s6 p6 ef6
        have z6 : ∀ b, cx b = 0 := Rep.none0 rx rfl
        have s6' : Step F d5 H2 F2 d6 H3 := s6.less fun b => by omega
        have sb := Step.flight r5 mv sa s6'
        have fl0 : ∀ (d : Addr → Nat), (∀ b, d b ≠ 0 → (ck b + (x2 b + ca b) + oneD D b) ≠ 0) → Stay H2 H3 F T d := fun d hd' => r5.stay (fun b q => by have := fl_le b; have := hd' b q; omega) s6'.keep
        have ra3 := ra2.stay na (fl0 _ fun b q => by omega) s6'.sub (fun _ h => h) p6
        have rk3 := rk2.stay (fl0 _ fun b q => by omega) s6'.sub (fun _ h => h) p6
        have hD3 : H3 D = some (.lst accV) := s6'.keep D _ hD2 (by have := fl_le D; omega)
        have wp3 : f1 = false ∨ tr = false → if tr = true then ∃ Hm, Same Hm H3 ∧ Hm D = none ∧ w.P (i + 1) rest Hm x2 F2 as2 else w.P (i + 1) rest H3 x2 F2 as2 := fun ht => by
          by_cases h : tr = true
          · rw [if_pos h] at wp' ⊢
            obtain ⟨Hm, s, hm, wp'⟩ := wp'
            have hf : f1 = false := ht.elim id fun q => by rw [h] at q; cases q
            exact ⟨Hm, s.trans (ef6 hf).1, hm, w.same wp' (Same.refl _) s6'.sub p6⟩
          · rw [if_neg h] at wp' ⊢
            exact w.step (by simpa using h) wp' (fun d hd' => fl0 d fun b q => by have := hd' b q; omega) s6'.sub p6
        refine ⟨b, rx.inv_bl, ?_⟩
        cases b with
        | false =>
          rw [if_neg Bool.false_ne_true] at br ⊢
          obtain ⟨e3, ht, ec3, rfl⟩ := br
          have hla2 : vs.any (fun i => s2.la.contains i) = false := by rw [r6.lk.1, ← r1.lk.1]; exact hla
          obtain ⟨_, d7, _, r7, k7⟩ := r6.wipe vs hla2
          rw [w5] at r7
          refine ⟨rest.length, Nat.lt_succ_self _, F2, as2, s2, d7, x2, ca, rest, acc, accV, ysr, e3, rfl, r7, rk3, wp3 ?_, ec3, ey, ra3, na, hD3, sb.less fun b => by have := k7 b; show d7 b + (ck b + (x2 b + ca b) + oneD D b) ≤ d6 b + (ck b + (x2 b + ca b) + oneD D b); omega, pp.trans p6, fun q => ?_⟩
          · cases tr with
            | false => exact .inr rfl
            | true => exact .inl (ht rfl)
          · obtain ⟨q1, q2, q3, q4⟩ := pure q
            have g1 : f1 = false := by cases f1 with | false => rfl | true => simp at q1
            have g2 : e3 = false := by cases e3 with | false => rfl | true => simp [g1] at q1
            refine ⟨g2, (q2.trans sm).trans (ef6 g1).1, fun b h => q3 b ((ef6 g1).2.2 b h), ?_⟩
            rw [(ef6 g1).2.1, u5, q4]
        | true =>
          rw [if_pos rfl] at br ⊢
          obtain ⟨yv, s3, f2, ys', e3, ee, ny, ht, ec3, rfl, rfl⟩ := br
          refine ⟨F2, T, as2, L, s2, d6, r6, ?_⟩
          rw [ee]
          intro F3 as3 H4 xv d7 cy r7 ry s7 p7 ef7
          have fl_le3 : ∀ b, d6 b + (ck b + (x2 b + ca b) + oneD D b) ≤ 1 := sb.le
          have mv3 : ∀ b, (ck b + (x2 b + ca b) + oneD D b) ≠ 0 → MutO (H3 b) := fun b q => by
            have h2 := mv b q
            cases z : H2 b with
            | none => rw [z] at h2; exact h2.elim
            | some o =>
              rw [s6'.keep b o z (by have := fl_le b; omega), ← z]
              exact h2
          have sc := Step.flight r6 mv3 sb s7
          have fl1 : ∀ (d : Addr → Nat), (∀ b, d b ≠ 0 → (ck b + (x2 b + ca b) + oneD D b) ≠ 0) → Stay H3 H4 F2 T d := fun d hd' => r6.stay (fun b q => by have := fl_le3 b; have := hd' b q; omega) s7.keep
          have ra4 := ra3.stay na (fl1 _ fun b q => by omega) s7.sub (fun _ h => h) p7
          have rk4 := rk3.stay (fl1 _ fun b q => by omega) s7.sub (fun _ h => h) p7
          have hD4 : H4 D = some (.lst accV) := s7.keep D _ hD3 (by have := fl_le3 D; omega)
          have fl_le4 : ∀ b, (d7 b + cy b) + (ck b + (x2 b + ca b) + oneD D b) ≤ 1 := sc.le
          have dis4 : ∀ b, F3 b → (d7 b + cy b) + (ck b + (x2 b + ca b) + oneD D b) = 0 := sc.dis
          have tz4 : ∀ b, T b → (d7 b + cy b) + (ck b + (x2 b + ca b) + oneD D b) = 0 := tz sc
          have nD : ∀ (d : Addr → Nat), (∀ b, d b ≠ 0 → d7 b + cy b + ck b + x2 b + ca b ≠ 0) → ∀ b, F3 b ∨ T b ∨ d b ≠ 0 → b ≠ D := fun d hd' b q e => by
            subst e
            rcases q with q | q | q
            · have := dis4 b q; omega
            · have := tz4 b q; omega
            · have := fl_le4 b; have := hd' b q; omega
          have mD : MutO (H4 D) := by rw [hD4]; trivial
          have lacc : accV.length < sizeLine := by
            have := ra.length
            rw [ey, List.length_append, List.length_cons] at hz
            omega
          refine ⟨accV, hD4, lacc, ?_⟩
          have hla3 : vs.any (fun i => s3.la.contains i) = false := by rw [r7.lk.1, ← r1.lk.1]; exact hla
          obtain ⟨_, d8, _, r8, k8⟩ := (r7.wr (o := .lst (accV ++ [xv])) (nD d7 fun b q => by omega) mD).wipe vs hla3
          rw [w5] at r8
          have ra5 := ra4.stay na (stay_wr (o := .lst (accV ++ [xv])) (nD ca fun b q => by omega) mD) (fun _ h => h) (fun _ h => h) Pre.refl
          have ry5 := ry.stay ny (stay_wr (o := .lst (accV ++ [xv])) (nD cy fun b q => by omega) mD) (fun _ h => h) (fun _ h => h) Pre.refl
          have rk5 := rk4.stay (stay_wr (o := .lst (accV ++ [xv])) (nD ck fun b q => by omega) mD) (fun _ h => h) (fun _ h => h) Pre.refl
          have hf : tr = true → f1 = false ∧ f2 = false := ht
          refine ⟨rest.length, Nat.lt_succ_self _, F3, as3, s3, d8, x2, fun b => ca b + (cy b + 0), rest, acc ++ [yv], accV ++ [xv], ys', e3, rfl, r8, rk5, ?_, ec3, by rw [ey, List.append_assoc]; rfl, ra5.append (.cons ry5 (.nil fun _ => rfl) fun _ => rfl), ?_, upd_same, ?_, (pp.trans p6).trans p7, fun q => ?_⟩
          · have wp3' := wp3 (by cases tr with | false => exact .inr rfl | true => exact .inl (hf rfl).1)
            by_cases h : tr = true
            · rw [if_pos h] at wp3' ⊢
              obtain ⟨Hm, s, hm, wp'⟩ := wp3'
              have s4 := s.trans (ef7 (hf h).2).1
              refine ⟨Hm, fun b o e => ?_, hm, w.same wp' (Same.refl _) s7.sub p7⟩
              rw [upd_ne (ne_of_none e hm)]
              exact s4 b o e
            · rw [if_neg h] at wp3' ⊢
              have wp4 := w.step (by simpa using h) wp3' (fun d hd' => fl1 d fun b q => by have := hd' b q; omega) s7.sub p7
              exact w.step (by simpa using h) wp4 (fun d hd' => stay_wr (nD d fun b q => by have := hd' b q; omega) mD) (fun _ h => h) Pre.refl
          · have app : ∀ {l : List Vl}, noTrs l = true → noTrs (l ++ [yv]) = true := by
              intro l
              induction l with
              | nil => intro _; show (noTr yv && true) = true; rw [ny]; rfl
              | cons a l ih =>
                intro h
                unfold noTrs at h
                simp only [Bool.and_eq_true] at h
                show (noTr a && noTrs (l ++ [yv])) = true
                rw [h.1, ih h.2]; rfl
            exact app na
          · refine (sc.less fun b => ?_).wr (by show d8 D + (ck D + (x2 D + (ca D + (cy D + 0))) + oneD D D) ≠ 0; omega) hn
            have := k8 b
            show d8 b + (ck b + (x2 b + (ca b + (cy b + 0))) + oneD D b) ≤ (d7 b + cy b) + (ck b + (x2 b + ca b) + oneD D b)
            omega
          · obtain ⟨q1, q2, q3, q4⟩ := pure q
            have g1 : f1 = false := by cases f1 with | false => rfl | true => simp at q1
            have g2 : f2 = false := by cases f2 with | false => rfl | true => simp [g1] at q1
            have g3 : e3 = false := by cases e3 with | false => rfl | true => simp [g1, g2] at q1
            have sm4 := ((q2.trans sm).trans (ef6 g1).1).trans (ef7 g2).1
            refine ⟨g3, fun b o e => ?_, fun b h => q3 b ((ef6 g1).2.2 b ((ef7 g2).2.2 b h)), ?_⟩
            · rw [upd_ne (ne_of_none e hD)]; exact sm4 b o e
            · rw [(ef7 g2).2.1, (ef6 g1).2.1, u5, q4]
theorem EOk.comp (hc : X.calm = true) (hN : X.N.Nodup) (hi : SrcOk X tg iter src) (ok : BlkOk X.N X.env.scope scope own)
    (hg : ∀ (s : Shared) (H : Hp) (C : Addr) (cl : List (Str × Addr)) (fp : List Addr), GVOk (X.blk s H scope (compEnvC scope cl C X.env) fp) (own.map (·.2)) tg g) (ht : ∀ (s : Shared) (H : Hp) (C : Addr) (cl : List (Str × Addr)) (fp : List Addr), CTOk (X.blk s H scope (compEnvC scope cl C X.env) fp) ifs cond)
    (he : ∀ (s : Shared) (H : Hp) (C : Addr) (cl : List (Str × Addr)) (fp : List Addr), EOk (X.blk s H scope (compEnvC scope cl C X.env) fp) elt fe) (hs : ∀ x, foldedSetIterable iter X.env x = pure x := by intro _; rfl) : EOk X (.ListComp elt [⟨tg, iter, ifs, 0⟩] scope pos) (compE (own.map (·.2)) g src cond fe) := fun W t =>
  (pe_lc (g := GVI X.K X.mg (own.map fun (p : Str × Nat) => p.2) g) (tt := TsI X.K X.mg (fun _ _ _ _ => False) cond) (te := EI X.K X.mg (fun _ _ _ _ => False) fe) hc hN (hi W t) ok (fun s H C cl fp => hg s H C cl fp) (fun s H C cl fp => ht s H C cl fp _ takes0) (fun s H C cl fp => he s H C cl fp _ takes0) hs).imp fun σ H Q h => tLc_of h
theorem SOk.setComp {i : Nat} {y : Str} {py spos : Pos} (hc : X.calm = true) (hN : X.N.Nodup) (hy : X.N[i]? = some y) (hyl : X.env.scope.names.lookup y = some .local)
    (hsw : swapsWith (.ListComp elt [⟨tg, iter, ifs, 0⟩] scope pos) (some (.Name y py)) spos.line X.env = pure true) (hi : SrcOk X tg iter src) (ok : BlkOk X.N X.env.scope scope own)
    (hg : ∀ (s : Shared) (H : Hp) (C : Addr) (cl : List (Str × Addr)) (fp : List Addr), GVOk (X.blk s H scope (compEnvC scope cl C X.env) fp) (own.map (·.2)) tg g) (ht : ∀ (s : Shared) (H : Hp) (C : Addr) (cl : List (Str × Addr)) (fp : List Addr), CTOk (X.blk s H scope (compEnvC scope cl C X.env) fp) ifs cond)
    (he : ∀ (s : Shared) (H : Hp) (C : Addr) (cl : List (Str × Addr)) (fp : List Addr), EOk (X.blk s H scope (compEnvC scope cl C X.env) fp) elt fe) (hs : ∀ x, foldedSetIterable iter X.env x = pure x := by intro _; rfl) :
    SOk X (.Assign [.Name y py] (.ListComp elt [⟨tg, iter, ifs, 0⟩] scope pos) spos) (asgC (tgN i) (compE (own.map (·.2)) g src cond fe)) := fun W t =>
  (ps_setLc (g := GVI X.K X.mg (own.map fun (p : Str × Nat) => p.2) g) (tt := TsI X.K X.mg (fun _ _ _ _ => False) cond) (te := EI X.K X.mg (fun _ _ _ _ => False) fe) hc hN hy hyl hsw (hi W t) ok (fun s H C cl fp => hg s H C cl fp) (fun s H C cl fp => ht s H C cl fp _ takes0) (fun s H C cl fp => he s H C cl fp _ takes0) hs).imp fun D σ H h => by
    refine tLc_of ((SOk.asg_of h).mono fun x H1 ⟨F, T, as, L, st, v, c1, c2, f, rv, st', e, q⟩ => ?_)
    unfold tgN at e
    split at e
    · rename_i hc
      cases e
      simp only [Bool.and_eq_true, decide_eq_true_eq, Bool.not_eq_true'] at hc
      obtain ⟨c', r', k'⟩ := f.store rv hc.1.1 hc.1.2 hc.2
      exact q _ c' r' k'
    · cases e
end
end PyI

namespace PyI
open PySem PySem.Spec PyProof.Rows L2

/-! ### displays -/
def gTup (vs : List Vl) : Option Vl := if vs.length ≤ sizeLine then some (.tup vs) else none
def gLst (vs : List Vl) : Option Vl := if vs.length ≤ sizeLine then some (mkL vs) else none
section
variable {K : PySem.W.Frag} {mg : Str → Option Value}
theorem gop_tup : GOp K mg gTup (fun xs H Q => xs.length ≤ sizeLine ∧ ∀ p, H p = none → Q (.ref p) (upd H p (.tup xs))) := by
  intro H F T as vs xs c v Q r hl e fin
  unfold gTup at e
  split at e
  · rename_i hz
    cases e
    refine ⟨by rw [← r.length]; exact hz, fun p hp => ?_⟩
    have sm : Same H (upd H p (.tup xs)) := same_new hp
    exact fin _ _ c (.tup (.inl (.inl upd_same)) (r.same sm (fun _ h => h) (fun _ h => h) Pre.refl)) (fun b => .inl (Nat.le_refl _)) sm
  · cases e
theorem gop_lst : GOp K mg gLst (fun xs H Q => xs.length ≤ sizeLine ∧ ∀ p, H p = none → Q (.ref p) (upd H p (.lst xs))) := by
  intro H F T as vs xs c v Q r hl e fin
  unfold gLst at e
  split at e
  · rename_i hz
    cases e
    exact ⟨by rw [← r.length]; exact hz, fun p hp => fin.mkL r (fun b => Nat.le_refl _) hl (same_new hp) hp upd_same⟩
  · cases e
end
section
variable {X : Cx} {es : List Expr} {fs : List E} {pos : Pos}
theorem EOk.tup {x1} (h : AOk X es fs) : EOk X (.Tuple es x1 pos) (opE gTup fs) := fun W t => (pe_tup (h W t)).imp fun σ H Q h => h.op gop_tup
theorem EOk.lst (h : AOk X es fs) : EOk X (.List es pos) (opE gLst fs) := fun W t => (pe_lst (h W t)).imp fun σ H Q h => h.op gop_lst
end

/-! ### items, slices -/
def gIx : List Vl → Option Vl
  | [.nd _ .lst xs, .int i] => atI xs i
  | [.tup xs, .int i] => atI xs i
  | [.str z, .int i] => if z.length ≤ sizeLine then (atI z.cps.toList i).map fun c => .str ⟨#[c]⟩ else none
  | _ => none
section
variable {K : PySem.W.Frag} {mg : Str → Option Value} {H : Hp} {F T : Addr → Prop} {as : List Addr}
theorem Reps.atI {vs : List Vl} {xs : List V} {c : Addr → Nat} {i : Int} {v : Vl} (r : Reps K mg H F T as vs xs c) (e : atI vs i = some v) : ∃ x c', L2.atI xs i = some x ∧ Rep K mg H F T as v x c' ∧ ∀ b, c' b ≤ c b := by
  unfold L2.atI at e ⊢
  rw [← r.length]
  cases h : ixN vs.length i with
  | none => rw [h] at e; cases e
  | some j =>
    rw [h] at e
    exact r.at (i := j) e
theorem gop_ix : GOp K mg gIx (fun xs H Q => ∃ x y, xs = [x, y] ∧ rIx K x y H Q) := by
  intro H F T as vs xs c v Q r hl e fin
  unfold gIx at e
  split at e
  · obtain ⟨x, y, c1, c2, rfl, r1, r2, hcc⟩ := r.inv2
    obtain ⟨a, xs, c', rfl, h, s, k⟩ := r1.inv_lst
    obtain ⟨x', c5, e5, r5, k5⟩ := s.atI e
    exact ⟨_, _, rfl, .inl ⟨a, xs, _, x', rfl, r2.inv_int, h, e5, fin H x' c5 r5 (fun b => .inl (by rw [hcc]; have := k b; have := k5 b; omega)) (Same.refl H)⟩⟩
  · obtain ⟨x, y, c1, c2, rfl, r1, r2, hcc⟩ := r.inv2
    obtain ⟨a, xs, rfl, h, s⟩ := r1.inv_tup
    obtain ⟨x', c5, e5, r5, k5⟩ := s.atI e
    exact ⟨_, _, rfl, .inr (.inl ⟨a, xs, _, x', rfl, r2.inv_int, h, e5, fin H x' c5 r5 (fun b => .inl (by rw [hcc]; have := k5 b; omega)) (Same.refl H)⟩)⟩
  · obtain ⟨x, y, c1, c2, rfl, r1, r2, hcc⟩ := r.inv2
    split at e
    · rename_i hz
      obtain ⟨cp, e1, e2⟩ := Option.map_eq_some_iff.mp e
      subst e2
      exact ⟨_, _, rfl, .inr (.inr ⟨_, _, cp, r1.inv_str, r2.inv_int, hz, e1, fin.str⟩)⟩
    · cases e
  · cases e
end
/-- a part of a slice: an int -/
def cutL (xs : List Vl) (lo hi : Option Int) : List Vl := (xs.drop (HT.sIx xs.length 0 lo)).take (HT.sIx xs.length xs.length hi - HT.sIx xs.length 0 lo)
def sl1 (v : Vl) (lo hi : Option Int) : Option Vl := match v with
  | .nd _ .lst xs => some (mkL (cutL xs lo hi))
  | .tup xs => if HT.sIx xs.length 0 lo = 0 ∧ HT.sIx xs.length xs.length hi = xs.length then none else some (.tup (cutL xs lo hi))
  | _ => none
def gSlN : List Vl → Option Vl
  | [v] => sl1 v none none
  | _ => none
def gSlL : List Vl → Option Vl
  | [v, .int i] => sl1 v (some i) none
  | _ => none
def gSlH : List Vl → Option Vl
  | [v, .int i] => sl1 v none (some i)
  | _ => none
def gSlB : List Vl → Option Vl
  | [v, .int i, .int j] => sl1 v (some i) (some j)
  | _ => none
def gRev : List Vl → Option Vl
  | [.nd _ .lst xs] => some (mkL xs.reverse)
  | _ => none
section
variable {K : PySem.W.Frag} {mg : Str → Option Value} {H : Hp} {F T : Addr → Prop} {as : List Addr}
theorem Reps.cut {vs : List Vl} {xs : List V} {c : Addr → Nat} (r : Reps K mg H F T as vs xs c) (lo hi : Option Int) : ∃ c', Reps K mg H F T as (cutL vs lo hi) (cutV xs lo hi) c' ∧ ∀ b, c' b ≤ c b := by
  unfold cutL cutV
  rw [r.length]
  obtain ⟨c1, r1, k1⟩ := r.drop (HT.sIx xs.length 0 lo)
  obtain ⟨c2, r2, k2⟩ := r1.take (HT.sIx xs.length xs.length hi - HT.sIx xs.length 0 lo)
  exact ⟨c2, r2, fun b => Nat.le_trans (k2 b) (k1 b)⟩
theorem Reps.reverse : ∀ {vs : List Vl} {xs : List V} {c : Addr → Nat}, Reps K mg H F T as vs xs c → Reps K mg H F T as vs.reverse xs.reverse c
  | _, _, _, .nil hc => .nil hc
  | _, _, c, .cons (c1 := c1) (c2 := c2) r s hc => by
    have e : c = fun b => c2 b + (c1 b + 0) := funext fun b => by rw [hc]; omega
    rw [List.reverse_cons, List.reverse_cons, e]
    exact s.reverse.append (.cons r (.nil fun _ => rfl) fun _ => rfl)
theorem sl1_ok {v w : Vl} {x : V} {c c1 : Addr → Nat} {lo hi : Option Int} {Q : VK} (r : Rep K mg H F T as v x c1) (hc1 : ∀ b, c1 b ≤ c b) (hl : ∀ b, c b ≤ 1) (e : sl1 v lo hi = some w) (fin : Fin K mg F T as c H w Q) : rSlL K x lo hi H Q ∨ rSlT K x lo hi H Q := by
  unfold sl1 at e
  split at e
  · cases e
    obtain ⟨a, xs, c', rfl, h, s, k⟩ := r.inv_lst
    obtain ⟨c5, s5, k5⟩ := s.cut lo hi
    exact .inl ⟨a, xs, rfl, h, fun p hp => fin.mkL s5 (fun b => Nat.le_trans (k5 b) (Nat.le_trans (k b) (hc1 b))) hl (same_new hp) hp upd_same⟩
  · rename_i vs
    split at e
    · cases e
    · rename_i hw
      cases e
      obtain ⟨a, xs, rfl, h, s⟩ := r.inv_tup
      obtain ⟨c5, s5, k5⟩ := s.cut lo hi
      refine .inr ⟨a, xs, rfl, h, by rw [← s.length]; exact hw, fun p hp => ?_⟩
      have sm : Same H (upd H p (.tup (cutV xs lo hi))) := same_new hp
      exact fin _ _ c5 (.tup (.inl (.inl upd_same)) (s5.same sm (fun _ h => h) (fun _ h => h) Pre.refl)) (fun b => .inl (Nat.le_trans (k5 b) (hc1 b))) sm
  · cases e
end
/-- an int it must be -/
def asIntE (f : E) : E := fun st => match f st with
  | .ok (.int i, st1, e) => .ok (.int i, st1, e)
  | .ok _ => .bad
  | .exc c s => .exc c s
  | .bad => .bad
theorem EI.asInt {K : PySem.W.Frag} {mg : Str → Option Value} {W : WX} {f : E} {σ : L2.St} {H : Hp} {Q : VK} (h : EI K mg W (asIntE f) σ H Q) : EI K mg W f σ H fun y H' => ∃ i, y = .int i ∧ Q y H' := by
  obtain ⟨F, T, as, L, st, c, r, p⟩ := h
  refine ⟨F, T, as, L, st, c, r, ?_⟩
  unfold asIntE at p
  cases e1 : f st with
  | bad => rw [e1] at p; exact p
  | exc cl s => rw [e1] at p; exact p
  | ok q =>
    obtain ⟨v, st1, f1⟩ := q
    rw [e1] at p
    cases v with
    | int i => exact fun F1 as1 H1 x c1 c2 r1 rv s1 p1 ef => ⟨i, rv.inv_int, p F1 as1 H1 x c1 c2 r1 rv s1 p1 ef⟩
    | _ => exact (show False from p).elim
section
variable {X : Cx} {a b : Expr} {fa fb fc : E} {pos p2 : Pos} {lo hi : Expr}
theorem EOk.item (ha : EOk X a fa) (hb : EOk X b fb) (hs : PlainIx b := by exact fun _ _ => rfl) : EOk X (.Subscript a b pos) (opE gIx [fa, fb]) := .ix ix_seq gop_ix ha hb hs
theorem EOk.slN (ha : EOk X a fa) : EOk X (.Subscript a (.Slice none none none p2) pos) (opE gSlN [fa]) := fun W t =>
  (pe_slice (sl_list.or sl_tup) (ha W t) po_none po_none).imp fun σ H Q h => (h.op (r := fun xs H Q => ∃ x, xs = [x] ∧ (rSlL X.K x none none H Q ∨ rSlT X.K x none none H Q)) (by
    intro H F T as vs xs c v Q r hl e fin
    unfold gSlN at e
    split at e
    · obtain ⟨x, rfl, r1⟩ := r.inv1
      exact ⟨x, rfl, sl1_ok r1 (fun b => Nat.le_refl _) hl e fin⟩
    · cases e)).one.mono fun x H1 ⟨x', e, q⟩ => by cases e; exact q
theorem EOk.slL (ha : EOk X a fa) (hb : EOk X lo fb) : EOk X (.Subscript a (.Slice (some lo) none none p2) pos) (opE gSlL [fa, fb]) := fun W t =>
  (pe_slice (sl_list.or sl_tup) (ha W t) (po_some (hb W t)) po_none).imp fun σ H Q h => (h.op (r := fun xs H Q => ∃ x i, xs = [x, .int i] ∧ (rSlL X.K x (some i) none H Q ∨ rSlT X.K x (some i) none H Q)) (by
    intro H F T as vs xs c v Q r hl e fin
    unfold gSlL at e
    split at e
    · obtain ⟨x, y, c1, c2, rfl, r1, r2, hcc⟩ := r.inv2
      cases r2.inv_int
      exact ⟨x, _, rfl, sl1_ok r1 (fun b => by rw [hcc]; omega) hl e fin⟩
    · cases e)).two.mono fun x H1 h => h.mono fun y H2 ⟨x', i, e, q⟩ => by cases e; exact ⟨i, rfl, q⟩
theorem EOk.slH (ha : EOk X a fa) (hb : EOk X hi fb) : EOk X (.Subscript a (.Slice none (some hi) none p2) pos) (opE gSlH [fa, fb]) := fun W t =>
  (pe_slice (sl_list.or sl_tup) (ha W t) po_none (po_some (hb W t))).imp fun σ H Q h => (h.op (r := fun xs H Q => ∃ x i, xs = [x, .int i] ∧ (rSlL X.K x none (some i) H Q ∨ rSlT X.K x none (some i) H Q)) (by
    intro H F T as vs xs c v Q r hl e fin
    unfold gSlH at e
    split at e
    · obtain ⟨x, y, c1, c2, rfl, r1, r2, hcc⟩ := r.inv2
      cases r2.inv_int
      exact ⟨x, _, rfl, sl1_ok r1 (fun b => by rw [hcc]; omega) hl e fin⟩
    · cases e)).two.mono fun x H1 h => h.mono fun y H2 ⟨x', i, e, q⟩ => by cases e; exact ⟨i, rfl, q⟩
theorem EOk.slB (ha : EOk X a fa) (hb : EOk X lo fb) (hc : EOk X hi fc) : EOk X (.Subscript a (.Slice (some lo) (some hi) none p2) pos) (opE gSlB [fa, asIntE fb, fc]) := fun W t =>
  (pe_slice (sl_list.or sl_tup) (ha W t) (po_some (hb W t)) (po_some (hc W t))).imp fun σ H Q h => (h.op (r := fun xs H Q => ∃ x i j, xs = [x, .int i, .int j] ∧ (rSlL X.K x (some i) (some j) H Q ∨ rSlT X.K x (some i) (some j) H Q)) (by
    intro H F T as vs xs c v Q r hl e fin
    unfold gSlB at e
    split at e
    · obtain ⟨x, y, z, c1, c2, c3, rfl, r1, r2, r3, hcc⟩ := r.inv3
      cases r2.inv_int
      cases r3.inv_int
      exact ⟨x, _, _, rfl, sl1_ok r1 (fun b => by rw [hcc]; omega) hl e fin⟩
    · cases e)).cons.mono fun x H1 h => h.two.asInt.mono fun y H2 ⟨i, ei, h⟩ => ⟨i, ei, h.mono fun z H3 ⟨x', i', j, e, q⟩ => by cases e; cases ei; exact ⟨j, rfl, q⟩⟩
theorem EOk.rev {k : Nat} {p1 q2 p3 : Pos} (ha : EOk X a fa) : EOk X (.Subscript a (.Slice none none (some (.UnaryOp .USub (.Constant (.int 1) k p1) q2)) p3) pos) (opE gRev [fa]) := fun W t =>
  (pe_revL (ha W t)).imp fun σ H Q h => (h.op (r := fun xs H Q => ∃ x, xs = [x] ∧ ∃ a ys, x = .ref a ∧ SqL X.K H a ys ∧ ∀ p, H p = none → Q (.ref p) (upd H p (.lst ys.reverse))) (by
    intro H F T as vs xs c v Q r hl e fin
    unfold gRev at e
    split at e
    · cases e
      obtain ⟨x, rfl, r1⟩ := r.inv1
      obtain ⟨a, xs, c', rfl, h, s, k⟩ := r1.inv_lst
      exact ⟨_, rfl, a, xs, rfl, h, fun p hp => fin.mkL s.reverse k hl (same_new hp) hp upd_same⟩
    · cases e)).one.mono fun x H1 ⟨x', e, q⟩ => by cases e; exact q
end

/-! ### built-ins -/
def gLen : List Vl → Option Vl
  | [.nd _ .lst xs] => some (.int xs.length)
  | [.tup xs] => some (.int xs.length)
  | [.str z] => if z.length ≤ sizeLine then some (.int z.length) else none
  | _ => none
def gList : List Vl → Option Vl
  | [.nd _ .lst xs] => some (mkL xs)
  | [.tup xs] => some (mkL xs)
  | _ => none
def gMax2 : List Vl → Option Vl
  | [.int i, .int j] => some (.int (if j > i then j else i))
  | _ => none
def gMin2 : List Vl → Option Vl
  | [.int i, .int j] => some (.int (if j < i then j else i))
  | _ => none
def gAbs : List Vl → Option Vl
  | [.int i] => some (.int (if i < 0 then -i else i))
  | _ => none
def gInt : List Vl → Option Vl
  | [.int i] => some (.int i)
  | [.bl k] => some (.int (if k then 1 else 0))
  | _ => none
def blsOf : List Vl → Option (List Bool)
  | [] => some []
  | .bl b :: r => (blsOf r).map (b :: ·)
  | _ => none
def intsOf : List Vl → Option (List Int)
  | [] => some []
  | .int b :: r => (intsOf r).map (b :: ·)
  | _ => none
def gAll : List Vl → Option Vl
  | [.nd _ .lst xs] => (blsOf xs).map fun bs => .bl (bs.all id)
  | _ => none
def gAny : List Vl → Option Vl
  | [.nd _ .lst xs] => (blsOf xs).map fun bs => .bl (bs.any id)
  | _ => none
def gSum : List Vl → Option Vl
  | [.nd _ .lst xs] => (intsOf xs).map fun ns => .int ns.sum
  | _ => none
section
variable {K : PySem.W.Frag} {mg : Str → Option Value}
theorem Reps.bls {H : Hp} {F T : Addr → Prop} {as : List Addr} : ∀ {vs : List Vl} {xs : List V} {c : Addr → Nat} {bs : List Bool}, Reps K mg H F T as vs xs c → blsOf vs = some bs → xs = bs.map V.bl
  | [], _, _, _, r, e => by cases r; unfold blsOf at e; cases e; rfl
  | .bl b :: vs, _, _, _, .cons r s _, e => by
    unfold blsOf at e
    obtain ⟨bs, e1, e2⟩ := Option.map_eq_some_iff.mp e
    subst e2
    rw [r.inv_bl, s.bls e1]; rfl
  | .non :: _, _, _, _, _, e => by unfold blsOf at e; cases e
  | .int _ :: _, _, _, _, _, e => by unfold blsOf at e; cases e
  | .str _ :: _, _, _, _, _, e => by unfold blsOf at e; cases e
  | .ref _ :: _, _, _, _, _, e => by unfold blsOf at e; cases e
  | .sym _ :: _, _, _, _, _, e => by unfold blsOf at e; cases e
  | .tup _ :: _, _, _, _, _, e => by unfold blsOf at e; cases e
  | .nd _ _ _ :: _, _, _, _, _, e => by unfold blsOf at e; cases e
theorem Reps.ints {H : Hp} {F T : Addr → Prop} {as : List Addr} : ∀ {vs : List Vl} {xs : List V} {c : Addr → Nat} {bs : List Int}, Reps K mg H F T as vs xs c → intsOf vs = some bs → xs = bs.map V.int
  | [], _, _, _, r, e => by cases r; unfold intsOf at e; cases e; rfl
  | .int b :: vs, _, _, _, .cons r s _, e => by
    unfold intsOf at e
    obtain ⟨bs, e1, e2⟩ := Option.map_eq_some_iff.mp e
    subst e2
    rw [r.inv_int, s.ints e1]; rfl
  | .non :: _, _, _, _, _, e => by unfold intsOf at e; cases e
  | .bl _ :: _, _, _, _, _, e => by unfold intsOf at e; cases e
  | .str _ :: _, _, _, _, _, e => by unfold intsOf at e; cases e
  | .ref _ :: _, _, _, _, _, e => by unfold intsOf at e; cases e
  | .sym _ :: _, _, _, _, _, e => by unfold intsOf at e; cases e
  | .tup _ :: _, _, _, _, _, e => by unfold intsOf at e; cases e
  | .nd _ _ _ :: _, _, _, _, _, e => by unfold intsOf at e; cases e
theorem gop_len : GOp K mg gLen (fun xs H Q => ∃ x n, xs = [x] ∧ LenV K x H n ∧ Q (.int n) H) := by
  intro H F T as vs xs c v Q r hl e fin
  unfold gLen at e
  split at e
  · cases e
    obtain ⟨x, rfl, r1⟩ := r.inv1
    obtain ⟨a, xs, c', rfl, h, s, k⟩ := r1.inv_lst
    exact ⟨_, _, rfl, .inl ⟨xs, h, s.length⟩, fin.int⟩
  · cases e
    obtain ⟨x, rfl, r1⟩ := r.inv1
    obtain ⟨a, xs, rfl, h, s⟩ := r1.inv_tup
    exact ⟨_, _, rfl, .inr ⟨xs, h, s.length⟩, fin.int⟩
  · split at e
    · rename_i hz
      cases e
      obtain ⟨x, rfl, r1⟩ := r.inv1
      cases r1.inv_str
      exact ⟨_, _, rfl, ⟨hz, rfl⟩, fin.int⟩
    · cases e
  · cases e
theorem gop_list : GOp K mg gList (fun xs H Q => ∃ p ys, xs = [.ref p] ∧ (SqL K H p ys ∨ SqT K H p ys) ∧ ∀ l, H l = none → Q (.ref l) (upd H l (.lst ys))) := by
  intro H F T as vs xs c v Q r hl e fin
  unfold gList at e
  split at e
  · cases e
    obtain ⟨x, rfl, r1⟩ := r.inv1
    obtain ⟨a, xs, c', rfl, h, s, k⟩ := r1.inv_lst
    exact ⟨a, xs, rfl, .inl h, fun p hp => fin.mkL s k hl (same_new hp) hp upd_same⟩
  · cases e
    obtain ⟨x, rfl, r1⟩ := r.inv1
    obtain ⟨a, xs, rfl, h, s⟩ := r1.inv_tup
    exact ⟨a, xs, rfl, .inr h, fun p hp => fin.mkL s (fun b => Nat.le_refl _) hl (same_new hp) hp upd_same⟩
  · cases e
theorem gop_max2 : GOp K mg gMax2 (fun xs H Q => ∃ i j, xs = [.int i, .int j] ∧ Q (.int (if j > i then j else i)) H) := by
  intro H F T as vs xs c v Q r hl e fin
  unfold gMax2 at e
  split at e
  · cases e
    obtain ⟨x, y, c1, c2, rfl, r1, r2, hcc⟩ := r.inv2
    cases r1.inv_int
    cases r2.inv_int
    exact ⟨_, _, rfl, fin.int⟩
  · cases e
theorem gop_min2 : GOp K mg gMin2 (fun xs H Q => ∃ i j, xs = [.int i, .int j] ∧ Q (.int (if j < i then j else i)) H) := by
  intro H F T as vs xs c v Q r hl e fin
  unfold gMin2 at e
  split at e
  · cases e
    obtain ⟨x, y, c1, c2, rfl, r1, r2, hcc⟩ := r.inv2
    cases r1.inv_int
    cases r2.inv_int
    exact ⟨_, _, rfl, fin.int⟩
  · cases e
theorem gop_abs : GOp K mg gAbs (fun xs H Q => ∃ i, xs = [.int i] ∧ Q (.int (if i < 0 then -i else i)) H) := by
  intro H F T as vs xs c v Q r hl e fin
  unfold gAbs at e
  split at e
  · cases e
    obtain ⟨x, rfl, r1⟩ := r.inv1
    cases r1.inv_int
    exact ⟨_, rfl, fin.int⟩
  · cases e
theorem gop_int : GOp K mg gInt (fun xs H Q => (∃ i, xs = [.int i] ∧ Q (.int i) H) ∨ ∃ k, xs = [.bl k] ∧ Q (.int (if k then 1 else 0)) H) := by
  intro H F T as vs xs c v Q r hl e fin
  unfold gInt at e
  split at e
  · cases e
    obtain ⟨x, rfl, r1⟩ := r.inv1
    cases r1.inv_int
    exact .inl ⟨_, rfl, fin.int⟩
  · cases e
    obtain ⟨x, rfl, r1⟩ := r.inv1
    cases r1.inv_bl
    exact .inr ⟨_, rfl, fin.int⟩
  · cases e
theorem gop_all : GOp K mg gAll (rAll K) := by
  intro H F T as vs xs c v Q r hl e fin
  unfold gAll at e
  split at e
  · obtain ⟨bs, e1, e2⟩ := Option.map_eq_some_iff.mp e
    subst e2
    obtain ⟨x, rfl, r1⟩ := r.inv1
    obtain ⟨a, xs, c', rfl, h, s, k⟩ := r1.inv_lst
    rw [s.bls e1] at h
    exact ⟨a, bs, rfl, h, fin.bl⟩
  · cases e
theorem gop_any : GOp K mg gAny (rAny K) := by
  intro H F T as vs xs c v Q r hl e fin
  unfold gAny at e
  split at e
  · obtain ⟨bs, e1, e2⟩ := Option.map_eq_some_iff.mp e
    subst e2
    obtain ⟨x, rfl, r1⟩ := r.inv1
    obtain ⟨a, xs, c', rfl, h, s, k⟩ := r1.inv_lst
    rw [s.bls e1] at h
    exact ⟨a, bs, rfl, h, fin.bl⟩
  · cases e
theorem gop_sum : GOp K mg gSum (rSum K) := by
  intro H F T as vs xs c v Q r hl e fin
  unfold gSum at e
  split at e
  · obtain ⟨bs, e1, e2⟩ := Option.map_eq_some_iff.mp e
    subst e2
    obtain ⟨x, rfl, r1⟩ := r.inv1
    obtain ⟨a, xs, c', rfl, h, s, k⟩ := r1.inv_lst
    rw [s.ints e1] at h
    exact ⟨a, bs, rfl, h, fin.int⟩
  · cases e
end
section
variable {X : Cx} {e : Expr} {es : List Expr} {fs : List E} {p pos : Pos}
theorem EOk.len (hm : X.mg "len" = none) (ha : AOk X [e] fs) (hgl : Gl X "len" := by rfl) (he : starEach [e] X.env = (false, eval e X.env) :: starEach [] X.env := by rfl) : EOk X (.Call (.Name "len" p) [e] [] pos) (opE gLen fs) :=
  .callB call_len gop_len hgl hm PySem.boot_len ha (by decide) (by decide) he rfl
theorem EOk.list (hm : X.mg "list" = none) (ha : AOk X [e] fs) (hgl : Gl X "list" := by rfl) (he : starEach [e] X.env = (false, eval e X.env) :: starEach [] X.env := by rfl) : EOk X (.Call (.Name "list" p) [e] [] pos) (opE gList fs) :=
  .callTy call_list_of gop_list hgl hm (by decide +kernel) ha (by decide) (by decide) he rfl
theorem EOk.max2 {e2 : Expr} (hc : X.calm = true) (hm : X.mg "max" = none) (ha : AOk X [e, e2] fs) (hgl : Gl X "max" := by rfl) (he : starEach [e, e2] X.env = (false, eval e X.env) :: starEach [e2] X.env := by rfl) (hpl : (backTo pos (starEach [e2] X.env)).any (·.1) = false := by rfl) : EOk X (.Call (.Name "max" p) [e, e2] [] pos) (opE gMax2 fs) :=
  .callB (call_max2 hc) gop_max2 hgl hm (by decide +kernel) ha (by decide) (by decide) he hpl
theorem EOk.min2 {e2 : Expr} (hc : X.calm = true) (hm : X.mg "min" = none) (ha : AOk X [e, e2] fs) (hgl : Gl X "min" := by rfl) (he : starEach [e, e2] X.env = (false, eval e X.env) :: starEach [e2] X.env := by rfl) (hpl : (backTo pos (starEach [e2] X.env)).any (·.1) = false := by rfl) : EOk X (.Call (.Name "min" p) [e, e2] [] pos) (opE gMin2 fs) :=
  .callB (call_min2 hc) gop_min2 hgl hm (by decide +kernel) ha (by decide) (by decide) he hpl
theorem EOk.abs (hm : X.mg "abs" = none) (ha : AOk X [e] fs) (hgl : Gl X "abs" := by rfl) (he : starEach [e] X.env = (false, eval e X.env) :: starEach [] X.env := by rfl) : EOk X (.Call (.Name "abs" p) [e] [] pos) (opE gAbs fs) :=
  .callB call_abs gop_abs hgl hm (by decide +kernel) ha (by decide) (by decide) he rfl
theorem EOk.int_ (hm : X.mg "int" = none) (ha : AOk X [e] fs) (hgl : Gl X "int" := by rfl) (he : starEach [e] X.env = (false, eval e X.env) :: starEach [] X.env := by rfl) : EOk X (.Call (.Name "int" p) [e] [] pos) (opE gInt fs) :=
  .callTy call_int1 gop_int hgl hm (by decide +kernel) ha (by decide) (by decide) he rfl
theorem EOk.all (hc : X.calm = true) (hm : X.mg "all" = none) (ha : AOk X [e] fs) (hgl : Gl X "all" := by rfl) (he : starEach [e] X.env = (false, eval e X.env) :: starEach [] X.env := by rfl) : EOk X (.Call (.Name "all" p) [e] [] pos) (opE gAll fs) :=
  .callB (cr_all hc) gop_all hgl hm (by decide +kernel) ha (by decide) (by decide) he rfl
theorem EOk.any (hc : X.calm = true) (hm : X.mg "any" = none) (ha : AOk X [e] fs) (hgl : Gl X "any" := by rfl) (he : starEach [e] X.env = (false, eval e X.env) :: starEach [] X.env := by rfl) : EOk X (.Call (.Name "any" p) [e] [] pos) (opE gAny fs) :=
  .callB (cr_any hc) gop_any hgl hm (by decide +kernel) ha (by decide) (by decide) he rfl
theorem EOk.sum (hc : X.calm = true) (hm : X.mg "sum" = none) (ha : AOk X [e] fs) (hgl : Gl X "sum" := by rfl) (he : starEach [e] X.env = (false, eval e X.env) :: starEach [] X.env := by rfl) : EOk X (.Call (.Name "sum" p) [e] [] pos) (opE gSum fs) :=
  .callB (cr_sum hc) gop_sum hgl hm (by decide +kernel) ha (by decide) (by decide) he rfl
end

/-! ### list(range(..)) -/
def gLR1 : List Vl → Option Vl
  | [.int j] => if inB 16777216 j then some (.nd .own .lst (intsV 0 j.toNat)) else none
  | _ => none
def gLR2 : List Vl → Option Vl
  | [.int i, .int j] => if inB 4611686018427387903 i && inB 4611686018427387903 j && decide ((j - i).toNat ≤ 16777216) then some (.nd .own .lst (intsV i (j - i).toNat)) else none
  | _ => none
section
variable {K : PySem.W.Frag} {mg : Str → Option Value} {H : Hp} {F T : Addr → Prop} {as : List Addr}
theorem reps_ints (lo : Int) : ∀ (l : List Nat), Reps K mg H F T as (l.map fun k => .int (lo + (k : Nat))) (l.map fun i => V.int (lo + (i : Nat))) (fun _ => 0)
  | [] => .nil fun _ => rfl
  | k :: r => .cons Rep.int' (reps_ints lo r) fun _ => rfl
theorem stors_ints (lo : Int) : ∀ (l : List Nat), stors (l.map fun k => Vl.int (lo + (k : Nat))) = true
  | [] => rfl
  | k :: r => by show (true && stors _) = true; rw [stors_ints lo r]; rfl
theorem fin_ints {c : Addr → Nat} {Q : VK} {lo : Int} {n : Nat} (fin : Fin K mg F T as c H (.nd .own .lst (intsV lo n)) Q) (hl : ∀ b, c b ≤ 1) {p : Addr} (hp : H p = none) (b : Int) (hb : (b - lo).toNat = n) : Q (.ref p) (upd H p (.lst (rgV lo b))) := by
  have e : mkL (intsV lo n) = .nd .own .lst (intsV lo n) := by
    have st : stors (intsV lo n) = true := stors_ints lo _
    unfold mkL; rw [if_pos st]
  rw [← e] at fin
  refine fin.mkL (c5 := fun _ => 0) ?_ (fun b => Nat.zero_le _) hl (same_new hp) hp upd_same
  unfold rgV intsV
  rw [hb]
  exact reps_ints lo _
end
section
variable {X : Cx} {e e2 : Expr} {f f2 : E} {p pos p2 pos2 : Pos}
theorem EOk.listRng1 (hc : X.calm = true) (hl : X.mg "list" = none) (hm : X.mg "range" = none) (ha : EOk X e f) (hgl : Gl X "list" := by rfl) (hgr : Gl X "range" := by rfl) (na : starEach [e] X.env = (false, eval e X.env) :: starEach [] X.env := by rfl)
    (na2 : starEach [Expr.Call (.Name "range" p2) [e] [] pos2] X.env = (false, eval (Expr.Call (.Name "range" p2) [e] [] pos2) X.env) :: starEach [] X.env := by rfl) : EOk X (.Call (.Name "list" p) [.Call (.Name "range" p2) [e] [] pos2] [] pos) (opE gLR1 [f]) := fun W t =>
  (pe_listRg hc hgl hl (prg_1 hgr hm (ha W t) na) na2).imp fun σ H Q h => (h.op (r := fun xs H Q => ∃ x, xs = [x] ∧ ∃ n, x = .int n ∧ RgOk 0 n ∧ ∀ q, H q = none → Q (.ref q) (upd H q (.lst (rgV 0 n)))) (by
    intro H F T as vs xs c v Q r hl e fin
    unfold gLR1 at e
    split at e
    · split at e
      · rename_i j hc
        cases e
        simp only [inB_eq] at hc
        obtain ⟨x, rfl, r1⟩ := r.inv1
        exact ⟨x, rfl, j, r1.inv_int, ⟨by omega, by omega, by omega, by omega, by omega⟩, fun q hq => fin_ints fin hl hq j (by omega)⟩
      · cases e
    · cases e)).one.mono fun x H1 ⟨x', e, q⟩ => by cases e; exact q
theorem EOk.listRng2 (hc : X.calm = true) (hl : X.mg "list" = none) (hm : X.mg "range" = none) (ha : EOk X e f) (hb : EOk X e2 f2) (hgl : Gl X "list" := by rfl) (hgr : Gl X "range" := by rfl) (na : starEach [e, e2] X.env = (false, eval e X.env) :: starEach [e2] X.env := by rfl) (nb : starEach [e2] X.env = (false, eval e2 X.env) :: starEach [] X.env := by rfl) (hpl : (backTo pos2 (starEach [e2] X.env)).any (·.1) = false := by rfl)
    (na2 : starEach [Expr.Call (.Name "range" p2) [e, e2] [] pos2] X.env = (false, eval (Expr.Call (.Name "range" p2) [e, e2] [] pos2) X.env) :: starEach [] X.env := by rfl) : EOk X (.Call (.Name "list" p) [.Call (.Name "range" p2) [e, e2] [] pos2] [] pos) (opE gLR2 [f, f2]) := fun W t =>
  (pe_listRg hc hgl hl (prg_2 hgr hm (ha W t) (hb W t) na nb hpl) na2).imp fun σ H Q h => (h.op (r := fun xs H Q => ∃ x y, xs = [x, y] ∧ ∃ i j, x = .int i ∧ y = .int j ∧ RgOk i j ∧ ∀ q, H q = none → Q (.ref q) (upd H q (.lst (rgV i j)))) (by
    intro H F T as vs xs c v Q r hl e fin
    unfold gLR2 at e
    split at e
    · split at e
      · rename_i i j hc
        cases e
        simp only [Bool.and_eq_true, decide_eq_true_eq, inB_eq] at hc
        obtain ⟨x, y, c1, c2, rfl, r1, r2, hcc⟩ := r.inv2
        exact ⟨x, y, rfl, i, j, r1.inv_int, r2.inv_int, ⟨by omega, by omega, by omega, by omega, hc.2⟩, fun q hq => fin_ints fin hl hq j rfl⟩
      · cases e
    · cases e)).two.mono fun x H1 h => h.mono fun y H2 ⟨x', y', e, q⟩ => by cases e; exact q
end
end PyI

namespace PyI
open PySem PySem.Spec PyProof.Rows L2

/-! ### what is changed in place -/
/-- the object that a slot holds, its own or a cell's -/
def getN (st : Sta) (i : Nat) : Option (Kd × List Vl) := match st.sl[i]? with
  | some (some (.nd .own k xs)) => some (k, xs)
  | some (some (.ref n)) => (match st.hp[n]? with
    | some (.nd .own k xs) => some (k, xs)
    | _ => none)
  | _ => none
def putN (st : Sta) (i : Nat) (k : Kd) (xs : List Vl) : Sta := match st.sl[i]? with
  | some (some (.ref n)) => { st with hp := st.hp.set n (.nd .own k xs) }
  | _ => { st with sl := st.sl.set i (some (.nd .own k xs)) }
abbrev Mu := List Vl → Kd → List Vl → Option (Vl × Kd × List Vl)
def isL : Kd → Bool
  | .lst => true
  | _ => false
def isD : Kd → Bool
  | .dK _ => true
  | .dT _ => true
  | _ => false
def mutE (i : Nat) (p : Kd → Bool) (fs : List E) (g : Mu) : E := fun st => match getN st i with
  | some (k0, _) => if p k0 then (match evs fs st with
    | .ok (vs, st1, _) => (match getN st1 i with
      | some (k, xs) => (match g vs k xs with
        | some (res, k', ys) => if stors ys && noTr res then .ok (res, putN st1 i k' ys, true) else .bad
        | none => .bad)
      | none => .bad)
    | .exc c s => .exc c s
    | .bad => .bad) else .bad
  | none => .bad
def GMu (K : PySem.W.Frag) (mg : Str → Option Value) (g : Mu) (r : V → List V → Hp → VK → Prop) : Prop :=
  ∀ (H : Hp) (F T : Addr → Prop) (as : List Addr) (vs : List Vl) (xs : List V) (ca : Addr → Nat) (k : Kd) (ws : List Vl) (wsV : List V) (cx : Addr → Nat) (a : Addr) (o : HO) (res : Vl) (k' : Kd) (ys : List Vl) (Q : VK),
    Reps K mg H F T as vs xs ca → Reps K mg H F T as ws wsV cx → H a = some o → hoOf mg k wsV o → g vs k ws = some (res, k', ys) →
    (∀ ysV cy x cr o', Reps K mg H F T as ys ysV cy → Rep K mg H F T as res x cr → hoOf mg k' ysV o' → (∀ b, cy b + cr b ≤ cx b + ca b) → Q x (upd H a o')) → r (.ref a) xs H Q
theorem noTrs_of_stors {vs : List Vl} (h : stors vs = true) : noTrs vs = true := stors_noTrs h
section
variable {K : PySem.W.Frag} {mg : Str → Option Value} {H : Hp} {F T : Addr → Prop} {as : List Addr} {L : List (Nat × V)} {st : Sta} {σ : L2.St} {c1 c2 : Addr → Nat}
/-- the object at a slot -/
theorem Rel.node {i : Nat} {k : Kd} {xs : List Vl} (r : Rel K mg F T as L st σ H c1) (e : getN st i = some (k, xs)) : ∃ a o xsV cx, σ[i]? = some (some (.ref a)) ∧ H a = some o ∧ hoOf mg k xsV o ∧ Reps K mg H F T as xs xsV cx ∧ noTrs xs = true ∧ (∀ b, cx b + oneD a b ≤ c1 b) ∧
    ∀ (c9 : Addr → Nat) (k' : Kd) (ys : List Vl) (ysV : List V) (cy : Addr → Nat) (o' : HO), (∀ b, c1 b + c9 b ≤ 1) → (∀ b, F b ∨ T b → c9 b = 0) → (∀ b, cy b ≤ cx b + c9 b) → Reps K mg H F T as ys ysV cy → noTrs ys = true → hoOf mg k' ysV o' →
      ∃ c', Rel K mg F T as L (putN st i k' ys) σ (upd H a o') c' ∧ ∀ b, c' b + cx b = c1 b + cy b := by
  unfold getN at e
  split at e
  · rename_i k0 xs0 es
    cases e
    obtain ⟨x, d1, d2, e1, rv, nt, r2, hc⟩ := r.slot es
    cases rv with
    | own h ho rr hcc =>
      rename_i a o xsV cx
      have ntx : noTrs xs = true := by unfold noTr at nt; simp only [Bool.and_eq_true] at nt; exact nt.2
      refine ⟨a, o, xsV, cx, e1, h, ho, rr, ntx, fun b => by rw [hc, hcc]; simp only [oneD]; omega, fun c9 k' ys ysV cy o' le hF hy ry nty ho' => ?_⟩
      have hm : MutO (H a) := by rw [h]; exact hoOf_mut ho
      have oa : oneD a a = 1 := if_pos rfl
      have da : d1 a = 1 + cx a := by rw [hcc]; simp
      have ca1 : c1 a = 1 := by have := r.le a; have := hc a; omega
      have nd : ∀ (d : Addr → Nat), (∀ b, d b ≤ c9 b + d2 b + cx b) → ∀ b, F b ∨ T b ∨ d b ≠ 0 → b ≠ a := fun d hd b q eb => by
        subst eb
        rcases q with q | q | q
        · have := (r.fr b (.inl q)).1; omega
        · have := (r.fr b (.inr q)).1; omega
        · have := hd b; have := le b; have := hc b; omega
      have hi : i < st.sl.length := (List.getElem?_eq_some_iff.mp es).1
      have r3 := r2.wr (o := o') (nd d2 fun b => by omega) hm
      have ry3 := ry.stay nty (stay_wr (o := o') (nd cy fun b => by have := hy b; omega) hm) (fun _ h => h) (fun _ h => h) Pre.refl
      have rn : Rep K mg (upd H a o') F T as (.nd .own k' ys) (.ref a) (fun b => oneD a b + cy b) := .own upd_same ho' ry3 fun b => rfl
      have nt2 : noTr (.nd .own k' ys) = true := by unfold noTr; simp only [Bool.and_eq_true]; exact ⟨by decide, nty⟩
      have hle : ∀ b, (oneD a b + cy b) + d2 b ≤ 1 := fun b => by
        have h1 := hy b; have h2 := le b; have h3 := hc b; have h4 := hcc b
        simp only [oneD]; omega
      have r4 := r3.fill hi e1 rn nt2 hle fun b q => by
        have h1 := (r.fr b q).1
        have h2 := hc b; have h3 := hcc b; have h4 := hy b; have h5 := hF b q
        simp only [oneD]; omega
      refine ⟨fun b => (oneD a b + cy b) + d2 b, ?_, fun b => ?_⟩
      · unfold putN
        rw [es]
        exact r4
      · show (oneD a b + cy b) + d2 b + cx b = c1 b + cy b
        rw [hc, hcc]; simp only [oneD]; omega
  · rename_i n es
    split at e
    · rename_i k0 xs0 ec
      cases e
      obtain ⟨x, d1, d2, e1, rv, nt, r2, hc⟩ := r.slot es
      cases rv with
      | ref hn h0 =>
        rename_i a
        obtain ⟨s1, s2, h1, h2, h3, h4⟩ := r.rep
        -- the cell taken out of the cells
        have take : ∀ {hp : List Vl} {bs : List Addr} {s : Addr → Nat} {n : Nat}, Reps K mg H F T as hp (bs.map V.ref) s → noTrs hp = true → hp[n]? = some (.nd .own k xs) → bs[n]? = some a →
            ∃ (cn cr : Addr → Nat), Rep K mg H F T as (.nd .own k xs) (.ref a) cn ∧ noTr (.nd .own k xs) = true ∧ (∀ b, s b = cn b + cr b) ∧ (∀ b, cr b ≠ 0 → MutO (H b)) ∧
              ∀ (H' : Hp) (v : Vl) (cv : Addr → Nat), (∀ d : Addr → Nat, (∀ b, d b ≤ cr b) → Stay H H' F T d) → Rep K mg H' F T as v (.ref a) cv → noTr v = true → Reps K mg H' F T as (hp.set n v) (bs.map V.ref) (fun b => cv b + cr b) ∧ noTrs (hp.set n v) = true := by
          intro hp
          induction hp with
          | nil => intro bs s n _ _ e _; simp at e
          | cons w hp ih =>
            intro bs s n rr nn e eb
            cases bs with
            | nil => simp at eb
            | cons b0 bs =>
              unfold noTrs at nn
              simp only [Bool.and_eq_true] at nn
              cases rr with
              | cons r1 rs hs =>
                rename_i e1' e2'
                cases n with
                | zero =>
                  simp at e eb
                  subst e eb
                  refine ⟨_, _, r1, nn.1, hs, rs.mu, fun H' v cv st rv nv => ⟨.cons rv (rs.stay nn.2 (st _ fun b => Nat.le_refl _) (fun _ h => h) (fun _ h => h) Pre.refl) fun _ => rfl, ?_⟩⟩
                  show (noTr v && noTrs hp) = true
                  rw [nv, nn.2]; rfl
                | succ n =>
                  obtain ⟨cn, cr, q1, q2, q3, q5, q4⟩ := ih rs nn.2 (by simpa using e) (by simpa using eb)
                  refine ⟨cn, fun b => e1' b + cr b, q1, q2, fun b => by show _ = cn b + (e1' b + cr b); rw [hs, q3]; omega, fun b z => ?_, fun H' v cv st rv nv => ?_⟩
                  · by_cases y : e1' b = 0
                    · exact q5 b (by have z' : e1' b + cr b ≠ 0 := z; omega)
                    · exact r1.mu b y
                  · obtain ⟨t1, t2⟩ := q4 H' v cv (fun d hd => st d fun b => Nat.le_trans (hd b) (Nat.le_add_left _ _)) rv nv
                    refine ⟨.cons (r1.stay nn.1 (st _ fun b => Nat.le_add_right _ _) (fun _ h => h) (fun _ h => h) Pre.refl) t1 fun b => by show cv b + (e1' b + cr b) = e1' b + (cv b + cr b); omega, ?_⟩
                    show (noTr w && noTrs (hp.set n v)) = true
                    rw [nn.1, t2]; rfl
        obtain ⟨cn, cr, q1, q2, q3, q5, q4⟩ := take h2 h3 ec hn
        cases q1 with
        | own h ho rr hcc =>
          rename_i o xsV cx
          have ntx : noTrs xs = true := by unfold noTr at q2; simp only [Bool.and_eq_true] at q2; exact q2.2
          refine ⟨a, o, xsV, cx, e1, h, ho, rr, ntx, fun b => by rw [h4, q3, hcc]; simp only [oneD]; omega, fun c9 k' ys ysV cy o' le hF hy ry nty ho' => ?_⟩
          have hm : MutO (H a) := by rw [h]; exact hoOf_mut ho
          have da : cn a = 1 + cx a := by rw [hcc]; simp
          have ca1 : c1 a = 1 := by have := r.le a; have := h4 a; have := q3 a; omega
          have nd : ∀ (d : Addr → Nat), (∀ b, d b ≤ c9 b + s1 b + cr b + cx b) → ∀ b, F b ∨ T b ∨ d b ≠ 0 → b ≠ a := fun d hd b q eb => by
            subst eb
            rcases q with q | q | q
            · have := (r.fr b (.inl q)).1; omega
            · have := (r.fr b (.inr q)).1; omega
            · have := hd b; have := le b; have := h4 b; have := q3 b; omega
          have ry3 := ry.stay nty (stay_wr (o := o') (nd cy fun b => by have := hy b; omega) hm) (fun _ h => h) (fun _ h => h) Pre.refl
          have rn : Rep K mg (upd H a o') F T as (.nd .own k' ys) (.ref a) (fun b => oneD a b + cy b) := .own upd_same ho' ry3 fun b => rfl
          have nt2 : noTr (.nd .own k' ys) = true := by unfold noTr; simp only [Bool.and_eq_true]; exact ⟨by decide, nty⟩
          obtain ⟨t1, t2⟩ := q4 (upd H a o') (.nd .own k' ys) _ (fun d hd => stay_wr (nd d fun b => by have := hd b; omega) hm) rn nt2
          have t0 := h1.stay (stay_wr (o := o') (nd s1 fun b => by omega) hm) (fun _ h => h) (fun _ h => h) Pre.refl
          refine ⟨fun b => s1 b + ((oneD a b + cy b) + cr b), ⟨⟨s1, _, ?_, ?_, ?_, fun _ => rfl⟩, fun b => ?_, fun b q => ⟨?_, ?_⟩, ?_⟩, fun b => ?_⟩
          · unfold putN; rw [es]; exact t0
          · unfold putN; rw [es]; exact t1
          · unfold putN; rw [es]; exact t2
          · show s1 b + ((oneD a b + cy b) + cr b) ≤ 1
            have := le b; have := hy b; have := h4 b; have := q3 b; have := hcc b; simp only [oneD]; omega
          · show s1 b + ((oneD a b + cy b) + cr b) = 0
            have := (r.fr b q).1; have := hF b q; have := hy b; have := h4 b; have := q3 b; have := hcc b; simp only [oneD]; omega
          · rw [upd_ne (nd (fun _ => 0) (fun b => Nat.zero_le _) b (q.elim .inl fun z => .inr (.inl z)))]; exact (r.fr b q).2
          · unfold putN; rw [es]; exact r.lk
          · show s1 b + ((oneD a b + cy b) + cr b) + cx b = c1 b + cy b
            rw [h4, q3, hcc]; simp only [oneD]; omega
    · cases e
  · cases e
end
theorem EI.mut {K : PySem.W.Frag} {mg : Str → Option Value} {W : WX} {i : Nat} {p : Kd → Bool} {fs : List E} {g : Mu} {r : V → List V → Hp → VK → Prop} {σ : L2.St} {H : Hp} {Q : VK} (h : EI K mg W (mutE i p fs g) σ H Q) (hg : GMu K mg g r) :
    ∃ a, σ[i]? = some (some (.ref a)) ∧ (∃ k xsV o, p k = true ∧ H a = some o ∧ hoOf mg k xsV o) ∧ AI K mg W fs σ H fun xs H2 => r (.ref a) xs H2 Q := by
  obtain ⟨F0, T, as0, L, st0, c0, r0, q⟩ := h
  unfold mutE at q
  split at q
  · rename_i k0 ws0 e0
    split at q
    · rename_i hp
      obtain ⟨a, o, xsV, cx, es, ha, ho, _, _, _, _⟩ := r0.node e0
      refine ⟨a, es, ⟨k0, xsV, o, hp, ha, ho⟩, F0, T, as0, L, st0, c0, r0, ?_⟩
      cases e1 : evs fs st0 with
      | bad => rw [e1] at q; exact q
      | exc cl s => rw [e1] at q; exact q
      | ok z =>
        obtain ⟨vs, st1, f1⟩ := z
        rw [e1] at q
        simp only at q
        intro F1 as1 H2 xs c1 ca r1 rv s1 p1 ef
        split at q
        · rename_i k ws e2
          split at q
          · rename_i res k' ys e3
            split at q
            · rename_i hc
              simp only [Bool.and_eq_true] at hc
              obtain ⟨a2, o2, wsV, cx2, es2, ha2, ho2, rw2, nw, kx, up⟩ := r1.node e2
              have ea : a2 = a := by rw [es] at es2; cases es2; rfl
              subst ea
              have tz : ∀ b, T b → c1 b + ca b = 0 := fun b z => by
                have h0 := r0.fr b (.inr z)
                by_cases y : c1 b + ca b = 0
                · exact y
                · rcases s1.grow b y with w | w
                  · exact absurd h0.1 w
                  · exact absurd w h0.2
              refine hg H2 F1 T as1 vs xs ca k ws wsV cx2 a2 o2 res k' ys Q rv rw2 ha2 ho2 e3 fun ysV cy x cr o' ry rr ho' hle => ?_
              have le1 : ∀ b, c1 b + ca b ≤ 1 := s1.le
              have dis1 : ∀ b, F1 b → c1 b + ca b = 0 := s1.dis
              obtain ⟨c', r', hc'⟩ := up ca k' ys ysV cy o' le1 (fun b z => by
                rcases z with z | z
                · have := dis1 b z; omega
                · have := tz b z; omega) (fun b => by have := hle b; omega) ry (noTrs_of_stors hc.1) ho'
              have hm : MutO (H2 a2) := by rw [ha2]; exact hoOf_mut ho2
              have oa : oneD a2 a2 = 1 := if_pos rfl
              have nda : ∀ (d : Addr → Nat), (∀ b, d b ≤ cx2 b + ca b) → ∀ b, F1 b ∨ T b ∨ d b ≠ 0 → b ≠ a2 := fun d hd b z eb => by
                subst eb
                have k1 := kx b
                rcases z with z | z | z
                · have := dis1 b z; omega
                · have := tz b z; omega
                · have := hd b; have := le1 b; omega
              have rr' := rr.stay hc.2 (stay_wr (o := o') (nda cr fun b => by have := hle b; omega) hm) (fun _ h => h) (fun _ h => h) Pre.refl
              refine q F1 as1 (upd H2 a2 o') x c' cr r' rr' ⟨fun b u e z => ?_, fun b z => s1.grow b ?_, fun b => ?_, s1.sub, fun b z => ?_, s1.fgr, fun b z => ?_⟩ p1 fun z => nomatch z
              · have e2' := s1.keep b u e z
                rw [upd_ne ?_]
                · exact e2'
                · rintro rfl
                  have k1 := kx b
                  rcases s1.grow b (by show c1 b + ca b ≠ 0; omega) with w | w
                  · exact w z
                  · rw [e] at w; cases w
              · have z' : c' b + cr b ≠ 0 := z
                have := hc' b; have := hle b; have := kx b
                show c1 b + ca b ≠ 0
                omega
              · show c' b + cr b ≤ 1
                have := hc' b; have := hle b; have := kx b; have := le1 b
                omega
              · show c' b + cr b = 0
                have := hc' b; have := hle b; have := kx b; have := dis1 b z
                omega
              · by_cases y : b = a2
                · rw [y, upd_same]; exact fun w => nomatch w
                · rw [upd_ne y]; exact s1.trk b z
            · exact (show False from q).elim
          · exact (show False from q).elim
        · exact (show False from q).elim
    · exact (show False from q).elim
  · exact (show False from q).elim
end PyI

namespace PyI
open PySem PySem.Spec PyProof.Rows L2

def muApp : Mu
  | [v], .lst, xs => if xs.length < sizeLine then some (.non, .lst, xs ++ [v]) else none
  | _, _, _ => none
def muPop : Mu
  | [], .lst, xs => (xs[xs.length - 1]?).map fun v => (v, .lst, xs.dropLast)
  | _, _, _ => none
def muPopAt : Mu
  | [.int i], .lst, xs => if inB 9223372036854775807 i then (ixN xs.length i).bind fun k => (xs[k]?).map fun v => (v, .lst, xs.eraseIdx k) else none
  | _, _, _ => none
def muClear : Mu
  | [], .lst, _ => some (.non, .lst, [])
  | _, _, _ => none
def muRev : Mu
  | [], .lst, xs => some (.non, .lst, xs.reverse)
  | _, _, _ => none
/-- o[i] = v: the value, then the place -/
def muSet : Mu
  | [v, .int i], .lst, xs => (ixN xs.length i).map fun k => (.non, .lst, xs.set k v)
  | _, _, _ => none
section
variable {K : PySem.W.Frag} {mg : Str → Option Value} {H : Hp} {F T : Addr → Prop} {as : List Addr}
theorem Reps.dropLast : ∀ {vs : List Vl} {xs : List V} {c : Addr → Nat} {v : Vl}, Reps K mg H F T as vs xs c → vs[vs.length - 1]? = some v → ∃ x c1 c2, xs[xs.length - 1]? = some x ∧ Rep K mg H F T as v x c1 ∧ Reps K mg H F T as vs.dropLast xs.dropLast c2 ∧ ∀ b, c b = c1 b + c2 b
  | _, _, _, _, .nil hc, e => by simp at e
  | _, _, _, _, .cons r (.nil h0) hc, e => by
    simp at e
    subst e
    exact ⟨_, _, fun _ => 0, rfl, r, .nil fun _ => rfl, fun b => by rw [hc, h0]⟩
  | _, _, c, v, .cons (v := w) (c1 := c0) r (.cons (v := w2) (x := x2) (vs := ws) (xs := xs) r2 s h2) hc, e => by
    obtain ⟨x, c1, c2, e1, r1, r3, k⟩ := Reps.dropLast (v := v) (Reps.cons r2 s h2) (by simpa using e)
    refine ⟨x, c1, fun b => c0 b + c2 b, by simpa using e1, r1, .cons r r3 fun _ => rfl, fun b => by show c b = c1 b + (c0 b + c2 b); rw [hc, k]; omega⟩
theorem Reps.eraseIdx : ∀ {vs : List Vl} {xs : List V} {c : Addr → Nat} {k : Nat} {v : Vl}, Reps K mg H F T as vs xs c → vs[k]? = some v → ∃ x c1 c2, xs[k]? = some x ∧ Rep K mg H F T as v x c1 ∧ Reps K mg H F T as (vs.eraseIdx k) (xs.eraseIdx k) c2 ∧ ∀ b, c b = c1 b + c2 b
  | _, _, _, _, _, .nil hc, e => by simp at e
  | _, _, _, 0, _, .cons r s hc, e => by
    simp at e
    subst e
    exact ⟨_, _, _, rfl, r, s, hc⟩
  | _, _, c, k + 1, _, .cons (c1 := c0) r s hc, e => by
    obtain ⟨x, c1, c2, e1, r1, r3, h⟩ := s.eraseIdx (k := k) (by simpa using e)
    exact ⟨x, c1, fun b => c0 b + c2 b, by simpa using e1, r1, .cons r r3 fun _ => rfl, fun b => by show c b = c1 b + (c0 b + c2 b); rw [hc, h]; omega⟩
theorem Reps.set : ∀ {vs : List Vl} {xs : List V} {c d : Addr → Nat} {k : Nat} {v : Vl} {x : V}, Reps K mg H F T as vs xs c → Rep K mg H F T as v x d → ∃ c', Reps K mg H F T as (vs.set k v) (xs.set k x) c' ∧ ∀ b, c' b ≤ c b + d b
  | _, _, _, _, _, _, _, .nil hc, r => ⟨_, .nil hc, fun b => Nat.le_add_right _ _⟩
  | _, _, _, d, 0, _, _, .cons r s hc, r' => ⟨_, .cons r' s fun _ => rfl, fun b => by rw [hc]; omega⟩
  | _, _, _, _, k + 1, _, _, .cons r s hc, r' => by
    obtain ⟨c', h1, h2⟩ := s.set (k := k) r'
    exact ⟨_, .cons r h1 fun _ => rfl, fun b => by rw [hc]; have := h2 b; omega⟩
theorem gmu_app : GMu K mg muApp rAppend := by
  intro H F T as vs xs ca k ws wsV cx a o res k' ys Q rv rw_ ha ho e fin
  unfold muApp at e
  split at e
  · split at e
    · rename_i hz
      cases e
      cases ho
      obtain ⟨x, rfl, r1⟩ := rv.inv1
      refine ⟨a, wsV, x, rfl, rfl, ha, by rw [← rw_.length]; exact hz, ?_⟩
      exact fin _ _ _ _ _ (rw_.append (.cons r1 (.nil fun _ => rfl) fun _ => rfl)) Rep.non' rfl fun b => by show cx b + (ca b + 0) + 0 ≤ cx b + ca b; omega
    · cases e
  · cases e
theorem gmu_pop : GMu K mg muPop rPop := by
  intro H F T as vs xs ca k ws wsV cx a o res k' ys Q rv rw_ ha ho e fin
  unfold muPop at e
  split at e
  · obtain ⟨v, e1, e2⟩ := Option.map_eq_some_iff.mp e
    cases e2
    cases ho
    cases rv with
    | nil h0 =>
      obtain ⟨x, c1, c2, e3, r1, r2, h⟩ := rw_.dropLast e1
      exact ⟨a, wsV, x, rfl, rfl, ha, e3, fin _ _ _ _ _ r2 r1 rfl fun b => by rw [h]; omega⟩
  · cases e
theorem ixN_ok {n : Nat} {i : Int} {j : Nat} (h : ixN n i = some j) : seqIndex? i n = some j := (ixN_seq h).1
theorem gmu_popAt : GMu K mg muPopAt rPopAt := by
  intro H F T as vs xs ca k ws wsV cx a o res k' ys Q rv rw_ ha ho e fin
  unfold muPopAt at e
  split at e
  · split at e
    · rename_i hb
      simp only [inB_eq] at hb
      obtain ⟨j, e0, e⟩ := Option.bind_eq_some_iff.mp e
      obtain ⟨v, e1, e2⟩ := Option.map_eq_some_iff.mp e
      cases e2
      cases ho
      obtain ⟨x0, rfl, r0⟩ := rv.inv1
      cases r0.inv_int
      obtain ⟨x, c1, c2, e3, r1, r2, h⟩ := rw_.eraseIdx e1
      exact ⟨a, wsV, _, j, x, rfl, rfl, ha, by omega, by omega, by rw [← rw_.length]; exact ixN_ok e0, e3, fin _ _ _ _ _ r2 r1 rfl fun b => by rw [h]; omega⟩
    · cases e
  · cases e
theorem gmu_clear : GMu K mg muClear rClear := by
  intro H F T as vs xs ca k ws wsV cx a o res k' ys Q rv rw_ ha ho e fin
  unfold muClear at e
  split at e
  · cases e
    cases ho
    cases rv with
    | nil h0 => exact ⟨a, wsV, rfl, rfl, ha, fin _ _ _ _ _ (.nil fun _ => rfl) Rep.non' rfl fun b => Nat.zero_le _⟩
  · cases e
theorem gmu_rev : GMu K mg muRev rReverse := by
  intro H F T as vs xs ca k ws wsV cx a o res k' ys Q rv rw_ ha ho e fin
  unfold muRev at e
  split at e
  · cases e
    cases ho
    cases rv with
    | nil h0 => exact ⟨a, wsV, rfl, rfl, ha, fin _ _ _ _ _ rw_.reverse Rep.non' rfl fun b => by show cx b + 0 ≤ _; omega⟩
  · cases e
/-- a store by place, as a rule of a method's form -/
def rSetM (o : V) (xs : List V) (H : Hp) (Q : VK) : Prop := ∃ v i, xs = [v, i] ∧ rSetL o i v H (fun H' => Q .non H')
theorem gmu_set : GMu K mg muSet rSetM := by
  intro H F T as vs xs ca k ws wsV cx a o res k' ys Q rv rw_ ha ho e fin
  unfold muSet at e
  split at e
  · obtain ⟨j, e1, e2⟩ := Option.map_eq_some_iff.mp e
    cases e2
    cases ho
    obtain ⟨x, y, c1, c2, rfl, r1, r2, hcc⟩ := rv.inv2
    cases r2.inv_int
    obtain ⟨c', r3, k3⟩ := rw_.set (k := j) r1
    exact ⟨x, _, rfl, a, wsV, _, j, rfl, rfl, ha, by rw [← rw_.length]; exact e1, fin _ _ _ _ _ r3 Rep.non' rfl fun b => by rw [hcc]; have := k3 b; omega⟩
  · cases e
end
section
variable {X : Cx} {x m : Str} {p0 apos cpos pos : Pos} {i : Nat} {e : Expr} {es : List Expr} {fs : List E} {f fi : E} {g : Mu} {id : String}
theorem tyL {K : PySem.W.Frag} {mg : Str → Option Value} {H : Hp} {a : Addr} (h : ∃ k xsV o, isL k = true ∧ H a = some o ∧ hoOf mg k xsV o) : tyV K "list" (.ref a) H := by
  obtain ⟨k, xsV, o, hk, ha, ho⟩ := h
  cases k with
  | lst => cases ho; exact .inl ⟨rfl, _, SqL.of ha⟩
  | _ => cases hk
/-- x.m(..), x a slot's list -/
theorem EOk.meth {r : V → List V → Hp → VK → Prop} (hN : X.N[i]? = some x) (hv : Vis X.env.scope x) (hd : (x == ("__debug__" : Str)) = false) (hcd : (x == ("__classdict__" : Str)) = false) (slot : Slot "list" m id) (hty : typeOf (.builtin id) = pure (.type "method_descriptor")) (hm : MtR X id r) (hg : GMu X.K X.mg g r) (ha : AOk X (e :: es) fs)
    (hbase : attributeBase (.Name x p0) m X.env (eval (.Name x p0) X.env) = eval (.Name x p0) X.env := by rfl)
    (hfew : ((backTo cpos (starEach (e :: es) X.env)).all (fun x => !x.1) && (backToKw cpos (keywordEach [] X.env)).all (fun x => x.1.isSome)
      && decide ((e :: es).length + ([] : List Keyword).length + (if ([] : List Keyword).isEmpty then 0 else 1) < 30)) = true := by rfl)
    (hline : (apos.endLine == cpos.line) = true := by rfl) (hs : starEach (e :: es) X.env = (false, eval e X.env) :: starEach es X.env := by rfl) (hplain : (backTo cpos (starEach es X.env)).any (·.1) = false := by rfl) :
    EOk X (.Call (.Attribute (.Name x p0) m apos) (e :: es) [] cpos) (mutE i isL fs g) := fun W t =>
  (pe_bm PySem.F.plainAttrs_list slot hty hm (pe_var hN hv hd hcd) (ha W t) hbase hfew hline hs hplain).imp fun σ H Q h => by
    obtain ⟨a, es, ty, q⟩ := h.mut hg
    exact ⟨_, es, tyL ty, q⟩
theorem EOk.meth0 {r : V → List V → Hp → VK → Prop} (hN : X.N[i]? = some x) (hv : Vis X.env.scope x) (hd : (x == ("__debug__" : Str)) = false) (hcd : (x == ("__classdict__" : Str)) = false) (slot : Slot "list" m id) (hty : typeOf (.builtin id) = pure (.type "method_descriptor")) (hm : MtR X id r) (hg : GMu X.K X.mg g r)
    (hbase : attributeBase (.Name x p0) m X.env (eval (.Name x p0) X.env) = eval (.Name x p0) X.env := by rfl) (hline : (apos.endLine == cpos.line) = true := by rfl) :
    EOk X (.Call (.Attribute (.Name x p0) m apos) [] [] cpos) (mutE i isL [] g) := fun W t =>
  (pe_bm0 PySem.F.plainAttrs_list slot hty hm (pe_var hN hv hd hcd) hbase hline).imp fun σ H Q h => by
    obtain ⟨a, es, ty, q⟩ := h.mut hg
    exact ⟨_, es, tyL ty, q.nil⟩
/-- x[i] = e -/
theorem SOk.setItem {ei : Expr} {q0 : Pos} (hN : X.N[i]? = some x) (hv : Vis X.env.scope x) (hd : (x == ("__debug__" : Str)) = false) (hcd : (x == ("__classdict__" : Str)) = false) (he : EOk X e f) (hi : EOk X ei fi)
    (ha : ∀ v, assign (.Subscript (.Name x p0) ei q0) X.env v = (do
      let ov ← holding [v] (eval (.Name x p0) X.env)
      let iv ← holding [v, ov] (eval ei X.env)
      standAt q0
      holding [v, ov, iv] (setItem ov iv v)
      release [v, ov, iv] []) := by intro _; rfl)
    (hs : swapsWithSole [.Subscript (.Name x p0) ei q0] e pos.line X.env = pure false := by rfl) (hw : swappedStores [.Subscript (.Name x p0) ei q0] e X.env = pure none := by rfl)
    (h1 : (assignEach [.Subscript (.Name x p0) ei q0] X.env).map (·.2) = [assign (.Subscript (.Name x p0) ei q0) X.env] := by rfl) :
    SOk X (.Assign [.Subscript (.Name x p0) ei q0] e pos) (expC (mutE i isL [f, fi] muSet)) := fun W t =>
  (ps_asg (he W t) (pg_sub (pe_var hN hv hd hcd) (hi W t) set_list ha) hs hw h1).imp fun D σ H h => by
    have h2 : EI X.K X.mg W (mutE i isL [f, fi] muSet) σ H (fun _ H1 => D.nx σ H1) := h.bind.mono fun x H1 ⟨F, T, as, L, v, st, c1, c2, r1, rv, p⟩ => p F as σ H1 c1 r1.r (r1.s.less fun b => Nat.le_add_right _ _) Pre.refl
    obtain ⟨a, es, _, q⟩ := h2.mut gmu_set
    refine q.two.mono fun y H1 q => ⟨_, es, q.mono fun z H2 ⟨v, i, e1, q⟩ => ?_⟩
    cases e1
    exact q
end

/-! ### while -/
def whileC (t : E) (f : C) : Nat → C
  | 0 => fun _ => .bad
  | n + 1 => fun st => match t st with
    | .ok (.bl true, st1, _) => (match f st1 with
      | .nx st2 => whileC t f n st2
      | .ct st2 => whileC t f n st2
      | .bk st2 => .nx st2
      | z => z)
    | .ok (.bl false, st1, _) => .nx st1
    | .ok _ => .bad
    | .exc cl s => .exc cl s
    | .bad => .bad
section
variable {X : Cx} {c : Expr} {body : List Stmt} {fc : E} {f : C} {pos : Pos}
theorem SOk.while_ (n : Nat) (hp : PassesOwn (model X.prog X.w) X.A X.env X.xe) (hc : TOk X c fc) (hb : SsOk X body f) : SOk X (.While c body [] pos) (whileC fc f n) := fun W t => (ps_while hp (hc W t) (hb W t)).imp fun D σ H h => by
  refine ⟨fun m σ H => SI X.K X.mg W (whileC fc f m) D σ H, ⟨n, h⟩, fun m σ H h => ?_⟩
  obtain ⟨F, T, as, L, st, c0, r, p⟩ := h
  refine ⟨F, T, as, L, st, c0, r, ?_⟩
  cases m with
  | zero => exact (show False from p).elim
  | succ m =>
    unfold whileC at p
    cases e1 : fc st with
    | bad => rw [e1] at p; exact p
    | exc cl s => rw [e1] at p; exact p
    | ok q =>
      obtain ⟨v, st1, f1⟩ := q
      rw [e1] at p
      intro F1 as1 H1 x c1 c2 r1 rv s1 p1 ef
      cases v with
      | bl b =>
        have z0 : ∀ b, c2 b = 0 := Rep.none0 rv rfl
        have s1' : Step F c0 H F1 c1 H1 := s1.less fun b => Nat.le_add_right _ _
        refine ⟨b, rv.inv_bl, ?_⟩
        cases b with
        | false =>
          rw [if_neg Bool.false_ne_true]
          exact p F1 as1 σ H1 c1 r1 s1' p1
        | true =>
          rw [if_pos rfl]
          refine ⟨fun σ' H' => ∃ m', m' < m + 1 ∧ SI X.K X.mg W (whileC fc f m') D σ' H', fun _ _ h => h, F1, T, as1, L, st1, c1, r1, ?_⟩
          simp only at p
          have pb := SPost.back p s1' p1
          cases e3 : f st1 with
          | bad => rw [e3] at pb; exact (show False from pb).elim
          | exc cl s => rw [e3] at pb; exact pb
          | rt v s => rw [e3] at pb; exact pb
          | bk s => rw [e3] at pb; exact pb
          | nx s => rw [e3] at pb; exact fun F2 as2 σ2 H2 c2 r2 s2 p2 => ⟨m, Nat.lt_succ_self _, F2, T, as2, L, s, c2, r2, SPost.back pb s2 p2⟩
          | ct s => rw [e3] at pb; exact fun F2 as2 σ2 H2 c2 r2 s2 p2 => ⟨m, Nat.lt_succ_self _, F2, T, as2, L, s, c2, r2, SPost.back pb s2 p2⟩
      | _ => exact (show False from p).elim
end

/-! ### name op= e, of whole numbers -/
def augE (g : List Vl → Option Vl) (i : Nat) (f : E) : E := opE g [varE i, f]
def gAddI : List Vl → Option Vl := i2c (fun _ _ => true) fun i j => .int (i + j)
section
variable {X : Cx} {x : Str} {e : Expr} {f : E} {i : Nat} {pos' pos : Pos} {op : Operator}
theorem SOk.aug {h : Int → Int → Int} (hN : X.N.Nodup) (hi : X.N[i]? = some x) (hx : Loc X.env.scope x) (he : EOk X e f) (ho : PIp X op (ipI h)) (hf : X.fn x = true ∨ X.env.scope.names.lookup x = some .local := by first | exact .inl rfl | exact .inr rfl | assumption) :
    SOk X (.AugAssign (.Name x pos') op e pos) (asgC (tgN i) (augE (i2c (fun _ _ => true) fun i j => .int (h i j)) i f)) := fun W t => (ps_aug hN hi hx (he W t) ho hf).imp fun D σ H hh => by
  have h1 := (SOk.asg_of hh)
  have h2 := (EI.op h1 gop_i2').two
  -- the name's value
  obtain ⟨F, T, as, L, st, c, r, p⟩ := h2
  unfold varE at p
  split at p
  · rename_i n e0
    split at p
    · rename_i w ew
      obtain ⟨y, c1, c2, e1, r1, n1, r2, k⟩ := r.slot e0
      obtain ⟨a, c3, ea, r3, _⟩ := r.cell ew
      cases r1 with
      | ref hh hc =>
        rw [hh] at ea
        cases ea
        have q := p F as H _ c (fun _ => 0) r r3.peek r.refl Pre.refl fun _ => ⟨Same.refl H, rfl, fun _ h => h⟩
        refine ⟨_, e1, q.mono fun z H2 ⟨x', y', ex, a', b', ea', eb', g⟩ => ?_⟩
        cases ex
        cases ea'
    · exact (show False from p).elim
  · rename_i v ne e0
    obtain ⟨y, c1, c2, e1, r1, n1, r2, k⟩ := r.slot e0
    have q := p F as H _ c (fun _ => 0) r r1.peek r.refl Pre.refl fun _ => ⟨Same.refl H, rfl, fun _ h => h⟩
    refine ⟨_, e1, q.mono fun z H2 ⟨x', y', ex, a', b', ea', eb', g⟩ => ?_⟩
    cases ex
    refine ⟨a', b', ea', eb', ?_⟩
    obtain ⟨F, T, as, L, st, v, c1, c2, fl, rv, st', e, q⟩ := g
    unfold tgN at e
    split at e
    · rename_i hc
      cases e
      simp only [Bool.and_eq_true, decide_eq_true_eq, Bool.not_eq_true'] at hc
      obtain ⟨c', r', k'⟩ := fl.store rv hc.1.1 hc.1.2 hc.2
      exact q _ c' r' k'
    · cases e
  · exact (show False from p).elim
end

/-! ### isinstance -/
def tyNm : Vl → Option String
  | .non => some "NoneType"
  | .bl _ => some "bool"
  | .int _ => some "int"
  | .str _ => some "str"
  | .tup _ => some "tuple"
  | .nd _ .lst _ => some "list"
  | .nd _ (.dK _) _ => some "dict"
  | .nd .own (.dT _) _ => some "dict"
  | _ => none
def isiB (a b : String) : Bool := a == b || (a == "bool" && b == "int") || b == "object"
def isiT : String → Bool := fun b => b == "int" || b == "bool" || b == "str" || b == "list" || b == "tuple" || b == "dict"
def gIsi : List Vl → Option Vl
  | [v, .sym (.ty b)] => if isiT b then (tyNm v).map fun a => .bl (isiB a b) else none
  | _ => none
theorem kit_tab : ∀ a ∈ ["NoneType", "bool", "int", "str", "tuple", "list", "dict"], ∀ b ∈ ["int", "bool", "str", "list", "tuple", "dict"], kitB a b = some (isiB a b) := by decide +kernel
theorem tyNm_mem {v : Vl} {a : String} (h : tyNm v = some a) : a ∈ ["NoneType", "bool", "int", "str", "tuple", "list", "dict"] := by
  unfold tyNm at h
  split at h <;> first | (cases h; decide) | cases h
theorem isiT_mem {b : String} (h : isiT b = true) : b ∈ ["int", "bool", "str", "list", "tuple", "dict"] := by
  unfold isiT at h
  simp only [Bool.or_eq_true, beq_iff_eq] at h
  rcases h with ((((h | h) | h) | h) | h) | h <;> (subst h; decide)
section
variable {K : PySem.W.Frag} {mg : Str → Option Value} {H : Hp} {F T : Addr → Prop} {as : List Addr}
theorem Rep.tyx {v : Vl} {x : V} {c : Addr → Nat} {a : String} (r : Rep K mg H F T as v x c) (h : tyNm v = some a) : TyX K H x (.type a) := by
  have tq : ∀ {b : Addr} {xs : List V}, SqT K H b xs → TyX K H (.ref b) (.type "tuple") := fun {b xs} q => by
    rcases q with (q | ⟨o, q⟩) | ⟨o, its, n, q, hc, _⟩
    · exact .base (.tup q)
    · exact .fTuple q
    · exact .kTuple q hc
  have lq : ∀ {b : Addr} {xs : List V}, SqL K H b xs → TyX K H (.ref b) (.type "list") := fun {b xs} q => by
    rcases q with (q | ⟨o, q⟩) | ⟨o, its, n, q, hc, _⟩
    · exact .base (.lst q)
    · exact .base (.frz q)
    · exact .kList q hc
  unfold tyNm at h
  split at h
  · cases h; cases r; exact .base .non
  · cases h; cases r; exact .base (.bl _)
  · cases h; cases r; exact .base (.int _)
  · cases h; cases r; exact .base (.str _)
  · cases h
    obtain ⟨b, xs, rfl, q, _⟩ := r.inv_tup
    exact tq q
  · cases h
    obtain ⟨b, xs, c', rfl, q, _⟩ := r.inv_lst
    exact lq q
  · cases h
    have dq : ∀ {a : Addr} {k : List Key} {xs : List V}, (∃ o, hoOf mg (.dK k) xs o ∧ L2.Rd H a o) → TyX K H (.ref a) (.type "dict") := fun {a k xs} ⟨o, ho, q⟩ => by
      obtain ⟨_, rfl⟩ := ho
      rcases q with q | ⟨u, q⟩
      · exact .base (.dK q)
      · exact .fDict q
    cases r with
    | own h ho r hc => obtain ⟨_, rfl⟩ := ho; exact .base (.dK h)
    | sh h r hc =>
      rcases h with ⟨_, h⟩ | ⟨h, _⟩
      · exact dq h
      · cases h
    | bw h r hc =>
      rcases h with ⟨_, h⟩ | ⟨h, _⟩
      · exact dq h
      · cases h
    | tr h r hc =>
      rcases h with h | ⟨h, _⟩
      · exact dq h
      · cases h
  · cases h
    cases r with
    | own h ho r hc => obtain ⟨_, rfl⟩ := ho; exact .base (.dT h)
  · cases h
theorem gop_isi : GOp K mg gIsi (rIsi K) := by
  intro H F T as vs xs c v Q r hl e fin
  unfold gIsi at e
  split at e
  · split at e
    · rename_i w b hb
      obtain ⟨a, e1, e2⟩ := Option.map_eq_some_iff.mp e
      subst e2
      obtain ⟨x, y, c1, c2, rfl, r1, r2, _⟩ := r.inv2
      cases r2 with
      | sym hs hc =>
        cases hs
        exact ⟨x, _, _, _, isiB a b, rfl, .ty b, r1.tyx e1, kit_ty (kit_tab a (tyNm_mem e1) b (isiT_mem hb)), fin.bl⟩
    · cases e
  · cases e
end
section
variable {X : Cx} {e e2 : Expr} {fs : List E} {p pos : Pos}
theorem EOk.ty {x : Str} {n : String} (hg : Gl X x) (hm : X.mg x = none) (hv : bootBuiltins x = some (.type n)) (hn : x ≠ "__name__" := by decide) (hd : (x == ("__debug__" : Str)) = false := by decide) : EOk X (.Name x pos) (cstE (.sym (.ty n))) :=
  .cst (pe_bltn (v := .ty n) hg hm hv rfl hn hd) fun _ _ _ _ => .sym rfl fun _ => rfl
theorem EOk.isi (hm : X.mg "isinstance" = none) (ha : AOk X [e, e2] fs) (hgl : Gl X "isinstance" := by rfl) (he : starEach [e, e2] X.env = (false, eval e X.env) :: starEach [e2] X.env := by rfl) (hpl : (backTo pos (starEach [e2] X.env)).any (·.1) = false := by rfl) : EOk X (.Call (.Name "isinstance" p) [e, e2] [] pos) (opE gIsi fs) :=
  .callB call_isi gop_isi hgl hm (by decide +kernel) ha (by decide) (by decide) he hpl
end

/-! ### a <= b <= c -/
def chainE (g1 g2 : Int → Int → Bool) (fa fb fc : E) : E := fun st => match evs [fa, fb] st with
  | .ok ([.int i, .int j], st1, e1) => if g1 i j then (match fc st1 with
      | .ok (.int k, st2, e2) => .ok (.bl (g2 j k), st2, e1 || e2)
      | .ok _ => .bad
      | .exc c s => .exc c s
      | .bad => .bad) else .ok (.bl false, st1, e1)
  | .ok _ => .bad
  | .exc c s => .exc c s
  | .bad => .bad
section
variable {K : PySem.W.Frag} {mg : Str → Option Value} {W : WX} {σ : L2.St} {H : Hp} {Q : VK}
theorem EI.chain {g1 g2 : Int → Int → Bool} {fa fb fc : E} (h : EI K mg W (chainE g1 g2 fa fb fc) σ H Q) : tChain (rI0 fun i j => .bl (g1 i j)) (rI0 fun i j => .bl (g2 i j)) (EI K mg W fa) (EI K mg W fb) (EI K mg W fc) σ H Q := by
  have h2 : AI K mg W [fa, fb] σ H fun xs H1 => ∃ i j, xs = [.int i, .int j] ∧ if g1 i j = true then EI K mg W fc σ H1 (fun z H2 => ∃ k, z = .int k ∧ Q (.bl (g2 j k)) H2) else Q (.bl false) H1 := by
    obtain ⟨F, T, as, L, st, c0, r0, p⟩ := h
    refine ⟨F, T, as, L, st, c0, r0, ?_⟩
    unfold chainE at p
    cases e1 : evs [fa, fb] st with
    | bad => rw [e1] at p; exact p
    | exc cl s => rw [e1] at p; exact p
    | ok q =>
      obtain ⟨vs, st1, f1⟩ := q
      rw [e1] at p
      intro F1 as1 H1 xs c1 c r1 rv s1 p1 ef
      split at p
      · rename_i i j st1' f1' eq
        cases eq
        obtain ⟨x, y, d1, d2, rfl, ra, rb, hcc⟩ := rv.inv2
        refine ⟨i, j, by rw [ra.inv_int, rb.inv_int], ?_⟩
        have s1' : Step F c0 H F1 c1 H1 := s1.less fun b => Nat.le_add_right _ _
        split at p
        · rename_i hg
          rw [if_pos hg]
          refine ⟨F1, T, as1, L, st1, c1, r1, ?_⟩
          cases e3 : fc st1 with
          | bad => rw [e3] at p; exact (show False from p).elim
          | exc cl s => rw [e3] at p; exact XPost.back p r1 (cv := fun _ => 0) (fun b q => absurd rfl q) s1' p1
          | ok q =>
            obtain ⟨w, st2, f2⟩ := q
            rw [e3] at p
            cases w with
            | int k =>
              intro F2 as2 H2 z c3 c4 r2 rz s2 p2 ef2
              refine ⟨k, rz.inv_int, p F2 as2 H2 _ c3 (fun _ => 0) r2 Rep.bl' ((s1'.trans s2).less fun b => by show c3 b + 0 ≤ c3 b + c4 b; omega) (p1.trans p2) fun q => ?_⟩
              have q' : (f1 || f2) = false := q
              have q1 : f1 = false := by cases f1 with | false => rfl | true => simp at q'
              have q2 : f2 = false := by cases f2 with | false => rfl | true => simp [q1] at q'
              exact ⟨(ef q1).1.trans (ef2 q2).1, (ef2 q2).2.1.trans (ef q1).2.1, fun b h => (ef q1).2.2 b ((ef2 q2).2.2 b h)⟩
            | _ => exact (show False from p).elim
        · rename_i hg
          rw [if_neg hg]
          exact p F1 as1 H1 _ c1 (fun _ => 0) r1 Rep.bl' s1' p1 ef
      · exact (show False from p).elim
      · rename_i eq; cases eq
      · rename_i eq; cases eq
  refine h2.two.mono fun x H1 h => h.mono fun y H2 ⟨i, j, e, q⟩ => ?_
  cases e
  refine ⟨i, j, rfl, rfl, g1 i j, rfl, ?_⟩
  by_cases hg : g1 i j = true
  · rw [if_pos hg] at q ⊢
    exact q.mono fun z H2 ⟨k, e, q⟩ => ⟨j, k, rfl, e, q⟩
  · rw [if_neg hg] at q ⊢
    exact q
end
section
variable {X : Cx} {a b c : Expr} {fa fb fc : E} {pos : Pos} {op op' : CmpOp} {g1 g2 : Int → Int → Bool}
theorem EOk.chain (ho : OpR X (compareOp op) (rI0 fun i j => .bl (g1 i j))) (ho' : OpR X (compareOp op') (rI0 fun i j => .bl (g2 i j))) (ha : EOk X a fa) (hb : EOk X b fb) (hc : EOk X c fc) (hm : lastMarks [op, op'] [b, c] = false := by with_unfolding_all rfl) :
    EOk X (.Compare a [op, op'] [b, c] pos) (chainE g1 g2 fa fb fc) := fun W t => (pe_chain ho ho' (ha W t) (hb W t) (hc W t) hm).imp fun σ H Q h => h.chain
theorem TOk.chain (ho : OpR X (compareOp op) (rI0 fun i j => .bl (g1 i j))) (ho' : OpR X (compareOp op') (rI0 fun i j => .bl (g2 i j))) (ha : EOk X a fa) (hb : EOk X b fb) (hc : EOk X c fc) (hm : lastMarks [op, op'] [b, c] = false := by with_unfolding_all rfl) :
    TOk X (.Compare a [op, op'] [b, c] pos) (chainE g1 g2 fa fb fc) := fun W t => (pt_chain ho ho' (ha W t) (hb W t) (hc W t) hm).imp fun σ H Q h => EI.chain h
end
end PyI

namespace PyI
open PySem PySem.Spec PyProof.Rows L2

/-! ### a def that stands, with its promise -/
def HasF (P : Program) (w : World) (K : PySem.W.Frag) (mg : Str → Option Value) (base : Heap) (x : Str) (k : Nat) (ps : List Str) (Fn : List Vl → RF) : Prop :=
  ∃ f fd, mg x = some (.ref f) ∧ PySem.W.keepIn K (.ref f) = true ∧ Binds K fd ps [] ∧ FnOk P w K mg base (L2.CX P w) k f fd ps (spP K mg ps.length Fn)
/-- the def itself, as it stands behind the top -/
def DefAt (K : PySem.W.Frag) (mg : Str → Option Value) (x : Str) (st : Stmt) : Prop := ∃ f fd, L2.Fun K x x st f fd ∧ mg x = some (.ref f)
theorem defAt {K : PySem.W.Frag} {mg : Str → Option Value} {h : Heap} {x : Str} {st : Stmt} {f : Addr} {oc : Value} {od an : Option Addr} {osl : Array (Option Value)} {kV doc pm cdv ct : Value} (X : K.In h) (G : h.Ns mainGlobals mg)
    (a : PySem.W.nsIn K mainGlobals x = some (some (.ref f))) (l : K.lookup f = some ⟨oc, od, .func (PySem.W.fnOf x x (defArgs st) (defBody st) (defScope st) .none kV doc pm an cdv ct), osl⟩) (c : PySem.W.codeIn K cdv x = true) (k : PySem.W.keepIn K (.ref f) = true) : DefAt K mg x st :=
  ⟨f, _, fun_mk l c k, PySem.W.mg_of X G a⟩
section
variable {P : Program} {w : World} {K : PySem.W.Frag} {mg : Str → Option Value} {base : Heap}
theorem hasF {x : Str} {st : Stmt} {N ps : List Str} {k : Nat} {body : C} (d : DefAt K mg x st) (S : FnScope N ps (defScope st)) (hb : ∀ f, BodyOk P w K mg base k N x st f body)
    (bind : ∀ (kV doc pm : Value) (an : Option Addr) (cdv ct : Value) (us : List Value), us.length = ps.length → bindArgs (PySem.W.fnOf x x (defArgs st) (defBody st) (defScope st) .none kV doc pm an cdv ct) ⟨us, []⟩ = pure (ps.zip us)) :
    HasF P w K mg base x (k + 1) ps (runF N.length body) := by
  obtain ⟨f, fd, F, m⟩ := d
  exact ⟨f, fd, m, F.kp, F.binds bind, Fun.okP F S (hb f)⟩
theorem HasF.eqF {x : Str} {k : Nat} {ps : List Str} {F G : List Vl → RF} (h : HasF P w K mg base x k ps F) (e : F = G) : HasF P w K mg base x k ps G := e ▸ h
end
section
variable {X : Cx} {k : Nat} {ps : List Str} {Fn : List Vl → RF} {x : Str} {p pos : Pos} {e : Expr} {es : List Expr} {fs : List E}
theorem EOk.callH (G : HasF X.prog X.w X.K X.mg X.base x k ps Fn) (hr : Room k X.A) (ha : AOk X (e :: es) fs) (hg : Gl X x := by rfl) (hdb : (x == ("__debug__" : Str)) = false := by decide) (he : starEach (e :: es) X.env = (false, eval e X.env) :: starEach es X.env := by rfl) (hpl : (backTo pos (starEach es X.env)).any (·.1) = false := by rfl) :
    EOk X (.Call (.Name x p) (e :: es) [] pos) (callE ps.length Fn fs []) := by
  obtain ⟨f, fd, m, kp, b, G⟩ := G
  exact EOk.call G hr hg m kp b ha hdb he hpl
end
/-! ### short forms -/
section
variable {X : Cx}
theorem vr (i : Nat) {x : Str} {pos : Pos} (hN : X.N[i]? = some x := by rfl) (hv : Vis X.env.scope x := by first | exact Or.inl rfl | exact Or.inr (Or.inl rfl) | exact Or.inr (Or.inr rfl)) (hd : (x == ("__debug__" : Str)) = false := by decide) (hcd : (x == ("__classdict__" : Str)) = false := by decide) : EOk X (.Name x pos) (varE i) := .var hN hv hd hcd
theorem rw_ (i : Nat) {x : Str} {pos : Pos} (hN : X.N[i]? = some x := by rfl) (hv : Vis X.env.scope x := by first | exact Or.inl rfl | exact Or.inr (Or.inl rfl) | exact Or.inr (Or.inr rfl)) (hd : (x == ("__debug__" : Str)) = false := by decide) (hcd : (x == ("__classdict__" : Str)) = false := by decide) : EOk X (.Name x pos) (rawE i) := .raw hN hv hd hcd
theorem tk (i : Nat) {x : Str} {pos : Pos} (hN : X.N[i]? = some x := by rfl) (hv : Vis X.env.scope x := by first | exact Or.inl rfl | exact Or.inr (Or.inl rfl) | exact Or.inr (Or.inr rfl)) (hd : (x == ("__debug__" : Str)) = false := by decide) (hcd : (x == ("__classdict__" : Str)) = false := by decide) : EOk X (.Name x pos) (takE i) := .tak hN hv hd hcd
theorem fz (i : Nat) {x : Str} {pos : Pos} (hN : X.N[i]? = some x := by rfl) (hv : Vis X.env.scope x := by first | exact Or.inl rfl | exact Or.inr (Or.inl rfl) | exact Or.inr (Or.inr rfl)) (hd : (x == ("__debug__" : Str)) = false := by decide) (hcd : (x == ("__classdict__" : Str)) = false := by decide) : EOk X (.Name x pos) (frzE i) := .frz hN hv hd hcd
/-- a target -/
theorem tn (i : Nat) {x : Str} {pos : Pos} (hN : X.N.Nodup) (hi : X.N[i]? = some x := by rfl) (hx : Loc X.env.scope x := by first | exact Or.inl rfl | exact Or.inr rfl) (hf : X.fn x = true ∨ X.env.scope.names.lookup x = some .local := by first | exact .inl rfl | exact .inr rfl) : GOk X (.Name x pos) (tgN i) := .name hN hi hx hf
theorem gn (i : Nat) {vs : List Nat} {x : Str} {pos : Pos} (hN : X.N.Nodup) (hi : X.N[i]? = some x := by rfl) (hx : Loc X.env.scope x := by first | exact Or.inl rfl | exact Or.inr rfl) (hm : i ∈ vs := by decide) (hf : X.fn x = true ∨ X.env.scope.names.lookup x = some .local := by first | exact .inl rfl | exact .inr rfl) : GVOk X vs (.Name x pos) (tgN i) := .name hN hi hx hm hf
theorem st_ (i : Nat) {x : Str} {pos pos' : Pos} {e : Expr} {f : E} (hN : X.N.Nodup) (h : EOk X e f) (hi : X.N[i]? = some x := by rfl) (hx : Loc X.env.scope x := by first | exact Or.inl rfl | exact Or.inr rfl) (hs : swapsWith e (some (.Name x pos')) pos.line X.env = pure false := by rfl) (hf : X.fn x = true ∨ X.env.scope.names.lookup x = some .local := by first | exact .inl rfl | exact .inr rfl) : SOk X (.Assign [.Name x pos'] e pos) (asgC (tgN i) f) := .set hN hi hx h hs hf
theorem ag_ (i : Nat) {x : Str} {pos pos' : Pos} {e : Expr} {f : E} {op : Operator} {h : Int → Int → Int} (hN : X.N.Nodup) (he : EOk X e f) (ho : PIp X op (ipI h)) (hi : X.N[i]? = some x := by rfl) (hx : Loc X.env.scope x := by first | exact Or.inl rfl | exact Or.inr rfl) (hf : X.fn x = true ∨ X.env.scope.names.lookup x = some .local := by first | exact .inl rfl | exact .inr rfl) :
    SOk X (.AugAssign (.Name x pos') op e pos) (asgC (tgN i) (augE (i2c (fun _ _ => true) fun i j => .int (h i j)) i f)) := .aug hN hi hx he ho hf
end
end PyI

namespace PyI
open PySem PySem.Spec PyProof.Rows L2

/-! ### a place within a slot's own list -/
def getP : List Nat → Vl → Option (Kd × List Vl)
  | [], v => (match v with
    | .nd .own k xs => some (k, xs)
    | _ => none)
  | j :: p, v => (match v with
    | .nd .own .lst xs => (xs[j]?).bind (getP p)
    | _ => none)
def putP : List Nat → Vl → Kd → List Vl → Vl
  | [], _, k, ys => .nd .own k ys
  | j :: p, v, k, ys => (match v with
    | .nd .own .lst xs => .nd .own .lst (match xs[j]? with
      | some v => xs.set j (putP p v k ys)
      | none => xs)
    | v => v)
/-- the way down -/
def VP (H : Hp) : List Nat → V → V → Prop
  | [], x, y => x = y
  | j :: p, x, y => ∃ a xs z, x = .ref a ∧ H a = some (.lst xs) ∧ xs[j]? = some z ∧ VP H p z y
theorem VP.same {H H' : Hp} (s : Same H H') : ∀ {p : List Nat} {x y : V}, VP H p x y → VP H' p x y
  | [], _, _, h => h
  | _ :: _, _, _, ⟨a, xs, z, e, h, g, k⟩ => ⟨a, xs, z, e, s _ _ h, g, k.same s⟩
theorem VP.det {H : Hp} : ∀ {p : List Nat} {x y z : V}, VP H p x y → VP H p x z → y = z
  | [], _, _, _, h, g => h.symm.trans g
  | _ :: _, _, _, _, ⟨a, xs, z, e, h, g, k⟩, ⟨a', xs', z', e', h', g', k'⟩ => by
    rw [e] at e'
    cases e'
    rw [h] at h'
    cases h'
    rw [g] at g'
    cases g'
    exact k.det k'
theorem VP.snoc {H : Hp} : ∀ {p : List Nat} {x z : V} {a : Addr} {xs : List V} {j : Nat}, VP H p x (.ref a) → H a = some (.lst xs) → xs[j]? = some z → VP H (p ++ [j]) x z
  | [], _, _, _, _, _, h, e, g => ⟨_, _, _, h, e, g, rfl⟩
  | _ :: _, _, _, _, _, _, ⟨a, xs, z, e, h, g, k⟩, e2, g2 => ⟨a, xs, z, e, h, g, k.snoc e2 g2⟩
section
variable {K : PySem.W.Frag} {mg : Str → Option Value} {H : Hp} {F T : Addr → Prop} {as : List Addr}
theorem Reps.split : ∀ {vs : List Vl} {xs : List V} {c : Addr → Nat} {j : Nat} {v : Vl}, Reps K mg H F T as vs xs c → noTrs vs = true → vs[j]? = some v → ∃ (x : V) (c1 c2 : Addr → Nat), xs[j]? = some x ∧ Rep K mg H F T as v x c1 ∧ noTr v = true ∧ (∀ b, c b = c1 b + c2 b) ∧
    ∀ (H' : Hp) (w : Vl) (cw : Addr → Nat), (∀ d : Addr → Nat, (∀ b, d b ≤ c2 b) → Stay H H' F T d) → Rep K mg H' F T as w x cw → noTr w = true → Reps K mg H' F T as (vs.set j w) xs (fun b => cw b + c2 b) ∧ noTrs (vs.set j w) = true
  | _, _, _, _, _, .nil hc, _, e => by simp at e
  | _, _, _, 0, _, .cons (c2 := c2) r s hc, nt, e => by
    simp at e
    subst e
    unfold noTrs at nt
    simp only [Bool.and_eq_true] at nt
    refine ⟨_, _, _, rfl, r, nt.1, hc, fun H' w cw st rw nw => ⟨.cons rw (s.stay nt.2 (st _ fun b => Nat.le_refl _) (fun _ h => h) (fun _ h => h) Pre.refl) fun _ => rfl, ?_⟩⟩
    show noTrs (w :: _) = true
    unfold noTrs
    rw [nw, nt.2]; rfl
  | _, _, c, j + 1, _, .cons (v := v0) (vs := vs) (c1 := c0) r s hc, nt, e => by
    unfold noTrs at nt
    simp only [Bool.and_eq_true] at nt
    obtain ⟨x, c1, c2, e1, r1, n1, h1, up⟩ := s.split (j := j) nt.2 (by simpa using e)
    refine ⟨x, c1, fun b => c0 b + c2 b, by simpa using e1, r1, n1, fun b => by show c b = c1 b + (c0 b + c2 b); rw [hc, h1]; omega, fun H' w cw st rw nw => ?_⟩
    obtain ⟨t1, t2⟩ := up H' w cw (fun d hd => st d fun b => Nat.le_trans (hd b) (Nat.le_add_left _ _)) rw nw
    refine ⟨.cons (r.stay nt.1 (st _ fun b => Nat.le_add_right _ _) (fun _ h => h) (fun _ h => h) Pre.refl) t1 fun b => by show cw b + (c0 b + c2 b) = c0 b + (cw b + c2 b); omega, ?_⟩
    show noTrs (v0 :: vs.set j w) = true
    unfold noTrs
    rw [nt.1, t2]; rfl
theorem Rep.path : ∀ {p : List Nat} {v : Vl} {x : V} {c : Addr → Nat} {k : Kd} {xs : List Vl}, Rep K mg H F T as v x c → noTr v = true → (∀ b, c b ≤ 1) → getP p v = some (k, xs) → ∃ a o xsV cx, VP H p x (.ref a) ∧ H a = some o ∧ hoOf mg k xsV o ∧ Reps K mg H F T as xs xsV cx ∧ noTrs xs = true ∧ (∀ b, cx b + oneD a b ≤ c b) ∧
    ∀ (H' : Hp) (k' : Kd) (ys : List Vl) (ysV : List V) (cy : Addr → Nat) (o' : HO), (∀ d : Addr → Nat, (∀ b, d b + oneD a b ≤ c b) → Stay H H' F T d) → H' a = some o' → hoOf mg k' ysV o' → Reps K mg H' F T as ys ysV cy → noTrs ys = true →
      ∃ c', Rep K mg H' F T as (putP p v k' ys) x c' ∧ noTr (putP p v k' ys) = true ∧ ∀ b, c' b + cx b = c b + cy b
  | [], v, x, c, k, xs, r, nt, hl, e => by
    unfold getP at e
    split at e
    · cases e
      cases r with
      | own h ho rr hc =>
        rename_i a o xsV cx
        have ntx : noTrs xs = true := by unfold noTr at nt; simp only [Bool.and_eq_true] at nt; exact nt.2
        refine ⟨a, o, xsV, cx, rfl, h, ho, rr, ntx, fun b => by rw [hc]; simp only [oneD]; omega, fun H' k' ys ysV cy o' st ha ho' ry nty => ⟨fun b => oneD a b + cy b, ?_, ?_, fun b => ?_⟩⟩
        · exact .own ha ho' ry fun b => rfl
        · show noTr (.nd .own k' ys) = true
          unfold noTr; simp only [Bool.and_eq_true]; exact ⟨by decide, nty⟩
        · show oneD a b + cy b + cx b = c b + cy b
          rw [hc]; simp only [oneD]; omega
    · cases e
  | j :: p, v, x, c, k, xs, r, nt, hl, e => by
    unfold getP at e
    split at e
    · rename_i ws
      obtain ⟨w, e1, e2⟩ := Option.bind_eq_some_iff.mp e
      cases r with
      | own h ho rr hc =>
        rename_i a0 o0 wsV c0
        cases ho
        have ntw : noTrs ws = true := by unfold noTr at nt; simp only [Bool.and_eq_true] at nt; exact nt.2
        obtain ⟨z, c1, c2, ez, rz, nz, hcc, up⟩ := rr.split ntw e1
        obtain ⟨a, o, xsV, cx, vp, ha, ho2, rx, ntx, kx, reb⟩ := rz.path nz (fun b => by have := hl b; have := hc b; have := hcc b; omega) e2
        refine ⟨a, o, xsV, cx, ⟨a0, _, z, rfl, h, ez, vp⟩, ha, ho2, rx, ntx, fun b => by have := kx b; rw [hc, hcc]; omega, fun H' k' ys ysV cy o' st ha' ho' ry nty => ?_⟩
        obtain ⟨c', r', n', k3⟩ := reb H' k' ys ysV cy o' (fun d hd => st d fun b => by have := hd b; rw [hc, hcc]; omega) ha' ho' ry nty
        obtain ⟨t1, t2⟩ := up H' _ c' (fun d hd => st d fun b => by have := hd b; have := kx b; rw [hc, hcc]; omega) r' n'
        have ha0 : H' a0 = some (.lst wsV) := st (oneD a0) (fun b => by have := kx b; rw [hc, hcc]; simp only [oneD] at this ⊢; omega) a0 _ h (.inr (.inr (.inl (by simp [oneD]))))
        have ep : putP (j :: p) (.nd .own .lst ws) k' ys = .nd .own .lst (ws.set j (putP p w k' ys)) := by
          show Vl.nd .own .lst (match ws[j]? with | some v => ws.set j (putP p v k' ys) | none => ws) = _
          rw [e1]
        rw [ep]
        refine ⟨fun b => oneD a0 b + (c' b + c2 b), .own ha0 rfl t1 fun b => rfl, ?_, fun b => ?_⟩
        · unfold noTr; simp only [Bool.and_eq_true]; exact ⟨by decide, t2⟩
        · show oneD a0 b + (c' b + c2 b) + cx b = c b + cy b
          have := k3 b; rw [hc, hcc]; simp only [oneD]; omega
    · cases e
variable {L : List (Nat × V)} {st : Sta} {σ : L2.St} {c1 : Addr → Nat}
theorem Rel.place {i : Nat} {p : List Nat} {v : Vl} {k : Kd} {xs : List Vl} (r : Rel K mg F T as L st σ H c1) (es : st.sl[i]? = some (some v)) (e : getP p v = some (k, xs)) : ∃ x a o xsV cx, σ[i]? = some (some x) ∧ VP H p x (.ref a) ∧ H a = some o ∧ hoOf mg k xsV o ∧ Reps K mg H F T as xs xsV cx ∧ noTrs xs = true ∧ (∀ b, cx b + oneD a b ≤ c1 b) ∧
    ∀ (c9 : Addr → Nat) (k' : Kd) (ys : List Vl) (ysV : List V) (cy : Addr → Nat) (o' : HO), (∀ b, c1 b + c9 b ≤ 1) → (∀ b, F b ∨ T b → c9 b = 0) → (∀ b, cy b ≤ cx b + c9 b) → Reps K mg H F T as ys ysV cy → noTrs ys = true → hoOf mg k' ysV o' →
      ∃ c', Rel K mg F T as L { st with sl := st.sl.set i (some (putP p v k' ys)) } σ (upd H a o') c' ∧ ∀ b, c' b + cx b = c1 b + cy b := by
  obtain ⟨x, d1, d2, e1, rv, nt, r2, hc⟩ := r.slot es
  have hd1 : ∀ b, d1 b ≤ 1 := fun b => by have := r.le b; have := hc b; omega
  obtain ⟨a, o, xsV, cx, vp, h, ho, rr, ntx, kx, reb⟩ := rv.path nt hd1 e
  refine ⟨x, a, o, xsV, cx, e1, vp, h, ho, rr, ntx, fun b => by rw [hc]; have := kx b; omega, fun c9 k' ys ysV cy o' le hF hy ry nty ho' => ?_⟩
  have hm : MutO (H a) := by rw [h]; exact hoOf_mut ho
  have oa : oneD a a = 1 := if_pos rfl
  have da : d1 a ≥ 1 := by have := kx a; omega
  have nd : ∀ (d : Addr → Nat), (∀ b, d b + oneD a b ≤ c9 b + d2 b + d1 b) → ∀ b, F b ∨ T b ∨ d b ≠ 0 → b ≠ a := fun d hd b q eb => by
    subst eb
    have h1 := hd b
    rcases q with q | q | q
    · have := (r.fr b (.inl q)).1; have := hc b; omega
    · have := (r.fr b (.inr q)).1; have := hc b; omega
    · have := le b; have := hc b; omega
  have hi : i < st.sl.length := (List.getElem?_eq_some_iff.mp es).1
  have r3 := r2.wr (o := o') (nd d2 fun b => by have := kx b; omega) hm
  have ry3 := ry.stay nty (stay_wr (o := o') (nd cy fun b => by have := hy b; have := kx b; omega) hm) (fun _ h => h) (fun _ h => h) Pre.refl
  obtain ⟨c', r', n', k3⟩ := reb (upd H a o') k' ys ysV cy o' (fun d hd => stay_wr (nd d fun b => by have := hd b; omega) hm) upd_same ho' ry3 nty
  have hle : ∀ b, c' b + d2 b ≤ 1 := fun b => by
    have h1 := hy b; have h2 := le b; have h3 := hc b; have h4 := k3 b; have h5 := kx b
    omega
  have r4 := r3.fill hi e1 r' n' hle fun b q => by
    have h1 := (r.fr b q).1
    have h2 := hc b; have h4 := hy b; have h5 := hF b q; have h6 := k3 b; have := kx b
    omega
  refine ⟨fun b => c' b + d2 b, r4, fun b => ?_⟩
  show c' b + d2 b + cx b = c1 b + cy b
  have := k3 b; have := hc b; omega
end

/-! ### the place that an expression names -/
abbrev Pl := Sta → Option (Nat × List Nat)
def plN (i : Nat) : Pl := fun st => match st.sl[i]? with
  | some (some (.nd .own .lst _)) => some (i, [])
  | _ => none
def plI (l : Pl) (f : E) : Pl := fun st => match l st with
  | some (i, p) => (match st.sl[i]? with
    | some (some v) => (match getP p v with
      | some (.lst, xs) => (match f st with
        | .ok (.int j, _, false) => (ixN xs.length j).bind fun n => match xs[n]? with
          | some (.nd .own .lst _) => some (i, p ++ [n])
          | _ => none
        | _ => none)
      | _ => none)
    | _ => none)
  | none => none
def PlI (K : PySem.W.Frag) (mg : Str → Option Value) (W : WX) (l : Pl) : TE := fun σ H Q => ∃ F T as L st c, Rel K mg F T as L st σ H c ∧ ∃ i p v x k xs, l st = some (i, p) ∧ st.sl[i]? = some (some v) ∧ σ[i]? = some (some x) ∧ getP p v = some (k, xs) ∧ ∀ H' y, Same H H' → VP H' p x y → Q y H'
def PlOk (X : Cx) (e : Expr) (l : Pl) : Prop := ∀ W, Takes X W → PE X e (PlI X.K X.mg W l)
theorem getP_snoc : ∀ {p : List Nat} {v w : Vl} {xs : List Vl} {n : Nat}, getP p v = some (.lst, xs) → xs[n]? = some w → getP (p ++ [n]) v = getP [] w
  | [], v, w, xs, n, h, e => by
    unfold getP at h
    split at h
    · cases h
      show (xs[n]?).bind (getP []) = _
      rw [e]; rfl
    · cases h
  | j :: p, v, w, xs, n, h, e => by
    unfold getP at h
    split at h
    · rename_i ws
      obtain ⟨u, e1, e2⟩ := Option.bind_eq_some_iff.mp h
      show (ws[j]?).bind (getP (p ++ [n])) = _
      rw [e1]
      exact getP_snoc e2 e
    · cases h
theorem ixN_lt {n : Nat} {i : Int} {j : Nat} (h : ixN n i = some j) : j < n := by
  unfold ixN at h
  split at h
  · split at h
    · cases h; omega
    · cases h
  · split at h
    · cases h; omega
    · cases h
section
variable {X : Cx} {x : Str} {pos p0 : Pos} {i : Nat} {a b : Expr} {l : Pl} {f : E}
theorem PlOk.name (hN : X.N[i]? = some x := by rfl) (hv : Vis X.env.scope x := by first | exact Or.inl rfl | exact Or.inr (Or.inl rfl) | exact Or.inr (Or.inr rfl)) (hd : (x == ("__debug__" : Str)) = false := by decide) (hcd : (x == ("__classdict__" : Str)) = false := by decide) : PlOk X (.Name x pos) (plN i) := fun W t => (pe_var hN hv hd hcd).imp fun σ H Q h => by
  obtain ⟨F, T, as, L, st, c, r, i', p, v, x, k, xs, e1, e2, e3, e4, q⟩ := h
  unfold plN at e1
  split at e1
  · cases e1
    exact ⟨x, e3, q H x (Same.refl H) rfl⟩
  · cases e1
theorem PlOk.ix (ha : PlOk X a l) (hb : EOk X b f) (hs : PlainIx b := by exact fun _ _ => rfl) : PlOk X (.Subscript a b pos) (plI l f) := fun W t => (pe_ix ix_list (ha W t) (hb W t) hs).imp fun σ H Q h => by
  obtain ⟨F, T, as, L, st, c, r, i', p, v, x, k, xs, e1, e2, e3, e4, q⟩ := h
  unfold plI at e1
  cases el : l st with
  | none => rw [el] at e1; cases e1
  | some ip =>
    obtain ⟨i0, p1⟩ := ip
    rw [el] at e1
    simp only at e1
    cases ev : st.sl[i0]? with
    | none => rw [ev] at e1; cases e1
    | some ov =>
      cases ov with
      | none => rw [ev] at e1; cases e1
      | some w =>
        rw [ev] at e1
        simp only at e1
        split at e1
        · rename_i ys eg
          split at e1
          · rename_i j s0 ef
            obtain ⟨n, en, e1⟩ := Option.bind_eq_some_iff.mp e1
            split at e1
            · rename_i zs ez
              injection e1 with e1
              injection e1 with ei ep
              subst ei ep
              rw [ev] at e2
              cases e2
              refine ⟨F, T, as, L, st, c, r, i0, p1, _, x, _, ys, el, ev, e3, eg, fun H1 y sm vp => ?_⟩
              have r1 := r.same sm
              obtain ⟨x', a, o, xsV, cx, ex, vp', ha, ho, rx, _, _, _⟩ := r1.place ev eg
              rw [e3] at ex
              cases ex
              cases vp.det vp'
              cases ho
              refine ⟨F, T, as, L, st, c, r1, ?_⟩
              rw [ef]
              intro F2 as2 H2 z c2 c3 r2 rv s2 p2 ef2
              obtain ⟨sm2, _, _⟩ := ef2 rfl
              obtain ⟨y', cy, ey, _, _⟩ := rx.at ez
              refine ⟨a, xsV, j, y', rfl, rv.inv_int, SqL.of (sm2 _ _ ha), ?_, q H2 y' (sm.trans sm2) ?_⟩
              · unfold atI
                rw [← rx.length, en]
                exact ey
              · exact (vp.same sm2).snoc (sm2 _ _ ha) ey
            · cases e1
          · cases e1
        · cases e1
end
/-- a change at a place, what is handed in only looked at -/
def mutPE (l : Pl) (p : Kd → Bool) (fs : List E) (g : Mu) : E := fun st => match l st with
  | some (i, pt) => (match st.sl[i]? with
    | some (some v) => (match getP pt v with
      | some (k0, xs) => if p k0 then (match evs fs st with
        | .ok (vs, _, false) => (match g vs k0 xs with
          | some (res, k', ys) => if stors ys && noTr res then .ok (res, { st with sl := st.sl.set i (some (putP pt v k' ys)) }, true) else .bad
          | none => .bad)
        | _ => .bad) else .bad
      | none => .bad)
    | _ => .bad)
  | none => .bad
theorem EI.mutP {K : PySem.W.Frag} {mg : Str → Option Value} {W : WX} {l : Pl} {p : Kd → Bool} {fs : List E} {g : Mu} {r : V → List V → Hp → VK → Prop} {σ : L2.St} {H : Hp} {Q : VK} (h : EI K mg W (mutPE l p fs g) σ H Q) (hg : GMu K mg g r) :
    PlI K mg W l σ H fun y H1 => (∃ a k xsV o, y = .ref a ∧ p k = true ∧ H1 a = some o ∧ hoOf mg k xsV o) ∧ AI K mg W fs σ H1 fun xs H2 => r y xs H2 Q := by
  obtain ⟨F0, T, as0, L, st, c0, r0, q⟩ := h
  unfold mutPE at q
  split at q
  · rename_i i pt el
    split at q
    · rename_i v es
      split at q
      · rename_i k0 ws eg
        split at q
        · rename_i hp
          obtain ⟨x, a, o, xsV, cx, ex, vp, ha, ho, rx, ntx, kx, up⟩ := r0.place es eg
          refine ⟨F0, T, as0, L, st, c0, r0, i, pt, v, x, k0, ws, el, es, ex, eg, fun H1 y sm vpy => ?_⟩
          cases (vp.same sm).det vpy
          refine ⟨⟨a, k0, xsV, o, rfl, hp, sm _ _ ha, ho⟩, F0, T, as0, L, st, c0, r0.same sm, ?_⟩
          split at q
          · rename_i vs s' e1
            rw [e1]
            intro F1 as1 H2 xs c1 ca r1 rv s1 p1 ef
            obtain ⟨sm2, es2, _⟩ := ef rfl
            subst es2
            split at q
            · rename_i res k' ys e3
              split at q
              · rename_i hc
                simp only [Bool.and_eq_true] at hc
                obtain ⟨x2, a2, o2, wsV, cx2, ex2, vp2, ha2, ho2, rw2, nw, kx2, up2⟩ := r1.place es eg
                rw [ex] at ex2
                cases ex2
                cases (vp.same (sm.trans sm2)).det vp2
                have tz : ∀ b, T b → c1 b + ca b = 0 := fun b z => by
                  have h0 := (r0.same sm).fr b (.inr z)
                  by_cases y : c1 b + ca b = 0
                  · exact y
                  · rcases s1.grow b y with w | w
                    · exact absurd h0.1 w
                    · exact absurd w h0.2
                refine hg H2 F1 T as1 vs xs ca k0 ws wsV cx2 a o2 res k' ys Q rv rw2 ha2 ho2 e3 fun ysV cy x cr o' ry rr ho' hle => ?_
                have le1 : ∀ b, c1 b + ca b ≤ 1 := s1.le
                have dis1 : ∀ b, F1 b → c1 b + ca b = 0 := s1.dis
                obtain ⟨c', r', hc'⟩ := up2 ca k' ys ysV cy o' le1 (fun b z => by
                  rcases z with z | z
                  · have := dis1 b z; omega
                  · have := tz b z; omega) (fun b => by have := hle b; omega) ry (noTrs_of_stors hc.1) ho'
                have hm : MutO (H2 a) := by rw [ha2]; exact hoOf_mut ho2
                have nda : ∀ (d : Addr → Nat), (∀ b, d b ≤ cx2 b + ca b) → ∀ b, F1 b ∨ T b ∨ d b ≠ 0 → b ≠ a := fun d hd b z eb => by
                  subst eb
                  have k1 := kx2 b
                  have oa : oneD b b = 1 := if_pos rfl
                  rcases z with z | z | z
                  · have := dis1 b z; omega
                  · have := tz b z; omega
                  · have := hd b; have := le1 b; omega
                have rr' := rr.stay hc.2 (stay_wr (o := o') (nda cr fun b => by have := hle b; omega) hm) (fun _ h => h) (fun _ h => h) Pre.refl
                have sm0 : ∀ b, H1 b = none → H b = none := fun b w => by
                  cases u : H b with
                  | none => rfl
                  | some o => rw [sm _ _ u] at w; cases w
                have s1 : Step F0 c0 H F1 (fun b => c1 b + ca b) H2 := ⟨fun b o e z => s1.keep b o (sm _ _ e) z, fun b z => (s1.grow b z).imp id (sm0 b), s1.le, s1.sub, s1.dis, fun b z => (s1.fgr b z).imp id fun w => w.imp id (sm0 b), fun b z => s1.trk b (PyI.Same.trk sm b z)⟩
                refine q F1 as1 (upd H2 a o') x c' cr r' rr' ⟨fun b u e z => ?_, fun b z => s1.grow b ?_, fun b => ?_, s1.sub, fun b z => ?_, s1.fgr, fun b z => ?_⟩ p1 fun z => nomatch z
                · have e2' := s1.keep b u e z
                  rw [upd_ne ?_]
                  · exact e2'
                  · rintro rfl
                    have k1 := kx2 b
                    have oa : oneD b b = 1 := if_pos rfl
                    rcases s1.grow b (by show c1 b + ca b ≠ 0; omega) with w | w
                    · exact w z
                    · rw [e] at w; cases w
                · have z' : c' b + cr b ≠ 0 := z
                  have := hc' b; have := hle b; have := kx2 b
                  show c1 b + ca b ≠ 0
                  omega
                · show c' b + cr b ≤ 1
                  have := hc' b; have := hle b; have := kx2 b; have := le1 b
                  omega
                · show c' b + cr b = 0
                  have := hc' b; have := hle b; have := kx2 b; have := dis1 b z
                  omega
                · by_cases y : b = a
                  · rw [y, upd_same]; exact fun w => nomatch w
                  · rw [upd_ne y]; exact s1.trk b z
              · exact (show False from q).elim
            · exact (show False from q).elim
          · exact (show False from q).elim
        · exact (show False from q).elim
      · exact (show False from q).elim
    · exact (show False from q).elim
  · exact (show False from q).elim
theorem PlI.mono {K : PySem.W.Frag} {mg : Str → Option Value} {W : WX} {l : Pl} {σ : L2.St} {H : Hp} {Q Q' : VK} (h : PlI K mg W l σ H Q) (i : ∀ y H', Q y H' → Q' y H') : PlI K mg W l σ H Q' := by
  obtain ⟨F, T, as, L, st, c, r, i', p, v, x, k, xs, e1, e2, e3, e4, q⟩ := h
  exact ⟨F, T, as, L, st, c, r, i', p, v, x, k, xs, e1, e2, e3, e4, fun H' y s vp => i _ _ (q H' y s vp)⟩
section
variable {X : Cx} {m : Str} {p0 apos cpos pos : Pos} {o e : Expr} {es : List Expr} {fs : List E} {l : Pl} {f fi : E} {g : Mu} {id : String}
theorem tyLP {K : PySem.W.Frag} {mg : Str → Option Value} {H : Hp} {y : V} (h : ∃ a k xsV o, y = .ref a ∧ isL k = true ∧ H a = some o ∧ hoOf mg k xsV o) : tyV K "list" y H := by
  obtain ⟨a, k, xsV, o, rfl, hk, ha, ho⟩ := h
  exact tyL ⟨k, xsV, o, hk, ha, ho⟩
/-- place.m(..) -/
theorem EOk.methP {r : V → List V → Hp → VK → Prop} (hl : PlOk X o l) (slot : Slot "list" m id) (hty : typeOf (.builtin id) = pure (.type "method_descriptor")) (hm : MtR X id r) (hg : GMu X.K X.mg g r) (ha : AOk X (e :: es) fs)
    (hbase : attributeBase o m X.env (eval o X.env) = eval o X.env := by rfl)
    (hfew : ((backTo cpos (starEach (e :: es) X.env)).all (fun x => !x.1) && (backToKw cpos (keywordEach [] X.env)).all (fun x => x.1.isSome)
      && decide ((e :: es).length + ([] : List Keyword).length + (if ([] : List Keyword).isEmpty then 0 else 1) < 30)) = true := by rfl)
    (hline : (apos.endLine == cpos.line) = true := by rfl) (hs : starEach (e :: es) X.env = (false, eval e X.env) :: starEach es X.env := by rfl) (hplain : (backTo cpos (starEach es X.env)).any (·.1) = false := by rfl) :
    EOk X (.Call (.Attribute o m apos) (e :: es) [] cpos) (mutPE l isL fs g) := fun W t =>
  (pe_bm PySem.F.plainAttrs_list slot hty hm (hl W t) (ha W t) hbase hfew hline hs hplain).imp fun σ H Q h =>
    (h.mutP hg).mono fun y H1 ⟨ty, q⟩ => ⟨tyLP ty, q⟩
theorem EOk.methP0 {r : V → List V → Hp → VK → Prop} (hl : PlOk X o l) (slot : Slot "list" m id) (hty : typeOf (.builtin id) = pure (.type "method_descriptor")) (hm : MtR X id r) (hg : GMu X.K X.mg g r)
    (hbase : attributeBase o m X.env (eval o X.env) = eval o X.env := by rfl) (hline : (apos.endLine == cpos.line) = true := by rfl) :
    EOk X (.Call (.Attribute o m apos) [] [] cpos) (mutPE l isL [] g) := fun W t =>
  (pe_bm0 PySem.F.plainAttrs_list slot hty hm (hl W t) hbase hline).imp fun σ H Q h =>
    (h.mutP hg).mono fun y H1 ⟨ty, q⟩ => ⟨tyLP ty, q.nil⟩
end
end PyI

namespace PyI
open PySem PySem.Spec PyProof.Rows L2

/-! ### what the top has written -/
/-- a whole number of the module -/
def IntG (mg : Str → Option Value) (x : Str) (i : Int) : Prop := ∃ t, mg x = some (.int i t)
/-- an own class of refusals, without an own __init__ -/
def ExcC (K : PySem.W.Frag) (mg : Str → Option Value) (x : Str) : Prop := ∃ C bm, ExcBaseFacts "ValueError" "ValueError.__new__" "ValueError.__init__" bm ∧ mg x = some (.ref C) ∧ PySem.W.excIn K C bm "ValueError.__new__" = true ∧ PySem.W.keepIn K (.ref C) = true ∧
  PySem.W.subIn K (.ref C) (.type "BaseException") = some true ∧ PySem.W.typeIn K (.ref C) = some (.type "type")
section
variable {K : PySem.W.Frag} {mg : Str → Option Value} {h : Heap}
theorem intG {x : Str} {i : Int} {t : Nat} (X : K.In h) (G : h.Ns mainGlobals mg) (a : PySem.W.nsIn K mainGlobals x = some (some (.int i t))) : IntG mg x i := ⟨t, PySem.W.mg_of X G a⟩
theorem excC {x : Str} {C : Addr} {bm : List Value} (X : K.In h) (G : h.Ns mainGlobals mg) (F : ExcBaseFacts "ValueError" "ValueError.__new__" "ValueError.__init__" bm) (a : PySem.W.nsIn K mainGlobals x = some (some (.ref C))) (b : PySem.W.excIn K C bm "ValueError.__new__" = true) (c : PySem.W.keepIn K (.ref C) = true)
    (d : PySem.W.subIn K (.ref C) (.type "BaseException") = some true) (e : PySem.W.typeIn K (.ref C) = some (.type "type")) : ExcC K mg x := ⟨C, bm, F, PySem.W.mg_of X G a, b, c, d, e⟩
end
section
variable {X : Cx} {x m : Str} {j : Nat} {p p2 pos rpos : Pos}
theorem EOk.gint {i : Int} (h : IntG X.mg x i) (hg : Gl X x := by rfl) (hd : (x == ("__debug__" : Str)) = false := by decide) : EOk X (.Name x pos) (cstE (.int i)) := by
  obtain ⟨t, h⟩ := h
  exact EOk.glob (y := .int i) hg h ⟨t, rfl⟩ (fun _ _ _ _ => Rep.int') hd
theorem SOk.raiseC (hc : X.calm = true) (h : ExcC X.K X.mg x) (hg : Gl X x := by rfl) (hd : (x == ("__debug__" : Str)) = false := by decide) : SOk X (.Raise (some (.Call (.Name x p) [.Constant (.str m) j p2] [] pos)) none rpos) (rsC x) := by
  obtain ⟨C, bm, F, a, b, c, d, e⟩ := h
  exact SOk.raise hc F b a c (raises_own d e) hg hd
end
/-- the law's own end -/
def spLaw (K : PySem.W.Frag) : Sp := fun vs H Q _ => ∃ (a : Addr) (ns : List Int), vs = [.ref a] ∧ SqL K H a (ns.map V.int) ∧ ns.length ≤ 63 ∧ ∀ H', Q (.bl true) H'
theorem Reps.intL {K : PySem.W.Frag} {mg : Str → Option Value} {H : Hp} {F T : Addr → Prop} {as : List Addr} : ∀ ns : List Int, Reps K mg H F T as (ns.map Vl.int) (ns.map V.int) (fun _ => 0)
  | [] => .nil fun _ => rfl
  | _ :: r => .cons Rep.int' (Reps.intL r) fun _ => rfl
theorem setFs_ints (f : Fl) : ∀ ns : List Int, setFs f (ns.map Vl.int) = ns.map Vl.int
  | [] => rfl
  | n :: r => by
    show setF f (.int n) :: setFs f (r.map Vl.int) = _
    rw [setFs_ints f r]
    rfl
theorem law_all {P : Program} {w : World} {K : PySem.W.Frag} {mg : Str → Option Value} {h : Heap} {fa : Addr} {k : Nat} {x : Str} {N : List Str} {body : C} {st : Stmt} (G : h.Ns mainGlobals mg) (hfa : mg "law" = some (.ref fa)) (d : DefAt K mg "law" st) (S : FnScope N [x] (defScope st))
    (bind : ∀ (kV doc pm : Value) (an : Option Addr) (cdv ct : Value) (us : List Value), us.length = 1 → bindArgs (PySem.W.fnOf "law" "law" (defArgs st) (defBody st) (defScope st) .none kV doc pm an cdv ct) ⟨us, []⟩ = pure ([x].zip us))
    (hb : ∀ base f, BodyOk P w K mg base k N "law" st f body) (truth : ∀ ns : List Int, ns.length ≤ 63 → runF N.length body [.nd .sh .lst (ns.map Vl.int)] = .ok (.bl true)) :
    ∃ fd : FuncData, (∀ (s : Shared) (v : Value), BindsTo s fd ⟨[v], []⟩ [(x, v)]) ∧ ∀ base : Heap, K.In base → base.Ns mainGlobals mg → FnOk P w K mg base (L2.CX P w) (k + 1) fa fd [x] (spLaw K) := by
  obtain ⟨f, fd, F, m⟩ := d
  rw [m] at hfa
  cases hfa
  refine ⟨fd, fun s v => ?_, fun base _ _ => ?_⟩
  · obtain ⟨oc, od, kV, doc, pm, an, cdv, ct, osl, rfl, lk, hcd⟩ := F.ex
    exact .of_eq (bind kV doc pm an cdv ct [v] rfl)
  · have hpl : [x].length ≤ N.length := by have := congrArg List.length S.pre; rw [List.length_take] at this; omega
    refine F.okX S (fun vs H Q E h => ?_) fun cdv A outer s H vs Q E hr h => ?_
    · obtain ⟨a, ns, rfl, _⟩ := h
      rfl
    · obtain ⟨a, ns, rfl, hS, hl, q⟩ := h
      refine ⟨_, hb base fa cdv A outer s H E hr (fun cls d _ H => E cls d H) (takes_of rfl rfl rfl rfl), body_ok (ps := [x]) (n := 0) hpl ⟨rfl, [.nd .sh .lst (ns.map Vl.int)], ?_, ?_⟩⟩
      · show Reps K mg H (Trk H) _ [] [.nd .sh .lst (setFs .sh (ns.map Vl.int))] _ _
        rw [setFs_ints]
        refine .cons (c1 := fun _ => 0) (c2 := fun _ => 0) (.sh ?_ (Reps.intL ns) fun _ => rfl) (.nil fun _ => rfl) fun _ => rfl
        rcases hS with hS | hS
        · exact .inl ⟨rd_trk hS, _, rfl, hS⟩
        · exact .inr ⟨rfl, hS⟩
      · show match runF N.length body [.nd .sh .lst (setFs .sh (ns.map Vl.int))] with | .ok v => _ | .exc cl => _ | .bad => _
        rw [setFs_ints, truth ns hl]
        refine ⟨rfl, fun H' x c _ rx _ _ => ?_⟩
        cases rx
        exact q H'
end PyI
namespace PyI
open PySem PySem.Spec PyProof.Rows L2
theorem withF {a b : Prop} (h : a) (k : a → b) : b := k h
theorem cx_none {P : Program} : ∀ (w : World) (H : Hp) (s : Shared) (e : Value) (s' : Shared), L2.CX P w [] H s (fun _ _ _ => False) e s' → False := fun _ _ _ _ _ ⟨_, _, _, _, _, _, _, _, _, _, _, _, z⟩ => z
end PyI

namespace PyI
open PySem PySem.Spec PyProof.Rows L2

/-! ### values with a Lean type -/
class Enc (α : Type) [DecidableEq α] extends PySem.W.Datum α where
  enc : Fl → α → Vl
  setF_ : ∀ f g a, setF g (enc f a) = enc g a
  peek_ : ∀ f a, peek (enc f a) = enc (if f = .own then .tr else f) a
  noRef_ : ∀ f a, noRef (enc f a) = true
  allOwn_ : ∀ a, allOwn (enc .own a) = true
  stor_ : ∀ f a, (f == .own || f == .sh) = true → stor (enc f a) = true
  noTr_ : ∀ f a, (f != .tr) = true → noTr (enc f a) = true
  noOwn_ : ∀ f a, (f != .own) = true → noOwn (enc f a) = true
  py_ : ∀ f a, pyOf (enc f a) = some (toD a)
  lay_ : ∀ a, (toD a).canLay0 = true
open Enc (enc)
section
variable {α β : Type} [DecidableEq α] [Enc α] [DecidableEq β] [Enc β]
theorem setFs_enc (f g : Fl) : ∀ xs : List α, setFs g (xs.map (enc f)) = xs.map (enc g)
  | [] => rfl
  | x :: r => by show setF g (enc f x) :: setFs g (r.map (enc f)) = _; rw [Enc.setF_, setFs_enc f g r]; rfl
theorem peeks_enc (f : Fl) : ∀ xs : List α, peeks (xs.map (enc f)) = xs.map (enc (if f = .own then .tr else f))
  | [] => rfl
  | x :: r => by show peek (enc f x) :: peeks (r.map (enc f)) = _; rw [Enc.peek_, peeks_enc f r]; rfl
theorem noRefs_enc (f : Fl) : ∀ xs : List α, noRefs (xs.map (enc f)) = true
  | [] => rfl
  | x :: r => by show (noRef (enc f x) && noRefs (r.map (enc f))) = true; rw [Enc.noRef_, noRefs_enc f r]; rfl
theorem allOwns_enc : ∀ xs : List α, allOwns (xs.map (enc .own)) = true
  | [] => rfl
  | x :: r => by show (allOwn (enc .own x) && allOwns (r.map (enc .own))) = true; rw [Enc.allOwn_, allOwns_enc r]; rfl
theorem stors_enc (f : Fl) (h : (f == .own || f == .sh) = true) : ∀ xs : List α, stors (xs.map (enc f)) = true
  | [] => rfl
  | x :: r => by show (stor (enc f x) && stors (r.map (enc f))) = true; rw [Enc.stor_ f x h, stors_enc f h r]; rfl
theorem noTrs_enc (f : Fl) (h : (f != .tr) = true) : ∀ xs : List α, noTrs (xs.map (enc f)) = true
  | [] => rfl
  | x :: r => by show (noTr (enc f x) && noTrs (r.map (enc f))) = true; rw [Enc.noTr_ f x h, noTrs_enc f h r]; rfl
theorem noOwns_enc (f : Fl) (h : (f != .own) = true) : ∀ xs : List α, noOwns (xs.map (enc f)) = true
  | [] => rfl
  | x :: r => by show (noOwn (enc f x) && noOwns (r.map (enc f))) = true; rw [Enc.noOwn_ f x h, noOwns_enc f h r]; rfl
theorem pysOf_enc (f : Fl) : ∀ xs : List α, pysOf (xs.map (enc f)) = some (xs.map PySem.W.Datum.toD)
  | [] => by simp [pysOf]
  | x :: r => by
    show pysOf (enc f x :: r.map (enc f)) = _
    unfold pysOf
    rw [Enc.py_, pysOf_enc f r]
    rfl
theorem canLayAll_enc : ∀ xs : List α, PyData.canLayAll0 (xs.map PySem.W.Datum.toD) = true
  | [] => rfl
  | x :: r => by
    show ((PySem.W.Datum.toD x).canLay0 && PyData.canLayAll0 (r.map PySem.W.Datum.toD)) = true
    rw [Enc.lay_, canLayAll_enc r]; rfl
instance : Enc Int where
  enc _ i := .int i
  setF_ _ _ _ := rfl
  peek_ _ _ := rfl
  noRef_ _ _ := rfl
  allOwn_ _ := rfl
  stor_ _ _ _ := rfl
  noTr_ _ _ _ := rfl
  noOwn_ _ _ _ := rfl
  py_ _ _ := by simp [pyOf]; rfl
  lay_ _ := rfl
instance : Enc Bool where
  enc _ i := .bl i
  setF_ _ _ _ := rfl
  peek_ _ _ := rfl
  noRef_ _ _ := rfl
  allOwn_ _ := rfl
  stor_ _ _ _ := rfl
  noTr_ _ _ _ := rfl
  noOwn_ _ _ _ := rfl
  py_ _ _ := by simp [pyOf]; rfl
  lay_ _ := rfl
instance : Enc Unit where
  enc _ _ := .non
  setF_ _ _ _ := rfl
  peek_ _ _ := rfl
  noRef_ _ _ := rfl
  allOwn_ _ := rfl
  stor_ _ _ _ := rfl
  noTr_ _ _ _ := rfl
  noOwn_ _ _ _ := rfl
  py_ _ _ := by simp [pyOf]; rfl
  lay_ _ := rfl
instance : Enc (List α) where
  enc f xs := .nd f .lst (xs.map (enc f))
  setF_ f g a := by show Vl.nd g .lst (setFs g (a.map (enc f))) = _; rw [setFs_enc]
  peek_ f a := by show Vl.nd (if f = .own then .tr else f) .lst (peeks (a.map (enc f))) = _; rw [peeks_enc]
  noRef_ f a := noRefs_enc f a
  allOwn_ a := by show (Fl.own == Fl.own && allOwns (a.map (enc .own))) = true; rw [allOwns_enc]; rfl
  stor_ f a h := by show ((f == .own || f == .sh) && stors (a.map (enc f))) = true; rw [stors_enc f h, h]; rfl
  noTr_ f a h := by show (f != .tr && noTrs (a.map (enc f))) = true; rw [noTrs_enc f h, h]; rfl
  noOwn_ f a h := by show (f != .own && noOwns (a.map (enc f))) = true; rw [noOwns_enc f h, h]; rfl
  py_ f a := by unfold pyOf; rw [pysOf_enc]; rfl
  lay_ a := canLayAll_enc a
instance : Enc (α × β) where
  enc f p := .tup [enc f p.1, enc f p.2]
  setF_ f g a := by show Vl.tup [setF g (enc f a.1), setF g (enc f a.2)] = _; rw [Enc.setF_, Enc.setF_]
  peek_ f a := by show Vl.tup [peek (enc f a.1), peek (enc f a.2)] = _; rw [Enc.peek_, Enc.peek_]
  noRef_ f a := by show (noRef (enc f a.1) && (noRef (enc f a.2) && true)) = true; rw [Enc.noRef_, Enc.noRef_]; rfl
  allOwn_ a := by show (allOwn (enc .own a.1) && (allOwn (enc .own a.2) && true)) = true; rw [Enc.allOwn_, Enc.allOwn_]; rfl
  stor_ f a h := by show (stor (enc f a.1) && (stor (enc f a.2) && true)) = true; rw [Enc.stor_ f _ h, Enc.stor_ f _ h]; rfl
  noTr_ f a h := by show (noTr (enc f a.1) && (noTr (enc f a.2) && true)) = true; rw [Enc.noTr_ f _ h, Enc.noTr_ f _ h]; rfl
  noOwn_ f a h := by show (noOwn (enc f a.1) && (noOwn (enc f a.2) && true)) = true; rw [Enc.noOwn_ f _ h, Enc.noOwn_ f _ h]; rfl
  py_ f a := by
    unfold pyOf
    show Option.map PyData.tuple (pysOf [enc f a.1, enc f a.2]) = _
    unfold pysOf
    rw [Enc.py_]
    unfold pysOf
    rw [Enc.py_]
    unfold pysOf
    rfl
  lay_ a := by show ((PySem.W.Datum.toD a.1).canLay0 && ((PySem.W.Datum.toD a.2).canLay0 && true)) = true; rw [Enc.lay_, Enc.lay_]; rfl
theorem shaped_enc (a : α) (h : PySem.W.Datum.depth α ≤ 64) : SeqAt.shaped (PySem.W.Datum.toD a) = true := by
  unfold SeqAt.shaped
  rw [Enc.lay_, decide_eq_true (Nat.le_trans (PySem.W.Datum.depth_le a) h)]
  rfl
theorem gEq_enc {f g : Fl} (a b : α) (h : PySem.W.Datum.depth α ≤ 64 := by decide) : gEq [enc f a, enc g b] = some (.bl (decide (a = b))) := by
  show (match pyOf (enc f a), pyOf (enc g b) with
    | some d, some e => if SeqAt.shaped d && SeqAt.shaped e then some (Vl.bl (PyData.eqv d e)) else none
    | _, _ => none) = _
  rw [Enc.py_, Enc.py_]
  show (if (SeqAt.shaped (PySem.W.Datum.toD a) && SeqAt.shaped (PySem.W.Datum.toD b)) = true then some (Vl.bl (PyData.eqv (PySem.W.Datum.toD a) (PySem.W.Datum.toD b))) else none) = _
  rw [shaped_enc a h, shaped_enc b h, PySem.W.Datum.eqv]
  rfl
theorem gNe_enc {f g : Fl} (a b : α) (h : PySem.W.Datum.depth α ≤ 64 := by decide) : gNe [enc f a, enc g b] = some (.bl (!decide (a = b))) := by
  show (match pyOf (enc f a), pyOf (enc g b) with
    | some d, some e => if SeqAt.shaped d && SeqAt.shaped e then some (Vl.bl (!PyData.eqv d e)) else none
    | _, _ => none) = _
  rw [Enc.py_, Enc.py_]
  show (if (SeqAt.shaped (PySem.W.Datum.toD a) && SeqAt.shaped (PySem.W.Datum.toD b)) = true then some (Vl.bl (!PyData.eqv (PySem.W.Datum.toD a) (PySem.W.Datum.toD b))) else none) = _
  rw [shaped_enc a h, shaped_enc b h, PySem.W.Datum.eqv]
  rfl
theorem gEq_int (a b : Int) : gEq [.int a, .int b] = some (.bl (decide (a = b))) := gEq_enc (f := .own) (g := .own) a b
theorem gNe_int (a b : Int) : gNe [.int a, .int b] = some (.bl (!decide (a = b))) := gNe_enc (f := .own) (g := .own) a b
theorem mkL_enc (xs : List α) : mkL (xs.map (enc .own)) = enc .own xs := by
  unfold mkL
  rw [if_pos (stors_enc .own rfl xs)]
  rfl
theorem atI_map {γ δ : Type} (f : γ → δ) (xs : List γ) (i : Int) : atI (xs.map f) i = (atI xs i).map f := by
  unfold atI
  rw [List.length_map]
  cases ixN xs.length i with
  | none => rfl
  | some j => exact List.getElem?_map
theorem atI_pos {γ : Type} {xs : List γ} {i : Int} {x : γ} (h0 : 0 ≤ i) (h : xs[i.toNat]? = some x) : atI xs i = some x := by
  have e : ((i.toNat : Nat) : Int) = i := Int.toNat_of_nonneg h0
  rw [← e]
  exact atI_nat h
end

/-! ### loops -/
theorem forL_inv {g : Tg} {body : C} {items : List Vl} {st : Sta} (I : Nat → Sta → Prop) (h0 : I 0 st)
    (h : ∀ i st v, I i st → items[i]? = some v → ∃ st1 st2, g v st = some st1 ∧ (body st1 = .nx st2 ∨ body st1 = .ct st2) ∧ I (i + 1) st2) : ∃ st', forL g body items st = .nx st' ∧ I items.length st' := by
  have main : ∀ (r : List Vl) (i : Nat) (st : Sta), items.drop i = r → I i st → i ≤ items.length → ∃ st', forL g body r st = .nx st' ∧ I items.length st' := by
    intro r
    induction r with
    | nil =>
      intro i st e hi hl
      have : items.length ≤ i := by
        have := congrArg List.length e
        rw [List.length_drop] at this
        simp at this
        omega
      have : i = items.length := by omega
      exact ⟨st, rfl, this ▸ hi⟩
    | cons v r ih =>
      intro i st e hi hl
      have hv : items[i]? = some v := by
        have := congrArg (fun l : List Vl => l[0]?) e
        simpa using this
      have hlt : i < items.length := (List.getElem?_eq_some_iff.mp hv).1
      have hr : items.drop (i + 1) = r := by
        rw [← List.drop_drop, e]; rfl
      obtain ⟨st1, st2, e1, e2, h2⟩ := h i st v hi hv
      obtain ⟨st', e3, h3⟩ := ih (i + 1) st2 hr h2 hlt
      refine ⟨st', ?_, h3⟩
      unfold forL
      rw [e1]
      rcases e2 with e2 | e2 <;> (simp only [e2]; exact e3)
  exact main items 0 st rfl h0 (Nat.zero_le _)
/-- over typed items, the state told by what is behind -/
theorem forL_map {γ : Type} {g : Tg} {body : C} {ev : γ → Vl} (xs : List γ) {st : Sta} (I : List γ → Sta → Prop) (h0 : I [] st)
    (h : ∀ (p : List γ) (x : γ) (r : List γ) st, xs = p ++ x :: r → I p st → ∃ st1 st2, g (ev x) st = some st1 ∧ (body st1 = .nx st2 ∨ body st1 = .ct st2) ∧ I (p ++ [x]) st2) : ∃ st', forL g body (xs.map ev) st = .nx st' ∧ I xs st' := by
  have main : ∀ (r p : List γ) (st : Sta), xs = p ++ r → I p st → ∃ st', forL g body (r.map ev) st = .nx st' ∧ I xs st' := by
    intro r
    induction r with
    | nil =>
      intro p st e hi
      rw [List.append_nil] at e
      exact ⟨st, rfl, e ▸ hi⟩
    | cons v r ih =>
      intro p st e hi
      obtain ⟨st1, st2, e1, e2, h2⟩ := h p v r st e hi
      obtain ⟨st', e3, h3⟩ := ih (p ++ [v]) st2 (by rw [e]; simp) h2
      refine ⟨st', ?_, h3⟩
      show forL g body (ev v :: r.map ev) st = _
      unfold forL
      rw [e1]
      rcases e2 with e2 | e2 <;> (simp only [e2]; exact e3)
  exact main xs [] st rfl h0
theorem compL_map {γ : Type} {vs : List Nat} {g : Tg} {cond elt : E} {tr : Bool} {ev h : γ → Vl} {P : γ → Bool} {st : Sta} : ∀ (xs : List γ),
    (∀ x ∈ xs, ∃ s, g (ev x) st = some s ∧ cond s = .ok (.bl (P x), s, false) ∧ (P x = true → elt s = .ok (h x, s, false) ∧ noTr (h x) = true) ∧ wipeS vs s = st) →
    compL vs g cond elt tr (xs.map ev) st = .ok ((xs.filter P).map h, st, false)
  | [], _ => rfl
  | x :: r, q => by
    obtain ⟨s, e1, e2, e3, e4⟩ := q x List.mem_cons_self
    have ih := compL_map (tr := tr) r fun y hy => q y (List.mem_cons_of_mem _ hy)
    show compL vs g cond elt tr (ev x :: r.map ev) st = _
    unfold compL
    rw [e1]
    simp only [e2]
    cases hp : P x with
    | false =>
      simp only [Bool.not_false, Bool.or_true, if_true, e4, ih]
      rw [List.filter_cons_of_neg (by rw [hp]; decide)]
      rfl
    | true =>
      obtain ⟨e5, e6⟩ := e3 hp
      simp only [e5, e6, Bool.or_false, Bool.not_false, Bool.or_true, Bool.and_true, if_true, e4, ih]
      rw [List.filter_cons_of_pos hp]
      rfl
theorem compE_map {γ : Type} {vs : List Nat} {g : Tg} {src : Src} {cond elt : E} {tr : Bool} {ev : γ → Vl} {st st1 : Sta} {e0 : Bool} (xs : List γ) (P : γ → Bool) (h : γ → Vl) (hs : src st = .ok (xs.map ev, tr, st1, e0)) (hl : (vs.any fun i => st1.la.contains i) = false)
    (hx : ∀ x ∈ xs, ∃ s, g (ev x) (wipeS vs st1) = some s ∧ cond s = .ok (.bl (P x), s, false) ∧ (P x = true → elt s = .ok (h x, s, false) ∧ noTr (h x) = true) ∧ wipeS vs s = wipeS vs st1) (hn : ((xs.filter P).map h).length < sizeLine) :
    compE vs g src cond elt st = .ok (mkL ((xs.filter P).map h), st1, e0) := by
  unfold compE
  rw [hs]
  simp only [hl]
  rw [compL_map xs hx]
  simp only [hn, decide_true, if_true, back_wipe, Bool.or_false]
  rfl
/-- no if -/
theorem compE_all {γ : Type} {vs : List Nat} {g : Tg} {src : Src} {elt : E} {tr : Bool} {ev : γ → Vl} {st st1 : Sta} {e0 : Bool} (xs : List γ) (h : γ → Vl) (hs : src st = .ok (xs.map ev, tr, st1, e0)) (hl : (vs.any fun i => st1.la.contains i) = false)
    (hx : ∀ x ∈ xs, ∃ s, g (ev x) (wipeS vs st1) = some s ∧ elt s = .ok (h x, s, false) ∧ noTr (h x) = true ∧ wipeS vs s = wipeS vs st1) (hn : xs.length < sizeLine) :
    compE vs g src (cstE (.bl true)) elt st = .ok (mkL (xs.map h), st1, e0) := by
  have ft : xs.filter (fun _ => true) = xs := List.filter_eq_self.mpr fun _ _ => rfl
  have := compE_map (cond := cstE (.bl true)) xs (fun _ => true) h hs hl (fun x m => by
    obtain ⟨s, a, b, c, d⟩ := hx x m
    exact ⟨s, a, rfl, fun _ => ⟨b, c⟩, d⟩) (by rw [ft, List.length_map]; exact hn)
  rw [ft] at this
  exact this
/-! ### for simp -/
theorem nt_non : noTr Vl.non = true := rfl
theorem nt_bl (b : Bool) : noTr (Vl.bl b) = true := rfl
theorem nt_int (i : Int) : noTr (Vl.int i) = true := rfl
theorem nt_str (x : PySem.Str) : noTr (Vl.str x) = true := rfl
theorem nt_tup (xs : List Vl) : noTr (.tup xs) = noTrs xs := rfl
theorem nt_nil : noTrs [] = true := rfl
theorem nt_cons (v : Vl) (r : List Vl) : noTrs (v :: r) = (noTr v && noTrs r) := rfl
theorem so_non : stor Vl.non = true := rfl
theorem so_bl (b : Bool) : stor (Vl.bl b) = true := rfl
theorem so_int (i : Int) : stor (Vl.int i) = true := rfl
theorem so_str (x : PySem.Str) : stor (Vl.str x) = true := rfl
theorem so_tup (xs : List Vl) : stor (.tup xs) = stors xs := rfl
theorem so_nil : stors [] = true := rfl
theorem so_cons (v : Vl) (r : List Vl) : stors (v :: r) = (stor v && stors r) := rfl
theorem no_non : noOwn Vl.non = true := rfl
theorem no_bl (b : Bool) : noOwn (Vl.bl b) = true := rfl
theorem no_int (i : Int) : noOwn (Vl.int i) = true := rfl
theorem no_str (x : PySem.Str) : noOwn (Vl.str x) = true := rfl
theorem no_tup (xs : List Vl) : noOwn (.tup xs) = noOwns xs := rfl
theorem no_nil : noOwns [] = true := rfl
theorem no_cons (v : Vl) (r : List Vl) : noOwns (v :: r) = (noOwn v && noOwns r) := rfl
theorem nr_non : noRef Vl.non = true := rfl
theorem nr_bl (b : Bool) : noRef (Vl.bl b) = true := rfl
theorem nr_int (i : Int) : noRef (Vl.int i) = true := rfl
theorem nr_str (x : PySem.Str) : noRef (Vl.str x) = true := rfl
theorem nr_tup (xs : List Vl) : noRef (.tup xs) = noRefs xs := rfl
theorem nr_nil : noRefs [] = true := rfl
theorem nr_cons (v : Vl) (r : List Vl) : noRefs (v :: r) = (noRef v && noRefs r) := rfl
theorem ao_non : allOwn Vl.non = true := rfl
theorem ao_bl (b : Bool) : allOwn (Vl.bl b) = true := rfl
theorem ao_int (i : Int) : allOwn (Vl.int i) = true := rfl
theorem ao_str (x : PySem.Str) : allOwn (Vl.str x) = true := rfl
theorem ao_tup (xs : List Vl) : allOwn (.tup xs) = allOwns xs := rfl
theorem ao_nil : allOwns [] = true := rfl
theorem ao_cons (v : Vl) (r : List Vl) : allOwns (v :: r) = (allOwn v && allOwns r) := rfl
theorem pk_non : peek Vl.non = Vl.non := rfl
theorem pk_bl (b : Bool) : peek (Vl.bl b) = (Vl.bl b) := rfl
theorem pk_int (i : Int) : peek (Vl.int i) = (Vl.int i) := rfl
theorem pk_str (x : PySem.Str) : peek (Vl.str x) = (Vl.str x) := rfl
theorem pk_tup (xs : List Vl) : peek (.tup xs) = .tup (peeks xs) := rfl
theorem pk_nil : peeks [] = [] := rfl
theorem pk_cons (v : Vl) (r : List Vl) : peeks (v :: r) = peek v :: peeks r := rfl
theorem sf_non (f : Fl) : setF f Vl.non = Vl.non := rfl
theorem sf_bl (f : Fl) (b : Bool) : setF f (Vl.bl b) = (Vl.bl b) := rfl
theorem sf_int (f : Fl) (i : Int) : setF f (Vl.int i) = (Vl.int i) := rfl
theorem sf_str (f : Fl) (x : PySem.Str) : setF f (Vl.str x) = (Vl.str x) := rfl
theorem sf_tup (f : Fl) (xs : List Vl) : setF f (.tup xs) = .tup (setFs f xs) := rfl
theorem sf_nil (f : Fl) : setFs f [] = [] := rfl
theorem sf_cons (f : Fl) (v : Vl) (r : List Vl) : setFs f (v :: r) = setF f v :: setFs f r := rfl
section
variable {α β : Type} [DecidableEq α] [Enc α] [DecidableEq β] [Enc β]
theorem en_int (f : Fl) (i : Int) : enc f i = .int i := rfl
theorem en_bl (f : Fl) (i : Bool) : enc f i = .bl i := rfl
theorem en_pair (f : Fl) (p : α × β) : enc f p = .tup [enc f p.1, enc f p.2] := rfl
theorem en_nil (f : Fl) : (Vl.nd f .lst []) = enc f ([] : List α) := rfl
theorem sf_enc (f g : Fl) (a : α) : setF g (enc f a) = enc g a := Enc.setF_ f g a
theorem pk_own (a : α) : peek (enc .own a) = enc .tr a := Enc.peek_ .own a
theorem pk_sh (a : α) : peek (enc .sh a) = enc .sh a := Enc.peek_ .sh a
theorem pk_tr (a : α) : peek (enc .tr a) = enc .tr a := Enc.peek_ .tr a
theorem nr_enc (f : Fl) (a : α) : noRef (enc f a) = true := Enc.noRef_ f a
theorem ao_enc (a : α) : allOwn (enc .own a) = true := Enc.allOwn_ a
theorem so_own (a : α) : stor (enc .own a) = true := Enc.stor_ .own a rfl
theorem so_sh (a : α) : stor (enc .sh a) = true := Enc.stor_ .sh a rfl
theorem nt_own (a : α) : noTr (enc .own a) = true := Enc.noTr_ .own a rfl
theorem nt_sh (a : α) : noTr (enc .sh a) = true := Enc.noTr_ .sh a rfl
theorem no_sh (a : α) : noOwn (enc .sh a) = true := Enc.noOwn_ .sh a rfl
theorem no_tr (a : α) : noOwn (enc .tr a) = true := Enc.noOwn_ .tr a rfl
theorem no_own (xs : List α) : noOwn (enc .own xs) = false := rfl
theorem nt_tr (xs : List α) : noTr (enc .tr xs) = false := rfl
theorem gLen_enc (f : Fl) (xs : List α) : gLen [enc f xs] = some (.int xs.length) := by show some (Vl.int ((xs.map (enc f)).length : Nat)) = _; rw [List.length_map]
theorem gIx_enc (f : Fl) (xs : List α) (i : Int) : gIx [enc f xs, .int i] = (atI xs i).map (enc f) := atI_map _ _ _
theorem gIx_at {f : Fl} {xs : List α} {i : Int} {x : α} (h0 : 0 ≤ i) (h : xs[i.toNat]? = some x) : gIx [enc f xs, .int i] = some (enc f x) := by rw [gIx_enc, atI_pos h0 h]; rfl
theorem gIx_0 (a : Vl) (r : List Vl) : gIx [.tup (a :: r), .int 0] = some a := by
  show atI (a :: r) 0 = _
  exact atI_pos (by decide) rfl
theorem gIx_1 (a b : Vl) (r : List Vl) : gIx [.tup (a :: b :: r), .int 1] = some b := by
  show atI (a :: b :: r) 1 = _
  exact atI_pos (by decide) rfl
theorem gList_sh (xs : List α) : gList [enc .sh xs] = some (mkL (xs.map (enc .sh))) := rfl
theorem isi_enc (f : Fl) (xs : List α) (b : String) (h : isiT b = true) : gIsi [enc f xs, .sym (.ty b)] = some (.bl (isiB "list" b)) := by
  show (if isiT b = true then some (Vl.bl (isiB "list" b)) else none) = _
  rw [if_pos h]
theorem gLst_nil : gLst [] = some (enc .own ([] : List α)) := rfl
theorem fld_seq (f : Fl) (h : (f != .tr) = true) (xs : List α) : hSeq [enc f xs] = some (xs.map (enc f), false) := by
  show some (xs.map (enc f), f == .tr || !noTrs (xs.map (enc f))) = _
  rw [noTrs_enc f h]
  cases f <;> first | rfl | cases h
theorem hSeq_sh (xs : List α) : hSeq [enc .sh xs] = some (xs.map (enc .sh), false) := fld_seq .sh rfl xs
theorem inB_ok {n : Nat} {j : Int} (h : j.natAbs ≤ n) : inB n j = true := by rw [inB_eq]; exact h
theorem hRng1_ok {j : Int} (h : j.natAbs ≤ 4611686018427387903) : hRng1 [.int j] = some (intsV 0 j.toNat, false) := if_pos (inB_ok h)
theorem hRng2_ok {i j : Int} (h1 : i.natAbs ≤ 4611686018427387903) (h2 : j.natAbs ≤ 4611686018427387903) : hRng2 [.int i, .int j] = some (intsV i (j - i).toNat, false) := if_pos (by rw [inB_ok h1, inB_ok h2]; rfl)
end
theorem gSub_ok (i j : Int) : gSub [.int i, .int j] = some (.int (i - j)) := rfl
theorem gAdd_ok (i j : Int) : gAdd [.int i, .int j] = some (.int (i + j)) := rfl
theorem gNeg_ok (i : Int) : gNeg [.int i] = some (.int (-i)) := rfl
theorem gMod_ok {i j : Int} (h : 0 < j) : gMod [.int i, .int j] = some (.int (i % j)) := by
  show (if decide (0 < j) = true then _ else _) = _
  rw [decide_eq_true h]; rfl
theorem gDiv_ok {i j : Int} (h : 0 < j) (h2 : j < 1073741824) : gDiv [.int i, .int j] = some (.int (i / j)) := if_pos (by show (decide (0 < j) && inB 1073741823 j) = true; rw [decide_eq_true h, inB_ok (by omega)]; rfl)
theorem gShl_ok {i j : Int} (h : 0 ≤ j) (h2 : j ≤ 1000000) (h3 : i.natAbs ≤ 18446744073709551615) : gShl [.int i, .int j] = some (.int (i * 2 ^ j.toNat)) := if_pos (by show (decide (0 ≤ j) && inB 1000000 j && inB 18446744073709551615 i) = true; rw [decide_eq_true h, inB_ok (by omega), inB_ok h3]; rfl)
theorem gShr_ok {i j : Int} (h : 0 ≤ j) : gShr [.int i, .int j] = some (.int (i / 2 ^ j.toNat)) := if_pos (decide_eq_true h)
theorem gMul_r {i j : Int} (h : j.natAbs ≤ 18446744073709551615) : gMul [.int i, .int j] = some (.int (i * j)) := if_pos (by rw [inB_ok h, Bool.or_true])
theorem gMul_l {i j : Int} (h : i.natAbs ≤ 18446744073709551615) : gMul [.int i, .int j] = some (.int (i * j)) := if_pos (by rw [inB_ok h, Bool.true_or])
theorem gLR1_ok {j : Int} (h : j.natAbs ≤ 16777216) : gLR1 [.int j] = some (.nd .own .lst (intsV 0 j.toNat)) := if_pos (inB_ok h)
theorem gLR2_ok {i j : Int} (h1 : i.natAbs ≤ 4194304) (h2 : j.natAbs ≤ 4194304) : gLR2 [.int i, .int j] = some (.nd .own .lst (intsV i (j - i).toNat)) := if_pos (by rw [inB_ok (by omega), inB_ok (by omega), decide_eq_true (by omega)]; rfl)
theorem gLt_ok (i j : Int) : gLt [.int i, .int j] = some (.bl (decide (i < j))) := rfl
theorem gLe_ok (i j : Int) : gLe [.int i, .int j] = some (.bl (decide (i ≤ j))) := rfl
theorem gGt_ok (i j : Int) : gGt [.int i, .int j] = some (.bl (decide (j < i))) := rfl
theorem gGe_ok (i j : Int) : gGe [.int i, .int j] = some (.bl (decide (j ≤ i))) := rfl
theorem gNot_ok (b : Bool) : gNot [.bl b] = some (.bl (!b)) := rfl
theorem sz16 : 16777216 ≤ sizeLine := by rw [sizeLine_eq]; exact Nat.le_refl _
theorem sz2 : 64 ≤ sizeLine := by rw [sizeLine_eq]; decide
theorem gTup_le {xs : List Vl} (h : xs.length ≤ 64) : gTup xs = some (.tup xs) := if_pos (Nat.le_trans h sz2)
theorem gTup_2 (a b : Vl) : gTup [a, b] = some (.tup [a, b]) := gTup_le (by show _ ≤ _; simp)
theorem gTup_3 (a b c : Vl) : gTup [a, b, c] = some (.tup [a, b, c]) := gTup_le (by show _ ≤ _; simp)
theorem gLst_le {xs : List Vl} (h : xs.length ≤ 64) : gLst xs = some (mkL xs) := if_pos (Nat.le_trans h sz2)
theorem gMax2_ok (i j : Int) : gMax2 [.int i, .int j] = some (.int (if j > i then j else i)) := rfl
theorem gMin2_ok (i j : Int) : gMin2 [.int i, .int j] = some (.int (if j < i then j else i)) := rfl
theorem isi_int_int (i : Int) : gIsi [.int i, .sym (.ty "int")] = some (.bl true) := rfl
theorem isi_int_bool (i : Int) : gIsi [.int i, .sym (.ty "bool")] = some (.bl false) := rfl
theorem isi_tup (xs : List Vl) : gIsi [.tup xs, .sym (.ty "tuple")] = some (.bl true) := rfl
theorem isi_int_list (i : Int) : gIsi [.int i, .sym (.ty "list")] = some (.bl false) := rfl
theorem isi_list {α : Type} [DecidableEq α] [Enc α] (f : Fl) (xs : List α) : gIsi [enc f xs, .sym (.ty "list")] = some (.bl true) := rfl
end PyI
namespace PyI
/-! ### lists of whole numbers, as they stand -/
theorem ints_so : ∀ ns : List Int, stors (ns.map Vl.int) = true := stors_enc (α := Int) .own rfl
theorem ints_nt : ∀ ns : List Int, noTrs (ns.map Vl.int) = true := noTrs_enc (α := Int) .own rfl
theorem ints_no : ∀ ns : List Int, noOwns (ns.map Vl.int) = true := noOwns_enc (α := Int) .sh rfl
theorem ints_nr : ∀ ns : List Int, noRefs (ns.map Vl.int) = true := noRefs_enc (α := Int) .sh
theorem ints_ao : ∀ ns : List Int, allOwns (ns.map Vl.int) = true := allOwns_enc (α := Int)
theorem ints_pk (ns : List Int) : peeks (ns.map Vl.int) = ns.map Vl.int := peeks_enc (α := Int) .own ns
theorem ints_sf (f : Fl) (ns : List Int) : setFs f (ns.map Vl.int) = ns.map Vl.int := setFs_enc (α := Int) .own f ns
theorem ints_snoc (ns : List Int) (n : Int) : ns.map Vl.int ++ [.int n] = (ns ++ [n]).map Vl.int := by simp
theorem pk_nd (f : Fl) (k : Kd) (xs : List Vl) : peek (.nd f k xs) = .nd (if f = .own then .tr else f) k (peeks xs) := rfl
theorem sf_nd (f g : Fl) (k : Kd) (xs : List Vl) : setF g (.nd f k xs) = .nd g k (setFs g xs) := rfl
theorem nt_nd (f : Fl) (k : Kd) (xs : List Vl) : noTr (.nd f k xs) = (f != .tr && noTrs xs) := rfl
theorem so_nd (f : Fl) (k : Kd) (xs : List Vl) : stor (.nd f k xs) = ((f == .own || f == .sh) && stors xs) := rfl
theorem no_nd (f : Fl) (k : Kd) (xs : List Vl) : noOwn (.nd f k xs) = (f != .own && noOwns xs) := rfl
theorem nr_nd (f : Fl) (k : Kd) (xs : List Vl) : noRef (.nd f k xs) = noRefs xs := rfl
theorem ao_nd (f : Fl) (k : Kd) (xs : List Vl) : allOwn (.nd f k xs) = (f == .own && allOwns xs) := rfl
theorem so_app : ∀ (xs ys : List Vl), stors (xs ++ ys) = (stors xs && stors ys)
  | [], _ => rfl
  | x :: r, ys => by show (stor x && stors (r ++ ys)) = ((stor x && stors r) && stors ys); rw [so_app, Bool.and_assoc]
theorem fl_own_tr : (Fl.own = Fl.own) = True := by simp
theorem fb1 : (Fl.own != Fl.tr) = true := rfl
theorem fb2 : (Fl.sh != Fl.tr) = true := rfl
theorem fb3 : (Fl.tr != Fl.tr) = false := rfl
theorem fb4 : (Fl.own == Fl.own) = true := rfl
theorem fb5 : (Fl.sh == Fl.own) = false := rfl
theorem fb6 : (Fl.tr == Fl.own) = false := rfl
theorem fb7 : (Fl.sh == Fl.sh) = true := rfl
theorem fb8 : (Fl.tr == Fl.sh) = false := rfl
theorem fb9 : (Fl.own != Fl.own) = false := rfl
theorem fb10 : (Fl.sh != Fl.own) = true := rfl
theorem fb11 : (Fl.tr != Fl.own) = true := rfl
theorem fb12 : (Fl.tr == Fl.tr) = true := rfl
theorem fb13 : (Fl.own == Fl.tr) = false := rfl
theorem fb14 : (Fl.sh == Fl.tr) = false := rfl
theorem fp1 (a : Fl) : (if Fl.own = Fl.own then Fl.tr else a) = Fl.tr := rfl
theorem fp2 : (if Fl.sh = Fl.own then Fl.tr else Fl.sh) = Fl.sh := rfl
theorem fp3 : (if Fl.tr = Fl.own then Fl.tr else Fl.tr) = Fl.tr := rfl
theorem gLen_nd (f : Fl) (xs : List Vl) : gLen [.nd f .lst xs] = some (.int xs.length) := rfl
theorem gIx_nd (f : Fl) (xs : List Vl) (i : Int) : gIx [.nd f .lst xs, .int i] = L2.atI xs i := rfl
theorem atI_ints {ns : List Int} {i : Int} {x : Int} (h0 : 0 ≤ i) (h : ns[i.toNat]? = some x) : L2.atI (ns.map Vl.int) i = some (.int x) := by rw [atI_map, atI_pos h0 h]; rfl
theorem gLst_0 : gLst [] = some (.nd .own .lst []) := rfl
theorem isi_lst (f : Fl) (xs : List Vl) : gIsi [.nd f .lst xs, .sym (.ty "list")] = some (.bl true) := rfl
theorem hSeq_nd (f : Fl) (xs : List Vl) : hSeq [.nd f .lst xs] = some (xs, f == .tr || !noTrs xs) := rfl
end PyI
namespace PyI
theorem mkL_ints (ns : List Int) : mkL (ns.map Vl.int) = .nd .own .lst (ns.map Vl.int) := by
  unfold mkL
  rw [if_pos (ints_so ns)]
theorem map_ints {γ : Type} (g : γ → Int) (xs : List γ) : (xs.map fun j => Vl.int (g j)) = (xs.map g).map Vl.int := by
  rw [List.map_map]; rfl
end PyI
namespace PyI
theorem seqC_assoc (f g h : C) : seqC (seqC f g) h = seqC f (seqC g h) := by
  funext st
  unfold seqC
  cases f st <;> rfl
end PyI
namespace PyI
theorem cut_ints (ns : List Int) (lo hi : Option Int) : ∃ ms : List Int, cutL (ns.map Vl.int) lo hi = ms.map Vl.int ∧ ms.length ≤ ns.length := by
  unfold cutL
  refine ⟨(ns.drop (HT.sIx (ns.map Vl.int).length 0 lo)).take (HT.sIx (ns.map Vl.int).length (ns.map Vl.int).length hi - HT.sIx (ns.map Vl.int).length 0 lo), ?_, ?_⟩
  · rw [List.map_take, List.map_drop]
  · rw [List.length_take, List.length_drop]; omega
theorem gSlH_ints (f : Fl) (ns : List Int) (i : Int) : ∃ ms : List Int, gSlH [.nd f .lst (ns.map Vl.int), .int i] = some (.nd .own .lst (ms.map Vl.int)) ∧ ms.length ≤ ns.length := by
  obtain ⟨ms, h1, h2⟩ := cut_ints ns none (some i)
  refine ⟨ms, ?_, h2⟩
  show some (mkL (cutL (ns.map Vl.int) none (some i))) = _
  rw [h1, mkL_ints]
theorem gAdd_ints (f g : Fl) (ns ms : List Int) (h : ns.length + ms.length ≤ 1000) : gAdd [.nd f .lst (ns.map Vl.int), .nd g .lst (ms.map Vl.int)] = some (.nd .own .lst ((ns ++ ms).map Vl.int)) := by
  show (if (ns.map Vl.int).length + (ms.map Vl.int).length ≤ PySem.sizeLine then some (mkL (ns.map Vl.int ++ ms.map Vl.int)) else none) = _
  have hz := sz16
  rw [if_pos (by rw [List.length_map, List.length_map]; omega), ← List.map_append, mkL_ints]
theorem gList_ints (f : Fl) (ns : List Int) : gList [.nd f .lst (ns.map Vl.int)] = some (.nd .own .lst (ns.map Vl.int)) := by
  show some (mkL _) = _
  rw [mkL_ints]
end PyI

namespace L2
open PySem PySem.Spec PyProof.Rows
/-- what 'except x as n' wishes of an exception of the body: the exception stands in the heap behind it -/
def wAsT (K : PySem.W.Frag) (c : Value) (i : Nat) (ts : Addr → Value → TS) (Wout : WX) (D : Ends) : WX := fun cls d σ H =>
  ∃ b, PySem.W.exmOne K cls c = some b ∧ (b = true → d = none ∧ ∀ a, H a = none → ts a cls { nx := fun σ' H' => D.nx (σ'.set i none) H', rt := D.rt, bk := fun σ' H' => D.bk (σ'.set i none) H', ct := fun σ' H' => D.ct (σ'.set i none) H' } (σ.set i (some (.ref a))) (upd H a (PyI.ExT cls a))) ∧
    (b = false → Wout cls d σ H)
section
variable {X : Cx} {pins : List (Addr × Obj)} {σ : St} {H : Hp} {s : Shared}
theorem Inv.suiteT {a : Addr} {oe : Obj} {vs : Array Value} {cls : Value} (I : Inv X pins σ H s) (ha : s.heap.get? a = some oe) (hz : Zc cls none oe) (hd : oe.data = .fields vs) (na : H a = none) (nL : a ≠ X.env.locals) (nC : ∀ x c, X.env.cells.lookup x = some c → c ≠ a) (n0 : X.s_0.heap.get? a = none) (nP : ∀ p ∈ X.pn ++ pins, p.1 ≠ a) :
    Inv (X.suite a (X.pn ++ pins)) [] σ (upd H a (PyI.ExT cls a)) s := by
  have ne0 : ∀ b o, X.s_0.heap.get? b = some o → b ≠ a := fun b o e z => by rw [z, n0] at e; cases e
  refine ⟨I.ok.suite _ _, I.os, I.bare, ⟨I.base.keep, I.base.slot, fun b o e n hb => ?_, I.base.there, fun b xs e => ?_, fun b o u e => ?_, fun b ps e => ?_⟩, I.loc, I.cell, ?_, fun x c e => ?_, fun p hp => ?_, fun b o e => ?_, I.len⟩
  · rw [upd_ne (ne0 b o e)]; exact I.base.free b o e n hb
  · have q := I.base.tups b xs e
    rw [upd_ne (ne_of_none q na)]; exact q
  · have q := I.base.frzs b o u e
    rw [upd_ne (ne_of_none q na)]; exact q
  · obtain ⟨m, q⟩ := I.base.tbls b ps e
    exact ⟨m, by rw [upd_ne (ne_of_none q na)]; exact q⟩
  · rw [upd_ne (Ne.symm nL)]; exact I.free
  · rw [upd_ne (nC x c e)]; exact I.freeC x c e
  · rw [List.append_nil] at hp
    obtain ⟨e, n, ne, nf, d⟩ := I.pin p hp
    exact ⟨e, by rw [upd_ne (nP p hp)]; exact n, ne, nf, d⟩
  · by_cases hb : b = a
    · subst hb
      rw [upd_same] at e
      cases e
      exact ⟨⟨oe, ha, hz, vs, hd⟩, ⟨oe, ha⟩, fun _ _ ⟨o, v, q⟩ k => ⟨o, k o v, q⟩⟩
    · rw [upd_ne hb] at e
      exact (I.hok b o e).stay (fun c v _ q => q) (fun c q => by rw [upd_ne (ne_of_none q na)]; exact q) fun c xs q => by rw [upd_ne (ne_of_none q na)]; exact q
theorem Inv.unsuiteT {a : Addr} {pn' : List (Addr × Obj)} (I : Inv (X.suite a (X.pn ++ pins)) pn' σ H s) (ok : X.Ok) : Inv X pins σ H s :=
  ⟨ok, I.os, I.bare, I.base, I.loc, I.cell, I.free, I.freeC, fun p hp => I.pin p (List.mem_append_left _ hp), I.hok, I.len⟩
end
section
variable {X : Cx} {x n : Str} {c : Value} {i : Nat} {body suite : List Stmt} {b₀ : Stmt} {np pos pos' : Pos} {tb : WX → TS} {ts : Addr → Value → TS} {Wout : WX}
theorem ps_try_asT (hs : X.stack = X.env :: X.outer) (hf : X.env.frame = some X.env.locals) (hex : X.ex = []) (hN : X.N.Nodup) (hi : X.N[i]? = some n) (hln : X.env.kindOf n = some .local) (hc : Names X x c) (tk : Takes X Wout)
    (hb : ∀ (W : WX) (pn : List (Addr × Obj)) (xe : Value → Shared → Prop), Takes (X.tr pn xe) W → PassesOwn (model X.prog X.w) X.A X.env xe → PSs (X.tr pn xe) body (tb W))
    (hsu : ∀ (a : Addr) (cls : Value) (pn : List (Addr × Obj)), PSs (X.suite a pn) (b₀ :: suite) (ts a cls)) :
    PS X (.Try body [.ExceptHandler (some (.Name x np)) (some n) (b₀ :: suite) pos'] [] [] pos) (fun D σ H => tb (wAsT X.K c i ts Wout D) D σ H) := by
  refine ⟨fun pins s σ H D I h => ?_⟩
  have ok := I.ok
  have hfr : X.A.frames = some (X.env :: X.outer) := by rw [ok.frames, hs]
  have hloc : Loc X.env.scope n := .inl hln
  refine wpAny_Try_except ?_
  refine wpAny_mono ((hb (wAsT X.K c i ts Wout D) (X.pn ++ pins) (fun e s₁ => wpAny (model X.prog X.w) X.A (noteFrame e X.env) (fun _ s₂ => wpAny (model X.prog X.w) X.A (setFlight e none) (fun _ s₃ =>
    wpAny (model X.prog X.w) X.A (handleBy e X.env [.ExceptHandler (some (.Name x np)) (some n) (b₀ :: suite) pos']) (SP X pins D) X.xe s₃) X.xe s₂) X.xe s₁) (fun u s' xx => ?_) PassesOwn.looking).run [] s σ H D (I.toTry _) h) (fun f s1 hsp => ?_) (fun e s1 he => he)
  · obtain ⟨a, B, sI, pins', σ', H', cls, d, rfl, J', nb, up, sky, na, os, ag, b, hb1, hyes, hno⟩ := xx
    have J : Inv X pins σ' H' sI := J'.ofTry ok
    have sky' : Sky B (X.env :: X.outer) a (Zc cls d) X.env.locals s'.heap := by rw [← hs]; exact sky
    show wpAny (model X.prog X.w) X.A (noteFrame (.ref a) X.env) _ _ _
    refine Sky.land Zc.steady hfr hf sky' fun h3 fl3 up3 => ?_
    have J3 : Inv X pins σ' H' { s' with heap := h3 } := J.landed nb fl3.1 (up.trans up3) os ag
    obtain ⟨oe3, vs3, he3, hz3, hd3⟩ := fl3.there
    have notFr : ∀ {h : Heap} {o : Obj} {vs : Array Value}, h.FunFrames B (X.env :: X.outer) → h.get? a = some o → o.data = .fields vs → a ∉ frs (X.env :: X.outer) := fun {h o vs} ff e dd hm => by
      obtain ⟨_, o', e', hnf⟩ := ff.mem hm
      rw [e] at e'; cases e'
      exact hnf _ dd
    have nfr := notFr fl3.2.2.1 he3 hd3
    have nL : a ≠ X.env.locals := fun z => nfr (List.mem_filterMap.mpr ⟨X.env, List.mem_cons_self, by rw [hf, z]⟩)
    have nF : a ∉ X.fs := fun hm => by
      obtain ⟨e, he, q⟩ := List.mem_filterMap.mp hm
      exact nfr (List.mem_filterMap.mpr ⟨e, List.mem_cons_of_mem _ he, q⟩)
    have nB : B.get? a = none := fl3.2.1
    have noI : sI.heap.get? a = none := by
      cases e : sI.heap.get? a with
      | none => rfl
      | some o =>
        have := nb a o e (by rw [hs]; exact nfr)
        rw [nB] at this
        cases this
    have n0 : X.s_0.heap.get? a = none := by
      cases e : X.s_0.heap.get? a with
      | none => rfl
      | some o =>
        obtain ⟨o', q⟩ := J.base.there a o e (by rw [hex]; exact fun z => nomatch z)
        rw [noI] at q
        cases q
    have S3 := J3.suite he3 hd3 na nL nF
    refine wpAny_handleBy_cons (codeAny_handlers_test ?_) (by intro q; cases q)
    have LT : PySem.W.Looks (model X.prog X.w) h3 (typeOf (.ref a)) cls := fun A Q E s k q => wpAny_typeOf_ref (k _ _ he3) (by rw [hz3.1]; exact q)
    have LM := PySem.W.exm_one (M := model X.prog X.w) (J3.kIn) LT hb1
    have test : ∀ {Q : Value → Shared → Prop} {E : Value → Shared → Prop}, Q c { s' with heap := h3 } → wpAny (model X.prog X.w) (X.A.mark (some (.ref a))) (eval (.Name x np) X.env) Q E { s' with heap := h3 } := fun {Q E} q => by
      obtain ⟨hg, hdbg, hm | ⟨hm, hv, hnn⟩⟩ := hc
      · exact ld_glob (X := X.suite a ((a, oe3) :: (X.pn ++ pins))) S3 hg hm q hdbg
      · exact ld_blt (X := X.suite a ((a, oe3) :: (X.pn ++ pins))) S3 hg hm hv q hnn hdbg
    refine test (LM.here ?_)
    cases b with
    | true =>
      obtain ⟨hd0, hy2⟩ := hyes rfl
      subst hd0
      refine codeAny_handlers_suite_as ?_
      refine HandSPX.lands_againZ fl3 fun h4 fl4 up4 => ?_
      have J4 : Inv X pins σ' H' { s' with heap := h4 } := J.landed nb fl4.1 ((up.trans up3).trans up4) os ag
      obtain ⟨oe4, vs4, he4, hz4, hd4⟩ := fl4.there
      have S4 := J4.suiteT (a := a) he4 hz4 hd4 na nL (fun y c e z => by
        obtain ⟨v, o, q, _⟩ := J.cell y c e
        rw [z, noI] at q
        cases q) n0 fun p hp z => by
          obtain ⟨e, _⟩ := J.pin p hp
          rw [z, noI] at e
          cases e
      refine store_ok (X := X.suite a (X.pn ++ pins)) (v := .ref a) S4 hN hi hloc rfl (fun s5 S5 => ?_) (.inr hln)
      refine wpAny_mono ((hsu a cls (X.pn ++ pins)).run [] s5 _ _ _ S5 (hy2 a na)) (fun f s6 hsp => ?_) (fun _ _ z => False.elim z)
      have end_ : ∀ {σ6 : St} {H6 : Hp} {Q : Shared → Prop}, Inv (X.suite a (X.pn ++ pins)) [] σ6 H6 s6 → (∀ s7, Inv X pins (σ6.set i none) H6 s7 → Q s7) →
          wpAny (model X.prog X.w) X.A (do bindName X.env n .none; unbindBehindTheSuite X.env n pos') (fun _ s7 => Q s7) X.xe s6 := fun {σ6 H6 Q} S6 hq => gone_ok (S6.unsuiteT ok) hN hi hln hq
      cases f with
      | next =>
        obtain ⟨σ6, H6, S6, q6⟩ := hsp
        exact end_ S6 fun s7 J7 => ⟨_, _, J7, q6⟩
      | brk =>
        obtain ⟨σ6, H6, S6, q6⟩ := hsp
        exact end_ S6 fun s7 J7 => ⟨_, _, J7, q6⟩
      | cont =>
        obtain ⟨σ6, H6, S6, q6⟩ := hsp
        exact end_ S6 fun s7 J7 => ⟨_, _, J7, q6⟩
      | ret u =>
        obtain ⟨v6, σ6, H6, S6, r6, q6⟩ := hsp
        exact end_ S6 fun s7 J7 => ⟨_, _, _, J7, r6, q6⟩
    | false =>
      show wpAny _ X.A (handleBy (.ref a) X.env []) _ _ _
      refine wpAny_handleBy_nil ?_
      obtain ⟨k1, k2, k3, oe, vs, T, oT, ts', he, hz, hd, h1, hr⟩ := id fl3
      unfold PySem.passOn
      refine wpAny_bind (wpAny_field he hd h1 ?_)
      rw [if_neg (show ¬ ((Value.ref T == Value.none) = true) from by simp)]
      have fin : wpAny (model X.prog X.w) X.A (setFlight (.ref a) X.env.frame) (fun _ s4 => wpAny (model X.prog X.w) X.A (throw (.ref a) : Sem Flow) (SP X pins D) X.xe s4) X.xe { s' with heap := h3 } := by
        rw [hf]
        refine HandSPX.setFlight_upZ fl3 fun h4 hh4 up4 => wpAny_throw (tk _ _ ?_)
        exact ⟨a, B, sI, pins, σ', H', cls, d, rfl, J, nb, (up.trans up3).trans up4, .inr (.inr (by rw [hs]; exact hh4)), na, os, ag, hno rfl⟩
      first
        | exact wpAny_bind (wpAny_pure (wpAny_bind fin))
        | exact wpAny_bind fin
  · cases f with
    | next =>
      obtain ⟨σ', H', J', q⟩ := hsp
      exact wpAny_execs_nil ⟨σ', H', J'.ofTry ok, q⟩
    | brk =>
      obtain ⟨σ', H', J', q⟩ := hsp
      exact ⟨σ', H', J'.ofTry ok, q⟩
    | cont =>
      obtain ⟨σ', H', J', q⟩ := hsp
      exact ⟨σ', H', J'.ofTry ok, q⟩
    | ret u =>
      obtain ⟨v, σ', H', J', r, q⟩ := hsp
      exact ⟨v, σ', H', J'.ofTry ok, r, q⟩
end
end L2
namespace PyI
open PySem PySem.Spec PyProof.Rows L2
/-! ### try -/
def clrS (i : Nat) (s : Sta) : Sta := { s with sl := s.sl.set i none }
def tryC (kn : List Str) (i : Nat) (body suite : C) : C := fun st => match body st with
  | .exc cl s1 => if kn.contains cl && decide (i < s1.sl.length) && !s1.la.contains i then (match suite { s1 with sl := s1.sl.set i (some (.sym (.exc cl))) } with
      | .nx s => if s.la.contains i then .bad else .nx (clrS i s)
      | .bk s => if s.la.contains i then .bad else .bk (clrS i s)
      | .ct s => if s.la.contains i then .bad else .ct (clrS i s)
      | .rt v s => .rt v s
      | _ => .bad) else .bad
  | z => z
section
variable {K : PySem.W.Frag} {mg : Str → Option Value} {H : Hp} {F T : Addr → Prop} {as : List Addr} {L : List (Nat × V)} {st : Sta} {σ : L2.St} {c : Addr → Nat}
theorem RepSl.clr : ∀ {sl : List (Option Vl)} {σ : L2.St} {c : Addr → Nat} (i : Nat), RepSl K mg H F T as sl σ c → ∃ c', RepSl K mg H F T as (sl.set i none) (σ.set i none) c' ∧ ∀ b, c' b ≤ c b
  | _, _, _, i, .nil hc => ⟨_, .nil hc, fun _ => Nat.le_refl _⟩
  | _, _, _, 0, .no s => ⟨_, .no s, fun _ => Nat.le_refl _⟩
  | _, _, _, i + 1, .no s => by
    obtain ⟨c', h1, h2⟩ := s.clr i
    exact ⟨c', .no h1, h2⟩
  | _, _, _, 0, .yes r nt s hc => ⟨_, .no s, fun b => by rw [hc]; omega⟩
  | _, _, _, i + 1, .yes r nt s hc => by
    obtain ⟨c', h1, h2⟩ := s.clr i
    exact ⟨_, .yes r nt h1 (fun _ => rfl), fun b => by rw [hc]; have := h2 b; omega⟩
theorem Rel.clr (r : Rel K mg F T as L st σ H c) {i : Nat} (hl : st.la.contains i = false) : ∃ c', Rel K mg F T as L (clrS i st) (σ.set i none) H c' ∧ ∀ b, c' b ≤ c b := by
  obtain ⟨d1, d2, h1, h2, h3, h4⟩ := r.rep
  obtain ⟨d3, s3, k3⟩ := h1.clr i
  refine ⟨fun b => d3 b + d2 b, ⟨⟨d3, d2, s3, h2, h3, fun _ => rfl⟩, fun b => ?_, fun b q => ⟨?_, (r.fr b q).2⟩, r.lk.1, fun p hp => ?_⟩, fun b => ?_⟩
  · have := r.le b; have := k3 b; have := h4 b; show d3 b + d2 b ≤ 1; omega
  · have := (r.fr b q).1; have := k3 b; have := h4 b; show d3 b + d2 b = 0; omega
  · rw [List.getElem?_set_ne]
    · exact r.lk.2 p hp
    · intro e
      have hm : i ∈ st.la := by rw [r.lk.1, e]; exact List.mem_map_of_mem hp
      rw [List.contains_eq_mem, decide_eq_true hm] at hl
      cases hl
  · have := k3 b; have := h4 b; show d3 b + d2 b ≤ c b; omega
end
theorem takesF {X : Cx} : Takes X (fun _ _ _ _ => False) := fun _ _ ⟨_, _, _, _, _, _, _, _, _, _, _, _, _, _, _, _, w⟩ => w.elim
section
variable {X : Cx} {x n : Str} {c : Value} {i : Nat} {body suite : List Stmt} {b₀ : Stmt} {np pos pos' : Pos} {f g : C} {kn : List Str}
theorem SOk.try_ (hN : X.N.Nodup) (hx : ∀ cl, kn.contains cl = true → ∀ C, X.mg cl = some (.ref C) → PySem.W.exmOne X.K (.ref C) c = some true) (hc : Names X x c)
    (hb : ∀ (pn : List (Addr × Obj)) (xe : Value → Shared → Prop), PassesOwn (model X.prog X.w) X.A X.env xe → SsOk (X.tr pn xe) body f)
    (hsu : ∀ (a : Addr) (pn : List (Addr × Obj)), SsOk (X.suite a pn) (b₀ :: suite) g)
    (hs : X.stack = X.env :: X.outer := by rfl) (hf : X.env.frame = some X.env.locals := by rfl) (hex : X.ex = [] := by rfl) (hi : X.N[i]? = some n := by rfl) (hln : X.env.kindOf n = some .local := by rfl) :
    SOk X (.Try body [.ExceptHandler (some (.Name x np)) (some n) (b₀ :: suite) pos'] [] [] pos) (tryC kn i f g) := fun W t =>
  (ps_try_asT (tb := fun W' => SI X.K X.mg W' f) (ts := fun _ _ => SI X.K X.mg (fun _ _ _ _ => False) g) hs hf hex hN hi hln hc t (fun W' pn xe t' po => hb pn xe po W' t') (fun a cls pn => hsu a pn _ takesF)).imp fun D σ H h => by
    obtain ⟨F, T, as, L, st, c0, r, p⟩ := h
    refine ⟨F, T, as, L, st, c0, r, ?_⟩
    unfold tryC at p
    cases e1 : f st with
    | nx s => rw [e1] at p; exact p
    | bk s => rw [e1] at p; exact p
    | ct s => rw [e1] at p; exact p
    | rt v s => rw [e1] at p; exact p
    | bad => rw [e1] at p; exact p
    | exc cl s1 =>
      rw [e1] at p
      simp only at p
      split at p
      · rename_i hk
        simp only [Bool.and_eq_true, decide_eq_true_eq, Bool.not_eq_true'] at hk
        intro F1 as1 σ1 H1 c1 r1 s1' p1 C hC
        refine ⟨true, hx cl hk.1.1 C hC, fun _ => ⟨rfl, fun a na => ?_⟩, fun z => nomatch z⟩
        have sm : Same H1 (upd H1 a (ExT (.ref C) a)) := same_new na
        have r2 := r1.same sm
        have fl : Fly X.K X.mg F1 T as1 L s1 σ1 (upd H1 a (ExT (.ref C) a)) c1 (fun _ => 0) := ⟨r2, r2.refl, fun _ _ => rfl⟩
        have rv : Rep X.K X.mg (upd H1 a (ExT (.ref C) a)) F1 T as1 (.sym (.exc cl)) (.ref a) (fun _ => 0) := .sym ⟨C, a, hC, rfl, upd_same⟩ fun _ => rfl
        obtain ⟨c', r3, k3⟩ := fl.store rv rfl hk.1.2 hk.2
        have sb : Step F c0 H F1 c' (upd H1 a (ExT (.ref C) a)) := ⟨fun b o e q => sm _ _ (s1'.keep b o e q), fun b q => s1'.grow b (by have := k3 b; have : c' b ≤ c1 b + 0 := this; omega), r3.le, s1'.sub, fun b q => by have := s1'.dis b q; have := k3 b; have : c' b ≤ c1 b + 0 := this; omega, s1'.fgr, fun b q => PyI.Same.trk sm b (s1'.trk b q)⟩
        refine ⟨F1, T, as1, L, _, c', r3, ?_⟩
        cases e2 : g { s1 with sl := s1.sl.set i (some (.sym (.exc cl))) } with
        | bad => rw [e2] at p; exact p
        | exc cl2 s => rw [e2] at p; exact (show False from p).elim
        | rt v s => rw [e2] at p; exact SPost.back p sb p1
        | nx s =>
          rw [e2] at p
          simp only at p
          split at p
          · exact (show False from p).elim
          · rename_i hl
            intro F2 as2 σ2 H2 c2 r4 s4 p4
            obtain ⟨c5, r5, k5⟩ := r4.clr (i := i) (by simpa using hl)
            exact SPost.back p sb p1 F2 as2 _ H2 c5 r5 (s4.less k5) p4
        | bk s =>
          rw [e2] at p
          simp only at p
          split at p
          · exact (show False from p).elim
          · rename_i hl
            intro F2 as2 σ2 H2 c2 r4 s4 p4
            obtain ⟨c5, r5, k5⟩ := r4.clr (i := i) (by simpa using hl)
            exact SPost.back p sb p1 F2 as2 _ H2 c5 r5 (s4.less k5) p4
        | ct s =>
          rw [e2] at p
          simp only at p
          split at p
          · exact (show False from p).elim
          · rename_i hl
            intro F2 as2 σ2 H2 c2 r4 s4 p4
            obtain ⟨c5, r5, k5⟩ := r4.clr (i := i) (by simpa using hl)
            exact SPost.back p sb p1 F2 as2 _ H2 c5 r5 (s4.less k5) p4
      · exact (show False from p).elim
end
end PyI

namespace PyI
open PySem PySem.Spec PyProof.Rows L2
/-! ### isinstance of a caught exception -/
def rIsX (K : PySem.W.Frag) : List V → Hp → VK → Prop := fun xs H Q => ∃ a D c, xs = [.ref a, c] ∧ H a = some (ExT (.ref D) a) ∧ L2.ExcC K D ∧
  ((∃ cv b, ClsV c cv ∧ PySem.W.kitOne K (.ref D) cv = some b ∧ Q (.bl b) H) ∨ (∃ tp cs us b, c = .ref tp ∧ SqT K H tp cs ∧ Paired ClsV cs us ∧ PySem.W.kitAny K (.ref D) us = some b ∧ Q (.bl b) H))
theorem call_isX {X : Cx} : CallR X (.builtin "isinstance") (rIsX X.K) := by
  intro pins s σ H xs us Q I r h
  obtain ⟨a, D, c, rfl, ha, C, h⟩ := h
  obtain ⟨u1, u2, rfl, r1, r2⟩ := vals2 r
  cases (show u1 = Value.ref a from r1)
  obtain ⟨⟨oe, hget, hz, hv⟩, _, _⟩ := I.hok a _ ha
  have J : PySem.W.InstAt s.heap a oe D none := by
    obtain ⟨vs, hv⟩ := hv
    obtain ⟨oc, od, oda, osl⟩ := oe
    obtain ⟨h1, h2⟩ := hz
    dsimp only at h1 h2 hv
    subst h1 h2 hv
    exact ⟨hget, rfl, rfl, trivial⟩
  rcases h with ⟨cv, b, k, e, q⟩ | ⟨tp, cs, ws, b, rfl, hT, k, e, q⟩
  · have e2 := k.eq r2
    subst e2
    exact PySem.W.kia_one (PySem.W.handS_kitx_exc C.hg C.hk C.hs C.hd C.ha C.hn C.ht C.hm) I.kIn J e (fun z => nomatch z) fun tk => ⟨.bl b, H, I.tok tk, rfl, q⟩
  · cases (show u2 = Value.ref tp from r2)
    obtain ⟨its, rv, ⟨o, h1, h2, n, h3⟩, _⟩ := I.tuple hT
    have e3 := ClsV.all k rv
    subst e3
    obtain ⟨oc, od, dt, sl⟩ := o
    simp only at h2 h3
    subst h2 h3
    exact PySem.W.kia_tup (PySem.W.handS_kitx_exc C.hg C.hk C.hs C.hd C.ha C.hn C.ht C.hm) I.kIn J h1 e (fun z => nomatch z) fun tk => ⟨.bl b, H, I.tok tk, rfl, q⟩
def isX (d c : Str) : Bool := d == c || c == "PairError"
def isX1 (cs : List Str) (d : Str) : Vl → Option Bool
  | .sym (.cls c) => if cs.contains c then some (isX d c) else none
  | .sym (.ty n) => if n == "ValueError" then some true else none
  | _ => none
def isXs (cs : List Str) (d : Str) : List Vl → Option Bool
  | [] => some false
  | v :: r => match isX1 cs d v with
    | some true => some true
    | some false => isXs cs d r
    | none => none
def clsOk : List Vl → Bool
  | [] => true
  | .sym (.cls _) :: r => clsOk r
  | .sym (.ty _) :: r => clsOk r
  | _ => false
def gIsX (ds cs : List Str) : List Vl → Option Vl
  | [.sym (.exc d), .tup vs] => if ds.contains d && clsOk vs then (isXs cs d vs).map .bl else none
  | [.sym (.exc d), v] => if ds.contains d then (isX1 cs d v).map .bl else none
  | _ => none
/-- what the written part says of the classes ds (raised) and cs (asked for) -/
def KX (K : PySem.W.Frag) (mg : Str → Option Value) (ds cs : List Str) : Prop := ∀ d, ds.contains d = true → ∀ D, mg d = some (.ref D) → L2.ExcC K D ∧ PySem.W.kitOne K (.ref D) (.type "ValueError") = some true ∧ ∀ c, cs.contains c = true → ∀ C, mg c = some (.ref C) → PySem.W.kitOne K (.ref D) (.ref C) = some (isX d c)
theorem KX.nil {K : PySem.W.Frag} {mg : Str → Option Value} {cs : List Str} : KX K mg [] cs := fun d h => by simp at h
def KX1 (K : PySem.W.Frag) (mg : Str → Option Value) (d : Str) (cs : List Str) : Prop := ∀ D, mg d = some (.ref D) → ∀ c, cs.contains c = true → ∀ C, mg c = some (.ref C) → PySem.W.kitOne K (.ref D) (.ref C) = some (isX d c)
theorem KX1.nil {K : PySem.W.Frag} {mg : Str → Option Value} {d : Str} : KX1 K mg d [] := fun D _ c h => by simp at h
theorem KX1.cons {K : PySem.W.Frag} {mg : Str → Option Value} {d c : Str} {cs : List Str} {D C : Addr} {b : Bool} (hd : mg d = some (.ref D)) (hc : mg c = some (.ref C)) (h : PySem.W.kitOne K (.ref D) (.ref C) = some b) (hb : isX d c = b) (r : KX1 K mg d cs) : KX1 K mg d (c :: cs) := fun D' e1 c' e2 C' e3 => by
  rw [hd] at e1
  cases e1
  rw [List.contains_cons, Bool.or_eq_true] at e2
  rcases e2 with e2 | e2
  · have := eq_of_beq e2
    subst this
    rw [hc] at e3
    cases e3
    rw [h, hb]
  · exact r D hd c' e2 C' e3
theorem KX.cons {K : PySem.W.Frag} {mg : Str → Option Value} {d : Str} {ds cs : List Str} {D : Addr} (hd : mg d = some (.ref D)) (E : L2.ExcC K D) (v : PySem.W.kitOne K (.ref D) (.type "ValueError") = some true) (h : KX1 K mg d cs) (r : KX K mg ds cs) : KX K mg (d :: ds) cs := fun d' e1 D' e2 => by
  rw [List.contains_cons, Bool.or_eq_true] at e1
  rcases e1 with e1 | e1
  · have := eq_of_beq e1
    subst this
    rw [hd] at e2
    cases e2
    exact ⟨E, v, h D hd⟩
  · exact r d' e1 D' e2
section
variable {K : PySem.W.Frag} {mg : Str → Option Value} {H : Hp} {F T : Addr → Prop} {as : List Addr} {ds cs : List Str}
theorem isX1_ok {d : Str} {D : Addr} {v : Vl} {x : V} {c : Addr → Nat} {b : Bool} (k : KX K mg ds cs) (hd : ds.contains d = true) (hD : mg d = some (.ref D)) (r : Rep K mg H F T as v x c) (e : isX1 cs d v = some b) : ∃ cv, ClsV x cv ∧ PySem.W.kitOne K (.ref D) cv = some b := by
  obtain ⟨_, kv, kc⟩ := k d hd D hD
  unfold isX1 at e
  split at e
  · split at e
    · rename_i c' hc
      cases e
      cases r with
      | sym h _ =>
        obtain ⟨C, h1, rfl⟩ := h
        exact ⟨_, .own C, kc _ hc C h1⟩
    · cases e
  · split at e
    · rename_i n hn
      cases e
      have := eq_of_beq hn
      subst this
      cases r with
      | sym h _ =>
        cases (show x = .ty "ValueError" from h)
        exact ⟨_, .ty _, kv⟩
    · cases e
  · cases e
theorem isXs_ok {d : Str} {D : Addr} (k : KX K mg ds cs) (hd : ds.contains d = true) (hD : mg d = some (.ref D)) : ∀ {vs : List Vl} {xs : List V} {c : Addr → Nat} {b : Bool}, Reps K mg H F T as vs xs c → clsOk vs = true → isXs cs d vs = some b → ∃ us, Paired ClsV xs us ∧ PySem.W.kitAny K (.ref D) us = some b
  | [], _, _, b, .nil _, _, e => ⟨[], .nil, e⟩
  | v :: vs, _, _, b, .cons r s _, ok, e => by
    have cv : ∀ {v : Vl} {vs : List Vl} {x : V} {c : Addr → Nat}, clsOk (v :: vs) = true → Rep K mg H F T as v x c → (∃ u, ClsV x u) ∧ clsOk vs = true := by
      intro v vs x c ok r
      unfold clsOk at ok
      split at ok
      · rename_i h; cases h
      · rename_i h
        cases h
        cases r with
        | sym h _ =>
          obtain ⟨C, h1, rfl⟩ := h
          exact ⟨⟨_, .own C⟩, ok⟩
      · rename_i h
        cases h
        cases r with
        | sym h _ =>
          cases (show x = .ty _ from h)
          exact ⟨⟨_, .ty _⟩, ok⟩
      · cases ok
    have rest : ∀ {vs : List Vl} {xs : List V} {c : Addr → Nat}, Reps K mg H F T as vs xs c → clsOk vs = true → ∃ us, Paired ClsV xs us := by
      intro vs
      induction vs with
      | nil => intro xs c r _; cases r; exact ⟨[], .nil⟩
      | cons v vs ih =>
        intro xs c r ok
        cases r with
        | cons r s _ =>
          obtain ⟨⟨u, hu⟩, ok2⟩ := cv ok r
          obtain ⟨us, hus⟩ := ih s ok2
          exact ⟨_, .cons hu hus⟩
    unfold isXs at e
    cases e1 : isX1 cs d v with
    | none => rw [e1] at e; cases e
    | some b1 =>
      rw [e1] at e
      obtain ⟨u, hu, hk⟩ := isX1_ok k hd hD r e1
      obtain ⟨_, ok2⟩ := cv ok r
      cases b1 with
      | true =>
        cases e
        obtain ⟨us, hus⟩ := rest s ok2
        exact ⟨u :: us, .cons hu hus, by unfold PySem.W.kitAny; rw [hk]⟩
      | false =>
        obtain ⟨us, hus, hk2⟩ := isXs_ok k hd hD s ok2 e
        exact ⟨u :: us, .cons hu hus, by unfold PySem.W.kitAny; rw [hk]; exact hk2⟩
theorem gop_isx (k : KX K mg ds cs) : GOp K mg (gIsX ds cs) (rIsX K) := by
  intro H F T as vs xs c v Q r hl e fin
  unfold gIsX at e
  split at e
  · split at e
    · rename_i d ws hd
      obtain ⟨b, e1, e2⟩ := Option.map_eq_some_iff.mp e
      subst e2
      simp only [Bool.and_eq_true] at hd
      obtain ⟨x, y, c1, c2, rfl, r1, r2, _⟩ := r.inv2
      cases r1 with
      | sym h _ =>
        obtain ⟨D, a, hD, rfl, ha⟩ := h
        obtain ⟨tp, ys, rfl, hT, s⟩ := r2.inv_tup
        obtain ⟨us, h1, h2⟩ := isXs_ok k hd.1 hD s hd.2 e1
        exact ⟨a, D, _, rfl, ha, (k d hd.1 D hD).1, .inr ⟨tp, ys, us, b, rfl, hT, h1, h2, fin.bl⟩⟩
    · cases e
  · split at e
    · rename_i d w nt hd
      obtain ⟨b, e1, e2⟩ := Option.map_eq_some_iff.mp e
      subst e2
      obtain ⟨x, y, c1, c2, rfl, r1, r2, _⟩ := r.inv2
      cases r1 with
      | sym h _ =>
        obtain ⟨D, a, hD, rfl, ha⟩ := h
        obtain ⟨cv, h1, h2⟩ := isX1_ok k hd hD r2 e1
        exact ⟨a, D, _, rfl, ha, (k d hd D hD).1, .inl ⟨cv, b, h1, h2, fin.bl⟩⟩
    · cases e
  · cases e
end
section
variable {X : Cx} {e e2 : Expr} {fs : List E} {p pos : Pos} {x : Str}
theorem EOk.isx {ds cs : List Str} (k : KX X.K X.mg ds cs) (hm : X.mg "isinstance" = none) (ha : AOk X [e, e2] fs) (hgl : Gl X "isinstance" := by rfl) (he : starEach [e, e2] X.env = (false, eval e X.env) :: starEach [e2] X.env := by rfl) (hpl : (backTo pos (starEach [e2] X.env)).any (·.1) = false := by rfl) : EOk X (.Call (.Name "isinstance" p) [e, e2] [] pos) (opE (gIsX ds cs) fs) :=
  .callB call_isX (gop_isx k) hgl hm (by decide +kernel) ha (by decide) (by decide) he hpl
/-- an own class, by its name -/
def ClsG (mg : Str → Option Value) (x : Str) : Prop := ∃ C, mg x = some (.ref C)
theorem EOk.own (h : ClsG X.mg x) (hg : Gl X x := by rfl) (hd : (x == ("__debug__" : Str)) = false := by decide) : EOk X (.Name x pos) (cstE (.sym (.cls x))) := by
  obtain ⟨C, h⟩ := h
  exact EOk.glob (y := .ref C) hg h rfl (fun _ _ _ _ => .sym ⟨C, h, rfl⟩ fun _ => rfl) hd
end
/-! ### a def as a value, called -/
def FnG (mg : Str → Option Value) (x : Str) : Prop := ∃ C, mg x = some (.ref C)
theorem EOk.fnv {X : Cx} {x : Str} {pos : Pos} (h : FnG X.mg x) (hg : Gl X x := by rfl) (hd : (x == ("__debug__" : Str)) = false := by decide) : EOk X (.Name x pos) (cstE (.sym (.fn x))) := by
  obtain ⟨C, h⟩ := h
  exact EOk.glob (y := .ref C) hg h rfl (fun _ _ _ _ => .sym ⟨C, h, rfl⟩ fun _ => rfl) hd
end PyI

namespace PyI
open PySem PySem.Spec PyProof.Rows L2
/-! ### in, not in, index: of data -/
def anyEq (d : PyData) (ds : List PyData) : Bool := ds.any fun z => PyData.eqv z d
def gIn : List Vl → Option Vl
  | [a, .nd _ .lst xs] => match pyOf a, pysOf xs with
    | some d, some ds => if SeqAt.shaped d && SeqAt.shaped (.list ds) then some (.bl (anyEq d ds)) else none
    | _, _ => none
  | _ => none
def gNin : List Vl → Option Vl
  | [a, .nd _ .lst xs] => match pyOf a, pysOf xs with
    | some d, some ds => if SeqAt.shaped d && SeqAt.shaped (.list ds) then some (.bl (!anyEq d ds)) else none
    | _, _ => none
  | _ => none
/-- the first place -/
def firstEq (d : PyData) : List PyData → Option Nat
  | [] => none
  | z :: r => if PyData.eqv z d then some 0 else (firstEq d r).map (· + 1)
theorem firstEq_ok {d : PyData} : ∀ {ds : List PyData} {j : Nat}, firstEq d ds = some j → ∃ z, ds[j]? = some z ∧ PyData.eqv z d = true ∧ ∀ (m : Nat) (z' : PyData), m < j → ds[m]? = some z' → PyData.eqv z' d = false
  | [], _, h => by cases h
  | z :: r, j, h => by
    unfold firstEq at h
    split at h
    · rename_i e
      cases h
      exact ⟨z, rfl, e, fun m z' hm _ => absurd hm (Nat.not_lt_zero _)⟩
    · rename_i e
      obtain ⟨k, h1, h2⟩ := Option.map_eq_some_iff.mp h
      subst h2
      obtain ⟨z1, a, b, c⟩ := firstEq_ok h1
      refine ⟨z1, a, b, fun m z' hm hz => ?_⟩
      cases m with
      | zero =>
        simp at hz
        subst hz
        simpa using e
      | succ m => exact c m z' (by omega) (by simpa using hz)
def gIdx : List Vl → Option Vl
  | [.nd _ .lst xs, a] => match pyOf a, pysOf xs with
    | some d, some ds => if SeqAt.shaped d && SeqAt.shaped (.list ds) then (firstEq d ds).map fun j => .int (j : Nat) else none
    | _, _ => none
  | _ => none
section
variable {K : PySem.W.Frag} {mg : Str → Option Value} {H : Hp} {F T : Addr → Prop} {as : List Addr}
theorem dp_list {f : Fl} {xs : List Vl} {x : V} {c : Addr → Nat} {ds : List PyData} (r : Rep K mg H F T as (.nd f .lst xs) x c) (e : pysOf xs = some ds) : Dp K H x (.list ds) := r.dp (by unfold pyOf; rw [e]; rfl)
theorem gop_in : GOp K mg gIn (fun xs H Q => ∃ x y, xs = [x, y] ∧ rInD K x y H Q) := by
  intro H F T as vs xs c v Q r hl e fin
  unfold gIn at e
  split at e
  · split at e
    · split at e
      · rename_i d ds e1 e2 hc
        cases e
        simp only [Bool.and_eq_true] at hc
        obtain ⟨x, y, c1, c2, rfl, r1, r2, _⟩ := r.inv2
        exact ⟨x, y, rfl, d, ds, r1.dp e1, dp_list r2 e2, hc.1, hc.2, fin.bl⟩
      · cases e
    · cases e
  · cases e
theorem gop_nin : GOp K mg gNin (fun xs H Q => ∃ x y, xs = [x, y] ∧ rNotInD K x y H Q) := by
  intro H F T as vs xs c v Q r hl e fin
  unfold gNin at e
  split at e
  · split at e
    · split at e
      · rename_i d ds e1 e2 hc
        cases e
        simp only [Bool.and_eq_true] at hc
        obtain ⟨x, y, c1, c2, rfl, r1, r2, _⟩ := r.inv2
        exact ⟨x, y, rfl, d, ds, r1.dp e1, dp_list r2 e2, hc.1, hc.2, fin.bl⟩
      · cases e
    · cases e
  · cases e
end
section
variable {X : Cx} {a b : Expr} {fa fb : E} {pos : Pos}
theorem EOk.in_ (hu : X.A.units + 65 < cLine) (ha : EOk X a fa) (hb : EOk X b fb) (hm : behindInMarks .In b = false := by rfl) : EOk X (.Compare a [.In] [b] pos) (opE gIn [fa, fb]) := .cmp (op_inD hu) gop_in ha hb hm
theorem EOk.nin (hu : X.A.units + 65 < cLine) (ha : EOk X a fa) (hb : EOk X b fb) (hm : behindInMarks .NotIn b = false := by rfl) : EOk X (.Compare a [.NotIn] [b] pos) (opE gNin [fa, fb]) := .cmp (op_notInD hu) gop_nin ha hb hm
theorem TOk.in_ (hu : X.A.units + 65 < cLine) (ha : EOk X a fa) (hb : EOk X b fb) (hm : behindInMarks .In b = false := by rfl) : TOk X (.Compare a [.In] [b] pos) (opE gIn [fa, fb]) := .cmp (op_inD hu) gop_in ha hb hm
theorem TOk.nin (hu : X.A.units + 65 < cLine) (ha : EOk X a fa) (hb : EOk X b fb) (hm : behindInMarks .NotIn b = false := by rfl) : TOk X (.Compare a [.NotIn] [b] pos) (opE gNin [fa, fb]) := .cmp (op_notInD hu) gop_nin ha hb hm
end
/-! ### x.index(y), x read alone -/
def isLV : Vl → Bool
  | .nd _ .lst _ => true
  | _ => false
/-- a list it must be -/
def lstE (f : E) : E := fun st => match f st with
  | .ok (v, st1, e) => if isLV v then .ok (v, st1, e) else .bad
  | .exc c s => .exc c s
  | .bad => .bad
theorem EI.lst {K : PySem.W.Frag} {mg : Str → Option Value} {W : WX} {f : E} {σ : L2.St} {H : Hp} {Q : VK} (h : EI K mg W (lstE f) σ H Q) : EI K mg W f σ H fun y H' => tyV K "list" y H' ∧ Q y H' := by
  obtain ⟨F, T, as, L, st, c, r, p⟩ := h
  refine ⟨F, T, as, L, st, c, r, ?_⟩
  unfold lstE at p
  cases e1 : f st with
  | bad => rw [e1] at p; exact p
  | exc cl s => rw [e1] at p; exact p
  | ok q =>
    obtain ⟨v, st1, f1⟩ := q
    rw [e1] at p
    simp only at p
    intro F1 as1 H1 x c1 c2 r1 rv s1 p1 ef
    split at p
    · rename_i hv
      unfold isLV at hv
      split at hv
      · obtain ⟨a, xs, c', rfl, h, _⟩ := rv.inv_lst
        exact ⟨.inl ⟨rfl, _, h⟩, p F1 as1 H1 _ c1 c2 r1 rv s1 p1 ef⟩
      · cases hv
    · exact (show False from p).elim
section
variable {X : Cx} {o e : Expr} {es : List Expr} {fo : E} {fs : List E} {g : List Vl → Option Vl} {m : Str} {id : String} {apos cpos : Pos}
/-- a method that only reads its list -/
theorem EOk.rmeth {r : V → List V → Hp → VK → Prop} (ho : EOk X o fo) (slot : Slot "list" m id) (hty : typeOf (.builtin id) = pure (.type "method_descriptor")) (hm : MtR X id r)
    (hg : GOp X.K X.mg g (fun xs H Q => ∃ x ys, xs = x :: ys ∧ r x ys H Q)) (ha : AOk X (e :: es) fs)
    (hbase : attributeBase o m X.env (eval o X.env) = eval o X.env := by rfl)
    (hfew : ((backTo cpos (starEach (e :: es) X.env)).all (fun x => !x.1) && (backToKw cpos (keywordEach [] X.env)).all (fun x => x.1.isSome)
      && decide ((e :: es).length + ([] : List Keyword).length + (if ([] : List Keyword).isEmpty then 0 else 1) < 30)) = true := by rfl)
    (hline : (apos.endLine == cpos.line) = true := by rfl) (hs : starEach (e :: es) X.env = (false, eval e X.env) :: starEach es X.env := by rfl) (hplain : (backTo cpos (starEach es X.env)).any (·.1) = false := by rfl) :
    EOk X (.Call (.Attribute o m apos) (e :: es) [] cpos) (opE g (lstE fo :: fs)) := fun W t =>
  (pe_bm PySem.F.plainAttrs_list slot hty hm (ho W t) (ha W t) hbase hfew hline hs hplain).imp fun σ H Q h =>
    (h.op hg).cons.lst.mono fun x H1 ⟨ty, q⟩ => ⟨ty, q.mono fun xs H2 ⟨x', ys, e, q⟩ => by cases e; exact q⟩
end
section
variable {K : PySem.W.Frag} {mg : Str → Option Value}
theorem gop_idx : GOp K mg gIdx (fun xs H Q => ∃ x ys, xs = x :: ys ∧ rIndexD K x ys H Q) := by
  intro H F T as vs xs c v Q r hl e fin
  unfold gIdx at e
  split at e
  · split at e
    · split at e
      · rename_i d ds e1 e2 hc
        obtain ⟨j, e3, e4⟩ := Option.map_eq_some_iff.mp e
        subst e4
        simp only [Bool.and_eq_true] at hc
        obtain ⟨x, y, c1, c2, rfl, r1, r2, _⟩ := r.inv2
        obtain ⟨z, h1, h2, h3⟩ := firstEq_ok e3
        have hd := dp_list r1 e2
        obtain ⟨a, ys, c', rfl, _, _, _⟩ := r1.inv_lst
        exact ⟨_, _, rfl, a, y, d, ds, j, z, rfl, rfl, hd, r2.dp e1, hc.2, hc.1, h1, h2, h3, fin.int⟩
      · cases e
    · cases e
  · cases e
end
/-! ### {} -/
def dctE : E := fun st => .ok (.nd .own (.dK []) [], st, false)
theorem EOk.dct {X : Cx} {pos : Pos} : EOk X (.Dict [] [] pos) dctE := fun W t => pe_dnewK.imp fun σ H Q h => by
  intro p hp
  obtain ⟨F, T, as, L, st, c, r, q⟩ := h
  have sm : Same H (upd H p (.dK [])) := same_new hp
  have r2 := r.same sm
  have z : c p = 0 := by
    by_cases e : c p = 0
    · exact e
    · exact absurd hp (r.there p e)
  have rv : Rep X.K X.mg (upd H p (.dK [])) F T as (.nd .own (.dK []) []) (.ref p) (fun b => if b = p then 1 else 0) := .own upd_same ⟨rfl, rfl⟩ (.nil (c := fun _ => 0) fun _ => rfl) fun b => by simp
  refine q F as _ _ c _ r2 rv ⟨fun b o e _ => sm b o e, fun b e => ?_, fun b => ?_, fun _ h => h, fun b e => ?_, fun _ h => .inl h, fun b e => PyI.Same.trk sm b e⟩ Pre.refl fun _ => ⟨sm, rfl, fun _ h => h⟩
  · by_cases eb : b = p
    · exact .inr (by rw [eb]; exact hp)
    · refine .inl ?_
      simp only [if_neg eb] at e
      exact e
  · show c b + (if b = p then 1 else 0) ≤ 1
    by_cases eb : b = p
    · rw [if_pos eb, eb, z]; omega
    · rw [if_neg eb]; exact r.le b
  · show c b + (if b = p then 1 else 0) = 0
    have h0 := r.fr b (.inl e)
    rw [if_neg (fun eb => h0.2 (by rw [eb]; exact hp)), h0.1]
/-! ### x += list -/
def muExt : Mu
  | [.nd .own .lst ys], .lst, xs => if xs.length + ys.length ≤ sizeLine then some (.non, .lst, xs ++ ys) else none
  | _, _, _ => none
def rExtA : V → List V → Hp → VK → Prop := fun o xs H Q => ∃ y, xs = [y] ∧ rExt2 o y H (fun z H' => z = o → Q .non H')
theorem gmu_ext {K : PySem.W.Frag} {mg : Str → Option Value} : GMu K mg muExt rExtA := by
  intro H F T as vs xs ca k ws wsV cx a o res k' ys Q rv rw_ ha ho e fin
  unfold muExt at e
  split at e
  · split at e
    · rename_i hz
      cases e
      cases ho
      obtain ⟨x, rfl, r1⟩ := rv.inv1
      cases r1 with
      | own h ho r hc =>
        cases ho
        refine ⟨_, rfl, a, _, _, _, rfl, rfl, ha, h, by rw [← rw_.length, ← r.length]; exact hz, fun _ => ?_⟩
        exact fin _ _ _ _ _ (rw_.append r) Rep.non' rfl fun b => by rw [hc]; omega
    · cases e
  · cases e
section
variable {X : Cx} {x : Str} {e : Expr} {f : E} {i : Nat} {pos' pos : Pos}
theorem SOk.augL (hN : X.N.Nodup) (he : EOk X e f) (hi : X.N[i]? = some x := by rfl) (hx : Loc X.env.scope x := by first | exact Or.inl rfl | exact Or.inr rfl) (hf : X.fn x = true ∨ X.env.scope.names.lookup x = some .local := by first | exact .inl rfl | exact .inr rfl) :
    SOk X (.AugAssign (.Name x pos') .Add e pos) (expC (mutE i isL [f] muExt)) := fun W t => (ps_aug hN hi hx (he W t) (fun pins s σ H x y v u Q I r1 r2 h => iop_ext pins s σ H x y v u Q I r1 r2 h) hf).imp fun D σ H h => by
  have h2 : EI X.K X.mg W (mutE i isL [f] muExt) σ H (fun _ H1 => D.nx σ H1) := h.bind.mono fun x H1 ⟨F, T, as, L, v, st, c1, c2, r1, rv, p⟩ => p F as σ H1 c1 r1.r (r1.s.less fun b => Nat.le_add_right _ _) Pre.refl
  obtain ⟨a, es, _, q⟩ := h2.mut gmu_ext
  refine ⟨_, es, q.one.mono fun y H1 ⟨y', e1, q⟩ => ?_⟩
  cases e1
  obtain ⟨l, b, xs, zs, h1, h3, h4, h5, h6, h7⟩ := q
  refine ⟨l, b, xs, zs, h1, h3, h4, h5, h6, ?_⟩
  cases h1
  have := h7 rfl
  rwa [show σ.set i (some (.ref a)) = σ from List.ext_getElem? fun j => by
    by_cases q : i = j
    · subst q
      rw [List.getElem?_set_self (List.getElem?_eq_some_iff.mp es).1, es]
    · rw [List.getElem?_set_ne q]]
end
/-! ### a call of a name that holds a def -/
def callVE (i : Nat) (tab : List (Str × (List Vl → RF))) (n : Nat) (fs : List E) : E := fun st => match st.sl[i]? with
  | some (some (.sym (.fn f))) => (match tab.lookup f with
    | some Fn => callE n Fn fs [] st
    | none => .bad)
  | _ => .bad
section
variable {X : Cx} {x : Str} {p pos : Pos} {e : Expr} {es : List Expr} {fs : List E} {i n : Nat} {tab : List (Str × (List Vl → RF))}
theorem pe_callV {t : TA} {E : L2.St → XK} (hN : X.N[i]? = some x) (hv : Vis X.env.scope x) (ha : PA X (e :: es) t) (hx : ∀ σ, PassesAt (L2.CX X.prog X.w) X σ (E σ))
    (hdb : (x == ("__debug__" : Str)) = false := by decide) (hcd : (x == ("__classdict__" : Str)) = false := by decide)
    (he : starEach (e :: es) X.env = (false, eval e X.env) :: starEach es X.env := by rfl) (hpl : (backTo pos (starEach es X.env)).any (·.1) = false := by rfl) :
    PE X (.Call (.Name x p) (e :: es) [] pos) (fun σ H Q => ∃ f k fd ps sp, σ[i]? = some (some (.ref f)) ∧ FnOk X.prog X.w X.K X.mg X.base (L2.CX X.prog X.w) k f fd ps sp ∧ Room k X.A ∧ PySem.W.keepIn X.K (.ref f) = true ∧ Binds X.K fd ps [] ∧ t σ H fun vs H1 => sp vs H1 Q (E σ)) := by
  refine ⟨fun pins s σ H Q I h => ?_⟩
  obtain ⟨f, k, fd, ps, sp, hs, G, hr, hk, hb, ht⟩ := h
  refine wpAny_Call_Name_kw (thn ((pe_var (pos := p) hN hv hdb hcd).run pins s σ H (fun v H1 => v = .ref f ∧ H1 = H) I ⟨.ref f, hs, rfl, rfl⟩) fun u s1 ⟨v, H1, I1, r1, q1⟩ => ?_)
  obtain ⟨rfl, rfl⟩ := q1
  cases r1
  refine PySem.W.callWith_K (h₀ := X.base) I.ok.mod.kin hk (thn (ha.run pos pins s1 σ _ _ I1 ht) fun us s2 ⟨vs, H2, I2, r, q⟩ => ⟨I2.kIn, ?_⟩) he hpl
  exact run_fnS G hr hb (hx σ) I2 r q
/-- each of the table keeps its promise -/
def TabOk (X : Cx) (n : Nat) (tab : List (Str × (List Vl → RF))) : Prop := ∀ f Fn, tab.lookup f = some Fn → ∃ k ps, ps.length = n ∧ Room k X.A ∧ HasF X.prog X.w X.K X.mg X.base f k ps Fn
theorem TabOk.nil : TabOk X n [] := fun f Fn h => by cases h
theorem TabOk.cons {f : Str} {Fn : List Vl → RF} {k : Nat} {ps : List Str} (h : HasF X.prog X.w X.K X.mg X.base f k ps Fn) (hr : Room k X.A) (r : TabOk X n tab) (hl : ps.length = n := by rfl) : TabOk X n ((f, Fn) :: tab) := fun g Gn e => by
  rw [List.lookup_cons] at e
  split at e
  · rename_i hg
    cases e
    have := eq_of_beq hg
    subst this
    exact ⟨k, ps, hl, hr, h⟩
  · exact r g Gn e
theorem EOk.callV (tk : TabOk X n tab) (ha : AOk X (e :: es) fs) (hN : X.N[i]? = some x := by rfl) (hv : Vis X.env.scope x := by first | exact Or.inl rfl | exact Or.inr (Or.inl rfl) | exact Or.inr (Or.inr rfl))
    (hdb : (x == ("__debug__" : Str)) = false := by decide) (hcd : (x == ("__classdict__" : Str)) = false := by decide)
    (he : starEach (e :: es) X.env = (false, eval e X.env) :: starEach es X.env := by rfl) (hpl : (backTo pos (starEach es X.env)).any (·.1) = false := by rfl) :
    EOk X (.Call (.Name x p) (e :: es) [] pos) (callVE i tab n fs) := fun W t =>
  (pe_callV (E := WE W) hN hv (ha W t) (fun σ => passAt t σ) hdb hcd he hpl).imp fun σ H Q h => by
    obtain ⟨F, T, as, L, st, c, r, q⟩ := h
    unfold callVE at q
    split at q
    · rename_i f es'
      split at q
      · rename_i Fn hf
        obtain ⟨k, ps, hl, hr, G⟩ := tk f Fn hf
        obtain ⟨a, fd, m, kp, b, G⟩ := G
        obtain ⟨y, c1, c2, e1, r1, _⟩ := r.slot es'
        cases r1 with
        | sym hs _ =>
          obtain ⟨C, hC, rfl⟩ := hs
          rw [m] at hC
          cases hC
          subst hl
          have h3 : EI X.K X.mg W (callE ps.length Fn fs []) σ H Q := ⟨F, T, as, L, st, c, r, q⟩
          exact ⟨a, k, fd, ps, _, e1, G, hr, kp, b, (h3.call (dxs := []) fun _ _ _ _ => .nil fun _ => rfl).mono fun xs H1 q => by rw [List.append_nil] at q; exact q⟩
      · exact (show False from q).elim
    · exact (show False from q).elim
end
end PyI
namespace PyI
open PySem PySem.Spec PyProof.Rows L2
theorem units65 {k : Nat} {A : Around} (r : Room k A) : A.units + 65 < cLine := by have := r.un; omega
/-- what the written part says of a clause 'except x' at exceptions of kn -/
def TryG (K : PySem.W.Frag) (mg : Str → Option Value) (kn : List Str) (x : Str) : Prop := ∃ C, mg x = some (.ref C) ∧ ∀ cl, kn.contains cl = true → ∀ D, mg cl = some (.ref D) → PySem.W.exmOne K (.ref D) (.ref C) = some true
theorem TryG.nil {K : PySem.W.Frag} {mg : Str → Option Value} {x : Str} {C : Addr} (h : mg x = some (.ref C)) : TryG K mg [] x := ⟨C, h, fun cl h => by simp at h⟩
theorem TryG.cons {K : PySem.W.Frag} {mg : Str → Option Value} {x d : Str} {kn : List Str} {C D : Addr} (h : mg x = some (.ref C)) (hd : mg d = some (.ref D)) (h1 : PySem.W.subIn K (.ref C) (.type "BaseException") = some true) (hdct : PySem.W.hasDictIn K C = true) (ht : PySem.W.typeIn K (.ref C) = some (.type "type")) (h4 : PySem.W.subIn K (.ref D) (.ref C) = some true)
    (r : TryG K mg kn x) : TryG K mg (d :: kn) x := by
  obtain ⟨C', h', r⟩ := r
  rw [h] at h'
  cases h'
  refine ⟨C, h, fun cl e D' e2 => ?_⟩
  rw [List.contains_cons, Bool.or_eq_true] at e
  rcases e with e | e
  · have := eq_of_beq e
    subst this
    rw [hd] at e2
    cases e2
    exact PySem.W.exm_ref h1 hdct ht h4
  · exact r cl e D' e2
section
variable {X : Cx} {x n : Str} {i : Nat} {body suite : List Stmt} {b₀ : Stmt} {np pos pos' : Pos} {f g : C} {kn : List Str}
theorem SOk.tryG (hN : X.N.Nodup) (ht : TryG X.K X.mg kn x)
    (hb : ∀ (pn : List (Addr × Obj)) (xe : Value → Shared → Prop), PassesOwn (model X.prog X.w) X.A X.env xe → SsOk (X.tr pn xe) body f)
    (hsu : ∀ (a : Addr) (pn : List (Addr × Obj)), SsOk (X.suite a pn) (b₀ :: suite) g)
    (hg : Gl X x := by rfl) (hd : (x == ("__debug__" : Str)) = false := by decide)
    (hs : X.stack = X.env :: X.outer := by rfl) (hf : X.env.frame = some X.env.locals := by rfl) (hex : X.ex = [] := by rfl) (hi : X.N[i]? = some n := by rfl) (hln : X.env.kindOf n = some .local := by rfl) :
    SOk X (.Try body [.ExceptHandler (some (.Name x np)) (some n) (b₀ :: suite) pos'] [] [] pos) (tryC kn i f g) := by
  obtain ⟨C, h, hx⟩ := ht
  exact SOk.try_ hN hx ⟨hg, hd, .inl h⟩ hb hsu hs hf hex hi hln
end
end PyI
namespace PyI
open PySem PySem.Spec PyProof.Rows L2
/-! ### a look at what a slot holds, all of it shared meanwhile -/
def flatVl : Vl → Bool
  | .non => true
  | .bl _ => true
  | .int _ => true
  | .str _ => true
  | _ => false
def lockE (j : Nat) (f : E) : E := fun st => match st.sl[j]? with
  | some (some v) => if stor v then (match f { st with sl := st.sl.set j (some (setF .sh v)) } with
    | .ok (w, _, false) => if flatVl w then .ok (w, st, false) else .bad
    | _ => .bad) else .bad
  | _ => .bad
theorem EI.lock {K : PySem.W.Frag} {mg : Str → Option Value} {W : WX} {j : Nat} {f : E} {σ : L2.St} {H : Hp} {Q : VK} (h : EI K mg W (lockE j f) σ H Q) : EI K mg W f σ H Q := by
  obtain ⟨F, T, as, L, st, c, r, p⟩ := h
  unfold lockE at p
  split at p
  · rename_i v e
    split at p
    · rename_i sv
      obtain ⟨x, c1, c2, e1, r1, n1, r2, k⟩ := r.slot e
      have hi : j < st.sl.length := (List.getElem?_eq_some_iff.mp e).1
      have mo : ∀ b, F b → F b ∨ c1 b ≠ 0 := fun b h => .inl h
      have r2' : Rel K mg (fun b => F b ∨ c1 b ≠ 0) T as L { st with sl := st.sl.set j none } σ H c2 := by
        obtain ⟨d1, d2, h1, h2, h3, h4⟩ := r2.rep
        refine ⟨⟨d1, d2, h1.stay (fun b o e _ => e) mo (fun _ h => h) Pre.refl, h2.stay h3 (fun b o e _ => e) mo (fun _ h => h) Pre.refl, h3, h4⟩, r2.le, fun b q => ?_, r2.lk⟩
        rcases q with (q | q) | q
        · exact r2.fr b (.inl q)
        · have := r.le b
          rw [k] at this
          refine ⟨by omega, fun z => ?_⟩
          have := r1.mu b q
          rw [z] at this
          exact this
        · exact r2.fr b (.inr q)
      have rf : Rep K mg H (fun b => F b ∨ c1 b ≠ 0) T as (setF .sh v) x (fun _ => 0) := r1.freeze sv mo fun b q => .inr q
      have r3 := r2'.fill hi e1 rf noTr_sh (fun b => by have := r2.le b; omega) fun b _ => rfl
      refine ⟨fun b => F b ∨ c1 b ≠ 0, T, as, L, _, _, r3, ?_⟩
      split at p
      · rename_i w s' e2
        split at p
        · rename_i hw
          rw [e2]
          intro F1 as1 H1 y d1 d2 q1 qv q2 q3 ef
          obtain ⟨sm, _, _⟩ := ef rfl
          have rw' : Rep K mg H1 F T as w y (fun _ => 0) := by
            unfold flatVl at hw
            split at hw
            · cases qv; exact .non fun _ => rfl
            · cases qv; exact .bl fun _ => rfl
            · cases qv; exact .int fun _ => rfl
            · cases qv; exact .str fun _ => rfl
            · cases hw
          exact p F as H1 y c (fun _ => 0) (r.same sm) rw' ⟨fun b o e _ => sm b o e, fun b q => .inl q, r.le, fun _ h => h, fun b q => (r.fr b (.inl q)).1, fun _ h => .inl h, fun b q => PyI.Same.trk sm b q⟩ Pre.refl fun _ => ⟨sm, rfl, fun _ h => h⟩
        · exact (show False from p).elim
      · exact (show False from p).elim
    · exact (show False from p).elim
  · exact (show False from p).elim
theorem EOk.lock {X : Cx} {e : Expr} {f : E} (j : Nat) (h : EOk X e f) : EOk X e (lockE j f) := fun W t => (h W t).imp fun σ H Q q => q.lock
theorem TOk.lock {X : Cx} {e : Expr} {f : E} (j : Nat) (h : TOk X e f) : TOk X e (lockE j f) := fun W t => (h W t).imp fun σ H Q q => EI.lock q
end PyI
namespace PyI
theorem TryG.nilX {K : PySem.W.Frag} {mg : PySem.Str → Option PySem.Value} {x : PySem.Str} {C : PySem.Addr} {h0 : PySem.Heap} (_ : K.In h0) (h : mg x = some (.ref C)) : TryG K mg [] x := TryG.nil h
theorem KX.nilX {K : PySem.W.Frag} {mg : PySem.Str → Option PySem.Value} {cs : List PySem.Str} {h0 : PySem.Heap} (_ : K.In h0) : KX K mg [] cs := KX.nil
theorem KX1.nilX {K : PySem.W.Frag} {mg : PySem.Str → Option PySem.Value} {d : PySem.Str} {h0 : PySem.Heap} (_ : K.In h0) : KX1 K mg d [] := KX1.nil
end PyI
namespace PyI
open PySem PySem.Spec PyProof.Rows L2
theorem kitOne_self {K : PySem.W.Frag} {t : Value} : PySem.W.kitOne K t t = some true := if_pos (beq_self_eq_true _)
theorem kitOne_sub {K : PySem.W.Frag} {D C : Addr} {b : Bool} (h0 : (Value.ref D == Value.ref C) = false) (hd : PySem.W.hasDictIn K C = true) (ht : PySem.W.typeIn K (.ref C) = some (.type "type")) (h4 : PySem.W.subIn K (.ref D) (.ref C) = some b) : PySem.W.kitOne K (.ref D) (.ref C) = some b := by
  obtain ⟨cd, hc, _⟩ := PySem.W.any_some hd
  have e2 : ((PySem.W.clsIn K C).isSome && PySem.W.typeIn K (.ref C) == some (.type "type")) = true := by rw [hc, ht] <;> rfl
  unfold PySem.W.kitOne
  rw [h0]
  show (if ((PySem.W.clsIn K C).isSome && PySem.W.typeIn K (.ref C) == some (.type "type")) = true then PySem.W.subIn K (.ref D) (.ref C) else none) = some b
  rw [if_pos e2]
  exact h4
theorem kitOne_VE {K : PySem.W.Frag} {D : Addr} (h : PySem.W.subIn K (.ref D) (.type "ValueError") = some true) : PySem.W.kitOne K (.ref D) (.type "ValueError") = some true := by
  have e : PySem.W.kitMeta "ValueError" = true := by decide +kernel
  have h0 : (Value.ref D == Value.type "ValueError") = false := rfl
  unfold PySem.W.kitOne
  rw [h0]
  show (if PySem.W.kitMeta "ValueError" = true then PySem.W.subIn K (.ref D) (.type "ValueError") else none) = some true
  rw [if_pos e]
  exact h
theorem DefAt.fn {K : PySem.W.Frag} {mg : Str → Option Value} {x : Str} {st : Stmt} (d : DefAt K mg x st) : FnG mg x := by
  obtain ⟨f, _, _, h⟩ := d
  exact ⟨f, h⟩
end PyI
namespace PyI
theorem clsG {mg : PySem.Str → Option PySem.Value} {x : PySem.Str} {C : PySem.Addr} (h : mg x = some (.ref C)) : ClsG mg x := ⟨C, h⟩
end PyI

namespace PyI
open PySem PySem.Spec PyProof.Rows L2
/-! ### dicts with plain keys -/
def kOf : Vl → Option Key
  | .int i => some (.inl i)
  | .str x => some (.inr x)
  | _ => none
def lookK (k : Key) : List Key → List Vl → Option Vl
  | j :: ks, v :: r => if j = k then some v else lookK k ks r
  | _, _ => none
def gDgt : List Vl → Option Vl
  | [.nd _ (.dK ks) xs, y] => (kOf y).bind fun k => lookK k ks xs
  | _ => none
def gDin : List Vl → Option Vl
  | [y, .nd _ (.dK ks) xs] => (kOf y).map fun k => .bl (lookK k ks xs).isSome
  | _ => none
def gDnin : List Vl → Option Vl
  | [y, .nd _ (.dK ks) xs] => (kOf y).map fun k => .bl (!(lookK k ks xs).isSome)
  | _ => none
section
variable {K : PySem.W.Frag} {mg : Str → Option Value} {H : Hp} {F T : Addr → Prop} {as : List Addr}
theorem kOf_ok {y : Vl} {x : V} {c : Addr → Nat} {k : Key} (r : Rep K mg H F T as y x c) (e : kOf y = some k) : x = kV k := by
  unfold kOf at e
  split at e
  · cases e; exact r.inv_int
  · cases e; exact r.inv_str
  · cases e
theorem Reps.look : ∀ {vs : List Vl} {xs : List V} {c : Addr → Nat} {ks : List Key} {k : Key}, Reps K mg H F T as vs xs c → ks.length = xs.length →
    match lookK k ks vs with
    | some v => ∃ x c', valV (ks.zip xs) k = some x ∧ Rep K mg H F T as v x c' ∧ ∀ b, c' b ≤ c b
    | none => valV (ks.zip xs) k = none
  | _, _, _, [], k, .nil _, _ => rfl
  | _, _, _, j :: ks, k, .nil _, h => by simp at h
  | _, _, _, [], k, .cons _ _ _, h => by simp at h
  | v :: vs, x :: xs, c, j :: ks, k, .cons r s hc, h => by
    have ih := Reps.look (ks := ks) (k := k) s (by simpa using h)
    unfold lookK
    by_cases e : j = k
    · rw [if_pos e]
      exact ⟨x, _, valV_pos (p := (j, x)) e, r, fun b => by rw [hc]; omega⟩
    · rw [if_neg e]
      have e2 : valV ((j :: ks).zip (x :: xs)) k = valV (ks.zip xs) k := by simp [valV, List.find?_cons, e]
      rw [e2]
      split
      · rename_i v' e3
        rw [e3] at ih
        obtain ⟨y, c', h1, h2, h3⟩ := ih
        exact ⟨y, c', h1, h2, fun b => by rw [hc]; have := h3 b; omega⟩
      · rename_i e3
        rw [e3] at ih
        exact ih
/-- a dict, whatever its flag -/
theorem Rep.inv_dK {f : Fl} {ks : List Key} {vs : List Vl} {x : V} {c : Addr → Nat} (r : Rep K mg H F T as (.nd f (.dK ks) vs) x c) : ∃ a xs c', x = .ref a ∧ L2.Rd H a (.dK (ks.zip xs)) ∧ ks.length = xs.length ∧ Reps K mg H F T as vs xs c' ∧ ∀ b, c' b ≤ c b := by
  have go : ∀ {a : Addr} {xs : List V} {S : Addr → Prop}, ((S a ∧ ∃ o, hoOf mg (.dK ks) xs o ∧ L2.Rd H a o) ∨ (Kd.dK ks = .lst ∧ KL K a xs)) → L2.Rd H a (.dK (ks.zip xs)) ∧ ks.length = xs.length := fun {a xs S} h => by
    rcases h with ⟨_, o, ⟨hl, rfl⟩, q⟩ | ⟨h, _⟩
    · exact ⟨q, hl⟩
    · cases h
  cases r with
  | own h ho r hc =>
    obtain ⟨hl, rfl⟩ := ho
    exact ⟨_, _, _, rfl, .inl h, hl, r, fun b => by rw [hc]; omega⟩
  | sh h r hc => exact ⟨_, _, _, rfl, (go h).1, (go h).2, r, fun _ => Nat.le_refl _⟩
  | bw h r hc => exact ⟨_, _, _, rfl, (go h).1, (go h).2, r, fun _ => Nat.le_refl _⟩
  | tr h r hc =>
    rcases h with ⟨o, ⟨hl, rfl⟩, q⟩ | ⟨h, _⟩
    · exact ⟨_, _, _, rfl, q, hl, r, fun _ => Nat.le_refl _⟩
    · cases h
def rDgt : List V → Hp → VK → Prop := fun xs H Q => ∃ x y, xs = [x, y] ∧ ∃ a v, x = .ref a ∧ DGet H a y (some v) ∧ Q v H
theorem gop_dgt : GOp K mg gDgt rDgt := by
  intro H F T as vs xs c v Q r hl e fin
  unfold gDgt at e
  split at e
  · obtain ⟨k, e1, e2⟩ := Option.bind_eq_some_iff.mp e
    obtain ⟨x, y, c1, c2, rfl, r1, r2, hcc⟩ := r.inv2
    obtain ⟨a, xs, c', rfl, hr, hl2, s, hk⟩ := r1.inv_dK
    have ht := s.look (k := k) hl2.symm.symm
    rw [e2] at ht
    obtain ⟨z, c5, h1, h2, h3⟩ := ht
    exact ⟨_, _, rfl, a, z, rfl, .inl ⟨_, k, hr, kOf_ok r2 e1, h1.symm⟩, fin H z c5 h2 (fun b => .inl (by rw [hcc]; have := h3 b; have := hk b; omega)) (Same.refl H)⟩
  · cases e
def rDin (n : Bool) : List V → Hp → VK → Prop := fun xs H Q => ∃ y x, xs = [y, x] ∧ ∃ a o, x = .ref a ∧ DGet H a y o ∧ Q (.bl (if n then !o.isSome else o.isSome)) H
theorem look_some {vs : List Vl} {xs : List V} {c : Addr → Nat} {ks : List Key} {k : Key} (s : Reps K mg H F T as vs xs c) (h : ks.length = xs.length) : (valV (ks.zip xs) k).isSome = (lookK k ks vs).isSome := by
  have ht := s.look (k := k) h
  cases e : lookK k ks vs with
  | none => rw [e] at ht; rw [ht]; rfl
  | some v =>
    rw [e] at ht
    obtain ⟨z, c5, h1, _⟩ := ht
    rw [h1]; rfl
theorem gop_din : GOp K mg gDin (rDin false) := by
  intro H F T as vs xs c v Q r hl e fin
  unfold gDin at e
  split at e
  · obtain ⟨k, e1, e2⟩ := Option.map_eq_some_iff.mp e
    subst e2
    obtain ⟨y, x, c1, c2, rfl, r1, r2, hcc⟩ := r.inv2
    obtain ⟨a, xs, c', rfl, hr, hl2, s, hk⟩ := r2.inv_dK
    refine ⟨_, _, rfl, a, _, rfl, .inl ⟨_, k, hr, kOf_ok r1 e1, rfl⟩, ?_⟩
    rw [if_neg Bool.false_ne_true, look_some s hl2]
    exact fin.bl
  · cases e
theorem gop_dnin : GOp K mg gDnin (rDin true) := by
  intro H F T as vs xs c v Q r hl e fin
  unfold gDnin at e
  split at e
  · obtain ⟨k, e1, e2⟩ := Option.map_eq_some_iff.mp e
    subst e2
    obtain ⟨y, x, c1, c2, rfl, r1, r2, hcc⟩ := r.inv2
    obtain ⟨a, xs, c', rfl, hr, hl2, s, hk⟩ := r2.inv_dK
    refine ⟨_, _, rfl, a, _, rfl, .inl ⟨_, k, hr, kOf_ok r1 e1, rfl⟩, ?_⟩
    rw [if_pos rfl, look_some s hl2]
    exact fin.bl
  · cases e
end
section
variable {X : Cx} {a b : Expr} {fa fb : E} {pos : Pos}
theorem EOk.dgt (hu : X.A.units + 64 < cLine) (ha : EOk X a fa) (hb : EOk X b fb) (hs : NoSl b := by intro _ _; rfl) : EOk X (.Subscript a b pos) (opE gDgt [fa, fb]) := fun W t =>
  (pe_dget (by omega) (ha W t) (hb W t) hs).imp fun σ H Q h => (h.op gop_dgt).two.mono fun x H1 q => q.mono fun y H2 ⟨x', y', e, q⟩ => by cases e; exact q
end
end PyI
namespace PyI
open PySem PySem.Spec PyProof.Rows L2
/-! ### d[k] = v -/
def ixK (k : Key) : List Key → Option Nat
  | [] => none
  | j :: r => if j = k then some 0 else (ixK k r).map (· + 1)
theorem ixK_some {k : Key} : ∀ {ks : List Key} {j : Nat}, ixK k ks = some j → ks[j]? = some k ∧ ∀ i, i < j → ks[i]? ≠ some k
  | [], _, h => by cases h
  | a :: r, j, h => by
    unfold ixK at h
    split at h
    · rename_i e
      cases h
      exact ⟨by rw [e]; rfl, fun i hi => absurd hi (Nat.not_lt_zero _)⟩
    · rename_i e
      obtain ⟨m, h1, h2⟩ := Option.map_eq_some_iff.mp h
      subst h2
      obtain ⟨h3, h4⟩ := ixK_some h1
      refine ⟨by simpa using h3, fun i hi => ?_⟩
      cases i with
      | zero => simpa using e
      | succ i => simpa using h4 i (by omega)
theorem ixK_none {k : Key} : ∀ {ks : List Key}, ixK k ks = none → k ∉ ks
  | [], _ => by simp
  | a :: r, h => by
    unfold ixK at h
    split at h
    · cases h
    · rename_i e
      have h1 : ixK k r = none := by
        cases e1 : ixK k r with
        | none => rfl
        | some j => rw [e1] at h; cases h
      intro hm
      rcases List.mem_cons.mp hm with hm | hm
      · exact e hm.symm
      · exact ixK_none h1 hm
def muPut : Mu
  | [v, y], .dK ks, xs => (kOf y).bind fun k => if xs.length < sizeLine then (match ixK k ks with
    | some j => if (ks.drop (j + 1)).any (fun x => decide (x = k)) then none else some (.non, .dK ks, xs.set j v)
    | none => some (.non, .dK (ks ++ [k]), xs ++ [v])) else none
  | _, _, _ => none
def rPutM : V → List V → Hp → VK → Prop := fun o xs H Q => ∃ v y, xs = [v, y] ∧ ∃ a H4, o = .ref a ∧ DPut H a y v H4 ∧ Q .non H4
theorem putK_set {k : Key} {x : V} {ks : List Key} {xs : List V} {j : Nat} (hl : ks.length = xs.length) (h : ixK k ks = some j) (hu : k ∉ ks.drop (j + 1)) : putK (ks.zip xs) k x = ks.zip (xs.set j x) := by
  obtain ⟨h1, h2⟩ := ixK_some h
  have hj : j < ks.length := (List.getElem?_eq_some_iff.mp h1).1
  have h3 : ∀ i, j < i → ks[i]? ≠ some k := fun i hi e => by
    refine hu (List.mem_iff_getElem?.mpr ⟨i - (j + 1), ?_⟩)
    rw [List.getElem?_drop, show j + 1 + (i - (j + 1)) = i by omega]
    exact e
  have ha : ((ks.zip xs).any fun kv => decide (kv.1 = k)) = true := by
    rw [List.any_eq_true]
    refine ⟨(k, xs[j]'(by omega)), List.mem_iff_getElem?.mpr ⟨j, ?_⟩, by simp⟩
    rw [List.getElem?_zip_eq_some]
    exact ⟨h1, List.getElem?_eq_getElem _⟩
  unfold putK
  rw [if_pos ha]
  refine List.ext_getElem? fun i => ?_
  rw [List.getElem?_map]
  by_cases hi : i < ks.length
  · have e1 : ks[i]? = some ks[i] := List.getElem?_eq_getElem hi
    have e2 : xs[i]? = some (xs[i]'(by omega)) := List.getElem?_eq_getElem _
    have e3 : (ks.zip xs)[i]? = some (ks[i], xs[i]'(by omega)) := by rw [List.getElem?_zip_eq_some]; exact ⟨e1, e2⟩
    rw [e3]
    by_cases hij : i = j
    · subst hij
      have ek : ks[i] = k := by rw [e1] at h1; exact Option.some.inj h1
      have e4 : (ks.zip (xs.set i x))[i]? = some (ks[i], x) := by rw [List.getElem?_zip_eq_some]; exact ⟨e1, by rw [List.getElem?_set_self (by omega)]⟩
      rw [e4]
      simp [ek]
    · have ek : ks[i] ≠ k := fun e => by
        rcases Nat.lt_or_gt_of_ne hij with h | h
        · exact h2 i h (by rw [e1, e])
        · exact h3 i h (by rw [e1, e])
      have e4 : (ks.zip (xs.set j x))[i]? = some (ks[i], xs[i]'(by omega)) := by rw [List.getElem?_zip_eq_some]; exact ⟨e1, by rw [List.getElem?_set_ne (Ne.symm hij)]; exact e2⟩
      rw [e4]
      simp [ek]
  · have e3 : (ks.zip xs)[i]? = none := List.getElem?_eq_none (by rw [List.length_zip]; omega)
    have e4 : (ks.zip (xs.set j x))[i]? = none := List.getElem?_eq_none (by rw [List.length_zip, List.length_set]; omega)
    rw [e3, e4]
    rfl
theorem gmu_put {K : PySem.W.Frag} {mg : Str → Option Value} : GMu K mg muPut rPutM := by
  intro H F T as vs xs ca k ws wsV cx a o res k' ys Q rv rw_ ha ho e fin
  unfold muPut at e
  split at e
  · rename_i v y ks
    obtain ⟨kk, e1, e⟩ := Option.bind_eq_some_iff.mp e
    obtain ⟨hl, rfl⟩ := ho
    obtain ⟨x, yV, c1, c2, rfl, r1, r2, hcc⟩ := rv.inv2
    have lw := rw_.length
    split at e
    · rename_i hz
      have hsz : (ks.zip wsV).length < sizeLine := by rw [List.length_zip]; omega
      split at e
      · rename_i j ej
        split at e
        · cases e
        · rename_i hu
          cases e
          obtain ⟨c', r3, k3⟩ := rw_.set (k := j) r1
          refine ⟨x, yV, rfl, a, _, rfl, .inl ⟨ks.zip wsV, kk, ha, kOf_ok r2 e1, hsz, rfl⟩, ?_⟩
          rw [putK_set hl ej (fun hm => hu (List.any_eq_true.mpr ⟨_, hm, decide_eq_true rfl⟩))]
          exact fin (wsV.set j x) c' _ _ _ r3 Rep.non' ⟨by rw [List.length_set]; exact hl, rfl⟩ fun b => by rw [hcc]; have := k3 b; omega
      · rename_i ej
        cases e
        have hn : valV (ks.zip wsV) kk = none := by
          have := ixK_none ej
          unfold valV
          rw [List.find?_eq_none.mpr]
          · rfl
          · intro p hp
            have : p.1 ∈ ks := (List.of_mem_zip hp).1
            simp only [decide_eq_true_eq]
            intro e
            exact absurd (e ▸ this) (ixK_none ej)
        refine ⟨x, yV, rfl, a, _, rfl, .inl ⟨ks.zip wsV, kk, ha, kOf_ok r2 e1, hsz, rfl⟩, ?_⟩
        rw [putK_new x hn]
        have ez : ks.zip wsV ++ [(kk, x)] = (ks ++ [kk]).zip (wsV ++ [x]) := by rw [List.zip_append hl]; rfl
        rw [ez]
        exact fin (wsV ++ [x]) _ _ _ _ (rw_.append (.cons r1 (.nil (c := fun _ => 0) fun _ => rfl) fun _ => rfl)) Rep.non' ⟨by simp [hl], rfl⟩ fun b => by rw [hcc]; show cx b + (c1 b + 0) + 0 ≤ _; omega
    · cases e
  · cases e
section
variable {X : Cx} {x : Str} {e : Expr} {f fi : E} {i : Nat} {ei : Expr} {p0 q0 pos : Pos}
theorem SOk.dput (hu : X.A.units + 64 < cLine) (he : EOk X e f) (hi : EOk X ei fi) (hN : X.N[i]? = some x := by rfl) (hv : Vis X.env.scope x := by first | exact Or.inl rfl | exact Or.inr (Or.inl rfl) | exact Or.inr (Or.inr rfl)) (hd : (x == ("__debug__" : Str)) = false := by decide) (hcd : (x == ("__classdict__" : Str)) = false := by decide)
    (hs : swapsWith e (some (.Subscript (.Name x p0) ei q0)) pos.line X.env = pure false := by rfl) : SOk X (.Assign [.Subscript (.Name x p0) ei q0] e pos) (expC (mutE i isD [f, fi] muPut)) := fun W t =>
  (ps_dput (by omega) (pe_var hN hv hd hcd) (hi W t) (he W t) hs).imp fun D σ H h => by
    have h2 : EI X.K X.mg W (mutE i isD [f, fi] muPut) σ H (fun _ H1 => D.nx σ H1) := h.bind.mono fun x H1 ⟨F, T, as, L, v, st, c1, c2, r1, rv, p⟩ => p F as σ H1 c1 r1.r (r1.s.less fun b => Nat.le_add_right _ _) Pre.refl
    obtain ⟨a, es, _, q⟩ := h2.mut gmu_put
    exact q.two.mono fun y H1 q => ⟨_, es, q.mono fun z H2 ⟨v, w, e1, a', H4, e2, h3, h4⟩ => by
      cases e1
      cases e2
      exact ⟨_, H4, rfl, h3, h4⟩⟩
end
/-! ### displays with plain keys -/
theorem mergeK_app : ∀ (kvs acc : List (Key × V)), (kvs.map (·.1)).Nodup → (∀ k ∈ kvs.map (·.1), valV acc k = none) → mergeK acc kvs = acc ++ kvs
  | [], acc, _, _ => by simp [mergeK]
  | p :: r, acc, hn, hd => by
    have h1 : putK acc p.1 p.2 = acc ++ [p] := putK_new _ (hd p.1 (by simp))
    show mergeK (putK acc p.1 p.2) r = _
    rw [h1, mergeK_app r (acc ++ [p]) (by simpa using (List.nodup_cons.mp hn).2) fun k hk => ?_]
    · simp
    · have hne : p.1 ≠ k := fun e => (List.nodup_cons.mp hn).1 (by show p.1 ∈ r.map (·.1); rw [e]; exact hk)
      have h2 := hd k (List.mem_cons_of_mem _ hk)
      unfold valV at h2 ⊢
      rw [List.find?_append]
      cases e : acc.find? (fun kv => decide (kv.1 = k)) with
      | some q => rw [e] at h2; cases h2
      | none => simp [List.find?_cons, hne]
def dispE (ks : List Key) (fs : List E) : E := fun st => match evs fs st with
  | .ok (vs, st1, e) => if stors vs && decide (vs.length = ks.length) then .ok (.nd .own (.dK ks) vs, st1, e) else .bad
  | .exc c s => .exc c s
  | .bad => .bad
/-- the pairs of a display: text keys -/
def DOk (X : Cx) (pos : Pos) (keys : List (Option Expr)) (values : List Expr) (ks : List Key) (fs : List E) : Prop :=
  ∀ W, Takes X W → PPs X pos keys values ((ks.zip fs).map fun p => (tC (kV p.1), EI X.K X.mg W p.2))
section
variable {X : Cx} {pos : Pos}
theorem DOk.nil : DOk X pos [] [] [] [] := fun W t => pps_nil
theorem DOk.str {x : Str} {j : Nat} {p : Pos} {v : Expr} {keys : List (Option Expr)} {values : List Expr} {ks : List Key} {f : E} {fs : List E} (h : EOk X v f) (r : DOk X pos keys values ks fs) : DOk X pos (some (.Constant (.str x) j p) :: keys) (v :: values) (.inr x :: ks) (f :: fs) := fun W t =>
  pps_cons (pe_str (x := x)) (h W t) (r W t)
theorem tPairs_of {W : WX} : ∀ {ks : List Key} {fs : List E} {σ : L2.St} {H : Hp} {Q : List V → Hp → Prop}, ks.length = fs.length → AI X.K X.mg W fs σ H Q → tPairs ((ks.zip fs).map fun p => (tC (kV p.1), EI X.K X.mg W p.2)) σ H fun ps H2 => (∃ ys, ps = (ks.zip ys).map (fun kv => (kV kv.1, kv.2)) ∧ ys.length = ks.length ∧ Q ys H2)
  | [], [], σ, H, Q, _, h => ⟨[], rfl, rfl, h.nil⟩
  | [], _ :: _, _, _, _, h, _ => by simp at h
  | _ :: _, [], _, _, _, h, _ => by simp at h
  | k :: ks, f :: fs, σ, H, Q, hl, h => h.cons.mono fun y H2 q => by
    have ih := tPairs_of (ks := ks) (by simpa using hl) q
    have mono : ∀ {trs : List (TE × TE)} {H : Hp} {Q Q' : List (V × V) → Hp → Prop}, (∀ ps H, Q ps H → Q' ps H) → (∀ tr ∈ trs, ∀ σ H (Q Q' : VK), (∀ x H, Q x H → Q' x H) → tr.2 σ H Q → tr.2 σ H Q') → (∀ tr ∈ trs, ∃ x, tr.1 = tC x) → tPairs trs σ H Q → tPairs trs σ H Q' := by
      intro trs
      induction trs with
      | nil => intro H Q Q' i _ _ h; exact i _ _ h
      | cons tr trs ih =>
        intro H Q Q' i m1 m2 h
        obtain ⟨tk, tv⟩ := tr
        obtain ⟨x, hx⟩ := m2 _ List.mem_cons_self
        simp only at hx
        subst hx
        exact m1 _ List.mem_cons_self σ H _ _ (fun y H2 h2 => ih (fun ps H h => i _ _ h) (fun tr ht => m1 tr (List.mem_cons_of_mem _ ht)) (fun tr ht => m2 tr (List.mem_cons_of_mem _ ht)) h2) h
    have m1 : ∀ tr ∈ ((ks.zip fs).map fun p => ((tC (kV p.1), EI X.K X.mg W p.2) : TE × TE)), ∀ σ H (Q Q' : VK), (∀ x H, Q x H → Q' x H) → tr.2 σ H Q → tr.2 σ H Q' := fun tr ht σ H Q Q' i h => by
      obtain ⟨p, _, rfl⟩ := List.mem_map.mp ht
      exact EI.mono h i
    have m2 : ∀ tr ∈ ((ks.zip fs).map fun p => ((tC (kV p.1), EI X.K X.mg W p.2) : TE × TE)), ∃ x, tr.1 = tC x := fun tr ht => by
      obtain ⟨p, _, rfl⟩ := List.mem_map.mp ht
      exact ⟨_, rfl⟩
    exact mono (fun ps H ⟨ys, h1, h2, h3⟩ => ⟨y :: ys, by rw [h1]; rfl, by simpa using h2, h3⟩) m1 m2 ih
end
end PyI
namespace PyI
open PySem PySem.Spec PyProof.Rows L2
theorem tPairs_mono {X : Cx} {W : WX} : ∀ {ks : List Key} {fs : List E} {σ : L2.St} {H : Hp} {Q Q' : List (V × V) → Hp → Prop}, (∀ ps H, Q ps H → Q' ps H) → tPairs ((ks.zip fs).map fun p => (tC (kV p.1), EI X.K X.mg W p.2)) σ H Q → tPairs ((ks.zip fs).map fun p => (tC (kV p.1), EI X.K X.mg W p.2)) σ H Q'
  | [], _, _, _, _, _, i, h => i _ _ h
  | _ :: _, [], _, _, _, _, i, h => i _ _ h
  | k :: ks, f :: fs, σ, H, Q, Q', i, h => EI.mono (show EI X.K X.mg W f σ H _ from h) fun y H2 h2 => tPairs_mono (ks := ks) (fs := fs) (fun ps H h => i _ _ h) h2
theorem EOk.disp {X : Cx} {pos : Pos} {keys : List (Option Expr)} {values : List Expr} {ks : List Key} {fs : List E} (h : DOk X pos keys values ks fs) (hn : ks.Nodup := by decide) (hf : ks.length = fs.length := by rfl) (hz : ks.length ≤ 15 := by decide) (hall : keys.all (·.isSome) = true := by rfl) (hl : keys.length = values.length := by rfl) (h0 : keys ≠ [] := by exact List.cons_ne_nil _ _)
    (h15 : keys.length ≤ 15 := by first | decide | (simp)) : EOk X (.Dict keys values pos) (dispE ks fs) := fun W t => (pe_disp (h W t) hall hl h0 h15).imp fun σ H Q hq => by
  intro p hp
  obtain ⟨F, T, as, L, st, c, r, q⟩ := hq
  have cp : c p = 0 := by
    by_cases e : c p = 0
    · exact e
    · exact absurd hp (r.there p e)
  have sm : Same H (upd H p (.dK [])) := same_new hp
  have sm0 : ∀ b, upd H p (.dK []) b = none → H b = none := fun b w => by
    cases u : H b with
    | none => rfl
    | some o => rw [sm _ _ u] at w; cases w
  have ne : ∀ b, H b ≠ none → b ≠ p := fun b e z => e (by rw [z]; exact hp)
  have key : AI X.K X.mg W fs σ (upd H p (.dK [])) fun ys H2 => H2 p = some (.dK []) ∧ ys.length = ks.length ∧ Q (.ref p) (upd H2 p (.dK (ks.zip ys))) := by
    refine ⟨F, T, as, L, st, c, r.same sm, ?_⟩
    unfold dispE at q
    cases e1 : evs fs st with
    | bad => rw [e1] at q; exact q
    | exc cl s => rw [e1] at q; exact fun F' as' σ' H' c1 r1 s1 p1 C hC => q F' as' σ' H' c1 r1 ⟨fun b o e z => s1.keep b o (sm _ _ e) z, fun b z => (s1.grow b z).imp id (sm0 b), s1.le, s1.sub, s1.dis, fun b z => (s1.fgr b z).imp id fun w => w.imp id (sm0 b), fun b z => s1.trk b (PyI.Same.trk sm b z)⟩ p1 C hC
    | ok z =>
      obtain ⟨vs, st1, e⟩ := z
      rw [e1] at q
      simp only at q
      intro F1 as1 H2 ys c1 ca r1 rv s1 p1 ef
      split at q
      · rename_i hc
        simp only [Bool.and_eq_true, decide_eq_true_eq] at hc
        have kp : H2 p = some (.dK []) := s1.keep p _ upd_same cp
        have zp : c1 p + ca p = 0 := by
          by_cases z : c1 p + ca p = 0
          · exact z
          · rcases s1.grow p z with w | w
            · exact absurd cp w
            · rw [upd_same] at w; cases w
        have nF : ∀ b, F1 b → b ≠ p := fun b z eb => by
          subst eb
          rcases s1.fgr b z with w | w | w
          · exact (r.fr b (.inl w)).2 hp
          · exact w cp
          · rw [upd_same] at w; cases w
        have nT : ∀ b, T b → b ≠ p := fun b z eb => (r.fr b (.inr z)).2 (by rw [eb]; exact hp)
        have hm : MutO (H2 p) := by rw [kp]; trivial
        have nd : ∀ d : Addr → Nat, (∀ b, d b ≤ c1 b + ca b) → ∀ b, F1 b ∨ T b ∨ d b ≠ 0 → b ≠ p := fun d hd b z eb => by
          rcases z with z | z | z
          · exact nF b z eb
          · exact nT b z eb
          · subst eb; have := hd b; omega
        have r3 := r1.wr (o := .dK (ks.zip ys)) (nd c1 fun b => Nat.le_add_right _ _) hm
        have rv3 := rv.stay (stors_noTrs hc.1) (stay_wr (o := .dK (ks.zip ys)) (nd ca fun b => Nat.le_add_left _ _) hm) (fun _ h => h) (fun _ h => h) Pre.refl
        have hlen : ks.length = ys.length := by rw [← rv.length]; exact hc.2.symm
        have rn : Rep X.K X.mg (upd H2 p (.dK (ks.zip ys))) F1 T as1 (.nd .own (.dK ks) vs) (.ref p) (fun b => oneD p b + ca b) := .own upd_same ⟨hlen, rfl⟩ rv3 fun b => rfl
        refine ⟨kp, hlen.symm, q F1 as1 _ (.ref p) c1 _ r3 rn ⟨fun b o e z => ?_, fun b z => ?_, fun b => ?_, s1.sub, fun b z => ?_, fun b z => ?_, fun b z => ?_⟩ p1 fun z => ⟨fun b o e => ?_, (ef z).2.1, (ef z).2.2⟩⟩
        · have nb := ne b (by rw [e]; exact fun w => nomatch w)
          rw [upd_ne nb]; exact s1.keep b o (sm _ _ e) z
        · by_cases eb : b = p
          · exact .inr (by rw [eb]; exact hp)
          · have z' : c1 b + (oneD p b + ca b) ≠ 0 := z
            simp only [oneD, if_neg eb] at z'
            rcases s1.grow b (by show c1 b + ca b ≠ 0; omega) with w | w
            · exact .inl w
            · rw [upd_ne eb] at w; exact .inr w
        · show c1 b + (oneD p b + ca b) ≤ 1
          by_cases eb : b = p
          · subst eb; simp only [oneD, if_true]; omega
          · simp only [oneD, if_neg eb]; have := s1.le b; have : c1 b + ca b ≤ 1 := this; omega
        · show c1 b + (oneD p b + ca b) = 0
          have := s1.dis b z
          have : c1 b + ca b = 0 := this
          simp only [oneD, if_neg (nF b z)]; omega
        · rcases s1.fgr b z with w | w | w
          · exact .inl w
          · exact .inr (.inl w)
          · rw [upd_ne (nF b z)] at w; exact .inr (.inr w)
        · rw [upd_ne (ne b z)]; exact s1.trk b (by rw [upd_ne (ne b z)]; exact z)
        · have nb := ne b (by rw [e]; exact fun w => nomatch w)
          rw [upd_ne nb]; exact (ef z).1 _ _ (sm _ _ e)
      · exact (show False from q).elim
  refine tPairs_mono (fun ps H2 ⟨ys, h1, h2, h3, h4, h5⟩ => ⟨h3, ks.zip ys, h1, ?_, ?_⟩) (tPairs_of hf key)
  · rw [List.length_zip]; omega
  · have hk : (ks.zip ys).map (·.1) = ks := List.map_fst_zip (by omega)
    rw [mergeK_app (ks.zip ys) [] (by rw [hk]; exact hn) fun _ _ => rfl]
    exact h5
end PyI

namespace PyI
open PySem PySem.Spec PyProof.Rows L2
/-! ### defs that change their first argument in place -/
inductive RIO where
  | ok (v w : Vl) | bad
/-- the first argument is own (region c), the others are only looked at -/
def spIO (K : PySem.W.Frag) (mg : Str → Option Value) (n : Nat) (Fn : List Vl → RIO) : Sp := fun xs H Q _ => xs.length = n ∧ ∃ (v : Vl) (x0 : V) (ys : List V) (vs : List Vl) (c : Addr → Nat) (S : Addr → Prop), xs = x0 :: ys ∧ Rep K mg H S (fun _ => False) [] v x0 c ∧ noTr v = true ∧ (∀ b, c b ≤ 1) ∧ (∀ b, S b → c b = 0 ∧ H b ≠ none) ∧
  Reps K mg H (fun _ => False) (fun b => H b ≠ none ∧ c b = 0) [] (setFs .bw vs) ys (fun _ => 0) ∧ match Fn (v :: setFs .bw vs) with
  | .ok r w => allOwn r = true ∧ stor w = true ∧ ∀ F' H' x c1 c2, (∀ b, F' b → H' b ≠ none) → Rep K mg H' F' (fun b => H b ≠ none ∧ c b = 0) [] w x0 c1 → Rep K mg H' F' (fun b => H b ≠ none ∧ c b = 0) [] r x c2 → Step S c H F' (fun b => c1 b + c2 b) H' → Q x H'
  | .bad => False
def endIO (s : Sta) (r : Vl) : RIO := match s.sl[0]? with
  | some (some w) => if allOwn r && (stor w && noRef w) then .ok r w else .bad
  | _ => .bad
def runIO (n : Nat) (body : C) : List Vl → RIO := fun vs => match body ⟨vs.map some ++ List.replicate (n - vs.length) none, [], [0]⟩ with
  | .nx s => endIO s .non
  | .rt v s => endIO s v
  | _ => .bad
section
variable {K : PySem.W.Frag} {mg : Str → Option Value} {H : Hp} {F T : Addr → Prop} {as as' : List Addr}
mutual
theorem Rep.reAs {v : Vl} {x : V} {c : Addr → Nat} (r : Rep K mg H F T as v x c) (n : noRef v = true) : Rep K mg H F T as' v x c := by
  cases r with
  | non hc => exact .non hc
  | bl hc => exact .bl hc
  | int hc => exact .int hc
  | str hc => exact .str hc
  | ref h hc => unfold noRef at n; cases n
  | sym h hc => exact .sym h hc
  | tup h r => unfold noRef at n; exact .tup h (Reps.reAs r n)
  | own h ho r hc => unfold noRef at n; exact .own h ho (Reps.reAs r n) hc
  | sh h r hc => unfold noRef at n; exact .sh h (Reps.reAs r n) hc
  | bw h r hc => unfold noRef at n; exact .bw h (Reps.reAs r n) hc
  | tr h r hc => unfold noRef at n; exact .tr h (Reps.reAs r n) hc
theorem Reps.reAs {v : List Vl} {x : List V} {c : Addr → Nat} (r : Reps K mg H F T as v x c) (n : noRefs v = true) : Reps K mg H F T as' v x c := by
  cases r with
  | nil hc => exact .nil hc
  | cons r1 r2 hc =>
    unfold noRefs at n
    simp only [Bool.and_eq_true] at n
    exact .cons (Rep.reAs r1 n.1) (Reps.reAs r2 n.2) hc
end
end
mutual
theorem noTr_bw : ∀ {v : Vl}, noTr (setF .bw v) = true
  | .tup xs => by unfold setF noTr; exact noTrs_bw
  | .nd f k xs => by unfold setF noTr; simp only [Bool.and_eq_true]; exact ⟨by decide, noTrs_bw⟩
  | .non => rfl
  | .bl _ => rfl
  | .int _ => rfl
  | .str _ => rfl
  | .ref _ => rfl
  | .sym _ => rfl
theorem noTrs_bw : ∀ {v : List Vl}, noTrs (setFs .bw v) = true
  | [] => rfl
  | v :: r => by unfold setFs noTrs; simp only [Bool.and_eq_true]; exact ⟨noTr_bw, noTrs_bw⟩
end
theorem body_io {K : PySem.W.Frag} {mg : Str → Option Value} {body : C} {N ps : List Str} {vs : List V} {H : Hp} {Q : VK} {E : XK} (hN : ps.length ≤ N.length) (h : spIO K mg ps.length (runIO N.length body) vs H Q E) : SI K mg (fun cls d _ H => E cls d H) body { nx := fun _ H' => Q .non H', rt := Q } (L2.start N vs) H := by
  obtain ⟨hl, v, x0, ys, ws, c, S, rfl, r0, nv, le, fr, rv, q⟩ := h
  have lw := rv.length
  have lw2 : ws.length = ys.length := by rw [← lw]; exact (len_setFs _ _).symm
  have e0 : (v :: setFs .bw ws).length = (x0 :: ys).length := by simp only [List.length_cons]; omega
  refine ⟨S, fun b => H b ≠ none ∧ c b = 0, [], [(0, x0)], ⟨(v :: setFs .bw ws).map some ++ List.replicate (N.length - (v :: setFs .bw ws).length) none, [], [0]⟩, c, ⟨⟨c, fun _ => 0, ?_, .nil fun _ => rfl, rfl, fun _ => rfl⟩, le, fun b z => ?_, rfl, fun p hp => ?_⟩, ?_⟩
  · unfold L2.start
    rw [e0]
    show RepSl K mg H _ _ _ (some v :: ((setFs .bw ws).map some ++ _)) (some x0 :: (ys.map some ++ _)) _
    have z := RepSl.ofReps (n := N.length - (x0 :: ys).length) (rv.stay noTrs_bw (fun b o e _ => e) (fun _ h => h.elim) (fun _ h => h) Pre.refl : Reps K mg H S (fun b => H b ≠ none ∧ c b = 0) [] (setFs .bw ws) ys (fun _ => 0)) noTrs_bw
    exact .yes (r0.stay nv (fun b o e _ => e) (fun _ h => h) (fun _ h => h.elim) Pre.refl) nv z fun b => rfl
  · rcases z with z | z
    · exact fr b z
    · exact ⟨z.2, z.1⟩
  · rw [List.mem_singleton] at hp
    subst hp
    rfl
  · unfold runIO at q
    have fin : ∀ {s : Sta} {r : Vl} {F' : Addr → Prop} {as' : List Addr} {σ' : L2.St} {H' : Hp} {x : V} {c1 c2 : Addr → Nat}, (match endIO s r with
        | .ok r w => allOwn r = true ∧ stor w = true ∧ ∀ F' H' x c1 c2, (∀ b, F' b → H' b ≠ none) → Rep K mg H' F' (fun b => H b ≠ none ∧ c b = 0) [] w x0 c1 → Rep K mg H' F' (fun b => H b ≠ none ∧ c b = 0) [] r x c2 → Step S c H F' (fun b => c1 b + c2 b) H' → Q x H'
        | .bad => False) → Rel K mg F' (fun b => H b ≠ none ∧ c b = 0) as' [(0, x0)] s σ' H' c1 → Rep K mg H' F' (fun b => H b ≠ none ∧ c b = 0) as' r x c2 → Step S c H F' (fun b => c1 b + c2 b) H' → Q x H' := by
      intro s r F' as' σ' H' x c1 c2 he hr hx hs
      unfold endIO at he
      split at he
      · rename_i r' w' eq
        split at eq
        · rename_i w es
          split at eq
          · rename_i hc0
            cases eq
            simp only [Bool.and_eq_true] at hc0
            obtain ⟨y, d1, d2, e1, ry, _, _, hc⟩ := hr.slot es
            have e2 := hr.lk.2 (0, x0) (List.mem_singleton.mpr rfl)
            rw [e1] at e2
            cases e2
            exact he.2.2 F' H' x d1 c2 (fun b z => (hr.fr b (.inl z)).2) (ry.reAs hc0.2.2) (hx.home hc0.1) (hs.less fun b => by have := hc b; show d1 b + c2 b ≤ c1 b + c2 b; omega)
          · cases eq
        · cases eq
      · exact he.elim
    cases e1 : body ⟨(v :: setFs .bw ws).map some ++ List.replicate (N.length - (v :: setFs .bw ws).length) none, [], [0]⟩ with
    | bad => rw [e1] at q; exact q
    | bk s => rw [e1] at q; exact (show False from q).elim
    | ct s => rw [e1] at q; exact (show False from q).elim
    | exc cl s => rw [e1] at q; exact (show False from q).elim
    | nx s =>
      rw [e1] at q
      exact fun F' as' σ' H' c' r s p => fin q r (Rep.non' (F := F')) (s.less fun b => by show c' b + 0 ≤ c' b; omega)
    | rt r s =>
      rw [e1] at q
      exact fun F' as' σ' H' x c1 c2 r rx s p => fin q r rx s
end PyI
namespace PyI
open PySem PySem.Spec PyProof.Rows L2
theorem Fun.okIO {P : Program} {w : World} {K : PySem.W.Frag} {mg : Str → Option Value} {base : Heap} {x qual : Str} {st : Stmt} {f : Addr} {fd : FuncData} {N ps : List Str} {k : Nat} {body : C} (F : L2.Fun K x qual st f fd) (S : FnScope N ps (defScope st)) (hb : BodyOk P w K mg base k N qual st f body) :
    FnOk P w K mg base (L2.CX P w) (k + 1) f fd ps (spIO K mg ps.length (runIO N.length body)) := by
  have hpl : ps.length ≤ N.length := by have := congrArg List.length S.pre; rw [List.length_take] at this; omega
  refine F.okX S (fun vs H Q E h => h.1) fun cdv A outer s H vs Q E hr h => ?_
  exact ⟨_, hb cdv A outer s H E hr (fun cls d _ H => E cls d H) (takes_of rfl rfl rfl rfl), body_io hpl h⟩
def HasIO (P : Program) (w : World) (K : PySem.W.Frag) (mg : Str → Option Value) (base : Heap) (x : Str) (k : Nat) (ps : List Str) (Fn : List Vl → RIO) : Prop :=
  ∃ f fd, mg x = some (.ref f) ∧ PySem.W.keepIn K (.ref f) = true ∧ Binds K fd ps [] ∧ FnOk P w K mg base (L2.CX P w) k f fd ps (spIO K mg ps.length Fn)
theorem hasIO {P : Program} {w : World} {K : PySem.W.Frag} {mg : Str → Option Value} {base : Heap} {x : Str} {st : Stmt} {N ps : List Str} {k : Nat} {body : C} (d : DefAt K mg x st) (S : FnScope N ps (defScope st)) (hb : ∀ f, BodyOk P w K mg base k N x st f body)
    (bind : ∀ (kV doc pm : Value) (an : Option Addr) (cdv ct : Value) (us : List Value), us.length = ps.length → bindArgs (PySem.W.fnOf x x (defArgs st) (defBody st) (defScope st) .none kV doc pm an cdv ct) ⟨us, []⟩ = pure (ps.zip us)) :
    HasIO P w K mg base x (k + 1) ps (runIO N.length body) := by
  obtain ⟨f, fd, F, m⟩ := d
  exact ⟨f, fd, m, F.kp, F.binds bind, Fun.okIO F S (hb f)⟩
end PyI

namespace PyI
open PySem PySem.Spec PyProof.Rows L2
section
variable {K : PySem.W.Frag} {mg : Str → Option Value} {H : Hp} {F F' T T' : Addr → Prop} {as as' : List Addr}
mutual
theorem Rep.toBw {v : Vl} {x : V} {c : Addr → Nat} (r : Rep K mg H F T as v x c) (nt : noTr v = true) (nr : noRef v = true) (hF : ∀ b, F b → T' b) (hT : ∀ b, T b → T' b) (hc' : ∀ b, c b ≠ 0 → T' b) : Rep K mg H F' T' as' (setF .bw v) x (fun _ => 0) := by
  cases r with
  | non hc => unfold setF; exact .non fun _ => rfl
  | bl hc => unfold setF; exact .bl fun _ => rfl
  | int hc => unfold setF; exact .int fun _ => rfl
  | str hc => unfold setF; exact .str fun _ => rfl
  | ref h hc => unfold noRef at nr; cases nr
  | sym h hc => unfold setF; exact .sym h fun _ => rfl
  | tup h r => unfold noTr at nt; unfold noRef at nr; unfold setF; exact .tup h (Reps.toBw r nt nr hF hT hc')
  | own h ho r hc =>
    unfold noTr at nt; simp only [Bool.and_eq_true] at nt; unfold noRef at nr; unfold setF
    exact .bw (.inl ⟨hc' _ (by rw [hc]; simp), _, ho, .inl h⟩) (Reps.toBw r nt.2 nr hF hT fun b q => hc' b (by rw [hc]; omega)) fun _ => rfl
  | sh h r hc =>
    unfold noTr at nt; simp only [Bool.and_eq_true] at nt; unfold noRef at nr; unfold setF
    refine .bw ?_ (Reps.toBw r nt.2 nr hF hT hc') fun _ => rfl
    rcases h with ⟨h1, h2⟩ | h
    · exact .inl ⟨hF _ h1, h2⟩
    · exact .inr h
  | bw h r hc =>
    unfold noTr at nt; simp only [Bool.and_eq_true] at nt; unfold noRef at nr; unfold setF
    refine .bw ?_ (Reps.toBw r nt.2 nr hF hT hc') fun _ => rfl
    rcases h with ⟨h1, h2⟩ | h
    · exact .inl ⟨hT _ h1, h2⟩
    · exact .inr h
  | tr h r hc => unfold noTr at nt; simp at nt
theorem Reps.toBw {v : List Vl} {x : List V} {c : Addr → Nat} (r : Reps K mg H F T as v x c) (nt : noTrs v = true) (nr : noRefs v = true) (hF : ∀ b, F b → T' b) (hT : ∀ b, T b → T' b) (hc' : ∀ b, c b ≠ 0 → T' b) : Reps K mg H F' T' as' (setFs .bw v) x (fun _ => 0) := by
  cases r with
  | nil hc => unfold setFs; exact .nil fun _ => rfl
  | cons r1 r2 hc =>
    unfold noTrs at nt
    unfold noRefs at nr
    simp only [Bool.and_eq_true] at nt nr
    unfold setFs; exact .cons (Rep.toBw r1 nt.1 nr.1 hF hT fun b q => hc' b (by rw [hc]; omega)) (Reps.toBw r2 nt.2 nr.2 hF hT fun b q => hc' b (by rw [hc]; omega)) fun _ => rfl
end
end
end PyI
namespace PyI
open PySem PySem.Spec PyProof.Rows L2
def callIOE (i n : Nat) (Fn : List Vl → RIO) (fs : List E) : E := fun st => match st.sl[i]? with
  | some (some (.nd .own _ _)) => (match evs fs st with
    | .ok (vs, st1, _) => (match st1.sl[i]? with
      | some (some (.nd .own k xs)) => if (noTrs vs && noRefs vs) && (stor (.nd .own k xs) && noRef (.nd .own k xs)) && decide (vs.length + 1 = n) then (match Fn (.nd .own k xs :: setFs .bw vs) with
        | .ok r w => .ok (r, { st1 with sl := st1.sl.set i (some w) }, true)
        | .bad => .bad) else .bad
      | _ => .bad)
    | .exc c s => .exc c s
    | .bad => .bad)
  | _ => .bad
theorem EI.callIO {K : PySem.W.Frag} {mg : Str → Option Value} {W : WX} {i n : Nat} {Fn : List Vl → RIO} {fs : List E} {σ : L2.St} {H : Hp} {Q : VK} {E : XK} (h : EI K mg W (callIOE i n Fn fs) σ H Q) (hok : ∀ vs r w, Fn vs = .ok r w → allOwn r = true ∧ stor w = true ∧ noRef w = true) : ∃ x0, σ[i]? = some (some x0) ∧ AI K mg W fs σ H fun ys H2 => spIO K mg n Fn (x0 :: ys) H2 Q E := by
  obtain ⟨F, T, as, L, st, c0, r0, p⟩ := h
  unfold callIOE at p
  split at p
  · rename_i k0 xs0 e0
    obtain ⟨x0, _, _, ex0, _⟩ := r0.slot e0
    refine ⟨x0, ex0, F, T, as, L, st, c0, r0, ?_⟩
    cases e1 : evs fs st with
    | bad => rw [e1] at p; exact p
    | exc cl s => rw [e1] at p; exact p
    | ok z =>
      obtain ⟨vs, st1, f1⟩ := z
      rw [e1] at p
      simp only at p
      intro F1 as1 H2 ys c1 ca r1 rv s1 p1 ef
      split at p
      · rename_i k xs es
        split at p
        · rename_i hc
          simp only [Bool.and_eq_true, decide_eq_true_eq] at hc
          obtain ⟨⟨⟨nt, nr⟩, sv, nv⟩, hn⟩ := hc
          obtain ⟨x, d1, d2, e2, rx, nx, r2, hd⟩ := r1.slot es
          rw [ex0] at e2
          cases e2
          have le1 : ∀ b, c1 b + ca b ≤ 1 := s1.le
          have hl := rv.length
          have tT : ∀ b, T b → d1 b = 0 ∧ H2 b ≠ none := fun b z => by
            have h0 := r1.fr b (.inr z)
            have := hd b
            exact ⟨by omega, h0.2⟩
          have tF : ∀ b, F1 b → d1 b = 0 ∧ H2 b ≠ none := fun b z => by
            have h0 := r1.fr b (.inl z)
            have := hd b
            exact ⟨by omega, h0.2⟩
          refine ⟨by simp only [List.length_cons]; omega, .nd .own k xs, x0, ys, vs, d1, F1, rfl, (rx.anyT sv).reAs nv, nx, fun b => by have := hd b; have := le1 b; omega, tF, rv.toBw nt nr (fun b z => ⟨(tF b z).2, (tF b z).1⟩) (fun b z => ⟨(tT b z).2, (tT b z).1⟩) (fun b z => ⟨fun e => by have := rv.mu b z; rw [e] at this; exact this, by have := hd b; have := le1 b; omega⟩), ?_⟩
          cases e3 : Fn (.nd .own k xs :: setFs .bw vs) with
          | bad => rw [e3] at p; exact p
          | ok r w =>
            rw [e3] at p
            simp only at p
            obtain ⟨ha, hw, nw⟩ := hok _ _ _ e3
            refine ⟨ha, hw, fun F' H' y e1c e2c hF' rw' rr s5 => ?_⟩
            have keep0 : ∀ b, F1 b ∨ T b ∨ d2 b ≠ 0 ∨ ¬ MutO (H2 b) → d1 b = 0 := fun b z => by
              rcases z with z | z | z | z
              · exact (tF b z).1
              · exact (tT b z).1
              · have := hd b; have := le1 b; omega
              · by_cases q : d1 b = 0
                · exact q
                · exact absurd (rx.mu b q) z
            have st2 : Stay H2 H' F1 T d2 := fun b o e z => s5.keep b o e (keep0 b (by
              rcases z with z | z | z | z
              · exact .inl z
              · exact .inr (.inl z)
              · exact .inr (.inr (.inl z))
              · exact .inr (.inr (.inr (by rw [e]; exact z)))))
            have zF : ∀ b, F' b → d2 b = 0 := fun b z => by
              rcases s5.fgr b z with q | q | q
              · exact (r2.fr b (.inl q)).1
              · have := hd b; have := le1 b; omega
              · by_cases u : d2 b = 0
                · exact u
                · exact absurd q (r2.there b u)
            have r3 : Rel K mg F' T as1 L { st1 with sl := st1.sl.set i none } σ H' d2 := by
              obtain ⟨g1, g2, h1, h2, h3, h4⟩ := r2.rep
              refine ⟨⟨g1, g2, h1.stay (st2.le fun b q => by rw [h4]; omega) s5.sub (fun _ h => h) Pre.refl, h2.stay h3 (st2.le fun b q => by rw [h4]; omega) s5.sub (fun _ h => h) Pre.refl, h3, h4⟩, r2.le, fun b z => ?_, r2.lk⟩
              rcases z with z | z
              · exact ⟨zF b z, hF' b z⟩
              · exact ⟨(r2.fr b (.inr z)).1, s5.trk b (tT b z).2⟩
            have hi : i < st1.sl.length := (List.getElem?_eq_some_iff.mp es).1
            have grow : ∀ b, e1c b + e2c b ≠ 0 → d2 b = 0 := fun b z => by
              rcases s5.grow b z with q | q
              · have := hd b; have := le1 b; omega
              · by_cases u : d2 b = 0
                · exact u
                · exact absurd q (r2.there b u)
            have hT0 : ∀ b, T b → e1c b + e2c b = 0 := fun b z => by
              by_cases u : e1c b + e2c b = 0
              · exact u
              · rcases s5.grow b u with q | q
                · exact absurd (tT b z).1 q
                · exact absurd q (tT b z).2
            have r4 := r3.fill (v := w) (x := x0) (c1 := e1c) hi ex0 ((rw'.anyT hw).reAs nw) (stor_noTr hw) (fun b => by
              by_cases u : e1c b = 0
              · have := r2.le b; omega
              · have := grow b (by omega); have : e1c b + e2c b ≤ 1 := s5.le b; omega) fun b z => by
                rcases z with z | z
                · have : e1c b + e2c b = 0 := s5.dis b z; omega
                · have := hT0 b z; omega
            have dn : ∀ b, d1 b ≠ 0 → c0 b ≠ 0 ∨ H b = none := fun b z => s1.grow b (by have := hd b; show c1 b + ca b ≠ 0; omega)
            have n0 : ∀ b, H2 b = none → H b = none := fun b z => by
              cases u : H b with
              | none => rfl
              | some o => exact absurd z (s1.trk b (by rw [u]; exact fun w => nomatch w))
            refine p F' as1 H' y _ e2c r4 (rr.home ha) ⟨fun b o e z => ?_, fun b z => ?_, fun b => ?_, fun b z => s5.sub b (s1.sub b z), fun b z => ?_, fun b z => ?_, fun b z => s5.trk b (s1.trk b z)⟩ p1 fun z => nomatch z
            · have h2 := s1.keep b o e z
              refine s5.keep b o h2 ?_
              by_cases q : d1 b = 0
              · exact q
              · rcases dn b q with w | w
                · exact absurd z w
                · rw [e] at w; cases w
            · have z' : (e1c b + d2 b) + e2c b ≠ 0 := z
              by_cases q : e1c b + e2c b = 0
              · exact s1.grow b (by have := hd b; show c1 b + ca b ≠ 0; omega)
              · rcases s5.grow b q with w | w
                · exact dn b w
                · exact .inr (n0 b w)
            · show (e1c b + d2 b) + e2c b ≤ 1
              by_cases q : e1c b + e2c b = 0
              · have := r2.le b; omega
              · have := grow b q; have : e1c b + e2c b ≤ 1 := s5.le b; omega
            · show (e1c b + d2 b) + e2c b = 0
              have : e1c b + e2c b = 0 := s5.dis b z
              have := zF b z
              omega
            · rcases s5.fgr b z with q | q | q
              · exact s1.fgr b q
              · exact .inr (dn b q)
              · exact .inr (.inr (n0 b q))
        · exact (show False from p).elim
      · exact (show False from p).elim
  · exact (show False from p).elim
end PyI
namespace PyI
open PySem PySem.Spec PyProof.Rows L2
theorem runIO_ok {n : Nat} {body : C} {vs : List Vl} {r w : Vl} (h : runIO n body vs = .ok r w) : allOwn r = true ∧ stor w = true ∧ noRef w = true := by
  have key : ∀ {s : Sta} {r0 : Vl}, endIO s r0 = .ok r w → allOwn r = true ∧ stor w = true ∧ noRef w = true := by
    intro s r0 he
    unfold endIO at he
    split at he
    · split at he
      · rename_i hc
        cases he
        simp only [Bool.and_eq_true] at hc
        exact ⟨hc.1, hc.2.1, hc.2.2⟩
      · cases he
    · cases he
  unfold runIO at h
  split at h
  · exact key h
  · exact key h
  · cases h
section
variable {X : Cx} {g x : Str} {p px pos : Pos} {es : List Expr} {fs : List E} {i k N : Nat} {ps : List Str} {body : C}
theorem EOk.callIO (G : HasIO X.prog X.w X.K X.mg X.base g k ps (runIO N body)) (hr : Room k X.A) (ha : AOk X es fs) (hN : X.N[i]? = some x := by rfl) (hv : Vis X.env.scope x := by first | exact Or.inl rfl | exact Or.inr (Or.inl rfl) | exact Or.inr (Or.inr rfl))
    (hd : (x == ("__debug__" : Str)) = false := by decide) (hcd : (x == ("__classdict__" : Str)) = false := by decide) (hg : Gl X g := by rfl) (hdb : (g == ("__debug__" : Str)) = false := by decide)
    (he : starEach (.Name x px :: es) X.env = (false, eval (.Name x px) X.env) :: starEach es X.env := by rfl) (hpl : (backTo pos (starEach es X.env)).any (·.1) = false := by rfl) :
    EOk X (.Call (.Name g p) (.Name x px :: es) [] pos) (callIOE i ps.length (runIO N body) fs) := by
  obtain ⟨f, fd, m, kp, b, G⟩ := G
  exact fun W t => (pe_callS (E := WE W) G hr hg m kp b (fun σ => passAt t σ) (pa_cons (pe_var hN hv hd hcd) (ha W t) he) hdb he hpl).imp fun σ H Q h => h.callIO fun vs r w e => runIO_ok e
end
end PyI

namespace L2
open PySem PySem.Spec PyProof.Rows
/-- a or b, by a's truth -/
def tOrT (K : PySem.W.Frag) (ta tb : TE) : TE := fun σ H Q => ta σ H fun x H1 => ∃ k, TruV K x H1 k ∧ if k = true then Q x H1 else tb σ H1 Q
theorem pe_orT {X : Cx} {a b : Expr} {rest : List Expr} {ta tb : TE} {pos : Pos} (ha : PE X a ta) (hb : PE X (.BoolOp .Or (b :: rest) pos) tb) : PE X (.BoolOp .Or (a :: b :: rest) pos) (tOrT X.K ta tb) := by
  refine ⟨fun pins s σ H Q I h => ?_⟩
  refine BoolOp_or (thn (ha.run pins s σ H _ I h) fun v s1 ⟨x, H1, I1, r1, q1⟩ => ?_)
  obtain ⟨k, hk, q1⟩ := q1
  refine wpAny_mono (tru_ok pins s1 σ H1 x v (fun k' H2 => k' = k ∧ H2 = H1) I1 r1 ⟨k, hk, rfl, rfl⟩) (fun c s2 hc => ?_) fun _ _ z => z
  obtain ⟨H2, I2, e1, e2⟩ := hc
  subst e1 e2
  cases c with
  | false => exact hb.run pins s2 σ _ Q I2 q1
  | true => exact ⟨x, _, I2, r1, q1⟩
end L2
namespace PyI
open PySem PySem.Spec PyProof.Rows L2
def orLE (fa fb : E) : E := fun st => match fa st with
  | .ok (.nd f .lst xs, st1, false) => if xs.isEmpty then fb st1 else .ok (.nd f .lst xs, st1, false)
  | .ok _ => .bad
  | .exc c s => .exc c s
  | .bad => .bad
theorem EI.orL {K : PySem.W.Frag} {mg : Str → Option Value} {W : WX} {fa fb : E} {σ : L2.St} {H : Hp} {Q : VK} (h : EI K mg W (orLE fa fb) σ H Q) : EI K mg W fa σ H fun x H1 => ∃ k, TruV K x H1 k ∧ if k = true then Q x H1 else EI K mg W fb σ H1 Q := by
  obtain ⟨F, T, as, L, st, c, r, p⟩ := h
  refine ⟨F, T, as, L, st, c, r, ?_⟩
  unfold orLE at p
  cases e1 : fa st with
  | bad => rw [e1] at p; exact p
  | exc cl s => rw [e1] at p; exact p
  | ok q =>
    obtain ⟨v, st1, f1⟩ := q
    rw [e1] at p
    intro F1 as1 H1 x c1 c2 r1 rv s1 p1 ef
    split at p
    · rename_i f xs st1' eq
      cases eq
      obtain ⟨a, ysV, c', rfl, hS, rr, _⟩ := rv.inv_lst
      have hl := rr.length
      refine ⟨!ysV.isEmpty, .inl ⟨ysV, hS, rfl⟩, ?_⟩
      cases xs with
      | nil =>
        have : ysV = [] := List.eq_nil_of_length_eq_zero (by simpa using hl.symm)
        subst this
        have p' : EPost K mg W F T as L st c σ H (fb st1) Q := p
        have s1' : Step F c H F1 c1 H1 := s1.less fun b => Nat.le_add_right _ _
        refine ⟨F1, T, as1, L, st1, c1, r1, ?_⟩
        cases e2 : fb st1 with
        | bad => rw [e2] at p'; exact (show False from p').elim
        | exc cl s => rw [e2] at p'; exact XPost.back p' r1 (cv := fun _ => 0) (fun b q => absurd rfl q) s1' p1
        | ok z =>
          obtain ⟨w, st2, f2⟩ := z
          rw [e2] at p'
          intro F2 as2 H2 y d1 d2 r2 rw' s2 p2 ef2
          refine p' F2 as2 H2 y d1 d2 r2 rw' (s1'.trans s2) (p1.trans p2) fun q => ?_
          exact ⟨(ef rfl).1.trans (ef2 q).1, (ef2 q).2.1.trans (ef rfl).2.1, fun b h => (ef rfl).2.2 b ((ef2 q).2.2 b h)⟩
      | cons w ws =>
        cases ysV with
        | nil => simp at hl
        | cons z zs => exact p F1 as1 H1 _ c1 c2 r1 rv s1 p1 ef
    · exact (show False from p).elim
    · rename_i h; cases h
    · rename_i h; cases h
theorem EOk.orL {X : Cx} {a b : Expr} {rest : List Expr} {pos : Pos} {fa fb : E} (ha : EOk X a fa) (hb : EOk X (.BoolOp .Or (b :: rest) pos) fb) : EOk X (.BoolOp .Or (a :: b :: rest) pos) (orLE fa fb) := fun W t =>
  (pe_orT (ha W t) (hb W t)).imp fun σ H Q h => h.orL
end PyI

namespace PyI
open PySem PySem.Spec PyProof.Rows L2
/-! ### x[a], x[b] = v, w: plain values -/
def flatV0 (w : Vl) : Bool := match w with
  | .non => true
  | .bl _ => true
  | .int _ => true
  | .str _ => true
  | _ => false
/-- store a plain value at a place of a slot's own list -/
def tgIx (i : Nat) (fi : E) : Tg := fun v st => match fi st with
  | .ok (.int j, _, false) => (match getN st i with
    | some (.lst, xs) => if flatV0 v then (ixN xs.length j).map fun n => putN st i .lst (xs.set n v) else none
    | _ => none)
  | _ => none
theorem flat_rep {K : PySem.W.Frag} {mg : Str → Option Value} {H H' : Hp} {F F' T T' : Addr → Prop} {as as' : List Addr} {v : Vl} {x : V} {c : Addr → Nat} (r : Rep K mg H F T as v x c) (f : flatV0 v = true) : Rep K mg H' F' T' as' v x (fun _ => 0) := by
  unfold flatV0 at f
  split at f
  · cases r; exact .non fun _ => rfl
  · cases r; exact .bl fun _ => rfl
  · cases r; exact .int fun _ => rfl
  · cases r; exact .str fun _ => rfl
  · cases f
theorem flat_so {v : Vl} (f : flatV0 v = true) : stor v = true := by
  unfold flatV0 at f
  split at f <;> first | rfl | cases f
/-- what a plain value's target wishes -/
def FI (K : PySem.W.Frag) (mg : Str → Option Value) (g : Tg) : TG := fun x σ H Q => ∃ F T as L st v c, Rel K mg F T as L st σ H c ∧ Rep K mg H F T as v x (fun _ => 0) ∧ ∃ st', g v st = some st' ∧ ∀ H' c', Rel K mg F T as L st' σ H' c' → Step F c H F c' H' → Q σ H'
def FOk (X : Cx) (tg : Expr) (g : Tg) : Prop := PG X tg (FI X.K X.mg g)
end PyI
namespace PyI
open PySem PySem.Spec PyProof.Rows L2
section
variable {X : Cx} {x : Str} {ei : Expr} {fi : E} {i : Nat} {p0 q0 : Pos}
theorem FOk.sub (hi : EOk X ei fi) (hN : X.N[i]? = some x := by rfl) (hv : Vis X.env.scope x := by first | exact Or.inl rfl | exact Or.inr (Or.inl rfl) | exact Or.inr (Or.inr rfl)) (hd : (x == ("__debug__" : Str)) = false := by decide) (hcd : (x == ("__classdict__" : Str)) = false := by decide)
    (ha : ∀ v, assign (.Subscript (.Name x p0) ei q0) X.env v = (do
      let ov ← holding [v] (eval (.Name x p0) X.env)
      let iv ← holding [v, ov] (eval ei X.env)
      standAt q0
      holding [v, ov, iv] (setItem ov iv v)
      release [v, ov, iv] []) := by intro _; rfl) : FOk X (.Subscript (.Name x p0) ei q0) (tgIx i fi) :=
  (pg_sub (pe_var hN hv hd hcd) (hi _ takesF) set_list ha).imp fun v σ H Q ⟨F, T, as, L, st, w, c, r, rv, st', e, q⟩ => by
    unfold tgIx at e
    split at e
    · rename_i j s' ef
      split at e
      · rename_i xs eg
        split at e
        · rename_i hfl
          obtain ⟨n, en, e2⟩ := Option.map_eq_some_iff.mp e
          subst e2
          obtain ⟨a, o, xsV, cx, es, ha, ho, rx, ntx, kx, up⟩ := r.node eg
          refine ⟨.ref a, es, F, T, as, L, st, c, r, ?_⟩
          rw [ef]
          intro F1 as1 H2 y c1 c2 r1 ry s1 p1 ef1
          obtain ⟨sm, _, _⟩ := ef1 rfl
          have rs := r.same sm
          obtain ⟨a2, o2, xsV2, cx2, es2, ha2, ho2, rx2, ntx2, kx2, up2⟩ := rs.node eg
          rw [es] at es2
          cases es2
          cases ho2
          refine ⟨a, xsV2, j, n, rfl, ry.inv_int, ha2, by rw [← rx2.length]; exact en, ?_⟩
          obtain ⟨c', r3, k3⟩ := rx2.set (k := n) (flat_rep (F' := F) (T' := T) (as' := as) (H' := H2) rv hfl)
          have nt3 : noTrs (xs.set n w) = true := by
            have : ∀ (l : List Vl) (n : Nat), noTrs l = true → noTrs (l.set n w) = true := by
              intro l
              induction l with
              | nil => intro n h; exact h
              | cons u l ih =>
                intro n h
                unfold noTrs at h
                simp only [Bool.and_eq_true] at h
                cases n with
                | zero => show (noTr w && noTrs l) = true; rw [stor_noTr (flat_so hfl), h.2]; rfl
                | succ n => show (noTr u && noTrs (l.set n w)) = true; rw [h.1, ih n h.2]; rfl
            exact this xs n ntx2
          obtain ⟨c3, r4, k4⟩ := up2 (fun _ => 0) .lst (xs.set n w) (xsV2.set n v) c' _ (fun b => by have := r.le b; omega) (fun _ _ => rfl) (fun b => by have := k3 b; omega) r3 nt3 rfl
          have oa : oneD a a = 1 := if_pos rfl
          refine q _ c3 r4 ⟨fun b u e z => ?_, fun b z => .inl ?_, r4.le, fun _ h => h, fun b z => (r4.fr b (.inl z)).1, fun _ h => .inl h, fun b z => ?_⟩
          · have nb : b ≠ a := fun eb => by
              subst eb
              have := kx2 b
              omega
            rw [upd_ne nb]; exact sm _ _ e
          · have := k4 b; have := k3 b; have := kx2 b
            omega
          · by_cases eb : b = a
            · rw [eb, upd_same]; exact fun w => nomatch w
            · rw [upd_ne eb]; exact PyI.Same.trk sm b z
        · cases e
      · cases e
    · cases e
end
end PyI
namespace PyI
open PySem PySem.Spec PyProof.Rows L2
/-- x[a], x[b] = v, w, of plain values -/
def swapC (fv fw : E) (g1 g2 : Tg) : C := fun st => match evs [fv, fw] st with
  | .ok ([v, w], st1, _) => if flatV0 v && flatV0 w then (match g1 v st1 with
    | some st2 => (match g2 w st2 with
      | some st3 => .nx st3
      | none => .bad)
    | none => .bad) else .bad
  | .ok _ => .bad
  | .exc c s => .exc c s
  | .bad => .bad
section
variable {X : Cx} {t1 t2 e1 e2 : Expr} {g1 g2 : Tg} {fv fw : E} {k : Nat} {tp q0 pos : Pos} {n1 : Nat}
theorem SOk.swap (hc : X.calm = true) (hv : EOk X e1 fv) (hw : EOk X e2 fw) (h1 : FOk X t1 g1) (h2 : FOk X t2 g2)
    (hn : (assignEach [t1, t2] X.env).length = 2 := by rfl) (hst : (assignEach [t1, t2] X.env).findIdx? (·.1) = none := by rfl)
    (ha1 : (assignEach [t1, t2] X.env).map (·.2) = assign t1 X.env :: (assignEach [t2] X.env).map (·.2) := by rfl) (ha2 : (assignEach [t2] X.env).map (·.2) = assign t2 X.env :: (assignEach [] X.env).map (·.2) := by rfl)
    (hs : swapsWithSole [.Tuple [t1, t2] k tp] (.Tuple [e1, e2] n1 q0) pos.line X.env = pure false := by rfl) (hsw : swappedStores [.Tuple [t1, t2] k tp] (.Tuple [e1, e2] n1 q0) X.env = pure none := by rfl)
    (ha : (assignEach [.Tuple [t1, t2] k tp] X.env).map (·.2) = [assign (.Tuple [t1, t2] k tp) X.env] := by rfl)
    (hse : starEach [e1, e2] X.env = (false, eval e1 X.env) :: starEach [e2] X.env := by rfl) (hse2 : starEach [e2] X.env = (false, eval e2 X.env) :: starEach [] X.env := by rfl) :
    SOk X (.Assign [.Tuple [t1, t2] k tp] (.Tuple [e1, e2] n1 q0) pos) (swapC fv fw g1 g2) := fun W t =>
  (ps_asg (pe_tup ((AOk.cons hv (AOk.cons hw AOk.nil hse2) hse) W t)) (pg_tup hc (pgs_cons h1 (pgs_cons h2 pgs_nil ha2) ha1) hn hst) hs hsw ha).imp fun D σ H h => by
    obtain ⟨F, T, as, L, st, c, r, p⟩ := h
    show AI X.K X.mg W [fv, fw] σ H _
    refine ⟨F, T, as, L, st, c, r, ?_⟩
    unfold swapC at p
    cases e0 : evs [fv, fw] st with
    | bad => rw [e0] at p; exact p
    | exc cl s => rw [e0] at p; exact p
    | ok z =>
      obtain ⟨vs, st1, f1⟩ := z
      rw [e0] at p
      intro F1 as1 H1 xs c1 ca r1 rv s1 p1 ef
      split at p
      · rename_i v w st1' f1' eq
        cases eq
        split at p
        · rename_i hf
          simp only [Bool.and_eq_true] at hf
          obtain ⟨x, y, d1, d2, rfl, rx, ry, hd⟩ := rv.inv2
          split at p
          · rename_i st2 eg1
            split at p
            · rename_i st3 eg2
              refine ⟨by rw [sizeLine_eq]; simp, fun q hq => ?_⟩
              have sm : Same H1 (upd H1 q (.tup [x, y])) := same_new hq
              refine ⟨q, [x, y], rfl, .inl (.inl upd_same), rfl, x, [y], rfl, ?_⟩
              refine ⟨F1, T, as1, L, st1, v, c1, r1.same sm, flat_rep rx hf.1, st2, eg1, fun H2 c2 r2 s2 => ?_⟩
              refine ⟨y, [], rfl, ?_⟩
              refine ⟨F1, T, as1, L, st2, w, c2, r2, flat_rep ry hf.2, st3, eg2, fun H3 c3 r3 s3 => ?_⟩
              refine ⟨rfl, p F1 as1 σ H3 c3 r3 ?_ p1⟩
              have s0 : Step F c H F1 c1 (upd H1 q (.tup [x, y])) := ⟨fun b o e z => sm _ _ (s1.keep b o e z), fun b z => s1.grow b (by show c1 b + ca b ≠ 0; omega), r1.le, s1.sub, fun b z => by have : c1 b + ca b = 0 := s1.dis b z; omega, s1.fgr, fun b z => PyI.Same.trk sm b (s1.trk b z)⟩
              exact (s0.trans s2).trans s3
            · exact (show False from p).elim
          · exact (show False from p).elim
        · exact (show False from p).elim
      · exact (show False from p).elim
      · rename_i h; cases h
      · rename_i h; cases h
end
end PyI

namespace PyI
open PySem PySem.Spec PyProof.Rows L2
/-! ### sorted, of whole numbers -/
def insI (n : Int) : List Int → List Int
  | [] => [n]
  | m :: r => if n ≤ m then n :: m :: r else m :: insI n r
def sortI : List Int → List Int
  | [] => []
  | n :: r => insI n (sortI r)
theorem insI_perm (n : Int) : ∀ r : List Int, (insI n r).Perm (n :: r)
  | [] => List.Perm.refl _
  | m :: r => by
    unfold insI
    split
    · exact List.Perm.refl _
    · exact ((insI_perm n r).cons m).trans (List.Perm.swap n m r)
theorem sortI_perm : ∀ r : List Int, (sortI r).Perm r
  | [] => List.Perm.refl _
  | n :: r => (insI_perm n _).trans ((sortI_perm r).cons n)
theorem insI_sorted (n : Int) : ∀ {r : List Int}, r.Pairwise (· ≤ ·) → (insI n r).Pairwise (· ≤ ·)
  | [], _ => List.pairwise_singleton _ _
  | m :: r, h => by
    obtain ⟨h1, h2⟩ := List.pairwise_cons.mp h
    unfold insI
    split
    · rename_i hn
      refine List.pairwise_cons.mpr ⟨fun x hx => ?_, h⟩
      rcases List.mem_cons.mp hx with rfl | hx
      · exact hn
      · exact Int.le_trans hn (h1 x hx)
    · rename_i hn
      refine List.pairwise_cons.mpr ⟨fun x hx => ?_, insI_sorted n h2⟩
      rcases List.mem_cons.mp ((insI_perm n r).mem_iff.mp hx) with rfl | hx
      · omega
      · exact h1 x hx
theorem sortI_sorted : ∀ r : List Int, (sortI r).Pairwise (· ≤ ·)
  | [] => List.Pairwise.nil
  | n :: r => insI_sorted n (sortI_sorted r)
theorem sorted_uniq : ∀ {a b : List Int}, a.Perm b → a.Pairwise (· ≤ ·) → b.Pairwise (· ≤ ·) → a = b
  | [], b, p, _, _ => (List.nil_perm.mp p).symm
  | x :: a, [], p, _, _ => absurd p.length_eq (by simp)
  | x :: a, y :: b, p, ha, hb => by
    obtain ⟨a1, a2⟩ := List.pairwise_cons.mp ha
    obtain ⟨b1, b2⟩ := List.pairwise_cons.mp hb
    have hx : x ∈ y :: b := p.mem_iff.mp List.mem_cons_self
    have hy : y ∈ x :: a := p.mem_iff.mpr List.mem_cons_self
    have e : x = y := by
      have h1 : y ≤ x := by rcases List.mem_cons.mp hx with h | h; exact Int.le_of_eq h.symm; exact b1 x h
      have h2 : x ≤ y := by rcases List.mem_cons.mp hy with h | h; exact Int.le_of_eq h.symm; exact a1 y h
      omega
    subst e
    rw [sorted_uniq ((List.perm_cons x).mp p) a2 b2]

/-! ### .. of tuples of whole numbers -/
def lexL : List Int → List Int → Bool
  | [], [] => false
  | [], _ :: _ => true
  | _ :: _, [] => false
  | x :: xs, y :: ys => if x = y then lexL xs ys else decide (x < y)
theorem lexL_asym : ∀ {a b : List Int}, lexL a b = true → lexL b a = false
  | [], [], h => rfl
  | [], _ :: _, h => rfl
  | _ :: _, [], h => by cases h
  | x :: xs, y :: ys, h => by
    unfold lexL at h ⊢
    by_cases e : x = y
    · rw [if_pos e] at h; rw [if_pos e.symm]; exact lexL_asym h
    · rw [if_neg e] at h; rw [if_neg fun z => e z.symm]
      have := of_decide_eq_true h
      exact decide_eq_false (by omega)
theorem lexL_neg : ∀ {a b c : List Int}, lexL a b = false → lexL b c = false → lexL a c = false
  | [], [], c, _, h => h
  | [], _ :: _, _, h, _ => by cases h
  | x :: xs, b, [], _, _ => rfl
  | x :: xs, [], z :: zs, _, h => by cases h
  | x :: xs, y :: ys, z :: zs, h1, h2 => by
    unfold lexL at h1 h2 ⊢
    by_cases e : x = y
    · rw [if_pos e] at h1
      subst e
      by_cases f : x = z
      · rw [if_pos f] at h2 ⊢; exact lexL_neg h1 h2
      · rw [if_neg f] at h2 ⊢; exact h2
    · rw [if_neg e] at h1
      have h1 := of_decide_eq_false h1
      by_cases f : y = z
      · subst f; rw [if_neg e]; exact decide_eq_false h1
      · rw [if_neg f] at h2
        have h2 := of_decide_eq_false h2
        rw [if_neg (by omega)]
        exact decide_eq_false (by omega)
theorem lexL_eq : ∀ {a b : List Int}, lexL a b = false → lexL b a = false → a = b
  | [], [], _, _ => rfl
  | [], _ :: _, h, _ => by cases h
  | _ :: _, [], _, h => by cases h
  | x :: xs, y :: ys, h1, h2 => by
    unfold lexL at h1 h2
    by_cases e : x = y
    · rw [if_pos e] at h1; rw [if_pos e.symm] at h2
      rw [e, lexL_eq h1 h2]
    · rw [if_neg e] at h1; rw [if_neg fun z => e z.symm] at h2
      have := of_decide_eq_false h1
      have := of_decide_eq_false h2
      omega
def insT (n : List Int) : List (List Int) → List (List Int)
  | [] => [n]
  | m :: r => if lexL m n then m :: insT n r else n :: m :: r
def sortT : List (List Int) → List (List Int)
  | [] => []
  | n :: r => insT n (sortT r)
theorem insT_perm (n : List Int) : ∀ r : List (List Int), (insT n r).Perm (n :: r)
  | [] => List.Perm.refl _
  | m :: r => by
    unfold insT
    split
    · exact ((insT_perm n r).cons m).trans (List.Perm.swap n m r)
    · exact List.Perm.refl _
theorem sortT_perm : ∀ r : List (List Int), (sortT r).Perm r
  | [] => List.Perm.refl _
  | n :: r => (insT_perm n _).trans ((sortT_perm r).cons n)
abbrev SrtT (r : List (List Int)) : Prop := r.Pairwise fun x y => lexL y x = false
theorem insT_sorted (n : List Int) : ∀ {r : List (List Int)}, SrtT r → SrtT (insT n r)
  | [], _ => List.pairwise_singleton _ _
  | m :: r, h => by
    obtain ⟨h1, h2⟩ := List.pairwise_cons.mp h
    unfold insT
    split
    · rename_i hn
      refine List.pairwise_cons.mpr ⟨fun x hx => ?_, insT_sorted n h2⟩
      rcases List.mem_cons.mp ((insT_perm n r).mem_iff.mp hx) with rfl | hx
      · exact lexL_asym hn
      · exact h1 x hx
    · rename_i hn
      have hn : lexL m n = false := by simpa using hn
      refine List.pairwise_cons.mpr ⟨fun x hx => ?_, h⟩
      rcases List.mem_cons.mp hx with rfl | hx
      · exact hn
      · exact lexL_neg (h1 x hx) hn
theorem sortT_sorted : ∀ r : List (List Int), SrtT (sortT r)
  | [] => List.Pairwise.nil
  | n :: r => insT_sorted n (sortT_sorted r)
theorem srtT_uniq : ∀ {a b : List (List Int)}, a.Perm b → SrtT a → SrtT b → a = b
  | [], b, p, _, _ => (List.nil_perm.mp p).symm
  | x :: a, [], p, _, _ => absurd p.length_eq (by simp)
  | x :: a, y :: b, p, ha, hb => by
    obtain ⟨a1, a2⟩ := List.pairwise_cons.mp ha
    obtain ⟨b1, b2⟩ := List.pairwise_cons.mp hb
    have hx : x ∈ y :: b := p.mem_iff.mp List.mem_cons_self
    have hy : y ∈ x :: a := p.mem_iff.mpr List.mem_cons_self
    have rf : ∀ z : List Int, lexL z z = false := fun z => by
      cases h : lexL z z with
      | false => rfl
      | true => have := lexL_asym h; rw [h] at this; exact this
    have e : x = y := by
      have h1 : lexL x y = false := by rcases List.mem_cons.mp hx with h | h; rw [h]; exact rf _; exact b1 x h
      have h2 : lexL y x = false := by rcases List.mem_cons.mp hy with h | h; rw [h]; exact rf _; exact a1 y h
      exact lexL_eq h1 h2
    subst e
    rw [srtT_uniq ((List.perm_cons x).mp p) a2 b2]
/-- v is a tuple of these whole numbers -/
def IsTI (h : Heap) (v : Value) (ns : List Int) : Prop := ∃ a o its n, v = .ref a ∧ h.get? a = some o ∧ o.cls = .type "tuple" ∧ o.data = .seq its n ∧ Vals (ns.map V.int) its.toList
theorem IsTI.keeps {h h' : Heap} {v : Value} {ns : List Int} (p : IsTI h v ns) (k : ∀ b o, h.get? b = some o → o.cls = .type "tuple" → h'.get? b = some o) : IsTI h' v ns := by
  obtain ⟨a, o, its, n, e, ho, hc, hd, r⟩ := p
  exact ⟨a, o, its, n, e, k _ _ ho hc, hc, hd, r⟩
theorem vals_inj : ∀ {ns ms : List Int} {us : List Value}, Vals (ns.map V.int) us → Vals (ms.map V.int) us → ns = ms
  | [], [], _, _, _ => rfl
  | [], _ :: _, _, h1, h2 => by cases h1; cases h2
  | _ :: _, [], _, h1, h2 => by cases h2; cases h1
  | n :: ns, m :: ms, _, .cons r1 s1, .cons r2 s2 => by
    obtain ⟨t1, e1⟩ := (show ∃ t, _ = Value.int n t from r1)
    obtain ⟨t2, e2⟩ := (show ∃ t, _ = Value.int m t from r2)
    rw [e1] at e2
    cases e2
    rw [vals_inj s1 s2]
theorem IsTI.uniq {h : Heap} {v : Value} {ns ms : List Int} (p : IsTI h v ns) (q : IsTI h v ms) : ns = ms := by
  obtain ⟨a, o, its, n, e, ho, hc, hd, r⟩ := p
  obtain ⟨a', o', its', n', e', ho', hc', hd', r'⟩ := q
  rw [e] at e'
  cases e'
  rw [ho] at ho'
  cases ho'
  rw [hd] at hd'
  cases hd'
  exact vals_inj r r'
section
variable {prog : Program} {w : World} {A : Around} {E : Value → Shared → Prop} {s : Shared} {Q : Bool → Shared → Prop}
theorem lex_go {b : Bool} : ∀ {ns ms : List Int} {xs ys : List Value} (i : Nat), Vals (ns.map V.int) xs → Vals (ms.map V.int) ys → Q (lexL ns ms) s → PySem.W.KatLex prog w A b (decide (ns.length < ms.length)) Q (xs.zip ys) i s
  | [], [], _, _, _, .nil, .nil, h => PySem.W.kat_nil h
  | [], _ :: _, _, _, _, .nil, .cons _ _, h => PySem.W.kat_nil (by
      rw [show decide (([] : List Int).length < (_ :: _ : List Int).length) = true from decide_eq_true (by simp)]; exact h)
  | _ :: _, [], _, _, _, .cons _ _, .nil, h => PySem.W.kat_nil (by
      rw [show decide ((_ :: _ : List Int).length < ([] : List Int).length) = false from decide_eq_false (by simp)]; exact h)
  | n :: ns, m :: ms, _, _, i, .cons r1 s1, .cons r2 s2, h => by
    obtain ⟨t1, rfl⟩ := (show ∃ t, _ = Value.int n t from r1)
    obtain ⟨t2, rfl⟩ := (show ∃ t, _ = Value.int m t from r2)
    have e0 : decide ((n :: ns).length < (m :: ms).length) = decide (ns.length < ms.length) := decide_eq_decide.mpr (by simp)
    rw [e0]
    show PySem.W.KatLex prog w A b _ Q ((Value.int n t1, Value.int m t2) :: List.zip _ _) i s
    refine PySem.W.kat_cons (SeqAt.EqAt.int_int n t1 m t2 prog w _ _ ?_)
    refine PySem.W.kat_go (fun e1 => ?_) (fun e1 => ?_)
    · have ex : n = m := by simpa using e1
      refine PySem.W.kat_yes (lex_go (i + 1) s1 s2 ?_)
      unfold lexL at h
      rwa [if_pos ex] at h
    · have ex : ¬ n = m := by simpa using e1
      unfold lexL at h
      rw [if_neg ex] at h
      exact PySem.W.kat_no (TS.oneLt_ints _ h)
theorem firstsT {h : Heap} : ∀ {vs : List Value}, (∀ v ∈ vs, ∃ ns, IsTI h v ns ∧ ns ≠ []) → ∃ fs : List Value, PySem.W.KatTups h vs fs ∧ fs.length = vs.length ∧ ∀ f ∈ fs, ∃ x t, f = Value.int x t
  | [], _ => ⟨[], PySem.W.KatTups.nil, rfl, fun _ hm => by simp at hm⟩
  | v :: vs, hp => by
    obtain ⟨fs, h1, h2, h3⟩ := firstsT (vs := vs) fun v' hm => hp v' (List.mem_cons_of_mem _ hm)
    obtain ⟨ns, ⟨a, o, its, n, e, ho, hc, hd, r⟩, hne⟩ := hp v (List.mem_cons_self ..)
    subst e
    cases ns with
    | nil => exact absurd rfl hne
    | cons x ns =>
      generalize hL : its.toList = L at r
      cases r with
      | cons r1 s1 =>
        obtain ⟨t, rfl⟩ := (show ∃ t, _ = Value.int x t from r1)
        refine ⟨.int x t :: fs, PySem.W.KatTups.cons ho hc hd ?_ h1, by rw [List.length_cons, List.length_cons, h2], fun f hm => ?_⟩
        · have z := congrArg (fun l : List Value => l[0]?) hL
          simpa using z
        · rcases List.mem_cons.mp hm with rfl | hm
          · exact ⟨x, t, rfl⟩
          · exact h3 f hm
theorem swo_lexL (k : Value → List Int) : SrtO.Swo fun v u => lexL (k v) (k u) := ⟨fun x y h => lexL_asym h, fun x y z h1 h2 => lexL_neg h2 h1⟩
theorem tups_cmp {vs : List Value} {k : Value → List Int} (hp : ∀ v ∈ vs, IsTI s.heap v (k v)) : SrtO.Cmp prog w A s (tuples' true) (fun p => p.1 ∈ vs) (SrtO.lt2 fun v u => lexL (k v) (k u)) := by
  intro p q hm hm'
  have h1 := hp _ hm
  have h2 := hp _ hm'
  show wpAny (model prog w) A (keyLt' (tuples' true) p.1 q.1) (fun r s' => s' = s ∧ r = lexL (k p.1) (k q.1)) (fun _ _ => False) s
  generalize k p.1 = ns at h1 ⊢
  generalize k q.1 = ms at h2 ⊢
  obtain ⟨a, o, its, n, e, ho, hc, hd, r⟩ := h1
  obtain ⟨a', o', its', n', e', ho', hc', hd', r'⟩ := h2
  rw [e, e']
  refine PySem.W.kat_lt ho hd ho' hd' ?_
  have l1 := r.length
  have l2 := r'.length
  rw [List.length_map] at l1 l2
  rw [show its.size = ns.length by rw [l1]; simp, show its'.size = ms.length by rw [l2]; simp]
  exact lex_go 0 r r' ⟨rfl, rfl⟩
theorem tups_sortable {a : Addr} {vs : List Value} {k : Value → List Int} (h0 : 0 < vs.length) (hp : ∀ v ∈ vs, IsTI s.heap v (k v) ∧ k v ≠ []) (ha : ∀ o, s.heap.get? a = some o → o.cls ≠ .type "tuple") : SrtO.SortableO prog w A s a vs fun v u => lexL (k v) (k u) := by
  intro h' keep
  have hp' : ∀ v ∈ vs, IsTI h' v (k v) := fun v hm => (hp v hm).1.keeps fun b o e c => keep b o (fun z => by subst z; exact ha o e c) e
  obtain ⟨fs, h1, h2, h3⟩ := firstsT fun v hm => ⟨_, hp' v hm, (hp v hm).2⟩
  refine ⟨tuples' true, fun Q E hq => ?_, tups_cmp hp'⟩
  refine PySem.W.kat_kind (T := .type "int") h1 (by omega) (fun f hm => ?_) (by rfl) ?_
  · obtain ⟨x, t, rfl⟩ := h3 f hm
    exact PySem.W.Looks.now
  · have e : (Value.type "int" != Value.type "tuple") = true := by first | decide +kernel | rfl | decide
    rw [e]
    exact hq
theorem sorted_tupsO {E : Value → Shared → Prop} {Q : Value → Shared → Prop} {l : Addr} {vs : List Value} {k : Value → List Int} (hl : s.heap.IsList l vs.toArray) (hz : vs.length ≤ sizeLine) (hp : ∀ v ∈ vs, IsTI s.heap v (k v) ∧ k v ≠ [])
    (h : ∀ (h' : Heap) (d : Addr) (out : List Value), SrtO.Srtd (fun v u => lexL (k v) (k u)) out → SrtO.Stb (fun v u => lexL (k v) (k u)) out vs → (∀ b o, s.heap.get? b = some o → h'.get? b = some o) → s.heap.objs.size ≤ d → (∃ n, h'.get? d = some (seqObj "list" out.toArray n)) → Q (.ref d) { s with heap := h' }) :
    wpAny (model prog w) A (call (.builtin "sorted") [.ref l]) Q E s := by
  refine SrtO.sorted_ord (swo_lexL k) hl hz (fun h2 h₁ a ha kk => ?_) fun out hs hb => ?_
  · refine tups_sortable (s := { s with heap := h₁ }) (by omega) (fun v hm => ⟨(hp v hm).1.keeps fun b o e _ => (kk b o e).2, (hp v hm).2⟩) fun o e => ?_
    have e' : some o = some (seqObj "list" vs.toArray 0) := e.symm.trans ha
    cases e'
    intro c
    exact absurd (Value.type.inj c) (by decide)
  · exact h _ _ out hs hb (fun b o e => sortedAll_old e) (Nat.le_succ _) (sortedAll_at s.heap vs out.toArray)
end
def rSortedT (K : PySem.W.Frag) : List V → Hp → VK → Prop := fun vs H Q => ∃ (a : Addr) (ps : List (V × List Int)), vs = [.ref a] ∧ SqL K H a (ps.map (·.1)) ∧ (∀ p ∈ ps, ∃ t, p.1 = .ref t ∧ SqT K H t (p.2.map V.int) ∧ p.2 ≠ []) ∧
  ∀ (zs : List (V × List Int)) (q : Addr), zs.Perm ps → zs.Pairwise (fun x y => lexL y.2 x.2 = false) → H q = none → Q (.ref q) (upd H q (.lst (zs.map (·.1))))
theorem cr_sortedT {X : Cx} : CallR X (.builtin "sorted") (rSortedT X.K) := by
  intro pins s σ H vs us Q I r h
  obtain ⟨a, ps, rfl, hs, hx, q⟩ := h
  obtain ⟨its, rv, hl, hz⟩ := I.list hs
  obtain ⟨u, rfl, ru⟩ := vals1 r
  obtain rfl : u = Value.ref a := ru
  have hp0 : ∀ p ∈ ps, ∃ t, p.1 = .ref t ∧ IsTI s.heap (.ref t) p.2 ∧ p.2 ≠ [] := fun p hm => by
    obtain ⟨t, e, ht, hne⟩ := hx p hm
    obtain ⟨its2, r2, ⟨o, ho, hc, n, hd⟩, _⟩ := I.tuple ht
    exact ⟨t, e, ⟨t, o, _, n, rfl, ho, hc, hd, by simpa using r2⟩, hne⟩
  obtain ⟨k, hk⟩ : ∃ k : Value → List Int, ∀ v ns, IsTI s.heap v ns → k v = ns := by
    classical
    refine ⟨fun v => if h : ∃ ns, IsTI s.heap v ns then h.choose else [], fun v ns h => ?_⟩
    have hh : ∃ ns, IsTI s.heap v ns := ⟨ns, h⟩
    simp only [dif_pos hh]
    exact hh.choose_spec.uniq h
  obtain ⟨e1, e2⟩ := refs_back rv fun x m => by
    obtain ⟨p, hm, rfl⟩ := List.mem_map.mp m
    obtain ⟨t, e, _⟩ := hp0 p hm
    exact ⟨t, e⟩
  have eps : ps = its.map fun v => (backV v, k v) := by
    have gen : ∀ (ps : List (V × List Int)) (its : List Value), (∀ p ∈ ps, ∃ t, p.1 = .ref t ∧ IsTI s.heap (.ref t) p.2 ∧ p.2 ≠ []) → ps.map (·.1) = its.map backV → (∀ u ∈ its, ∃ a, u = Value.ref a) → ps = its.map fun v => (backV v, k v) := by
      intro ps
      induction ps with
      | nil => intro its _ e _; cases its with | nil => rfl | cons => simp at e
      | cons p ps ih =>
        intro its h e hr
        cases its with
        | nil => simp at e
        | cons v its =>
          simp only [List.map_cons, List.cons.injEq] at e
          obtain ⟨t, e3, h3, _⟩ := h p List.mem_cons_self
          obtain ⟨b, rfl⟩ := hr v List.mem_cons_self
          have eb : V.ref t = backV (.ref b) := e3.symm.trans e.1
          have eb' : t = b := by
            have : V.ref t = V.ref b := eb
            cases this; rfl
          subst eb'
          rw [List.map_cons, ← ih its (fun q m => h q (List.mem_cons_of_mem _ m)) e.2 fun u m => hr u (List.mem_cons_of_mem _ m)]
          congr 1
          have := hk _ _ h3
          rw [this]
          exact Prod.ext e.1 rfl
    exact gen ps its hp0 e1 e2
  have hp : ∀ v ∈ its, IsTI s.heap v (k v) ∧ k v ≠ [] := fun v hv => by
    have hm : (backV v, k v) ∈ ps := by rw [eps]; exact List.mem_map.mpr ⟨v, hv, rfl⟩
    obtain ⟨t, e, h3⟩ := hp0 _ hm
    obtain ⟨b, rfl⟩ := e2 v hv
    have : V.ref b = V.ref t := e
    cases this
    exact h3
  refine sorted_tupsO hl.isList (by rw [← rv.length]; exact hz) hp fun h' d out h1 h2 k2 hd hn => ?_
  have h3 : ∀ u ∈ out, ∃ a, u = Value.ref a := fun u hu => e2 u (h2.perm.mem_iff.mp hu)
  obtain ⟨n, hn⟩ := hn
  refine ⟨.ref d, upd H d (.lst (out.map backV)), I.laid (t' := s.toks) k2 hd ⟨?_, out, n, vals_back h3, hn⟩, rfl, ?_⟩
  · rw [List.length_map, h2.len, ← rv.length]; exact hz
  · have := q (out.map fun v => (backV v, k v)) d (by rw [eps]; exact h2.perm.map _) (List.pairwise_map.mpr h1) (I.hok.fresh hd)
    rw [List.map_map] at this
    exact this
def tisOf : List Vl → Option (List (List Int))
  | [] => some []
  | .tup xs :: r => match intsOf xs, tisOf r with
    | some (n :: ns), some t => some ((n :: ns) :: t)
    | _, _ => none
  | _ :: _ => none
def tiV (ns : List Int) : Vl := .tup (ns.map Vl.int)
def gSort : List Vl → Option Vl
  | [.nd _ .lst xs] => match intsOf xs with
    | some ns => some (.nd .own .lst ((sortI ns).map Vl.int))
    | none => (tisOf xs).map fun ts => .nd .own .lst ((sortT ts).map tiV)
  | _ => none
section
variable {K : PySem.W.Frag} {mg : Str → Option Value} {H : Hp} {F T : Addr → Prop} {as : List Addr}
theorem Reps.tis : ∀ {vs : List Vl} {xs : List V} {c : Addr → Nat} {ts : List (List Int)}, Reps K mg H F T as vs xs c → tisOf vs = some ts → ∃ ps : List (V × List Int), xs = ps.map (·.1) ∧ ts = ps.map (·.2) ∧ ∀ p ∈ ps, ∃ t, p.1 = .ref t ∧ SqT K H t (p.2.map V.int) ∧ p.2 ≠ []
  | [], _, _, _, r, e => by cases r; unfold tisOf at e; cases e; exact ⟨[], rfl, rfl, fun p h => nomatch h⟩
  | .tup xs :: vs, _, _, _, .cons r s _, e => by
    unfold tisOf at e
    split at e
    · rename_i n ns t e1 e2
      cases e
      obtain ⟨ps, h1, h2, h3⟩ := s.tis e2
      obtain ⟨a, ys, rfl, ha, s1⟩ := r.inv_tup
      have ey := s1.ints e1
      subst ey
      refine ⟨(.ref a, n :: ns) :: ps, by rw [h1]; rfl, by rw [h2]; rfl, fun p hp => ?_⟩
      rcases List.mem_cons.mp hp with rfl | hp
      · exact ⟨a, rfl, ha, by simp⟩
      · exact h3 p hp
    · cases e
  | .non :: _, _, _, _, _, e => by unfold tisOf at e; cases e
  | .bl _ :: _, _, _, _, _, e => by unfold tisOf at e; cases e
  | .int _ :: _, _, _, _, _, e => by unfold tisOf at e; cases e
  | .str _ :: _, _, _, _, _, e => by unfold tisOf at e; cases e
  | .ref _ :: _, _, _, _, _, e => by unfold tisOf at e; cases e
  | .sym _ :: _, _, _, _, _, e => by unfold tisOf at e; cases e
  | .nd _ _ _ :: _, _, _, _, _, e => by unfold tisOf at e; cases e
theorem reps_tis : ∀ {ps : List (V × List Int)}, (∀ p ∈ ps, ∃ t, p.1 = .ref t ∧ SqT K H t (p.2.map V.int) ∧ p.2 ≠ []) → Reps K mg H F T as (ps.map fun p => tiV p.2) (ps.map (·.1)) (fun _ => 0)
  | [], _ => .nil fun _ => rfl
  | p :: ps, h => by
    obtain ⟨t, e, h1, _⟩ := h p List.mem_cons_self
    obtain ⟨x, ns⟩ := p
    cases e
    exact .cons (.tup h1 (Reps.intL _)) (reps_tis fun q m => h q (List.mem_cons_of_mem _ m)) fun _ => rfl
theorem stors_tis : ∀ ts : List (List Int), stors (ts.map tiV) = true
  | [] => rfl
  | t :: r => by
    have h1 : ∀ ns : List Int, stors (ns.map Vl.int) = true := fun ns => by
      induction ns with
      | nil => rfl
      | cons n ns ih => show (true && stors _) = true; rw [ih]; rfl
    show (stors (t.map Vl.int) && stors (r.map tiV)) = true
    rw [stors_tis r, h1]; rfl
end
theorem gop_sort {K : PySem.W.Frag} {mg : Str → Option Value} : GOp K mg gSort (fun xs H Q => rSortedI K xs H Q ∨ rSortedT K xs H Q) := by
  intro H F T as vs xs c v Q r hl e fin
  unfold gSort at e
  split at e
  · rename_i f zs
    obtain ⟨x, rfl, r1⟩ := r.inv1
    obtain ⟨a, ys, c', rfl, h, s, k⟩ := r1.inv_lst
    split at e
    · rename_i ns e1
      cases e
      have ey := s.ints e1
      subst ey
      refine .inl ⟨a, ns, rfl, h, fun ns' p hp hs hn => ?_⟩
      have en : ns' = sortI ns := sorted_uniq (hp.trans (sortI_perm ns).symm) hs (sortI_sorted ns)
      subst en
      have em : mkL ((sortI ns).map Vl.int) = .nd .own .lst ((sortI ns).map Vl.int) := mkL_ints _
      rw [← em] at fin
      exact fin.mkL (c5 := fun _ => 0) (Reps.intL _) (fun b => Nat.zero_le _) hl (same_new hn) hn upd_same
    · obtain ⟨ts, e1, e2⟩ := Option.map_eq_some_iff.mp e
      subst e2
      obtain ⟨ps, h1, h2, h3⟩ := s.tis e1
      subst h1 h2
      refine .inr ⟨a, ps, rfl, h, h3, fun qs p hp hs hn => ?_⟩
      have en : qs.map (·.2) = sortT (ps.map (·.2)) := srtT_uniq ((hp.map _).trans (sortT_perm _).symm) (List.pairwise_map.mpr hs) (sortT_sorted _)
      have em : mkL ((sortT (ps.map (·.2))).map tiV) = .nd .own .lst ((sortT (ps.map (·.2))).map tiV) := by unfold mkL; rw [if_pos (stors_tis _)]
      rw [← em, ← en] at fin
      rw [List.map_map] at fin
      have h4 : ∀ p ∈ qs, ∃ t, p.1 = .ref t ∧ SqT K H t (p.2.map V.int) ∧ p.2 ≠ [] := fun p hm => h3 p (hp.mem_iff.mp hm)
      exact fin.mkL (c5 := fun _ => 0) (reps_tis h4) (fun b => Nat.zero_le _) hl (same_new hn) hn upd_same
  · cases e
theorem EOk.sorted {X : Cx} {e : Expr} {fs : List E} {p pos : Pos} (hm : X.mg "sorted" = none) (ha : AOk X [e] fs) (hgl : Gl X "sorted" := by rfl) (he : starEach [e] X.env = (false, eval e X.env) :: starEach [] X.env := by rfl) : EOk X (.Call (.Name "sorted" p) [e] [] pos) (opE gSort fs) :=
  .callB (cr_sortedI.or cr_sortedT) gop_sort hgl hm (by decide +kernel) ha (by decide) (by decide) he (by rfl)
end PyI

namespace PyI
open PySem PySem.Spec PyProof.Rows L2
/-! ### a def that calls itself: by its depth -/
theorem hasBad {P : Program} {w : World} {K : PySem.W.Frag} {mg : Str → Option Value} {base : Heap} {x : Str} {st : Stmt} {N ps : List Str} {k : Nat} (d : DefAt K mg x st) (S : FnScope N ps (defScope st))
    (bind : ∀ (kV doc pm : Value) (an : Option Addr) (cdv ct : Value) (us : List Value), us.length = ps.length → bindArgs (PySem.W.fnOf x x (defArgs st) (defBody st) (defScope st) .none kV doc pm an cdv ct) ⟨us, []⟩ = pure (ps.zip us)) :
    HasF P w K mg base x (k + 1) ps (fun _ => .bad) := by
  obtain ⟨f, fd, F, m⟩ := d
  exact ⟨f, fd, m, F.kp, F.binds bind, F.okX S (fun vs H Q E h => h.1) fun cdv A outer s H vs Q E hr h => by
    obtain ⟨_, _, _, q⟩ := h
    exact q.elim⟩
/-! ### min, max of one list of whole numbers -/
def minI : Int → List Int → Int
  | m, [] => m
  | m, n :: r => minI (if n < m then n else m) r
def maxI : Int → List Int → Int
  | m, [] => m
  | m, n :: r => maxI (if m < n then n else m) r
theorem minI_le : ∀ (m : Int) (r : List Int), minI m r ≤ m ∧ (∀ y ∈ r, minI m r ≤ y) ∧ minI m r ∈ m :: r
  | m, [] => ⟨Int.le_refl _, fun y h => (by cases h), List.mem_cons_self⟩
  | m, n :: r => by
    obtain ⟨h1, h2, h3⟩ := minI_le (if n < m then n else m) r
    show minI (if n < m then n else m) r ≤ m ∧ (∀ y ∈ n :: r, minI (if n < m then n else m) r ≤ y) ∧ minI (if n < m then n else m) r ∈ m :: n :: r
    have hx : (if n < m then n else m) ≤ m ∧ (if n < m then n else m) ≤ n := by split <;> omega
    refine ⟨Int.le_trans h1 hx.1, fun y h => ?_, ?_⟩
    · rcases List.mem_cons.mp h with rfl | h
      · exact Int.le_trans h1 hx.2
      · exact h2 y h
    · rcases List.mem_cons.mp h3 with h | h
      · rw [h]; split <;> simp
      · exact List.mem_cons_of_mem _ (List.mem_cons_of_mem _ h)
theorem maxI_le : ∀ (m : Int) (r : List Int), m ≤ maxI m r ∧ (∀ y ∈ r, y ≤ maxI m r) ∧ maxI m r ∈ m :: r
  | m, [] => ⟨Int.le_refl _, fun y h => (by cases h), List.mem_cons_self⟩
  | m, n :: r => by
    obtain ⟨h1, h2, h3⟩ := maxI_le (if m < n then n else m) r
    show m ≤ maxI (if m < n then n else m) r ∧ (∀ y ∈ n :: r, y ≤ maxI (if m < n then n else m) r) ∧ maxI (if m < n then n else m) r ∈ m :: n :: r
    have hx : m ≤ (if m < n then n else m) ∧ n ≤ (if m < n then n else m) := by split <;> omega
    refine ⟨Int.le_trans hx.1 h1, fun y h => ?_, ?_⟩
    · rcases List.mem_cons.mp h with rfl | h
      · exact Int.le_trans hx.2 h1
      · exact h2 y h
    · rcases List.mem_cons.mp h3 with h | h
      · rw [h]; split <;> simp
      · exact List.mem_cons_of_mem _ (List.mem_cons_of_mem _ h)
def gMin1 : List Vl → Option Vl
  | [.nd _ .lst xs] => match intsOf xs with
    | some (n :: ns) => some (.int (minI n ns))
    | _ => none
  | _ => none
def gMax1 : List Vl → Option Vl
  | [.nd _ .lst xs] => match intsOf xs with
    | some (n :: ns) => some (.int (maxI n ns))
    | _ => none
  | _ => none
section
variable {K : PySem.W.Frag} {mg : Str → Option Value}
theorem gop_min1 : GOp K mg gMin1 (rMin K) := by
  intro H F T as vs xs c v Q r hl e fin
  unfold gMin1 at e
  split at e
  · split at e
    · rename_i n ns e1
      cases e
      obtain ⟨x, rfl, r1⟩ := r.inv1
      obtain ⟨a, xs, c', rfl, h, s, k⟩ := r1.inv_lst
      rw [s.ints e1] at h
      refine ⟨a, n :: ns, rfl, h, by simp, fun m hm hle => ?_⟩
      obtain ⟨h1, h2, h3⟩ := minI_le n ns
      have em : m = minI n ns := by
        have a1 := hle _ h3
        have a2 : minI n ns ≤ m := by
          rcases List.mem_cons.mp hm with h | h
          · omega
          · exact h2 m h
        omega
      rw [em]; exact fin.int
    · cases e
  · cases e
theorem gop_max1 : GOp K mg gMax1 (rMax K) := by
  intro H F T as vs xs c v Q r hl e fin
  unfold gMax1 at e
  split at e
  · split at e
    · rename_i n ns e1
      cases e
      obtain ⟨x, rfl, r1⟩ := r.inv1
      obtain ⟨a, xs, c', rfl, h, s, k⟩ := r1.inv_lst
      rw [s.ints e1] at h
      refine ⟨a, n :: ns, rfl, h, by simp, fun m hm hle => ?_⟩
      obtain ⟨h1, h2, h3⟩ := maxI_le n ns
      have em : m = maxI n ns := by
        have a1 := hle _ h3
        have a2 : m ≤ maxI n ns := by
          rcases List.mem_cons.mp hm with h | h
          · omega
          · exact h2 m h
        omega
      rw [em]; exact fin.int
    · cases e
  · cases e
end
section
variable {X : Cx} {e : Expr} {fs : List E} {p pos : Pos}
theorem EOk.min1 (hc : X.calm = true) (hm : X.mg "min" = none) (ha : AOk X [e] fs) (hgl : Gl X "min" := by rfl) (he : starEach [e] X.env = (false, eval e X.env) :: starEach [] X.env := by rfl) : EOk X (.Call (.Name "min" p) [e] [] pos) (opE gMin1 fs) :=
  .callB (cr_min hc) gop_min1 hgl hm (by decide +kernel) ha (by decide) (by decide) he rfl
theorem EOk.max1 (hc : X.calm = true) (hm : X.mg "max" = none) (ha : AOk X [e] fs) (hgl : Gl X "max" := by rfl) (he : starEach [e] X.env = (false, eval e X.env) :: starEach [] X.env := by rfl) : EOk X (.Call (.Name "max" p) [e] [] pos) (opE gMax1 fs) :=
  .callB (cr_max hc) gop_max1 hgl hm (by decide +kernel) ha (by decide) (by decide) he rfl
end
/-! ### x *= n -/
def mulB (i j : Int) : Bool := inB 18446744073709551615 i || inB 18446744073709551615 j
section
variable {X : Cx} {x : Str} {e : Expr} {f : E} {i : Nat} {pos' pos : Pos}
theorem SOk.augM (hN : X.N.Nodup) (he : EOk X e f) (hi : X.N[i]? = some x := by rfl) (hx : Loc X.env.scope x := by first | exact Or.inl rfl | exact Or.inr rfl) (hf : X.fn x = true ∨ X.env.scope.names.lookup x = some .local := by first | exact .inl rfl | exact .inr rfl) :
    SOk X (.AugAssign (.Name x pos') .Mult e pos) (asgC (tgN i) (augE (i2c mulB fun i j => .int (i * j)) i f)) := fun W t => (ps_aug hN hi hx (he W t) (ti := rI CMul fun i j => .int (i * j)) (fun pins s σ H x y v u Q I r1 r2 h => iop_mul pins s σ H x y v u Q I r1 r2 h) hf).imp fun D σ H hh => by
  have h1 := (SOk.asg_of hh)
  have h2 := (EI.op h1 (gop_i2 (C := CMul) fun i j hc => by
    unfold mulB at hc
    simp only [Bool.or_eq_true, inB_eq] at hc
    show _ ∨ _
    omega)).two
  obtain ⟨F, T, as, L, st, c, r, p⟩ := h2
  unfold varE at p
  split at p
  · rename_i n e0
    split at p
    · rename_i w ew
      obtain ⟨y, c1, c2, e1, r1, n1, r2, k⟩ := r.slot e0
      obtain ⟨a, c3, ea, r3, _⟩ := r.cell ew
      cases r1 with
      | ref hh hc =>
        rw [hh] at ea
        cases ea
        have q := p F as H _ c (fun _ => 0) r r3.peek r.refl Pre.refl fun _ => ⟨Same.refl H, rfl, fun _ h => h⟩
        refine ⟨_, e1, q.mono fun z H2 ⟨x', y', ex, a', b', ea', eb', hcc, g⟩ => ?_⟩
        cases ex
        cases ea'
    · exact (show False from p).elim
  · rename_i v ne e0
    obtain ⟨y, c1, c2, e1, r1, n1, r2, k⟩ := r.slot e0
    have q := p F as H _ c (fun _ => 0) r r1.peek r.refl Pre.refl fun _ => ⟨Same.refl H, rfl, fun _ h => h⟩
    refine ⟨_, e1, q.mono fun z H2 ⟨x', y', ex, a', b', ea', eb', hcc, g⟩ => ?_⟩
    cases ex
    refine ⟨a', b', ea', eb', hcc, ?_⟩
    obtain ⟨F, T, as, L, st, v, c1, c2, fl, rv, st', e, q⟩ := g
    unfold tgN at e
    split at e
    · rename_i hc
      cases e
      simp only [Bool.and_eq_true, decide_eq_true_eq, Bool.not_eq_true'] at hc
      obtain ⟨c', r', k'⟩ := fl.store rv hc.1.1 hc.1.2 hc.2
      exact q _ c' r' k'
    · cases e
  · exact (show False from p).elim
end
end PyI

namespace K72
open PySem PySem.Spec PyProof.Rows L2 PyI
def topS (i : Nat) : Stmt := PySem.Challenge.pw_pairhall_k72_cheapest_plans.main.body.getD i (.Pass ⟨0, 0, 0, 0⟩)
abbrev s_is_whole : Stmt := topS 13
abbrev N_is_whole : List Str := ["thing"]
theorem sc_is_whole : FnScope N_is_whole ["thing"] (defScope s_is_whole) := ⟨rfl, rfl, rfl, by decide +kernel, rfl, by decide +kernel, by decide +kernel⟩
abbrev s_multiplied : Stmt := topS 14
abbrev N_multiplied : List Str := ["numbers", "found", "number"]
theorem sc_multiplied : FnScope N_multiplied ["numbers"] (defScope s_multiplied) := ⟨rfl, rfl, rfl, by decide +kernel, rfl, by decide +kernel, by decide +kernel⟩
abbrev s_need_plan : Stmt := topS 15
abbrev N_need_plan : List Str := ["plan", "number"]
theorem sc_need_plan : FnScope N_need_plan ["plan"] (defScope s_need_plan) := ⟨rfl, rfl, rfl, by decide +kernel, rfl, by decide +kernel, by decide +kernel⟩
abbrev s_crossings_in : Stmt := topS 16
abbrev N_crossings_in : List Str := ["plan"]
theorem sc_crossings_in : FnScope N_crossings_in ["plan"] (defScope s_crossings_in) := ⟨rfl, rfl, rfl, by decide +kernel, rfl, by decide +kernel, by decide +kernel⟩
abbrev s_crossings : Stmt := topS 17
abbrev N_crossings : List Str := ["plan"]
theorem sc_crossings : FnScope N_crossings ["plan"] (defScope s_crossings) := ⟨rfl, rfl, rfl, by decide +kernel, rfl, by decide +kernel, by decide +kernel⟩
abbrev s_all_plans : Stmt := topS 18
abbrev N_all_plans : List Str := ["lines", "found", "number", "rest"]
theorem sc_all_plans : FnScope N_all_plans ["lines"] (defScope s_all_plans) := ⟨rfl, rfl, rfl, by decide +kernel, rfl, by decide +kernel, by decide +kernel⟩
abbrev s_plans_for : Stmt := topS 19
abbrev N_plans_for : List Str := ["lines"]
theorem sc_plans_for : FnScope N_plans_for ["lines"] (defScope s_plans_for) := ⟨rfl, rfl, rfl, by decide +kernel, rfl, by decide +kernel, by decide +kernel⟩
abbrev s_cheapest : Stmt := topS 20
abbrev N_cheapest : List Str := ["lines", "found", "counts", "plan"]
theorem sc_cheapest : FnScope N_cheapest ["lines"] (defScope s_cheapest) := ⟨rfl, rfl, rfl, by decide +kernel, rfl, by decide +kernel, by decide +kernel⟩
abbrev s__law_mixed : Stmt := topS 22
abbrev N__law_mixed : List Str := ["_law_cell", "_law_k", "_law_mixed_here"]
theorem sc__law_mixed : FnScope N__law_mixed ["_law_cell", "_law_k"] (defScope s__law_mixed) := ⟨rfl, rfl, rfl, by decide +kernel, rfl, by decide +kernel, by decide +kernel⟩
abbrev s__law_plans : Stmt := topS 23
abbrev N__law_plans : List Str := ["_law_lines", "_law_found", "_law_last", "_law_plan"]
theorem sc__law_plans : FnScope N__law_plans ["_law_lines"] (defScope s__law_plans) := ⟨rfl, rfl, rfl, by decide +kernel, rfl, by decide +kernel, by decide +kernel⟩
abbrev s__law_crossings : Stmt := topS 24
abbrev N__law_crossings : List Str := ["_law_plan", "_law_total", "_law_houses", "_law_left", "_law_number"]
theorem sc__law_crossings : FnScope N__law_crossings ["_law_plan"] (defScope s__law_crossings) := ⟨rfl, rfl, rfl, by decide +kernel, rfl, by decide +kernel, by decide +kernel⟩
abbrev s__law_word : Stmt := topS 25
abbrev N__law_word : List Str := ["_law_ask", "_law_thing", "_law_error", "e", "_law_kinds"]
theorem sc__law_word : FnScope N__law_word ["_law_ask", "_law_thing"] (defScope s__law_word) := ⟨rfl, rfl, rfl, by decide +kernel, rfl, by decide +kernel, by decide +kernel⟩
abbrev s_law : Stmt := topS 26
abbrev N_law : List Str := ["_law_script", "_law_strange", "_law_place", "_law_cell", "_law_mix", "_law_lines", "_law_due", "_law_found", "_law_costs", "_law_thing", "_law_plan", "_law_one"]
theorem sc_law : FnScope N_law ["_law_script"] (defScope s_law) := ⟨rfl, rfl, rfl, by decide +kernel, rfl, by decide +kernel, by decide +kernel⟩
abbrev knL : List Str := ["NoPlan", "NoSize"]
abbrev dsL : List Str := ["NoPlan", "NoSize"]
abbrev csL : List Str := ["NoSize", "NoPairing", "NoNet", "NoSettings", "NoThings", "NoCalls", "NoFrame", "NoPlan", "NoText"]
/-- what the top has written -/
structure Fx (K : PySem.W.Frag) (mg : Str → Option Value) : Prop where
  m_int : mg "int" = none
  m_isinstance : mg "isinstance" = none
  m_bool : mg "bool" = none
  m_tuple : mg "tuple" = none
  m_all : mg "all" = none
  m_any : mg "any" = none
  m_len : mg "len" = none
  m_range : mg "range" = none
  m_sorted : mg "sorted" = none
  m_min : mg "min" = none
  m_ValueError : mg "ValueError" = none
  m_enumerate : mg "enumerate" = none
  m_list : mg "list" = none
  g_MOST_LINES : IntG mg "MOST_LINES" 64
  e_NoPlan : ExcC K mg "NoPlan"
  e_NoSize : ExcC K mg "NoSize"
  c_NoSize : ClsG mg "NoSize"
  c_NoPairing : ClsG mg "NoPairing"
  c_NoNet : ClsG mg "NoNet"
  c_NoSettings : ClsG mg "NoSettings"
  c_NoThings : ClsG mg "NoThings"
  c_NoCalls : ClsG mg "NoCalls"
  c_NoFrame : ClsG mg "NoFrame"
  c_NoPlan : ClsG mg "NoPlan"
  c_NoText : ClsG mg "NoText"
  f_plans_for : FnG mg "plans_for"
  f_cheapest : FnG mg "cheapest"
  t_PairError : TryG K mg knL "PairError"
  kx : KX K mg dsL csL
  d_is_whole : DefAt K mg "is_whole" s_is_whole
  d_multiplied : DefAt K mg "multiplied" s_multiplied
  d_need_plan : DefAt K mg "need_plan" s_need_plan
  d_crossings_in : DefAt K mg "crossings_in" s_crossings_in
  d_crossings : DefAt K mg "crossings" s_crossings
  d_all_plans : DefAt K mg "all_plans" s_all_plans
  d_plans_for : DefAt K mg "plans_for" s_plans_for
  d_cheapest : DefAt K mg "cheapest" s_cheapest
  d__law_mixed : DefAt K mg "_law_mixed" s__law_mixed
  d__law_plans : DefAt K mg "_law_plans" s__law_plans
  d__law_crossings : DefAt K mg "_law_crossings" s__law_crossings
  d__law_word : DefAt K mg "_law_word" s__law_word
  d_law : DefAt K mg "law" s_law
section
variable {P : Program} {w : World} {K : PySem.W.Frag} {mg : Str → Option Value} {base : Heap}
def b_is_whole : C := retC (andE (opE gIsi [varE 0, cstE (.sym (.ty "int"))]) (notE (opE gIsi [varE 0, cstE (.sym (.ty "bool"))])))
def F_is_whole : List Vl → RF := runF 1 b_is_whole
theorem ok_is_whole (x : Fx K mg) (f : Addr) : BodyOk P w K mg base 0 N_is_whole "is_whole" s_is_whole f b_is_whole := fun cdv A outer s H E hr => SsOk.one (SOk.ret (EOk.and (EOk.isi x.m_isinstance (AOk.cons (vr 0) (AOk.cons (EOk.ty rfl x.m_int (by decide +kernel)) (AOk.nil)))) (EOk.one (EOk.not (EOk.isi x.m_isinstance (AOk.cons (vr 0) (AOk.cons (EOk.ty rfl x.m_bool (by decide +kernel)) (AOk.nil))))))))
theorem h_is_whole (x : Fx K mg) : HasF P w K mg base "is_whole" 1 ["thing"] F_is_whole := hasF x.d_is_whole sc_is_whole (ok_is_whole x) fun _ _ _ _ _ _ us hl => match us, hl with | [_], _ => rfl
def b_multiplied_L0 : C := asgC (tgN 1) (augE (i2c mulB fun i j => .int (i * j)) 1 (varE 2))
def b_multiplied : C := seqC (asgC (tgN 1) (cstE (.int 1)))
 (seqC (forC (tgN 2) (srcE hSeq [frzE 0]) (b_multiplied_L0))
 (retC (takE 1)))
def F_multiplied : List Vl → RF := runF 3 b_multiplied
theorem ok_multiplied (x : Fx K mg) (f : Addr) : BodyOk P w K mg base 0 N_multiplied "multiplied" s_multiplied f b_multiplied := fun cdv A outer s H E hr => SsOk.cons (st_ 1 sc_multiplied.nd (EOk.int))
 (SsOk.cons (SOk.for_ (passes_of rfl) rfl (SrcOk.seq (fz 0)) (tn 2 sc_multiplied.nd) (SsOk.one (SOk.augM (i := 1) sc_multiplied.nd (vr 2))))
 (SsOk.one (SOk.ret (tk 1))))
theorem h_multiplied (x : Fx K mg) : HasF P w K mg base "multiplied" 1 ["numbers"] F_multiplied := hasF x.d_multiplied sc_multiplied (ok_multiplied x) fun _ _ _ _ _ _ us hl => match us, hl with | [_], _ => rfl
def b_need_plan : C := seqC (ifC (orE (notE (opE gIsi [varE 0, cstE (.sym (.ty "tuple"))])) (orE (opE gEq [varE 0, opE gTup []]) (notE (opE gAll [compE [1] (tgN 1) (srcE hSeq [varE 0]) (cstE (.bl true)) (callE 1 F_is_whole [varE 1] [])])))) (rsC "NoPlan") (passC))
 (ifC (orE (opE gAny [compE [1] (tgN 1) (srcE hSeq [opE gSlH [varE 0, opE gNeg [cstE (.int 1)]]]) (cstE (.bl true)) (opE gLt [varE 1, cstE (.int 2)])]) (orE (opE gLt [opE gIx [varE 0, opE gNeg [cstE (.int 1)]], cstE (.int 1)]) (opE gGt [callE 1 F_multiplied [varE 0] [], cstE (.int 64)]))) (rsC "NoPlan") (passC))
def F_need_plan : List Vl → RF := runF 2 b_need_plan
theorem ok_need_plan (x : Fx K mg) (f : Addr) : BodyOk P w K mg base 1 N_need_plan "need_plan" s_need_plan f b_need_plan := fun cdv A outer s H E hr => SsOk.cons (SOk.ite (TWOk.pt (TWOk.or (TOk.not (TOk.val (EOk.isi x.m_isinstance (AOk.cons (vr 0) (AOk.cons (EOk.ty rfl x.m_tuple (by decide +kernel)) (AOk.nil)))))) (TWOk.or (TOk.eq hr.units (vr 0) (EOk.tup (AOk.nil))) (TWOk.or1 (TOk.not (TOk.val (EOk.all rfl x.m_all (AOk.cons (EOk.comp (own := [("number", 1)]) rfl sc_need_plan.nd (SrcOk.seq (vr 0)) (blkOk_by (by kernel_rfl)) (fun _ _ _ _ _ => gn 1 sc_need_plan.nd) (fun _ _ _ _ _ => CTOk.nil) (fun _ _ _ _ _ => EOk.callH (h_is_whole x) (hr.mono (by decide)) (AOk.cons (vr 1) (AOk.nil)))) (AOk.nil))))))))) (SsOk.one (SOk.raiseC rfl x.e_NoPlan)) (SsOk.nil))
 (SsOk.one (SOk.ite (TWOk.pt (TWOk.or (TOk.val (EOk.any rfl x.m_any (AOk.cons (EOk.comp (own := [("number", 1)]) rfl sc_need_plan.nd (SrcOk.seq (EOk.slH (vr 0) (EOk.neg (EOk.int)))) (blkOk_by (by kernel_rfl)) (fun _ _ _ _ _ => gn 1 sc_need_plan.nd) (fun _ _ _ _ _ => CTOk.nil) (fun _ _ _ _ _ => EOk.lt (vr 1) (EOk.int))) (AOk.nil)))) (TWOk.or (TOk.lt (EOk.item (vr 0) (EOk.neg (EOk.int))) (EOk.int)) (TWOk.or1 (TOk.gt (EOk.callH (h_multiplied x) (hr.mono (by decide)) (AOk.cons (vr 0) (AOk.nil))) (EOk.gint x.g_MOST_LINES)))))) (SsOk.one (SOk.raiseC rfl x.e_NoPlan)) (SsOk.nil)))
theorem h_need_plan (x : Fx K mg) : HasF P w K mg base "need_plan" 2 ["plan"] F_need_plan := hasF x.d_need_plan sc_need_plan (ok_need_plan x) fun _ _ _ _ _ _ us hl => match us, hl with | [_], _ => rfl
def b_crossings_in (g_ : List Vl → RF) : C := seqC (ifC (opE gEq [opE gLen [varE 0], cstE (.int 1)]) (retC (opE gMul [opE gIx [varE 0, cstE (.int 0)], opE gIx [varE 0, cstE (.int 0)]])) (passC))
 (retC (opE gMul [opE gIx [varE 0, cstE (.int 0)], opE gAdd [opE gMul [cstE (.int 2), callE 1 F_multiplied [varE 0] []], callE 1 g_ [opE gSlL [varE 0, cstE (.int 1)]] []]]))
def R_crossings_in : Nat → List Vl → RF
  | 0 => fun _ => .bad
  | n + 1 => runF 1 (b_crossings_in (R_crossings_in n))
def F_crossings_in : List Vl → RF := R_crossings_in 8
theorem ok_crossings_in (x : Fx K mg) {n : Nat} {g_ : List Vl → RF} (ih : HasF P w K mg base "crossings_in" (1 + 1 + n) ["plan"] g_) (f : Addr) : BodyOk P w K mg base (1 + 1 + n) N_crossings_in "crossings_in" s_crossings_in f (b_crossings_in g_) := fun cdv A outer s H E hr => SsOk.cons (SOk.ite (TOk.eq hr.units (EOk.len x.m_len (AOk.cons (vr 0) (AOk.nil))) (EOk.int)) (SsOk.one (SOk.ret (EOk.mul (EOk.item (vr 0) (EOk.int)) (EOk.item (vr 0) (EOk.int))))) (SsOk.nil))
 (SsOk.one (SOk.ret (EOk.mul (EOk.item (vr 0) (EOk.int)) (EOk.add (EOk.mul (EOk.int) (EOk.callH (h_multiplied x) (hr.mono (by omega)) (AOk.cons (vr 0) (AOk.nil)))) (EOk.callH (ps := ["plan"]) (by exact ih) (hr.mono (by omega)) (AOk.cons (EOk.slL (vr 0) (EOk.int)) (AOk.nil)))))))
theorem hr_crossings_in (x : Fx K mg) : ∀ n, HasF P w K mg base "crossings_in" (1 + 1 + n) ["plan"] (R_crossings_in n)
  | 0 => hasBad x.d_crossings_in sc_crossings_in (fun _ _ _ _ _ _ us hl => match us, hl with | [_], _ => rfl)
  | n + 1 => hasF x.d_crossings_in sc_crossings_in (ok_crossings_in x (hr_crossings_in x n)) (fun _ _ _ _ _ _ us hl => match us, hl with | [_], _ => rfl)
theorem h_crossings_in (x : Fx K mg) : HasF P w K mg base "crossings_in" (1 + 1 + 8) ["plan"] F_crossings_in := hr_crossings_in x 8
def b_crossings : C := seqC (expC (callE 1 F_need_plan [varE 0] []))
 (retC (callE 1 F_crossings_in [varE 0] []))
def F_crossings : List Vl → RF := runF 1 b_crossings
theorem ok_crossings (x : Fx K mg) (f : Addr) : BodyOk P w K mg base 10 N_crossings "crossings" s_crossings f b_crossings := fun cdv A outer s H E hr => SsOk.cons (SOk.exp (EOk.callH (h_need_plan x) (hr.mono (by decide)) (AOk.cons (vr 0) (AOk.nil))))
 (SsOk.one (SOk.ret (EOk.callH (h_crossings_in x) (hr.mono (by decide)) (AOk.cons (vr 0) (AOk.nil)))))
theorem h_crossings (x : Fx K mg) : HasF P w K mg base "crossings" 11 ["plan"] F_crossings := hasF x.d_crossings sc_crossings (ok_crossings x) fun _ _ _ _ _ _ us hl => match us, hl with | [_], _ => rfl
def b_all_plans_L0 (g_ : List Vl → RF) : C := ifC (opE gEq [opE gMod [varE 0, varE 2], cstE (.int 0)]) (expC (mutE 1 isL [compE [3] (tgN 3) (srcE hSeq [callE 1 g_ [opE gDiv [varE 0, varE 2]] []]) (cstE (.bl true)) (opE gAdd [opE gTup [frzE 2], varE 3])] muExt)) (passC)
def b_all_plans (g_ : List Vl → RF) : C := seqC (asgC (tgN 1) (opE gLst [opE gTup [frzE 0]]))
 (seqC (forC (tgN 2) (srcE hRng2 [cstE (.int 2), opE gAdd [opE gDiv [varE 0, cstE (.int 2)], cstE (.int 1)]]) ((b_all_plans_L0 g_)))
 (retC (takE 1)))
def R_all_plans : Nat → List Vl → RF
  | 0 => fun _ => .bad
  | n + 1 => runF 4 (b_all_plans (R_all_plans n))
def F_all_plans : List Vl → RF := R_all_plans 8
theorem ok_all_plans (x : Fx K mg) {n : Nat} {g_ : List Vl → RF} (ih : HasF P w K mg base "all_plans" (0 + 1 + n) ["lines"] g_) (f : Addr) : BodyOk P w K mg base (0 + 1 + n) N_all_plans "all_plans" s_all_plans f (b_all_plans g_) := fun cdv A outer s H E hr => SsOk.cons (st_ 1 sc_all_plans.nd (EOk.lst (AOk.cons (EOk.tup (AOk.cons (fz 0) (AOk.nil))) (AOk.nil))))
 (SsOk.cons (SOk.for_ (passes_of rfl) rfl (SrcOk.rng2 rfl x.m_range (AOk.cons (EOk.int) (AOk.cons (EOk.add (EOk.div (vr 0) (EOk.int)) (EOk.int)) (AOk.nil)))) (tn 2 sc_all_plans.nd) (SsOk.one (SOk.ite (TOk.eq hr.units (EOk.mod (vr 0) (vr 2)) (EOk.int)) (SsOk.one (SOk.augL (i := 1) sc_all_plans.nd (EOk.comp (own := [("rest", 3)]) rfl sc_all_plans.nd (SrcOk.seq (EOk.callH (ps := ["lines"]) (by exact ih) (hr.mono (by omega)) (AOk.cons (EOk.div (vr 0) (vr 2)) (AOk.nil)))) (blkOk_by (by kernel_rfl)) (fun _ _ _ _ _ => gn 3 sc_all_plans.nd) (fun _ _ _ _ _ => CTOk.nil) (fun _ _ _ _ _ => EOk.add (EOk.tup (AOk.cons (fz 2) (AOk.nil))) (vr 3))))) (SsOk.nil))))
 (SsOk.one (SOk.ret (tk 1))))
theorem hr_all_plans (x : Fx K mg) : ∀ n, HasF P w K mg base "all_plans" (0 + 1 + n) ["lines"] (R_all_plans n)
  | 0 => hasBad x.d_all_plans sc_all_plans (fun _ _ _ _ _ _ us hl => match us, hl with | [_], _ => rfl)
  | n + 1 => hasF x.d_all_plans sc_all_plans (ok_all_plans x (hr_all_plans x n)) (fun _ _ _ _ _ _ us hl => match us, hl with | [_], _ => rfl)
theorem h_all_plans (x : Fx K mg) : HasF P w K mg base "all_plans" (0 + 1 + 8) ["lines"] F_all_plans := hr_all_plans x 8
def b_plans_for : C := seqC (ifC (orE (notE (callE 1 F_is_whole [varE 0] [])) (notE (chainE (fun i j => decide (i ≤ j)) (fun i j => decide (i ≤ j)) (cstE (.int 1)) (varE 0) (cstE (.int 64))))) (rsC "NoSize") (passC))
 (retC (opE gSort [callE 1 F_all_plans [varE 0] []]))
def F_plans_for : List Vl → RF := runF 1 b_plans_for
theorem ok_plans_for (x : Fx K mg) (f : Addr) : BodyOk P w K mg base 9 N_plans_for "plans_for" s_plans_for f b_plans_for := fun cdv A outer s H E hr => SsOk.cons (SOk.ite (TWOk.pt (TWOk.or (TOk.not (TOk.val (EOk.callH (h_is_whole x) (hr.mono (by decide)) (AOk.cons (vr 0) (AOk.nil))))) (TWOk.or1 (TOk.not (TOk.chain op_le op_le (EOk.int) (vr 0) (EOk.gint x.g_MOST_LINES)))))) (SsOk.one (SOk.raiseC rfl x.e_NoSize)) (SsOk.nil))
 (SsOk.one (SOk.ret (EOk.sorted x.m_sorted (AOk.cons (EOk.callH (h_all_plans x) (hr.mono (by decide)) (AOk.cons (vr 0) (AOk.nil))) (AOk.nil)))))
theorem h_plans_for (x : Fx K mg) : HasF P w K mg base "plans_for" 10 ["lines"] F_plans_for := hasF x.d_plans_for sc_plans_for (ok_plans_for x) fun _ _ _ _ _ _ us hl => match us, hl with | [_], _ => rfl
def b_cheapest : C := seqC (asgC (tgN 1) (callE 1 F_plans_for [varE 0] []))
 (seqC (asgC (tgN 2) (compE [3] (tgN 3) (srcE hSeq [varE 1]) (cstE (.bl true)) (callE 1 F_crossings_in [varE 3] [])))
 (retC (opE gIx [varE 1, opE gIdx (lstE (varE 2) :: [opE gMin1 [varE 2]])])))
def F_cheapest : List Vl → RF := runF 4 b_cheapest
theorem ok_cheapest (x : Fx K mg) (f : Addr) : BodyOk P w K mg base 10 N_cheapest "cheapest" s_cheapest f b_cheapest := fun cdv A outer s H E hr => SsOk.cons (st_ 1 sc_cheapest.nd (EOk.callH (h_plans_for x) (hr.mono (by decide)) (AOk.cons (vr 0) (AOk.nil))))
 (SsOk.cons (SOk.setComp (i := 2) (own := [("plan", 3)]) rfl sc_cheapest.nd rfl rfl (sw_true rfl rfl rfl (by decide +kernel)) (SrcOk.seq (vr 1)) (blkOk_by (by kernel_rfl)) (fun _ _ _ _ _ => gn 3 sc_cheapest.nd) (fun _ _ _ _ _ => CTOk.nil) (fun _ _ _ _ _ => EOk.callH (h_crossings_in x) (hr.mono (by decide)) (AOk.cons (vr 3) (AOk.nil))))
 (SsOk.one (SOk.ret (EOk.item (vr 1) (EOk.rmeth (vr 2) PySem.F.slot_list_index PySem.F.type_list_index (mt_indexD (units65 hr)) gop_idx (AOk.cons (EOk.min1 rfl x.m_min (AOk.cons (vr 2) (AOk.nil))) (AOk.nil)))))))
theorem h_cheapest (x : Fx K mg) : HasF P w K mg base "cheapest" 11 ["lines"] F_cheapest := hasF x.d_cheapest sc_cheapest (ok_cheapest x) fun _ _ _ _ _ _ us hl => match us, hl with | [_], _ => rfl
def b__law_mixed : C := seqC (asgC (tgN 2) (opE gMod [opE gMul [opE gAdd [opE gAdd [varE 0, opE gMul [cstE (.int 7919), varE 1]], cstE (.int 31)], cstE (.int 48271)], cstE (.int 2147483647)]))
 (retC (opE gMod [opE gMul [varE 2, opE gAdd [opE gAdd [opE gMod [varE 2, cstE (.int 65537)], varE 1], cstE (.int 1)]], cstE (.int 2147483647)]))
def F__law_mixed : List Vl → RF := runF 3 b__law_mixed
theorem ok__law_mixed (x : Fx K mg) (f : Addr) : BodyOk P w K mg base 0 N__law_mixed "_law_mixed" s__law_mixed f b__law_mixed := fun cdv A outer s H E hr => SsOk.cons (st_ 2 sc__law_mixed.nd (EOk.mod (EOk.mul (EOk.add (EOk.add (vr 0) (EOk.mul (EOk.int) (vr 1))) (EOk.int)) (EOk.int)) (EOk.int)))
 (SsOk.one (SOk.ret (EOk.mod (EOk.mul (vr 2) (EOk.add (EOk.add (EOk.mod (vr 2) (EOk.int)) (vr 1)) (EOk.int))) (EOk.int))))
theorem h__law_mixed (x : Fx K mg) : HasF P w K mg base "_law_mixed" 1 ["_law_cell", "_law_k"] F__law_mixed := hasF x.d__law_mixed sc__law_mixed (ok__law_mixed x) fun _ _ _ _ _ _ us hl => match us, hl with | [_, _], _ => rfl
def b__law_plans_L0 (g_ : List Vl → RF) : C := ifC (opE gEq [opE gMod [varE 0, varE 2], cstE (.int 0)]) (asgC (tgN 1) (opE gAdd [varE 1, compE [3] (tgN 3) (srcE hSeq [callE 1 g_ [opE gDiv [varE 0, varE 2]] []]) (cstE (.bl true)) (opE gAdd [varE 3, opE gTup [frzE 2]])])) (passC)
def b__law_plans (g_ : List Vl → RF) : C := seqC (asgC (tgN 1) (opE gLst [opE gTup [frzE 0]]))
 (seqC (forC (tgN 2) (srcE hRng2 [cstE (.int 2), opE gAdd [opE gDiv [varE 0, cstE (.int 2)], cstE (.int 1)]]) ((b__law_plans_L0 g_)))
 (retC (takE 1)))
def R__law_plans : Nat → List Vl → RF
  | 0 => fun _ => .bad
  | n + 1 => runF 4 (b__law_plans (R__law_plans n))
def F__law_plans : List Vl → RF := R__law_plans 8
theorem ok__law_plans (x : Fx K mg) {n : Nat} {g_ : List Vl → RF} (ih : HasF P w K mg base "_law_plans" (0 + 1 + n) ["_law_lines"] g_) (f : Addr) : BodyOk P w K mg base (0 + 1 + n) N__law_plans "_law_plans" s__law_plans f (b__law_plans g_) := fun cdv A outer s H E hr => SsOk.cons (st_ 1 sc__law_plans.nd (EOk.lst (AOk.cons (EOk.tup (AOk.cons (fz 0) (AOk.nil))) (AOk.nil))))
 (SsOk.cons (SOk.for_ (passes_of rfl) rfl (SrcOk.rng2 rfl x.m_range (AOk.cons (EOk.int) (AOk.cons (EOk.add (EOk.div (vr 0) (EOk.int)) (EOk.int)) (AOk.nil)))) (tn 2 sc__law_plans.nd) (SsOk.one (SOk.ite (TOk.eq hr.units (EOk.mod (vr 0) (vr 2)) (EOk.int)) (SsOk.one (st_ 1 sc__law_plans.nd (EOk.add (vr 1) (EOk.comp (own := [("_law_plan", 3)]) rfl sc__law_plans.nd (SrcOk.seq (EOk.callH (ps := ["_law_lines"]) (by exact ih) (hr.mono (by omega)) (AOk.cons (EOk.div (vr 0) (vr 2)) (AOk.nil)))) (blkOk_by (by kernel_rfl)) (fun _ _ _ _ _ => gn 3 sc__law_plans.nd) (fun _ _ _ _ _ => CTOk.nil) (fun _ _ _ _ _ => EOk.add (vr 3) (EOk.tup (AOk.cons (fz 2) (AOk.nil)))))))) (SsOk.nil))))
 (SsOk.one (SOk.ret (tk 1))))
theorem hr__law_plans (x : Fx K mg) : ∀ n, HasF P w K mg base "_law_plans" (0 + 1 + n) ["_law_lines"] (R__law_plans n)
  | 0 => hasBad x.d__law_plans sc__law_plans (fun _ _ _ _ _ _ us hl => match us, hl with | [_], _ => rfl)
  | n + 1 => hasF x.d__law_plans sc__law_plans (ok__law_plans x (hr__law_plans x n)) (fun _ _ _ _ _ _ us hl => match us, hl with | [_], _ => rfl)
theorem h__law_plans (x : Fx K mg) : HasF P w K mg base "_law_plans" (0 + 1 + 8) ["_law_lines"] F__law_plans := hr__law_plans x 8
def b__law_crossings_L0 : C := asgC (tgN 3) (opE gMul [varE 3, varE 4])
def b__law_crossings_L1 : C := seqC (asgC (tgN 3) (opE gDiv [varE 3, varE 4]))
 (seqC (asgC (tgN 1) (opE gAdd [varE 1, opE gMul [opE gMul [opE gMul [opE gMul [varE 2, cstE (.int 2)], varE 3], varE 4], varE 4]]))
 (asgC (tgN 2) (opE gMul [varE 2, varE 4])))
def b__law_crossings : C := seqC (asgC (tgN 1) (cstE (.int 0)))
 (seqC (asgC (tgN 2) (cstE (.int 1)))
 (seqC (asgC (tgN 3) (cstE (.int 1)))
 (seqC (forC (tgN 4) (srcE hSeq [frzE 0]) (b__law_crossings_L0))
 (seqC (forC (tgN 4) (srcE hSeq [opE gSlH [frzE 0, opE gNeg [cstE (.int 1)]]]) (b__law_crossings_L1))
 (retC (opE gAdd [varE 1, opE gMul [opE gMul [varE 2, varE 3], varE 3]]))))))
def F__law_crossings : List Vl → RF := runF 5 b__law_crossings
theorem ok__law_crossings (x : Fx K mg) (f : Addr) : BodyOk P w K mg base 0 N__law_crossings "_law_crossings" s__law_crossings f b__law_crossings := fun cdv A outer s H E hr => SsOk.cons (st_ 1 sc__law_crossings.nd (EOk.int))
 (SsOk.cons (st_ 2 sc__law_crossings.nd (EOk.int))
 (SsOk.cons (st_ 3 sc__law_crossings.nd (EOk.int))
 (SsOk.cons (SOk.for_ (passes_of rfl) rfl (SrcOk.seq (fz 0)) (tn 4 sc__law_crossings.nd) (SsOk.one (st_ 3 sc__law_crossings.nd (EOk.mul (vr 3) (vr 4)))))
 (SsOk.cons (SOk.for_ (passes_of rfl) rfl (SrcOk.seq (EOk.slH (fz 0) (EOk.neg (EOk.int)))) (tn 4 sc__law_crossings.nd) (SsOk.cons (st_ 3 sc__law_crossings.nd (EOk.div (vr 3) (vr 4)))
 (SsOk.cons (st_ 1 sc__law_crossings.nd (EOk.add (vr 1) (EOk.mul (EOk.mul (EOk.mul (EOk.mul (vr 2) (EOk.int)) (vr 3)) (vr 4)) (vr 4))))
 (SsOk.one (st_ 2 sc__law_crossings.nd (EOk.mul (vr 2) (vr 4)))))))
 (SsOk.one (SOk.ret (EOk.add (vr 1) (EOk.mul (EOk.mul (vr 2) (vr 3)) (vr 3)))))))))
theorem h__law_crossings (x : Fx K mg) : HasF P w K mg base "_law_crossings" 1 ["_law_plan"] F__law_crossings := hasF x.d__law_crossings sc__law_crossings (ok__law_crossings x) fun _ _ _ _ _ _ us hl => match us, hl with | [_], _ => rfl
def b__law_word : C := seqC (asgC (tgN 2) (cstE .non))
 (seqC (tryC knL 3 (expC (callVE 0 [("plans_for", F_plans_for), ("cheapest", F_cheapest)] 1 [varE 1])) (asgC (tgN 2) (takE 3)))
 (seqC (ifC (opE gIsN [varE 2]) (retC (cstE (.str "told"))) (passC))
 (seqC (asgC (tgN 4) (opE gLst [opE (gIsX dsL csL) [varE 2, cstE (.sym (.cls "NoSize"))], opE (gIsX dsL csL) [varE 2, opE gTup [cstE (.sym (.cls "NoPairing")), cstE (.sym (.cls "NoNet")), cstE (.sym (.cls "NoSettings")), cstE (.sym (.cls "NoThings"))]]]))
 (seqC (asgC (tgN 4) (opE gAdd [varE 4, opE gLst [opE (gIsX dsL csL) [varE 2, opE gTup [cstE (.sym (.cls "NoCalls")), cstE (.sym (.cls "NoFrame")), cstE (.sym (.cls "NoPlan")), cstE (.sym (.cls "NoText"))]], opE (gIsX dsL csL) [varE 2, cstE (.sym (.ty "ValueError"))]]]))
 (seqC (ifC (opE gNe [varE 4, opE gLst [cstE (.bl true), cstE (.bl false), cstE (.bl false), cstE (.bl true)]]) (retC (cstE (.str "other"))) (passC))
 (retC (cstE (.str "no size"))))))))
def F__law_word : List Vl → RF := runF 5 b__law_word
theorem ok__law_word (x : Fx K mg) (f : Addr) : BodyOk P w K mg base 11 N__law_word "_law_word" s__law_word f b__law_word := fun cdv A outer s H E hr => SsOk.cons (st_ 2 sc__law_word.nd (EOk.non))
 (SsOk.cons (SOk.tryG (i := 3) sc__law_word.nd x.t_PairError (fun pn xe hpo => SsOk.one (SOk.exp (EOk.callV (i := 0) (TabOk.cons (h_plans_for x) (hr.mono (by decide)) (TabOk.cons (h_cheapest x) (hr.mono (by decide)) (TabOk.nil))) (AOk.cons (vr 1) (AOk.nil))))) (fun _ _ => SsOk.one (st_ 2 sc__law_word.nd (tk 3))))
 (SsOk.cons (SOk.ite (TOk.isN (vr 2)) (SsOk.one (SOk.ret (EOk.str))) (SsOk.nil))
 (SsOk.cons (st_ 4 sc__law_word.nd (EOk.lst (AOk.cons (EOk.isx x.kx x.m_isinstance (AOk.cons (vr 2) (AOk.cons (EOk.own x.c_NoSize) (AOk.nil)))) (AOk.cons (EOk.isx x.kx x.m_isinstance (AOk.cons (vr 2) (AOk.cons (EOk.tup (AOk.cons (EOk.own x.c_NoPairing) (AOk.cons (EOk.own x.c_NoNet) (AOk.cons (EOk.own x.c_NoSettings) (AOk.cons (EOk.own x.c_NoThings) (AOk.nil)))))) (AOk.nil)))) (AOk.nil)))))
 (SsOk.cons (st_ 4 sc__law_word.nd (EOk.add (vr 4) (EOk.lst (AOk.cons (EOk.isx x.kx x.m_isinstance (AOk.cons (vr 2) (AOk.cons (EOk.tup (AOk.cons (EOk.own x.c_NoCalls) (AOk.cons (EOk.own x.c_NoFrame) (AOk.cons (EOk.own x.c_NoPlan) (AOk.cons (EOk.own x.c_NoText) (AOk.nil)))))) (AOk.nil)))) (AOk.cons (EOk.isx x.kx x.m_isinstance (AOk.cons (vr 2) (AOk.cons (EOk.ty rfl x.m_ValueError (by decide +kernel)) (AOk.nil)))) (AOk.nil))))))
 (SsOk.cons (SOk.ite (TOk.ne hr.units (vr 4) (EOk.lst (AOk.cons (EOk.bl) (AOk.cons (EOk.bl) (AOk.cons (EOk.bl) (AOk.cons (EOk.bl) (AOk.nil))))))) (SsOk.one (SOk.ret (EOk.str))) (SsOk.nil))
 (SsOk.one (SOk.ret (EOk.str))))))))
theorem h__law_word (x : Fx K mg) : HasF P w K mg base "_law_word" 12 ["_law_ask", "_law_thing"] F__law_word := hasF x.d__law_word sc__law_word (ok__law_word x) fun _ _ _ _ _ _ us hl => match us, hl with | [_, _], _ => rfl
def b_law_L0 : C := seqC (asgC (tgN 4) (opE gDiv [callE 2 F__law_mixed [varE 3, varE 2] [], cstE (.int 5)]))
 (seqC (asgC (tgN 5) (opE gAdd [cstE (.int 1), opE gMod [varE 4, cstE (.int 64)]]))
 (seqC (ifC (opE gEq [opE gMod [opE gDiv [varE 4, cstE (.int 64)], cstE (.int 4)], cstE (.int 0)]) (asgC (tgN 5) (opE gIx [opE gLst [cstE (.int 64), cstE (.int 48), cstE (.int 36), cstE (.int 60), cstE (.int 32), cstE (.int 1), cstE (.int 2), cstE (.int 4)], opE gMod [opE gDiv [varE 4, cstE (.int 256)], cstE (.int 8)]])) (passC))
 (seqC (asgC (tgN 6) (opE gSort [callE 1 F__law_plans [varE 5] []]))
 (seqC (asgC (tgN 7) (callE 1 F_plans_for [varE 5] []))
 (seqC (ifC (orE (notE (opE gIsi [varE 7, cstE (.sym (.ty "list"))])) (opE gNe [varE 7, varE 6])) (retC (cstE (.bl false))) (passC))
 (seqC (ifC (opE gNe [compE [11] (tgN 11) (srcE hSeq [varE 7]) (notE (opE gIsi [varE 11, cstE (.sym (.ty "tuple"))])) (frzE 11), opE gLst []]) (retC (cstE (.bl false))) (passC))
 (seqC (asgC (tgN 8) (compE [10] (tgN 10) (srcE hSeq [varE 6]) (cstE (.bl true)) (callE 1 F__law_crossings [varE 10] [])))
 (seqC (ifC (opE gNe [callE 1 F_cheapest [varE 5] [], opE gIx [varE 6, opE gIdx (lstE (varE 8) :: [opE gMin1 [varE 8]])]]) (retC (cstE (.bl false))) (passC))
 (seqC (ifC (opE gNe [compE [10] (tgN 10) (srcE hSeq [varE 6]) (cstE (.bl true)) (callE 1 F_crossings [varE 10] []), varE 8]) (retC (cstE (.bl false))) (passC))
 (seqC (expC (mutE 7 isL [] muClear))
 (seqC (asgC (tgN 9) (opE gIx [frzE 1, opE gMod [opE gDiv [varE 4, cstE (.int 2048)], cstE (.int 12)]]))
 (seqC (ifC (orE (opE gNe [callE 1 F_plans_for [varE 5] [], varE 6]) (opE gNe [callE 2 F__law_word [cstE (.sym (.fn "plans_for")), varE 9] [], cstE (.str "no size")])) (retC (cstE (.bl false))) (passC))
 (ifC (opE gNe [callE 2 F__law_word [cstE (.sym (.fn "cheapest")), varE 9] [], cstE (.str "no size")]) (retC (cstE (.bl false))) (passC))))))))))))))
def b_law : C := seqC (asgC (tgN 1) (opE gLst [cstE (.int 0), cstE (.int 65), opE gNeg [cstE (.int 1)], cstE (.bl true), cstE .non, cstE (.str "8"), opE gLst [cstE (.int 8)], opE gTup [cstE (.int 8)], dctE, opE gPow [cstE (.int 10), cstE (.int 30)], cstE (.bl false), opE gNeg [cstE (.int 64)]]))
 (seqC (forC (tgT 2 (tgsC (tgN 2) (tgsC (tgN 3) (tgsN)))) (srcE hEnum [opE gAdd [opE gLst [cstE (.int 23)], opE gList [opE gSlH [varE 0, cstE (.int 9)]]]]) (b_law_L0))
 (retC (cstE (.bl true))))
def F_law : List Vl → RF := runF 12 b_law
theorem ok_law (x : Fx K mg) (f : Addr) : BodyOk P w K mg base 12 N_law "law" s_law f b_law := fun cdv A outer s H E hr => SsOk.cons (st_ 1 sc_law.nd (EOk.lst (AOk.cons (EOk.int) (AOk.cons (EOk.int) (AOk.cons (EOk.neg (EOk.int)) (AOk.cons (EOk.bl) (AOk.cons (EOk.non) (AOk.cons (EOk.str) (AOk.cons (EOk.lst (AOk.cons (EOk.int) (AOk.nil))) (AOk.cons (EOk.tup (AOk.cons (EOk.int) (AOk.nil))) (AOk.cons (EOk.dct) (AOk.cons (EOk.pow (EOk.int) (EOk.int)) (AOk.cons (EOk.bl) (AOk.cons (EOk.neg (EOk.int)) (AOk.nil)))))))))))))))
 (SsOk.cons (SOk.for_ (passes_of rfl) rfl (SrcOk.enum rfl x.m_enumerate (AOk.cons (EOk.add (EOk.lst (AOk.cons (EOk.int) (AOk.nil))) (EOk.list x.m_list (AOk.cons (EOk.slH (vr 0) (EOk.int)) (AOk.nil)))) (AOk.nil))) (GOk.tup rfl (GsOk.cons (tn 2 sc_law.nd) (GsOk.cons (tn 3 sc_law.nd) (GsOk.nil)))) (SsOk.cons (st_ 4 sc_law.nd (EOk.div (EOk.callH (h__law_mixed x) (hr.mono (by decide)) (AOk.cons (vr 3) (AOk.cons (vr 2) (AOk.nil)))) (EOk.int)))
 (SsOk.cons (st_ 5 sc_law.nd (EOk.add (EOk.int) (EOk.mod (vr 4) (EOk.int))))
 (SsOk.cons (SOk.ite (TOk.eq hr.units (EOk.mod (EOk.div (vr 4) (EOk.int)) (EOk.int)) (EOk.int)) (SsOk.one (st_ 5 sc_law.nd (EOk.item (EOk.lst (AOk.cons (EOk.int) (AOk.cons (EOk.int) (AOk.cons (EOk.int) (AOk.cons (EOk.int) (AOk.cons (EOk.int) (AOk.cons (EOk.int) (AOk.cons (EOk.int) (AOk.cons (EOk.int) (AOk.nil)))))))))) (EOk.mod (EOk.div (vr 4) (EOk.int)) (EOk.int))))) (SsOk.nil))
 (SsOk.cons (st_ 6 sc_law.nd (EOk.sorted x.m_sorted (AOk.cons (EOk.callH (h__law_plans x) (hr.mono (by decide)) (AOk.cons (vr 5) (AOk.nil))) (AOk.nil))))
 (SsOk.cons (st_ 7 sc_law.nd (EOk.callH (h_plans_for x) (hr.mono (by decide)) (AOk.cons (vr 5) (AOk.nil))))
 (SsOk.cons (SOk.ite (TWOk.pt (TWOk.or (TOk.not (TOk.val (EOk.isi x.m_isinstance (AOk.cons (vr 7) (AOk.cons (EOk.ty rfl x.m_list (by decide +kernel)) (AOk.nil)))))) (TWOk.or1 (TOk.ne hr.units (vr 7) (vr 6))))) (SsOk.one (SOk.ret (EOk.bl))) (SsOk.nil))
 (SsOk.cons (SOk.ite (TOk.ne hr.units (EOk.comp (own := [("_law_one", 11)]) rfl sc_law.nd (SrcOk.seq (vr 7)) (blkOk_by (by kernel_rfl)) (fun _ _ _ _ _ => gn 11 sc_law.nd) (fun _ _ _ _ _ => CTOk.one (TOk.not (TOk.val (EOk.isi x.m_isinstance (AOk.cons (vr 11) (AOk.cons (EOk.ty rfl x.m_tuple (by decide +kernel)) (AOk.nil))))))) (fun _ _ _ _ _ => fz 11)) (EOk.lst (AOk.nil))) (SsOk.one (SOk.ret (EOk.bl))) (SsOk.nil))
 (SsOk.cons (SOk.setComp (i := 8) (own := [("_law_plan", 10)]) rfl sc_law.nd rfl rfl (sw_true rfl rfl rfl (by decide +kernel)) (SrcOk.seq (vr 6)) (blkOk_by (by kernel_rfl)) (fun _ _ _ _ _ => gn 10 sc_law.nd) (fun _ _ _ _ _ => CTOk.nil) (fun _ _ _ _ _ => EOk.callH (h__law_crossings x) (hr.mono (by decide)) (AOk.cons (vr 10) (AOk.nil))))
 (SsOk.cons (SOk.ite (TOk.ne hr.units (EOk.callH (h_cheapest x) (hr.mono (by decide)) (AOk.cons (vr 5) (AOk.nil))) (EOk.item (vr 6) (EOk.rmeth (vr 8) PySem.F.slot_list_index PySem.F.type_list_index (mt_indexD (units65 hr)) gop_idx (AOk.cons (EOk.min1 rfl x.m_min (AOk.cons (vr 8) (AOk.nil))) (AOk.nil))))) (SsOk.one (SOk.ret (EOk.bl))) (SsOk.nil))
 (SsOk.cons (SOk.ite (TOk.ne hr.units (EOk.comp (own := [("_law_plan", 10)]) rfl sc_law.nd (SrcOk.seq (vr 6)) (blkOk_by (by kernel_rfl)) (fun _ _ _ _ _ => gn 10 sc_law.nd) (fun _ _ _ _ _ => CTOk.nil) (fun _ _ _ _ _ => EOk.callH (h_crossings x) (hr.mono (by decide)) (AOk.cons (vr 10) (AOk.nil)))) (vr 8)) (SsOk.one (SOk.ret (EOk.bl))) (SsOk.nil))
 (SsOk.cons (SOk.exp (EOk.meth0 (i := 7) rfl (by first | exact Or.inl rfl | exact Or.inr (Or.inl rfl) | exact Or.inr (Or.inr rfl)) (by decide) (by decide) PySem.F.slot_list_clear PySem.F.type_list_clear mt_clear gmu_clear))
 (SsOk.cons (st_ 9 sc_law.nd (EOk.item (fz 1) (EOk.mod (EOk.div (vr 4) (EOk.int)) (EOk.int))))
 (SsOk.cons (SOk.ite (TWOk.pt (TWOk.or (TOk.ne hr.units (EOk.callH (h_plans_for x) (hr.mono (by decide)) (AOk.cons (vr 5) (AOk.nil))) (vr 6)) (TWOk.or1 (TOk.ne hr.units (EOk.callH (h__law_word x) (hr.mono (by decide)) (AOk.cons (EOk.fnv x.f_plans_for) (AOk.cons (vr 9) (AOk.nil)))) (EOk.str))))) (SsOk.one (SOk.ret (EOk.bl))) (SsOk.nil))
 (SsOk.one (SOk.ite (TOk.ne hr.units (EOk.callH (h__law_word x) (hr.mono (by decide)) (AOk.cons (EOk.fnv x.f_cheapest) (AOk.cons (vr 9) (AOk.nil)))) (EOk.str)) (SsOk.one (SOk.ret (EOk.bl))) (SsOk.nil)))))))))))))))))
 (SsOk.one (SOk.ret (EOk.bl))))
theorem h_law (x : Fx K mg) : HasF P w K mg base "law" 13 ["_law_script"] F_law := hasF x.d_law sc_law (ok_law x) fun _ _ _ _ _ _ us hl => match us, hl with | [_], _ => rfl
end
def b_law_H0 : C := seqC (asgC (tgN 4) (opE gDiv [callE 2 F__law_mixed [varE 3, varE 2] [], cstE (.int 5)]))
 (seqC (asgC (tgN 5) (opE gAdd [cstE (.int 1), opE gMod [varE 4, cstE (.int 64)]]))
 (ifC (opE gEq [opE gMod [opE gDiv [varE 4, cstE (.int 64)], cstE (.int 4)], cstE (.int 0)]) (asgC (tgN 5) (opE gIx [opE gLst [cstE (.int 64), cstE (.int 48), cstE (.int 36), cstE (.int 60), cstE (.int 32), cstE (.int 1), cstE (.int 2), cstE (.int 4)], opE gMod [opE gDiv [varE 4, cstE (.int 256)], cstE (.int 8)]])) (passC)))
def b_law_H1 : C := seqC (asgC (tgN 6) (opE gSort [callE 1 F__law_plans [varE 5] []]))
 (seqC (asgC (tgN 7) (callE 1 F_plans_for [varE 5] []))
 (seqC (ifC (orE (notE (opE gIsi [varE 7, cstE (.sym (.ty "list"))])) (opE gNe [varE 7, varE 6])) (retC (cstE (.bl false))) (passC))
 (seqC (ifC (opE gNe [compE [11] (tgN 11) (srcE hSeq [varE 7]) (notE (opE gIsi [varE 11, cstE (.sym (.ty "tuple"))])) (frzE 11), opE gLst []]) (retC (cstE (.bl false))) (passC))
 (seqC (asgC (tgN 8) (compE [10] (tgN 10) (srcE hSeq [varE 6]) (cstE (.bl true)) (callE 1 F__law_crossings [varE 10] [])))
 (seqC (ifC (opE gNe [callE 1 F_cheapest [varE 5] [], opE gIx [varE 6, opE gIdx (lstE (varE 8) :: [opE gMin1 [varE 8]])]]) (retC (cstE (.bl false))) (passC))
 (seqC (ifC (opE gNe [compE [10] (tgN 10) (srcE hSeq [varE 6]) (cstE (.bl true)) (callE 1 F_crossings [varE 10] []), varE 8]) (retC (cstE (.bl false))) (passC))
 (expC (mutE 7 isL [] muClear))))))))
def b_law_H2 : C := asgC (tgN 9) (opE gIx [frzE 1, opE gMod [opE gDiv [varE 4, cstE (.int 2048)], cstE (.int 12)]])
def b_law_H3 : C := seqC (ifC (orE (opE gNe [callE 1 F_plans_for [varE 5] [], varE 6]) (opE gNe [callE 2 F__law_word [cstE (.sym (.fn "plans_for")), varE 9] [], cstE (.str "no size")])) (retC (cstE (.bl false))) (passC))
 (ifC (opE gNe [callE 2 F__law_word [cstE (.sym (.fn "cheapest")), varE 9] [], cstE (.str "no size")]) (retC (cstE (.bl false))) (passC))
def b_law_H4 : C := asgC (tgN 1) (opE gLst [cstE (.int 0), cstE (.int 65), opE gNeg [cstE (.int 1)], cstE (.bl true), cstE .non, cstE (.str "8"), opE gLst [cstE (.int 8)], opE gTup [cstE (.int 8)], dctE, opE gPow [cstE (.int 10), cstE (.int 30)], cstE (.bl false), opE gNeg [cstE (.int 64)]])
def b_law_H5 : C := forC (tgT 2 (tgsC (tgN 2) (tgsC (tgN 3) (tgsN)))) (srcE hEnum [opE gAdd [opE gLst [cstE (.int 23)], opE gList [opE gSlH [varE 0, cstE (.int 9)]]]]) (b_law_L0)
def b_law_H6 : C := retC (cstE (.bl true))
theorem b_law_L0_cut : b_law_L0 = seqC b_law_H0 (seqC b_law_H1 (seqC b_law_H2 (b_law_H3))) := by simp only [b_law_L0, b_law_H0, b_law_H1, b_law_H2, b_law_H3, seqC_assoc]
theorem b_law_cut : b_law = seqC b_law_H4 (seqC b_law_H5 (b_law_H6)) := by simp only [b_law, b_law_H4, b_law_H5, b_law_H6, seqC_assoc]
end K72

namespace K72
open PyI
def stOf : RS → Sta
  | .nx s => s
  | _ => ⟨[], [], []⟩
def strI : List Vl := [.int 0, .int 65, .int (-1), .bl true, .non, .str "8", .nd .sh .lst [.int 8], .tup [.int 8], .nd .sh (.dK []) [], .int 1000000000000000000000000000000, .bl false, .int (-64)]
def strO : List Vl := [.int 0, .int 65, .int (-1), .bl true, .non, .str "8", .nd .own .lst [.int 8], .tup [.int 8], .nd .own (.dK []) [], .int 1000000000000000000000000000000, .bl false, .int (-64)]
def SS (a : Option Vl) (s : Vl) (p c : Int) (m k d f cs th : Option Vl) : Sta := ⟨[a, some s, some (.int p), some (.int c), m, k, d, f, cs, th, none, none], [], []⟩
def SJ (a : Option Vl) (s : Vl) (p c m k d f cs th : Option Vl) : Sta := ⟨[a, some s, p, c, m, k, d, f, cs, th, none, none], [], []⟩
theorem mixed (c p : Int) (h0 : 0 ≤ p) (h1 : p ≤ 100) : ∃ m : Int, 0 ≤ m ∧ F__law_mixed [.int c, .int p] = .ok (.int m) := by
  refine ⟨((c + 7919 * p + 31) * 48271 % 2147483647) * ((c + 7919 * p + 31) * 48271 % 2147483647 % 65537 + p + 1) % 2147483647, by omega, ?_⟩
  simp (disch := omega) only [F__law_mixed, b__law_mixed, runF, seqC, bindC, asgC, tgN, tgT, tgsC, tgsN, opE, evs, varE, takE, frzE, cstE, retC, retNC, expC, ifC, passC, rsC, brkC, cntC, callE, srcE, andE, orE, ifE, seqE, notE, chainE, nt_non, nt_bl, nt_int, nt_str, nt_tup, nt_nil, nt_cons, so_non, so_bl, so_int, so_str, so_tup, so_nil, so_cons, no_non, no_bl, no_int, no_str, no_tup, no_nil, no_cons, nr_non, nr_bl, nr_int, nr_str, nr_tup, nr_nil, nr_cons, ao_non, ao_bl, ao_int, ao_str, ao_tup, ao_nil, ao_cons, pk_non, pk_bl, pk_int, pk_str, pk_tup, pk_nil, pk_cons, sf_non, sf_bl, sf_int, sf_str, sf_tup, sf_nil, sf_cons, ints_so, ints_nt, ints_no, ints_nr, ints_ao, ints_pk, ints_sf, ints_snoc, pk_nd, sf_nd, nt_nd, so_nd, no_nd, nr_nd, ao_nd, so_app, gLen_nd, gIx_nd, gLst_0, gLR1_ok, gLR2_ok, isi_lst, hSeq_nd, fp1, fp2, fp3, fb1, fb2, fb3, fb4, fb5, fb6, fb7, fb8, fb9, fb10, fb11, fb12, fb13, fb14, sf_enc, pk_own, pk_sh, pk_tr, nr_enc, ao_enc, so_own, so_sh, nt_own, nt_sh, no_sh, no_tr, no_own, nt_tr, gLen_enc, gIx_0, gIx_1, gLst_nil, hSeq_sh, hRng1_ok, hRng2_ok, gSub_ok, gAdd_ok, gNeg_ok, gMod_ok, gDiv_ok, gShl_ok, gShr_ok, gMul_r, gMul_l, gLt_ok, gLe_ok, gGt_ok, gGe_ok, gNot_ok, gTup_2, gTup_3, gMax2_ok, gMin2_ok, isi_int_int, isi_int_bool, isi_tup, isi_int_list, isi_list, gEq_int, gNe_int, List.getElem?_cons_zero, List.getElem?_cons_succ, List.set_cons_zero, List.set_cons_succ, List.length_cons, List.length_nil, List.map_cons, List.map_nil, List.cons_append, List.nil_append, List.replicate_zero, List.replicate_succ, decide_true, decide_false, Bool.and_true, Bool.true_and, Bool.and_false, Bool.false_and, Bool.or_true, Bool.true_or, Bool.or_false, Bool.false_or, Bool.not_true, Bool.not_false, if_true, if_false, ite_true, ite_false, reduceIte, List.contains_nil, List.contains_cons, Nat.reduceBEq, List.any_cons, List.any_nil, List.append_nil, Bool.false_eq_true, reduceCtorEq, Nat.reduceAdd, Nat.reduceLT, Nat.reduceLeDiff, Nat.zero_add, Int.reduceSub, Int.reduceAdd, Int.reduceMul, Int.reduceToNat, Int.reducePow, Int.one_mul, Int.reduceNeg, Int.reduceLT, Int.reduceLE, Int.zero_add, Int.add_zero, Int.reduceEq, Int.reduceMod, Int.reduceDiv, Int.reduceOfNat, Int.cast_ofNat_Int]
theorem head0 (a : Option Vl) (s : Vl) (p c : Int) (m k d f cs th : Option Vl) (h0 : 0 ≤ p) (h1 : p ≤ 100) : ∃ m' j : Int, 0 ≤ m' ∧ 1 ≤ j ∧ j ≤ 64 ∧ b_law_H0 (SS a s p c m k d f cs th) = .nx (SS a s p c (some (.int m')) (some (.int j)) d f cs th) := by
  obtain ⟨m0, hm, e⟩ := mixed c p h0 h1
  generalize hq : m0 / 5 = q
  have hq0 : 0 ≤ q := by omega
  by_cases h : q / 64 % 4 = 0
  · have h8 : q / 256 % 8 = 0 ∨ q / 256 % 8 = 1 ∨ q / 256 % 8 = 2 ∨ q / 256 % 8 = 3 ∨ q / 256 % 8 = 4 ∨ q / 256 % 8 = 5 ∨ q / 256 % 8 = 6 ∨ q / 256 % 8 = 7 := by omega
    have hL : ∀ i : Int, gIx [.nd .own .lst [.int 64, .int 48, .int 36, .int 60, .int 32, .int 1, .int 2, .int 4], .int i] = L2.atI [.int 64, .int 48, .int 36, .int 60, .int 32, .int 1, .int 2, .int 4] i := fun _ => rfl
    have hG : gLst [.int 64, .int 48, .int 36, .int 60, .int 32, .int 1, .int 2, .int 4] = some (.nd .own .lst [.int 64, .int 48, .int 36, .int 60, .int 32, .int 1, .int 2, .int 4]) := by kernel_rfl
    rcases h8 with h8 | h8 | h8 | h8 | h8 | h8 | h8 | h8
    · have hA : L2.atI [Vl.int 64, .int 48, .int 36, .int 60, .int 32, .int 1, .int 2, .int 4] 0 = some (.int 64) := by kernel_rfl
      refine ⟨q, 64, hq0, by omega, by omega, ?_⟩
      simp (disch := omega) only [b_law_H0, SS, runF, seqC, bindC, asgC, tgN, tgT, tgsC, tgsN, opE, evs, varE, takE, frzE, cstE, retC, retNC, expC, ifC, passC, rsC, brkC, cntC, callE, srcE, andE, orE, ifE, seqE, notE, chainE, nt_non, nt_bl, nt_int, nt_str, nt_tup, nt_nil, nt_cons, so_non, so_bl, so_int, so_str, so_tup, so_nil, so_cons, no_non, no_bl, no_int, no_str, no_tup, no_nil, no_cons, nr_non, nr_bl, nr_int, nr_str, nr_tup, nr_nil, nr_cons, ao_non, ao_bl, ao_int, ao_str, ao_tup, ao_nil, ao_cons, pk_non, pk_bl, pk_int, pk_str, pk_tup, pk_nil, pk_cons, sf_non, sf_bl, sf_int, sf_str, sf_tup, sf_nil, sf_cons, ints_so, ints_nt, ints_no, ints_nr, ints_ao, ints_pk, ints_sf, ints_snoc, pk_nd, sf_nd, nt_nd, so_nd, no_nd, nr_nd, ao_nd, so_app, gLen_nd, gIx_nd, gLst_0, gLR1_ok, gLR2_ok, isi_lst, hSeq_nd, fp1, fp2, fp3, fb1, fb2, fb3, fb4, fb5, fb6, fb7, fb8, fb9, fb10, fb11, fb12, fb13, fb14, sf_enc, pk_own, pk_sh, pk_tr, nr_enc, ao_enc, so_own, so_sh, nt_own, nt_sh, no_sh, no_tr, no_own, nt_tr, gLen_enc, gIx_0, gIx_1, gLst_nil, hSeq_sh, hRng1_ok, hRng2_ok, gSub_ok, gAdd_ok, gNeg_ok, gMod_ok, gDiv_ok, gShl_ok, gShr_ok, gMul_r, gMul_l, gLt_ok, gLe_ok, gGt_ok, gGe_ok, gNot_ok, gTup_2, gTup_3, gMax2_ok, gMin2_ok, isi_int_int, isi_int_bool, isi_tup, isi_int_list, isi_list, gEq_int, gNe_int, List.getElem?_cons_zero, List.getElem?_cons_succ, List.set_cons_zero, List.set_cons_succ, List.length_cons, List.length_nil, List.map_cons, List.map_nil, List.cons_append, List.nil_append, List.replicate_zero, List.replicate_succ, decide_true, decide_false, Bool.and_true, Bool.true_and, Bool.and_false, Bool.false_and, Bool.or_true, Bool.true_or, Bool.or_false, Bool.false_or, Bool.not_true, Bool.not_false, if_true, if_false, ite_true, ite_false, reduceIte, List.contains_nil, List.contains_cons, Nat.reduceBEq, List.any_cons, List.any_nil, List.append_nil, Bool.false_eq_true, reduceCtorEq, Nat.reduceAdd, Nat.reduceLT, Nat.reduceLeDiff, Nat.zero_add, Int.reduceSub, Int.reduceAdd, Int.reduceMul, Int.reduceToNat, Int.reducePow, Int.one_mul, Int.reduceNeg, Int.reduceLT, Int.reduceLE, Int.zero_add, Int.add_zero, Int.reduceEq, Int.reduceMod, Int.reduceDiv, Int.reduceOfNat, Int.cast_ofNat_Int, e, hq, h, h8, hL, hG, hA]
    · have hA : L2.atI [Vl.int 64, .int 48, .int 36, .int 60, .int 32, .int 1, .int 2, .int 4] 1 = some (.int 48) := by kernel_rfl
      refine ⟨q, 48, hq0, by omega, by omega, ?_⟩
      simp (disch := omega) only [b_law_H0, SS, runF, seqC, bindC, asgC, tgN, tgT, tgsC, tgsN, opE, evs, varE, takE, frzE, cstE, retC, retNC, expC, ifC, passC, rsC, brkC, cntC, callE, srcE, andE, orE, ifE, seqE, notE, chainE, nt_non, nt_bl, nt_int, nt_str, nt_tup, nt_nil, nt_cons, so_non, so_bl, so_int, so_str, so_tup, so_nil, so_cons, no_non, no_bl, no_int, no_str, no_tup, no_nil, no_cons, nr_non, nr_bl, nr_int, nr_str, nr_tup, nr_nil, nr_cons, ao_non, ao_bl, ao_int, ao_str, ao_tup, ao_nil, ao_cons, pk_non, pk_bl, pk_int, pk_str, pk_tup, pk_nil, pk_cons, sf_non, sf_bl, sf_int, sf_str, sf_tup, sf_nil, sf_cons, ints_so, ints_nt, ints_no, ints_nr, ints_ao, ints_pk, ints_sf, ints_snoc, pk_nd, sf_nd, nt_nd, so_nd, no_nd, nr_nd, ao_nd, so_app, gLen_nd, gIx_nd, gLst_0, gLR1_ok, gLR2_ok, isi_lst, hSeq_nd, fp1, fp2, fp3, fb1, fb2, fb3, fb4, fb5, fb6, fb7, fb8, fb9, fb10, fb11, fb12, fb13, fb14, sf_enc, pk_own, pk_sh, pk_tr, nr_enc, ao_enc, so_own, so_sh, nt_own, nt_sh, no_sh, no_tr, no_own, nt_tr, gLen_enc, gIx_0, gIx_1, gLst_nil, hSeq_sh, hRng1_ok, hRng2_ok, gSub_ok, gAdd_ok, gNeg_ok, gMod_ok, gDiv_ok, gShl_ok, gShr_ok, gMul_r, gMul_l, gLt_ok, gLe_ok, gGt_ok, gGe_ok, gNot_ok, gTup_2, gTup_3, gMax2_ok, gMin2_ok, isi_int_int, isi_int_bool, isi_tup, isi_int_list, isi_list, gEq_int, gNe_int, List.getElem?_cons_zero, List.getElem?_cons_succ, List.set_cons_zero, List.set_cons_succ, List.length_cons, List.length_nil, List.map_cons, List.map_nil, List.cons_append, List.nil_append, List.replicate_zero, List.replicate_succ, decide_true, decide_false, Bool.and_true, Bool.true_and, Bool.and_false, Bool.false_and, Bool.or_true, Bool.true_or, Bool.or_false, Bool.false_or, Bool.not_true, Bool.not_false, if_true, if_false, ite_true, ite_false, reduceIte, List.contains_nil, List.contains_cons, Nat.reduceBEq, List.any_cons, List.any_nil, List.append_nil, Bool.false_eq_true, reduceCtorEq, Nat.reduceAdd, Nat.reduceLT, Nat.reduceLeDiff, Nat.zero_add, Int.reduceSub, Int.reduceAdd, Int.reduceMul, Int.reduceToNat, Int.reducePow, Int.one_mul, Int.reduceNeg, Int.reduceLT, Int.reduceLE, Int.zero_add, Int.add_zero, Int.reduceEq, Int.reduceMod, Int.reduceDiv, Int.reduceOfNat, Int.cast_ofNat_Int, e, hq, h, h8, hL, hG, hA]
    · have hA : L2.atI [Vl.int 64, .int 48, .int 36, .int 60, .int 32, .int 1, .int 2, .int 4] 2 = some (.int 36) := by kernel_rfl
      refine ⟨q, 36, hq0, by omega, by omega, ?_⟩
      simp (disch := omega) only [b_law_H0, SS, runF, seqC, bindC, asgC, tgN, tgT, tgsC, tgsN, opE, evs, varE, takE, frzE, cstE, retC, retNC, expC, ifC, passC, rsC, brkC, cntC, callE, srcE, andE, orE, ifE, seqE, notE, chainE, nt_non, nt_bl, nt_int, nt_str, nt_tup, nt_nil, nt_cons, so_non, so_bl, so_int, so_str, so_tup, so_nil, so_cons, no_non, no_bl, no_int, no_str, no_tup, no_nil, no_cons, nr_non, nr_bl, nr_int, nr_str, nr_tup, nr_nil, nr_cons, ao_non, ao_bl, ao_int, ao_str, ao_tup, ao_nil, ao_cons, pk_non, pk_bl, pk_int, pk_str, pk_tup, pk_nil, pk_cons, sf_non, sf_bl, sf_int, sf_str, sf_tup, sf_nil, sf_cons, ints_so, ints_nt, ints_no, ints_nr, ints_ao, ints_pk, ints_sf, ints_snoc, pk_nd, sf_nd, nt_nd, so_nd, no_nd, nr_nd, ao_nd, so_app, gLen_nd, gIx_nd, gLst_0, gLR1_ok, gLR2_ok, isi_lst, hSeq_nd, fp1, fp2, fp3, fb1, fb2, fb3, fb4, fb5, fb6, fb7, fb8, fb9, fb10, fb11, fb12, fb13, fb14, sf_enc, pk_own, pk_sh, pk_tr, nr_enc, ao_enc, so_own, so_sh, nt_own, nt_sh, no_sh, no_tr, no_own, nt_tr, gLen_enc, gIx_0, gIx_1, gLst_nil, hSeq_sh, hRng1_ok, hRng2_ok, gSub_ok, gAdd_ok, gNeg_ok, gMod_ok, gDiv_ok, gShl_ok, gShr_ok, gMul_r, gMul_l, gLt_ok, gLe_ok, gGt_ok, gGe_ok, gNot_ok, gTup_2, gTup_3, gMax2_ok, gMin2_ok, isi_int_int, isi_int_bool, isi_tup, isi_int_list, isi_list, gEq_int, gNe_int, List.getElem?_cons_zero, List.getElem?_cons_succ, List.set_cons_zero, List.set_cons_succ, List.length_cons, List.length_nil, List.map_cons, List.map_nil, List.cons_append, List.nil_append, List.replicate_zero, List.replicate_succ, decide_true, decide_false, Bool.and_true, Bool.true_and, Bool.and_false, Bool.false_and, Bool.or_true, Bool.true_or, Bool.or_false, Bool.false_or, Bool.not_true, Bool.not_false, if_true, if_false, ite_true, ite_false, reduceIte, List.contains_nil, List.contains_cons, Nat.reduceBEq, List.any_cons, List.any_nil, List.append_nil, Bool.false_eq_true, reduceCtorEq, Nat.reduceAdd, Nat.reduceLT, Nat.reduceLeDiff, Nat.zero_add, Int.reduceSub, Int.reduceAdd, Int.reduceMul, Int.reduceToNat, Int.reducePow, Int.one_mul, Int.reduceNeg, Int.reduceLT, Int.reduceLE, Int.zero_add, Int.add_zero, Int.reduceEq, Int.reduceMod, Int.reduceDiv, Int.reduceOfNat, Int.cast_ofNat_Int, e, hq, h, h8, hL, hG, hA]
    · have hA : L2.atI [Vl.int 64, .int 48, .int 36, .int 60, .int 32, .int 1, .int 2, .int 4] 3 = some (.int 60) := by kernel_rfl
      refine ⟨q, 60, hq0, by omega, by omega, ?_⟩
      simp (disch := omega) only [b_law_H0, SS, runF, seqC, bindC, asgC, tgN, tgT, tgsC, tgsN, opE, evs, varE, takE, frzE, cstE, retC, retNC, expC, ifC, passC, rsC, brkC, cntC, callE, srcE, andE, orE, ifE, seqE, notE, chainE, nt_non, nt_bl, nt_int, nt_str, nt_tup, nt_nil, nt_cons, so_non, so_bl, so_int, so_str, so_tup, so_nil, so_cons, no_non, no_bl, no_int, no_str, no_tup, no_nil, no_cons, nr_non, nr_bl, nr_int, nr_str, nr_tup, nr_nil, nr_cons, ao_non, ao_bl, ao_int, ao_str, ao_tup, ao_nil, ao_cons, pk_non, pk_bl, pk_int, pk_str, pk_tup, pk_nil, pk_cons, sf_non, sf_bl, sf_int, sf_str, sf_tup, sf_nil, sf_cons, ints_so, ints_nt, ints_no, ints_nr, ints_ao, ints_pk, ints_sf, ints_snoc, pk_nd, sf_nd, nt_nd, so_nd, no_nd, nr_nd, ao_nd, so_app, gLen_nd, gIx_nd, gLst_0, gLR1_ok, gLR2_ok, isi_lst, hSeq_nd, fp1, fp2, fp3, fb1, fb2, fb3, fb4, fb5, fb6, fb7, fb8, fb9, fb10, fb11, fb12, fb13, fb14, sf_enc, pk_own, pk_sh, pk_tr, nr_enc, ao_enc, so_own, so_sh, nt_own, nt_sh, no_sh, no_tr, no_own, nt_tr, gLen_enc, gIx_0, gIx_1, gLst_nil, hSeq_sh, hRng1_ok, hRng2_ok, gSub_ok, gAdd_ok, gNeg_ok, gMod_ok, gDiv_ok, gShl_ok, gShr_ok, gMul_r, gMul_l, gLt_ok, gLe_ok, gGt_ok, gGe_ok, gNot_ok, gTup_2, gTup_3, gMax2_ok, gMin2_ok, isi_int_int, isi_int_bool, isi_tup, isi_int_list, isi_list, gEq_int, gNe_int, List.getElem?_cons_zero, List.getElem?_cons_succ, List.set_cons_zero, List.set_cons_succ, List.length_cons, List.length_nil, List.map_cons, List.map_nil, List.cons_append, List.nil_append, List.replicate_zero, List.replicate_succ, decide_true, decide_false, Bool.and_true, Bool.true_and, Bool.and_false, Bool.false_and, Bool.or_true, Bool.true_or, Bool.or_false, Bool.false_or, Bool.not_true, Bool.not_false, if_true, if_false, ite_true, ite_false, reduceIte, List.contains_nil, List.contains_cons, Nat.reduceBEq, List.any_cons, List.any_nil, List.append_nil, Bool.false_eq_true, reduceCtorEq, Nat.reduceAdd, Nat.reduceLT, Nat.reduceLeDiff, Nat.zero_add, Int.reduceSub, Int.reduceAdd, Int.reduceMul, Int.reduceToNat, Int.reducePow, Int.one_mul, Int.reduceNeg, Int.reduceLT, Int.reduceLE, Int.zero_add, Int.add_zero, Int.reduceEq, Int.reduceMod, Int.reduceDiv, Int.reduceOfNat, Int.cast_ofNat_Int, e, hq, h, h8, hL, hG, hA]
    · have hA : L2.atI [Vl.int 64, .int 48, .int 36, .int 60, .int 32, .int 1, .int 2, .int 4] 4 = some (.int 32) := by kernel_rfl
      refine ⟨q, 32, hq0, by omega, by omega, ?_⟩
      simp (disch := omega) only [b_law_H0, SS, runF, seqC, bindC, asgC, tgN, tgT, tgsC, tgsN, opE, evs, varE, takE, frzE, cstE, retC, retNC, expC, ifC, passC, rsC, brkC, cntC, callE, srcE, andE, orE, ifE, seqE, notE, chainE, nt_non, nt_bl, nt_int, nt_str, nt_tup, nt_nil, nt_cons, so_non, so_bl, so_int, so_str, so_tup, so_nil, so_cons, no_non, no_bl, no_int, no_str, no_tup, no_nil, no_cons, nr_non, nr_bl, nr_int, nr_str, nr_tup, nr_nil, nr_cons, ao_non, ao_bl, ao_int, ao_str, ao_tup, ao_nil, ao_cons, pk_non, pk_bl, pk_int, pk_str, pk_tup, pk_nil, pk_cons, sf_non, sf_bl, sf_int, sf_str, sf_tup, sf_nil, sf_cons, ints_so, ints_nt, ints_no, ints_nr, ints_ao, ints_pk, ints_sf, ints_snoc, pk_nd, sf_nd, nt_nd, so_nd, no_nd, nr_nd, ao_nd, so_app, gLen_nd, gIx_nd, gLst_0, gLR1_ok, gLR2_ok, isi_lst, hSeq_nd, fp1, fp2, fp3, fb1, fb2, fb3, fb4, fb5, fb6, fb7, fb8, fb9, fb10, fb11, fb12, fb13, fb14, sf_enc, pk_own, pk_sh, pk_tr, nr_enc, ao_enc, so_own, so_sh, nt_own, nt_sh, no_sh, no_tr, no_own, nt_tr, gLen_enc, gIx_0, gIx_1, gLst_nil, hSeq_sh, hRng1_ok, hRng2_ok, gSub_ok, gAdd_ok, gNeg_ok, gMod_ok, gDiv_ok, gShl_ok, gShr_ok, gMul_r, gMul_l, gLt_ok, gLe_ok, gGt_ok, gGe_ok, gNot_ok, gTup_2, gTup_3, gMax2_ok, gMin2_ok, isi_int_int, isi_int_bool, isi_tup, isi_int_list, isi_list, gEq_int, gNe_int, List.getElem?_cons_zero, List.getElem?_cons_succ, List.set_cons_zero, List.set_cons_succ, List.length_cons, List.length_nil, List.map_cons, List.map_nil, List.cons_append, List.nil_append, List.replicate_zero, List.replicate_succ, decide_true, decide_false, Bool.and_true, Bool.true_and, Bool.and_false, Bool.false_and, Bool.or_true, Bool.true_or, Bool.or_false, Bool.false_or, Bool.not_true, Bool.not_false, if_true, if_false, ite_true, ite_false, reduceIte, List.contains_nil, List.contains_cons, Nat.reduceBEq, List.any_cons, List.any_nil, List.append_nil, Bool.false_eq_true, reduceCtorEq, Nat.reduceAdd, Nat.reduceLT, Nat.reduceLeDiff, Nat.zero_add, Int.reduceSub, Int.reduceAdd, Int.reduceMul, Int.reduceToNat, Int.reducePow, Int.one_mul, Int.reduceNeg, Int.reduceLT, Int.reduceLE, Int.zero_add, Int.add_zero, Int.reduceEq, Int.reduceMod, Int.reduceDiv, Int.reduceOfNat, Int.cast_ofNat_Int, e, hq, h, h8, hL, hG, hA]
    · have hA : L2.atI [Vl.int 64, .int 48, .int 36, .int 60, .int 32, .int 1, .int 2, .int 4] 5 = some (.int 1) := by kernel_rfl
      refine ⟨q, 1, hq0, by omega, by omega, ?_⟩
      simp (disch := omega) only [b_law_H0, SS, runF, seqC, bindC, asgC, tgN, tgT, tgsC, tgsN, opE, evs, varE, takE, frzE, cstE, retC, retNC, expC, ifC, passC, rsC, brkC, cntC, callE, srcE, andE, orE, ifE, seqE, notE, chainE, nt_non, nt_bl, nt_int, nt_str, nt_tup, nt_nil, nt_cons, so_non, so_bl, so_int, so_str, so_tup, so_nil, so_cons, no_non, no_bl, no_int, no_str, no_tup, no_nil, no_cons, nr_non, nr_bl, nr_int, nr_str, nr_tup, nr_nil, nr_cons, ao_non, ao_bl, ao_int, ao_str, ao_tup, ao_nil, ao_cons, pk_non, pk_bl, pk_int, pk_str, pk_tup, pk_nil, pk_cons, sf_non, sf_bl, sf_int, sf_str, sf_tup, sf_nil, sf_cons, ints_so, ints_nt, ints_no, ints_nr, ints_ao, ints_pk, ints_sf, ints_snoc, pk_nd, sf_nd, nt_nd, so_nd, no_nd, nr_nd, ao_nd, so_app, gLen_nd, gIx_nd, gLst_0, gLR1_ok, gLR2_ok, isi_lst, hSeq_nd, fp1, fp2, fp3, fb1, fb2, fb3, fb4, fb5, fb6, fb7, fb8, fb9, fb10, fb11, fb12, fb13, fb14, sf_enc, pk_own, pk_sh, pk_tr, nr_enc, ao_enc, so_own, so_sh, nt_own, nt_sh, no_sh, no_tr, no_own, nt_tr, gLen_enc, gIx_0, gIx_1, gLst_nil, hSeq_sh, hRng1_ok, hRng2_ok, gSub_ok, gAdd_ok, gNeg_ok, gMod_ok, gDiv_ok, gShl_ok, gShr_ok, gMul_r, gMul_l, gLt_ok, gLe_ok, gGt_ok, gGe_ok, gNot_ok, gTup_2, gTup_3, gMax2_ok, gMin2_ok, isi_int_int, isi_int_bool, isi_tup, isi_int_list, isi_list, gEq_int, gNe_int, List.getElem?_cons_zero, List.getElem?_cons_succ, List.set_cons_zero, List.set_cons_succ, List.length_cons, List.length_nil, List.map_cons, List.map_nil, List.cons_append, List.nil_append, List.replicate_zero, List.replicate_succ, decide_true, decide_false, Bool.and_true, Bool.true_and, Bool.and_false, Bool.false_and, Bool.or_true, Bool.true_or, Bool.or_false, Bool.false_or, Bool.not_true, Bool.not_false, if_true, if_false, ite_true, ite_false, reduceIte, List.contains_nil, List.contains_cons, Nat.reduceBEq, List.any_cons, List.any_nil, List.append_nil, Bool.false_eq_true, reduceCtorEq, Nat.reduceAdd, Nat.reduceLT, Nat.reduceLeDiff, Nat.zero_add, Int.reduceSub, Int.reduceAdd, Int.reduceMul, Int.reduceToNat, Int.reducePow, Int.one_mul, Int.reduceNeg, Int.reduceLT, Int.reduceLE, Int.zero_add, Int.add_zero, Int.reduceEq, Int.reduceMod, Int.reduceDiv, Int.reduceOfNat, Int.cast_ofNat_Int, e, hq, h, h8, hL, hG, hA]
    · have hA : L2.atI [Vl.int 64, .int 48, .int 36, .int 60, .int 32, .int 1, .int 2, .int 4] 6 = some (.int 2) := by kernel_rfl
      refine ⟨q, 2, hq0, by omega, by omega, ?_⟩
      simp (disch := omega) only [b_law_H0, SS, runF, seqC, bindC, asgC, tgN, tgT, tgsC, tgsN, opE, evs, varE, takE, frzE, cstE, retC, retNC, expC, ifC, passC, rsC, brkC, cntC, callE, srcE, andE, orE, ifE, seqE, notE, chainE, nt_non, nt_bl, nt_int, nt_str, nt_tup, nt_nil, nt_cons, so_non, so_bl, so_int, so_str, so_tup, so_nil, so_cons, no_non, no_bl, no_int, no_str, no_tup, no_nil, no_cons, nr_non, nr_bl, nr_int, nr_str, nr_tup, nr_nil, nr_cons, ao_non, ao_bl, ao_int, ao_str, ao_tup, ao_nil, ao_cons, pk_non, pk_bl, pk_int, pk_str, pk_tup, pk_nil, pk_cons, sf_non, sf_bl, sf_int, sf_str, sf_tup, sf_nil, sf_cons, ints_so, ints_nt, ints_no, ints_nr, ints_ao, ints_pk, ints_sf, ints_snoc, pk_nd, sf_nd, nt_nd, so_nd, no_nd, nr_nd, ao_nd, so_app, gLen_nd, gIx_nd, gLst_0, gLR1_ok, gLR2_ok, isi_lst, hSeq_nd, fp1, fp2, fp3, fb1, fb2, fb3, fb4, fb5, fb6, fb7, fb8, fb9, fb10, fb11, fb12, fb13, fb14, sf_enc, pk_own, pk_sh, pk_tr, nr_enc, ao_enc, so_own, so_sh, nt_own, nt_sh, no_sh, no_tr, no_own, nt_tr, gLen_enc, gIx_0, gIx_1, gLst_nil, hSeq_sh, hRng1_ok, hRng2_ok, gSub_ok, gAdd_ok, gNeg_ok, gMod_ok, gDiv_ok, gShl_ok, gShr_ok, gMul_r, gMul_l, gLt_ok, gLe_ok, gGt_ok, gGe_ok, gNot_ok, gTup_2, gTup_3, gMax2_ok, gMin2_ok, isi_int_int, isi_int_bool, isi_tup, isi_int_list, isi_list, gEq_int, gNe_int, List.getElem?_cons_zero, List.getElem?_cons_succ, List.set_cons_zero, List.set_cons_succ, List.length_cons, List.length_nil, List.map_cons, List.map_nil, List.cons_append, List.nil_append, List.replicate_zero, List.replicate_succ, decide_true, decide_false, Bool.and_true, Bool.true_and, Bool.and_false, Bool.false_and, Bool.or_true, Bool.true_or, Bool.or_false, Bool.false_or, Bool.not_true, Bool.not_false, if_true, if_false, ite_true, ite_false, reduceIte, List.contains_nil, List.contains_cons, Nat.reduceBEq, List.any_cons, List.any_nil, List.append_nil, Bool.false_eq_true, reduceCtorEq, Nat.reduceAdd, Nat.reduceLT, Nat.reduceLeDiff, Nat.zero_add, Int.reduceSub, Int.reduceAdd, Int.reduceMul, Int.reduceToNat, Int.reducePow, Int.one_mul, Int.reduceNeg, Int.reduceLT, Int.reduceLE, Int.zero_add, Int.add_zero, Int.reduceEq, Int.reduceMod, Int.reduceDiv, Int.reduceOfNat, Int.cast_ofNat_Int, e, hq, h, h8, hL, hG, hA]
    · have hA : L2.atI [Vl.int 64, .int 48, .int 36, .int 60, .int 32, .int 1, .int 2, .int 4] 7 = some (.int 4) := by kernel_rfl
      refine ⟨q, 4, hq0, by omega, by omega, ?_⟩
      simp (disch := omega) only [b_law_H0, SS, runF, seqC, bindC, asgC, tgN, tgT, tgsC, tgsN, opE, evs, varE, takE, frzE, cstE, retC, retNC, expC, ifC, passC, rsC, brkC, cntC, callE, srcE, andE, orE, ifE, seqE, notE, chainE, nt_non, nt_bl, nt_int, nt_str, nt_tup, nt_nil, nt_cons, so_non, so_bl, so_int, so_str, so_tup, so_nil, so_cons, no_non, no_bl, no_int, no_str, no_tup, no_nil, no_cons, nr_non, nr_bl, nr_int, nr_str, nr_tup, nr_nil, nr_cons, ao_non, ao_bl, ao_int, ao_str, ao_tup, ao_nil, ao_cons, pk_non, pk_bl, pk_int, pk_str, pk_tup, pk_nil, pk_cons, sf_non, sf_bl, sf_int, sf_str, sf_tup, sf_nil, sf_cons, ints_so, ints_nt, ints_no, ints_nr, ints_ao, ints_pk, ints_sf, ints_snoc, pk_nd, sf_nd, nt_nd, so_nd, no_nd, nr_nd, ao_nd, so_app, gLen_nd, gIx_nd, gLst_0, gLR1_ok, gLR2_ok, isi_lst, hSeq_nd, fp1, fp2, fp3, fb1, fb2, fb3, fb4, fb5, fb6, fb7, fb8, fb9, fb10, fb11, fb12, fb13, fb14, sf_enc, pk_own, pk_sh, pk_tr, nr_enc, ao_enc, so_own, so_sh, nt_own, nt_sh, no_sh, no_tr, no_own, nt_tr, gLen_enc, gIx_0, gIx_1, gLst_nil, hSeq_sh, hRng1_ok, hRng2_ok, gSub_ok, gAdd_ok, gNeg_ok, gMod_ok, gDiv_ok, gShl_ok, gShr_ok, gMul_r, gMul_l, gLt_ok, gLe_ok, gGt_ok, gGe_ok, gNot_ok, gTup_2, gTup_3, gMax2_ok, gMin2_ok, isi_int_int, isi_int_bool, isi_tup, isi_int_list, isi_list, gEq_int, gNe_int, List.getElem?_cons_zero, List.getElem?_cons_succ, List.set_cons_zero, List.set_cons_succ, List.length_cons, List.length_nil, List.map_cons, List.map_nil, List.cons_append, List.nil_append, List.replicate_zero, List.replicate_succ, decide_true, decide_false, Bool.and_true, Bool.true_and, Bool.and_false, Bool.false_and, Bool.or_true, Bool.true_or, Bool.or_false, Bool.false_or, Bool.not_true, Bool.not_false, if_true, if_false, ite_true, ite_false, reduceIte, List.contains_nil, List.contains_cons, Nat.reduceBEq, List.any_cons, List.any_nil, List.append_nil, Bool.false_eq_true, reduceCtorEq, Nat.reduceAdd, Nat.reduceLT, Nat.reduceLeDiff, Nat.zero_add, Int.reduceSub, Int.reduceAdd, Int.reduceMul, Int.reduceToNat, Int.reducePow, Int.one_mul, Int.reduceNeg, Int.reduceLT, Int.reduceLE, Int.zero_add, Int.add_zero, Int.reduceEq, Int.reduceMod, Int.reduceDiv, Int.reduceOfNat, Int.cast_ofNat_Int, e, hq, h, h8, hL, hG, hA]
  · have hd : decide (q / 64 % 4 = 0) = false := decide_eq_false h
    refine ⟨q, 1 + q % 64, hq0, by omega, by omega, ?_⟩
    simp (disch := omega) only [b_law_H0, SS, runF, seqC, bindC, asgC, tgN, tgT, tgsC, tgsN, opE, evs, varE, takE, frzE, cstE, retC, retNC, expC, ifC, passC, rsC, brkC, cntC, callE, srcE, andE, orE, ifE, seqE, notE, chainE, nt_non, nt_bl, nt_int, nt_str, nt_tup, nt_nil, nt_cons, so_non, so_bl, so_int, so_str, so_tup, so_nil, so_cons, no_non, no_bl, no_int, no_str, no_tup, no_nil, no_cons, nr_non, nr_bl, nr_int, nr_str, nr_tup, nr_nil, nr_cons, ao_non, ao_bl, ao_int, ao_str, ao_tup, ao_nil, ao_cons, pk_non, pk_bl, pk_int, pk_str, pk_tup, pk_nil, pk_cons, sf_non, sf_bl, sf_int, sf_str, sf_tup, sf_nil, sf_cons, ints_so, ints_nt, ints_no, ints_nr, ints_ao, ints_pk, ints_sf, ints_snoc, pk_nd, sf_nd, nt_nd, so_nd, no_nd, nr_nd, ao_nd, so_app, gLen_nd, gIx_nd, gLst_0, gLR1_ok, gLR2_ok, isi_lst, hSeq_nd, fp1, fp2, fp3, fb1, fb2, fb3, fb4, fb5, fb6, fb7, fb8, fb9, fb10, fb11, fb12, fb13, fb14, sf_enc, pk_own, pk_sh, pk_tr, nr_enc, ao_enc, so_own, so_sh, nt_own, nt_sh, no_sh, no_tr, no_own, nt_tr, gLen_enc, gIx_0, gIx_1, gLst_nil, hSeq_sh, hRng1_ok, hRng2_ok, gSub_ok, gAdd_ok, gNeg_ok, gMod_ok, gDiv_ok, gShl_ok, gShr_ok, gMul_r, gMul_l, gLt_ok, gLe_ok, gGt_ok, gGe_ok, gNot_ok, gTup_2, gTup_3, gMax2_ok, gMin2_ok, isi_int_int, isi_int_bool, isi_tup, isi_int_list, isi_list, gEq_int, gNe_int, List.getElem?_cons_zero, List.getElem?_cons_succ, List.set_cons_zero, List.set_cons_succ, List.length_cons, List.length_nil, List.map_cons, List.map_nil, List.cons_append, List.nil_append, List.replicate_zero, List.replicate_succ, decide_true, decide_false, Bool.and_true, Bool.true_and, Bool.and_false, Bool.false_and, Bool.or_true, Bool.true_or, Bool.or_false, Bool.false_or, Bool.not_true, Bool.not_false, if_true, if_false, ite_true, ite_false, reduceIte, List.contains_nil, List.contains_cons, Nat.reduceBEq, List.any_cons, List.any_nil, List.append_nil, Bool.false_eq_true, reduceCtorEq, Nat.reduceAdd, Nat.reduceLT, Nat.reduceLeDiff, Nat.zero_add, Int.reduceSub, Int.reduceAdd, Int.reduceMul, Int.reduceToNat, Int.reducePow, Int.one_mul, Int.reduceNeg, Int.reduceLT, Int.reduceLE, Int.zero_add, Int.add_zero, Int.reduceEq, Int.reduceMod, Int.reduceDiv, Int.reduceOfNat, Int.cast_ofNat_Int, e, hq, hd]
def at1 (j : Int) (i : Nat) : Option Vl := (stOf (b_law_H1 ⟨[none, none, none, none, none, some (.int j), none, none, none, none, none, none], [], []⟩)).sl.getD i none
def planV (j : Int) : Vl := match F_plans_for [.int j] with | .ok v => v | _ => .non
def dueL (j : Int) : List Vl := match at1 j 6 with | some (.nd _ _ w) => w | _ => []
structure DJ (j : Int) : Prop where
  p : F_plans_for [.int j] = .ok (planV j)
  d : at1 j 6 = some (.nd .own .lst (dueL j))
  n : gNe [planV j, .nd .tr .lst (peeks (dueL j))] = some (.bl false)
  o : allOwn (planV j) = true
  t : noTr (planV j) = true
theorem head1_1 (a : Option Vl) (s : Vl) (p c : Int) (m d f cs th : Option Vl) : b_law_H1 (SS a s p c m (some (.int 1)) d f cs th) = .nx (SS a s p c m (some (.int 1)) (at1 1 6) (at1 1 7) (at1 1 8) th) := by kernel_rfl
theorem dj_1 : DJ 1 := ⟨by kernel_rfl, by kernel_rfl, by kernel_rfl, by kernel_rfl, by kernel_rfl⟩
theorem head1_2 (a : Option Vl) (s : Vl) (p c : Int) (m d f cs th : Option Vl) : b_law_H1 (SS a s p c m (some (.int 2)) d f cs th) = .nx (SS a s p c m (some (.int 2)) (at1 2 6) (at1 2 7) (at1 2 8) th) := by kernel_rfl
theorem dj_2 : DJ 2 := ⟨by kernel_rfl, by kernel_rfl, by kernel_rfl, by kernel_rfl, by kernel_rfl⟩
theorem head1_3 (a : Option Vl) (s : Vl) (p c : Int) (m d f cs th : Option Vl) : b_law_H1 (SS a s p c m (some (.int 3)) d f cs th) = .nx (SS a s p c m (some (.int 3)) (at1 3 6) (at1 3 7) (at1 3 8) th) := by kernel_rfl
theorem dj_3 : DJ 3 := ⟨by kernel_rfl, by kernel_rfl, by kernel_rfl, by kernel_rfl, by kernel_rfl⟩
theorem head1_4 (a : Option Vl) (s : Vl) (p c : Int) (m d f cs th : Option Vl) : b_law_H1 (SS a s p c m (some (.int 4)) d f cs th) = .nx (SS a s p c m (some (.int 4)) (at1 4 6) (at1 4 7) (at1 4 8) th) := by kernel_rfl
theorem dj_4 : DJ 4 := ⟨by kernel_rfl, by kernel_rfl, by kernel_rfl, by kernel_rfl, by kernel_rfl⟩
theorem head1_5 (a : Option Vl) (s : Vl) (p c : Int) (m d f cs th : Option Vl) : b_law_H1 (SS a s p c m (some (.int 5)) d f cs th) = .nx (SS a s p c m (some (.int 5)) (at1 5 6) (at1 5 7) (at1 5 8) th) := by kernel_rfl
theorem dj_5 : DJ 5 := ⟨by kernel_rfl, by kernel_rfl, by kernel_rfl, by kernel_rfl, by kernel_rfl⟩
theorem head1_6 (a : Option Vl) (s : Vl) (p c : Int) (m d f cs th : Option Vl) : b_law_H1 (SS a s p c m (some (.int 6)) d f cs th) = .nx (SS a s p c m (some (.int 6)) (at1 6 6) (at1 6 7) (at1 6 8) th) := by kernel_rfl
theorem dj_6 : DJ 6 := ⟨by kernel_rfl, by kernel_rfl, by kernel_rfl, by kernel_rfl, by kernel_rfl⟩
theorem head1_7 (a : Option Vl) (s : Vl) (p c : Int) (m d f cs th : Option Vl) : b_law_H1 (SS a s p c m (some (.int 7)) d f cs th) = .nx (SS a s p c m (some (.int 7)) (at1 7 6) (at1 7 7) (at1 7 8) th) := by kernel_rfl
theorem dj_7 : DJ 7 := ⟨by kernel_rfl, by kernel_rfl, by kernel_rfl, by kernel_rfl, by kernel_rfl⟩
theorem head1_8 (a : Option Vl) (s : Vl) (p c : Int) (m d f cs th : Option Vl) : b_law_H1 (SS a s p c m (some (.int 8)) d f cs th) = .nx (SS a s p c m (some (.int 8)) (at1 8 6) (at1 8 7) (at1 8 8) th) := by kernel_rfl
theorem dj_8 : DJ 8 := ⟨by kernel_rfl, by kernel_rfl, by kernel_rfl, by kernel_rfl, by kernel_rfl⟩
theorem head1_9 (a : Option Vl) (s : Vl) (p c : Int) (m d f cs th : Option Vl) : b_law_H1 (SS a s p c m (some (.int 9)) d f cs th) = .nx (SS a s p c m (some (.int 9)) (at1 9 6) (at1 9 7) (at1 9 8) th) := by kernel_rfl
theorem dj_9 : DJ 9 := ⟨by kernel_rfl, by kernel_rfl, by kernel_rfl, by kernel_rfl, by kernel_rfl⟩
theorem head1_10 (a : Option Vl) (s : Vl) (p c : Int) (m d f cs th : Option Vl) : b_law_H1 (SS a s p c m (some (.int 10)) d f cs th) = .nx (SS a s p c m (some (.int 10)) (at1 10 6) (at1 10 7) (at1 10 8) th) := by kernel_rfl
theorem dj_10 : DJ 10 := ⟨by kernel_rfl, by kernel_rfl, by kernel_rfl, by kernel_rfl, by kernel_rfl⟩
theorem head1_11 (a : Option Vl) (s : Vl) (p c : Int) (m d f cs th : Option Vl) : b_law_H1 (SS a s p c m (some (.int 11)) d f cs th) = .nx (SS a s p c m (some (.int 11)) (at1 11 6) (at1 11 7) (at1 11 8) th) := by kernel_rfl
theorem dj_11 : DJ 11 := ⟨by kernel_rfl, by kernel_rfl, by kernel_rfl, by kernel_rfl, by kernel_rfl⟩
theorem head1_12 (a : Option Vl) (s : Vl) (p c : Int) (m d f cs th : Option Vl) : b_law_H1 (SS a s p c m (some (.int 12)) d f cs th) = .nx (SS a s p c m (some (.int 12)) (at1 12 6) (at1 12 7) (at1 12 8) th) := by kernel_rfl
theorem dj_12 : DJ 12 := ⟨by kernel_rfl, by kernel_rfl, by kernel_rfl, by kernel_rfl, by kernel_rfl⟩
theorem head1_13 (a : Option Vl) (s : Vl) (p c : Int) (m d f cs th : Option Vl) : b_law_H1 (SS a s p c m (some (.int 13)) d f cs th) = .nx (SS a s p c m (some (.int 13)) (at1 13 6) (at1 13 7) (at1 13 8) th) := by kernel_rfl
theorem dj_13 : DJ 13 := ⟨by kernel_rfl, by kernel_rfl, by kernel_rfl, by kernel_rfl, by kernel_rfl⟩
theorem head1_14 (a : Option Vl) (s : Vl) (p c : Int) (m d f cs th : Option Vl) : b_law_H1 (SS a s p c m (some (.int 14)) d f cs th) = .nx (SS a s p c m (some (.int 14)) (at1 14 6) (at1 14 7) (at1 14 8) th) := by kernel_rfl
theorem dj_14 : DJ 14 := ⟨by kernel_rfl, by kernel_rfl, by kernel_rfl, by kernel_rfl, by kernel_rfl⟩
theorem head1_15 (a : Option Vl) (s : Vl) (p c : Int) (m d f cs th : Option Vl) : b_law_H1 (SS a s p c m (some (.int 15)) d f cs th) = .nx (SS a s p c m (some (.int 15)) (at1 15 6) (at1 15 7) (at1 15 8) th) := by kernel_rfl
theorem dj_15 : DJ 15 := ⟨by kernel_rfl, by kernel_rfl, by kernel_rfl, by kernel_rfl, by kernel_rfl⟩
theorem head1_16 (a : Option Vl) (s : Vl) (p c : Int) (m d f cs th : Option Vl) : b_law_H1 (SS a s p c m (some (.int 16)) d f cs th) = .nx (SS a s p c m (some (.int 16)) (at1 16 6) (at1 16 7) (at1 16 8) th) := by kernel_rfl
theorem dj_16 : DJ 16 := ⟨by kernel_rfl, by kernel_rfl, by kernel_rfl, by kernel_rfl, by kernel_rfl⟩
theorem head1_17 (a : Option Vl) (s : Vl) (p c : Int) (m d f cs th : Option Vl) : b_law_H1 (SS a s p c m (some (.int 17)) d f cs th) = .nx (SS a s p c m (some (.int 17)) (at1 17 6) (at1 17 7) (at1 17 8) th) := by kernel_rfl
theorem dj_17 : DJ 17 := ⟨by kernel_rfl, by kernel_rfl, by kernel_rfl, by kernel_rfl, by kernel_rfl⟩
theorem head1_18 (a : Option Vl) (s : Vl) (p c : Int) (m d f cs th : Option Vl) : b_law_H1 (SS a s p c m (some (.int 18)) d f cs th) = .nx (SS a s p c m (some (.int 18)) (at1 18 6) (at1 18 7) (at1 18 8) th) := by kernel_rfl
theorem dj_18 : DJ 18 := ⟨by kernel_rfl, by kernel_rfl, by kernel_rfl, by kernel_rfl, by kernel_rfl⟩
theorem head1_19 (a : Option Vl) (s : Vl) (p c : Int) (m d f cs th : Option Vl) : b_law_H1 (SS a s p c m (some (.int 19)) d f cs th) = .nx (SS a s p c m (some (.int 19)) (at1 19 6) (at1 19 7) (at1 19 8) th) := by kernel_rfl
theorem dj_19 : DJ 19 := ⟨by kernel_rfl, by kernel_rfl, by kernel_rfl, by kernel_rfl, by kernel_rfl⟩
theorem head1_20 (a : Option Vl) (s : Vl) (p c : Int) (m d f cs th : Option Vl) : b_law_H1 (SS a s p c m (some (.int 20)) d f cs th) = .nx (SS a s p c m (some (.int 20)) (at1 20 6) (at1 20 7) (at1 20 8) th) := by kernel_rfl
theorem dj_20 : DJ 20 := ⟨by kernel_rfl, by kernel_rfl, by kernel_rfl, by kernel_rfl, by kernel_rfl⟩
theorem head1_21 (a : Option Vl) (s : Vl) (p c : Int) (m d f cs th : Option Vl) : b_law_H1 (SS a s p c m (some (.int 21)) d f cs th) = .nx (SS a s p c m (some (.int 21)) (at1 21 6) (at1 21 7) (at1 21 8) th) := by kernel_rfl
theorem dj_21 : DJ 21 := ⟨by kernel_rfl, by kernel_rfl, by kernel_rfl, by kernel_rfl, by kernel_rfl⟩
theorem head1_22 (a : Option Vl) (s : Vl) (p c : Int) (m d f cs th : Option Vl) : b_law_H1 (SS a s p c m (some (.int 22)) d f cs th) = .nx (SS a s p c m (some (.int 22)) (at1 22 6) (at1 22 7) (at1 22 8) th) := by kernel_rfl
theorem dj_22 : DJ 22 := ⟨by kernel_rfl, by kernel_rfl, by kernel_rfl, by kernel_rfl, by kernel_rfl⟩
theorem head1_23 (a : Option Vl) (s : Vl) (p c : Int) (m d f cs th : Option Vl) : b_law_H1 (SS a s p c m (some (.int 23)) d f cs th) = .nx (SS a s p c m (some (.int 23)) (at1 23 6) (at1 23 7) (at1 23 8) th) := by kernel_rfl
theorem dj_23 : DJ 23 := ⟨by kernel_rfl, by kernel_rfl, by kernel_rfl, by kernel_rfl, by kernel_rfl⟩
theorem head1_24 (a : Option Vl) (s : Vl) (p c : Int) (m d f cs th : Option Vl) : b_law_H1 (SS a s p c m (some (.int 24)) d f cs th) = .nx (SS a s p c m (some (.int 24)) (at1 24 6) (at1 24 7) (at1 24 8) th) := by kernel_rfl
theorem dj_24 : DJ 24 := ⟨by kernel_rfl, by kernel_rfl, by kernel_rfl, by kernel_rfl, by kernel_rfl⟩
theorem head1_25 (a : Option Vl) (s : Vl) (p c : Int) (m d f cs th : Option Vl) : b_law_H1 (SS a s p c m (some (.int 25)) d f cs th) = .nx (SS a s p c m (some (.int 25)) (at1 25 6) (at1 25 7) (at1 25 8) th) := by kernel_rfl
theorem dj_25 : DJ 25 := ⟨by kernel_rfl, by kernel_rfl, by kernel_rfl, by kernel_rfl, by kernel_rfl⟩
theorem head1_26 (a : Option Vl) (s : Vl) (p c : Int) (m d f cs th : Option Vl) : b_law_H1 (SS a s p c m (some (.int 26)) d f cs th) = .nx (SS a s p c m (some (.int 26)) (at1 26 6) (at1 26 7) (at1 26 8) th) := by kernel_rfl
theorem dj_26 : DJ 26 := ⟨by kernel_rfl, by kernel_rfl, by kernel_rfl, by kernel_rfl, by kernel_rfl⟩
theorem head1_27 (a : Option Vl) (s : Vl) (p c : Int) (m d f cs th : Option Vl) : b_law_H1 (SS a s p c m (some (.int 27)) d f cs th) = .nx (SS a s p c m (some (.int 27)) (at1 27 6) (at1 27 7) (at1 27 8) th) := by kernel_rfl
theorem dj_27 : DJ 27 := ⟨by kernel_rfl, by kernel_rfl, by kernel_rfl, by kernel_rfl, by kernel_rfl⟩
theorem head1_28 (a : Option Vl) (s : Vl) (p c : Int) (m d f cs th : Option Vl) : b_law_H1 (SS a s p c m (some (.int 28)) d f cs th) = .nx (SS a s p c m (some (.int 28)) (at1 28 6) (at1 28 7) (at1 28 8) th) := by kernel_rfl
theorem dj_28 : DJ 28 := ⟨by kernel_rfl, by kernel_rfl, by kernel_rfl, by kernel_rfl, by kernel_rfl⟩
theorem head1_29 (a : Option Vl) (s : Vl) (p c : Int) (m d f cs th : Option Vl) : b_law_H1 (SS a s p c m (some (.int 29)) d f cs th) = .nx (SS a s p c m (some (.int 29)) (at1 29 6) (at1 29 7) (at1 29 8) th) := by kernel_rfl
theorem dj_29 : DJ 29 := ⟨by kernel_rfl, by kernel_rfl, by kernel_rfl, by kernel_rfl, by kernel_rfl⟩
theorem head1_30 (a : Option Vl) (s : Vl) (p c : Int) (m d f cs th : Option Vl) : b_law_H1 (SS a s p c m (some (.int 30)) d f cs th) = .nx (SS a s p c m (some (.int 30)) (at1 30 6) (at1 30 7) (at1 30 8) th) := by kernel_rfl
theorem dj_30 : DJ 30 := ⟨by kernel_rfl, by kernel_rfl, by kernel_rfl, by kernel_rfl, by kernel_rfl⟩
theorem head1_31 (a : Option Vl) (s : Vl) (p c : Int) (m d f cs th : Option Vl) : b_law_H1 (SS a s p c m (some (.int 31)) d f cs th) = .nx (SS a s p c m (some (.int 31)) (at1 31 6) (at1 31 7) (at1 31 8) th) := by kernel_rfl
theorem dj_31 : DJ 31 := ⟨by kernel_rfl, by kernel_rfl, by kernel_rfl, by kernel_rfl, by kernel_rfl⟩
theorem head1_32 (a : Option Vl) (s : Vl) (p c : Int) (m d f cs th : Option Vl) : b_law_H1 (SS a s p c m (some (.int 32)) d f cs th) = .nx (SS a s p c m (some (.int 32)) (at1 32 6) (at1 32 7) (at1 32 8) th) := by kernel_rfl
theorem dj_32 : DJ 32 := ⟨by kernel_rfl, by kernel_rfl, by kernel_rfl, by kernel_rfl, by kernel_rfl⟩
theorem head1_33 (a : Option Vl) (s : Vl) (p c : Int) (m d f cs th : Option Vl) : b_law_H1 (SS a s p c m (some (.int 33)) d f cs th) = .nx (SS a s p c m (some (.int 33)) (at1 33 6) (at1 33 7) (at1 33 8) th) := by kernel_rfl
theorem dj_33 : DJ 33 := ⟨by kernel_rfl, by kernel_rfl, by kernel_rfl, by kernel_rfl, by kernel_rfl⟩
theorem head1_34 (a : Option Vl) (s : Vl) (p c : Int) (m d f cs th : Option Vl) : b_law_H1 (SS a s p c m (some (.int 34)) d f cs th) = .nx (SS a s p c m (some (.int 34)) (at1 34 6) (at1 34 7) (at1 34 8) th) := by kernel_rfl
theorem dj_34 : DJ 34 := ⟨by kernel_rfl, by kernel_rfl, by kernel_rfl, by kernel_rfl, by kernel_rfl⟩
theorem head1_35 (a : Option Vl) (s : Vl) (p c : Int) (m d f cs th : Option Vl) : b_law_H1 (SS a s p c m (some (.int 35)) d f cs th) = .nx (SS a s p c m (some (.int 35)) (at1 35 6) (at1 35 7) (at1 35 8) th) := by kernel_rfl
theorem dj_35 : DJ 35 := ⟨by kernel_rfl, by kernel_rfl, by kernel_rfl, by kernel_rfl, by kernel_rfl⟩
theorem head1_36 (a : Option Vl) (s : Vl) (p c : Int) (m d f cs th : Option Vl) : b_law_H1 (SS a s p c m (some (.int 36)) d f cs th) = .nx (SS a s p c m (some (.int 36)) (at1 36 6) (at1 36 7) (at1 36 8) th) := by kernel_rfl
theorem dj_36 : DJ 36 := ⟨by kernel_rfl, by kernel_rfl, by kernel_rfl, by kernel_rfl, by kernel_rfl⟩
theorem head1_37 (a : Option Vl) (s : Vl) (p c : Int) (m d f cs th : Option Vl) : b_law_H1 (SS a s p c m (some (.int 37)) d f cs th) = .nx (SS a s p c m (some (.int 37)) (at1 37 6) (at1 37 7) (at1 37 8) th) := by kernel_rfl
theorem dj_37 : DJ 37 := ⟨by kernel_rfl, by kernel_rfl, by kernel_rfl, by kernel_rfl, by kernel_rfl⟩
theorem head1_38 (a : Option Vl) (s : Vl) (p c : Int) (m d f cs th : Option Vl) : b_law_H1 (SS a s p c m (some (.int 38)) d f cs th) = .nx (SS a s p c m (some (.int 38)) (at1 38 6) (at1 38 7) (at1 38 8) th) := by kernel_rfl
theorem dj_38 : DJ 38 := ⟨by kernel_rfl, by kernel_rfl, by kernel_rfl, by kernel_rfl, by kernel_rfl⟩
theorem head1_39 (a : Option Vl) (s : Vl) (p c : Int) (m d f cs th : Option Vl) : b_law_H1 (SS a s p c m (some (.int 39)) d f cs th) = .nx (SS a s p c m (some (.int 39)) (at1 39 6) (at1 39 7) (at1 39 8) th) := by kernel_rfl
theorem dj_39 : DJ 39 := ⟨by kernel_rfl, by kernel_rfl, by kernel_rfl, by kernel_rfl, by kernel_rfl⟩
theorem head1_40 (a : Option Vl) (s : Vl) (p c : Int) (m d f cs th : Option Vl) : b_law_H1 (SS a s p c m (some (.int 40)) d f cs th) = .nx (SS a s p c m (some (.int 40)) (at1 40 6) (at1 40 7) (at1 40 8) th) := by kernel_rfl
theorem dj_40 : DJ 40 := ⟨by kernel_rfl, by kernel_rfl, by kernel_rfl, by kernel_rfl, by kernel_rfl⟩
theorem head1_41 (a : Option Vl) (s : Vl) (p c : Int) (m d f cs th : Option Vl) : b_law_H1 (SS a s p c m (some (.int 41)) d f cs th) = .nx (SS a s p c m (some (.int 41)) (at1 41 6) (at1 41 7) (at1 41 8) th) := by kernel_rfl
theorem dj_41 : DJ 41 := ⟨by kernel_rfl, by kernel_rfl, by kernel_rfl, by kernel_rfl, by kernel_rfl⟩
theorem head1_42 (a : Option Vl) (s : Vl) (p c : Int) (m d f cs th : Option Vl) : b_law_H1 (SS a s p c m (some (.int 42)) d f cs th) = .nx (SS a s p c m (some (.int 42)) (at1 42 6) (at1 42 7) (at1 42 8) th) := by kernel_rfl
theorem dj_42 : DJ 42 := ⟨by kernel_rfl, by kernel_rfl, by kernel_rfl, by kernel_rfl, by kernel_rfl⟩
theorem head1_43 (a : Option Vl) (s : Vl) (p c : Int) (m d f cs th : Option Vl) : b_law_H1 (SS a s p c m (some (.int 43)) d f cs th) = .nx (SS a s p c m (some (.int 43)) (at1 43 6) (at1 43 7) (at1 43 8) th) := by kernel_rfl
theorem dj_43 : DJ 43 := ⟨by kernel_rfl, by kernel_rfl, by kernel_rfl, by kernel_rfl, by kernel_rfl⟩
theorem head1_44 (a : Option Vl) (s : Vl) (p c : Int) (m d f cs th : Option Vl) : b_law_H1 (SS a s p c m (some (.int 44)) d f cs th) = .nx (SS a s p c m (some (.int 44)) (at1 44 6) (at1 44 7) (at1 44 8) th) := by kernel_rfl
theorem dj_44 : DJ 44 := ⟨by kernel_rfl, by kernel_rfl, by kernel_rfl, by kernel_rfl, by kernel_rfl⟩
theorem head1_45 (a : Option Vl) (s : Vl) (p c : Int) (m d f cs th : Option Vl) : b_law_H1 (SS a s p c m (some (.int 45)) d f cs th) = .nx (SS a s p c m (some (.int 45)) (at1 45 6) (at1 45 7) (at1 45 8) th) := by kernel_rfl
theorem dj_45 : DJ 45 := ⟨by kernel_rfl, by kernel_rfl, by kernel_rfl, by kernel_rfl, by kernel_rfl⟩
theorem head1_46 (a : Option Vl) (s : Vl) (p c : Int) (m d f cs th : Option Vl) : b_law_H1 (SS a s p c m (some (.int 46)) d f cs th) = .nx (SS a s p c m (some (.int 46)) (at1 46 6) (at1 46 7) (at1 46 8) th) := by kernel_rfl
theorem dj_46 : DJ 46 := ⟨by kernel_rfl, by kernel_rfl, by kernel_rfl, by kernel_rfl, by kernel_rfl⟩
theorem head1_47 (a : Option Vl) (s : Vl) (p c : Int) (m d f cs th : Option Vl) : b_law_H1 (SS a s p c m (some (.int 47)) d f cs th) = .nx (SS a s p c m (some (.int 47)) (at1 47 6) (at1 47 7) (at1 47 8) th) := by kernel_rfl
theorem dj_47 : DJ 47 := ⟨by kernel_rfl, by kernel_rfl, by kernel_rfl, by kernel_rfl, by kernel_rfl⟩
theorem head1_48 (a : Option Vl) (s : Vl) (p c : Int) (m d f cs th : Option Vl) : b_law_H1 (SS a s p c m (some (.int 48)) d f cs th) = .nx (SS a s p c m (some (.int 48)) (at1 48 6) (at1 48 7) (at1 48 8) th) := by kernel_rfl
theorem dj_48 : DJ 48 := ⟨by kernel_rfl, by kernel_rfl, by kernel_rfl, by kernel_rfl, by kernel_rfl⟩
theorem head1_49 (a : Option Vl) (s : Vl) (p c : Int) (m d f cs th : Option Vl) : b_law_H1 (SS a s p c m (some (.int 49)) d f cs th) = .nx (SS a s p c m (some (.int 49)) (at1 49 6) (at1 49 7) (at1 49 8) th) := by kernel_rfl
theorem dj_49 : DJ 49 := ⟨by kernel_rfl, by kernel_rfl, by kernel_rfl, by kernel_rfl, by kernel_rfl⟩
theorem head1_50 (a : Option Vl) (s : Vl) (p c : Int) (m d f cs th : Option Vl) : b_law_H1 (SS a s p c m (some (.int 50)) d f cs th) = .nx (SS a s p c m (some (.int 50)) (at1 50 6) (at1 50 7) (at1 50 8) th) := by kernel_rfl
theorem dj_50 : DJ 50 := ⟨by kernel_rfl, by kernel_rfl, by kernel_rfl, by kernel_rfl, by kernel_rfl⟩
theorem head1_51 (a : Option Vl) (s : Vl) (p c : Int) (m d f cs th : Option Vl) : b_law_H1 (SS a s p c m (some (.int 51)) d f cs th) = .nx (SS a s p c m (some (.int 51)) (at1 51 6) (at1 51 7) (at1 51 8) th) := by kernel_rfl
theorem dj_51 : DJ 51 := ⟨by kernel_rfl, by kernel_rfl, by kernel_rfl, by kernel_rfl, by kernel_rfl⟩
theorem head1_52 (a : Option Vl) (s : Vl) (p c : Int) (m d f cs th : Option Vl) : b_law_H1 (SS a s p c m (some (.int 52)) d f cs th) = .nx (SS a s p c m (some (.int 52)) (at1 52 6) (at1 52 7) (at1 52 8) th) := by kernel_rfl
theorem dj_52 : DJ 52 := ⟨by kernel_rfl, by kernel_rfl, by kernel_rfl, by kernel_rfl, by kernel_rfl⟩
theorem head1_53 (a : Option Vl) (s : Vl) (p c : Int) (m d f cs th : Option Vl) : b_law_H1 (SS a s p c m (some (.int 53)) d f cs th) = .nx (SS a s p c m (some (.int 53)) (at1 53 6) (at1 53 7) (at1 53 8) th) := by kernel_rfl
theorem dj_53 : DJ 53 := ⟨by kernel_rfl, by kernel_rfl, by kernel_rfl, by kernel_rfl, by kernel_rfl⟩
theorem head1_54 (a : Option Vl) (s : Vl) (p c : Int) (m d f cs th : Option Vl) : b_law_H1 (SS a s p c m (some (.int 54)) d f cs th) = .nx (SS a s p c m (some (.int 54)) (at1 54 6) (at1 54 7) (at1 54 8) th) := by kernel_rfl
theorem dj_54 : DJ 54 := ⟨by kernel_rfl, by kernel_rfl, by kernel_rfl, by kernel_rfl, by kernel_rfl⟩
theorem head1_55 (a : Option Vl) (s : Vl) (p c : Int) (m d f cs th : Option Vl) : b_law_H1 (SS a s p c m (some (.int 55)) d f cs th) = .nx (SS a s p c m (some (.int 55)) (at1 55 6) (at1 55 7) (at1 55 8) th) := by kernel_rfl
theorem dj_55 : DJ 55 := ⟨by kernel_rfl, by kernel_rfl, by kernel_rfl, by kernel_rfl, by kernel_rfl⟩
theorem head1_56 (a : Option Vl) (s : Vl) (p c : Int) (m d f cs th : Option Vl) : b_law_H1 (SS a s p c m (some (.int 56)) d f cs th) = .nx (SS a s p c m (some (.int 56)) (at1 56 6) (at1 56 7) (at1 56 8) th) := by kernel_rfl
theorem dj_56 : DJ 56 := ⟨by kernel_rfl, by kernel_rfl, by kernel_rfl, by kernel_rfl, by kernel_rfl⟩
theorem head1_57 (a : Option Vl) (s : Vl) (p c : Int) (m d f cs th : Option Vl) : b_law_H1 (SS a s p c m (some (.int 57)) d f cs th) = .nx (SS a s p c m (some (.int 57)) (at1 57 6) (at1 57 7) (at1 57 8) th) := by kernel_rfl
theorem dj_57 : DJ 57 := ⟨by kernel_rfl, by kernel_rfl, by kernel_rfl, by kernel_rfl, by kernel_rfl⟩
theorem head1_58 (a : Option Vl) (s : Vl) (p c : Int) (m d f cs th : Option Vl) : b_law_H1 (SS a s p c m (some (.int 58)) d f cs th) = .nx (SS a s p c m (some (.int 58)) (at1 58 6) (at1 58 7) (at1 58 8) th) := by kernel_rfl
theorem dj_58 : DJ 58 := ⟨by kernel_rfl, by kernel_rfl, by kernel_rfl, by kernel_rfl, by kernel_rfl⟩
theorem head1_59 (a : Option Vl) (s : Vl) (p c : Int) (m d f cs th : Option Vl) : b_law_H1 (SS a s p c m (some (.int 59)) d f cs th) = .nx (SS a s p c m (some (.int 59)) (at1 59 6) (at1 59 7) (at1 59 8) th) := by kernel_rfl
theorem dj_59 : DJ 59 := ⟨by kernel_rfl, by kernel_rfl, by kernel_rfl, by kernel_rfl, by kernel_rfl⟩
theorem head1_60 (a : Option Vl) (s : Vl) (p c : Int) (m d f cs th : Option Vl) : b_law_H1 (SS a s p c m (some (.int 60)) d f cs th) = .nx (SS a s p c m (some (.int 60)) (at1 60 6) (at1 60 7) (at1 60 8) th) := by kernel_rfl
theorem dj_60 : DJ 60 := ⟨by kernel_rfl, by kernel_rfl, by kernel_rfl, by kernel_rfl, by kernel_rfl⟩
theorem head1_61 (a : Option Vl) (s : Vl) (p c : Int) (m d f cs th : Option Vl) : b_law_H1 (SS a s p c m (some (.int 61)) d f cs th) = .nx (SS a s p c m (some (.int 61)) (at1 61 6) (at1 61 7) (at1 61 8) th) := by kernel_rfl
theorem dj_61 : DJ 61 := ⟨by kernel_rfl, by kernel_rfl, by kernel_rfl, by kernel_rfl, by kernel_rfl⟩
theorem head1_62 (a : Option Vl) (s : Vl) (p c : Int) (m d f cs th : Option Vl) : b_law_H1 (SS a s p c m (some (.int 62)) d f cs th) = .nx (SS a s p c m (some (.int 62)) (at1 62 6) (at1 62 7) (at1 62 8) th) := by kernel_rfl
theorem dj_62 : DJ 62 := ⟨by kernel_rfl, by kernel_rfl, by kernel_rfl, by kernel_rfl, by kernel_rfl⟩
theorem head1_63 (a : Option Vl) (s : Vl) (p c : Int) (m d f cs th : Option Vl) : b_law_H1 (SS a s p c m (some (.int 63)) d f cs th) = .nx (SS a s p c m (some (.int 63)) (at1 63 6) (at1 63 7) (at1 63 8) th) := by kernel_rfl
theorem dj_63 : DJ 63 := ⟨by kernel_rfl, by kernel_rfl, by kernel_rfl, by kernel_rfl, by kernel_rfl⟩
theorem head1_64 (a : Option Vl) (s : Vl) (p c : Int) (m d f cs th : Option Vl) : b_law_H1 (SS a s p c m (some (.int 64)) d f cs th) = .nx (SS a s p c m (some (.int 64)) (at1 64 6) (at1 64 7) (at1 64 8) th) := by kernel_rfl
theorem dj_64 : DJ 64 := ⟨by kernel_rfl, by kernel_rfl, by kernel_rfl, by kernel_rfl, by kernel_rfl⟩
theorem head1 (j : Int) (j1 : 1 ≤ j) (j2 : j ≤ 64) (a : Option Vl) (s : Vl) (p c : Int) (m d f cs th : Option Vl) : b_law_H1 (SS a s p c m (some (.int j)) d f cs th) = .nx (SS a s p c m (some (.int j)) (at1 j 6) (at1 j 7) (at1 j 8) th) ∧ DJ j := by
  have hj : j = 1 ∨ j = 2 ∨ j = 3 ∨ j = 4 ∨ j = 5 ∨ j = 6 ∨ j = 7 ∨ j = 8 ∨ j = 9 ∨ j = 10 ∨ j = 11 ∨ j = 12 ∨ j = 13 ∨ j = 14 ∨ j = 15 ∨ j = 16 ∨ j = 17 ∨ j = 18 ∨ j = 19 ∨ j = 20 ∨ j = 21 ∨ j = 22 ∨ j = 23 ∨ j = 24 ∨ j = 25 ∨ j = 26 ∨ j = 27 ∨ j = 28 ∨ j = 29 ∨ j = 30 ∨ j = 31 ∨ j = 32 ∨ j = 33 ∨ j = 34 ∨ j = 35 ∨ j = 36 ∨ j = 37 ∨ j = 38 ∨ j = 39 ∨ j = 40 ∨ j = 41 ∨ j = 42 ∨ j = 43 ∨ j = 44 ∨ j = 45 ∨ j = 46 ∨ j = 47 ∨ j = 48 ∨ j = 49 ∨ j = 50 ∨ j = 51 ∨ j = 52 ∨ j = 53 ∨ j = 54 ∨ j = 55 ∨ j = 56 ∨ j = 57 ∨ j = 58 ∨ j = 59 ∨ j = 60 ∨ j = 61 ∨ j = 62 ∨ j = 63 ∨ j = 64 := by omega
  rcases hj with rfl | rfl | rfl | rfl | rfl | rfl | rfl | rfl | rfl | rfl | rfl | rfl | rfl | rfl | rfl | rfl | rfl | rfl | rfl | rfl | rfl | rfl | rfl | rfl | rfl | rfl | rfl | rfl | rfl | rfl | rfl | rfl | rfl | rfl | rfl | rfl | rfl | rfl | rfl | rfl | rfl | rfl | rfl | rfl | rfl | rfl | rfl | rfl | rfl | rfl | rfl | rfl | rfl | rfl | rfl | rfl | rfl | rfl | rfl | rfl | rfl | rfl | rfl | rfl
  · exact ⟨head1_1 a s p c m d f cs th, dj_1⟩
  · exact ⟨head1_2 a s p c m d f cs th, dj_2⟩
  · exact ⟨head1_3 a s p c m d f cs th, dj_3⟩
  · exact ⟨head1_4 a s p c m d f cs th, dj_4⟩
  · exact ⟨head1_5 a s p c m d f cs th, dj_5⟩
  · exact ⟨head1_6 a s p c m d f cs th, dj_6⟩
  · exact ⟨head1_7 a s p c m d f cs th, dj_7⟩
  · exact ⟨head1_8 a s p c m d f cs th, dj_8⟩
  · exact ⟨head1_9 a s p c m d f cs th, dj_9⟩
  · exact ⟨head1_10 a s p c m d f cs th, dj_10⟩
  · exact ⟨head1_11 a s p c m d f cs th, dj_11⟩
  · exact ⟨head1_12 a s p c m d f cs th, dj_12⟩
  · exact ⟨head1_13 a s p c m d f cs th, dj_13⟩
  · exact ⟨head1_14 a s p c m d f cs th, dj_14⟩
  · exact ⟨head1_15 a s p c m d f cs th, dj_15⟩
  · exact ⟨head1_16 a s p c m d f cs th, dj_16⟩
  · exact ⟨head1_17 a s p c m d f cs th, dj_17⟩
  · exact ⟨head1_18 a s p c m d f cs th, dj_18⟩
  · exact ⟨head1_19 a s p c m d f cs th, dj_19⟩
  · exact ⟨head1_20 a s p c m d f cs th, dj_20⟩
  · exact ⟨head1_21 a s p c m d f cs th, dj_21⟩
  · exact ⟨head1_22 a s p c m d f cs th, dj_22⟩
  · exact ⟨head1_23 a s p c m d f cs th, dj_23⟩
  · exact ⟨head1_24 a s p c m d f cs th, dj_24⟩
  · exact ⟨head1_25 a s p c m d f cs th, dj_25⟩
  · exact ⟨head1_26 a s p c m d f cs th, dj_26⟩
  · exact ⟨head1_27 a s p c m d f cs th, dj_27⟩
  · exact ⟨head1_28 a s p c m d f cs th, dj_28⟩
  · exact ⟨head1_29 a s p c m d f cs th, dj_29⟩
  · exact ⟨head1_30 a s p c m d f cs th, dj_30⟩
  · exact ⟨head1_31 a s p c m d f cs th, dj_31⟩
  · exact ⟨head1_32 a s p c m d f cs th, dj_32⟩
  · exact ⟨head1_33 a s p c m d f cs th, dj_33⟩
  · exact ⟨head1_34 a s p c m d f cs th, dj_34⟩
  · exact ⟨head1_35 a s p c m d f cs th, dj_35⟩
  · exact ⟨head1_36 a s p c m d f cs th, dj_36⟩
  · exact ⟨head1_37 a s p c m d f cs th, dj_37⟩
  · exact ⟨head1_38 a s p c m d f cs th, dj_38⟩
  · exact ⟨head1_39 a s p c m d f cs th, dj_39⟩
  · exact ⟨head1_40 a s p c m d f cs th, dj_40⟩
  · exact ⟨head1_41 a s p c m d f cs th, dj_41⟩
  · exact ⟨head1_42 a s p c m d f cs th, dj_42⟩
  · exact ⟨head1_43 a s p c m d f cs th, dj_43⟩
  · exact ⟨head1_44 a s p c m d f cs th, dj_44⟩
  · exact ⟨head1_45 a s p c m d f cs th, dj_45⟩
  · exact ⟨head1_46 a s p c m d f cs th, dj_46⟩
  · exact ⟨head1_47 a s p c m d f cs th, dj_47⟩
  · exact ⟨head1_48 a s p c m d f cs th, dj_48⟩
  · exact ⟨head1_49 a s p c m d f cs th, dj_49⟩
  · exact ⟨head1_50 a s p c m d f cs th, dj_50⟩
  · exact ⟨head1_51 a s p c m d f cs th, dj_51⟩
  · exact ⟨head1_52 a s p c m d f cs th, dj_52⟩
  · exact ⟨head1_53 a s p c m d f cs th, dj_53⟩
  · exact ⟨head1_54 a s p c m d f cs th, dj_54⟩
  · exact ⟨head1_55 a s p c m d f cs th, dj_55⟩
  · exact ⟨head1_56 a s p c m d f cs th, dj_56⟩
  · exact ⟨head1_57 a s p c m d f cs th, dj_57⟩
  · exact ⟨head1_58 a s p c m d f cs th, dj_58⟩
  · exact ⟨head1_59 a s p c m d f cs th, dj_59⟩
  · exact ⟨head1_60 a s p c m d f cs th, dj_60⟩
  · exact ⟨head1_61 a s p c m d f cs th, dj_61⟩
  · exact ⟨head1_62 a s p c m d f cs th, dj_62⟩
  · exact ⟨head1_63 a s p c m d f cs th, dj_63⟩
  · exact ⟨head1_64 a s p c m d f cs th, dj_64⟩
end K72

namespace K72
open PyI
theorem fO1 : stors strO = true := by kernel_rfl
theorem fO2 : setFs .sh strO = strI := by kernel_rfl
theorem fI1 : noOwns strI = true := by kernel_rfl
theorem fO3 : noOwns strO = false := by kernel_rfl
theorem at_str (v : Vl) (i : Nat) (h : strI[i]? = some v) : (F__law_word [.sym (.fn "plans_for"), v] = .ok (.str "no size") ∧ F__law_word [.sym (.fn "cheapest"), v] = .ok (.str "no size")) ∧ stor v = true ∧ noTr v = true ∧ peek v = v ∧ noRef v = true ∧ setF .sh v = v := by
  have hi : i < 12 := (List.getElem?_eq_some_iff.mp h).1
  have hi' : i = 0 ∨ i = 1 ∨ i = 2 ∨ i = 3 ∨ i = 4 ∨ i = 5 ∨ i = 6 ∨ i = 7 ∨ i = 8 ∨ i = 9 ∨ i = 10 ∨ i = 11 := by omega
  rcases hi' with rfl | rfl | rfl | rfl | rfl | rfl | rfl | rfl | rfl | rfl | rfl | rfl <;> (cases h; exact ⟨⟨by kernel_rfl, by kernel_rfl⟩, by kernel_rfl, by kernel_rfl, by kernel_rfl, by kernel_rfl, by kernel_rfl⟩)
theorem head2 (a : Option Vl) (s : Vl) (p c m : Int) (k d f cs th : Option Vl) (hs : s = .nd .own .lst strO ∨ s = .nd .sh .lst strI) (hm : 0 ≤ m) : ∃ (i : Nat) (v : Vl), strI[i]? = some v ∧ b_law_H2 (SS a s p c (some (.int m)) k d f cs th) = .nx (SS a (.nd .sh .lst strI) p c (some (.int m)) k d f cs (some v)) := by
  have hi : (m / 2048 % 12).toNat < strI.length := by
    show _ < 12
    omega
  refine ⟨(m / 2048 % 12).toNat, strI[(m / 2048 % 12).toNat], List.getElem?_eq_getElem hi, ?_⟩
  have hat : L2.atI strI (m / 2048 % 12) = some strI[(m / 2048 % 12).toNat] := atI_pos (by omega) (List.getElem?_eq_getElem hi)
  obtain ⟨_, hst, hnt, _⟩ := at_str _ _ (List.getElem?_eq_getElem hi)
  generalize strI[(m / 2048 % 12).toNat] = v at hat hst hnt
  rcases hs with rfl | rfl
  · simp (disch := omega) only [b_law_H2, runF, seqC, bindC, asgC, tgN, tgT, tgsC, tgsN, opE, evs, varE, takE, frzE, cstE, retC, retNC, expC, ifC, passC, rsC, brkC, cntC, callE, srcE, andE, orE, ifE, seqE, notE, chainE, nt_non, nt_bl, nt_int, nt_str, nt_tup, nt_nil, nt_cons, so_non, so_bl, so_int, so_str, so_tup, so_nil, so_cons, no_non, no_bl, no_int, no_str, no_tup, no_nil, no_cons, nr_non, nr_bl, nr_int, nr_str, nr_tup, nr_nil, nr_cons, ao_non, ao_bl, ao_int, ao_str, ao_tup, ao_nil, ao_cons, pk_non, pk_bl, pk_int, pk_str, pk_tup, pk_nil, pk_cons, sf_non, sf_bl, sf_int, sf_str, sf_tup, sf_nil, sf_cons, ints_so, ints_nt, ints_no, ints_nr, ints_ao, ints_pk, ints_sf, ints_snoc, pk_nd, sf_nd, nt_nd, so_nd, no_nd, nr_nd, ao_nd, so_app, gLen_nd, gIx_nd, gLst_0, gLR1_ok, gLR2_ok, isi_lst, hSeq_nd, fp1, fp2, fp3, fb1, fb2, fb3, fb4, fb5, fb6, fb7, fb8, fb9, fb10, fb11, fb12, fb13, fb14, sf_enc, pk_own, pk_sh, pk_tr, nr_enc, ao_enc, so_own, so_sh, nt_own, nt_sh, no_sh, no_tr, no_own, nt_tr, gLen_enc, gIx_0, gIx_1, gLst_nil, hSeq_sh, hRng1_ok, hRng2_ok, gSub_ok, gAdd_ok, gNeg_ok, gMod_ok, gDiv_ok, gShl_ok, gShr_ok, gMul_r, gMul_l, gLt_ok, gLe_ok, gGt_ok, gGe_ok, gNot_ok, gTup_2, gTup_3, gMax2_ok, gMin2_ok, isi_int_int, isi_int_bool, isi_tup, isi_int_list, isi_list, gEq_int, gNe_int, List.getElem?_cons_zero, List.getElem?_cons_succ, List.set_cons_zero, List.set_cons_succ, List.length_cons, List.length_nil, List.map_cons, List.map_nil, List.cons_append, List.nil_append, List.replicate_zero, List.replicate_succ, decide_true, decide_false, Bool.and_true, Bool.true_and, Bool.and_false, Bool.false_and, Bool.or_true, Bool.true_or, Bool.or_false, Bool.false_or, Bool.not_true, Bool.not_false, if_true, if_false, ite_true, ite_false, reduceIte, List.contains_nil, List.contains_cons, Nat.reduceBEq, List.any_cons, List.any_nil, List.append_nil, Bool.false_eq_true, reduceCtorEq, Nat.reduceAdd, Nat.reduceLT, Nat.reduceLeDiff, Nat.zero_add, Int.reduceSub, Int.reduceAdd, Int.reduceMul, Int.reduceToNat, Int.reducePow, Int.one_mul, Int.reduceNeg, Int.reduceLT, Int.reduceLE, Int.zero_add, Int.add_zero, Int.reduceEq, Int.reduceMod, Int.reduceDiv, Int.reduceOfNat, Int.cast_ofNat_Int, SS, hat, hst, gIx_nd, fO1, fO2, fO3]
  · simp (disch := omega) only [b_law_H2, runF, seqC, bindC, asgC, tgN, tgT, tgsC, tgsN, opE, evs, varE, takE, frzE, cstE, retC, retNC, expC, ifC, passC, rsC, brkC, cntC, callE, srcE, andE, orE, ifE, seqE, notE, chainE, nt_non, nt_bl, nt_int, nt_str, nt_tup, nt_nil, nt_cons, so_non, so_bl, so_int, so_str, so_tup, so_nil, so_cons, no_non, no_bl, no_int, no_str, no_tup, no_nil, no_cons, nr_non, nr_bl, nr_int, nr_str, nr_tup, nr_nil, nr_cons, ao_non, ao_bl, ao_int, ao_str, ao_tup, ao_nil, ao_cons, pk_non, pk_bl, pk_int, pk_str, pk_tup, pk_nil, pk_cons, sf_non, sf_bl, sf_int, sf_str, sf_tup, sf_nil, sf_cons, ints_so, ints_nt, ints_no, ints_nr, ints_ao, ints_pk, ints_sf, ints_snoc, pk_nd, sf_nd, nt_nd, so_nd, no_nd, nr_nd, ao_nd, so_app, gLen_nd, gIx_nd, gLst_0, gLR1_ok, gLR2_ok, isi_lst, hSeq_nd, fp1, fp2, fp3, fb1, fb2, fb3, fb4, fb5, fb6, fb7, fb8, fb9, fb10, fb11, fb12, fb13, fb14, sf_enc, pk_own, pk_sh, pk_tr, nr_enc, ao_enc, so_own, so_sh, nt_own, nt_sh, no_sh, no_tr, no_own, nt_tr, gLen_enc, gIx_0, gIx_1, gLst_nil, hSeq_sh, hRng1_ok, hRng2_ok, gSub_ok, gAdd_ok, gNeg_ok, gMod_ok, gDiv_ok, gShl_ok, gShr_ok, gMul_r, gMul_l, gLt_ok, gLe_ok, gGt_ok, gGe_ok, gNot_ok, gTup_2, gTup_3, gMax2_ok, gMin2_ok, isi_int_int, isi_int_bool, isi_tup, isi_int_list, isi_list, gEq_int, gNe_int, List.getElem?_cons_zero, List.getElem?_cons_succ, List.set_cons_zero, List.set_cons_succ, List.length_cons, List.length_nil, List.map_cons, List.map_nil, List.cons_append, List.nil_append, List.replicate_zero, List.replicate_succ, decide_true, decide_false, Bool.and_true, Bool.true_and, Bool.and_false, Bool.false_and, Bool.or_true, Bool.true_or, Bool.or_false, Bool.false_or, Bool.not_true, Bool.not_false, if_true, if_false, ite_true, ite_false, reduceIte, List.contains_nil, List.contains_cons, Nat.reduceBEq, List.any_cons, List.any_nil, List.append_nil, Bool.false_eq_true, reduceCtorEq, Nat.reduceAdd, Nat.reduceLT, Nat.reduceLeDiff, Nat.zero_add, Int.reduceSub, Int.reduceAdd, Int.reduceMul, Int.reduceToNat, Int.reducePow, Int.one_mul, Int.reduceNeg, Int.reduceLT, Int.reduceLE, Int.zero_add, Int.add_zero, Int.reduceEq, Int.reduceMod, Int.reduceDiv, Int.reduceOfNat, Int.cast_ofNat_Int, SS, hat, hst, gIx_nd, fI1]
theorem tail3 (a f cs m : Option Vl) (p c j : Int) (v : Vl) (i : Nat) (h : strI[i]? = some v) (J : DJ j) : b_law_H3 (SS a (.nd .sh .lst strI) p c m (some (.int j)) (at1 j 6) f cs (some v)) = .nx (SS a (.nd .sh .lst strI) p c m (some (.int j)) (at1 j 6) f cs (some v)) := by
  obtain ⟨⟨w1, w2⟩, hst, hnt, hpk, hnr, hsf⟩ := at_str v i h
  obtain ⟨q1, q2, q3, q4, q5⟩ := J
  have hs1 : gNe [.str "no size", .str "no size"] = some (.bl false) := by kernel_rfl
  have pf : ∀ k, peek (.sym k) = .sym k := fun _ => rfl
  have nf : ∀ k, noTr (.sym k) = true := fun _ => rfl
  have rf : ∀ k, noRef (.sym k) = true := fun _ => rfl
  have sf : ∀ k, setF .sh (.sym k) = .sym k := fun _ => rfl
  rw [q2]
  have hi : i < 12 := (List.getElem?_eq_some_iff.mp h).1
  have hi' : i = 0 ∨ i = 1 ∨ i = 2 ∨ i = 3 ∨ i = 4 ∨ i = 5 ∨ i = 6 ∨ i = 7 ∨ i = 8 ∨ i = 9 ∨ i = 10 ∨ i = 11 := by omega
  rcases hi' with rfl | rfl | rfl | rfl | rfl | rfl | rfl | rfl | rfl | rfl | rfl | rfl <;> cases h <;>
  simp (disch := omega) only [b_law_H3, SS, runF, seqC, bindC, asgC, tgN, tgT, tgsC, tgsN, opE, evs, varE, takE, frzE, cstE, retC, retNC, expC, ifC, passC, rsC, brkC, cntC, callE, srcE, andE, orE, ifE, seqE, notE, chainE, nt_non, nt_bl, nt_int, nt_str, nt_tup, nt_nil, nt_cons, so_non, so_bl, so_int, so_str, so_tup, so_nil, so_cons, no_non, no_bl, no_int, no_str, no_tup, no_nil, no_cons, nr_non, nr_bl, nr_int, nr_str, nr_tup, nr_nil, nr_cons, ao_non, ao_bl, ao_int, ao_str, ao_tup, ao_nil, ao_cons, pk_non, pk_bl, pk_int, pk_str, pk_tup, pk_nil, pk_cons, sf_non, sf_bl, sf_int, sf_str, sf_tup, sf_nil, sf_cons, ints_so, ints_nt, ints_no, ints_nr, ints_ao, ints_pk, ints_sf, ints_snoc, pk_nd, sf_nd, nt_nd, so_nd, no_nd, nr_nd, ao_nd, so_app, gLen_nd, gIx_nd, gLst_0, gLR1_ok, gLR2_ok, isi_lst, hSeq_nd, fp1, fp2, fp3, fb1, fb2, fb3, fb4, fb5, fb6, fb7, fb8, fb9, fb10, fb11, fb12, fb13, fb14, sf_enc, pk_own, pk_sh, pk_tr, nr_enc, ao_enc, so_own, so_sh, nt_own, nt_sh, no_sh, no_tr, no_own, nt_tr, gLen_enc, gIx_0, gIx_1, gLst_nil, hSeq_sh, hRng1_ok, hRng2_ok, gSub_ok, gAdd_ok, gNeg_ok, gMod_ok, gDiv_ok, gShl_ok, gShr_ok, gMul_r, gMul_l, gLt_ok, gLe_ok, gGt_ok, gGe_ok, gNot_ok, gTup_2, gTup_3, gMax2_ok, gMin2_ok, isi_int_int, isi_int_bool, isi_tup, isi_int_list, isi_list, gEq_int, gNe_int, List.getElem?_cons_zero, List.getElem?_cons_succ, List.set_cons_zero, List.set_cons_succ, List.length_cons, List.length_nil, List.map_cons, List.map_nil, List.cons_append, List.nil_append, List.replicate_zero, List.replicate_succ, decide_true, decide_false, Bool.and_true, Bool.true_and, Bool.and_false, Bool.false_and, Bool.or_true, Bool.true_or, Bool.or_false, Bool.false_or, Bool.not_true, Bool.not_false, if_true, if_false, ite_true, ite_false, reduceIte, List.contains_nil, List.contains_cons, Nat.reduceBEq, List.any_cons, List.any_nil, List.append_nil, Bool.false_eq_true, reduceCtorEq, Nat.reduceAdd, Nat.reduceLT, Nat.reduceLeDiff, Nat.zero_add, Int.reduceSub, Int.reduceAdd, Int.reduceMul, Int.reduceToNat, Int.reducePow, Int.one_mul, Int.reduceNeg, Int.reduceLT, Int.reduceLE, Int.zero_add, Int.add_zero, Int.reduceEq, Int.reduceMod, Int.reduceDiv, Int.reduceOfNat, Int.cast_ofNat_Int, q1, q3, q4, q5, w1, w2, hnt, hpk, hnr, hsf, hs1, pf, nf, rf, sf]
theorem body (a m k d f cs th : Option Vl) (s : Vl) (p c : Int) (hs : s = .nd .own .lst strO ∨ s = .nd .sh .lst strI) (h0 : 0 ≤ p) (h1 : p ≤ 90) : ∃ m' k' d' f' cs' th', b_law_L0 (SS a s p c m k d f cs th) = .nx (SS a (.nd .sh .lst strI) p c m' k' d' f' cs' th') := by
  obtain ⟨m', j, hm, j1, j2, e0⟩ := head0 a s p c m k d f cs th h0 (by omega)
  obtain ⟨e1, J⟩ := head1 j j1 j2 a s p c (some (.int m')) d f cs th
  obtain ⟨i, v, hv, e2⟩ := head2 a s p c m' (some (.int j)) (at1 j 6) (at1 j 7) (at1 j 8) th hs hm
  have e3 := tail3 a (at1 j 7) (at1 j 8) (some (.int m')) p c j v i hv J
  refine ⟨some (.int m'), some (.int j), at1 j 6, at1 j 7, at1 j 8, some v, ?_⟩
  rw [b_law_L0_cut]
  simp only [seqC, e0, e1, e2, e3]
theorem enum_at {i k : Nat} : ∀ {xs : List Int} {v : Vl} {j : Nat}, (enumV k (xs.map Vl.int))[j]? = some v → j < xs.length ∧ ∃ c : Int, v = .tup [.int ((k + j : Nat) : Int), .int c]
  | [], v, j, h => by simp [enumV] at h
  | x :: r, v, 0, h => by
    simp [enumV] at h
    subst h
    exact ⟨by simp, x, rfl⟩
  | x :: r, v, j + 1, h => by
    have h' : (enumV (k + 1) (r.map Vl.int))[j]? = some v := by simpa [enumV] using h
    obtain ⟨h1, c, h2⟩ := enum_at (i := i) h'
    exact ⟨by simpa using h1, c, by rw [h2]; congr 3; omega⟩
theorem law_true (ns : List Int) (hn : ns.length ≤ 63) : runF N_law.length b_law [.nd .sh .lst (ns.map Vl.int)] = .ok (.bl true) := by
  obtain ⟨ms, hm, hml⟩ := gSlH_ints .sh ns 9
  have hA := gAdd_ints .own .own [23] ms (by simp; omega)
  have e0 : b_law_H4 ⟨[some (.nd .sh .lst (ns.map Vl.int)), none, none, none, none, none, none, none, none, none, none, none], [], []⟩ = .nx (SJ (some (.nd .sh .lst (ns.map Vl.int))) (.nd .own .lst strO) none none none none none none none none) := by kernel_rfl
  have hlen : ([23] ++ ms).length ≤ 64 := by
    rw [List.length_append]; simp; omega
  obtain ⟨st, e1, p, c, m, k, d, f, cs, th, s, hs⟩ := forL_inv (g := tgT 2 (tgsC (tgN 2) (tgsC (tgN 3) tgsN))) (body := b_law_L0) (items := enumV 0 (([23] ++ ms).map Vl.int)) (st := SJ (some (.nd .sh .lst (ns.map Vl.int))) (.nd .own .lst strO) none none none none none none none none)
    (fun _ st => ∃ p c m k d f cs th s, st = SJ (some (.nd .sh .lst (ns.map Vl.int))) s p c m k d f cs th ∧ (s = .nd .own .lst strO ∨ s = .nd .sh .lst strI)) ⟨_, _, _, _, _, _, _, _, _, rfl, .inl rfl⟩ fun i st v ⟨p, c, m, k, d, f, cs, th, s, hs, hs2⟩ hv => by
      subst hs
      obtain ⟨hi, cc, rfl⟩ := enum_at (i := 0) hv
      obtain ⟨m', k', d', f', cs', th', e⟩ := body (some (.nd .sh .lst (ns.map Vl.int))) m k d f cs th s ((0 + i : Nat) : Int) cc hs2 (by omega) (by omega)
      exact ⟨SS (some (.nd .sh .lst (ns.map Vl.int))) s ((0 + i : Nat) : Int) cc m k d f cs th, _, by simp (disch := omega) only [SJ, SS, runF, seqC, bindC, asgC, tgN, tgT, tgsC, tgsN, opE, evs, varE, takE, frzE, cstE, retC, retNC, expC, ifC, passC, rsC, brkC, cntC, callE, srcE, andE, orE, ifE, seqE, notE, chainE, nt_non, nt_bl, nt_int, nt_str, nt_tup, nt_nil, nt_cons, so_non, so_bl, so_int, so_str, so_tup, so_nil, so_cons, no_non, no_bl, no_int, no_str, no_tup, no_nil, no_cons, nr_non, nr_bl, nr_int, nr_str, nr_tup, nr_nil, nr_cons, ao_non, ao_bl, ao_int, ao_str, ao_tup, ao_nil, ao_cons, pk_non, pk_bl, pk_int, pk_str, pk_tup, pk_nil, pk_cons, sf_non, sf_bl, sf_int, sf_str, sf_tup, sf_nil, sf_cons, ints_so, ints_nt, ints_no, ints_nr, ints_ao, ints_pk, ints_sf, ints_snoc, pk_nd, sf_nd, nt_nd, so_nd, no_nd, nr_nd, ao_nd, so_app, gLen_nd, gIx_nd, gLst_0, gLR1_ok, gLR2_ok, isi_lst, hSeq_nd, fp1, fp2, fp3, fb1, fb2, fb3, fb4, fb5, fb6, fb7, fb8, fb9, fb10, fb11, fb12, fb13, fb14, sf_enc, pk_own, pk_sh, pk_tr, nr_enc, ao_enc, so_own, so_sh, nt_own, nt_sh, no_sh, no_tr, no_own, nt_tr, gLen_enc, gIx_0, gIx_1, gLst_nil, hSeq_sh, hRng1_ok, hRng2_ok, gSub_ok, gAdd_ok, gNeg_ok, gMod_ok, gDiv_ok, gShl_ok, gShr_ok, gMul_r, gMul_l, gLt_ok, gLe_ok, gGt_ok, gGe_ok, gNot_ok, gTup_2, gTup_3, gMax2_ok, gMin2_ok, isi_int_int, isi_int_bool, isi_tup, isi_int_list, isi_list, gEq_int, gNe_int, List.getElem?_cons_zero, List.getElem?_cons_succ, List.set_cons_zero, List.set_cons_succ, List.length_cons, List.length_nil, List.map_cons, List.map_nil, List.cons_append, List.nil_append, List.replicate_zero, List.replicate_succ, decide_true, decide_false, Bool.and_true, Bool.true_and, Bool.and_false, Bool.false_and, Bool.or_true, Bool.true_or, Bool.or_false, Bool.false_or, Bool.not_true, Bool.not_false, if_true, if_false, ite_true, ite_false, reduceIte, List.contains_nil, List.contains_cons, Nat.reduceBEq, List.any_cons, List.any_nil, List.append_nil, Bool.false_eq_true, reduceCtorEq, Nat.reduceAdd, Nat.reduceLT, Nat.reduceLeDiff, Nat.zero_add], .inl e, _, _, _, _, _, _, _, _, _, rfl, .inr rfl⟩
  obtain ⟨hs, hs2⟩ := hs
  subst hs
  have hA : gAdd [.nd .own .lst [.int 23], .nd .own .lst (ms.map Vl.int)] = some (.nd .own .lst (.int 23 :: ms.map Vl.int)) := hA
  have h7 : gLst [.int 23] = some (.nd .own .lst [.int 23]) := by rw [gLst_le (by simp)]; exact congrArg some (mkL_ints [23])
  have hE : ∀ (f : Fl) (vs : List Vl), hEnum [.nd f .lst vs] = some (enumV 0 vs, f == .tr || !noTrs vs) := fun _ _ => rfl
  have e5 : b_law_H5 (SJ (some (.nd .sh .lst (ns.map Vl.int))) (.nd .own .lst strO) none none none none none none none none) = .nx (SJ (some (.nd .sh .lst (ns.map Vl.int))) s p c m k d f cs th) := by
    have e1 : forL (tgT 2 (tgsC (tgN 2) (tgsC (tgN 3) tgsN))) b_law_L0 (enumV 0 (([23] ++ ms).map Vl.int)) ⟨[some (.nd .sh .lst (ns.map Vl.int)), some (.nd .own .lst strO), none, none, none, none, none, none, none, none, none, none], [], []⟩ = _ := e1
    unfold b_law_H5 forC
    generalize hq : forL (tgT 2 (tgsC (tgN 2) (tgsC (tgN 3) tgsN))) b_law_L0 = fl at e1 ⊢
    simp (disch := omega) only [runF, seqC, bindC, asgC, tgN, tgT, tgsC, tgsN, opE, evs, varE, takE, frzE, cstE, retC, retNC, expC, ifC, passC, rsC, brkC, cntC, callE, srcE, andE, orE, ifE, seqE, notE, chainE, nt_non, nt_bl, nt_int, nt_str, nt_tup, nt_nil, nt_cons, so_non, so_bl, so_int, so_str, so_tup, so_nil, so_cons, no_non, no_bl, no_int, no_str, no_tup, no_nil, no_cons, nr_non, nr_bl, nr_int, nr_str, nr_tup, nr_nil, nr_cons, ao_non, ao_bl, ao_int, ao_str, ao_tup, ao_nil, ao_cons, pk_non, pk_bl, pk_int, pk_str, pk_tup, pk_nil, pk_cons, sf_non, sf_bl, sf_int, sf_str, sf_tup, sf_nil, sf_cons, ints_so, ints_nt, ints_no, ints_nr, ints_ao, ints_pk, ints_sf, ints_snoc, pk_nd, sf_nd, nt_nd, so_nd, no_nd, nr_nd, ao_nd, so_app, gLen_nd, gIx_nd, gLst_0, gLR1_ok, gLR2_ok, isi_lst, hSeq_nd, fp1, fp2, fp3, fb1, fb2, fb3, fb4, fb5, fb6, fb7, fb8, fb9, fb10, fb11, fb12, fb13, fb14, sf_enc, pk_own, pk_sh, pk_tr, nr_enc, ao_enc, so_own, so_sh, nt_own, nt_sh, no_sh, no_tr, no_own, nt_tr, gLen_enc, gIx_0, gIx_1, gLst_nil, hSeq_sh, hRng1_ok, hRng2_ok, gSub_ok, gAdd_ok, gNeg_ok, gMod_ok, gDiv_ok, gShl_ok, gShr_ok, gMul_r, gMul_l, gLt_ok, gLe_ok, gGt_ok, gGe_ok, gNot_ok, gTup_2, gTup_3, gMax2_ok, gMin2_ok, isi_int_int, isi_int_bool, isi_tup, isi_int_list, isi_list, gEq_int, gNe_int, List.getElem?_cons_zero, List.getElem?_cons_succ, List.set_cons_zero, List.set_cons_succ, List.length_cons, List.length_nil, List.map_cons, List.map_nil, List.cons_append, List.nil_append, List.replicate_zero, List.replicate_succ, decide_true, decide_false, Bool.and_true, Bool.true_and, Bool.and_false, Bool.false_and, Bool.or_true, Bool.true_or, Bool.or_false, Bool.false_or, Bool.not_true, Bool.not_false, if_true, if_false, ite_true, ite_false, reduceIte, List.contains_nil, List.contains_cons, Nat.reduceBEq, List.any_cons, List.any_nil, List.append_nil, Bool.false_eq_true, reduceCtorEq, Nat.reduceAdd, Nat.reduceLT, Nat.reduceLeDiff, Nat.zero_add, Int.reduceSub, Int.reduceAdd, Int.reduceMul, Int.reduceToNat, Int.reducePow, Int.one_mul, Int.reduceNeg, Int.reduceLT, Int.reduceLE, Int.zero_add, Int.add_zero, Int.reduceEq, Int.reduceMod, Int.reduceDiv, Int.reduceOfNat, Int.cast_ofNat_Int, SJ, hm, hA, h7, hE, gList_ints] at e1 ⊢
    exact e1
  have hl : N_law.length = 12 := rfl
  rw [hl, b_law_cut]
  show (match seqC b_law_H4 (seqC b_law_H5 b_law_H6) ⟨[some (.nd .sh .lst (ns.map Vl.int)), none, none, none, none, none, none, none, none, none, none, none], [], []⟩ with
    | .nx _ => RF.ok .non
    | .rt v _ => if allOwn v then .ok v else .bad
    | .exc c _ => .exc c
    | _ => .bad) = _
  simp only [seqC, e0, e5, b_law_H6, retC, bindC, cstE, ao_bl, if_true]
end K72
open PySem PySem.W PyProof.Rows in
set_option maxHeartbeats 0 in
theorem PySem.Challenge.cw_pairhall_k72_cheapest_plans_holds : PySem.Challenge.rw_pairhall_k72_cheapest_plans.Holds := by
  w_on; o_law; k_head; (case hw => w_witness2)
  k_fill
  refine L2.walk_of (l := PySem.Challenge.rw_pairhall_k72_cheapest_plans) (n := 63) (k := 13) (x := "_law_script") (CX := fun w => L2.CX PySem.Challenge.rw_pairhall_k72_cheapest_plans.prog w) (sp := fun w => PyI.spLaw _) rfl (by decide) rfl ⟨rfl, by decide, by decide⟩ (fun w h Y => PySem.W.kIn_of Y) ?F (fun _ _ a ns hl _ hS => ⟨a, ns, rfl, hS, hl, fun _ => rfl⟩) ?X
  case X => exact PyI.cx_none
  case F =>
    intro w mg fa h KX G hmg
    have m_int : mg "int" = none := by refine' PySem.W.mg_none_of KX G ?a; (case a => k_is)
    have m_isinstance : mg "isinstance" = none := by refine' PySem.W.mg_none_of KX G ?a; (case a => k_is)
    have m_bool : mg "bool" = none := by refine' PySem.W.mg_none_of KX G ?a; (case a => k_is)
    have m_tuple : mg "tuple" = none := by refine' PySem.W.mg_none_of KX G ?a; (case a => k_is)
    have m_all : mg "all" = none := by refine' PySem.W.mg_none_of KX G ?a; (case a => k_is)
    have m_any : mg "any" = none := by refine' PySem.W.mg_none_of KX G ?a; (case a => k_is)
    have m_len : mg "len" = none := by refine' PySem.W.mg_none_of KX G ?a; (case a => k_is)
    have m_range : mg "range" = none := by refine' PySem.W.mg_none_of KX G ?a; (case a => k_is)
    have m_sorted : mg "sorted" = none := by refine' PySem.W.mg_none_of KX G ?a; (case a => k_is)
    have m_min : mg "min" = none := by refine' PySem.W.mg_none_of KX G ?a; (case a => k_is)
    have m_ValueError : mg "ValueError" = none := by refine' PySem.W.mg_none_of KX G ?a; (case a => k_is)
    have m_enumerate : mg "enumerate" = none := by refine' PySem.W.mg_none_of KX G ?a; (case a => k_is)
    have m_list : mg "list" = none := by refine' PySem.W.mg_none_of KX G ?a; (case a => k_is)
    have g_MOST_LINES : PyI.IntG mg "MOST_LINES" 64 := by refine' PyI.intG KX G ?a; (case a => k_is)
    refine' PyI.withF (PyI.excC (x := "NoPlan") KX G PySem.F.excBase_ValueError ?a ?b ?c ?d ?e) ?go_NoPlan; (case a => k_is); (case b => first | k_exc | k_is); (case c => k_is); (case d => k_is); (case e => k_is)
    intro e_NoPlan
    refine' PyI.withF (PyI.excC (x := "NoSize") KX G PySem.F.excBase_ValueError ?a ?b ?c ?d ?e) ?go_NoSize; (case a => k_is); (case b => first | k_exc | k_is); (case c => k_is); (case d => k_is); (case e => k_is)
    intro e_NoSize
    have c_NoSize : PyI.ClsG mg "NoSize" := by refine' PyI.clsG (PySem.W.mg_of KX G ?a); (case a => k_is)
    have c_NoPairing : PyI.ClsG mg "NoPairing" := by refine' PyI.clsG (PySem.W.mg_of KX G ?a); (case a => k_is)
    have c_NoNet : PyI.ClsG mg "NoNet" := by refine' PyI.clsG (PySem.W.mg_of KX G ?a); (case a => k_is)
    have c_NoSettings : PyI.ClsG mg "NoSettings" := by refine' PyI.clsG (PySem.W.mg_of KX G ?a); (case a => k_is)
    have c_NoThings : PyI.ClsG mg "NoThings" := by refine' PyI.clsG (PySem.W.mg_of KX G ?a); (case a => k_is)
    have c_NoCalls : PyI.ClsG mg "NoCalls" := by refine' PyI.clsG (PySem.W.mg_of KX G ?a); (case a => k_is)
    have c_NoFrame : PyI.ClsG mg "NoFrame" := by refine' PyI.clsG (PySem.W.mg_of KX G ?a); (case a => k_is)
    have c_NoPlan : PyI.ClsG mg "NoPlan" := by refine' PyI.clsG (PySem.W.mg_of KX G ?a); (case a => k_is)
    have c_NoText : PyI.ClsG mg "NoText" := by refine' PyI.clsG (PySem.W.mg_of KX G ?a); (case a => k_is)
    refine' PyI.withF (PyI.TryG.cons (x := "PairError") (d := "NoPlan") (PySem.W.mg_of KX G ?p2) (PySem.W.mg_of KX G ?q2) ?r2 ?s2 ?t2 ?u2 (PyI.TryG.cons (x := "PairError") (d := "NoSize") (PySem.W.mg_of KX G ?p1) (PySem.W.mg_of KX G ?q1) ?r1 ?s1 ?t1 ?u1 (PyI.TryG.nilX KX (PySem.W.mg_of KX G ?a)))) ?go_t_PairError; (case p2 => k_is); (case q2 => k_is); (case r2 => k_is); (case s2 => k_is); (case t2 => k_is); (case u2 => k_is); (case p1 => k_is); (case q1 => k_is); (case r1 => k_is); (case s1 => k_is); (case t1 => k_is); (case u1 => k_is); (case a => k_is)
    intro t_PairError
    refine' PyI.withF (PyI.KX.cons (d := "NoPlan") (PySem.W.mg_of KX G ?v20) ⟨?e120, ?e220, ?e320, ?e420, ?e520, ?e620, ?e720, ?e820⟩ (PyI.kitOne_VE ?y20) (PyI.KX1.cons (d := "NoPlan") (c := "NoSize") (b := false) (PySem.W.mg_of KX G ?v19) (PySem.W.mg_of KX G ?w19) (PyI.kitOne_sub ?xa19 ?xb19 ?xc19 ?xd19) (by decide +kernel) (PyI.KX1.cons (d := "NoPlan") (c := "NoPairing") (b := false) (PySem.W.mg_of KX G ?v18) (PySem.W.mg_of KX G ?w18) (PyI.kitOne_sub ?xa18 ?xb18 ?xc18 ?xd18) (by decide +kernel) (PyI.KX1.cons (d := "NoPlan") (c := "NoNet") (b := false) (PySem.W.mg_of KX G ?v17) (PySem.W.mg_of KX G ?w17) (PyI.kitOne_sub ?xa17 ?xb17 ?xc17 ?xd17) (by decide +kernel) (PyI.KX1.cons (d := "NoPlan") (c := "NoSettings") (b := false) (PySem.W.mg_of KX G ?v16) (PySem.W.mg_of KX G ?w16) (PyI.kitOne_sub ?xa16 ?xb16 ?xc16 ?xd16) (by decide +kernel) (PyI.KX1.cons (d := "NoPlan") (c := "NoThings") (b := false) (PySem.W.mg_of KX G ?v15) (PySem.W.mg_of KX G ?w15) (PyI.kitOne_sub ?xa15 ?xb15 ?xc15 ?xd15) (by decide +kernel) (PyI.KX1.cons (d := "NoPlan") (c := "NoCalls") (b := false) (PySem.W.mg_of KX G ?v14) (PySem.W.mg_of KX G ?w14) (PyI.kitOne_sub ?xa14 ?xb14 ?xc14 ?xd14) (by decide +kernel) (PyI.KX1.cons (d := "NoPlan") (c := "NoFrame") (b := false) (PySem.W.mg_of KX G ?v13) (PySem.W.mg_of KX G ?w13) (PyI.kitOne_sub ?xa13 ?xb13 ?xc13 ?xd13) (by decide +kernel) (PyI.KX1.cons (d := "NoPlan") (c := "NoPlan") (b := true) (PySem.W.mg_of KX G ?v12) (PySem.W.mg_of KX G ?w12) (PyI.kitOne_self) (by decide +kernel) (PyI.KX1.cons (d := "NoPlan") (c := "NoText") (b := false) (PySem.W.mg_of KX G ?v11) (PySem.W.mg_of KX G ?w11) (PyI.kitOne_sub ?xa11 ?xb11 ?xc11 ?xd11) (by decide +kernel) ((PyI.KX1.nilX KX))))))))))) (PyI.KX.cons (d := "NoSize") (PySem.W.mg_of KX G ?v10) ⟨?e110, ?e210, ?e310, ?e410, ?e510, ?e610, ?e710, ?e810⟩ (PyI.kitOne_VE ?y10) (PyI.KX1.cons (d := "NoSize") (c := "NoSize") (b := true) (PySem.W.mg_of KX G ?v9) (PySem.W.mg_of KX G ?w9) (PyI.kitOne_self) (by decide +kernel) (PyI.KX1.cons (d := "NoSize") (c := "NoPairing") (b := false) (PySem.W.mg_of KX G ?v8) (PySem.W.mg_of KX G ?w8) (PyI.kitOne_sub ?xa8 ?xb8 ?xc8 ?xd8) (by decide +kernel) (PyI.KX1.cons (d := "NoSize") (c := "NoNet") (b := false) (PySem.W.mg_of KX G ?v7) (PySem.W.mg_of KX G ?w7) (PyI.kitOne_sub ?xa7 ?xb7 ?xc7 ?xd7) (by decide +kernel) (PyI.KX1.cons (d := "NoSize") (c := "NoSettings") (b := false) (PySem.W.mg_of KX G ?v6) (PySem.W.mg_of KX G ?w6) (PyI.kitOne_sub ?xa6 ?xb6 ?xc6 ?xd6) (by decide +kernel) (PyI.KX1.cons (d := "NoSize") (c := "NoThings") (b := false) (PySem.W.mg_of KX G ?v5) (PySem.W.mg_of KX G ?w5) (PyI.kitOne_sub ?xa5 ?xb5 ?xc5 ?xd5) (by decide +kernel) (PyI.KX1.cons (d := "NoSize") (c := "NoCalls") (b := false) (PySem.W.mg_of KX G ?v4) (PySem.W.mg_of KX G ?w4) (PyI.kitOne_sub ?xa4 ?xb4 ?xc4 ?xd4) (by decide +kernel) (PyI.KX1.cons (d := "NoSize") (c := "NoFrame") (b := false) (PySem.W.mg_of KX G ?v3) (PySem.W.mg_of KX G ?w3) (PyI.kitOne_sub ?xa3 ?xb3 ?xc3 ?xd3) (by decide +kernel) (PyI.KX1.cons (d := "NoSize") (c := "NoPlan") (b := false) (PySem.W.mg_of KX G ?v2) (PySem.W.mg_of KX G ?w2) (PyI.kitOne_sub ?xa2 ?xb2 ?xc2 ?xd2) (by decide +kernel) (PyI.KX1.cons (d := "NoSize") (c := "NoText") (b := false) (PySem.W.mg_of KX G ?v1) (PySem.W.mg_of KX G ?w1) (PyI.kitOne_sub ?xa1 ?xb1 ?xc1 ?xd1) (by decide +kernel) ((PyI.KX1.nilX KX))))))))))) ((PyI.KX.nilX KX)))) ?go_kx; (case v20 => k_is); (case e120 => first | k_is | rfl); (case e220 => first | k_is | rfl); (case e320 => first | k_is | rfl); (case e420 => first | k_is | rfl); (case e520 => first | k_is | rfl); (case e620 => first | k_is | rfl); (case e720 => first | k_is | rfl); (case e820 => first | k_is | rfl); (case y20 => k_is); (case v19 => k_is); (case w19 => k_is); (case xa19 => rfl); (case xb19 => k_is); (case xc19 => k_is); (case xd19 => k_is); (case v18 => k_is); (case w18 => k_is); (case xa18 => rfl); (case xb18 => k_is); (case xc18 => k_is); (case xd18 => k_is); (case v17 => k_is); (case w17 => k_is); (case xa17 => rfl); (case xb17 => k_is); (case xc17 => k_is); (case xd17 => k_is); (case v16 => k_is); (case w16 => k_is); (case xa16 => rfl); (case xb16 => k_is); (case xc16 => k_is); (case xd16 => k_is); (case v15 => k_is); (case w15 => k_is); (case xa15 => rfl); (case xb15 => k_is); (case xc15 => k_is); (case xd15 => k_is); (case v14 => k_is); (case w14 => k_is); (case xa14 => rfl); (case xb14 => k_is); (case xc14 => k_is); (case xd14 => k_is); (case v13 => k_is); (case w13 => k_is); (case xa13 => rfl); (case xb13 => k_is); (case xc13 => k_is); (case xd13 => k_is); (case v12 => k_is); (case w12 => k_is); (case v11 => k_is); (case w11 => k_is); (case xa11 => rfl); (case xb11 => k_is); (case xc11 => k_is); (case xd11 => k_is); (case v10 => k_is); (case e110 => first | k_is | rfl); (case e210 => first | k_is | rfl); (case e310 => first | k_is | rfl); (case e410 => first | k_is | rfl); (case e510 => first | k_is | rfl); (case e610 => first | k_is | rfl); (case e710 => first | k_is | rfl); (case e810 => first | k_is | rfl); (case y10 => k_is); (case v9 => k_is); (case w9 => k_is); (case v8 => k_is); (case w8 => k_is); (case xa8 => rfl); (case xb8 => k_is); (case xc8 => k_is); (case xd8 => k_is); (case v7 => k_is); (case w7 => k_is); (case xa7 => rfl); (case xb7 => k_is); (case xc7 => k_is); (case xd7 => k_is); (case v6 => k_is); (case w6 => k_is); (case xa6 => rfl); (case xb6 => k_is); (case xc6 => k_is); (case xd6 => k_is); (case v5 => k_is); (case w5 => k_is); (case xa5 => rfl); (case xb5 => k_is); (case xc5 => k_is); (case xd5 => k_is); (case v4 => k_is); (case w4 => k_is); (case xa4 => rfl); (case xb4 => k_is); (case xc4 => k_is); (case xd4 => k_is); (case v3 => k_is); (case w3 => k_is); (case xa3 => rfl); (case xb3 => k_is); (case xc3 => k_is); (case xd3 => k_is); (case v2 => k_is); (case w2 => k_is); (case xa2 => rfl); (case xb2 => k_is); (case xc2 => k_is); (case xd2 => k_is); (case v1 => k_is); (case w1 => k_is); (case xa1 => rfl); (case xb1 => k_is); (case xc1 => k_is); (case xd1 => k_is)
    intro kx
    refine' PyI.withF (PyI.defAt (x := "is_whole") (st := K72.s_is_whole) KX G ?a ?l ?c ?k) ?go_is_whole; (case a => k_is); (case l => k_is); (case c => k_is); (case k => k_is)
    intro d_is_whole
    refine' PyI.withF (PyI.defAt (x := "multiplied") (st := K72.s_multiplied) KX G ?a ?l ?c ?k) ?go_multiplied; (case a => k_is); (case l => k_is); (case c => k_is); (case k => k_is)
    intro d_multiplied
    refine' PyI.withF (PyI.defAt (x := "need_plan") (st := K72.s_need_plan) KX G ?a ?l ?c ?k) ?go_need_plan; (case a => k_is); (case l => k_is); (case c => k_is); (case k => k_is)
    intro d_need_plan
    refine' PyI.withF (PyI.defAt (x := "crossings_in") (st := K72.s_crossings_in) KX G ?a ?l ?c ?k) ?go_crossings_in; (case a => k_is); (case l => k_is); (case c => k_is); (case k => k_is)
    intro d_crossings_in
    refine' PyI.withF (PyI.defAt (x := "crossings") (st := K72.s_crossings) KX G ?a ?l ?c ?k) ?go_crossings; (case a => k_is); (case l => k_is); (case c => k_is); (case k => k_is)
    intro d_crossings
    refine' PyI.withF (PyI.defAt (x := "all_plans") (st := K72.s_all_plans) KX G ?a ?l ?c ?k) ?go_all_plans; (case a => k_is); (case l => k_is); (case c => k_is); (case k => k_is)
    intro d_all_plans
    refine' PyI.withF (PyI.defAt (x := "plans_for") (st := K72.s_plans_for) KX G ?a ?l ?c ?k) ?go_plans_for; (case a => k_is); (case l => k_is); (case c => k_is); (case k => k_is)
    intro d_plans_for
    refine' PyI.withF (PyI.defAt (x := "cheapest") (st := K72.s_cheapest) KX G ?a ?l ?c ?k) ?go_cheapest; (case a => k_is); (case l => k_is); (case c => k_is); (case k => k_is)
    intro d_cheapest
    refine' PyI.withF (PyI.defAt (x := "_law_mixed") (st := K72.s__law_mixed) KX G ?a ?l ?c ?k) ?go__law_mixed; (case a => k_is); (case l => k_is); (case c => k_is); (case k => k_is)
    intro d__law_mixed
    refine' PyI.withF (PyI.defAt (x := "_law_plans") (st := K72.s__law_plans) KX G ?a ?l ?c ?k) ?go__law_plans; (case a => k_is); (case l => k_is); (case c => k_is); (case k => k_is)
    intro d__law_plans
    refine' PyI.withF (PyI.defAt (x := "_law_crossings") (st := K72.s__law_crossings) KX G ?a ?l ?c ?k) ?go__law_crossings; (case a => k_is); (case l => k_is); (case c => k_is); (case k => k_is)
    intro d__law_crossings
    refine' PyI.withF (PyI.defAt (x := "_law_word") (st := K72.s__law_word) KX G ?a ?l ?c ?k) ?go__law_word; (case a => k_is); (case l => k_is); (case c => k_is); (case k => k_is)
    intro d__law_word
    refine' PyI.withF (PyI.defAt (x := "law") (st := K72.s_law) KX G ?a ?l ?c ?k) ?go_law; (case a => k_is); (case l => k_is); (case c => k_is); (case k => k_is)
    intro d_law
    have f_plans_for := PyI.DefAt.fn d_plans_for
    have f_cheapest := PyI.DefAt.fn d_cheapest
    have x := K72.Fx.mk m_int m_isinstance m_bool m_tuple m_all m_any m_len m_range m_sorted m_min m_ValueError m_enumerate m_list g_MOST_LINES e_NoPlan e_NoSize c_NoSize c_NoPairing c_NoNet c_NoSettings c_NoThings c_NoCalls c_NoFrame c_NoPlan c_NoText f_plans_for f_cheapest t_PairError kx d_is_whole d_multiplied d_need_plan d_crossings_in d_crossings d_all_plans d_plans_for d_cheapest d__law_mixed d__law_plans d__law_crossings d__law_word d_law
    exact PyI.law_all G hmg d_law K72.sc_law (fun _ _ _ _ _ _ us hl => match us, hl with | [_], _ => rfl) (fun base f => K72.ok_law x f) K72.law_true
