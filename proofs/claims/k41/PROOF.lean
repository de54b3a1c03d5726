import PyProof.Rows.All
import Wide.All
import OpenK.AllK
import Wide.FinOn
import KE.DatumMore
import KE.KExcLine
import HandS.ForMost
import HandS.Exc
import HandS.TryOnly
import HandS.ExcOwn
import HandS.WordsExc
import HandS.IsInst
import HandS.ExcValue
import HandS.Conv
import HandS.Style
import HandS.SortOrd
import HandS.CallSlots
import HandS.Defaults
import HandS.ExcIs
import HandS.Deep
import HandS.Dict
import HandS.SortInts
import HandS.TupSets
import PySem.Challenge.RW_pairhall_k41_rows_unsorted
set_option Elab.async false
set_option linter.all false
set_option maxRecDepth 100000
namespace PyI
open PySem PySem.Spec PyProof.Rows L2

/-! ### values -/
inductive Fl where
  | own | sh | bw | tr
  deriving DecidableEq, Repr, Inhabited

/-- the kind of an object: a list, a dict (keys ints and texts, or tuples of them), an instance -/
inductive Kd where
  | lst | dK (ks : List Key) | dT (ks : List (List Key)) | ins (c : Str) (fs : List Str)
  deriving DecidableEq, Inhabited

/-- what stands for itself: a built-in class, an own class, an own def, an exception of an own class -/
inductive Sym where
  | ty (n : String) | cls (c : Str) | fn (c : Str) | exc (c : Str)
  deriving DecidableEq, Inhabited
inductive Vl where
  | non | bl (b : Bool) | int (i : Int) | str (x : Str) | ref (n : Nat) | sym (k : Sym)
  | tup (xs : List Vl) | nd (f : Fl) (k : Kd) (xs : List Vl)
  deriving Inhabited
abbrev Vl.lst (f : Fl) (xs : List Vl) : Vl := .nd f .lst xs
/-- the object of a kind, with what is in it -/
def hoOf (mg : Str → Option Value) (k : Kd) (xs : List V) (o : HO) : Prop := match k with
  | .lst => o = .lst xs
  | .dK ks => ks.length = xs.length ∧ o = .dK (ks.zip xs)
  | .dT ks => ks.length = xs.length ∧ o = .dT (ks.zip xs)
  | .ins c fs => fs.length = xs.length ∧ ∃ C dx, mg c = some (.ref C) ∧ o = .ins C dx (fs.zip xs)

/-- the mutable ones -/
def MutO : Option HO → Prop
  | some (.lst _) => True
  | some (.dK _) => True
  | some (.dT _) => True
  | some (.ins _ _ _) => True
  | _ => False

/-- a list of the written part -/
def KL (K : PySem.W.Frag) (a : Addr) (xs : List V) : Prop :=
  ∃ (o : Obj) (its : Array Value) (n : Nat), K.lookup a = some o ∧ o.cls = .type "list" ∧ o.dict = none ∧ o.data = .seq its n ∧ its.size ≤ sizeLine ∧ Vals xs its.toList

theorem hoOf_mut {mg : Str → Option Value} {k : Kd} {xs : List V} {o : HO} (h : hoOf mg k xs o) : MutO (some o) := by
  cases k with
  | lst => cases h; trivial
  | dK ks => obtain ⟨_, rfl⟩ := h; trivial
  | dT ks => obtain ⟨_, rfl⟩ := h; trivial
  | ins c fs => obtain ⟨_, C, dx, _, rfl⟩ := h; trivial
/-- a caught exception of the class cls, at a -/
def ExT (cls : Value) (a : Addr) : HO := .ext fun h => ∃ oe : Obj, h.get? a = some oe ∧ Zc cls none oe ∧ ∃ vs, oe.data = .fields vs
def symR (mg : Str → Option Value) (H : Hp) (k : Sym) (x : V) : Prop := match k with
  | .ty n => x = .ty n
  | .cls c => ∃ C, mg c = some (.ref C) ∧ x = .ref C
  | .fn c => ∃ C, mg c = some (.ref C) ∧ x = .ref C
  | .exc c => ∃ C a, mg c = some (.ref C) ∧ x = .ref a ∧ H a = some (ExT (.ref C) a)
theorem symR.keep {mg : Str → Option Value} {H H' : Hp} {k : Sym} {x : V} (h : symR mg H k x) (s : ∀ b o, H b = some o → ¬ MutO (some o) → H' b = some o) : symR mg H' k x := by
  cases k with
  | exc c =>
    obtain ⟨C, a, h1, h2, h3⟩ := h
    exact ⟨C, a, h1, h2, s a _ h3 fun z => z⟩
  | _ => exact h
mutual
inductive Rep (K : PySem.W.Frag) (mg : Str → Option Value) (H : Hp) (F T : Addr → Prop) (as : List Addr) : Vl → V → (Addr → Nat) → Prop
  | non (hc : ∀ b, c b = 0) : Rep K mg H F T as .non .non c
  | bl (hc : ∀ b, c b = 0) : Rep K mg H F T as (.bl k) (.bl k) c
  | int (hc : ∀ b, c b = 0) : Rep K mg H F T as (.int i) (.int i) c
  | str (hc : ∀ b, c b = 0) : Rep K mg H F T as (.str x) (.str x) c
  | ref (h : as[n]? = some a) (hc : ∀ b, c b = 0) : Rep K mg H F T as (.ref n) (.ref a) c
  | sym (h : symR mg H k x) (hc : ∀ b, c b = 0) : Rep K mg H F T as (.sym k) x c
  | tup (h : SqT K H a xs) (r : Reps K mg H F T as vs xs c) : Rep K mg H F T as (.tup vs) (.ref a) c
  | own (h : H a = some o) (ho : hoOf mg k xs o) (r : Reps K mg H F T as vs xs c') (hc : ∀ b, c b = (if b = a then 1 else 0) + c' b) : Rep K mg H F T as (.nd .own k vs) (.ref a) c
  | sh (h : (F a ∧ ∃ o, hoOf mg k xs o ∧ L2.Rd H a o) ∨ (k = .lst ∧ KL K a xs)) (r : Reps K mg H F T as vs xs c) (hc : ∀ b, c b = 0) : Rep K mg H F T as (.nd .sh k vs) (.ref a) c
  | bw (h : (T a ∧ ∃ o, hoOf mg k xs o ∧ L2.Rd H a o) ∨ (k = .lst ∧ KL K a xs)) (r : Reps K mg H F T as vs xs c) (hc : ∀ b, c b = 0) : Rep K mg H F T as (.nd .bw k vs) (.ref a) c
  | tr (h : (∃ o, hoOf mg k xs o ∧ L2.Rd H a o) ∨ (k = .lst ∧ KL K a xs)) (r : Reps K mg H F T as vs xs c) (hc : ∀ b, c b = 0) : Rep K mg H F T as (.nd .tr k vs) (.ref a) c
inductive Reps (K : PySem.W.Frag) (mg : Str → Option Value) (H : Hp) (F T : Addr → Prop) (as : List Addr) : List Vl → List V → (Addr → Nat) → Prop
  | nil (hc : ∀ b, c b = 0) : Reps K mg H F T as [] [] c
  | cons (r : Rep K mg H F T as v x c1) (s : Reps K mg H F T as vs xs c2) (hc : ∀ b, c b = c1 b + c2 b) : Reps K mg H F T as (v :: vs) (x :: xs) c
end

mutual
/-- no transient list within -/
def noTr : Vl → Bool
  | .tup xs => noTrs xs
  | .nd f _ xs => (f != .tr) && noTrs xs
  | _ => true
def noTrs : List Vl → Bool
  | [] => true
  | v :: r => noTr v && noTrs r
end

section
variable {K : PySem.W.Frag} {mg : Str → Option Value} {H H' : Hp} {F F' T T' : Addr → Prop} {as as' : List Addr}
theorem KL.seq {a : Addr} {xs : List V} (h : KL K a xs) : SqL K H a xs := .inr h
/-- what must stay -/
def Stay (H H' : Hp) (F T : Addr → Prop) (c : Addr → Nat) : Prop := ∀ b o, H b = some o → (F b ∨ T b ∨ c b ≠ 0 ∨ ¬ MutO (some o)) → H' b = some o
theorem Stay.rd {c : Addr → Nat} {a : Addr} {u : HO} (s : Stay H H' F T c) (h : L2.Rd H a u) (q : F a ∨ T a ∨ c a ≠ 0 ∨ ¬ MutO (some u)) : L2.Rd H' a u := by
  rcases h with h | ⟨o, h⟩
  · exact .inl (s _ _ h q)
  · exact .inr ⟨o, s _ _ h (.inr (.inr (.inr (fun z => z))))⟩
theorem Stay.sqT {c : Addr → Nat} {a : Addr} {xs : List V} (s : Stay H H' F T c) (h : SqT K H a xs) : SqT K H' a xs := by
  rcases h with h | h
  · exact .inl (s.rd h (.inr (.inr (.inr fun z => z))))
  · exact .inr h
theorem Stay.le {c c' : Addr → Nat} (s : Stay H H' F T c) (h : ∀ b, c' b ≠ 0 → c b ≠ 0) : Stay H H' F T c' := fun b o e q => s b o e (by
  rcases q with q | q | q | q
  · exact .inl q
  · exact .inr (.inl q)
  · exact .inr (.inr (.inl (h b q)))
  · exact .inr (.inr (.inr q)))
mutual
theorem Rep.stay {v : Vl} {x : V} {c : Addr → Nat} (r : Rep K mg H F T as v x c) (nt : noTr v = true) (s : Stay H H' F T c) (hF : ∀ b, F b → F' b) (hT : ∀ b, T b → T' b) (ha : ∀ (n : Nat) (a : Addr), as[n]? = some a → as'[n]? = some a) : Rep K mg H' F' T' as' v x c := by
  cases r with
  | non hc => exact .non hc
  | bl hc => exact .bl hc
  | int hc => exact .int hc
  | str hc => exact .str hc
  | ref h hc => exact .ref (ha _ _ h) hc
  | sym h hc => exact .sym (h.keep fun b o e q => s b o e (.inr (.inr (.inr q)))) hc
  | tup h r =>
    unfold noTr at nt
    exact .tup (s.sqT h) (Reps.stay r nt s hF hT ha)
  | own h ho r hc =>
    unfold noTr at nt
    simp only [Bool.and_eq_true] at nt
    exact .own (s _ _ h (.inr (.inr (.inl (by rw [hc]; simp))))) ho (Reps.stay r nt.2 (s.le fun b q => by rw [hc]; omega) hF hT ha) hc
  | sh h r hc =>
    unfold noTr at nt
    simp only [Bool.and_eq_true] at nt
    refine .sh ?_ (Reps.stay r nt.2 s hF hT ha) hc
    rcases h with ⟨h1, h2⟩ | h
    · obtain ⟨o, ho, h2⟩ := h2
      exact .inl ⟨hF _ h1, o, ho, s.rd h2 (.inl h1)⟩
    · exact .inr h
  | bw h r hc =>
    unfold noTr at nt
    simp only [Bool.and_eq_true] at nt
    refine .bw ?_ (Reps.stay r nt.2 s hF hT ha) hc
    rcases h with ⟨h1, h2⟩ | h
    · obtain ⟨o, ho, h2⟩ := h2
      exact .inl ⟨hT _ h1, o, ho, s.rd h2 (.inr (.inl h1))⟩
    · exact .inr h
  | tr h r hc =>
    unfold noTr at nt
    simp at nt
theorem Reps.stay {v : List Vl} {x : List V} {c : Addr → Nat} (r : Reps K mg H F T as v x c) (nt : noTrs v = true) (s : Stay H H' F T c) (hF : ∀ b, F b → F' b) (hT : ∀ b, T b → T' b) (ha : ∀ (n : Nat) (a : Addr), as[n]? = some a → as'[n]? = some a) : Reps K mg H' F' T' as' v x c := by
  cases r with
  | nil hc => exact .nil hc
  | cons r1 r2 hc =>
    unfold noTrs at nt
    simp only [Bool.and_eq_true] at nt
    exact .cons (Rep.stay r1 nt.1 (s.le fun b q => by rw [hc]; omega) hF hT ha) (Reps.stay r2 nt.2 (s.le fun b q => by rw [hc]; omega) hF hT ha) hc
end

mutual
/-- .. where all that is tracked stays -/
theorem Rep.same {v : Vl} {x : V} {c : Addr → Nat} (r : Rep K mg H F T as v x c) (s : Same H H') (hF : ∀ b, F b → F' b) (hT : ∀ b, T b → T' b) (ha : ∀ (n : Nat) (a : Addr), as[n]? = some a → as'[n]? = some a) : Rep K mg H' F' T' as' v x c := by
  have st : Stay H H' F T c := fun b o e _ => s b o e
  cases r with
  | non hc => exact .non hc
  | bl hc => exact .bl hc
  | int hc => exact .int hc
  | str hc => exact .str hc
  | ref h hc => exact .ref (ha _ _ h) hc
  | sym h hc => exact .sym (h.keep fun b o e q => s b o e) hc
  | tup h r => exact .tup (st.sqT h) (Reps.same r s hF hT ha)
  | own h ho r hc => exact .own (s _ _ h) ho (Reps.same r s hF hT ha) hc
  | sh h r hc =>
    refine .sh ?_ (Reps.same r s hF hT ha) hc
    rcases h with ⟨h1, h2⟩ | h
    · obtain ⟨o, ho, h2⟩ := h2
      exact .inl ⟨hF _ h1, o, ho, st.rd h2 (.inl h1)⟩
    · exact .inr h
  | bw h r hc =>
    refine .bw ?_ (Reps.same r s hF hT ha) hc
    rcases h with ⟨h1, h2⟩ | h
    · obtain ⟨o, ho, h2⟩ := h2
      exact .inl ⟨hT _ h1, o, ho, st.rd h2 (.inr (.inl h1))⟩
    · exact .inr h
  | tr h r hc =>
    refine .tr ?_ (Reps.same r s hF hT ha) hc
    rcases h with ⟨o, ho, h2⟩ | h
    · refine .inl ⟨o, ho, ?_⟩
      rcases h2 with h2 | ⟨u, h2⟩
      · exact .inl (s _ _ h2)
      · exact .inr ⟨u, s _ _ h2⟩
    · exact .inr h
theorem Reps.same {v : List Vl} {x : List V} {c : Addr → Nat} (r : Reps K mg H F T as v x c) (s : Same H H') (hF : ∀ b, F b → F' b) (hT : ∀ b, T b → T' b) (ha : ∀ (n : Nat) (a : Addr), as[n]? = some a → as'[n]? = some a) : Reps K mg H' F' T' as' v x c := by
  cases r with
  | nil hc => exact .nil hc
  | cons r1 r2 hc => exact .cons (Rep.same r1 s hF hT ha) (Reps.same r2 s hF hT ha) hc
end
mutual
/-- what is counted is mutable and tracked -/
theorem Rep.mu {v : Vl} {x : V} {c : Addr → Nat} (r : Rep K mg H F T as v x c) : ∀ b, c b ≠ 0 → MutO (H b) := by
  cases r with
  | non hc => exact fun b q => absurd (hc b) q
  | bl hc => exact fun b q => absurd (hc b) q
  | int hc => exact fun b q => absurd (hc b) q
  | str hc => exact fun b q => absurd (hc b) q
  | ref h hc => exact fun b q => absurd (hc b) q
  | sym h hc => exact fun b q => absurd (hc b) q
  | tup h r => exact Reps.mu r
  | own h ho r hc =>
    rename_i a o k xs vs c'
    intro b q
    by_cases e : b = a
    · rw [e, h]; exact hoOf_mut ho
    · rw [hc, if_neg e] at q
      exact Reps.mu r b (by omega)
  | sh h r hc => exact fun b q => absurd (hc b) q
  | bw h r hc => exact fun b q => absurd (hc b) q
  | tr h r hc => exact fun b q => absurd (hc b) q
theorem Reps.mu {v : List Vl} {x : List V} {c : Addr → Nat} (r : Reps K mg H F T as v x c) : ∀ b, c b ≠ 0 → MutO (H b) := by
  cases r with
  | nil hc => exact fun b q => absurd (hc b) q
  | cons r1 r2 hc =>
    rename_i c1 vs xs c2
    intro b q
    rw [hc] at q
    by_cases e : c1 b = 0
    · exact Reps.mu r2 b (by omega)
    · exact Rep.mu r1 b e
end
end

/-! ### flags -/
mutual
/-- every list within under one flag -/
def setF (f : Fl) : Vl → Vl
  | .tup xs => .tup (setFs f xs)
  | .nd _ k xs => .nd f k (setFs f xs)
  | .non => .non
  | .bl b => .bl b
  | .int i => .int i
  | .str x => .str x
  | .ref n => .ref n
  | .sym c => .sym c
def setFs (f : Fl) : List Vl → List Vl
  | [] => []
  | v :: r => setF f v :: setFs f r
end
mutual
/-- a peek: what is own is transient -/
def peek : Vl → Vl
  | .tup xs => .tup (peeks xs)
  | .nd f k xs => .nd (if f = .own then .tr else f) k (peeks xs)
  | .non => .non
  | .bl b => .bl b
  | .int i => .int i
  | .str x => .str x
  | .ref n => .ref n
  | .sym c => .sym c
def peeks : List Vl → List Vl
  | [] => []
  | v :: r => peek v :: peeks r
end
mutual
/-- no ref within -/
def noRef : Vl → Bool
  | .ref _ => false
  | .tup xs => noRefs xs
  | .nd _ _ xs => noRefs xs
  | _ => true
def noRefs : List Vl → Bool
  | [] => true
  | v :: r => noRef v && noRefs r
end
mutual
/-- all lists within are own, no refs -/
def allOwn : Vl → Bool
  | .ref _ => false
  | .tup xs => allOwns xs
  | .nd f _ xs => (f == .own) && allOwns xs
  | _ => true
def allOwns : List Vl → Bool
  | [] => true
  | v :: r => allOwn v && allOwns r
end
mutual
/-- no own list within (may be copied) -/
def noOwn : Vl → Bool
  | .tup xs => noOwns xs
  | .nd f _ xs => (f != .own) && noOwns xs
  | _ => true
def noOwns : List Vl → Bool
  | [] => true
  | v :: r => noOwn v && noOwns r
end
mutual
/-- may be stored: no transient, no borrowed -/
def stor : Vl → Bool
  | .tup xs => stors xs
  | .nd f _ xs => (f == .own || f == .sh) && stors xs
  | _ => true
def stors : List Vl → Bool
  | [] => true
  | v :: r => stor v && stors r
end
section
variable {K : PySem.W.Frag} {mg : Str → Option Value} {H H' : Hp} {F F' T T' : Addr → Prop} {as as' : List Addr}
mutual
theorem stor_noTr : ∀ {v : Vl}, stor v = true → noTr v = true
  | .tup xs, h => by unfold stor at h; unfold noTr; exact stors_noTrs h
  | .nd f _ xs, h => by
    unfold stor at h; unfold noTr
    simp only [Bool.and_eq_true] at h ⊢
    refine ⟨?_, stors_noTrs h.2⟩
    cases f <;> simp_all <;> decide
  | .non, _ => rfl
  | .bl _, _ => rfl
  | .int _, _ => rfl
  | .str _, _ => rfl
  | .ref _, _ => rfl
  | .sym _, _ => rfl
theorem stors_noTrs : ∀ {vs : List Vl}, stors vs = true → noTrs vs = true
  | [], _ => rfl
  | v :: r, h => by
    unfold stors at h; unfold noTrs
    simp only [Bool.and_eq_true] at h ⊢
    exact ⟨stor_noTr h.1, stors_noTrs h.2⟩
end
mutual
/-- the borrowed don't matter where there are none -/
theorem Rep.anyT {v : Vl} {x : V} {c : Addr → Nat} (r : Rep K mg H F T as v x c) (s : stor v = true) : Rep K mg H F T' as v x c := by
  cases r with
  | non hc => exact .non hc
  | bl hc => exact .bl hc
  | int hc => exact .int hc
  | str hc => exact .str hc
  | ref h hc => exact .ref h hc
  | sym h hc => exact .sym h hc
  | tup h r => unfold stor at s; exact .tup h (Reps.anyT r s)
  | own h ho r hc => unfold stor at s; simp only [Bool.and_eq_true] at s; exact .own h ho (Reps.anyT r s.2) hc
  | sh h r hc => unfold stor at s; simp only [Bool.and_eq_true] at s; exact .sh h (Reps.anyT r s.2) hc
  | bw h r hc => unfold stor at s; simp at s
  | tr h r hc => unfold stor at s; simp at s
theorem Reps.anyT {v : List Vl} {x : List V} {c : Addr → Nat} (r : Reps K mg H F T as v x c) (s : stors v = true) : Reps K mg H F T' as v x c := by
  cases r with
  | nil hc => exact .nil hc
  | cons r1 r2 hc => unfold stors at s; simp only [Bool.and_eq_true] at s; exact .cons (Rep.anyT r1 s.1) (Reps.anyT r2 s.2) hc
end
mutual
/-- a peek -/
theorem Rep.peek {v : Vl} {x : V} {c : Addr → Nat} (r : Rep K mg H F T as v x c) : Rep K mg H F T as (peek v) x (fun _ => 0) := by
  cases r with
  | non hc => unfold PyI.peek; exact .non fun _ => rfl
  | bl hc => unfold PyI.peek; exact .bl fun _ => rfl
  | int hc => unfold PyI.peek; exact .int fun _ => rfl
  | str hc => unfold PyI.peek; exact .str fun _ => rfl
  | ref h hc => unfold PyI.peek; exact .ref h fun _ => rfl
  | sym h hc => unfold PyI.peek; exact .sym h fun _ => rfl
  | tup h r => unfold PyI.peek; exact .tup h (Reps.peek r)
  | own h ho r hc => unfold PyI.peek; exact .tr (.inl ⟨_, ho, .inl h⟩) (Reps.peek r) fun _ => rfl
  | sh h r hc => unfold PyI.peek; exact .sh h (Reps.peek r) fun _ => rfl
  | bw h r hc => unfold PyI.peek; exact .bw h (Reps.peek r) fun _ => rfl
  | tr h r hc => unfold PyI.peek; exact .tr h (Reps.peek r) fun _ => rfl
theorem Reps.peek {v : List Vl} {x : List V} {c : Addr → Nat} (r : Reps K mg H F T as v x c) : Reps K mg H F T as (peeks v) x (fun _ => 0) := by
  cases r with
  | nil hc => unfold peeks; exact .nil fun _ => rfl
  | cons r1 r2 hc => unfold peeks; exact .cons (Rep.peek r1) (Reps.peek r2) fun _ => rfl
end
/-- what is tracked -/
def Trk (H : Hp) : Addr → Prop := fun b => H b ≠ none
theorem rd_trk {a : Addr} {u : HO} (h : L2.Rd H a u) : Trk H a := by
  rcases h with h | ⟨o, h⟩ <;> (intro e; rw [h] at e; cases e)
theorem sh_rd {a : Addr} {k : Kd} {xs : List V} {S : Addr → Prop} (h : (S a ∧ ∃ o, hoOf mg k xs o ∧ L2.Rd H a o) ∨ (k = .lst ∧ KL K a xs)) : (Trk H a ∧ ∃ o, hoOf mg k xs o ∧ L2.Rd H a o) ∨ (k = .lst ∧ KL K a xs) := by
  rcases h with ⟨_, o, ho, h⟩ | h
  · exact .inl ⟨rd_trk h, o, ho, h⟩
  · exact .inr h
mutual
/-- handed to a call: all is shared, all that is tracked stands still -/
theorem Rep.hand {v : Vl} {x : V} {c : Addr → Nat} (r : Rep K mg H F T as v x c) (nr : noRef v = true) : Rep K mg H (Trk H) T' as' (setF .sh v) x (fun _ => 0) := by
  cases r with
  | non hc => unfold setF; exact .non fun _ => rfl
  | bl hc => unfold setF; exact .bl fun _ => rfl
  | int hc => unfold setF; exact .int fun _ => rfl
  | str hc => unfold setF; exact .str fun _ => rfl
  | ref h hc => unfold noRef at nr; cases nr
  | sym h hc => unfold setF; exact .sym h fun _ => rfl
  | tup h r => unfold noRef at nr; unfold setF; exact .tup h (Reps.hand r nr)
  | own h ho r hc => unfold noRef at nr; unfold setF; exact .sh (.inl ⟨(by intro e; rw [h] at e; cases e), _, ho, .inl h⟩) (Reps.hand r nr) fun _ => rfl
  | sh h r hc => unfold noRef at nr; unfold setF; exact .sh (sh_rd h) (Reps.hand r nr) fun _ => rfl
  | bw h r hc => unfold noRef at nr; unfold setF; exact .sh (sh_rd h) (Reps.hand r nr) fun _ => rfl
  | tr h r hc =>
    unfold noRef at nr; unfold setF
    refine .sh ?_ (Reps.hand r nr) fun _ => rfl
    rcases h with ⟨o, ho, h⟩ | h
    · exact .inl ⟨rd_trk h, o, ho, h⟩
    · exact .inr h
theorem Reps.hand {v : List Vl} {x : List V} {c : Addr → Nat} (r : Reps K mg H F T as v x c) (nr : noRefs v = true) : Reps K mg H (Trk H) T' as' (setFs .sh v) x (fun _ => 0) := by
  cases r with
  | nil hc => unfold setFs; exact .nil fun _ => rfl
  | cons r1 r2 hc =>
    unfold noRefs at nr
    simp only [Bool.and_eq_true] at nr
    unfold setFs; exact .cons (Rep.hand r1 nr.1) (Reps.hand r2 nr.2) fun _ => rfl
end
mutual
/-- an own value of a call comes home: its refs are none, what stands still there doesn't matter -/
theorem Rep.home {v : Vl} {x : V} {c : Addr → Nat} (r : Rep K mg H F T as v x c) (nr : allOwn v = true) : Rep K mg H F' T' as' v x c := by
  cases r with
  | non hc => exact .non hc
  | bl hc => exact .bl hc
  | int hc => exact .int hc
  | str hc => exact .str hc
  | ref h hc => unfold allOwn at nr; cases nr
  | sym h hc => exact .sym h hc
  | tup h r => unfold allOwn at nr; exact .tup h (Reps.home r nr)
  | own h ho r hc => unfold allOwn at nr; simp only [Bool.and_eq_true] at nr; exact .own h ho (Reps.home r nr.2) hc
  | sh h r hc => unfold allOwn at nr; simp only [Bool.and_eq_true] at nr; exact absurd nr.1 (by decide)
  | bw h r hc => unfold allOwn at nr; simp only [Bool.and_eq_true] at nr; exact absurd nr.1 (by decide)
  | tr h r hc => unfold allOwn at nr; simp only [Bool.and_eq_true] at nr; exact absurd nr.1 (by decide)
theorem Reps.home {v : List Vl} {x : List V} {c : Addr → Nat} (r : Reps K mg H F T as v x c) (nr : allOwns v = true) : Reps K mg H F' T' as' v x c := by
  cases r with
  | nil hc => exact .nil hc
  | cons r1 r2 hc =>
    unfold allOwns at nr
    simp only [Bool.and_eq_true] at nr
    exact .cons (Rep.home r1 nr.1) (Reps.home r2 nr.2) hc
end
mutual
/-- frozen: what was counted stands still from now on -/
theorem Rep.freeze {v : Vl} {x : V} {c : Addr → Nat} (r : Rep K mg H F T as v x c) (st : stor v = true) (hF : ∀ b, F b → F' b) (hc' : ∀ b, c b ≠ 0 → F' b) : Rep K mg H F' T' as (setF .sh v) x (fun _ => 0) := by
  cases r with
  | non hc => unfold setF; exact .non fun _ => rfl
  | bl hc => unfold setF; exact .bl fun _ => rfl
  | int hc => unfold setF; exact .int fun _ => rfl
  | str hc => unfold setF; exact .str fun _ => rfl
  | ref h hc => unfold setF; exact .ref h fun _ => rfl
  | sym h hc => unfold setF; exact .sym h fun _ => rfl
  | tup h r => unfold stor at st; unfold setF; exact .tup h (Reps.freeze r st hF hc')
  | own h ho r hc =>
    unfold stor at st; simp only [Bool.and_eq_true] at st; unfold setF
    exact .sh (.inl ⟨hc' _ (by rw [hc]; simp), _, ho, .inl h⟩) (Reps.freeze r st.2 hF fun b q => hc' b (by rw [hc]; omega)) fun _ => rfl
  | sh h r hc =>
    unfold stor at st; simp only [Bool.and_eq_true] at st; unfold setF
    refine .sh ?_ (Reps.freeze r st.2 hF hc') fun _ => rfl
    rcases h with ⟨h1, h2⟩ | h
    · exact .inl ⟨hF _ h1, h2⟩
    · exact .inr h
  | bw h r hc => unfold stor at st; simp at st
  | tr h r hc => unfold stor at st; simp at st
theorem Reps.freeze {v : List Vl} {x : List V} {c : Addr → Nat} (r : Reps K mg H F T as v x c) (st : stors v = true) (hF : ∀ b, F b → F' b) (hc' : ∀ b, c b ≠ 0 → F' b) : Reps K mg H F' T' as (setFs .sh v) x (fun _ => 0) := by
  cases r with
  | nil hc => unfold setFs; exact .nil fun _ => rfl
  | cons r1 r2 hc =>
    unfold stors at st
    simp only [Bool.and_eq_true] at st
    unfold setFs; exact .cons (Rep.freeze r1 st.1 hF fun b q => hc' b (by rw [hc]; omega)) (Reps.freeze r2 st.2 hF fun b q => hc' b (by rw [hc]; omega)) fun _ => rfl
end
end

/-! ### slots -/
inductive RepSl (K : PySem.W.Frag) (mg : Str → Option Value) (H : Hp) (F T : Addr → Prop) (as : List Addr) : List (Option Vl) → L2.St → (Addr → Nat) → Prop
  | nil (hc : ∀ b, c b = 0) : RepSl K mg H F T as [] [] c
  | no (s : RepSl K mg H F T as sl σ c) : RepSl K mg H F T as (none :: sl) (o :: σ) c
  | yes (r : Rep K mg H F T as v x c1) (nt : noTr v = true) (s : RepSl K mg H F T as sl σ c2) (hc : ∀ b, c b = c1 b + c2 b) : RepSl K mg H F T as (some v :: sl) (some x :: σ) c
section
variable {K : PySem.W.Frag} {mg : Str → Option Value} {H H' : Hp} {F F' T T' : Addr → Prop} {as as' : List Addr}
theorem RepSl.len : ∀ {sl : List (Option Vl)} {σ : L2.St} {c : Addr → Nat}, RepSl K mg H F T as sl σ c → sl.length = σ.length
  | _, _, _, .nil _ => rfl
  | _, _, _, .no s => by simp [s.len]
  | _, _, _, .yes _ _ s _ => by simp [s.len]
theorem RepSl.mu : ∀ {sl : List (Option Vl)} {σ : L2.St} {c : Addr → Nat}, RepSl K mg H F T as sl σ c → ∀ b, c b ≠ 0 → MutO (H b)
  | _, _, _, .nil hc => fun b q => absurd (hc b) q
  | _, _, _, .no s => s.mu
  | _, _, _, .yes (c1 := c1) r _ s hc => fun b q => by
    rw [hc] at q
    by_cases e : c1 b = 0
    · exact s.mu b (by rw [e] at q; omega)
    · exact r.mu b e
theorem RepSl.stay : ∀ {sl : List (Option Vl)} {σ : L2.St} {c : Addr → Nat}, RepSl K mg H F T as sl σ c → Stay H H' F T c → (∀ b, F b → F' b) → (∀ b, T b → T' b) → (∀ (n : Nat) (a : Addr), as[n]? = some a → as'[n]? = some a) → RepSl K mg H' F' T' as' sl σ c
  | _, _, _, .nil hc, _, _, _, _ => .nil hc
  | _, _, _, .no s, t, hF, hT, ha => .no (s.stay t hF hT ha)
  | _, _, _, .yes r nt s hc, t, hF, hT, ha => .yes (r.stay nt (t.le fun b q => by rw [hc]; omega) hF hT ha) nt (s.stay (t.le fun b q => by rw [hc]; omega) hF hT ha) hc
theorem RepSl.get : ∀ {sl : List (Option Vl)} {σ : L2.St} {c : Addr → Nat} {i : Nat} {v : Vl}, RepSl K mg H F T as sl σ c → sl[i]? = some (some v) →
    ∃ x c1 c2, σ[i]? = some (some x) ∧ Rep K mg H F T as v x c1 ∧ noTr v = true ∧ RepSl K mg H F T as (sl.set i none) σ c2 ∧ ∀ b, c b = c1 b + c2 b
  | _, _, _, _, _, .nil _, e => by simp at e
  | _, _, _, 0, _, .no s, e => by simp at e
  | _, _, _, i + 1, _, .no s, e => by
    obtain ⟨x, c1, c2, h1, h2, h3, h4, h5⟩ := s.get (i := i) (by simpa using e)
    exact ⟨x, c1, c2, by simpa using h1, h2, h3, .no h4, h5⟩
  | _, _, _, 0, _, .yes r nt s hc, e => by
    simp at e
    subst e
    exact ⟨_, _, _, rfl, r, nt, .no s, hc⟩
  | _, _, _, i + 1, _, .yes r nt s hc, e => by
    obtain ⟨x, c1, c2, h1, h2, h3, h4, h5⟩ := s.get (i := i) (by simpa using e)
    exact ⟨x, c1, _, by simpa using h1, h2, h3, .yes r nt h4 (fun _ => rfl), fun b => by rw [hc, h5]; omega⟩
theorem RepSl.drop : ∀ {sl : List (Option Vl)} {σ : L2.St} {c : Addr → Nat} (i : Nat), RepSl K mg H F T as sl σ c → ∃ c', RepSl K mg H F T as (sl.set i none) σ c' ∧ ∀ b, c' b ≤ c b
  | _, _, _, i, .nil hc => ⟨_, .nil hc, fun _ => Nat.le_refl _⟩
  | _, _, _, 0, .no s => ⟨_, .no s, fun _ => Nat.le_refl _⟩
  | _, _, _, i + 1, .no s => by
    obtain ⟨c', h1, h2⟩ := s.drop i
    exact ⟨c', .no h1, h2⟩
  | _, _, _, 0, .yes r nt s hc => ⟨_, .no s, fun b => by rw [hc]; omega⟩
  | _, _, _, i + 1, .yes r nt s hc => by
    obtain ⟨c', h1, h2⟩ := s.drop i
    exact ⟨_, .yes r nt h1 (fun _ => rfl), fun b => by rw [hc]; have := h2 b; omega⟩
theorem RepSl.put : ∀ {sl : List (Option Vl)} {σ : L2.St} {c1 c2 : Addr → Nat} {i : Nat} {v : Vl} {x : V}, RepSl K mg H F T as (sl.set i none) σ c2 → i < sl.length → Rep K mg H F T as v x c1 → noTr v = true →
    RepSl K mg H F T as (sl.set i (some v)) (σ.set i (some x)) (fun b => c1 b + c2 b)
  | [], _, _, _, _, _, _, s, h, _, _ => absurd h (Nat.not_lt_zero _)
  | _ :: _, [], _, _, _, _, _, s, _, _, _ => by have := s.len; simp at this
  | _ :: _, _ :: _, _, _, 0, _, _, .no s, _, r, nt => .yes r nt s fun _ => rfl
  | _ :: _, _ :: _, _, _, i + 1, _, _, .no s, h, r, nt => .no (s.put (Nat.lt_of_succ_lt_succ h) r nt)
  | _ :: _, _ :: _, _, _, i + 1, _, _, .yes r0 nt0 s hc, h, r, nt => .yes r0 nt0 (s.put (Nat.lt_of_succ_lt_succ h) r nt) fun b => by rw [hc]; omega
theorem RepSl.putOld : ∀ {sl : List (Option Vl)} {σ : L2.St} {c1 c2 : Addr → Nat} {i : Nat} {v : Vl} {x : V}, RepSl K mg H F T as (sl.set i none) σ c2 → i < sl.length → σ[i]? = some (some x) → Rep K mg H F T as v x c1 → noTr v = true →
    RepSl K mg H F T as (sl.set i (some v)) σ (fun b => c1 b + c2 b) := fun {sl σ c1 c2 i v x} s h e r nt => by
  have := s.put (i := i) h r nt
  rwa [show σ.set i (some x) = σ from List.ext_getElem? fun j => by
    by_cases q : i = j
    · subst q
      rw [List.getElem?_set_self (List.getElem?_eq_some_iff.mp e).1, e]
    · rw [List.getElem?_set_ne q]] at this
end
end PyI

namespace PyI
open PySem PySem.Spec PyProof.Rows L2

/-- slots, cells, the slots that are not to be stored to -/
structure Sta where
  sl : List (Option Vl)
  hp : List Vl
  la : List Nat
inductive R (α : Type) where
  | ok (a : α) | exc (c : Str) (s : Sta) | bad
abbrev E := Sta → R (Vl × Sta × Bool)
abbrev Pre (as as' : List Addr) : Prop := ∀ (n : Nat) (a : Addr), as[n]? = some a → as'[n]? = some a

structure Rel (K : PySem.W.Frag) (mg : Str → Option Value) (F T : Addr → Prop) (as : List Addr) (L : List (Nat × V)) (st : Sta) (σ : L2.St) (H : Hp) (c : Addr → Nat) : Prop where
  rep : ∃ c1 c2, RepSl K mg H F T as st.sl σ c1 ∧ Reps K mg H F T as st.hp (as.map V.ref) c2 ∧ noTrs st.hp = true ∧ ∀ b, c b = c1 b + c2 b
  le : ∀ b, c b ≤ 1
  fr : ∀ b, F b ∨ T b → c b = 0 ∧ H b ≠ none
  lk : st.la = L.map (·.1) ∧ ∀ p ∈ L, σ[p.1]? = some (some p.2)
structure Step (F : Addr → Prop) (c : Addr → Nat) (H : Hp) (F' : Addr → Prop) (c' : Addr → Nat) (H' : Hp) : Prop where
  keep : ∀ b o, H b = some o → c b = 0 → H' b = some o
  grow : ∀ b, c' b ≠ 0 → c b ≠ 0 ∨ H b = none
  le : ∀ b, c' b ≤ 1
  sub : ∀ b, F b → F' b
  dis : ∀ b, F' b → c' b = 0
  fgr : ∀ b, F' b → F b ∨ c b ≠ 0 ∨ H b = none
  trk : ∀ b, H b ≠ none → H' b ≠ none

theorem Same.trk {H H' : Hp} (s : Same H H') : ∀ b, H b ≠ none → H' b ≠ none := fun b q e => by
  cases z : H b with
  | none => exact q z
  | some o => rw [s b o z] at e; cases e
section
variable {K : PySem.W.Frag} {mg : Str → Option Value} {H H' H1 H2 : Hp} {F F' F1 F2 T T' : Addr → Prop} {as as' as1 as2 : List Addr} {L : List (Nat × V)} {st st' : Sta} {σ : L2.St} {c c' c1 c2 c3 cv : Addr → Nat}
theorem Pre.refl : Pre as as := fun _ _ h => h
theorem Pre.trans (a : Pre as as1) (b : Pre as1 as2) : Pre as as2 := fun n x h => b n x (a n x h)
theorem Rel.mu (r : Rel K mg F T as L st σ H c) : ∀ b, c b ≠ 0 → MutO (H b) := by
  obtain ⟨c1, c2, h1, h2, _, h3⟩ := r.rep
  intro b q
  rw [h3] at q
  by_cases e : c1 b = 0
  · exact h2.mu b (by omega)
  · exact h1.mu b e
theorem Rel.len (r : Rel K mg F T as L st σ H c) : st.sl.length = σ.length := by
  obtain ⟨c1, c2, h1, _⟩ := r.rep
  exact h1.len
theorem Rel.there (r : Rel K mg F T as L st σ H c) (b : Addr) (q : c b ≠ 0) : H b ≠ none := fun e => by
  have := r.mu b q
  rw [e] at this
  exact this
/-- what stays of a value in flight behind a step -/
theorem Rel.stay (r : Rel K mg F T as L st σ H c) (hd : ∀ b, cv b ≠ 0 → c b = 0) (s : ∀ b o, H b = some o → c b = 0 → H' b = some o) : Stay H H' F T cv := fun b o e q => by
  refine s b o e ?_
  rcases q with q | q | q | q
  · exact (r.fr b (.inl q)).1
  · exact (r.fr b (.inr q)).1
  · exact hd b q
  · by_cases z : c b = 0
    · exact z
    · have := r.mu b z
      rw [e] at this
      exact absurd this q
theorem Rel.same (r : Rel K mg F T as L st σ H c) (s : Same H H') : Rel K mg F T as L st σ H' c := by
  obtain ⟨c1, c2, h1, h2, h3, h4⟩ := r.rep
  have sy : ∀ d, Stay H H' F T d := fun d b o e _ => s b o e
  refine ⟨⟨c1, c2, h1.stay (sy _) (fun _ h => h) (fun _ h => h) Pre.refl, h2.stay h3 (sy _) (fun _ h => h) (fun _ h => h) Pre.refl, h3, h4⟩, r.le, fun b q => ⟨(r.fr b q).1, fun e => ?_⟩, r.lk⟩
  cases z : H b with
  | none => exact (r.fr b q).2 z
  | some o => rw [s b o z] at e; cases e
theorem Step.refl (h : ∀ b, c b ≤ 1) (d : ∀ b, F b → c b = 0) : Step F c H F c H := ⟨fun _ _ e _ => e, fun _ q => .inl q, h, fun _ h => h, d, fun _ h => .inl h, fun _ h => h⟩
theorem Rel.refl (r : Rel K mg F T as L st σ H c) : Step F c H F c H := Step.refl r.le fun b q => (r.fr b (.inl q)).1
/-- a step's end as a beginning -/
theorem Step.here (s : Step F c H F' c' H') : Step F' c' H' F' c' H' := Step.refl s.le s.dis
/-- less is held -/
theorem Step.less (s : Step F c H F' c' H') (h : ∀ b, c2 b ≤ c' b) : Step F c H F' c2 H' := ⟨s.keep, fun b q => s.grow b (by have := h b; omega), fun b => Nat.le_trans (h b) (s.le b), s.sub, fun b q => by have := h b; have := s.dis b q; omega, s.fgr, s.trk⟩
theorem Step.trans (a : Step F c H F1 c1 H1) (b : Step F1 c1 H1 F2 c2 H2) : Step F c H F2 c2 H2 where
  keep := fun d o e q => by
    refine b.keep d o (a.keep d o e q) ?_
    by_cases z : c1 d = 0
    · exact z
    · rcases a.grow d z with y | y
      · exact absurd q y
      · rw [e] at y; cases y
  grow := fun d q => by
    rcases b.grow d q with y | y
    · exact a.grow d y
    · by_cases z : c d = 0
      · refine .inr ?_
        cases w : H d with
        | none => rfl
        | some o => rw [a.keep d o w z] at y; cases y
      · exact .inl z
  le := b.le
  sub := fun d h => b.sub d (a.sub d h)
  dis := b.dis
  fgr := fun d q => by
    rcases b.fgr d q with y | y | y
    · exact a.fgr d y
    · exact .inr (a.grow d y)
    · by_cases z : c d = 0
      · refine .inr (.inr ?_)
        cases w : H d with
        | none => rfl
        | some o => rw [a.keep d o w z] at y; cases y
      · exact .inr (.inl z)
  trk := fun d q => b.trk d (a.trk d q)
/-- a step, a value (cv) in flight through a second one -/
theorem Step.flight (r1 : Rel K mg F1 T as1 L st' σ H1 c1) (mv : ∀ b, cv b ≠ 0 → MutO (H1 b)) (a : Step F c H F1 (fun b => c1 b + cv b) H1) (b : Step F1 c1 H1 F2 c2 H2) : Step F c H F2 (fun b => c2 b + cv b) H2 where
  keep := fun d o e q => by
    have h1 := a.keep d o e q
    refine b.keep d o h1 ?_
    by_cases z : c1 d = 0
    · exact z
    · rcases a.grow d (by show c1 d + cv d ≠ 0; omega) with y | y
      · exact absurd q y
      · rw [e] at y; cases y
  grow := fun d q => by
    by_cases w : cv d = 0
    · rcases b.grow d (by have : c2 d + cv d ≠ 0 := q; omega) with y | y
      · exact a.grow d (by show c1 d + cv d ≠ 0; omega)
      · by_cases z : c d = 0
        · refine .inr ?_
          cases w : H d with
          | none => rfl
          | some o => rw [a.keep d o w z] at y; cases y
        · exact .inl z
    · exact a.grow d (by show c1 d + cv d ≠ 0; omega)
  le := fun d => by
    show c2 d + cv d ≤ 1
    by_cases w : cv d = 0
    · have := b.le d; omega
    · have h1 := a.le d
      have h1 : c1 d + cv d ≤ 1 := h1
      have z : c1 d = 0 := by omega
      have y : c2 d = 0 := by
        by_cases y : c2 d = 0
        · exact y
        · rcases b.grow d y with y | y
          · exact absurd z y
          · have := mv d w
            rw [y] at this
            exact this.elim
      omega
  sub := fun d h => b.sub d (a.sub d h)
  dis := fun d q => by
    have h0 := b.dis d q
    show c2 d + cv d = 0
    have h1 := a.le d
    have h1 : c1 d + cv d ≤ 1 := h1
    rcases b.fgr d q with y | y | y
    · have := a.dis d y
      have : c1 d + cv d = 0 := this
      omega
    · omega
    · by_cases w : cv d = 0
      · omega
      · have := mv d w
        rw [y] at this
        exact this.elim
  fgr := fun d q => by
    rcases b.fgr d q with y | y | y
    · exact a.fgr d y
    · exact .inr (a.grow d (by show c1 d + cv d ≠ 0; omega))
    · by_cases z : c d = 0
      · refine .inr (.inr ?_)
        cases w : H d with
        | none => rfl
        | some o => rw [a.keep d o w z] at y; cases y
      · exact .inr (.inl z)
  trk := fun d q => b.trk d (a.trk d q)
end

/-! ### expressions -/
/-- what is wanted of an exception: of its class by the module's name -/
def XPost (K : PySem.W.Frag) (mg : Str → Option Value) (W : WX) (T : Addr → Prop) (as : List Addr) (L : List (Nat × V)) (F : Addr → Prop) (c : Addr → Nat) (H : Hp) (cl : Str) (st' : Sta) : Prop :=
  ∀ F' as' σ' H' c1, Rel K mg F' T as' L st' σ' H' c1 → Step F c H F' c1 H' → Pre as as' → ∀ C, mg cl = some (.ref C) → W (.ref C) none σ' H'
def EPost (K : PySem.W.Frag) (mg : Str → Option Value) (W : WX) (F T : Addr → Prop) (as : List Addr) (L : List (Nat × V)) (st : Sta) (c : Addr → Nat) (σ : L2.St) (H : Hp) (r : R (Vl × Sta × Bool)) (Q : VK) : Prop := match r with
  | .ok (v, st', eff) => ∀ F' as' H' x c1 c2, Rel K mg F' T as' L st' σ H' c1 → Rep K mg H' F' T as' v x c2 → Step F c H F' (fun b => c1 b + c2 b) H' → Pre as as' → (eff = false → Same H H' ∧ st' = st ∧ ∀ b, F' b → F b) → Q x H'
  | .exc cl st' => XPost K mg W T as L F c H cl st'
  | .bad => False
def EI (K : PySem.W.Frag) (mg : Str → Option Value) (W : WX) (f : E) : TE := fun σ H Q => ∃ F T as L st c, Rel K mg F T as L st σ H c ∧ EPost K mg W F T as L st c σ H (f st) Q
def EOk (X : Cx) (e : Expr) (f : E) : Prop := ∀ W, Takes X W → PE X e (EI X.K X.mg W f)
/-- a test: its value is a bool -/
def TsI (K : PySem.W.Frag) (mg : Str → Option Value) (W : WX) (f : E) : TT := fun σ H Q => EI K mg W f σ H fun x H' => ∃ b, x = .bl b ∧ Q b H'
def TOk (X : Cx) (e : Expr) (f : E) : Prop := ∀ W, Takes X W → PT X e (TsI X.K X.mg W f)
def TWOk (X : Cx) (e : Expr) (f : E) : Prop := ∀ W, Takes X W → PW X e (TsI X.K X.mg W f)

/-- several, from the left -/
def evs : List E → Sta → R (List Vl × Sta × Bool)
  | [], st => .ok ([], st, false)
  | f :: r, st => match f st with
    | .ok (v, st1, e1) => match evs r st1 with
      | .ok (vs, st2, e2) => if noTr v || !e2 then .ok (v :: vs, st2, e1 || e2) else .bad
      | .exc c s => .exc c s
      | .bad => .bad
    | .exc c s => .exc c s
    | .bad => .bad
def APost (K : PySem.W.Frag) (mg : Str → Option Value) (W : WX) (F T : Addr → Prop) (as : List Addr) (L : List (Nat × V)) (st : Sta) (c : Addr → Nat) (σ : L2.St) (H : Hp) (r : R (List Vl × Sta × Bool)) (Q : List V → Hp → Prop) : Prop := match r with
  | .ok (vs, st', eff) => ∀ F' as' H' xs c1 c2, Rel K mg F' T as' L st' σ H' c1 → Reps K mg H' F' T as' vs xs c2 → Step F c H F' (fun b => c1 b + c2 b) H' → Pre as as' → (eff = false → Same H H' ∧ st' = st ∧ ∀ b, F' b → F b) → Q xs H'
  | .exc cl st' => XPost K mg W T as L F c H cl st'
  | .bad => False
def AI (K : PySem.W.Frag) (mg : Str → Option Value) (W : WX) (fs : List E) : TA := fun σ H Q => ∃ F T as L st c, Rel K mg F T as L st σ H c ∧ APost K mg W F T as L st c σ H (evs fs st) Q
section
variable {K : PySem.W.Frag} {mg : Str → Option Value} {W : WX} {f : E} {fs : List E} {σ : L2.St} {H : Hp}
theorem XPost.back {T : Addr → Prop} {as as1 : List Addr} {L : List (Nat × V)} {F F1 : Addr → Prop} {c c1 cv : Addr → Nat} {H H1 : Hp} {cl : Str} {st1 st' : Sta} (h : XPost K mg W T as L F c H cl st') (r1 : Rel K mg F1 T as1 L st1 σ H1 c1) (mv : ∀ b, cv b ≠ 0 → MutO (H1 b)) (a : Step F c H F1 (fun b => c1 b + cv b) H1) (p : Pre as as1) :
    XPost K mg W T as1 L F1 c1 H1 cl st' := fun F' as' σ' H' c2 r2 s2 p2 C hC => h F' as' σ' H' c2 r2 ((Step.flight r1 mv a s2).less fun b => Nat.le_add_right _ _) (p.trans p2) C hC
theorem AI.nil {Q : List V → Hp → Prop} (h : AI K mg W [] σ H Q) : Q [] H := by
  obtain ⟨F, T, as, L, st, c, r, p⟩ := h
  exact p F as H [] c (fun _ => 0) r (.nil fun _ => rfl) r.refl Pre.refl fun _ => ⟨Same.refl H, rfl, fun _ h => h⟩
theorem AI.cons {Q : List V → Hp → Prop} (h : AI K mg W (f :: fs) σ H Q) : EI K mg W f σ H fun x H1 => AI K mg W fs σ H1 fun xs H2 => Q (x :: xs) H2 := by
  obtain ⟨F, T, as, L, st, c, r, p⟩ := h
  refine ⟨F, T, as, L, st, c, r, ?_⟩
  unfold evs at p
  cases e1 : f st with
  | bad => rw [e1] at p; exact p
  | exc cl s => rw [e1] at p; exact p
  | ok q =>
    obtain ⟨v, st1, f1⟩ := q
    rw [e1] at p
    intro F1 as1 H1 x c1 cv r1 rv s1 p1 ef1
    refine ⟨F1, T, as1, L, st1, c1, r1, ?_⟩
    simp only at p
    cases e2 : evs fs st1 with
    | bad => rw [e2] at p; exact (show False from p).elim
    | exc cl s => rw [e2] at p; exact XPost.back p r1 rv.mu s1 p1
    | ok q =>
      obtain ⟨vs, st2, f2⟩ := q
      rw [e2] at p
      simp only at p
      intro F2 as2 H2 xs c2 cw r2 rw' s2 p2 ef2
      by_cases cond : (noTr v || !f2) = true
      · rw [if_pos cond] at p
        have fl := Step.flight r1 rv.mu s1 (s2)
        have rv2 : Rep K mg H2 F2 T as2 v x cv := by
          by_cases nt : noTr v = true
          · refine rv.stay nt (r1.stay (fun b q => ?_) s2.keep) s2.sub (fun _ h => h) p2
            have := s1.le b
            have : c1 b + cv b ≤ 1 := this
            omega
          · have nf : f2 = false := by
              cases f2 with
              | false => rfl
              | true => simp [nt] at cond
            exact rv.same (ef2 nf).1 s2.sub (fun _ h => h) p2
        refine p F2 as2 H2 (x :: xs) c2 (fun b => cv b + cw b) r2 (.cons rv2 rw' fun _ => rfl) (fl.less fun b => ?_) (p1.trans p2) fun q => ?_
        · show c2 b + (cv b + cw b) ≤ (c2 b + cw b) + cv b
          omega
        · have q' : (f1 || f2) = false := q
          have q1 : f1 = false := by cases f1 with | false => rfl | true => simp at q'
          have q2 : f2 = false := by cases f2 with | false => rfl | true => simp [q1] at q'
          exact ⟨(ef1 q1).1.trans (ef2 q2).1, (ef2 q2).2.1.trans (ef1 q1).2.1, fun b h => (ef1 q1).2.2 b ((ef2 q2).2.2 b h)⟩
      · rw [if_neg cond] at p
        exact (show False from p).elim
theorem _root_.L2.PE.imp {X : Cx} {e : Expr} {t t' : TE} (h : PE X e t) (i : ∀ σ H Q, t' σ H Q → t σ H Q) : PE X e t' := ⟨fun pins s σ H Q I hq => h.run pins s σ H Q I (i σ H Q hq)⟩
theorem _root_.L2.PT.imp {X : Cx} {e : Expr} {t t' : TT} (h : PT X e t) (i : ∀ σ H Q, t' σ H Q → t σ H Q) : PT X e t' := ⟨fun pins s σ H Q I hq => h.run pins s σ H Q I (i σ H Q hq)⟩
theorem _root_.L2.PW.imp {X : Cx} {e : Expr} {t t' : TT} (h : PW X e t) (i : ∀ σ H Q, t' σ H Q → t σ H Q) : PW X e t' := ⟨fun wh pins s σ H Q I hq => h.run wh pins s σ H Q I (i σ H Q hq)⟩
theorem _root_.L2.PA.imp {X : Cx} {es : List Expr} {t t' : TA} (h : PA X es t) (i : ∀ σ H Q, t' σ H Q → t σ H Q) : PA X es t' := ⟨fun pos pins s σ H Q I hq => h.run pos pins s σ H Q I (i σ H Q hq)⟩
theorem _root_.L2.PS.imp {X : Cx} {s : Stmt} {t t' : TS} (h : PS X s t) (i : ∀ D σ H, t' D σ H → t D σ H) : PS X s t' := ⟨fun pins s σ H D I hq => h.run pins s σ H D I (i D σ H hq)⟩
theorem _root_.L2.PSs.imp {X : Cx} {s : List Stmt} {t t' : TS} (h : PSs X s t) (i : ∀ D σ H, t' D σ H → t D σ H) : PSs X s t' := ⟨fun pins s σ H D I hq => h.run pins s σ H D I (i D σ H hq)⟩
/-- argument lists -/
def AOk (X : Cx) (es : List Expr) (fs : List E) : Prop := ∀ W, Takes X W → PA X es (AI X.K X.mg W fs)
theorem AOk.nil {X : Cx} : AOk X [] [] := fun W _ => pa_nil.imp fun _ _ _ h => h.nil
theorem AOk.cons {X : Cx} {e : Expr} {es : List Expr} {f : E} {fs : List E} (h : EOk X e f) (r : AOk X es fs) (hs : starEach (e :: es) X.env = (false, eval e X.env) :: starEach es X.env := by rfl) : AOk X (e :: es) (f :: fs) := fun W t =>
  (pa_cons (h W t) (r W t) hs).imp fun _ _ _ h => h.cons
end
end PyI

namespace PyI
open PySem PySem.Spec PyProof.Rows L2

/-- within n, either way (a check that the kernel does not unfold number by number) -/
def inB (n : Nat) (j : Int) : Bool := Nat.ble j.natAbs n
theorem inB_eq (n : Nat) (j : Int) : (inB n j = true) = (j.natAbs ≤ n) := by unfold inB; rw [Nat.ble_eq]
/-! ### a function of the values -/
def opE (g : List Vl → Option Vl) (fs : List E) : E := fun st => match evs fs st with
  | .ok (vs, st1, e) => (match g vs with
    | some v => .ok (v, st1, e)
    | none => .bad)
  | .exc c s => .exc c s
  | .bad => .bad
/-- what the wanted end is to bear: the value, less or new -/
abbrev Fin (K : PySem.W.Frag) (mg : Str → Option Value) (F T : Addr → Prop) (as : List Addr) (c : Addr → Nat) (H : Hp) (v : Vl) (Q : VK) : Prop :=
  ∀ H3 x c5, Rep K mg H3 F T as v x c5 → (∀ b, c5 b ≤ c b ∨ (H b = none ∧ c5 b ≤ 1)) → Same H H3 → Q x H3
def GOp (K : PySem.W.Frag) (mg : Str → Option Value) (g : List Vl → Option Vl) (r : List V → Hp → VK → Prop) : Prop :=
  ∀ (H : Hp) (F T : Addr → Prop) (as : List Addr) (vs : List Vl) (xs : List V) (c : Addr → Nat) (v : Vl) (Q : VK), Reps K mg H F T as vs xs c → (∀ b, c b ≤ 1) → g vs = some v → Fin K mg F T as c H v Q → r xs H Q
section
variable {K : PySem.W.Frag} {mg : Str → Option Value} {W : WX} {fs : List E} {σ : L2.St} {H : Hp} {Q : VK}
theorem EI.op {g : List Vl → Option Vl} {r : List V → Hp → VK → Prop} (h : EI K mg W (opE g fs) σ H Q) (hg : GOp K mg g r) : AI K mg W fs σ H fun xs H2 => r xs H2 Q := by
  obtain ⟨F, T, as, L, st, c0, r0, p⟩ := h
  refine ⟨F, T, as, L, st, c0, r0, ?_⟩
  unfold opE at p
  cases e1 : evs fs st with
  | bad => rw [e1] at p; exact p
  | exc cl s => rw [e1] at p; exact p
  | ok q =>
    obtain ⟨vs, st1, f1⟩ := q
    rw [e1] at p
    simp only at p
    intro F1 as1 H2 xs c1 c r1 rv s1 p1 ef
    cases e2 : g vs with
    | none => rw [e2] at p; exact (show False from p).elim
    | some v =>
      rw [e2] at p
      simp only at p
      refine hg H2 F1 T as1 vs xs c v Q rv (fun b => by have := s1.le b; have : c1 b + c b ≤ 1 := this; omega) e2 fun H3 x c5 rx hc sm => ?_
      refine p F1 as1 H3 x c1 c5 (r1.same sm) rx ⟨fun b o e q => sm b o (s1.keep b o e q), fun b q => ?_, fun b => ?_, s1.sub, fun b q => ?_, s1.fgr, fun b q => PyI.Same.trk sm b (s1.trk b q)⟩ p1 fun q => ⟨(ef q).1.trans sm, (ef q).2⟩
      · rcases hc b with z | ⟨z, _⟩
        · exact s1.grow b (by show c1 b + c b ≠ 0; have : c1 b + c5 b ≠ 0 := q; omega)
        · by_cases y : c0 b = 0
          · refine .inr ?_
            cases w : H b with
            | none => rfl
            | some o => rw [s1.keep b o w y] at z; cases z
          · exact .inl y
      · show c1 b + c5 b ≤ 1
        rcases hc b with z | ⟨z, y⟩
        · have := s1.le b; have : c1 b + c b ≤ 1 := this; omega
        · by_cases w : c1 b = 0
          · omega
          · exact absurd z (r1.there b w)
      · show c1 b + c5 b = 0
        have h0 := s1.dis b q
        have h0 : c1 b + c b = 0 := h0
        rcases hc b with z | ⟨z, y⟩
        · omega
        · exact absurd z (r1.fr b (.inl q)).2
end

/-! ### scalars -/
section
variable {K : PySem.W.Frag} {mg : Str → Option Value} {H : Hp} {F T : Addr → Prop} {as : List Addr} {c : Addr → Nat}
theorem Rep.non' : Rep K mg H F T as .non .non (fun _ => 0) := .non fun _ => rfl
theorem Rep.bl' {k : Bool} : Rep K mg H F T as (.bl k) (.bl k) (fun _ => 0) := .bl fun _ => rfl
theorem Rep.int' {i : Int} : Rep K mg H F T as (.int i) (.int i) (fun _ => 0) := .int fun _ => rfl
theorem Rep.str' {x : Str} : Rep K mg H F T as (.str x) (.str x) (fun _ => 0) := .str fun _ => rfl
theorem Fin.bl {H : Hp} {k : Bool} {Q : VK} (f : Fin K mg F T as c H (.bl k) Q) : Q (.bl k) H := f H _ _ Rep.bl' (fun b => .inl (Nat.zero_le _)) (Same.refl H)
theorem Fin.int {H : Hp} {k : Int} {Q : VK} (f : Fin K mg F T as c H (.int k) Q) : Q (.int k) H := f H _ _ Rep.int' (fun b => .inl (Nat.zero_le _)) (Same.refl H)
theorem Fin.str {H : Hp} {k : Str} {Q : VK} (f : Fin K mg F T as c H (.str k) Q) : Q (.str k) H := f H _ _ Rep.str' (fun b => .inl (Nat.zero_le _)) (Same.refl H)
theorem Fin.non {H : Hp} {Q : VK} (f : Fin K mg F T as c H .non Q) : Q .non H := f H _ _ Rep.non' (fun b => .inl (Nat.zero_le _)) (Same.refl H)
theorem Rep.inv_int {i : Int} {x : V} (r : Rep K mg H F T as (.int i) x c) : x = .int i := by cases r; rfl
theorem Rep.inv_bl {i : Bool} {x : V} (r : Rep K mg H F T as (.bl i) x c) : x = .bl i := by cases r; rfl
theorem Rep.inv_str {i : Str} {x : V} (r : Rep K mg H F T as (.str i) x c) : x = .str i := by cases r; rfl
theorem Rep.inv_non {x : V} (r : Rep K mg H F T as .non x c) : x = .non := by cases r; rfl
theorem Rep.inv_tup {vs : List Vl} {x : V} (r : Rep K mg H F T as (.tup vs) x c) : ∃ a xs, x = .ref a ∧ SqT K H a xs ∧ Reps K mg H F T as vs xs c := by cases r with | tup h r => exact ⟨_, _, rfl, h, r⟩
/-- a list, whatever its flag -/
theorem Rep.inv_lst {f : Fl} {vs : List Vl} {x : V} (r : Rep K mg H F T as (.nd f .lst vs) x c) : ∃ a xs c', x = .ref a ∧ SqL K H a xs ∧ Reps K mg H F T as vs xs c' ∧ ∀ b, c' b ≤ c b := by
  cases r with
  | own h ho r hc =>
    cases ho
    exact ⟨_, _, _, rfl, SqL.of h, r, fun b => by rw [hc]; omega⟩
  | sh h r hc =>
    rcases h with ⟨_, o, ho, h⟩ | ⟨_, h⟩
    · cases ho; exact ⟨_, _, _, rfl, .inl h, r, fun _ => Nat.le_refl _⟩
    · exact ⟨_, _, _, rfl, h.seq, r, fun _ => Nat.le_refl _⟩
  | bw h r hc =>
    rcases h with ⟨_, o, ho, h⟩ | ⟨_, h⟩
    · cases ho; exact ⟨_, _, _, rfl, .inl h, r, fun _ => Nat.le_refl _⟩
    · exact ⟨_, _, _, rfl, h.seq, r, fun _ => Nat.le_refl _⟩
  | tr h r hc =>
    rcases h with ⟨o, ho, h⟩ | ⟨_, h⟩
    · cases ho; exact ⟨_, _, _, rfl, .inl h, r, fun _ => Nat.le_refl _⟩
    · exact ⟨_, _, _, rfl, h.seq, r, fun _ => Nat.le_refl _⟩
theorem Reps.inv1 {v : Vl} {xs : List V} (r : Reps K mg H F T as [v] xs c) : ∃ x, xs = [x] ∧ Rep K mg H F T as v x c := by
  cases r with
  | cons r1 r2 hc =>
    cases r2 with
    | nil h0 =>
      refine ⟨_, rfl, ?_⟩
      rename_i x c1 c2
      have e : c = c1 := funext fun b => by rw [hc, h0]; rfl
      rw [e]; exact r1
theorem Reps.inv2 {v w : Vl} {xs : List V} (r : Reps K mg H F T as [v, w] xs c) : ∃ x y c1 c2, xs = [x, y] ∧ Rep K mg H F T as v x c1 ∧ Rep K mg H F T as w y c2 ∧ ∀ b, c b = c1 b + c2 b := by
  cases r with
  | cons r1 r2 hc =>
    obtain ⟨y, e, r3⟩ := r2.inv1
    subst e
    exact ⟨_, _, _, _, rfl, r1, r3, hc⟩
theorem Reps.length : ∀ {vs : List Vl} {xs : List V} {c : Addr → Nat}, Reps K mg H F T as vs xs c → vs.length = xs.length
  | _, _, _, .nil _ => rfl
  | _, _, _, .cons _ s _ => by simp [Reps.length s]
end

/-! ### lists made -/
/-- a new list of these -/
def mkL (xs : List Vl) : Vl := if stors xs then .nd .own .lst xs else .nd .tr .lst (peeks xs)
section
variable {K : PySem.W.Frag} {mg : Str → Option Value} {H H3 : Hp} {F T : Addr → Prop} {as : List Addr} {c c5 : Addr → Nat}
theorem Fin.mkL {vs : List Vl} {xs : List V} {p : Addr} {Q : VK} (f : Fin K mg F T as c H (mkL vs) Q) (r : Reps K mg H F T as vs xs c5) (hc : ∀ b, c5 b ≤ c b) (hl : ∀ b, c b ≤ 1) (sm : Same H H3) (hn : H p = none) (h : H3 p = some (.lst xs)) : Q (.ref p) H3 := by
  have r3 := r.same sm (fun _ h => h) (fun _ h => h) Pre.refl
  have nz : c5 p = 0 := by
    by_cases e : c5 p = 0
    · exact e
    · have := r.mu p e
      rw [hn] at this
      exact this.elim
  unfold PyI.mkL at f
  by_cases s : stors vs = true
  · rw [if_pos s] at f
    refine f H3 (.ref p) (fun b => (if b = p then 1 else 0) + c5 b) (.own h rfl r3 fun _ => rfl) (fun b => ?_) sm
    by_cases e : b = p
    · subst e
      exact .inr ⟨hn, by simp [nz]⟩
    · refine .inl ?_
      simp only [if_neg e]
      have := hc b
      omega
  · rw [if_neg s] at f
    exact f H3 (.ref p) (fun _ => 0) (.tr (.inl ⟨_, rfl, .inl h⟩) r3.peek fun _ => rfl) (fun b => .inl (Nat.zero_le _)) sm
theorem same_new {o : HO} {p : Addr} (h : H p = none) : Same H (upd H p o) := fun b x e => by
  rw [upd_ne (ne_of_none e h)]; exact e
theorem Reps.append : ∀ {vs ws : List Vl} {xs ys : List V} {c1 c2 : Addr → Nat}, Reps K mg H F T as vs xs c1 → Reps K mg H F T as ws ys c2 → Reps K mg H F T as (vs ++ ws) (xs ++ ys) (fun b => c1 b + c2 b)
  | _, _, _, _, c1, c2, .nil hc, s => by
    have e : (fun b => c1 b + c2 b) = c2 := funext fun b => by rw [hc]; omega
    rw [e]; exact s
  | _, _, _, _, _, _, .cons r t hc, s => .cons r (t.append s) fun b => by rw [hc]; omega
theorem Reps.take : ∀ {vs : List Vl} {xs : List V} {c : Addr → Nat} (n : Nat), Reps K mg H F T as vs xs c → ∃ c', Reps K mg H F T as (vs.take n) (xs.take n) c' ∧ ∀ b, c' b ≤ c b
  | _, _, _, 0, r => ⟨fun _ => 0, by simp only [List.take_zero]; exact .nil fun _ => rfl, fun _ => Nat.zero_le _⟩
  | _, _, _, n + 1, .nil hc => ⟨_, .nil hc, fun _ => Nat.le_refl _⟩
  | _, _, _, n + 1, .cons r s hc => by
    obtain ⟨c', h1, h2⟩ := s.take n
    exact ⟨_, .cons r h1 fun _ => rfl, fun b => by rw [hc]; have := h2 b; omega⟩
theorem Reps.drop : ∀ {vs : List Vl} {xs : List V} {c : Addr → Nat} (n : Nat), Reps K mg H F T as vs xs c → ∃ c', Reps K mg H F T as (vs.drop n) (xs.drop n) c' ∧ ∀ b, c' b ≤ c b
  | _, _, _, 0, r => ⟨_, r, fun _ => Nat.le_refl _⟩
  | _, _, _, n + 1, .nil hc => ⟨_, .nil hc, fun _ => Nat.le_refl _⟩
  | _, _, _, n + 1, .cons r s hc => by
    obtain ⟨c', h1, h2⟩ := s.drop n
    exact ⟨c', h1, fun b => by rw [hc]; have := h2 b; omega⟩
theorem Reps.at : ∀ {vs : List Vl} {xs : List V} {c : Addr → Nat} {i : Nat} {v : Vl}, Reps K mg H F T as vs xs c → vs[i]? = some v → ∃ x c', xs[i]? = some x ∧ Rep K mg H F T as v x c' ∧ ∀ b, c' b ≤ c b
  | _, _, _, _, _, .nil _, e => by simp at e
  | _, _, _, 0, _, .cons r s hc, e => by
    simp at e
    subst e
    exact ⟨_, _, rfl, r, fun b => by rw [hc]; omega⟩
  | _, _, _, i + 1, _, .cons r s hc, e => by
    obtain ⟨x, c', h1, h2, h3⟩ := s.at (i := i) (by simpa using e)
    exact ⟨x, c', by simpa using h1, h2, fun b => by rw [hc]; have := h3 b; omega⟩
mutual
theorem Rep.none0 : ∀ {v : Vl} {x : V} {c : Addr → Nat}, Rep K mg H F T as v x c → noOwn v = true → ∀ b, c b = 0
  | _, _, _, .non hc, _ => hc
  | _, _, _, .bl hc, _ => hc
  | _, _, _, .int hc, _ => hc
  | _, _, _, .str hc, _ => hc
  | _, _, _, .ref _ hc, _ => hc
  | _, _, _, .sym _ hc, _ => hc
  | _, _, _, .tup _ r, n => by unfold noOwn at n; exact Reps.none0 r n
  | _, _, _, .own _ _ r hc, n => by unfold noOwn at n; simp at n
  | _, _, _, .sh _ _ hc, _ => hc
  | _, _, _, .bw _ _ hc, _ => hc
  | _, _, _, .tr _ _ hc, _ => hc
theorem Reps.none0 : ∀ {v : List Vl} {x : List V} {c : Addr → Nat}, Reps K mg H F T as v x c → noOwns v = true → ∀ b, c b = 0
  | _, _, _, .nil hc, _ => hc
  | _, _, _, .cons r s hc, n => fun b => by
    unfold noOwns at n
    simp only [Bool.and_eq_true] at n
    rw [hc, Rep.none0 r n.1, Reps.none0 s n.2]
end
end
end PyI

namespace PyI
open PySem PySem.Spec PyProof.Rows L2

/-- weaken what is wanted -/
theorem EI.mono {K : PySem.W.Frag} {mg : Str → Option Value} {W : WX} {f : E} {σ : L2.St} {H : Hp} {Q Q' : VK} (h : EI K mg W f σ H Q) (i : ∀ x H', Q x H' → Q' x H') : EI K mg W f σ H Q' := by
  obtain ⟨F, T, as, L, st, c, r0, p⟩ := h
  refine ⟨F, T, as, L, st, c, r0, ?_⟩
  cases e : f st with
  | bad => rw [e] at p; exact p
  | exc cl s => rw [e] at p; exact p
  | ok q =>
    obtain ⟨v, st1, f1⟩ := q
    rw [e] at p
    exact fun F' as' H' x c1 c2 r1 rv s1 p1 ef => i _ _ (p F' as' H' x c1 c2 r1 rv s1 p1 ef)
theorem AI.mono {K : PySem.W.Frag} {mg : Str → Option Value} {W : WX} {f : List E} {σ : L2.St} {H : Hp} {Q Q' : List V → Hp → Prop} (h : AI K mg W f σ H Q) (i : ∀ x H', Q x H' → Q' x H') : AI K mg W f σ H Q' := by
  obtain ⟨F, T, as, L, st, c, r0, p⟩ := h
  refine ⟨F, T, as, L, st, c, r0, ?_⟩
  cases e : evs f st with
  | bad => rw [e] at p; exact p
  | exc cl s => rw [e] at p; exact p
  | ok q =>
    obtain ⟨v, st1, f1⟩ := q
    rw [e] at p
    exact fun F' as' H' x c1 c2 r1 rv s1 p1 ef => i _ _ (p F' as' H' x c1 c2 r1 rv s1 p1 ef)
theorem AI.one {K : PySem.W.Frag} {mg : Str → Option Value} {W : WX} {f : E} {σ : L2.St} {H : Hp} {Q : List V → Hp → Prop} (h : AI K mg W [f] σ H Q) : EI K mg W f σ H fun x H1 => Q [x] H1 := h.cons.mono fun _ _ h => h.nil
theorem AI.two {K : PySem.W.Frag} {mg : Str → Option Value} {W : WX} {f g : E} {σ : L2.St} {H : Hp} {Q : List V → Hp → Prop} (h : AI K mg W [f, g] σ H Q) : EI K mg W f σ H fun x H1 => EI K mg W g σ H1 fun y H2 => Q [x, y] H2 := h.cons.mono fun _ _ h => h.one
section
variable {X : Cx} {a b : Expr} {fa fb : E} {pos : Pos}
theorem EOk.bin {op : Operator} {g : List Vl → Option Vl} {r : R2} (ho : OpR X (binaryOp op) r) (hg : GOp X.K X.mg g (fun xs H Q => ∃ x y, xs = [x, y] ∧ r x y H Q)) (ha : EOk X a fa) (hb : EOk X b fb) : EOk X (.BinOp a op b pos) (opE g [fa, fb]) := fun W t =>
  (pe_op ho (ha W t) (hb W t)).imp fun σ H Q h => (h.op hg).two.mono fun _ _ h => h.mono fun _ _ ⟨_, _, e, q⟩ => by cases e; exact q
theorem EOk.un {op : UnaryOp} {g : List Vl → Option Vl} {r : V → Hp → VK → Prop} (ho : UnR X (unaryOp op) r) (hg : GOp X.K X.mg g (fun xs H Q => ∃ x, xs = [x] ∧ r x H Q)) (ha : EOk X a fa) : EOk X (.UnaryOp op a pos) (opE g [fa]) := fun W t =>
  (pe_un ho (ha W t)).imp fun σ H Q h => (h.op hg).one.mono fun _ _ ⟨_, e, q⟩ => by cases e; exact q
theorem EOk.cmp {op : CmpOp} {g : List Vl → Option Vl} {r : R2} (ho : OpR X (compareOp op) r) (hg : GOp X.K X.mg g (fun xs H Q => ∃ x y, xs = [x, y] ∧ r x y H Q)) (ha : EOk X a fa) (hb : EOk X b fb) (hm : behindInMarks op b = false) : EOk X (.Compare a [op] [b] pos) (opE g [fa, fb]) := fun W t =>
  (pe_cmpR ho (ha W t) (hb W t) hm).imp fun σ H Q h => (h.op hg).two.mono fun _ _ h => h.mono fun _ _ ⟨_, _, e, q⟩ => by cases e; exact q
theorem TOk.cmp {op : CmpOp} {g : List Vl → Option Vl} {r : R2} (ho : OpR X (compareOp op) r) (hg : GOp X.K X.mg g (fun xs H Q => ∃ x y, xs = [x, y] ∧ r x y H Q)) (ha : EOk X a fa) (hb : EOk X b fb) (hm : behindInMarks op b = false) : TOk X (.Compare a [op] [b] pos) (opE g [fa, fb]) := fun W t =>
  (pt_cmpR ho (ha W t) (hb W t) hm).imp fun σ H Q h => (EI.op h hg).two.mono fun _ _ h => h.mono fun _ _ ⟨_, _, e, q⟩ => by cases e; exact q
theorem EOk.callB {x : Str} {id : String} {p : Pos} {e : Expr} {es : List Expr} {fs : List E} {g : List Vl → Option Vl} {r : List V → Hp → VK → Prop} (hc : CallR X (.builtin id) r) (hg : GOp X.K X.mg g r) (hgl : Gl X x) (hm : X.mg x = none) (hv : bootBuiltins x = some (.builtin id)) (ha : AOk X (e :: es) fs)
    (hn : x ≠ "__name__" := by decide) (hdb : (x == ("__debug__" : Str)) = false := by decide) (he : starEach (e :: es) X.env = (false, eval e X.env) :: starEach es X.env := by rfl) (hpl : (backTo pos (starEach es X.env)).any (·.1) = false := by rfl) : EOk X (.Call (.Name x p) (e :: es) [] pos) (opE g fs) := fun W t =>
  (pe_callB hc hgl hm hv (ha W t) hn hdb he hpl).imp fun σ H Q h => h.op hg
theorem EOk.callTy {x : Str} {id : String} {p : Pos} {e : Expr} {es : List Expr} {fs : List E} {g : List Vl → Option Vl} {r : List V → Hp → VK → Prop} (hc : CallR X (.type id) r) (hg : GOp X.K X.mg g r) (hgl : Gl X x) (hm : X.mg x = none) (hv : bootBuiltins x = some (.type id)) (ha : AOk X (e :: es) fs)
    (hn : x ≠ "__name__" := by decide) (hdb : (x == ("__debug__" : Str)) = false := by decide) (he : starEach (e :: es) X.env = (false, eval e X.env) :: starEach es X.env := by rfl) (hpl : (backTo pos (starEach es X.env)).any (·.1) = false := by rfl) : EOk X (.Call (.Name x p) (e :: es) [] pos) (opE g fs) := fun W t =>
  (pe_callTy hc hgl hm hv (ha W t) hn hdb he hpl).imp fun σ H Q h => h.op hg
theorem EOk.ix {r : R2} {g : List Vl → Option Vl} (hr : IxR X r) (hg : GOp X.K X.mg g (fun xs H Q => ∃ x y, xs = [x, y] ∧ r x y H Q)) (ha : EOk X a fa) (hb : EOk X b fb) (hs : PlainIx b) : EOk X (.Subscript a b pos) (opE g [fa, fb]) := fun W t =>
  (pe_ix hr (ha W t) (hb W t) hs).imp fun σ H Q h => (h.op hg).two.mono fun _ _ h => h.mono fun _ _ ⟨_, _, e, q⟩ => by cases e; exact q
end

/-! ### whole numbers -/
def i2 (f : Int → Int → Vl) : List Vl → Option Vl
  | [.int i, .int j] => some (f i j)
  | _ => none
def i2c (C : Int → Int → Bool) (f : Int → Int → Vl) : List Vl → Option Vl
  | [.int i, .int j] => if C i j then some (f i j) else none
  | _ => none
theorem i2c_inv {C : Int → Int → Bool} {f : Int → Int → Vl} : ∀ {vs : List Vl} {v : Vl}, i2c C f vs = some v → ∃ i j, vs = [.int i, .int j] ∧ C i j = true ∧ v = f i j := by
  intro vs v h
  unfold i2c at h
  split at h
  · split at h
    · rename_i i j hc
      exact ⟨i, j, rfl, hc, (Option.some.inj h).symm⟩
    · cases h
  · cases h
section
variable {K : PySem.W.Frag} {mg : Str → Option Value}
theorem gop_i2 {C : Int → Int → Prop} {D : Int → Int → Bool} {f : Int → Int → Int} (hC : ∀ i j, D i j = true → C i j) : GOp K mg (i2c D fun i j => .int (f i j)) (fun xs H Q => ∃ x y, xs = [x, y] ∧ rI C (fun i j => .int (f i j)) x y H Q) := by
  intro H F T as vs xs c v Q r hl e fin
  obtain ⟨i, j, rfl, hc, rfl⟩ := i2c_inv e
  obtain ⟨x, y, c1, c2, rfl, r1, r2, _⟩ := r.inv2
  exact ⟨x, y, rfl, i, j, r1.inv_int, r2.inv_int, hC i j hc, fin.int⟩
theorem gop_i2' {D : Int → Int → Bool} {f : Int → Int → Int} : GOp K mg (i2c D fun i j => .int (f i j)) (fun xs H Q => ∃ x y, xs = [x, y] ∧ rI0 (fun i j => .int (f i j)) x y H Q) := by
  intro H F T as vs xs c v Q r hl e fin
  obtain ⟨i, j, rfl, hc, rfl⟩ := i2c_inv e
  obtain ⟨x, y, c1, c2, rfl, r1, r2, _⟩ := r.inv2
  exact ⟨x, y, rfl, i, j, r1.inv_int, r2.inv_int, fin.int⟩
theorem gop_b2' {D : Int → Int → Bool} {f : Int → Int → Bool} : GOp K mg (i2c D fun i j => .bl (f i j)) (fun xs H Q => ∃ x y, xs = [x, y] ∧ rI0 (fun i j => .bl (f i j)) x y H Q) := by
  intro H F T as vs xs c v Q r hl e fin
  obtain ⟨i, j, rfl, hc, rfl⟩ := i2c_inv e
  obtain ⟨x, y, c1, c2, rfl, r1, r2, _⟩ := r.inv2
  exact ⟨x, y, rfl, i, j, r1.inv_int, r2.inv_int, fin.bl⟩
end
def gSub : List Vl → Option Vl := i2c (fun _ _ => true) fun i j => .int (i - j)
def gDiv : List Vl → Option Vl := i2c (fun _ j => decide (0 < j) && inB 1073741823 j) fun i j => .int (i / j)
def gMod : List Vl → Option Vl := i2c (fun _ j => decide (0 < j)) fun i j => .int (i % j)
def gPow : List Vl → Option Vl := i2c (fun i j => decide (0 ≤ j) && inB 1000000 j && inB 18446744073709551615 i) fun i j => .int (i ^ j.toNat)
def gShl : List Vl → Option Vl := i2c (fun i j => decide (0 ≤ j) && inB 1000000 j && inB 18446744073709551615 i) fun i j => .int (i * 2 ^ j.toNat)
def gShr : List Vl → Option Vl := i2c (fun _ j => decide (0 ≤ j)) fun i j => .int (i / 2 ^ j.toNat)
def gAnd : List Vl → Option Vl := i2c (fun _ _ => true) fun i j => .int (Builtin.bitAnd i j)
def gOr : List Vl → Option Vl := i2c (fun _ _ => true) fun i j => .int (Builtin.bitOr i j)
def gXor : List Vl → Option Vl := i2c (fun _ _ => true) fun i j => .int (Builtin.bitXor i j)
def gNeg : List Vl → Option Vl
  | [.int i] => some (.int (-i))
  | _ => none
section
variable {X : Cx} {a b : Expr} {fa fb : E} {pos : Pos}
theorem EOk.sub (ha : EOk X a fa) (hb : EOk X b fb) : EOk X (.BinOp a .Sub b pos) (opE gSub [fa, fb]) := .bin op_sub gop_i2' ha hb
theorem EOk.div (ha : EOk X a fa) (hb : EOk X b fb) : EOk X (.BinOp a .FloorDiv b pos) (opE gDiv [fa, fb]) := .bin op_fdiv (gop_i2 fun i j h => by simp only [Bool.and_eq_true, decide_eq_true_eq, inB_eq] at h; exact ⟨h.1, by omega⟩) ha hb
theorem EOk.mod (ha : EOk X a fa) (hb : EOk X b fb) : EOk X (.BinOp a .Mod b pos) (opE gMod [fa, fb]) := .bin op_mod (gop_i2 fun i j h => by simpa using h) ha hb
theorem EOk.pow (ha : EOk X a fa) (hb : EOk X b fb) : EOk X (.BinOp a .Pow b pos) (opE gPow [fa, fb]) := .bin op_pow (gop_i2 fun i j h => by simp only [Bool.and_eq_true, decide_eq_true_eq, inB_eq] at h; exact ⟨h.1.1, by omega, by omega⟩) ha hb
theorem EOk.shl (ha : EOk X a fa) (hb : EOk X b fb) : EOk X (.BinOp a .LShift b pos) (opE gShl [fa, fb]) := .bin op_shl (gop_i2 fun i j h => by simp only [Bool.and_eq_true, decide_eq_true_eq, inB_eq] at h; exact ⟨h.1.1, by omega, by omega⟩) ha hb
theorem EOk.shr (ha : EOk X a fa) (hb : EOk X b fb) : EOk X (.BinOp a .RShift b pos) (opE gShr [fa, fb]) := .bin op_shr (gop_i2 fun i j h => by simpa using h) ha hb
theorem EOk.and_ (ha : EOk X a fa) (hb : EOk X b fb) : EOk X (.BinOp a .BitAnd b pos) (opE gAnd [fa, fb]) := .bin op_and gop_i2' ha hb
theorem EOk.or_ (ha : EOk X a fa) (hb : EOk X b fb) : EOk X (.BinOp a .BitOr b pos) (opE gOr [fa, fb]) := .bin op_or gop_i2' ha hb
theorem EOk.xor_ (ha : EOk X a fa) (hb : EOk X b fb) : EOk X (.BinOp a .BitXor b pos) (opE gXor [fa, fb]) := .bin op_xor gop_i2' ha hb
theorem EOk.neg (ha : EOk X a fa) : EOk X (.UnaryOp .USub a pos) (opE gNeg [fa]) := .un un_neg (by
  intro H F T as vs xs c v Q r hl e fin
  unfold gNeg at e
  split at e
  · cases e
    obtain ⟨x, rfl, r1⟩ := r.inv1
    exact ⟨x, rfl, _, r1.inv_int, fin.int⟩
  · cases e) ha
end

/-! ### +, * of several kinds -/
def gAdd : List Vl → Option Vl
  | [.int i, .int j] => some (.int (i + j))
  | [.str i, .str j] => if i.length + j.length ≤ sizeLine then some (.str (i ++ j)) else none
  | [.tup xs, .tup ys] => if xs.isEmpty || decide (sizeLine < xs.length + ys.length) then none else some (.tup (xs ++ ys))
  | [.nd f .lst xs, .nd g .lst ys] => if xs.length + ys.length ≤ sizeLine then some (mkL (xs ++ ys)) else none
  | _ => none
/-- + of two lists that may be read -/
def rCatS (K : PySem.W.Frag) : R2 := fun x y H Q => ∃ l b xs zs, x = .ref l ∧ y = .ref b ∧ SqL K H l xs ∧ SqL K H b zs ∧ xs.length + zs.length ≤ sizeLine ∧ ∀ p, H p = none → Q (.ref p) (upd H p (.lst (xs ++ zs)))
theorem op_catS {X : Cx} : OpR X (binaryOp .Add) (rCatS X.K) := by
  intro pins s σ H x y v u Q I rx ry h
  obtain ⟨l, b, xs, zs, rfl, rfl, hH, hB, hz, q⟩ := h
  cases rx
  cases ry
  obtain ⟨its, r, p, z⟩ := I.list hH
  obtain ⟨its2, r2, p2, z2⟩ := I.list hB
  obtain ⟨⟨cls, dd, data, sl⟩, n, ho, hc, hd, hdd⟩ := p
  obtain ⟨⟨cls2, dd2, data2, sl2⟩, n2, ho2, hc2, hd2, hdd2⟩ := p2
  simp only at hc hd hdd hc2 hd2 hdd2
  subst hc hd hdd hc2 hd2 hdd2
  have hl := r.length
  have hl2 := r2.length
  have e : its.toArray ++ its2.toArray = (its ++ its2).toArray := by simp
  refine concat_meets ⟨_, ho, rfl⟩ ⟨_, ho2, rfl⟩ noFill_list_add seq_list_add PySem.F.slot_list_add PySem.F.entry_list_add (PySem.F.args_list_add_2 _ _) (PyProof.Rows.list_addW l b its.toArray its2.toArray n n2 none none sl sl2 (by simp; omega)) ⟨ho, ho2, ?_⟩
  rw [e]
  exact ⟨.ref _, _, I.lnew (t' := s.toks) (r.append r2) (by rw [List.length_append]; omega), rfl, q _ I.fresh⟩
section
variable {K : PySem.W.Frag} {mg : Str → Option Value}
def rAddA (K : PySem.W.Frag) : R2 := fun x y H Q => ((rI0 (fun i j => .int (i + j)) x y H Q ∨ (∃ i j, x = .str i ∧ y = .str j ∧ i.length + j.length ≤ sizeLine ∧ Q (.str (i ++ j)) H)) ∨ rCatT K x y H Q) ∨ rCatS K x y H Q
theorem gop_add : GOp K mg gAdd (fun xs H Q => ∃ x y, xs = [x, y] ∧ rAddA K x y H Q) := by
  intro H F T as vs xs c v Q r hl e fin
  unfold gAdd at e
  split at e
  · cases e
    obtain ⟨x, y, c1, c2, rfl, r1, r2, _⟩ := r.inv2
    exact ⟨x, y, rfl, .inl (.inl (.inl ⟨_, _, r1.inv_int, r2.inv_int, fin.int⟩))⟩
  · split at e
    · cases e
      obtain ⟨x, y, c1, c2, rfl, r1, r2, _⟩ := r.inv2
      exact ⟨x, y, rfl, .inl (.inl (.inr ⟨_, _, r1.inv_str, r2.inv_str, by assumption, fin.str⟩))⟩
    · cases e
  · split at e
    · cases e
    · rename_i xs1 ys1 hc
      cases e
      simp only [Bool.or_eq_true, decide_eq_true_eq, not_or, List.isEmpty_iff] at hc
      obtain ⟨x, y, c1, c2, rfl, r1, r2, hcc⟩ := r.inv2
      obtain ⟨a, xa, rfl, h1, s1⟩ := r1.inv_tup
      obtain ⟨b, xb, rfl, h2, s2⟩ := r2.inv_tup
      have l1 := s1.length
      have l2 := s2.length
      have ne : xa ≠ [] := fun z => hc.1 (by rw [z] at l1; exact List.length_eq_zero_iff.mp l1)
      refine ⟨.ref a, .ref b, rfl, .inl (.inr ⟨a, b, xa, xb, rfl, rfl, h1, h2, ne, by omega, fun z => ?_, fun z p hp => ?_⟩)⟩
      · have z2 : ys1 = [] := List.length_eq_zero_iff.mp (by rw [l2, z]; rfl)
        subst z2
        rw [List.append_nil] at fin
        exact fin H _ c1 (.tup h1 s1) (fun b => .inl (by rw [hcc]; omega)) (Same.refl H)
      · have sm : Same H (upd H p (.tup (xa ++ xb))) := same_new hp
        exact fin _ _ _ (.tup (.inl (.inl upd_same)) ((s1.append s2).same sm (fun _ h => h) (fun _ h => h) Pre.refl)) (fun b => .inl (by rw [hcc]; exact Nat.le_refl _)) sm
  · split at e
    · cases e
      obtain ⟨x, y, c1, c2, rfl, r1, r2, hcc⟩ := r.inv2
      obtain ⟨a, xa, c1', rfl, h1, s1, k1⟩ := r1.inv_lst
      obtain ⟨b, xb, c2', rfl, h2, s2, k2⟩ := r2.inv_lst
      have l1 := s1.length
      have l2 := s2.length
      refine ⟨.ref a, .ref b, rfl, .inr ⟨a, b, xa, xb, rfl, rfl, h1, h2, by omega, fun p hp => ?_⟩⟩
      exact fin.mkL (s1.append s2) (fun b => by rw [hcc]; have := k1 b; have := k2 b; omega) hl (same_new hp) hp upd_same
    · cases e
  · cases e
end
def gMul : List Vl → Option Vl
  | [.int i, .int j] => if inB 18446744073709551615 i || inB 18446744073709551615 j then some (.int (i * j)) else none
  | [.nd .own .lst xs, .int k] => if inB 9223372036854775807 k && decide (xs.length * k.toNat ≤ sizeLine) then
      some (if noOwns xs then mkL (List.replicate k.toNat xs).flatten else .nd .tr .lst (List.replicate k.toNat (peeks xs)).flatten) else none
  | _ => none
section
variable {K : PySem.W.Frag} {mg : Str → Option Value} {H : Hp} {F T : Addr → Prop} {as : List Addr}
theorem Reps.rep {vs : List Vl} {xs : List V} (r : Reps K mg H F T as vs xs (fun _ => 0)) : ∀ k : Nat, Reps K mg H F T as (List.replicate k vs).flatten (List.replicate k xs).flatten (fun _ => 0)
  | 0 => .nil fun _ => rfl
  | k + 1 => by
    have := r.append (Reps.rep r k)
    simpa [List.replicate_succ] using this
def rMulA : R2 := fun x y H Q => rI CMul (fun i j => .int (i * j)) x y H Q ∨ rRep x y H Q
theorem gop_mul : GOp K mg gMul (fun xs H Q => ∃ x y, xs = [x, y] ∧ rMulA x y H Q) := by
  intro H F T as vs xs c v Q r hl e fin
  unfold gMul at e
  split at e
  · split at e
    · rename_i i j hc
      cases e
      obtain ⟨x, y, c1, c2, rfl, r1, r2, _⟩ := r.inv2
      refine ⟨x, y, rfl, .inl ⟨i, j, r1.inv_int, r2.inv_int, ?_, fin.int⟩⟩
      simp only [Bool.or_eq_true, inB_eq] at hc
      show _ ∨ _
      omega
    · cases e
  · split at e
    · rename_i ys k hc
      simp only [Bool.and_eq_true, decide_eq_true_eq, inB_eq] at hc
      obtain ⟨x, y, c1, c2, rfl, r1, r2, hcc⟩ := r.inv2
      have z := r2.inv_int
      subst z
      cases r1 with
      | own h ho r1 hc1 =>
        cases ho
        have l1 := r1.length
        refine ⟨_, _, rfl, .inr ⟨_, k, _, rfl, rfl, h, by omega, by omega, by rw [← l1]; exact hc.2, fun p hp => ?_⟩⟩
        have e' := Option.some.inj e
        by_cases no : noOwns ys = true
        · rw [if_pos no] at e'
          subst e'
          have z0 := Reps.none0 r1 no
          rename_i c'
          have z1 : c' = fun _ => 0 := funext z0
          rw [z1] at r1
          exact fin.mkL (r1.rep k.toNat) (fun b => Nat.zero_le _) hl (same_new hp) hp upd_same
        · rw [if_neg no] at e'
          subst e'
          rename_i a0 xs0 c'
          have sm : Same H (upd H p (.lst (List.replicate k.toNat xs0).flatten)) := same_new hp
          exact fin _ (.ref p) (fun _ => 0) (.tr (.inl ⟨_, rfl, .inl upd_same⟩) ((Reps.rep r1.peek k.toNat).same sm (fun _ h => h) (fun _ h => h) Pre.refl) fun _ => rfl) (fun b => .inl (Nat.zero_le _)) sm
    · cases e
  · cases e
end
section
variable {X : Cx} {a b : Expr} {fa fb : E} {pos : Pos}
theorem EOk.add (ha : EOk X a fa) (hb : EOk X b fb) : EOk X (.BinOp a .Add b pos) (opE gAdd [fa, fb]) := .bin (((op_add.or op_add_str).or op_catT).or op_catS) gop_add ha hb
theorem EOk.mul (ha : EOk X a fa) (hb : EOk X b fb) : EOk X (.BinOp a .Mult b pos) (opE gMul [fa, fb]) := .bin (op_mul.or op_rep) gop_mul ha hb
end

/-! ### comparisons -/
def gLt : List Vl → Option Vl := i2c (fun _ _ => true) fun i j => .bl (decide (i < j))
def gLe : List Vl → Option Vl := i2c (fun _ _ => true) fun i j => .bl (decide (i ≤ j))
def gGt : List Vl → Option Vl := i2c (fun _ _ => true) fun i j => .bl (decide (j < i))
def gGe : List Vl → Option Vl := i2c (fun _ _ => true) fun i j => .bl (decide (j ≤ i))
mutual
def pyOf : Vl → Option PyData
  | .non => some .none
  | .bl b => some (.bool b)
  | .int i => some (.int i)
  | .str x => some (.str x)
  | .tup xs => (pysOf xs).map .tuple
  | .nd _ .lst xs => (pysOf xs).map .list
  | _ => none
def pysOf : List Vl → Option (List PyData)
  | [] => some []
  | v :: r => match pyOf v, pysOf r with
    | some d, some ds => some (d :: ds)
    | _, _ => none
end
section
variable {K : PySem.W.Frag} {mg : Str → Option Value} {H : Hp} {F T : Addr → Prop} {as : List Addr}
mutual
theorem Rep.dp : ∀ {v : Vl} {x : V} {c : Addr → Nat} {d : PyData}, Rep K mg H F T as v x c → pyOf v = some d → Dp K H x d
  | .non, _, _, _, r, e => by unfold pyOf at e; cases e; rw [r.inv_non]; exact .non
  | .bl _, _, _, _, r, e => by unfold pyOf at e; cases e; rw [r.inv_bl]; exact .bl _
  | .int _, _, _, _, r, e => by unfold pyOf at e; cases e; rw [r.inv_int]; exact .int _
  | .str _, _, _, _, r, e => by unfold pyOf at e; cases e; rw [r.inv_str]; exact .str _
  | .ref _, _, _, _, r, e => by unfold pyOf at e; cases e
  | .sym _, _, _, _, r, e => by unfold pyOf at e; cases e
  | .tup xs, _, _, _, r, e => by
    unfold pyOf at e
    obtain ⟨ds, e1, e2⟩ := Option.map_eq_some_iff.mp e
    subst e2
    obtain ⟨a, ys, rfl, h, s⟩ := r.inv_tup
    exact .tup h (Reps.dp s e1)
  | .nd f .lst xs, _, _, _, r, e => by
    unfold pyOf at e
    obtain ⟨ds, e1, e2⟩ := Option.map_eq_some_iff.mp e
    subst e2
    obtain ⟨a, ys, c', rfl, h, s, _⟩ := r.inv_lst
    exact .lst h (Reps.dp s e1)
  | .nd f (.dK _) xs, _, _, _, r, e => by unfold pyOf at e; cases e
  | .nd f (.dT _) xs, _, _, _, r, e => by unfold pyOf at e; cases e
  | .nd f (.ins _ _) xs, _, _, _, r, e => by unfold pyOf at e; cases e
theorem Reps.dp : ∀ {v : List Vl} {x : List V} {c : Addr → Nat} {d : List PyData}, Reps K mg H F T as v x c → pysOf v = some d → DpAll K H x d
  | _, _, _, _, .nil _, e => by unfold pysOf at e; cases e; exact .nil
  | _, _, _, _, .cons r s _, e => by
    unfold pysOf at e
    split at e
    · rename_i d ds e1 e2
      cases e
      exact .cons (Rep.dp r e1) (Reps.dp s e2)
    · cases e
end
end
def gEq : List Vl → Option Vl
  | [a, b] => match pyOf a, pyOf b with
    | some d, some e => if SeqAt.shaped d && SeqAt.shaped e then some (.bl (PyData.eqv d e)) else none
    | _, _ => none
  | _ => none
def gNe : List Vl → Option Vl
  | [a, b] => match pyOf a, pyOf b with
    | some d, some e => if SeqAt.shaped d && SeqAt.shaped e then some (.bl (!PyData.eqv d e)) else none
    | _, _ => none
  | _ => none
def isNon : Vl → Bool
  | .non => true
  | _ => false
def gIsN : List Vl → Option Vl
  | [a] => some (.bl (isNon a))
  | _ => none
def gNotN : List Vl → Option Vl
  | [a] => some (.bl (!isNon a))
  | _ => none
section
variable {K : PySem.W.Frag} {mg : Str → Option Value}
theorem gop_eq : GOp K mg gEq (fun xs H Q => ∃ x y, xs = [x, y] ∧ rEqD K x y H Q) := by
  intro H F T as vs xs c v Q r hl e fin
  unfold gEq at e
  split at e
  · split at e
    · split at e
      · rename_i a b d d' e1 e2 hc
        cases e
        simp only [Bool.and_eq_true] at hc
        obtain ⟨x, y, c1, c2, rfl, r1, r2, _⟩ := r.inv2
        exact ⟨x, y, rfl, d, d', r1.dp e1, r2.dp e2, hc.1, hc.2, fin.bl⟩
      · cases e
    · cases e
  · cases e
theorem gop_ne : GOp K mg gNe (fun xs H Q => ∃ x y, xs = [x, y] ∧ rNeD K x y H Q) := by
  intro H F T as vs xs c v Q r hl e fin
  unfold gNe at e
  split at e
  · split at e
    · split at e
      · rename_i a b d d' e1 e2 hc
        cases e
        simp only [Bool.and_eq_true] at hc
        obtain ⟨x, y, c1, c2, rfl, r1, r2, _⟩ := r.inv2
        exact ⟨x, y, rfl, d, d', r1.dp e1, r2.dp e2, hc.1, hc.2, fin.bl⟩
      · cases e
    · cases e
  · cases e
theorem Rep.isN {H : Hp} {F T : Addr → Prop} {as : List Addr} {v : Vl} {x : V} {c : Addr → Nat} (r : Rep K mg H F T as v x c) : decide (x = .non) = isNon v := by
  cases r with
  | sym h hc =>
    rename_i k
    cases k with
    | ty n => cases h; rfl
    | cls c => obtain ⟨_, _, rfl⟩ := h; rfl
    | fn c => obtain ⟨_, _, rfl⟩ := h; rfl
    | exc c => obtain ⟨_, _, _, rfl, _⟩ := h; rfl
  | _ => simp [isNon]
theorem gop_isN : GOp K mg gIsN (fun xs H Q => ∃ x, xs = [x] ∧ Q (.bl (decide (x = .non))) H) := by
  intro H F T as vs xs c v Q r hl e fin
  unfold gIsN at e
  split at e
  · cases e
    obtain ⟨x, rfl, r1⟩ := r.inv1
    refine ⟨x, rfl, ?_⟩
    rw [r1.isN]
    exact fin.bl
  · cases e
theorem gop_notN : GOp K mg gNotN (fun xs H Q => ∃ x, xs = [x] ∧ Q (.bl (!decide (x = .non))) H) := by
  intro H F T as vs xs c v Q r hl e fin
  unfold gNotN at e
  split at e
  · rename_i a
    cases e
    obtain ⟨x, rfl, r1⟩ := r.inv1
    refine ⟨x, rfl, ?_⟩
    rw [r1.isN]
    exact fin.bl
  · cases e
end
section
variable {X : Cx} {a b : Expr} {fa fb : E} {pos : Pos}
theorem EOk.lt (ha : EOk X a fa) (hb : EOk X b fb) : EOk X (.Compare a [.Lt] [b] pos) (opE gLt [fa, fb]) := .cmp op_lt gop_b2' ha hb (nomark _)
theorem EOk.le (ha : EOk X a fa) (hb : EOk X b fb) : EOk X (.Compare a [.LtE] [b] pos) (opE gLe [fa, fb]) := .cmp op_le gop_b2' ha hb (nomark _)
theorem EOk.gt (ha : EOk X a fa) (hb : EOk X b fb) : EOk X (.Compare a [.Gt] [b] pos) (opE gGt [fa, fb]) := .cmp op_gt gop_b2' ha hb (nomark _)
theorem EOk.ge (ha : EOk X a fa) (hb : EOk X b fb) : EOk X (.Compare a [.GtE] [b] pos) (opE gGe [fa, fb]) := .cmp op_ge gop_b2' ha hb (nomark _)
theorem EOk.eq (hu : X.A.units + 64 < cLine) (ha : EOk X a fa) (hb : EOk X b fb) : EOk X (.Compare a [.Eq] [b] pos) (opE gEq [fa, fb]) := .cmp (op_eqD hu) gop_eq ha hb (nomark _)
theorem EOk.ne (hu : X.A.units + 64 < cLine) (ha : EOk X a fa) (hb : EOk X b fb) : EOk X (.Compare a [.NotEq] [b] pos) (opE gNe [fa, fb]) := .cmp (op_neD hu) gop_ne ha hb (nomark _)
theorem TOk.lt (ha : EOk X a fa) (hb : EOk X b fb) : TOk X (.Compare a [.Lt] [b] pos) (opE gLt [fa, fb]) := .cmp op_lt gop_b2' ha hb (nomark _)
theorem TOk.le (ha : EOk X a fa) (hb : EOk X b fb) : TOk X (.Compare a [.LtE] [b] pos) (opE gLe [fa, fb]) := .cmp op_le gop_b2' ha hb (nomark _)
theorem TOk.gt (ha : EOk X a fa) (hb : EOk X b fb) : TOk X (.Compare a [.Gt] [b] pos) (opE gGt [fa, fb]) := .cmp op_gt gop_b2' ha hb (nomark _)
theorem TOk.ge (ha : EOk X a fa) (hb : EOk X b fb) : TOk X (.Compare a [.GtE] [b] pos) (opE gGe [fa, fb]) := .cmp op_ge gop_b2' ha hb (nomark _)
theorem TOk.eq (hu : X.A.units + 64 < cLine) (ha : EOk X a fa) (hb : EOk X b fb) : TOk X (.Compare a [.Eq] [b] pos) (opE gEq [fa, fb]) := .cmp (op_eqD hu) gop_eq ha hb (nomark _)
theorem TOk.ne (hu : X.A.units + 64 < cLine) (ha : EOk X a fa) (hb : EOk X b fb) : TOk X (.Compare a [.NotEq] [b] pos) (opE gNe [fa, fb]) := .cmp (op_neD hu) gop_ne ha hb (nomark _)
theorem EOk.isN {j pos'} (ha : EOk X a fa) : EOk X (.Compare a [.Is] [.Constant .none j pos'] pos) (opE gIsN [fa]) := fun W t =>
  (pe_cmp (pc_isN (ha W t))).imp fun σ H Q h => (h.op gop_isN).one.mono fun _ _ ⟨_, e, q⟩ => by cases e; exact q
theorem EOk.notN {j pos'} (ha : EOk X a fa) : EOk X (.Compare a [.IsNot] [.Constant .none j pos'] pos) (opE gNotN [fa]) := fun W t =>
  (pe_cmp (pc_notN (ha W t))).imp fun σ H Q h => (h.op gop_notN).one.mono fun _ _ ⟨_, e, q⟩ => by cases e; exact q
theorem TOk.isN {j pos'} (ha : EOk X a fa) : TOk X (.Compare a [.Is] [.Constant .none j pos'] pos) (opE gIsN [fa]) := fun W t =>
  (pt_cmp (pc_isN (ha W t))).imp fun σ H Q h => (EI.op h gop_isN).one.mono fun _ _ ⟨_, e, q⟩ => by cases e; exact q
theorem TOk.notN {j pos'} (ha : EOk X a fa) : TOk X (.Compare a [.IsNot] [.Constant .none j pos'] pos) (opE gNotN [fa]) := fun W t =>
  (pt_cmp (pc_notN (ha W t))).imp fun σ H Q h => (EI.op h gop_notN).one.mono fun _ _ ⟨_, e, q⟩ => by cases e; exact q
end
end PyI

namespace PyI
open PySem PySem.Spec PyProof.Rows L2

/-! ### names, constants -/
def cstE (v : Vl) : E := fun st => .ok (v, st, false)
/-- a name, peeked at -/
def varE (i : Nat) : E := fun st => match st.sl[i]? with
  | some (some (.ref n)) => (match st.hp[n]? with
    | some w => .ok (peek w, st, false)
    | none => .bad)
  | some (some v) => .ok (peek v, st, false)
  | _ => .bad
/-- a name that holds a cell: the cell itself -/
def rawE (i : Nat) : E := fun st => match st.sl[i]? with
  | some (some (.ref n)) => .ok (.ref n, st, false)
  | _ => .bad
/-- a name's value, taken: the name is without one behind it (what is not own is copied) -/
def takE (i : Nat) : E := fun st => match st.sl[i]? with
  | some (some v) => if noOwn v then .ok (v, st, false) else if st.la.contains i then .bad else .ok (v, { st with sl := st.sl.set i none }, true)
  | _ => .bad
/-- a name's value, shared from now on -/
def frzE (i : Nat) : E := fun st => match st.sl[i]? with
  | some (some v) => if noOwn v then .ok (v, st, false) else if stor v then .ok (setF .sh v, { st with sl := st.sl.set i (some (setF .sh v)) }, true) else .bad
  | _ => .bad
section
variable {K : PySem.W.Frag} {mg : Str → Option Value} {H H' : Hp} {F T : Addr → Prop} {as : List Addr} {L : List (Nat × V)} {st : Sta} {σ : L2.St} {c : Addr → Nat}
mutual
theorem noTr_sh : ∀ {v : Vl}, noTr (setF .sh v) = true
  | .tup xs => by unfold setF noTr; exact noTrs_sh
  | .nd f k xs => by unfold setF noTr; simp only [Bool.and_eq_true]; exact ⟨by decide, noTrs_sh⟩
  | .non => rfl
  | .bl _ => rfl
  | .int _ => rfl
  | .str _ => rfl
  | .ref _ => rfl
  | .sym _ => rfl
theorem noTrs_sh : ∀ {v : List Vl}, noTrs (setFs .sh v) = true
  | [] => rfl
  | v :: r => by unfold setFs noTrs; simp only [Bool.and_eq_true]; exact ⟨noTr_sh, noTrs_sh⟩
end
theorem Rel.slot {i : Nat} {v : Vl} (r : Rel K mg F T as L st σ H c) (e : st.sl[i]? = some (some v)) : ∃ x c1 c2, σ[i]? = some (some x) ∧ Rep K mg H F T as v x c1 ∧ noTr v = true ∧ Rel K mg F T as L { st with sl := st.sl.set i none } σ H c2 ∧ ∀ b, c b = c1 b + c2 b := by
  obtain ⟨d1, d2, h1, h2, h3, h4⟩ := r.rep
  obtain ⟨x, c1, c2, e1, r1, n1, s1, k1⟩ := h1.get e
  refine ⟨x, c1, fun b => c2 b + d2 b, e1, r1, n1, ⟨⟨c2, d2, s1, h2, h3, fun _ => rfl⟩, fun b => ?_, fun b q => ⟨?_, (r.fr b q).2⟩, r.lk⟩, fun b => by show c b = c1 b + (c2 b + d2 b); rw [h4, k1]; omega⟩
  · have := r.le b; rw [h4, k1] at this; omega
  · have := (r.fr b q).1; rw [h4, k1] at this; omega
theorem Rel.fill {i : Nat} {v : Vl} {x : V} {c1 c2 : Addr → Nat} (r : Rel K mg F T as L { st with sl := st.sl.set i none } σ H c2) (hi : i < st.sl.length) (e : σ[i]? = some (some x)) (rv : Rep K mg H F T as v x c1) (nt : noTr v = true) (hle : ∀ b, c1 b + c2 b ≤ 1) (hF : ∀ b, F b ∨ T b → c1 b = 0) :
    Rel K mg F T as L { st with sl := st.sl.set i (some v) } σ H (fun b => c1 b + c2 b) := by
  obtain ⟨d1, d2, h1, h2, h3, h4⟩ := r.rep
  exact ⟨⟨_, d2, h1.putOld hi e rv nt, h2, h3, fun b => by show c1 b + c2 b = c1 b + d1 b + d2 b; rw [h4]; omega⟩, hle, fun b q => ⟨by have := hF b q; have := (r.fr b q).1; show c1 b + c2 b = 0; omega, (r.fr b q).2⟩, r.lk⟩
theorem Rel.cell {n : Nat} {v : Vl} (r : Rel K mg F T as L st σ H c) (e : st.hp[n]? = some v) : ∃ a c1, as[n]? = some a ∧ Rep K mg H F T as v (.ref a) c1 ∧ noTr v = true ∧ ∀ b, c1 b ≤ c b := by
  obtain ⟨d1, d2, h1, h2, h3, h4⟩ := r.rep
  obtain ⟨x, c1, e1, r1, k1⟩ := h2.at e
  rw [List.getElem?_map] at e1
  obtain ⟨a, ea, e2⟩ := Option.map_eq_some_iff.mp e1
  subst e2
  have nt : ∀ {vs : List Vl} {i : Nat}, noTrs vs = true → vs[i]? = some v → noTr v = true := by
    intro vs
    induction vs with
    | nil => intro i _ h; simp at h
    | cons w r ih =>
      intro i h1 h2
      unfold noTrs at h1
      simp only [Bool.and_eq_true] at h1
      cases i with
      | zero => simp at h2; subst h2; exact h1.1
      | succ i => exact ih h1.2 (by simpa using h2)
  exact ⟨a, c1, ea, r1, nt h3 e, fun b => by rw [h4]; have := k1 b; omega⟩
end
section
variable {X : Cx}
theorem EOk.cst {e : Expr} {v : Vl} {x : V} (h : PE X e (tC x)) (hr : ∀ H F T as, Rep X.K X.mg H F T as v x (fun _ => 0)) : EOk X e (cstE v) := fun W t => h.imp fun σ H Q hq => by
  obtain ⟨F, T, as, L, st, c, r, p⟩ := hq
  exact p F as H x c (fun _ => 0) r (hr H F T as) r.refl Pre.refl fun _ => ⟨Same.refl H, rfl, fun _ h => h⟩
theorem EOk.int {i j pos} : EOk X (.Constant (.int i) j pos) (cstE (.int i)) := .cst pe_int fun _ _ _ _ => Rep.int'
theorem EOk.bl {b j pos} : EOk X (.Constant (.bool b) j pos) (cstE (.bl b)) := .cst pe_bl fun _ _ _ _ => Rep.bl'
theorem EOk.non {j pos} : EOk X (.Constant .none j pos) (cstE .non) := .cst pe_non fun _ _ _ _ => Rep.non'
theorem EOk.str {x j pos} : EOk X (.Constant (.str x) j pos) (cstE (.str x)) := .cst pe_str fun _ _ _ _ => Rep.str'
theorem EOk.glob {x : Str} {v : Vl} {y : V} {u : Value} {pos : Pos} (hg : Gl X x) (hm : X.mg x = some u) (r : RelV y u) (hr : ∀ H F T as, Rep X.K X.mg H F T as v y (fun _ => 0)) (hd : (x == ("__debug__" : Str)) = false := by decide) : EOk X (.Name x pos) (cstE v) := .cst (pe_glob hg hm r hd) hr
section
variable {x : Str} {pos : Pos} {i : Nat} (hN : X.N[i]? = some x) (hv : Vis X.env.scope x) (hd : (x == ("__debug__" : Str)) = false) (hcd : (x == ("__classdict__" : Str)) = false)
include hN hv hd hcd
theorem EOk.var : EOk X (.Name x pos) (varE i) := fun W t => (pe_var hN hv hd hcd).imp fun σ H Q h => by
  obtain ⟨F, T, as, L, st, c, r, p⟩ := h
  unfold varE at p
  split at p
  · rename_i n e
    split at p
    · rename_i w ew
      obtain ⟨x, c1, c2, e1, r1, n1, r2, k⟩ := r.slot e
      obtain ⟨a, c3, ea, r3, _⟩ := r.cell ew
      cases r1 with
      | ref h hc =>
        rw [h] at ea
        cases ea
        exact ⟨_, e1, p F as H _ c (fun _ => 0) r r3.peek r.refl Pre.refl fun _ => ⟨Same.refl H, rfl, fun _ h => h⟩⟩
    · exact (show False from p).elim
  · rename_i v ne e
    obtain ⟨x, c1, c2, e1, r1, n1, r2, k⟩ := r.slot e
    exact ⟨_, e1, p F as H _ c (fun _ => 0) r r1.peek r.refl Pre.refl fun _ => ⟨Same.refl H, rfl, fun _ h => h⟩⟩
  · exact (show False from p).elim
theorem EOk.raw : EOk X (.Name x pos) (rawE i) := fun W t => (pe_var hN hv hd hcd).imp fun σ H Q h => by
  obtain ⟨F, T, as, L, st, c, r, p⟩ := h
  unfold rawE at p
  split at p
  · rename_i n e
    obtain ⟨x, c1, c2, e1, r1, n1, r2, k⟩ := r.slot e
    have z : ∀ b, c1 b = 0 := Rep.none0 r1 rfl
    have z' : c1 = fun _ => 0 := funext z
    exact ⟨_, e1, p F as H _ c c1 r r1 (r.refl.less fun b => by show c b + c1 b ≤ c b; rw [z]; exact Nat.le_refl _) Pre.refl fun _ => ⟨Same.refl H, rfl, fun _ h => h⟩⟩
  · exact (show False from p).elim
theorem EOk.tak : EOk X (.Name x pos) (takE i) := fun W t => (pe_var hN hv hd hcd).imp fun σ H Q h => by
  obtain ⟨F, T, as, L, st, c, r, p⟩ := h
  unfold takE at p
  split at p
  · rename_i v e
    obtain ⟨x, c1, c2, e1, r1, n1, r2, k⟩ := r.slot e
    refine ⟨_, e1, ?_⟩
    split at p
    · rename_i no
      have z : ∀ b, c1 b = 0 := Rep.none0 r1 no
      exact p F as H _ c c1 r r1 (r.refl.less fun b => by show c b + c1 b ≤ c b; rw [z]; exact Nat.le_refl _) Pre.refl fun _ => ⟨Same.refl H, rfl, fun _ h => h⟩
    · split at p
      · exact (show False from p).elim
      · exact p F as H _ c2 c1 r2 r1 (r.refl.less fun b => by show c2 b + c1 b ≤ c b; rw [k]; omega) Pre.refl fun q => nomatch q
  · exact (show False from p).elim
theorem EOk.frz : EOk X (.Name x pos) (frzE i) := fun W t => (pe_var hN hv hd hcd).imp fun σ H Q h => by
  obtain ⟨F, T, as, L, st, c, r, p⟩ := h
  unfold frzE at p
  split at p
  · rename_i v e
    obtain ⟨x, c1, c2, e1, r1, n1, r2, k⟩ := r.slot e
    refine ⟨_, e1, ?_⟩
    split at p
    · rename_i no
      have z : ∀ b, c1 b = 0 := Rep.none0 r1 no
      exact p F as H _ c c1 r r1 (r.refl.less fun b => by show c b + c1 b ≤ c b; rw [z]; exact Nat.le_refl _) Pre.refl fun _ => ⟨Same.refl H, rfl, fun _ h => h⟩
    · split at p
      · rename_i sv
        have hi : i < st.sl.length := (List.getElem?_eq_some_iff.mp e).1
        obtain ⟨d1, d2, h1, h2, h3, h4⟩ := r2.rep
        have mo : ∀ b, F b → (F b ∨ c1 b ≠ 0) := fun b q => .inl q
        have sy : ∀ (d : Addr → Nat), Stay H H F T d := fun d b o e _ => e
        have r2' : Rel X.K X.mg (fun b => F b ∨ c1 b ≠ 0) T as L { st with sl := st.sl.set i none } σ H c2 := by
          refine ⟨⟨d1, d2, h1.stay (sy _) mo (fun _ h => h) Pre.refl, h2.stay h3 (sy _) mo (fun _ h => h) Pre.refl, h3, h4⟩, r2.le, fun b q => ?_, r2.lk⟩
          rcases q with (q | q) | q
          · exact r2.fr b (.inl q)
          · have := r.le b
            rw [k] at this
            refine ⟨by omega, fun z => ?_⟩
            have := r1.mu b q
            rw [z] at this
            exact this
          · exact r2.fr b (.inr q)
        have rf : ∀ T', Rep X.K X.mg H (fun b => F b ∨ c1 b ≠ 0) T' as (setF .sh v) x (fun _ => 0) := fun T' => r1.freeze sv mo fun b q => .inr q
        have r3 := r2'.fill hi e1 (rf T) noTr_sh (fun b => by have := r2.le b; omega) fun b _ => rfl
        refine p (fun b => F b ∨ c1 b ≠ 0) as H x _ (fun _ => 0) r3 (rf T) ⟨fun _ _ e _ => e, fun b q => .inl ?_, fun b => ?_, mo, fun b q => ?_, fun b q => ?_, fun _ h => h⟩ Pre.refl fun q => nomatch q
        · have q' : 0 + c2 b + 0 ≠ 0 := q
          rw [k]; omega
        · show 0 + c2 b + 0 ≤ 1
          have := r2.le b; omega
        · show 0 + c2 b + 0 = 0
          have := (r2'.fr b (.inl q)).1; omega
        · rcases q with q | q
          · exact .inl q
          · exact .inr (.inl (by rw [k]; omega))
      · exact (show False from p).elim
  · exact (show False from p).elim
end
end

/-! ### and, or, not, a if t else b -/
def seqE (f : E) (k : Vl → Option (E ⊕ Vl)) : E := fun st => match f st with
  | .ok (v, st1, e1) => (match k v with
    | some (.inl g) => (match g st1 with
      | .ok (w, st2, e2) => .ok (w, st2, e1 || e2)
      | .exc c s => .exc c s
      | .bad => .bad)
    | some (.inr w) => .ok (w, st1, e1)
    | none => .bad)
  | .exc c s => .exc c s
  | .bad => .bad
def andE (f g : E) : E := seqE f fun v => match v with
  | .bl true => some (.inl g)
  | .bl false => some (.inr (.bl false))
  | _ => none
def orE (f g : E) : E := seqE f fun v => match v with
  | .bl true => some (.inr (.bl true))
  | .bl false => some (.inl g)
  | _ => none
def ifE (t f g : E) : E := seqE t fun v => match v with
  | .bl true => some (.inl f)
  | .bl false => some (.inl g)
  | _ => none
def gNot : List Vl → Option Vl
  | [.bl b] => some (.bl (!b))
  | _ => none
def notE (f : E) : E := opE gNot [f]
section
variable {K : PySem.W.Frag} {mg : Str → Option Value} {W : WX} {σ : L2.St} {H : Hp} {Q : VK}
theorem EI.seq {f : E} {k : Vl → Option (E ⊕ Vl)} (h : EI K mg W (seqE f k) σ H Q) (hk : ∀ v w, k v = some (.inr w) → ∃ b, w = .bl b) (hv : ∀ v z, k v = some z → ∃ b, v = .bl b) :
    EI K mg W f σ H fun x H1 => ∃ v z, k v = some z ∧ (∃ b, v = .bl b ∧ x = .bl b) ∧ match z with
      | .inl g => EI K mg W g σ H1 Q
      | .inr w => ∀ b, w = .bl b → Q (.bl b) H1 := by
  obtain ⟨F, T, as, L, st, c, r, p⟩ := h
  refine ⟨F, T, as, L, st, c, r, ?_⟩
  unfold seqE at p
  cases e1 : f st with
  | bad => rw [e1] at p; exact p
  | exc cl s => rw [e1] at p; exact p
  | ok q =>
    obtain ⟨v, st1, f1⟩ := q
    rw [e1] at p
    simp only at p
    intro F1 as1 H1 x c1 c2 r1 rv s1 p1 ef1
    cases e2 : k v with
    | none => rw [e2] at p; exact (show False from p).elim
    | some z =>
      rw [e2] at p
      obtain ⟨b, rfl⟩ := hv v z e2
      have ex := rv.inv_bl
      subst ex
      have z0 : ∀ b, c2 b = 0 := Rep.none0 rv rfl
      have s1' : Step F c H F1 c1 H1 := s1.less fun b => by omega
      refine ⟨_, z, e2, ⟨b, rfl, rfl⟩, ?_⟩
      cases z with
      | inr w =>
        intro b' hb
        subst hb
        simp only at p
        exact p F1 as1 H1 _ c1 (fun _ => 0) r1 Rep.bl' s1' p1 ef1
      | inl g =>
        refine ⟨F1, T, as1, L, st1, c1, r1, ?_⟩
        simp only at p
        cases e3 : g st1 with
        | bad => rw [e3] at p; exact (show False from p).elim
        | exc cl s => rw [e3] at p; exact XPost.back p r1 (cv := fun _ => 0) (fun b q => absurd rfl q) s1' p1
        | ok q =>
          obtain ⟨w, st2, f2⟩ := q
          rw [e3] at p
          simp only at p
          intro F2 as2 H2 y c3 c4 r2 rw' s2 p2 ef2
          refine p F2 as2 H2 y c3 c4 r2 rw' (s1'.trans s2) (p1.trans p2) fun q => ?_
          have q' : (f1 || f2) = false := q
          have q1 : f1 = false := by cases f1 with | false => rfl | true => simp at q'
          have q2 : f2 = false := by cases f2 with | false => rfl | true => simp [q1] at q'
          exact ⟨(ef1 q1).1.trans (ef2 q2).1, (ef2 q2).2.1.trans (ef1 q1).2.1, fun b h => (ef1 q1).2.2 b ((ef2 q2).2.2 b h)⟩
theorem EI.and {f g : E} (h : EI K mg W (andE f g) σ H Q) : EI K mg W f σ H fun x H1 => ∃ c, x = .bl c ∧ if c = true then EI K mg W g σ H1 Q else Q (.bl false) H1 := by
  refine (EI.seq h (fun v w e => ?_) fun v z e => ?_).mono fun x H1 ⟨v, z, e, ⟨b, e1, e2⟩, q⟩ => ?_
  · split at e <;> first | (cases e; exact ⟨_, rfl⟩) | cases e
  · split at e <;> first | exact ⟨_, rfl⟩ | cases e
  · subst e1 e2
    refine ⟨b, rfl, ?_⟩
    cases b with
    | true => cases e; exact q
    | false => cases e; exact q _ rfl
theorem EI.or {f g : E} (h : EI K mg W (orE f g) σ H Q) : EI K mg W f σ H fun x H1 => ∃ c, x = .bl c ∧ if c = true then Q (.bl true) H1 else EI K mg W g σ H1 Q := by
  refine (EI.seq h (fun v w e => ?_) fun v z e => ?_).mono fun x H1 ⟨v, z, e, ⟨b, e1, e2⟩, q⟩ => ?_
  · split at e <;> first | (cases e; exact ⟨_, rfl⟩) | cases e
  · split at e <;> first | exact ⟨_, rfl⟩ | cases e
  · subst e1 e2
    refine ⟨b, rfl, ?_⟩
    cases b with
    | true => cases e; exact q _ rfl
    | false => cases e; exact q
theorem EI.ite {t f g : E} (h : EI K mg W (ifE t f g) σ H Q) : EI K mg W t σ H fun x H1 => ∃ c, x = .bl c ∧ if c = true then EI K mg W f σ H1 Q else EI K mg W g σ H1 Q := by
  refine (EI.seq h (fun v w e => ?_) fun v z e => ?_).mono fun x H1 ⟨v, z, e, ⟨b, e1, e2⟩, q⟩ => ?_
  · split at e <;> first | (cases e; exact ⟨_, rfl⟩) | cases e
  · split at e <;> first | exact ⟨_, rfl⟩ | cases e
  · subst e1 e2
    refine ⟨b, rfl, ?_⟩
    cases b with
    | true => cases e; exact q
    | false => cases e; exact q
theorem gop_not : GOp K mg gNot (fun xs H Q => ∃ x c, xs = [x] ∧ x = .bl c ∧ Q (.bl (!c)) H) := by
  intro H F T as vs xs c v Q r hl e fin
  unfold gNot at e
  split at e
  · cases e
    obtain ⟨x, rfl, r1⟩ := r.inv1
    exact ⟨x, _, rfl, r1.inv_bl, fin.bl⟩
  · cases e
theorem EI.not {f : E} (h : EI K mg W (notE f) σ H Q) : EI K mg W f σ H fun x H1 => ∃ c, x = .bl c ∧ Q (.bl (!c)) H1 := (EI.op h gop_not).one.mono fun _ _ ⟨_, c, e, e2, q⟩ => by cases e; exact ⟨c, e2, q⟩
end
section
variable {X : Cx} {a b c : Expr} {rest : List Expr} {fa fb fc : E} {pos : Pos}
theorem TOk.val {e : Expr} {f : E} (h : EOk X e f) (he : ∀ whole, isTrue e X.env whole = (do let v ← whole; standAt e.pos; holding [v] (truthy v)) := by intro _; rfl) : TOk X e f := fun W t => (pt_val (h W t) he).imp fun σ H Q h => h
theorem EOk.one {op} (h : EOk X a fa) : EOk X (.BoolOp op [a] pos) fa := fun W t => pe_one (h W t)
theorem EOk.and (ha : EOk X a fa) (hb : EOk X (.BoolOp .And (b :: rest) pos) fb) : EOk X (.BoolOp .And (a :: b :: rest) pos) (andE fa fb) := fun W t => (pe_and (ha W t) (hb W t)).imp fun σ H Q h => h.and
theorem EOk.or (ha : EOk X a fa) (hb : EOk X (.BoolOp .Or (b :: rest) pos) fb) : EOk X (.BoolOp .Or (a :: b :: rest) pos) (orE fa fb) := fun W t => (pe_or (ha W t) (hb W t)).imp fun σ H Q h => h.or
theorem EOk.not (ha : EOk X a fa) : EOk X (.UnaryOp .Not a pos) (notE fa) := fun W t => (pe_not (ha W t)).imp fun σ H Q h => h.not
theorem TWOk.pt (h : TWOk X a fa) : TOk X a fa := fun W t => (h W t).pt
theorem TWOk.and1 (h : TOk X a fa) : TWOk X (.BoolOp .And [a] pos) fa := fun W t => pw_and1 (h W t)
theorem TWOk.or1 (h : TOk X a fa) : TWOk X (.BoolOp .Or [a] pos) fa := fun W t => pw_or1 (h W t)
theorem TWOk.and (ha : TOk X a fa) (hb : TWOk X (.BoolOp .And (b :: rest) pos) fb) : TWOk X (.BoolOp .And (a :: b :: rest) pos) (andE fa fb) := fun W t =>
  (pw_and (ha W t) (hb W t)).imp fun σ H Q h => (EI.and h).mono fun x H1 ⟨c, e, q⟩ => ⟨c, e, by
    cases c with
    | true => exact q
    | false => obtain ⟨b, e, q⟩ := q; cases e; exact q⟩
theorem TWOk.or (ha : TOk X a fa) (hb : TWOk X (.BoolOp .Or (b :: rest) pos) fb) : TWOk X (.BoolOp .Or (a :: b :: rest) pos) (orE fa fb) := fun W t =>
  (pw_or (ha W t) (hb W t)).imp fun σ H Q h => (EI.or h).mono fun x H1 ⟨c, e, q⟩ => ⟨c, e, by
    cases c with
    | true => obtain ⟨b, e, q⟩ := q; cases e; exact q
    | false => exact q⟩
theorem TOk.not (ha : TOk X a fa) : TOk X (.UnaryOp .Not a pos) (notE fa) := fun W t =>
  (pt_not (ha W t)).imp fun σ H Q h => (EI.not h).mono fun x H1 ⟨c, e, q⟩ => ⟨c, e, by obtain ⟨b, e, q⟩ := q; cases e; exact q⟩
theorem EOk.ife (hc : TOk X c fc) (ha : EOk X a fa) (hb : EOk X b fb) : EOk X (.IfExp c a b pos) (ifE fc fa fb) := fun W t =>
  (pe_ifExp (hc W t) (ha W t) (hb W t)).imp fun σ H Q h => (EI.ite h).mono fun x H1 ⟨c, e, q⟩ => ⟨c, e, q⟩
end
end PyI

namespace PyI
open PySem PySem.Spec PyProof.Rows L2

/-! ### statements -/
inductive RS where
  | nx (s : Sta) | rt (v : Vl) (s : Sta) | bk (s : Sta) | ct (s : Sta) | exc (c : Str) (s : Sta) | bad
abbrev C := Sta → RS
def SPost (K : PySem.W.Frag) (mg : Str → Option Value) (W : WX) (D : Ends) (T : Addr → Prop) (as : List Addr) (L : List (Nat × V)) (F : Addr → Prop) (c : Addr → Nat) (H : Hp) : RS → Prop
  | .nx st' => ∀ F' as' σ' H' c', Rel K mg F' T as' L st' σ' H' c' → Step F c H F' c' H' → Pre as as' → D.nx σ' H'
  | .bk st' => ∀ F' as' σ' H' c', Rel K mg F' T as' L st' σ' H' c' → Step F c H F' c' H' → Pre as as' → D.bk σ' H'
  | .ct st' => ∀ F' as' σ' H' c', Rel K mg F' T as' L st' σ' H' c' → Step F c H F' c' H' → Pre as as' → D.ct σ' H'
  | .rt v st' => ∀ F' as' σ' H' x c1 c2, Rel K mg F' T as' L st' σ' H' c1 → Rep K mg H' F' T as' v x c2 → Step F c H F' (fun b => c1 b + c2 b) H' → Pre as as' → D.rt x H'
  | .exc cl st' => XPost K mg W T as L F c H cl st'
  | .bad => False
def SI (K : PySem.W.Frag) (mg : Str → Option Value) (W : WX) (f : C) : TS := fun D σ H => ∃ F T as L st c, Rel K mg F T as L st σ H c ∧ SPost K mg W D T as L F c H (f st)
def SOk (X : Cx) (s : Stmt) (f : C) : Prop := ∀ W, Takes X W → PS X s (SI X.K X.mg W f)
def SsOk (X : Cx) (s : List Stmt) (f : C) : Prop := ∀ W, Takes X W → PSs X s (SI X.K X.mg W f)

section
variable {K : PySem.W.Frag} {mg : Str → Option Value} {W : WX} {D : Ends} {T : Addr → Prop} {as as1 : List Addr} {L : List (Nat × V)} {F F1 : Addr → Prop} {c c1 : Addr → Nat} {H H1 : Hp} {σ : L2.St}
/-- what is wanted, from a later state on -/
theorem SPost.back {r : RS} (h : SPost K mg W D T as L F c H r) (s : Step F c H F1 c1 H1) (p : Pre as as1) : SPost K mg W D T as1 L F1 c1 H1 r := by
  cases r with
  | nx st' => exact fun F' as' σ' H' c' r2 s2 p2 => h F' as' σ' H' c' r2 (s.trans s2) (p.trans p2)
  | bk st' => exact fun F' as' σ' H' c' r2 s2 p2 => h F' as' σ' H' c' r2 (s.trans s2) (p.trans p2)
  | ct st' => exact fun F' as' σ' H' c' r2 s2 p2 => h F' as' σ' H' c' r2 (s.trans s2) (p.trans p2)
  | rt v st' => exact fun F' as' σ' H' x c1 c2 r2 rv s2 p2 => h F' as' σ' H' x c1 c2 r2 rv (s.trans s2) (p.trans p2)
  | exc cl st' => exact fun F' as' σ' H' c1 r2 s2 p2 => h F' as' σ' H' c1 r2 (s.trans s2) (p.trans p2)
  | bad => exact h
/-- an expression, then a statement of its value -/
def bindC (f : E) (k : Vl → Sta → RS) : C := fun st => match f st with
  | .ok (v, st1, _) => k v st1
  | .exc cl s => .exc cl s
  | .bad => .bad
/-- a state, a value in flight -/
structure Fly (K : PySem.W.Frag) (mg : Str → Option Value) (F T : Addr → Prop) (as : List Addr) (L : List (Nat × V)) (st : Sta) (σ : L2.St) (H : Hp) (c1 c2 : Addr → Nat) : Prop where
  r : Rel K mg F T as L st σ H c1
  s : Step F (fun b => c1 b + c2 b) H F (fun b => c1 b + c2 b) H
  t : ∀ b, T b → c2 b = 0
theorem SI.bind {f : E} {k : Vl → Sta → RS} (h : SI K mg W (bindC f k) D σ H) : EI K mg W f σ H fun x H1 => ∃ F T as L v st c1 c2, Fly K mg F T as L st σ H1 c1 c2 ∧ Rep K mg H1 F T as v x c2 ∧ SPost K mg W D T as L F (fun b => c1 b + c2 b) H1 (k v st) := by
  obtain ⟨F, T, as, L, st, c, r, p⟩ := h
  refine ⟨F, T, as, L, st, c, r, ?_⟩
  unfold bindC at p
  cases e1 : f st with
  | bad => rw [e1] at p; exact p
  | exc cl s => rw [e1] at p; exact p
  | ok q =>
    obtain ⟨v, st1, f1⟩ := q
    rw [e1] at p
    refine fun F1 as1 H1 x c1 c2 r1 rv s1 p1 ef1 => ⟨F1, T, as1, L, v, st1, c1, c2, ⟨r1, s1.here, fun b q => ?_⟩, rv, SPost.back p s1 p1⟩
    by_cases z : c2 b = 0
    · exact z
    · have h0 := r.fr b (.inr q)
      rcases s1.grow b (by show c1 b + c2 b ≠ 0; omega) with y | y
      · exact absurd h0.1 y
      · exact absurd y h0.2
end


def seqC (f g : C) : C := fun st => match f st with
  | .nx s => g s
  | r => r
def passC : C := .nx
def brkC : C := .bk
def cntC : C := .ct
def retC (f : E) : C := bindC f .rt
def retNC : C := .rt .non
def expC (f : E) : C := bindC f fun _ s => .nx s
def ifC (t : E) (f g : C) : C := bindC t fun v s => match v with
  | .bl true => f s
  | .bl false => g s
  | _ => .bad
section
variable {X : Cx} {e c : Expr} {s : Stmt} {ss : List Stmt} {f g : C} {fe fc : E} {pos : Pos} {a b : List Stmt}
theorem SsOk.nil : SsOk X [] passC := fun W t => pss_nil.imp fun D σ H h => by
  obtain ⟨F, T, as, L, st, c, r, p⟩ := h
  exact p F as σ H c r r.refl Pre.refl
theorem SsOk.one (h : SOk X s f) : SsOk X [s] f := fun W t => pss_one (h W t)
theorem SsOk.cons (h : SOk X s f) (r : SsOk X ss g) : SsOk X (s :: ss) (seqC f g) := fun W t => (pss_cons (h W t) (r W t)).imp fun D σ H h => by
  obtain ⟨F, T, as, L, st, c, r, p⟩ := h
  refine ⟨F, T, as, L, st, c, r, ?_⟩
  unfold seqC at p
  cases e1 : f st with
  | nx s1 =>
    rw [e1] at p
    exact fun F1 as1 σ1 H1 c1 r1 t1 p1 => ⟨F1, T, as1, L, s1, c1, r1, SPost.back p t1 p1⟩
  | rt v s1 => rw [e1] at p; exact p
  | bk s1 => rw [e1] at p; exact p
  | ct s1 => rw [e1] at p; exact p
  | exc cl s1 => rw [e1] at p; exact p
  | bad => rw [e1] at p; exact p
theorem SOk.pass : SOk X (.Pass pos) passC := fun W t => ps_pass.imp fun D σ H h => by
  obtain ⟨F, T, as, L, st, c, r, p⟩ := h
  exact p F as σ H c r r.refl Pre.refl
theorem SOk.brk : SOk X (.Break pos) brkC := fun W t => ps_break.imp fun D σ H h => by
  obtain ⟨F, T, as, L, st, c, r, p⟩ := h
  exact p F as σ H c r r.refl Pre.refl
theorem SOk.cnt : SOk X (.Continue pos) cntC := fun W t => ps_continue.imp fun D σ H h => by
  obtain ⟨F, T, as, L, st, c, r, p⟩ := h
  exact p F as σ H c r r.refl Pre.refl
theorem SOk.doc {x j pos'} : SOk X (.Expr (.Constant (.str x) j pos) pos') passC := fun W t => ps_doc.imp fun D σ H h => by
  obtain ⟨F, T, as, L, st, c, r, p⟩ := h
  exact p F as σ H c r r.refl Pre.refl
theorem SOk.ret (h : EOk X e fe) : SOk X (.Return (some e) pos) (retC fe) := fun W t => (ps_ret (h W t)).imp fun D σ H h => by
  refine h.bind.mono fun x H1 ⟨F, T, as, L, v, st, c1, c2, r1, rv, p⟩ => ?_
  exact p F as σ H1 x c1 c2 r1.r rv r1.s Pre.refl
theorem SOk.retN : SOk X (.Return none pos) retNC := fun W t => ps_retN.imp fun D σ H h => by
  obtain ⟨F, T, as, L, st, c, r, p⟩ := h
  exact p F as σ H _ c (fun _ => 0) r Rep.non' r.refl Pre.refl
theorem SOk.exp (h : EOk X e fe) (hs : swapsWith e none pos.line X.env = pure false := by rfl) : SOk X (.Expr e pos) (expC fe) := fun W t => (ps_expr (h W t) hs).imp fun D σ H h => by
  refine h.bind.mono fun x H1 ⟨F, T, as, L, v, st, c1, c2, r1, rv, p⟩ => ?_
  exact p F as σ H1 c1 r1.r (r1.s.less fun b => Nat.le_add_right _ _) Pre.refl
theorem SOk.ite (hc : TOk X c fc) (ha : SsOk X a f) (hb : SsOk X b g) : SOk X (.If c a b pos) (ifC fc f g) := fun W t => (ps_if (hc W t) (ha W t) (hb W t)).imp fun D σ H h => by
  refine h.bind.mono fun x H1 ⟨F, T, as, L, v, st, c1, c2, r1, rv, p⟩ => ?_
  cases v with
  | bl b =>
    refine ⟨b, rv.inv_bl, ?_⟩
    have z0 : ∀ b, c2 b = 0 := Rep.none0 rv rfl
    have s1 : Step F (fun b => c1 b + c2 b) H1 F c1 H1 := r1.s.less fun b => Nat.le_add_right _ _
    cases b with
    | true => exact ⟨F, T, as, L, st, c1, r1.r, SPost.back p s1 Pre.refl⟩
    | false => exact ⟨F, T, as, L, st, c1, r1.r, SPost.back p s1 Pre.refl⟩
  | _ => exact (show False from p).elim
end

/-! ### targets -/
abbrev Tg := Vl → Sta → Option Sta
def tgN (i : Nat) : Tg := fun v st => if noTr v && decide (i < st.sl.length) && !st.la.contains i then some { st with sl := st.sl.set i (some v) } else none
abbrev Tgs := List Vl → Sta → Option Sta
def tgsN : Tgs := fun vs st => match vs with
  | [] => some st
  | _ => none
def tgsC (g : Tg) (r : Tgs) : Tgs := fun vs st => match vs with
  | v :: ws => (match g v st with
    | some st1 => r ws st1
    | none => none)
  | [] => none
def tgT (n : Nat) (r : Tgs) : Tg := fun v st => match v with
  | .tup vs => if vs.length = n then r vs st else none
  | _ => none
def GI (K : PySem.W.Frag) (mg : Str → Option Value) (g : Tg) : TG := fun x σ H Q => ∃ F T as L st v c1 c2, Fly K mg F T as L st σ H c1 c2 ∧ Rep K mg H F T as v x c2 ∧ ∃ st', g v st = some st' ∧ ∀ σ' c', Rel K mg F T as L st' σ' H c' → (∀ b, c' b ≤ c1 b + c2 b) → Q σ' H
def GsI (K : PySem.W.Frag) (mg : Str → Option Value) (g : Tgs) : TGs := fun xs σ H Q => ∃ F T as L st vs c1 c2, Fly K mg F T as L st σ H c1 c2 ∧ Reps K mg H F T as vs xs c2 ∧ ∃ st', g vs st = some st' ∧ ∀ σ' c', Rel K mg F T as L st' σ' H c' → (∀ b, c' b ≤ c1 b + c2 b) → Q σ' H
def GOk (X : Cx) (tg : Expr) (g : Tg) : Prop := PG X tg (GI X.K X.mg g)
def GsOk (X : Cx) (tg : List Expr) (g : Tgs) : Prop := PGs X tg (GsI X.K X.mg g)
theorem _root_.L2.PG.imp {X : Cx} {e : Expr} {t t' : TG} (h : PG X e t) (i : ∀ x σ H Q, t' x σ H Q → t x σ H Q) : PG X e t' := ⟨fun pins s σ H v u Q I r hq => h.run pins s σ H v u Q I r (i v σ H Q hq)⟩
theorem _root_.L2.PGs.imp {X : Cx} {e : List Expr} {t t' : TGs} (h : PGs X e t) (i : ∀ x σ H Q, t' x σ H Q → t x σ H Q) : PGs X e t' := ⟨fun pins s σ H v u Q I r hq => h.run pins s σ H v u Q I r (i v σ H Q hq)⟩
section
variable {K : PySem.W.Frag} {mg : Str → Option Value} {H H' : Hp} {F T : Addr → Prop} {as : List Addr} {L : List (Nat × V)} {st : Sta} {σ : L2.St} {c c1 c2 : Addr → Nat}
/-- a slot is stored to -/
theorem Fly.store {i : Nat} {v : Vl} {x : V} (f : Fly K mg F T as L st σ H c1 c2) (rv : Rep K mg H F T as v x c2) (sv : noTr v = true) (hi : i < st.sl.length) (hl : st.la.contains i = false) :
    ∃ c', Rel K mg F T as L { st with sl := st.sl.set i (some v) } (σ.set i (some x)) H c' ∧ ∀ b, c' b ≤ c1 b + c2 b := by
  have r := f.r
  have le : ∀ b, c1 b + c2 b ≤ 1 := f.s.le
  have hF : ∀ b, F b ∨ T b → c2 b = 0 := fun b q => by
    rcases q with q | q
    · have : c1 b + c2 b = 0 := f.s.dis b q
      omega
    · exact f.t b q
  obtain ⟨d1, d2, h1, h2, h3, h4⟩ := r.rep
  obtain ⟨d3, s3, k3⟩ := h1.drop i
  refine ⟨fun b => (c2 b + d3 b) + d2 b, ⟨⟨_, d2, s3.put hi rv sv, h2, h3, fun _ => rfl⟩, fun b => ?_, fun b q => ⟨?_, (r.fr b q).2⟩, r.lk.1, fun p hp => ?_⟩, fun b => ?_⟩
  · show c2 b + d3 b + d2 b ≤ 1
    have := le b; have := k3 b; have := h4 b; omega
  · show c2 b + d3 b + d2 b = 0
    have := hF b q; have := (r.fr b q).1; have := k3 b; have := h4 b; omega
  · rw [List.getElem?_set_ne]
    · exact r.lk.2 p hp
    · intro e
      have hm : i ∈ st.la := by rw [r.lk.1, e]; exact List.mem_map_of_mem hp
      rw [List.contains_eq_mem, decide_eq_true hm] at hl
      cases hl
  · show c2 b + d3 b + d2 b ≤ c1 b + c2 b
    have := k3 b; have := h4 b; omega
end
section
variable {X : Cx} {pos : Pos}
theorem GOk.name {i : Nat} {x : Str} (hN : X.N.Nodup) (hi : X.N[i]? = some x) (hx : Loc X.env.scope x) (hf : X.fn x = true ∨ X.env.scope.names.lookup x = some .local := by first | exact .inl rfl | exact .inr rfl | assumption) : GOk X (.Name x pos) (tgN i) :=
  (pg_name hN hi hx hf).imp fun x σ H Q ⟨F, T, as, L, st, v, c1, c2, f, rv, st', e, q⟩ => by
    unfold tgN at e
    split at e
    · rename_i hc
      cases e
      simp only [Bool.and_eq_true, decide_eq_true_eq, Bool.not_eq_true'] at hc
      obtain ⟨c', r', k'⟩ := f.store rv hc.1.1 hc.1.2 hc.2
      exact q _ c' r' k'
    · cases e
theorem GsOk.nil : GsOk X [] tgsN := pgs_nil.imp fun xs σ H Q ⟨F, T, as, L, st, vs, c1, c2, f, rv, st', e, q⟩ => by
  unfold tgsN at e
  split at e
  · cases e
    cases rv with
    | nil hc => exact ⟨rfl, q σ c1 f.r fun b => Nat.le_add_right _ _⟩
  · cases e
/-- part of what flies lands -/
theorem Fly.rest {K : PySem.W.Frag} {mg : Str → Option Value} {H : Hp} {F T : Addr → Prop} {as : List Addr} {L : List (Nat × V)} {st st' : Sta} {σ σ' : L2.St} {c1 c2 c3 c4 c5 : Addr → Nat} (f : Fly K mg F T as L st σ H c1 c2) (r : Rel K mg F T as L st' σ' H c5) (h2 : ∀ b, c3 b + c4 b ≤ c2 b) (h5 : ∀ b, c5 b ≤ c1 b + c3 b) : Fly K mg F T as L st' σ' H c5 c4 :=
  ⟨r, Step.refl (fun b => by have : c1 b + c2 b ≤ 1 := f.s.le b; have := h2 b; have := h5 b; omega) fun b q => by have : c1 b + c2 b = 0 := f.s.dis b q; have := h2 b; have := h5 b; omega, fun b q => by have := f.t b q; have := h2 b; omega⟩
/-- .. is still in flight -/
theorem Fly.part {K : PySem.W.Frag} {mg : Str → Option Value} {H : Hp} {F T : Addr → Prop} {as : List Addr} {L : List (Nat × V)} {st : Sta} {σ : L2.St} {c1 c2 c3 : Addr → Nat} (f : Fly K mg F T as L st σ H c1 c2) (h2 : ∀ b, c3 b ≤ c2 b) : Fly K mg F T as L st σ H c1 c3 :=
  ⟨f.r, Step.refl (fun b => by have : c1 b + c2 b ≤ 1 := f.s.le b; have := h2 b; omega) fun b q => by have : c1 b + c2 b = 0 := f.s.dis b q; have := h2 b; omega, fun b q => by have := f.t b q; have := h2 b; omega⟩
theorem GsOk.cons {e : Expr} {es : List Expr} {g : Tg} {r : Tgs} (h1 : GOk X e g) (h2 : GsOk X es r) (hs : (assignEach (e :: es) X.env).map (·.2) = assign e X.env :: (assignEach es X.env).map (·.2) := by rfl) : GsOk X (e :: es) (tgsC g r) :=
  (pgs_cons h1 h2 hs).imp fun xs σ H Q ⟨F, T, as, L, st, vs, c1, c2, f, rv, st', e, q⟩ => by
    unfold tgsC at e
    split at e
    · rename_i v ws
      split at e
      · rename_i st1 e1
        cases rv with
        | cons r1 r2 hc =>
          refine ⟨_, _, rfl, F, T, as, L, st, v, c1, _, f.part fun b => by rw [hc]; exact Nat.le_add_right _ _, r1, st1, e1, fun σ' c' r' k' => ?_⟩
          exact ⟨F, T, as, L, st1, ws, c', _, f.rest r' (fun b => by rw [hc]; exact Nat.le_refl _) k', r2, st', e, fun σ2 c6 r6 k6 => q σ2 c6 r6 fun b => by have := k6 b; have := k' b; rw [hc]; omega⟩
      · cases e
    · cases e
theorem GOk.tup {es : List Expr} {k : Nat} {r : Tgs} {n : Nat} (hc : X.calm = true) (h : GsOk X es r) (hn : (assignEach es X.env).length = n := by rfl) (hst : (assignEach es X.env).findIdx? (·.1) = none := by rfl) : GOk X (.Tuple es k pos) (tgT n r) :=
  (pg_tup hc h hn hst).imp fun x σ H Q ⟨F, T, as, L, st, v, c1, c2, f, rv, st', e, q⟩ => by
    unfold tgT at e
    split at e
    · rename_i vs
      split at e
      · rename_i hl
        obtain ⟨a, xs, rfl, h1, s1⟩ := rv.inv_tup
        exact ⟨a, xs, rfl, h1, by rw [← s1.length]; exact hl, F, T, as, L, st, vs, c1, c2, f, s1, st', e, q⟩
      · cases e
    · cases e
end
/-- target = value -/
def asgC (g : Tg) (f : E) : C := bindC f fun v s => match g v s with
  | some s' => .nx s'
  | none => .bad
section
variable {X : Cx} {pos : Pos} {tg e : Expr} {g : Tg} {f : E}
theorem SOk.asg_of {D : Ends} {W : WX} {σ : L2.St} {H : Hp} (h : SI X.K X.mg W (asgC g f) D σ H) : EI X.K X.mg W f σ H fun x H1 => GI X.K X.mg g x σ H1 D.nx := by
  refine h.bind.mono fun x H1 ⟨F, T, as, L, v, st, c1, c2, r1, rv, p⟩ => ?_
  split at p
  · rename_i s' e
    exact ⟨F, T, as, L, st, v, c1, c2, r1, rv, s', e, fun σ' c' r' k' => p F as σ' H1 c' r' (r1.s.less k') Pre.refl⟩
  · exact (show False from p).elim
theorem SOk.asg (h : EOk X e f) (hg : GOk X tg g) (hs : swapsWithSole [tg] e pos.line X.env = pure false := by rfl) (hw : swappedStores [tg] e X.env = pure none := by rfl)
    (h1 : (assignEach [tg] X.env).map (·.2) = [assign tg X.env] := by rfl) : SOk X (.Assign [tg] e pos) (asgC g f) := fun W t => (ps_asg (h W t) hg hs hw h1).imp fun D σ H h => SOk.asg_of h
theorem SOk.set {i : Nat} {x : Str} {pos' : Pos} (hN : X.N.Nodup) (hi : X.N[i]? = some x) (hx : Loc X.env.scope x) (h : EOk X e f) (hs : swapsWith e (some (.Name x pos')) pos.line X.env = pure false := by rfl) (hf : X.fn x = true ∨ X.env.scope.names.lookup x = some .local := by first | exact .inl rfl | exact .inr rfl | assumption) : SOk X (.Assign [.Name x pos'] e pos) (asgC (tgN i) f) := fun W t =>
  (ps_set hN hi hx (h W t) hs hf).imp fun D σ H h => (SOk.asg_of h).mono fun x H1 ⟨F, T, as, L, st, v, c1, c2, f, rv, st', e, q⟩ => by
    unfold tgN at e
    split at e
    · rename_i hc
      cases e
      simp only [Bool.and_eq_true, decide_eq_true_eq, Bool.not_eq_true'] at hc
      obtain ⟨c', r', k'⟩ := f.store rv hc.1.1 hc.1.2 hc.2
      exact q _ c' r' k'
    · cases e
end
end PyI

namespace PyI
open PySem PySem.Spec PyProof.Rows L2

/-! ### list nodes -/
def Nod (K : PySem.W.Frag) (H : Hp) (F T : Addr → Prop) (f : Fl) (a : Addr) (xs : List V) (c : Addr → Nat) : Prop := match f with
  | .own => H a = some (.lst xs) ∧ ∀ b, c b = if b = a then 1 else 0
  | .sh => ((F a ∧ L2.Rd H a (.lst xs)) ∨ KL K a xs) ∧ ∀ b, c b = 0
  | .bw => ((T a ∧ L2.Rd H a (.lst xs)) ∨ KL K a xs) ∧ ∀ b, c b = 0
  | .tr => (L2.Rd H a (.lst xs) ∨ KL K a xs) ∧ ∀ b, c b = 0
section
variable {K : PySem.W.Frag} {mg : Str → Option Value} {H H' : Hp} {F F' T : Addr → Prop} {as as' : List Addr} {L : List (Nat × V)} {st : Sta} {σ : L2.St} {c c1 : Addr → Nat} {f : Fl} {a : Addr} {xs : List V}
theorem Rep.nod {vs : List Vl} {x : V} (r : Rep K mg H F T as (.nd f .lst vs) x c) : ∃ a xs cn cr, x = .ref a ∧ Nod K H F T f a xs cn ∧ Reps K mg H F T as vs xs cr ∧ ∀ b, c b = cn b + cr b := by
  cases r with
  | own h ho r hc => cases ho; exact ⟨_, _, _, _, rfl, ⟨h, fun _ => rfl⟩, r, hc⟩
  | sh h r hc =>
    refine ⟨_, _, fun _ => 0, _, rfl, ⟨?_, fun _ => rfl⟩, r, fun b => (Nat.zero_add _).symm⟩
    rcases h with ⟨h1, o, ho, h⟩ | ⟨_, h⟩
    · cases ho; exact .inl ⟨h1, h⟩
    · exact .inr h
  | bw h r hc =>
    refine ⟨_, _, fun _ => 0, _, rfl, ⟨?_, fun _ => rfl⟩, r, fun b => (Nat.zero_add _).symm⟩
    rcases h with ⟨h1, o, ho, h⟩ | ⟨_, h⟩
    · cases ho; exact .inl ⟨h1, h⟩
    · exact .inr h
  | tr h r hc =>
    refine ⟨_, _, fun _ => 0, _, rfl, ⟨?_, fun _ => rfl⟩, r, fun b => (Nat.zero_add _).symm⟩
    rcases h with ⟨o, ho, h⟩ | ⟨_, h⟩
    · cases ho; exact .inl h
    · exact .inr h
theorem Nod.seq (n : Nod K H F T f a xs c) : SqL K H a xs := by
  cases f with
  | own => exact SqL.of n.1
  | sh => rcases n.1 with ⟨_, h⟩ | h; exact .inl h; exact .inr h
  | bw => rcases n.1 with ⟨_, h⟩ | h; exact .inl h; exact .inr h
  | tr => rcases n.1 with h | h; exact .inl h; exact .inr h
theorem Nod.mu (n : Nod K H F T f a xs c) : ∀ b, c b ≠ 0 → MutO (H b) := by
  cases f with
  | own =>
    intro b q
    rw [n.2] at q
    by_cases e : b = a
    · rw [e, n.1]; trivial
    · rw [if_neg e] at q; exact absurd rfl q
  | sh => exact fun b q => absurd (n.2 b) q
  | bw => exact fun b q => absurd (n.2 b) q
  | tr => exact fun b q => absurd (n.2 b) q
theorem Nod.stay (n : Nod K H F T f a xs c) (hf : f ≠ .tr) (s : Stay H H' F T c) (hF : ∀ b, F b → F' b) : Nod K H' F' T f a xs c := by
  cases f with
  | own => exact ⟨s _ _ n.1 (.inr (.inr (.inl (by rw [n.2]; simp)))), n.2⟩
  | sh =>
    refine ⟨?_, n.2⟩
    rcases n.1 with ⟨h1, h⟩ | h
    · exact .inl ⟨hF _ h1, s.rd h (.inl h1)⟩
    · exact .inr h
  | bw =>
    refine ⟨?_, n.2⟩
    rcases n.1 with ⟨h1, h⟩ | h
    · exact .inl ⟨h1, s.rd h (.inr (.inl h1))⟩
    · exact .inr h
  | tr => exact absurd rfl hf
theorem Nod.same (n : Nod K H F T f a xs c) (s : Same H H') (hF : ∀ b, F b → F' b) : Nod K H' F' T f a xs c := by
  cases f with
  | own => exact ⟨s _ _ n.1, n.2⟩
  | sh =>
    refine ⟨?_, n.2⟩
    rcases n.1 with ⟨h1, h⟩ | h
    · refine .inl ⟨hF _ h1, ?_⟩
      rcases h with h | ⟨o, h⟩
      · exact .inl (s _ _ h)
      · exact .inr ⟨o, s _ _ h⟩
    · exact .inr h
  | bw =>
    refine ⟨?_, n.2⟩
    rcases n.1 with ⟨h1, h⟩ | h
    · refine .inl ⟨h1, ?_⟩
      rcases h with h | ⟨o, h⟩
      · exact .inl (s _ _ h)
      · exact .inr ⟨o, s _ _ h⟩
    · exact .inr h
  | tr =>
    refine ⟨?_, n.2⟩
    rcases n.1 with h | h
    · rcases h with h | ⟨o, h⟩
      · exact .inl (.inl (s _ _ h))
      · exact .inl (.inr ⟨o, s _ _ h⟩)
    · exact .inr h
end

/-! ### what is walked -/
structure Walk (K : PySem.W.Frag) (mg : Str → Option Value) (T : Addr → Prop) (J : It) (tr : Bool) where
  P : Nat → List Vl → Hp → (Addr → Nat) → (Addr → Prop) → List Addr → Prop
  same : ∀ {i r H H' c F F' as as'}, P i r H c F as → Same H H' → (∀ b, F b → F' b) → Pre as as' → P i r H' c F' as'
  step : ∀ {i r H H' c F F' as as'}, tr = false → P i r H c F as → (∀ d, (∀ b, d b ≠ 0 → c b ≠ 0) → Stay H H' F T d) → (∀ b, F b → F' b) → Pre as as' → P i r H' c F' as'
  mu : ∀ {i r H c F as}, P i r H c F as → ∀ b, c b ≠ 0 → MutO (H b)
  stop : ∀ {i H c F as}, P i [] H c F as → J.stop i H
  go : ∀ {i v r H c F as}, P i (v :: r) H c F as → J.go i H
  yld : ∀ {i v r Hm H c F as x H'}, P i (v :: r) Hm c F as → Same Hm H → J.yld i H x H' → Same H H' ∧ ∃ Hm' c1 c2, Same Hm Hm' ∧ Same Hm' H' ∧ (∀ b, Hm' b ≠ none → Hm b ≠ none ∨ H b = none) ∧ Rep K mg Hm' F T as v x c1 ∧ P (i + 1) r Hm' c2 F as ∧ ∀ b, c1 b + c2 b ≤ c b
abbrev Src := Sta → R (List Vl × Bool × Sta × Bool)
def SrcI (K : PySem.W.Frag) (mg : Str → Option Value) (W : WX) (src : Src) : TI := fun σ H Rr => ∃ F T as L st c, Rel K mg F T as L st σ H c ∧ match src st with
  | .ok (items, tr, st', eff) => ∀ F' as' H' c1 c2 J (w : Walk K mg T J tr), Rel K mg F' T as' L st' σ H' c1 → w.P 0 items H' c2 F' as' → Step F c H F' (fun b => c1 b + c2 b) H' → Pre as as' → (eff = false → Same H H' ∧ st' = st ∧ ∀ b, F' b → F b) → Rr J H'
  | .exc cl st' => XPost K mg W T as L F c H cl st'
  | .bad => False
def SrcOk (X : Cx) (tg iter : Expr) (src : Src) : Prop := ∀ W, Takes X W → PI X tg iter (SrcI X.K X.mg W src)
theorem _root_.L2.PI.imp {X : Cx} {tg e : Expr} {t t' : TI} (h : PI X tg e t) (i : ∀ σ H Q, t' σ H Q → t σ H Q) : PI X tg e t' := ⟨fun pins s σ H Rr I hq => h.run pins s σ H Rr I (i σ H Rr hq)⟩

theorem same_upd2 {Hm H : Hp} {a : Addr} {o : HO} (s : Same Hm H) : Same (upd Hm a o) (upd H a o) := fun b x e => by
  by_cases q : b = a
  · rw [q, upd_same] at e ⊢; exact e
  · rw [upd_ne q] at e ⊢; exact s b x e
theorem new_upd {Hm H : Hp} {a : Addr} {o : HO} (h : H a = none) : ∀ b, upd Hm a o b ≠ none → Hm b ≠ none ∨ H b = none := fun b q => by
  by_cases z : b = a
  · rw [z]; exact .inr h
  · rw [upd_ne z] at q; exact .inl q
section
variable {K : PySem.W.Frag} {mg : Str → Option Value} {T : Addr → Prop}
/-- an int range: lo, lo + 1, .. -/
def intsV (lo : Int) (n : Nat) : List Vl := (List.range n).map fun k => .int (lo + (k : Nat))
def walkR (lo : Int) (n : Nat) : Walk K mg T (Itr lo n) false where
  P := fun i r H c F as => i + r.length = n ∧ r = (intsV lo n).drop i ∧ ∀ b, c b = 0
  same := fun h _ _ _ => h
  step := fun _ h _ _ _ => h
  mu := fun h b q => absurd (h.2.2 b) q
  stop := fun h => by have := h.1; simp at this; exact Nat.le_of_eq this.symm
  go := fun h => by have := h.1; simp at this; show _ < n; omega
  yld := fun {i v r Hm H c F as x H'} h sH y => by
    obtain ⟨h1, h2, h3⟩ := h
    obtain ⟨rfl, rfl⟩ := y
    refine ⟨Same.refl _, Hm, fun _ => 0, fun _ => 0, Same.refl _, sH, fun b q => .inl q, ?_, ⟨by simp at h1; omega, ?_, fun _ => rfl⟩, fun b => Nat.zero_le _⟩
    · have e : v = .int (lo + (i : Nat)) := by
        have : (intsV lo n)[i]? = some v := by
          have := congrArg (fun l => l[0]?) h2
          simp [List.getElem?_drop] at this
          exact this.symm
        unfold intsV at this
        rw [List.getElem?_map] at this
        obtain ⟨k, e1, e2⟩ := Option.map_eq_some_iff.mp this
        rw [List.getElem?_range (by simp at h1; omega)] at e1
        cases e1
        exact e2.symm
      rw [e]
      exact Rep.int'
    · have := congrArg List.tail h2
      simpa using this
/-- lo, lo + c, .. -/
def intsC (lo c : Int) (n : Nat) : List Vl := (List.range n).map fun k => .int (lo + (k : Nat) * c)
def walkC (lo d : Int) (n : Nat) : Walk K mg T (Itc lo d n) false where
  P := fun i r H c F as => i + r.length = n ∧ r = (intsC lo d n).drop i ∧ ∀ b, c b = 0
  same := fun h _ _ _ => h
  step := fun _ h _ _ _ => h
  mu := fun h b q => absurd (h.2.2 b) q
  stop := fun h => by have := h.1; simp at this; exact Nat.le_of_eq this.symm
  go := fun h => by have := h.1; simp at this; show _ < n; omega
  yld := fun {i v r Hm H c F as x H'} h sH y => by
    obtain ⟨h1, h2, h3⟩ := h
    obtain ⟨rfl, rfl⟩ := y
    refine ⟨Same.refl _, Hm, fun _ => 0, fun _ => 0, Same.refl _, sH, fun b q => .inl q, ?_, ⟨by simp at h1; omega, ?_, fun _ => rfl⟩, fun b => Nat.zero_le _⟩
    · have e : v = .int (lo + (i : Nat) * d) := by
        have : (intsC lo d n)[i]? = some v := by
          have := congrArg (fun l => l[0]?) h2
          simp [List.getElem?_drop] at this
          exact this.symm
        unfold intsC at this
        rw [List.getElem?_map] at this
        obtain ⟨k, e1, e2⟩ := Option.map_eq_some_iff.mp this
        rw [List.getElem?_range (by simp at h1; omega)] at e1
        cases e1
        exact e2.symm
      rw [e]
      exact Rep.int'
    · have := congrArg List.tail h2
      simpa using this
theorem drop_cons {α : Type} {l r : List α} {x : α} {i : Nat} (h : l.drop i = x :: r) : l[i]? = some x ∧ l.drop (i + 1) = r := by
  constructor
  · have := congrArg (fun l => l[0]?) h
    simpa [List.getElem?_drop] using this
  · have := congrArg List.tail h
    simpa using this
/-- a list -/
def walkL (f : Fl) (a : Addr) (xs : List V) (tr : Bool) : Walk K mg T (Itl K a) tr where
  P := fun i r H c F as => ∃ cn cr, Nod K H F T f a xs cn ∧ Reps K mg H F T as r (xs.drop i) cr ∧ (tr = false → f ≠ .tr ∧ noTrs r = true) ∧ ∀ b, c b = cn b + cr b
  same := fun ⟨cn, cr, n, r, t, e⟩ s hF p => ⟨cn, cr, n.same s hF, r.same s hF (fun _ h => h) p, t, e⟩
  step := fun ht ⟨cn, cr, n, r, t, e⟩ s hF p => ⟨cn, cr, n.stay (t ht).1 (s _ fun b q => by rw [e]; omega) hF, r.stay (t ht).2 (s _ fun b q => by rw [e]; omega) hF (fun _ h => h) p, t, e⟩
  mu := fun ⟨cn, cr, n, r, t, e⟩ b q => by
    by_cases z : cn b = 0
    · exact r.mu b (by rw [e] at q; omega)
    · exact n.mu b z
  stop := fun {i H c F as} ⟨cn, cr, n, r, t, e⟩ => ⟨xs, n.seq, by
    have := r.length
    simp at this
    omega⟩
  go := fun {i v r' H c F as} ⟨cn, cr, n, r, t, e⟩ => by
    have := r.length
    simp at this
    exact ⟨xs, xs[i]'(by omega), n.seq, List.getElem?_eq_getElem _⟩
  yld := fun {i v r' Hm H c F as x H'} ⟨cn, cr, n, r, t, e⟩ sH y => by
    obtain ⟨rfl, y⟩ := y
    generalize hd : xs.drop i = ys at r
    cases r with
    | cons r1 r2 hc =>
      obtain ⟨h1, h2⟩ := drop_cons hd
      have ex := y xs (sH.seq n.seq)
      rw [h1] at ex
      cases ex
      refine ⟨Same.refl _, Hm, _, _, Same.refl _, sH, fun b q => .inl q, r1, ⟨cn, _, n, by rw [h2]; exact r2, fun q => ⟨(t q).1, ?_⟩, fun _ => rfl⟩, fun b => by rw [e, hc]; omega⟩
      have := (t q).2
      unfold noTrs at this
      simp only [Bool.and_eq_true] at this
      exact this.2
/-- a tuple -/
def walkT (a : Addr) (xs : List V) (tr : Bool) : Walk K mg T (Itt K a) tr where
  P := fun i r H c F as => SqT K H a xs ∧ Reps K mg H F T as r (xs.drop i) c ∧ (tr = false → noTrs r = true)
  same := fun ⟨n, r, t⟩ s hF p => ⟨(show Stay _ _ (fun _ => False) (fun _ => False) (fun _ => 0) from fun b o e _ => s b o e).sqT n, r.same s hF (fun _ h => h) p, t⟩
  step := fun ht ⟨n, r, t⟩ s hF p => ⟨(s _ fun b q => q).sqT n, r.stay (t ht) (s _ fun b q => q) hF (fun _ h => h) p, t⟩
  mu := fun ⟨n, r, t⟩ b q => r.mu b q
  stop := fun {i H c F as} ⟨n, r, t⟩ => ⟨xs, n, by
    have := r.length
    simp at this
    omega⟩
  go := fun {i v r' H c F as} ⟨n, r, t⟩ => by
    have := r.length
    simp at this
    exact ⟨xs, xs[i]'(by omega), n, List.getElem?_eq_getElem _⟩
  yld := fun {i v r' Hm H c F as x H'} ⟨n, r, t⟩ sH y => by
    obtain ⟨rfl, y⟩ := y
    generalize hd : xs.drop i = ys at r
    cases r with
    | cons r1 r2 hc =>
      obtain ⟨h1, h2⟩ := drop_cons hd
      have ex := y xs ((show Stay _ _ (fun _ => False) (fun _ => False) (fun _ => 0) from fun b o e _ => sH b o e).sqT n)
      rw [h1] at ex
      cases ex
      refine ⟨Same.refl _, Hm, _, _, Same.refl _, sH, fun b q => .inl q, r1, ⟨n, by rw [h2]; exact r2, fun q => ?_⟩, fun b => by rw [hc]; exact Nat.le_refl _⟩
      have := t q
      unfold noTrs at this
      simp only [Bool.and_eq_true] at this
      exact this.2
/-- the items with their places -/
def enumV : Nat → List Vl → List Vl
  | _, [] => []
  | i, v :: r => .tup [.int (i : Nat), v] :: enumV (i + 1) r
theorem enumV_nil {i : Nat} : ∀ {r : List Vl}, enumV i r = [] → r = []
  | [], _ => rfl
  | _ :: _, h => nomatch h
theorem enumV_cons {i : Nat} {v : Vl} {s : List Vl} : ∀ {r : List Vl}, enumV i r = v :: s → ∃ w t, r = w :: t ∧ v = .tup [.int (i : Nat), w] ∧ s = enumV (i + 1) t
  | [], h => nomatch h
  | w :: t, h => by cases h; exact ⟨w, t, rfl, rfl, rfl⟩
def walkE (f : Fl) (a : Addr) (xs : List V) (tr : Bool) : Walk K mg T (Ite K a) tr where
  P := fun i r H c F as => ∃ r0, r = enumV i r0 ∧ ∃ cn cr, Nod K H F T f a xs cn ∧ Reps K mg H F T as r0 (xs.drop i) cr ∧ (tr = false → f ≠ .tr ∧ noTrs r0 = true) ∧ ∀ b, c b = cn b + cr b
  same := fun ⟨r0, e0, cn, cr, n, r, t, e⟩ s hF p => ⟨r0, e0, cn, cr, n.same s hF, r.same s hF (fun _ h => h) p, t, e⟩
  step := fun ht ⟨r0, e0, cn, cr, n, r, t, e⟩ s hF p => ⟨r0, e0, cn, cr, n.stay (t ht).1 (s _ fun b q => by rw [e]; omega) hF, r.stay (t ht).2 (s _ fun b q => by rw [e]; omega) hF (fun _ h => h) p, t, e⟩
  mu := fun ⟨r0, e0, cn, cr, n, r, t, e⟩ b q => by
    by_cases z : cn b = 0
    · exact r.mu b (by rw [e] at q; omega)
    · exact n.mu b z
  stop := fun {i H c F as} ⟨r0, e0, cn, cr, n, r, t, e⟩ => ⟨xs, n.seq, by
    have z := enumV_nil e0.symm
    subst z
    have := r.length
    simp at this
    omega⟩
  go := fun {i v r' H c F as} ⟨r0, e0, cn, cr, n, r, t, e⟩ => by
    obtain ⟨w, t', rfl, _, _⟩ := enumV_cons e0.symm
    have := r.length
    simp at this
    exact ⟨xs, xs[i]'(by omega), n.seq, List.getElem?_eq_getElem _⟩
  yld := fun {i v r' Hm H c F as x H'} ⟨r0, e0, cn, cr, n, r, t, e⟩ sH y => by
    obtain ⟨w, t', rfl, rfl, rfl⟩ := enumV_cons e0.symm
    obtain ⟨Ta, x0, rfl, hT, rfl, y⟩ := y
    generalize hd : xs.drop i = ys at r
    cases r with
    | cons r1 r2 hc =>
      obtain ⟨h1, h2⟩ := drop_cons hd
      have ex := y xs (sH.seq n.seq)
      rw [h1] at ex
      cases ex
      have hTm : Hm Ta = none := sH.free hT
      have sm : Same Hm (upd Hm Ta (.tup [.int (i : Nat), x0])) := same_new hTm
      refine ⟨same_new hT, _, _, _, sm, same_upd2 sH, new_upd hT, .tup (.inl (.inl upd_same)) (.cons Rep.int' (.cons (r1.same sm (fun _ h => h) (fun _ h => h) Pre.refl) (.nil fun _ => rfl) fun _ => rfl) fun _ => rfl), ⟨t', rfl, cn, _, n.same sm (fun _ h => h), by rw [h2]; exact r2.same sm (fun _ h => h) (fun _ h => h) Pre.refl, fun q => ⟨(t q).1, ?_⟩, fun _ => rfl⟩, fun b => by rw [e, hc]; omega⟩
      have := (t q).2
      unfold noTrs at this
      simp only [Bool.and_eq_true] at this
      exact this.2
/-- two lists, item by item -/
def zipV : List Vl → List Vl → List Vl
  | v :: r, w :: s => .tup [v, w] :: zipV r s
  | _, _ => []
theorem zipV_nil : ∀ {r s : List Vl}, zipV r s = [] → r = [] ∨ s = []
  | [], _, _ => .inl rfl
  | _ :: _, [], _ => .inr rfl
  | _ :: _, _ :: _, h => nomatch h
theorem zipV_cons {v : Vl} {t : List Vl} : ∀ {r s : List Vl}, zipV r s = v :: t → ∃ a r' b s', r = a :: r' ∧ s = b :: s' ∧ v = .tup [a, b] ∧ t = zipV r' s'
  | [], _, h => nomatch h
  | _ :: _, [], h => nomatch h
  | a :: r, b :: s, h => by cases h; exact ⟨a, r, b, s, rfl, rfl, rfl, rfl⟩
def walkZ (f g : Fl) (a b : Addr) (xs ys : List V) (tr : Bool) : Walk K mg T (Itz K a b) tr where
  P := fun i r H c F as => ∃ r0 s0, r = zipV r0 s0 ∧ ∃ cn cm cr cs, Nod K H F T f a xs cn ∧ Nod K H F T g b ys cm ∧ Reps K mg H F T as r0 (xs.drop i) cr ∧ Reps K mg H F T as s0 (ys.drop i) cs ∧ (tr = false → (f ≠ .tr ∧ g ≠ .tr) ∧ noTrs r0 = true ∧ noTrs s0 = true) ∧ ∀ b, c b = (cn b + cm b) + (cr b + cs b)
  same := fun ⟨r0, s0, e0, cn, cm, cr, cs, n, m, r, s', t, e⟩ s hF p => ⟨r0, s0, e0, cn, cm, cr, cs, n.same s hF, m.same s hF, r.same s hF (fun _ h => h) p, s'.same s hF (fun _ h => h) p, t, e⟩
  step := fun ht ⟨r0, s0, e0, cn, cm, cr, cs, n, m, r, s', t, e⟩ s hF p => ⟨r0, s0, e0, cn, cm, cr, cs, n.stay (t ht).1.1 (s _ fun b q => by rw [e]; omega) hF, m.stay (t ht).1.2 (s _ fun b q => by rw [e]; omega) hF,
    r.stay (t ht).2.1 (s _ fun b q => by rw [e]; omega) hF (fun _ h => h) p, s'.stay (t ht).2.2 (s _ fun b q => by rw [e]; omega) hF (fun _ h => h) p, t, e⟩
  mu := fun ⟨r0, s0, e0, cn, cm, cr, cs, n, m, r, s', t, e⟩ b q => by
    by_cases z : cn b = 0
    · by_cases z2 : cm b = 0
      · by_cases z3 : cr b = 0
        · exact s'.mu b (by rw [e] at q; omega)
        · exact r.mu b z3
      · exact m.mu b z2
    · exact n.mu b z
  stop := fun {i H c F as} ⟨r0, s0, e0, cn, cm, cr, cs, n, m, r, s', t, e⟩ => ⟨xs, ys, n.seq, m.seq, by
    have l1 := r.length
    have l2 := s'.length
    rcases zipV_nil e0.symm with z | z
    · subst z; simp at l1; left; omega
    · subst z; simp at l2; right; omega⟩
  go := fun {i v r' H c F as} ⟨r0, s0, e0, cn, cm, cr, cs, n, m, r, s', t, e⟩ => by
    obtain ⟨v1, r1, v2, s1, rfl, rfl, _, _⟩ := zipV_cons e0.symm
    have l1 := r.length
    have l2 := s'.length
    simp at l1 l2
    exact ⟨xs, ys, xs[i]'(by omega), ys[i]'(by omega), n.seq, m.seq, List.getElem?_eq_getElem _, List.getElem?_eq_getElem _⟩
  yld := fun {i v r' Hm H c F as x H'} ⟨r0, s0, e0, cn, cm, cr, cs, n, m, r, s', t, e⟩ sH y => by
    obtain ⟨v1, q1, v2, q2, rfl, rfl, rfl, rfl⟩ := zipV_cons e0.symm
    obtain ⟨Ta, x0, y0, rfl, hT, rfl, y1, y2⟩ := y
    generalize hd : xs.drop i = zs at r
    generalize hd2 : ys.drop i = ws at s'
    cases r with
    | cons r1 r2 hc =>
      cases s' with
      | cons t1 t2 hc2 =>
        obtain ⟨h1, h2⟩ := drop_cons hd
        obtain ⟨h3, h4⟩ := drop_cons hd2
        have ex := y1 xs (sH.seq n.seq)
        rw [h1] at ex
        cases ex
        have ey := y2 ys (sH.seq m.seq)
        rw [h3] at ey
        cases ey
        have hTm : Hm Ta = none := sH.free hT
        have sm : Same Hm (upd Hm Ta (.tup [x0, y0])) := same_new hTm
        refine ⟨same_new hT, _, _, _, sm, same_upd2 sH, new_upd hT, .tup (.inl (.inl upd_same)) (.cons (r1.same sm (fun _ h => h) (fun _ h => h) Pre.refl) (.cons (t1.same sm (fun _ h => h) (fun _ h => h) Pre.refl) (.nil fun _ => rfl) fun _ => rfl) fun _ => rfl),
          ⟨q1, q2, rfl, cn, cm, _, _, n.same sm (fun _ h => h), m.same sm (fun _ h => h), by rw [h2]; exact r2.same sm (fun _ h => h) (fun _ h => h) Pre.refl, by rw [h4]; exact t2.same sm (fun _ h => h) (fun _ h => h) Pre.refl, fun q => ⟨(t q).1, ?_⟩, fun _ => rfl⟩, fun b => by rw [e, hc, hc2]; omega⟩
        have u1 := (t q).2.1
        have u2 := (t q).2.2
        unfold noTrs at u1 u2
        simp only [Bool.and_eq_true] at u1 u2
        exact ⟨u1.2, u2.2⟩
end
end PyI

namespace PyI
open PySem PySem.Spec PyProof.Rows L2

def srcE (h : List Vl → Option (List Vl × Bool)) (fs : List E) : Src := fun st => match evs fs st with
  | .ok (vs, st1, e) => (match h vs with
    | some (items, tr) => .ok (items, tr, st1, e)
    | none => .bad)
  | .exc c s => .exc c s
  | .bad => .bad
section
variable {K : PySem.W.Frag} {mg : Str → Option Value} {W : WX} {fs : List E} {σ : L2.St} {H : Hp}
theorem SrcI.args {h : List Vl → Option (List Vl × Bool)} {Rr : It → Hp → Prop} (hi : SrcI K mg W (srcE h fs) σ H Rr) : AI K mg W fs σ H fun xs H1 => ∃ F T as vs c items tr, Reps K mg H1 F T as vs xs c ∧ h vs = some (items, tr) ∧ ∀ (J : It) (w : Walk K mg T J tr) c3, w.P 0 items H1 c3 F as → (∀ b, c3 b ≤ c b) → Rr J H1 := by
  obtain ⟨F, T, as, L, st, c0, r0, p⟩ := hi
  refine ⟨F, T, as, L, st, c0, r0, ?_⟩
  unfold srcE at p
  cases e1 : evs fs st with
  | bad => rw [e1] at p; exact p
  | exc cl s => rw [e1] at p; exact p
  | ok q =>
    obtain ⟨vs, st1, f1⟩ := q
    rw [e1] at p
    simp only at p
    intro F1 as1 H2 xs c1 c r1 rv s1 p1 ef
    cases e2 : h vs with
    | none => rw [e2] at p; exact (show False from p).elim
    | some z =>
      obtain ⟨items, tr⟩ := z
      rw [e2] at p
      simp only at p
      exact ⟨F1, T, as1, vs, c, items, tr, rv, e2, fun J w c3 wp hc => p F1 as1 H2 c1 c3 J w r1 wp (s1.less fun b => by have := hc b; omega) p1 ef⟩
end
def hSeq : List Vl → Option (List Vl × Bool)
  | [.nd f .lst vs] => some (vs, f == .tr || !noTrs vs)
  | [.tup vs] => some (vs, !noTrs vs)
  | _ => none
def hEnum : List Vl → Option (List Vl × Bool)
  | [.nd f .lst vs] => some (enumV 0 vs, f == .tr || !noTrs vs)
  | _ => none
def hZip : List Vl → Option (List Vl × Bool)
  | [.nd f .lst vs, .nd g .lst ws] => some (zipV vs ws, (f == .tr || g == .tr) || !(noTrs vs && noTrs ws))
  | _ => none
def hRng1 : List Vl → Option (List Vl × Bool)
  | [.int j] => if inB 4611686018427387903 j then some (intsV 0 j.toNat, false) else none
  | _ => none
def hRng2 : List Vl → Option (List Vl × Bool)
  | [.int i, .int j] => if inB 4611686018427387903 i && inB 4611686018427387903 j then some (intsV i (j - i).toNat, false) else none
  | _ => none
/-- a step of -1 -/
def hRng3 : List Vl → Option (List Vl × Bool)
  | [.int i, .int j, .int (-1)] => if inB 4611686018427387903 i && inB 4611686018427387903 j then some (intsC i (-1) (i - j).toNat, false) else none
  | _ => none
def iSeq (K : PySem.W.Frag) (tl : TE) : TI := fun σ H Rr => tl σ H fun x H1 => ∃ a, x = .ref a ∧ (((∃ xs, SqL K H1 a xs) ∧ Rr (Itl K a) H1) ∨ ((∃ xs, SqT K H1 a xs) ∧ Rr (Itt K a) H1))
theorem pi_seq {X : Cx} {tg l : Expr} {tl : TE} (hl : PE X l tl) : PI X tg l (iSeq X.K tl) := by
  refine ⟨fun pins s σ H Rr I h => ?_⟩
  refine thn (hl.run pins s σ H _ I h) fun v s1 ⟨x, H1, I1, r1, q1⟩ => ?_
  obtain ⟨a, e, q⟩ := q1
  subst e
  cases r1
  rcases q with ⟨⟨xs, hq⟩, q⟩ | ⟨⟨xs, hq⟩, q⟩
  · obtain ⟨its, rv, p, hz⟩ := I1.list hq
    refine wpAny_pyIter_list p.isList ?_
    refine ⟨s1.heap.objs.size, [s1.heap.objs.size], _, _, H1, rfl, I1.kept (t' := s1.toks) fun b o e => Heap.get?_push_of_some _ e, turn_list a _, ⟨_, Heap.get?_push_size _ rfl, rfl, rfl⟩, fun b hb => ?_, q⟩
    have e : b = s1.heap.objs.size := by simpa using hb
    subst e
    exact I1.fpOk (Nat.le_refl _) (I1.hok.fresh (Nat.le_refl _))
  · obtain ⟨its, rv, p, hz⟩ := I1.tuple hq
    refine wpAny_pyIter_tuple (show s1.heap.IsTuple a its.toArray from p) ?_
    refine ⟨s1.heap.objs.size, [s1.heap.objs.size], _, _, H1, rfl, I1.kept (t' := s1.toks) fun b o e => Heap.get?_push_of_some _ e, turn_tuple a _, ⟨_, Heap.get?_push_size _ rfl, rfl, rfl⟩, fun b hb => ?_, q⟩
    have e : b = s1.heap.objs.size := by simpa using hb
    subst e
    exact I1.fpOk (Nat.le_refl _) (I1.hok.fresh (Nat.le_refl _))
theorem tr_of {f : Fl} {n : Bool} (h : (f == .tr || !n) = false) : f ≠ .tr ∧ n = true := by
  cases f <;> cases n <;> simp_all <;> decide
section
variable {X : Cx} {tg e e2 e3 : Expr} {f f2 f3 : E} {p pos tpos : Pos} {elts : List Expr} {kk : Nat}
theorem SrcOk.seq (h : EOk X e f) : SrcOk X tg e (srcE hSeq [f]) := fun W t => (pi_seq (h W t)).imp fun σ H Rr hi => by
  refine hi.args.one.mono fun x H1 ⟨F, T, as, vs, c, items, tr, r, e1, q⟩ => ?_
  unfold hSeq at e1
  split at e1
  · rename_i f vs
    cases e1
    obtain ⟨x', e2, r1⟩ := r.inv1
    cases e2
    obtain ⟨a, xs, cn, cr, rfl, n, rr, hc⟩ := r1.nod
    exact ⟨a, rfl, .inl ⟨⟨xs, n.seq⟩, q _ (walkL f a xs _) c ⟨cn, cr, n, rr, fun z => tr_of z, hc⟩ fun b => Nat.le_refl _⟩⟩
  · cases e1
    obtain ⟨x', e2, r1⟩ := r.inv1
    cases e2
    obtain ⟨a, xs, rfl, n, rr⟩ := r1.inv_tup
    exact ⟨a, rfl, .inr ⟨⟨xs, n⟩, q _ (walkT a xs _) c ⟨n, rr, fun z => by simpa using z⟩ fun b => Nat.le_refl _⟩⟩
  · cases e1
theorem SrcOk.enum (hg : Gl X "enumerate") (hm : X.mg "enumerate" = none) (h : AOk X [e] [f]) (hs : starEach [e] X.env = [(false, eval e X.env)] := by rfl) : SrcOk X (.Tuple elts kk tpos) (.Call (.Name "enumerate" p) [e] [] pos) (srcE hEnum [f]) := fun W t => (pi_enum hg hm (h W t) hs).imp fun σ H Rr hi => by
  refine hi.args.mono fun x H1 ⟨F, T, as, vs, c, items, tr, r, e1, q⟩ => ?_
  unfold hEnum at e1
  split at e1
  · rename_i f vs
    cases e1
    obtain ⟨x', e2, r1⟩ := r.inv1
    cases e2
    obtain ⟨a, xs, cn, cr, rfl, n, rr, hc⟩ := r1.nod
    exact ⟨a, xs, rfl, n.seq, q _ (walkE f a xs _) c ⟨vs, rfl, cn, cr, n, rr, fun z => tr_of z, hc⟩ fun b => Nat.le_refl _⟩
  · cases e1
theorem SrcOk.zip (hg : Gl X "zip") (hm : X.mg "zip" = none) (h : AOk X [e, e2] [f, f2]) (hs : starEach [e, e2] X.env = (false, eval e X.env) :: starEach [e2] X.env := by rfl) (hpl : (backTo pos (starEach [e2] X.env)).any (·.1) = false := by rfl) :
    SrcOk X (.Tuple elts kk tpos) (.Call (.Name "zip" p) [e, e2] [] pos) (srcE hZip [f, f2]) := fun W t => (pi_zip hg hm (h W t) hs hpl).imp fun σ H Rr hi => by
  refine hi.args.mono fun x H1 ⟨F, T, as, vs, c, items, tr, r, e1, q⟩ => ?_
  unfold hZip at e1
  split at e1
  · rename_i f vs g ws
    cases e1
    obtain ⟨x', y', d1, d2, e2, r1, r2, hcc⟩ := r.inv2
    cases e2
    obtain ⟨a, xs, cn, cr, rfl, n, rr, hc⟩ := r1.nod
    obtain ⟨b, ys, cm, cs, rfl, m, ss, hc2⟩ := r2.nod
    refine ⟨a, b, xs, ys, rfl, n.seq, m.seq, q _ (walkZ f g a b xs ys _) c ⟨vs, ws, rfl, cn, cm, cr, cs, n, m, rr, ss, fun z => ?_, fun b => by rw [hcc, hc, hc2]; omega⟩ fun b => Nat.le_refl _⟩
    simp only [Bool.or_eq_false_iff, Bool.not_eq_false', Bool.and_eq_true, beq_eq_false_iff_ne] at z
    exact ⟨z.1, z.2⟩
  · cases e1
theorem SrcOk.rng1 (hg : Gl X "range") (hm : X.mg "range" = none) (h : AOk X [e] [f]) (hs : starEach [e] X.env = [(false, eval e X.env)] := by rfl) : SrcOk X tg (.Call (.Name "range" p) [e] [] pos) (srcE hRng1 [f]) := fun W t => (pi_range1 hg hm (h W t) hs).imp fun σ H Rr hi => by
  refine hi.args.mono fun x H1 ⟨F, T, as, vs, c, items, tr, r, e1, q⟩ => ?_
  unfold hRng1 at e1
  split at e1
  · split at e1
    · rename_i j hc
      cases e1
      simp only [inB_eq] at hc
      obtain ⟨x', e2, r1⟩ := r.inv1
      cases e2
      cases r1.inv_int
      exact ⟨j, rfl, by omega, by omega, q _ (walkR 0 j.toNat) (fun _ => 0) ⟨by simp [intsV], rfl, fun _ => rfl⟩ fun b => Nat.zero_le _⟩
    · cases e1
  · cases e1
theorem SrcOk.rng2 (hg : Gl X "range") (hm : X.mg "range" = none) (h : AOk X [e, e2] [f, f2]) (hs : starEach [e, e2] X.env = [(false, eval e X.env), (false, eval e2 X.env)] := by rfl) (hs2 : starEach [e2] X.env = [(false, eval e2 X.env)] := by rfl) :
    SrcOk X tg (.Call (.Name "range" p) [e, e2] [] pos) (srcE hRng2 [f, f2]) := fun W t => (pi_range2 hg hm (h W t) hs hs2).imp fun σ H Rr hi => by
  refine hi.args.mono fun x H1 ⟨F, T, as, vs, c, items, tr, r, e1, q⟩ => ?_
  unfold hRng2 at e1
  split at e1
  · split at e1
    · rename_i i j hc
      cases e1
      simp only [Bool.and_eq_true, inB_eq] at hc
      obtain ⟨x', y', d1, d2, e2, r1, r2, hcc⟩ := r.inv2
      cases e2
      cases r1.inv_int
      cases r2.inv_int
      exact ⟨i, j, rfl, ⟨by omega, by omega, by omega, by omega⟩, q _ (walkR i (j - i).toNat) (fun _ => 0) ⟨by simp [intsV], rfl, fun _ => rfl⟩ fun b => Nat.zero_le _⟩
    · cases e1
  · cases e1
theorem Reps.inv3 {K : PySem.W.Frag} {mg : Str → Option Value} {H : Hp} {F T : Addr → Prop} {as : List Addr} {c : Addr → Nat} {u v w : Vl} {xs : List V} (r : Reps K mg H F T as [u, v, w] xs c) : ∃ x y z c1 c2 c3, xs = [x, y, z] ∧ Rep K mg H F T as u x c1 ∧ Rep K mg H F T as v y c2 ∧ Rep K mg H F T as w z c3 ∧ ∀ b, c b = c1 b + (c2 b + c3 b) := by
  cases r with
  | cons r1 r2 hc =>
    obtain ⟨y, z, c1, c2, e, r3, r4, h2⟩ := r2.inv2
    subst e
    exact ⟨_, _, _, _, _, _, rfl, r1, r3, r4, fun b => by rw [hc, h2]⟩
theorem SrcOk.rng3 (hg : Gl X "range") (hm : X.mg "range" = none) (h : AOk X [e, e2, e3] [f, f2, f3]) (hs : starEach [e, e2, e3] X.env = (false, eval e X.env) :: starEach [e2, e3] X.env := by rfl) (hpl : (backTo pos (starEach [e2, e3] X.env)).any (·.1) = false := by rfl) :
    SrcOk X tg (.Call (.Name "range" p) [e, e2, e3] [] pos) (srcE hRng3 [f, f2, f3]) := fun W t => (pi_range3 hg hm (h W t) hs hpl).imp fun σ H Rr hi => by
  refine hi.args.mono fun x H1 ⟨F, T, as, vs, c, items, tr, r, e1, q⟩ => ?_
  unfold hRng3 at e1
  split at e1
  · split at e1
    · rename_i i j hc
      cases e1
      simp only [Bool.and_eq_true, inB_eq] at hc
      obtain ⟨x', y', z', d1, d2, d3, e2, r1, r2, r3, hcc⟩ := r.inv3
      cases e2
      cases r1.inv_int
      cases r2.inv_int
      cases r3.inv_int
      exact ⟨i, j, -1, (i - j).toNat, rfl, RgC.neg (by omega) (by omega) (by omega) (by omega), q _ (walkC i (-1) (i - j).toNat) (fun _ => 0) ⟨by simp [intsC], rfl, fun _ => rfl⟩ fun b => Nat.zero_le _⟩
    · cases e1
  · cases e1
end

/-! ### for -/
def forL (g : Tg) (body : C) : List Vl → C
  | [] => .nx
  | v :: r => fun st => match g v st with
    | none => .bad
    | some st1 => match body st1 with
      | .nx st2 => forL g body r st2
      | .ct st2 => forL g body r st2
      | .bk st2 => .nx st2
      | z => z
def forC (g : Tg) (src : Src) (body : C) : C := fun st => match src st with
  | .ok (items, tr, st1, _) => if tr then .bad else forL g body items st1
  | .exc cl s => .exc cl s
  | .bad => .bad
/-- what flies through a step -/
theorem Step.stayF {F F' : Addr → Prop} {T : Addr → Prop} {c c' cv : Addr → Nat} {H H' : Hp} {K : PySem.W.Frag} {mg : Str → Option Value} {as : List Addr} {L : List (Nat × V)} {st : Sta} {σ : L2.St} (r : Rel K mg F T as L st σ H c) (hd : ∀ b, cv b ≠ 0 → c b = 0) (s : Step F c H F' c' H') : ∀ d, (∀ b, d b ≠ 0 → cv b ≠ 0) → Stay H H' F T d :=
  fun d h => r.stay (fun b q => hd b (h b q)) s.keep
section
variable {X : Cx} {tg iter : Expr} {body : List Stmt} {g : Tg} {src : Src} {f : C} {pos : Pos}
theorem SOk.for_ (hp : PassesOwn (model X.prog X.w) X.A X.env X.xe) (hc : X.calm = true) (hi : SrcOk X tg iter src) (hg : GOk X tg g) (hb : SsOk X body f) (hs : ∀ x, foldedSetIterable iter X.env x = pure x := by intro _; rfl) : SOk X (.For tg iter body [] pos) (forC g src f) := fun W t => (ps_for hp hc (hi W t) hg (hb W t) hs).imp fun D σ H h => by
  obtain ⟨F, T, as, L, st, c, r, p⟩ := h
  refine ⟨F, T, as, L, st, c, r, ?_⟩
  unfold forC at p
  cases e1 : src st with
  | bad => rw [e1] at p; exact p
  | exc cl s => rw [e1] at p; exact p
  | ok q =>
    obtain ⟨items, tr, st1, f1⟩ := q
    rw [e1] at p
    simp only at p
    intro F1 as1 H1 c1 c2 J w r1 wp s1 p1 ef1
    cases tr with
    | true => exact (show False from p).elim
    | false =>
      rw [if_neg Bool.false_ne_true] at p
      have fl0 : Fly X.K X.mg F1 T as1 L st1 σ H1 c1 c2 := ⟨r1, s1.here, fun b q => by
        by_cases z : c2 b = 0
        · exact z
        · have h0 := r.fr b (.inr q)
          rcases s1.grow b (by show c1 b + c2 b ≠ 0; omega) with y | y
          · exact absurd h0.1 y
          · exact absurd y h0.2⟩
      refine ⟨fun i m σ H => ∃ F as st c1 c2 rest, m = rest.length ∧ Fly X.K X.mg F T as L st σ H c1 c2 ∧ w.P i rest H c2 F as ∧ SPost X.K X.mg W D T as L F (fun b => c1 b + c2 b) H (forL g f rest st),
        ⟨items.length, F1, as1, st1, c1, c2, items, rfl, fl0, wp, SPost.back p s1 p1⟩, ?_⟩
      rintro i m σ H ⟨F, as, st, c1, c2, rest, rfl, fl, wp, p⟩
      cases rest with
      | nil => exact .inl ⟨w.stop wp, p F as σ H c1 fl.r (fl.s.less fun b => Nat.le_add_right _ _) Pre.refl⟩
      | cons v rest =>
        refine .inr ⟨w.go wp, fun σ' H' => ∃ m', m' < (v :: rest).length ∧ ∃ F as st c1 c2 rest, m' = rest.length ∧ Fly X.K X.mg F T as L st σ' H' c1 c2 ∧ w.P (i + 1) rest H' c2 F as ∧ SPost X.K X.mg W D T as L F (fun b => c1 b + c2 b) H' (forL g f rest st), fun _ _ h => h, fun x H' y => ?_⟩
        obtain ⟨sm, Hm', d1, d2, _, sH', _, rv0, wp0, hd⟩ := w.yld wp (Same.refl _) y
        have rv := rv0.same sH' (fun _ h => h) (fun _ h => h) Pre.refl
        have wp' := w.same wp0 sH' (fun _ h => h) Pre.refl
        have le : ∀ b, c1 b + c2 b ≤ 1 := fl.s.le
        have dis : ∀ b, F b → c1 b + c2 b = 0 := fl.s.dis
        unfold forL at p
        cases e2 : g v st with
        | none => rw [e2] at p; exact (show False from p).elim
        | some st1 =>
          rw [e2] at p
          simp only at p
          refine ⟨F, T, as, L, st, v, c1, d1, ⟨fl.r.same sm, Step.refl (fun b => by have := le b; have := hd b; omega) (fun b q => by have := dis b q; have := hd b; omega), fun b q => by have := fl.t b q; have := hd b; omega⟩, rv, st1, e2, fun σ1 c5 r5 k5 => ?_⟩
          refine ⟨F, T, as, L, st1, c5, r5, ?_⟩
          have sa : Step F (fun b => c1 b + c2 b) H F (fun b => c5 b + d2 b) H' := ⟨fun b o e _ => sm b o e, fun b q => .inl (by have := k5 b; have := hd b; have q' : c5 b + d2 b ≠ 0 := q; show c1 b + c2 b ≠ 0; omega),
            fun b => by have := k5 b; have := hd b; have := le b; show c5 b + d2 b ≤ 1; omega, fun _ h => h, fun b q => by have := k5 b; have := hd b; have := dis b q; show c5 b + d2 b = 0; omega, fun _ h => .inl h, PyI.Same.trk sm⟩
          have sb : Step F (fun b => c1 b + c2 b) H F c5 H' := sa.less fun b => Nat.le_add_right _ _
          have more : ∀ {st2 : Sta}, SPost X.K X.mg W D T as L F (fun b => c1 b + c2 b) H (forL g f rest st2) → ∀ F' as' σ' H2 c', Rel X.K X.mg F' T as' L st2 σ' H2 c' → Step F c5 H' F' c' H2 → Pre as as' →
              ∃ m', m' < (v :: rest).length ∧ ∃ F as st c1 c2 rest, m' = rest.length ∧ Fly X.K X.mg F T as L st σ' H2 c1 c2 ∧ w.P (i + 1) rest H2 c2 F as ∧ SPost X.K X.mg W D T as L F (fun b => c1 b + c2 b) H2 (forL g f rest st) := fun {st2} p F2 as2 σ2 H2 c6 r6 s6 p6 => by
            have mv := w.mu wp'
            have sc := Step.flight r5 mv sa s6
            refine ⟨rest.length, Nat.lt_succ_self _, F2, as2, st2, c6, d2, rest, rfl, ⟨r6, sc.here, fun b q => by have := fl.t b q; have := hd b; omega⟩, ?_, SPost.back p sc p6⟩
            exact w.step rfl wp' (s6.stayF r5 fun b q => by have : c5 b + d2 b ≤ 1 := sa.le b; omega) s6.sub p6
          cases e3 : f st1 with
          | bad => rw [e3] at p; exact (show False from p).elim
          | exc cl s => rw [e3] at p; exact SPost.back (r := .exc cl s) p sb Pre.refl
          | rt v s => rw [e3] at p; exact SPost.back (r := .rt v s) p sb Pre.refl
          | bk s => rw [e3] at p; exact SPost.back (r := .nx s) p sb Pre.refl
          | nx s => rw [e3] at p; exact more p
          | ct s => rw [e3] at p; exact more p
end
end PyI

namespace PyI
open PySem PySem.Spec PyProof.Rows L2

/-! ### defs -/
inductive RF where
  | ok (v : Vl) | exc (c : Str) | bad
/-- a def of data: what it hands back is its own; what is handed in is only read -/
def spP (K : PySem.W.Frag) (mg : Str → Option Value) (n : Nat) (Fn : List Vl → RF) : Sp := fun xs H Q E => xs.length = n ∧ ∃ vs, Reps K mg H (Trk H) (fun _ => False) [] (setFs .sh vs) xs (fun _ => 0) ∧ match Fn (setFs .sh vs) with
  | .ok v => allOwn v = true ∧ ∀ H' x c, Same H H' → Rep K mg H' (fun _ => False) (fun _ => False) [] v x c → (∀ b, c b ≤ 1) → (∀ b, c b ≠ 0 → H b = none) → Q x H'
  | .exc cl => ∀ H', Same H H' → ∀ C, mg cl = some (.ref C) → E (.ref C) none H'
  | .bad => False
def callE (n : Nat) (Fn : List Vl → RF) (fs : List E) (ds : List Vl) : E := fun st => match evs fs st with
  | .ok (vs, st1, e) => if noRefs vs && decide (vs.length + ds.length = n) then (match Fn (setFs .sh (vs ++ ds)) with
    | .ok v => if allOwn v then .ok (v, st1, e) else .bad
    | .exc c => .exc c st1
    | .bad => .bad) else .bad
  | .exc c s => .exc c s
  | .bad => .bad
theorem setFs_append {f : Fl} : ∀ {vs ws : List Vl}, setFs f (vs ++ ws) = setFs f vs ++ setFs f ws
  | [], _ => by unfold setFs; simp [setFs]
  | v :: r, ws => by
    show setF f v :: setFs f (r ++ ws) = setF f v :: (setFs f r ++ setFs f ws)
    rw [setFs_append]
theorem len_setFs (f : Fl) : ∀ vs : List Vl, (setFs f vs).length = vs.length
  | [] => rfl
  | v :: r => by show (setFs f r).length + 1 = r.length + 1; rw [len_setFs f r]
theorem EI.call {K : PySem.W.Frag} {mg : Str → Option Value} {W : WX} {n : Nat} {Fn : List Vl → RF} {fs : List E} {ds : List Vl} {dxs : List V} {σ : L2.St} {H : Hp} {Q : VK} (h : EI K mg W (callE n Fn fs ds) σ H Q) (hds : ∀ H F T as, Reps K mg H F T as (setFs .sh ds) dxs (fun _ => 0)) : AI K mg W fs σ H fun xs H1 => spP K mg n Fn (xs ++ dxs) H1 Q (WE W σ) := by
  obtain ⟨F, T, as, L, st, c0, r0, p⟩ := h
  refine ⟨F, T, as, L, st, c0, r0, ?_⟩
  unfold callE at p
  cases e1 : evs fs st with
  | bad => rw [e1] at p; exact p
  | exc cl s => rw [e1] at p; exact p
  | ok q =>
    obtain ⟨vs, st1, f1⟩ := q
    rw [e1] at p
    simp only at p
    intro F1 as1 H2 xs c1 c r1 rv s1 p1 ef
    by_cases nr : (noRefs vs && decide (vs.length + ds.length = n)) = true
    · rw [if_pos nr] at p
      simp only [Bool.and_eq_true, decide_eq_true_eq] at nr
      have l1 := rv.length
      have l2 := (hds H F T as).length
      have l3 : ds.length = dxs.length := by
        rw [← l2]
        exact (len_setFs _ _).symm
      refine ⟨by rw [List.length_append]; omega, vs ++ ds, ?_, ?_⟩
      · rw [setFs_append]
        exact (rv.hand nr.1).append (hds _ _ _ _)
      cases e2 : Fn (setFs .sh (vs ++ ds)) with
      | bad => rw [e2] at p; exact (show False from p).elim
      | exc cl =>
        rw [e2] at p
        intro H' sm C hC
        refine p F1 as1 σ H' c1 (r1.same sm) ⟨fun b o e q => sm b o (s1.keep b o e q), fun b q => s1.grow b (by show c1 b + c b ≠ 0; omega), fun b => by have := s1.le b; have : c1 b + c b ≤ 1 := this; omega, s1.sub, fun b q => by have := s1.dis b q; have : c1 b + c b = 0 := this; omega, s1.fgr, fun b q => PyI.Same.trk sm b (s1.trk b q)⟩ p1 C hC
      | ok v =>
        rw [e2] at p
        by_cases ow : allOwn v = true
        · simp only [if_pos ow] at p
          refine ⟨ow, fun H' x c5 sm rx le fr => ?_⟩
          refine p F1 as1 H' x c1 c5 (r1.same sm) (rx.home ow) ⟨fun b o e q => sm b o (s1.keep b o e q), fun b q => ?_, fun b => ?_, s1.sub, fun b q => ?_, s1.fgr, fun b q => PyI.Same.trk sm b (s1.trk b q)⟩ p1 fun q => ⟨(ef q).1.trans sm, (ef q).2⟩
          · by_cases z : c1 b = 0
            · have q' : c1 b + c5 b ≠ 0 := q
              have y := fr b (by omega)
              by_cases w : c0 b = 0
              · refine .inr ?_
                cases u : H b with
                | none => rfl
                | some o => rw [s1.keep b o u w] at y; cases y
              · exact .inl w
            · exact s1.grow b (by show c1 b + c b ≠ 0; omega)
          · show c1 b + c5 b ≤ 1
            by_cases z : c1 b = 0
            · have := le b; omega
            · have y := r1.there b z
              have : c5 b = 0 := by
                by_cases w : c5 b = 0
                · exact w
                · exact absurd (fr b w) y
              have := r1.le b
              omega
          · show c1 b + c5 b = 0
            have h0 := r1.fr b (.inl q)
            have : c5 b = 0 := by
              by_cases w : c5 b = 0
              · exact w
              · exact absurd (fr b w) h0.2
            omega
        · simp only [if_neg ow] at p
          exact (show False from p).elim
    · rw [if_neg nr] at p
      exact (show False from p).elim
theorem spP.len {K : PySem.W.Frag} {mg : Str → Option Value} {n : Nat} {Fn : List Vl → RF} {xs : List V} {H : Hp} {Q : VK} {E : XK} (h : spP K mg n Fn xs H Q E) : xs.length = n := h.1
section
variable {X : Cx} {k n : Nat} {f : Addr} {fd : FuncData} {ps : List Str} {Fn : List Vl → RF} {x : Str} {p pos : Pos} {e : Expr} {es : List Expr} {fs : List E}
theorem EOk.call (G : FnOk X.prog X.w X.K X.mg X.base (L2.CX X.prog X.w) k f fd ps (spP X.K X.mg ps.length Fn)) (hr : Room k X.A) (hg : Gl X x) (hm : X.mg x = some (.ref f)) (hk : PySem.W.keepIn X.K (.ref f) = true) (hb : Binds X.K fd ps [])
    (ha : AOk X (e :: es) fs) (hdb : (x == ("__debug__" : Str)) = false := by decide) (he : starEach (e :: es) X.env = (false, eval e X.env) :: starEach es X.env := by rfl) (hpl : (backTo pos (starEach es X.env)).any (·.1) = false := by rfl) :
    EOk X (.Call (.Name x p) (e :: es) [] pos) (callE ps.length Fn fs []) := fun W t =>
  (pe_callS (E := WE W) G hr hg hm hk hb (fun σ => passAt t σ) (ha W t) hdb he hpl).imp fun σ H Q h => (h.call (dxs := []) fun _ _ _ _ => .nil fun _ => rfl).mono fun xs H1 q => by rw [List.append_nil] at q; exact q
/-- .. with defaults -/
theorem EOk.callD {ds : List Vl} {dvs : List V} {dus : List Value} (G : FnOk X.prog X.w X.K X.mg X.base (L2.CX X.prog X.w) k f fd ps (spP X.K X.mg ps.length Fn)) (hr : Room k X.A) (hg : Gl X x) (hm : X.mg x = some (.ref f)) (hk : PySem.W.keepIn X.K (.ref f) = true) (hb : Binds X.K fd ps dus) (hd : Vals dvs dus)
    (hds : ∀ H F T as, Reps X.K X.mg H F T as (setFs .sh ds) dvs (fun _ => 0)) (ha : AOk X (e :: es) fs) (hdb : (x == ("__debug__" : Str)) = false := by decide) (he : starEach (e :: es) X.env = (false, eval e X.env) :: starEach es X.env := by rfl) (hpl : (backTo pos (starEach es X.env)).any (·.1) = false := by rfl) :
    EOk X (.Call (.Name x p) (e :: es) [] pos) (callE ps.length Fn fs ds) := fun W t =>
  (pe_callSD (E := WE W) G hr hg hm hk hb hd (fun σ => passAt t σ) (ha W t) hdb he hpl).imp fun σ H Q h => h.call hds
end

/-! ### a def by its body -/
def runF (n : Nat) (body : C) : List Vl → RF := fun vs => match body ⟨vs.map some ++ List.replicate (n - vs.length) none, [], []⟩ with
  | .nx _ => .ok .non
  | .rt v _ => if allOwn v then .ok v else .bad
  | .exc c _ => .exc c
  | _ => .bad
section
variable {K : PySem.W.Frag} {mg : Str → Option Value} {H : Hp} {F T : Addr → Prop} {as : List Addr}
theorem RepSl.ofReps : ∀ {vs : List Vl} {xs : List V} {n : Nat}, Reps K mg H F T as vs xs (fun _ => 0) → noTrs vs = true → RepSl K mg H F T as (vs.map some ++ List.replicate n none) (xs.map some ++ List.replicate n none) (fun _ => 0)
  | _, _, 0, .nil _, _ => .nil fun _ => rfl
  | _, _, n + 1, .nil hc, h => .no (RepSl.ofReps (n := n) (.nil hc) h)
  | _, _, n, .cons r s hc, h => by
    unfold noTrs at h
    simp only [Bool.and_eq_true] at h
    rename_i v x c1 vs xs c2
    have z1 : c1 = fun _ => 0 := funext fun b => by have := hc b; show c1 b = 0; omega
    have z2 : c2 = fun _ => 0 := funext fun b => by have := hc b; show c2 b = 0; omega
    subst z1 z2
    exact .yes r h.1 (RepSl.ofReps s h.2) fun _ => rfl
end
/-- what the body is to be, in its context -/
def BodyOk (P : Program) (w : World) (K : PySem.W.Frag) (mg : Str → Option Value) (base : Heap) (k : Nat) (N : List Str) (qual : Str) (st : Stmt) (f : Addr) (body : C) : Prop :=
  ∀ (cdv : Value) (A : Around) (outer : List Env) (s : Shared) (H : Hp) (E : XK), Room k (A.deeper (envOfC qual (defScope st) s.heap.objs.size f cdv)) → SsOk (cxOf (L2.CX P w) P w K mg base N qual (defScope st) f cdv A outer s H E) (defBody st) body
theorem body_ok {K : PySem.W.Frag} {mg : Str → Option Value} {body : C} {N ps : List Str} {vs : List V} {H : Hp} {Q : VK} {E : XK} {n : Nat} (hN : ps.length ≤ N.length) (h : spP K mg ps.length (runF N.length body) vs H Q E) : SI K mg (fun cls d _ H => E cls d H) body { nx := fun _ H' => Q .non H', rt := Q } (L2.start N vs) H := by
  obtain ⟨hl, ws, rv, q⟩ := h
  have lw := rv.length
  refine ⟨Trk H, fun _ => False, [], [], ⟨(setFs .sh ws).map some ++ List.replicate (N.length - (setFs .sh ws).length) none, [], []⟩, fun _ => 0, ⟨⟨fun _ => 0, fun _ => 0, ?_, .nil fun _ => rfl, rfl, fun _ => rfl⟩, fun _ => Nat.zero_le _, fun b z => ⟨rfl, by rcases z with z | z; exact z; exact z.elim⟩, rfl, fun p hp => nomatch hp⟩, ?_⟩
  · unfold L2.start
    show RepSl K mg H _ _ _ ((setFs .sh ws).map some ++ List.replicate (N.length - (setFs .sh ws).length) none) _ _
    rw [lw]
    exact RepSl.ofReps rv noTrs_sh
  · unfold runF at q
    have zero : ∀ {F' : Addr → Prop} {c : Addr → Nat} {H' : Hp}, Step (Trk H) (fun _ => 0) H F' c H' → Same H H' := fun s b o e => s.keep b o e rfl
    cases e1 : body ⟨(setFs .sh ws).map some ++ List.replicate (N.length - (setFs .sh ws).length) none, [], []⟩ with
    | bad => rw [e1] at q; exact q
    | bk s => rw [e1] at q; exact (show False from q).elim
    | ct s => rw [e1] at q; exact (show False from q).elim
    | exc cl s =>
      rw [e1] at q
      exact fun F' as' σ' H' c1 r s p C hC => q H' (zero s) C hC
    | nx s =>
      rw [e1] at q
      exact fun F' as' σ' H' c' r s p => q.2 H' .non (fun _ => 0) (zero s) Rep.non' (fun _ => Nat.zero_le _) fun b z => absurd rfl z
    | rt v s =>
      rw [e1] at q
      by_cases ow : allOwn v = true
      · simp only [if_pos ow] at q
        refine fun F' as' σ' H' x c1 c2 r rx s p => q.2 H' x c2 (zero s) (rx.home ow) (fun b => by have := s.le b; have : c1 b + c2 b ≤ 1 := this; omega) fun b z => ?_
        rcases s.grow b (by show c1 b + c2 b ≠ 0; omega) with y | y
        · exact absurd rfl y
        · exact y
      · simp only [if_neg ow] at q
theorem Fun.okP {P : Program} {w : World} {K : PySem.W.Frag} {mg : Str → Option Value} {base : Heap} {x qual : Str} {st : Stmt} {f : Addr} {fd : FuncData} {N ps : List Str} {k : Nat} {body : C} (F : L2.Fun K x qual st f fd) (S : FnScope N ps (defScope st)) (hb : BodyOk P w K mg base k N qual st f body) :
    FnOk P w K mg base (L2.CX P w) (k + 1) f fd ps (spP K mg ps.length (runF N.length body)) := by
  have hpl : ps.length ≤ N.length := by have := congrArg List.length S.pre; rw [List.length_take] at this; omega
  refine F.okX S (fun vs H Q E h => h.1) fun cdv A outer s H vs Q E hr h => ?_
  exact ⟨_, hb cdv A outer s H E hr (fun cls d _ H => E cls d H) (takes_of rfl rfl rfl rfl), body_ok (n := 0) hpl h⟩
/-- for one with default values -/
theorem FunD.okP {P : Program} {w : World} {K : PySem.W.Frag} {mg : Str → Option Value} {base : Heap} {x qual : Str} {st : Stmt} {dvs : List V} {f : Addr} {fd : FuncData} {N ps : List Str} {k : Nat} {body : C} (F : L2.FunD K x qual (defArgs st) (defBody st) (defScope st) dvs [] f fd) (S : FnScope N ps (defScope st)) (hb : BodyOk P w K mg base k N qual st f body) :
    FnOk P w K mg base (L2.CX P w) (k + 1) f fd ps (spP K mg ps.length (runF N.length body)) := by
  have hpl : ps.length ≤ N.length := by have := congrArg List.length S.pre; rw [List.length_take] at this; omega
  refine F.ok S (fun vs H Q E h => h.1) fun cdv A outer s H vs Q E hr h => ?_
  exact ⟨_, hb cdv A outer s H E hr (fun cls d _ H => E cls d H) (takes_of rfl rfl rfl rfl), body_ok (n := 0) hpl h⟩
/-- a def whose function is another form of the same -/
theorem FnOk.eqF {P : Program} {w : World} {K : PySem.W.Frag} {mg : Str → Option Value} {base : Heap} {k n : Nat} {f : Addr} {fd : FuncData} {ps : List Str} {F G : List Vl → RF} (h : FnOk P w K mg base (L2.CX P w) k f fd ps (spP K mg n F)) (e : F = G) : FnOk P w K mg base (L2.CX P w) k f fd ps (spP K mg n G) := e ▸ h

/-! ### raise -/
def rsC (cl : Str) : C := .exc cl
section
variable {X : Cx} {x m : Str} {j : Nat} {p p2 pos rpos : Pos} {C : Addr} {B newId initId : String} {bmB : List Value}
theorem SOk.raise (hc : X.calm = true) (F : ExcBaseFacts B newId initId bmB) (q : PySem.W.excIn X.K C bmB newId = true) (gC : X.mg x = some (.ref C)) (kC : PySem.W.keepIn X.K (.ref C) = true) (r : Raises X (.ref C)) (hg : Gl X x)
    (hd : (x == ("__debug__" : Str)) = false := by decide) : SOk X (.Raise (some (.Call (.Name x p) [.Constant (.str m) j p2] [] pos)) none rpos) (rsC x) := fun W t =>
  (ps_raise hc t (pmk_own F q gC kC r hg hd)).imp fun D σ H h => by
    obtain ⟨Fs, T, as, L, st, c, r, p⟩ := h
    exact p Fs as σ H c r r.refl Pre.refl C gC
end
end PyI

namespace PyI
open PySem PySem.Spec PyProof.Rows L2

/-! ### comprehensions -/
def wipeF (vs : List Nat) : Nat → List (Option Vl) → List (Option Vl)
  | _, [] => []
  | n, o :: r => (if vs.contains n then none else o) :: wipeF vs (n + 1) r
def keepF (vs : List Nat) : Nat → List (Option Vl) → List (Option Vl)
  | _, [] => []
  | n, o :: r => (if vs.contains n then o else none) :: keepF vs (n + 1) r
def mergeS : List (Option Vl) → List (Option Vl) → List (Option Vl)
  | some v :: r, _ :: s => some v :: mergeS r s
  | none :: r, o :: s => o :: mergeS r s
  | _, s => s
def wipeS (vs : List Nat) (st : Sta) : Sta := { st with sl := wipeF vs 0 st.sl }
/-- the slots vs as they were in old -/
def backS (vs : List Nat) (old st : Sta) : Sta := { st with sl := mergeS (keepF vs 0 old.sl) st.sl }
theorem merge_keep (vs : List Nat) : ∀ (n : Nat) (sl : List (Option Vl)), mergeS (keepF vs n sl) (wipeF vs n sl) = sl
  | _, [] => rfl
  | n, o :: r => by
    unfold keepF wipeF
    by_cases h : vs.contains n = true
    · rw [if_pos h, if_pos h]
      cases o with
      | none => show none :: _ = _; rw [merge_keep]
      | some v => show some v :: _ = _; rw [merge_keep]
    · rw [if_neg h, if_neg h]
      show o :: _ = _
      rw [merge_keep]
theorem back_wipe (vs : List Nat) (st : Sta) : backS vs st (wipeS vs st) = st := by
  unfold backS wipeS
  simp only [merge_keep]
theorem wipeF_set {vs : List Nat} {x : Option Vl} : ∀ {n i : Nat} {sl : List (Option Vl)}, vs.contains (n + i) = true → wipeF vs n (sl.set i x) = wipeF vs n sl
  | _, _, [], _ => rfl
  | n, 0, o :: r, h => by
    show wipeF vs n (x :: r) = _
    unfold wipeF
    rw [Nat.add_zero] at h
    rw [if_pos h, if_pos h]
  | n, i + 1, o :: r, h => by
    show wipeF vs n (o :: r.set i x) = _
    unfold wipeF
    rw [wipeF_set (n := n + 1) (i := i) (by rw [show n + 1 + i = n + (i + 1) by omega]; exact h)]
theorem wipeF_idem (vs : List Nat) : ∀ (n : Nat) (sl : List (Option Vl)), wipeF vs n (wipeF vs n sl) = wipeF vs n sl
  | _, [] => rfl
  | n, o :: r => by
    show wipeF vs n (_ :: wipeF vs (n + 1) r) = _ :: wipeF vs (n + 1) r
    show _ :: wipeF vs (n + 1) (wipeF vs (n + 1) r) = _
    rw [wipeF_idem]
    congr 1
    split <;> rfl
theorem wipeS_idem (vs : List Nat) (st : Sta) : wipeS vs (wipeS vs st) = wipeS vs st := by
  unfold wipeS; simp only [wipeF_idem]
def compL (vs : List Nat) (g : Tg) (cond elt : E) (tr : Bool) : List Vl → Sta → R (List Vl × Sta × Bool)
  | [], st => .ok ([], st, false)
  | v :: r, st => match g v st with
    | none => .bad
    | some st1 => match cond st1 with
      | .ok (.bl true, st2, e1) => (match elt st2 with
        | .ok (y, st3, e2) => if noTr y && (!tr || !(e1 || e2)) then (match compL vs g cond elt tr r (wipeS vs st3) with
          | .ok (ys, st4, e3) => .ok (y :: ys, st4, (e1 || e2) || e3)
          | _ => .bad) else .bad
        | _ => .bad)
      | .ok (.bl false, st2, e1) => if !tr || !e1 then (match compL vs g cond elt tr r (wipeS vs st2) with
          | .ok (ys, st4, e3) => .ok (ys, st4, e1 || e3)
          | _ => .bad) else .bad
      | _ => .bad
def compE (vs : List Nat) (g : Tg) (src : Src) (cond elt : E) : E := fun st => match src st with
  | .ok (items, tr, st1, e0) => if vs.any (fun i => st1.la.contains i) then .bad else (match compL vs g cond elt tr items (wipeS vs st1) with
    | .ok (ys, st2, eL) => if decide (ys.length < sizeLine) then .ok (mkL ys, backS vs st1 st2, e0 || eL) else .bad
    | _ => .bad)
  | .exc c s => .exc c s
  | .bad => .bad
/-- targets that leave all but some slots as they are -/
def GVI (K : PySem.W.Frag) (mg : Str → Option Value) (vs : List Nat) (g : Tg) : TG := fun x σ H Q => ∃ F T as L st v c1 c2, Fly K mg F T as L st σ H c1 c2 ∧ Rep K mg H F T as v x c2 ∧ ∃ st', g v st = some st' ∧ ∀ σ' c', Rel K mg F T as L st' σ' H c' → (∀ b, c' b ≤ c1 b + c2 b) → L2.wipe σ' vs = L2.wipe σ vs → wipeS vs st' = wipeS vs st → Q σ' H
def GVsI (K : PySem.W.Frag) (mg : Str → Option Value) (vs : List Nat) (g : Tgs) : TGs := fun xs σ H Q => ∃ F T as L st ws c1 c2, Fly K mg F T as L st σ H c1 c2 ∧ Reps K mg H F T as ws xs c2 ∧ ∃ st', g ws st = some st' ∧ ∀ σ' c', Rel K mg F T as L st' σ' H c' → (∀ b, c' b ≤ c1 b + c2 b) → L2.wipe σ' vs = L2.wipe σ vs → wipeS vs st' = wipeS vs st → Q σ' H
def GVOk (X : Cx) (vs : List Nat) (tg : Expr) (g : Tg) : Prop := PG X tg (GVI X.K X.mg vs g)
def GVsOk (X : Cx) (vs : List Nat) (tg : List Expr) (g : Tgs) : Prop := PGs X tg (GVsI X.K X.mg vs g)
theorem wipe_set {x : Option V} : ∀ {vs : List Nat} {σ : L2.St} {i : Nat}, i ∈ vs → L2.wipe (σ.set i x) vs = L2.wipe σ vs
  | [], _, _, h => nomatch h
  | j :: r, σ, i, h => by
    have out : ∀ {r : List Nat}, i ∉ r → L2.wipe (σ.set i x) r = (L2.wipe σ r).set i x := by
      intro r
      induction r with
      | nil => intro _; rfl
      | cons k r ih =>
        intro hn
        show (L2.wipe (σ.set i x) r).set k none = ((L2.wipe σ r).set k none).set i x
        rw [ih (fun z => hn (List.mem_cons_of_mem _ z)), List.set_comm _ _ (fun z => hn (by rw [z]; exact List.mem_cons_self))]
    show (L2.wipe (σ.set i x) r).set j none = (L2.wipe σ r).set j none
    by_cases hr : i ∈ r
    · rw [wipe_set hr]
    · rcases List.mem_cons.mp h with e | h
      · subst e
        rw [out hr, List.set_set]
      · exact absurd h hr
section
variable {X : Cx} {vs : List Nat} {pos : Pos}
theorem GVOk.name {i : Nat} {x : Str} (hN : X.N.Nodup) (hi : X.N[i]? = some x) (hx : Loc X.env.scope x) (hm : i ∈ vs) (hf : X.fn x = true ∨ X.env.scope.names.lookup x = some .local := by first | exact .inl rfl | exact .inr rfl | assumption) : GVOk X vs (.Name x pos) (tgN i) :=
  (pg_name hN hi hx hf).imp fun x σ H Q ⟨F, T, as, L, st, v, c1, c2, f, rv, st', e, q⟩ => by
    unfold tgN at e
    split at e
    · rename_i hc
      cases e
      simp only [Bool.and_eq_true, decide_eq_true_eq, Bool.not_eq_true'] at hc
      obtain ⟨c', r', k'⟩ := f.store rv hc.1.1 hc.1.2 hc.2
      exact q _ c' r' k' (wipe_set hm) (by unfold wipeS; simp only; rw [wipeF_set (by rw [Nat.zero_add, List.contains_eq_mem]; exact decide_eq_true hm)])
    · cases e
theorem GVsOk.nil : GVsOk X vs [] tgsN := pgs_nil.imp fun xs σ H Q ⟨F, T, as, L, st, ws, c1, c2, f, rv, st', e, q⟩ => by
  unfold tgsN at e
  split at e
  · cases e
    cases rv with
    | nil hc => exact ⟨rfl, q σ c1 f.r (fun b => Nat.le_add_right _ _) rfl rfl⟩
  · cases e
theorem GVsOk.cons {e : Expr} {es : List Expr} {g : Tg} {r : Tgs} (h1 : GVOk X vs e g) (h2 : GVsOk X vs es r) (hs : (assignEach (e :: es) X.env).map (·.2) = assign e X.env :: (assignEach es X.env).map (·.2) := by rfl) : GVsOk X vs (e :: es) (tgsC g r) :=
  (pgs_cons h1 h2 hs).imp fun xs σ H Q ⟨F, T, as, L, st, ws, c1, c2, f, rv, st', e, q⟩ => by
    unfold tgsC at e
    split at e
    · rename_i v ws
      split at e
      · rename_i st1 e1
        cases rv with
        | cons r1 r2 hc =>
          refine ⟨_, _, rfl, F, T, as, L, st, v, c1, _, f.part fun b => by rw [hc]; exact Nat.le_add_right _ _, r1, st1, e1, fun σ' c' r' k' w' u' => ?_⟩
          exact ⟨F, T, as, L, st1, ws, c', _, f.rest r' (fun b => by rw [hc]; exact Nat.le_refl _) k', r2, st', e, fun σ2 c6 r6 k6 w6 u6 => q σ2 c6 r6 (fun b => by have := k6 b; have := k' b; rw [hc]; omega) (w6.trans w') (u6.trans u')⟩
      · cases e
    · cases e
theorem GVOk.tup {es : List Expr} {k : Nat} {r : Tgs} {n : Nat} (hc : X.calm = true) (h : GVsOk X vs es r) (hn : (assignEach es X.env).length = n := by rfl) (hst : (assignEach es X.env).findIdx? (·.1) = none := by rfl) : GVOk X vs (.Tuple es k pos) (tgT n r) :=
  (pg_tup hc h hn hst).imp fun x σ H Q ⟨F, T, as, L, st, v, c1, c2, f, rv, st', e, q⟩ => by
    unfold tgT at e
    split at e
    · rename_i vs
      split at e
      · rename_i hl
        obtain ⟨a, xs, rfl, h1, s1⟩ := rv.inv_tup
        exact ⟨a, xs, rfl, h1, by rw [← s1.length]; exact hl, F, T, as, L, st, vs, c1, c2, f, s1, st', e, q⟩
      · cases e
    · cases e
end
section
variable {K : PySem.W.Frag} {mg : Str → Option Value} {H H' : Hp} {F T : Addr → Prop} {as : List Addr} {L : List (Nat × V)} {st : Sta} {σ σ' : L2.St} {c : Addr → Nat}
/-- the slots' values matter only where a slot has one -/
theorem RepSl.other : ∀ {sl : List (Option Vl)} {σ σ' : L2.St} {c : Addr → Nat}, RepSl K mg H F T as sl σ c → σ.length = σ'.length → (∀ (i : Nat) v, sl[i]? = some (some v) → σ'[i]? = σ[i]?) → RepSl K mg H F T as sl σ' c
  | _, _, [], _, .nil hc, _, _ => .nil hc
  | _, _, _ :: _, _, .nil _, l, _ => by simp at l
  | _, _, [], _, .no _, l, _ => by simp at l
  | _, _, [], _, .yes _ _ _ _, l, _ => by simp at l
  | _, _, o :: σ', _, .no s, l, h => .no (s.other (by simpa using l) fun i v e => by simpa using h (i + 1) v (by simpa using e))
  | _, _, o :: σ', _, .yes r nt s hc, l, h => by
    have e := h 0 _ rfl
    simp at e
    subst e
    exact .yes r nt (s.other (by simpa using l) fun i v e => by simpa using h (i + 1) v (by simpa using e)) hc
theorem wipeF_some {vs : List Nat} {v : Vl} : ∀ {n i : Nat} {sl : List (Option Vl)}, (wipeF vs n sl)[i]? = some (some v) → n + i ∉ vs
  | n, i, [], h => by simp [wipeF] at h
  | n, 0, o :: r, h => by
    unfold wipeF at h
    intro hm
    rw [if_pos (by rw [List.contains_eq_mem]; exact decide_eq_true hm)] at h
    simp at h
  | n, i + 1, o :: r, h => by
    unfold wipeF at h
    have := wipeF_some (n := n + 1) (i := i) (sl := r) (by simpa using h)
    rwa [show n + 1 + i = n + (i + 1) by omega] at this
theorem RepSl.split (vs : List Nat) : ∀ {n : Nat} {sl : List (Option Vl)} {σ : L2.St} {c : Addr → Nat}, RepSl K mg H F T as sl σ c → ∃ ck cw, RepSl K mg H F T as (keepF vs n sl) σ ck ∧ RepSl K mg H F T as (wipeF vs n sl) σ cw ∧ ∀ b, c b = ck b + cw b
  | _, _, _, _, .nil hc => ⟨fun _ => 0, fun _ => 0, .nil fun _ => rfl, .nil fun _ => rfl, fun b => hc b⟩
  | n, _, _, _, .no s => by
    obtain ⟨ck, cw, h1, h2, h3⟩ := RepSl.split vs (n := n + 1) s
    refine ⟨ck, cw, ?_, ?_, h3⟩
    · unfold keepF; rw [show (if vs.contains n = true then (none : Option Vl) else none) = none by split <;> rfl]; exact .no h1
    · unfold wipeF; rw [show (if vs.contains n = true then (none : Option Vl) else none) = none by split <;> rfl]; exact .no h2
  | n, _, _, _, .yes (c1 := c1) r nt s hc => by
    obtain ⟨ck, cw, h1, h2, h3⟩ := RepSl.split vs (n := n + 1) s
    by_cases hv : vs.contains n = true
    · refine ⟨fun b => c1 b + ck b, cw, ?_, ?_, fun b => ?_⟩
      · unfold keepF; rw [if_pos hv]; exact .yes r nt h1 fun _ => rfl
      · unfold wipeF; rw [if_pos hv]; exact .no h2
      · show _ = (c1 b + ck b) + cw b; rw [hc, h3]; omega
    · refine ⟨ck, fun b => c1 b + cw b, ?_, ?_, fun b => ?_⟩
      · unfold keepF; rw [if_neg hv]; exact .no h1
      · unfold wipeF; rw [if_neg hv]; exact .yes r nt h2 fun _ => rfl
      · show _ = ck b + (c1 b + cw b); rw [hc, h3]; omega
theorem RepSl.merge : ∀ {a b : List (Option Vl)} {σ : L2.St} {c1 c2 : Addr → Nat}, RepSl K mg H F T as a σ c1 → RepSl K mg H F T as b σ c2 → ∃ c, RepSl K mg H F T as (mergeS a b) σ c ∧ ∀ d, c d ≤ c1 d + c2 d
  | _, _, _, _, _, .nil hc, .nil hc' => ⟨fun _ => 0, .nil fun _ => rfl, fun _ => Nat.zero_le _⟩
  | _, _, _, _, _, .no s, .no t => by
    obtain ⟨c, h1, h2⟩ := s.merge t
    exact ⟨c, .no h1, h2⟩
  | _, _, _, _, _, .no s, .yes r nt t hc => by
    obtain ⟨c, h1, h2⟩ := s.merge t
    exact ⟨_, .yes r nt h1 fun _ => rfl, fun d => by rw [hc]; have := h2 d; omega⟩
  | _, _, _, _, _, .yes r nt s hc, .no t => by
    obtain ⟨c, h1, h2⟩ := s.merge t
    exact ⟨_, .yes r nt h1 fun _ => rfl, fun d => by rw [hc]; have := h2 d; omega⟩
  | _, _, _, _, _, .yes r nt s hc, .yes r' nt' t hc' => by
    obtain ⟨c, h1, h2⟩ := s.merge t
    exact ⟨_, .yes r nt h1 fun _ => rfl, fun d => by rw [hc, hc']; have := h2 d; omega⟩
theorem Rel.wipe (r : Rel K mg F T as L st σ H c) (vs : List Nat) (hl : vs.any (fun i => st.la.contains i) = false) : ∃ ck cw, RepSl K mg H F T as (keepF vs 0 st.sl) σ ck ∧ Rel K mg F T as L (wipeS vs st) (L2.wipe σ vs) H cw ∧ ∀ b, ck b + cw b ≤ c b := by
  obtain ⟨d1, d2, h1, h2, h3, h4⟩ := r.rep
  obtain ⟨ck, cw, s1, s2, s3⟩ := h1.split vs (n := 0)
  have s2' : RepSl K mg H F T as (wipeF vs 0 st.sl) (L2.wipe σ vs) cw := s2.other (wipe_length σ vs).symm fun i v e => wipe_out (by have := wipeF_some e; rwa [Nat.zero_add] at this)
  refine ⟨ck, fun b => cw b + d2 b, s1, ⟨⟨cw, d2, s2', h2, h3, fun _ => rfl⟩, fun b => ?_, fun b q => ⟨?_, (r.fr b q).2⟩, r.lk.1, fun p hp => ?_⟩, fun b => ?_⟩
  · have := r.le b; have := s3 b; have := h4 b; show cw b + d2 b ≤ 1; omega
  · have := (r.fr b q).1; have := s3 b; have := h4 b; show cw b + d2 b = 0; omega
  · have hm : p.1 ∉ vs := fun z => by
      have hm : p.1 ∈ st.la := by rw [r.lk.1]; exact List.mem_map_of_mem hp
      have : vs.any (fun i => st.la.contains i) = true := List.any_eq_true.mpr ⟨p.1, z, by rw [List.contains_eq_mem]; exact decide_eq_true hm⟩
      rw [hl] at this; cases this
    rw [wipe_out hm]
    exact r.lk.2 p hp
  · show ck b + (cw b + d2 b) ≤ c b; have := s3 b; have := h4 b; omega
/-- behind the comprehension -/
theorem Rel.back {vs : List Nat} {old st0 : Sta} {ck : Addr → Nat} (r : Rel K mg F T as L (wipeS vs st0) (L2.wipe σ vs) H c) (hk : RepSl K mg H F T as (keepF vs 0 old.sl) σ ck) (hL : ∀ p ∈ L, σ[p.1]? = some (some p.2)) (le : ∀ b, ck b + c b ≤ 1) (hF : ∀ b, F b ∨ T b → ck b = 0) :
    ∃ c', Rel K mg F T as L (backS vs old (wipeS vs st0)) σ H c' ∧ ∀ b, c' b ≤ ck b + c b := by
  obtain ⟨d1, d2, h1, h2, h3, h4⟩ := r.rep
  have h1' : RepSl K mg H F T as (wipeF vs 0 st0.sl) σ d1 := RepSl.other h1 (wipe_length σ vs) fun i v e => (wipe_out (by have := wipeF_some e; rwa [Nat.zero_add] at this)).symm
  obtain ⟨cm, hm, km⟩ := hk.merge h1'
  refine ⟨fun b => cm b + d2 b, ⟨⟨cm, d2, hm, h2, h3, fun _ => rfl⟩, fun b => ?_, fun b q => ⟨?_, (r.fr b q).2⟩, r.lk.1, hL⟩, fun b => ?_⟩
  · have := le b; have := km b; have := h4 b; show cm b + d2 b ≤ 1; omega
  · have := (r.fr b q).1; have := hF b q; have := km b; have := h4 b; show cm b + d2 b = 0; omega
  · show cm b + d2 b ≤ ck b + c b; have := km b; have := h4 b; omega
end
theorem Rel.asEq {K : PySem.W.Frag} {mg : Str → Option Value} {H H' : Hp} {F F' T : Addr → Prop} {as as' : List Addr} {L L' : List (Nat × V)} {st : Sta} {σ σ' : L2.St} {c c' : Addr → Nat} (r : Rel K mg F T as L st σ H c) (r' : Rel K mg F' T as' L' st σ' H' c') (p : Pre as as') : as' = as := by
  obtain ⟨_, _, _, h1, _⟩ := r.rep
  obtain ⟨_, _, _, h2, _⟩ := r'.rep
  have l1 := h1.length
  have l2 := h2.length
  rw [List.length_map] at l1 l2
  refine List.ext_getElem? fun n => ?_
  by_cases hn : n < as.length
  · have e := p n as[n] (List.getElem?_eq_getElem hn)
    rw [e, List.getElem?_eq_getElem hn]
  · rw [List.getElem?_eq_none (by omega), List.getElem?_eq_none (by omega)]
def CTOk (X : Cx) (ifs : List Expr) (f : E) : Prop := ∀ W, Takes X W → PTs X ifs (TsI X.K X.mg W f)
theorem _root_.L2.PTs.imp {X : Cx} {e : List Expr} {t t' : TT} (h : PTs X e t) (i : ∀ σ H Q, t' σ H Q → t σ H Q) : PTs X e t' := ⟨fun pins s σ H Q I hq => h.run pins s σ H Q I (i σ H Q hq)⟩
theorem CTOk.nil {X : Cx} : CTOk X [] (cstE (.bl true)) := fun W t => pts_nil.imp fun σ H Q h => by
  obtain ⟨F, T, as, L, st, c, r, p⟩ := h
  obtain ⟨b, e, q⟩ := p F as H _ c (fun _ => 0) r Rep.bl' r.refl Pre.refl fun _ => ⟨Same.refl H, rfl, fun _ h => h⟩
  cases e
  exact q
theorem CTOk.one {X : Cx} {c : Expr} {f : E} (h : TOk X c f) : CTOk X [c] f := fun W t => pts_one (h W t)
theorem compL_nil {vs : List Nat} {g : Tg} {cond elt : E} {tr : Bool} {st st2 : Sta} {ys : List Vl} {e : Bool} (h : compL vs g cond elt tr [] st = .ok (ys, st2, e)) : ys = [] ∧ st2 = st ∧ e = false := by
  unfold compL at h
  cases h
  exact ⟨rfl, rfl, rfl⟩
theorem compL_cons {vs : List Nat} {g : Tg} {cond elt : E} {tr : Bool} {v : Vl} {r : List Vl} {st st9 : Sta} {ys : List Vl} {e : Bool} (h : compL vs g cond elt tr (v :: r) st = .ok (ys, st9, e)) :
    ∃ st1, g v st = some st1 ∧ ∃ b st2 e1, cond st1 = .ok (.bl b, st2, e1) ∧
      if b = true then ∃ y st3 e2 ys' e3, elt st2 = .ok (y, st3, e2) ∧ noTr y = true ∧ (tr = true → e1 = false ∧ e2 = false) ∧ compL vs g cond elt tr r (wipeS vs st3) = .ok (ys', st9, e3) ∧ ys = y :: ys' ∧ e = ((e1 || e2) || e3)
      else ∃ e3, (tr = true → e1 = false) ∧ compL vs g cond elt tr r (wipeS vs st2) = .ok (ys, st9, e3) ∧ e = (e1 || e3) := by
  unfold compL at h
  split at h
  · cases h
  · rename_i st1 e0
    refine ⟨st1, e0, ?_⟩
    split at h
    · rename_i st2 e1 ec
      refine ⟨true, st2, e1, ec, ?_⟩
      split at h
      · rename_i y st3 e2 ee
        split at h
        · rename_i hc
          simp only [Bool.and_eq_true, Bool.or_eq_true, Bool.not_eq_true'] at hc
          split at h
          · rename_i ys' st4 e3 er
            cases h
            rw [if_pos rfl]
            refine ⟨y, st3, e2, ys', e3, ee, hc.1, fun z => ?_, er, rfl, rfl⟩
            rcases hc.2 with q | q
            · rw [z] at q; cases q
            · cases e1 <;> cases e2 <;> simp_all
          · cases h
        · cases h
      · cases h
    · rename_i st2 e1 ec
      refine ⟨false, st2, e1, ec, ?_⟩
      split at h
      · rename_i hc
        simp only [Bool.or_eq_true, Bool.not_eq_true'] at hc
        split at h
        · rename_i ys' st4 e3 er
          cases h
          rw [if_neg Bool.false_ne_true]
          refine ⟨e3, fun z => ?_, er, rfl⟩
          rcases hc with q | q
          · rw [z] at q; cases q
          · exact q
        · cases h
      · cases h
    · cases h
/-- Same but for one new list -/
theorem same_back {H H' : Hp} {D : Addr} {o : HO} (hD : H D = none) (s : Same (upd H D o) H') (o' : HO) : Same H (upd H' D o') := fun b x e => by
  have ne : b ≠ D := ne_of_none e hD
  rw [upd_ne ne]
  exact s b x (by rw [upd_ne ne]; exact e)
end PyI

namespace PyI
open PySem PySem.Spec PyProof.Rows L2

theorem wipe_wipe (σ : L2.St) (vs : List Nat) : L2.wipe (L2.wipe σ vs) vs = L2.wipe σ vs := by
  refine List.ext_getElem? fun i => ?_
  by_cases h : i ∈ vs
  · have key : ∀ {σ : L2.St} {r : List Nat}, i ∈ r → (L2.wipe σ r)[i]? = if i < σ.length then some none else none := by
      intro σ r
      induction r with
      | nil => intro h; cases h
      | cons j r ih =>
        intro h
        show ((L2.wipe σ r).set j none)[i]? = _
        by_cases e : j = i
        · subst e
          by_cases hl : j < σ.length
          · rw [List.getElem?_set_self (by rw [wipe_length]; exact hl), if_pos hl]
          · rw [List.getElem?_eq_none (by rw [List.length_set, wipe_length]; omega), if_neg hl]
        · rw [List.getElem?_set_ne e]
          rcases List.mem_cons.mp h with h | h
          · exact absurd h.symm e
          · exact ih h
    rw [key h, key h, wipe_length]
  · rw [wipe_out h]
section
variable {K : PySem.W.Frag} {mg : Str → Option Value} {H H' : Hp} {F T : Addr → Prop} {as : List Addr} {L : List (Nat × V)} {st : Sta} {σ : L2.St} {c : Addr → Nat} {D : Addr} {o : HO}
theorem stay_wr (hd : ∀ b, F b ∨ T b ∨ c b ≠ 0 → b ≠ D) (hm : MutO (H D)) : Stay H (upd H D o) F T c := fun b x e q => by
  have ne : b ≠ D := by
    rcases q with q | q | q | q
    · exact hd b (.inl q)
    · exact hd b (.inr (.inl q))
    · exact hd b (.inr (.inr q))
    · rintro rfl
      rw [e] at hm
      exact q hm
  rw [upd_ne ne]; exact e
theorem Rel.wr (r : Rel K mg F T as L st σ H c) (hd : ∀ b, F b ∨ T b ∨ c b ≠ 0 → b ≠ D) (hm : MutO (H D)) : Rel K mg F T as L st σ (upd H D o) c := by
  obtain ⟨c1, c2, h1, h2, h3, h4⟩ := r.rep
  refine ⟨⟨c1, c2, h1.stay (stay_wr (fun b q => hd b ?_) hm) (fun _ h => h) (fun _ h => h) Pre.refl, h2.stay h3 (stay_wr (fun b q => hd b ?_) hm) (fun _ h => h) (fun _ h => h) Pre.refl, h3, h4⟩, r.le, fun b q => ⟨(r.fr b q).1, ?_⟩, r.lk⟩
  · rcases q with q | q | q
    · exact .inl q
    · exact .inr (.inl q)
    · exact .inr (.inr (by rw [h4]; omega))
  · rcases q with q | q | q
    · exact .inl q
    · exact .inr (.inl q)
    · exact .inr (.inr (by rw [h4]; omega))
  · rw [upd_ne (hd b (q.elim .inl fun z => .inr (.inl z)))]
    exact (r.fr b q).2
end
/-- the new list counted -/
abbrev oneD (D : Addr) : Addr → Nat := fun b => if b = D then 1 else 0
theorem Step.wr {F F' : Addr → Prop} {c c' : Addr → Nat} {H H' : Hp} {D : Addr} {o : HO} (s : Step F c H F' c' H') (hD : c' D ≠ 0) (hn : H D = none) : Step F c H F' c' (upd H' D o) :=
  ⟨fun b x e q => by rw [upd_ne (ne_of_none e hn)]; exact s.keep b x e q, s.grow, s.le, s.sub, s.dis, s.fgr, fun b q => by
    by_cases e : b = D
    · rw [e, upd_same]; exact fun z => nomatch z
    · rw [upd_ne e]; exact s.trk b q⟩
section
variable {X : Cx} {elt tg iter : Expr} {ifs : List Expr} {scope : Scope} {own : List (Str × Nat)} {pos : Pos} {g : Tg} {src : Src} {cond fe : E}
theorem tLc_of {K : PySem.W.Frag} {mg : Str → Option Value} {W : WX} {vs : List Nat} {σ : L2.St} {H : Hp} {Q : VK} (h : EI K mg W (compE vs g src cond fe) σ H Q) :
    tLc (SrcI K mg W src) (GVI K mg vs g) (TsI K mg (fun _ _ _ _ => False) cond) (EI K mg (fun _ _ _ _ => False) fe) vs σ H Q := by
  obtain ⟨F0, T, as0, L, st0, c0, r0, p⟩ := h
  refine ⟨F0, T, as0, L, st0, c0, r0, ?_⟩
  unfold compE at p
  cases e1 : src st0 with
  | bad => rw [e1] at p; exact p
  | exc cl s => rw [e1] at p; exact p
  | ok q =>
    obtain ⟨items, tr, st1, e0⟩ := q
    rw [e1] at p
    simp only at p
    intro F1 as1 H1 c1 c2 J w r1 wp s1 p1 ef1 D hD
    by_cases hla : vs.any (fun i => st1.la.contains i) = true
    · rw [if_pos hla] at p; exact (show False from p).elim
    rw [if_neg hla] at p
    have hla : vs.any (fun i => st1.la.contains i) = false := by simpa using hla
    cases e2 : compL vs g cond fe tr items (wipeS vs st1) with
    | bad => rw [e2] at p; exact (show False from p).elim
    | exc cl s => rw [e2] at p; exact (show False from p).elim
    | ok q =>
      obtain ⟨ys, st9, eL⟩ := q
      rw [e2] at p
      simp only at p
      by_cases hz : ys.length < sizeLine
      case neg => rw [if_neg (by simpa using hz)] at p; exact (show False from p).elim
      rw [if_pos (by simpa using hz)] at p
      have hn : H D = none := by
        cases z : H D with
        | none => rfl
        | some o => exact absurd hD (s1.trk D (by rw [z]; exact fun q => nomatch q))
      obtain ⟨ck, cw, rk, rw_, kw⟩ := (r1.same (same_new (o := .lst []) hD)).wipe vs hla
      have c12 : c1 D = 0 ∧ c2 D = 0 := ⟨by
        by_cases z : c1 D = 0
        · exact z
        · exact absurd hD (r1.there D z), by
        by_cases z : c2 D = 0
        · exact z
        · have := w.mu wp D z
          rw [hD] at this
          exact this.elim⟩
      have tz : ∀ {F' : Addr → Prop} {c' : Addr → Nat} {H' : Hp}, Step F0 c0 H F' c' H' → ∀ b, T b → c' b = 0 := fun {F' c' H'} s b q => by
        have h0 := r0.fr b (.inr q)
        by_cases z : c' b = 0
        · exact z
        · rcases s.grow b z with y | y
          · exact absurd h0.1 y
          · exact absurd y h0.2
      refine ⟨fun i m H' => ∃ F as s0 d1 cr ca rest acc accV ysr er, m = rest.length ∧ Rel K mg F T as L (wipeS vs s0) (L2.wipe σ vs) H' d1 ∧ RepSl K mg H' F T as (keepF vs 0 st1.sl) σ ck ∧
          (if tr = true then ∃ Hm, Same Hm H' ∧ Hm D = none ∧ w.P i rest Hm cr F as else w.P i rest H' cr F as) ∧ compL vs g cond fe tr rest (wipeS vs s0) = .ok (ysr, st9, er) ∧ ys = acc ++ ysr ∧
          Reps K mg H' F T as acc accV ca ∧ noTrs acc = true ∧ H' D = some (.lst accV) ∧ Step F0 c0 H F (fun b => d1 b + (ck b + (cr b + ca b) + oneD D b)) H' ∧ Pre as0 as ∧
          (eL = false → er = false ∧ Same H1 H' ∧ (∀ b, F b → F1 b) ∧ wipeS vs s0 = wipeS vs st1), ?_, ?_⟩
      · refine ⟨items.length, F1, as1, st1, cw, c2, fun _ => 0, items, [], [], ys, eL, rfl, rw_, rk, ?_, e2, rfl, .nil fun _ => rfl, rfl, upd_same, ?_, p1, fun z => ⟨z, same_new hD, fun _ h => h, rfl⟩⟩
        · by_cases ht : tr = true
          · rw [if_pos ht]; exact ⟨H1, same_new hD, hD, wp⟩
          · rw [if_neg ht]; exact w.same wp (same_new hD) (fun _ h => h) Pre.refl
        · refine ⟨fun b x e q => by rw [upd_ne (ne_of_none e hn)]; exact s1.keep b x e q, fun b q => ?_, fun b => ?_, s1.sub, fun b q => ?_, s1.fgr, fun b q => PyI.Same.trk (same_new hD) b (s1.trk b q)⟩
          · by_cases z : b = D
            · rw [z]; exact .inr hn
            · refine s1.grow b ?_
              have q' : cw b + (ck b + (c2 b + 0) + oneD D b) ≠ 0 := q
              have := kw b
              show c1 b + c2 b ≠ 0
              simp only [oneD, if_neg z] at q'
              omega
          · show cw b + (ck b + (c2 b + 0) + oneD D b) ≤ 1
            have := kw b
            have h1 : c1 b + c2 b ≤ 1 := s1.le b
            by_cases z : b = D
            · subst z; simp only [oneD, if_pos]; have := c12.1; have := c12.2; omega
            · simp only [oneD, if_neg z]; omega
          · show cw b + (ck b + (c2 b + 0) + oneD D b) = 0
            have := kw b
            have h1 : c1 b + c2 b = 0 := s1.dis b q
            by_cases z : b = D
            · exact absurd hD (by rw [← z]; exact (r1.fr b (.inl q)).2)
            · simp only [oneD, if_neg z]; omega
      rintro i m H' ⟨F, as, s0, d1, cr, ca, rest, acc, accV, ysr, er, rfl, rl, rk, wp, ec, ey, ra, na, hDl, sp, pp, pure⟩
      have le : ∀ b, d1 b + (ck b + (cr b + ca b) + oneD D b) ≤ 1 := sp.le
      have dis : ∀ b, F b → d1 b + (ck b + (cr b + ca b) + oneD D b) = 0 := sp.dis
      have tz' : ∀ b, T b → d1 b + (ck b + (cr b + ca b) + oneD D b) = 0 := tz sp
      have oD : oneD D D = 1 := if_pos rfl
      cases rest with
      | nil =>
        obtain ⟨z1, z2, z3⟩ := compL_nil ec
        subst z1 z2 z3
        rw [List.append_nil] at ey
        subst ey
        have hstop : J.stop i H' := by
          by_cases ht : tr = true
          · rw [if_pos ht] at wp
            obtain ⟨Hm, sm, _, wp⟩ := wp
            exact w.stop (w.same wp sm (fun _ h => h) Pre.refl)
          · rw [if_neg ht] at wp; exact w.stop wp
        refine .inl ⟨hstop, ?_⟩
        obtain ⟨cv, rv, kv⟩ : ∃ cv, Rep K mg H' F T as (mkL ys) (.ref D) cv ∧ ∀ b, cv b ≤ ca b + oneD D b := by
          unfold mkL
          by_cases s : stors ys = true
          · rw [if_pos s]
            exact ⟨fun b => oneD D b + ca b, .own hDl rfl ra fun b => rfl, fun b => by show oneD D b + ca b ≤ _; omega⟩
          · rw [if_neg s]
            exact ⟨fun _ => 0, .tr (.inl ⟨_, rfl, .inl hDl⟩) ra.peek fun _ => rfl, fun b => Nat.zero_le _⟩
        obtain ⟨cb, rb, kb⟩ := rl.back (old := st1) rk r1.lk.2 (fun b => by have := le b; omega) fun b q => by
          rcases q with q | q
          · have := dis b q; omega
          · have := tz' b q; omega
        refine p F as H' (.ref D) cb cv rb rv (sp.less fun b => by have := kv b; have := kb b; show cb b + cv b ≤ d1 b + (ck b + (cr b + ca b) + oneD D b); omega) pp fun q => ?_
        have q1 : e0 = false := by cases e0 with | false => rfl | true => simp at q
        have q2 : eL = false := by cases eL with | false => rfl | true => simp [q1] at q
        obtain ⟨_, sm, fl, ew⟩ := pure q2
        exact ⟨(ef1 q1).1.trans sm, by rw [ew, back_wipe]; exact (ef1 q1).2.1, fun b h => (ef1 q1).2.2 b (fl b h)⟩
      | cons v rest =>
        obtain ⟨sg, eg, b, s2, f1, ec1, br⟩ := compL_cons ec
        -- the walk at this turn
        have go : J.go i H' := by
          by_cases ht : tr = true
          · rw [if_pos ht] at wp
            obtain ⟨Hm, sm, _, wp⟩ := wp
            exact w.go (w.same wp sm (fun _ h => h) Pre.refl)
          · rw [if_neg ht] at wp; exact w.go wp
        refine .inr ⟨go, fun H2 => ∃ m', m' < (v :: rest).length ∧ ∃ F as s0 d1 cr ca rest acc accV ysr er, m' = rest.length ∧ Rel K mg F T as L (wipeS vs s0) (L2.wipe σ vs) H2 d1 ∧ RepSl K mg H2 F T as (keepF vs 0 st1.sl) σ ck ∧
          (if tr = true then ∃ Hm, Same Hm H2 ∧ Hm D = none ∧ w.P (i + 1) rest Hm cr F as else w.P (i + 1) rest H2 cr F as) ∧ compL vs g cond fe tr rest (wipeS vs s0) = .ok (ysr, st9, er) ∧ ys = acc ++ ysr ∧
          Reps K mg H2 F T as acc accV ca ∧ noTrs acc = true ∧ H2 D = some (.lst accV) ∧ Step F0 c0 H F (fun b => d1 b + (ck b + (cr b + ca b) + oneD D b)) H2 ∧ Pre as0 as ∧
          (eL = false → er = false ∧ Same H1 H2 ∧ (∀ b, F b → F1 b) ∧ wipeS vs s0 = wipeS vs st1), fun _ h => h, fun x H2 y => ?_⟩
        obtain ⟨sm, x1, x2, rv, wp', hd⟩ : Same H' H2 ∧ ∃ x1 x2, Rep K mg H2 F T as v x x1 ∧ (if tr = true then ∃ Hm, Same Hm H2 ∧ Hm D = none ∧ w.P (i + 1) rest Hm x2 F as else w.P (i + 1) rest H2 x2 F as) ∧ ∀ b, x1 b + x2 b ≤ cr b := by
          by_cases ht : tr = true
          · rw [if_pos ht] at wp
            obtain ⟨Hm, sm, hm, wp⟩ := wp
            obtain ⟨sH, Hm', x1, x2, s1', s2', nw, rv, wp', hd⟩ := w.yld wp sm y
            refine ⟨sH, x1, x2, rv.same s2' (fun _ h => h) (fun _ h => h) Pre.refl, ?_, hd⟩
            rw [if_pos ht]
            refine ⟨Hm', s2', ?_, wp'⟩
            cases z : Hm' D with
            | none => rfl
            | some o =>
              rcases nw D (by rw [z]; exact fun q => nomatch q) with u | u
              · exact absurd hm u
              · rw [hDl] at u; cases u
          · rw [if_neg ht] at wp
            obtain ⟨sH, Hm', x1, x2, s1', s2', nw, rv, wp', hd⟩ := w.yld wp (Same.refl _) y
            refine ⟨sH, x1, x2, rv.same s2' (fun _ h => h) (fun _ h => h) Pre.refl, ?_, hd⟩
            rw [if_neg ht]
            exact w.same wp' s2' (fun _ h => h) Pre.refl
        have mw : ∀ b, x2 b ≠ 0 → MutO (H2 b) := fun b q => by
          by_cases ht : tr = true
          · rw [if_pos ht] at wp'
            obtain ⟨Hm, sm, _, wp'⟩ := wp'
            have := w.mu wp' b q
            cases z : Hm b with
            | none => rw [z] at this; exact this.elim
            | some o => rw [sm b o z, ← z]; exact this
          · rw [if_neg ht] at wp'; exact w.mu wp' b q
        have ra2 := ra.same sm (fun _ h => h) (fun _ h => h) Pre.refl
        have symt : ∀ d, Stay H' H2 F T d := fun d b o e _ => sm b o e
        have rk2 := rk.stay (symt _) (fun _ h => h) (fun _ h => h) Pre.refl
        have hD2 : H2 D = some (.lst accV) := sm _ _ hDl
        refine ⟨F, T, as, L, wipeS vs s0, v, d1, x1, ⟨rl.same sm, Step.refl (fun b => by have := le b; have := hd b; omega) (fun b q => by have := dis b q; have := hd b; omega), fun b q => by have := tz' b q; have := hd b; omega⟩, rv, sg, eg, fun σ2 d5 r5 k5 w5 u5 => ⟨by rw [w5, wipe_wipe], ?_⟩⟩
        rw [wipe_wipe] at w5
        rw [wipeS_idem] at u5
        -- in flight through the turn: x2, ca, ck, D
        have fl_le : ∀ b, d5 b + (ck b + (x2 b + ca b) + oneD D b) ≤ 1 := fun b => by have := le b; have := hd b; have := k5 b; omega
        have sa : Step F0 c0 H F (fun b => d5 b + (ck b + (x2 b + ca b) + oneD D b)) H2 := ⟨fun b o e q => sm b o (sp.keep b o e q), fun b q => sp.grow b (by have := hd b; have := k5 b; have q' : d5 b + (ck b + (x2 b + ca b) + oneD D b) ≠ 0 := q; show d1 b + (ck b + (cr b + ca b) + oneD D b) ≠ 0; omega), fl_le, sp.sub,
          fun b q => by have := dis b q; have := hd b; have := k5 b; show d5 b + (ck b + (x2 b + ca b) + oneD D b) = 0; omega, sp.fgr, fun b q => PyI.Same.trk sm b (sp.trk b q)⟩
        have mv : ∀ b, (ck b + (x2 b + ca b) + oneD D b) ≠ 0 → MutO (H2 b) := fun b q => by
          by_cases z1 : ck b = 0
          · by_cases z2 : x2 b = 0
            · by_cases z3 : ca b = 0
              · by_cases z4 : b = D
                · rw [z4, hD2]; trivial
                · simp only [oneD, if_neg z4] at q; omega
              · exact ra2.mu b z3
            · exact mw b z2
          · exact rk2.mu b z1
        refine ⟨F, T, as, L, sg, d5, r5, ?_⟩
        rw [ec1]
        intro F2 as2 H3 xb d6 cx r6 rx s6 p6 ef6
        have z6 : ∀ b, cx b = 0 := Rep.none0 rx rfl
        have s6' : Step F d5 H2 F2 d6 H3 := s6.less fun b => by omega
        have sb := Step.flight r5 mv sa s6'
        have fl0 : ∀ (d : Addr → Nat), (∀ b, d b ≠ 0 → (ck b + (x2 b + ca b) + oneD D b) ≠ 0) → Stay H2 H3 F T d := fun d hd' => r5.stay (fun b q => by have := fl_le b; have := hd' b q; omega) s6'.keep
        have ra3 := ra2.stay na (fl0 _ fun b q => by omega) s6'.sub (fun _ h => h) p6
        have rk3 := rk2.stay (fl0 _ fun b q => by omega) s6'.sub (fun _ h => h) p6
        have hD3 : H3 D = some (.lst accV) := s6'.keep D _ hD2 (by have := fl_le D; omega)
        have wp3 : f1 = false ∨ tr = false → if tr = true then ∃ Hm, Same Hm H3 ∧ Hm D = none ∧ w.P (i + 1) rest Hm x2 F2 as2 else w.P (i + 1) rest H3 x2 F2 as2 := fun ht => by
          by_cases h : tr = true
          · rw [if_pos h] at wp' ⊢
            obtain ⟨Hm, s, hm, wp'⟩ := wp'
            have hf : f1 = false := ht.elim id fun q => by rw [h] at q; cases q
            exact ⟨Hm, s.trans (ef6 hf).1, hm, w.same wp' (Same.refl _) s6'.sub p6⟩
          · rw [if_neg h] at wp' ⊢
            exact w.step (by simpa using h) wp' (fun d hd' => fl0 d fun b q => by have := hd' b q; omega) s6'.sub p6
        refine ⟨b, rx.inv_bl, ?_⟩
        cases b with
        | false =>
          rw [if_neg Bool.false_ne_true] at br ⊢
          obtain ⟨e3, ht, ec3, rfl⟩ := br
          have hla2 : vs.any (fun i => s2.la.contains i) = false := by rw [r6.lk.1, ← r1.lk.1]; exact hla
          obtain ⟨_, d7, _, r7, k7⟩ := r6.wipe vs hla2
          rw [w5] at r7
          refine ⟨rest.length, Nat.lt_succ_self _, F2, as2, s2, d7, x2, ca, rest, acc, accV, ysr, e3, rfl, r7, rk3, wp3 ?_, ec3, ey, ra3, na, hD3, sb.less fun b => by have := k7 b; show d7 b + (ck b + (x2 b + ca b) + oneD D b) ≤ d6 b + (ck b + (x2 b + ca b) + oneD D b); omega, pp.trans p6, fun q => ?_⟩
          · cases tr with
            | false => exact .inr rfl
            | true => exact .inl (ht rfl)
          · obtain ⟨q1, q2, q3, q4⟩ := pure q
            have g1 : f1 = false := by cases f1 with | false => rfl | true => simp at q1
            have g2 : e3 = false := by cases e3 with | false => rfl | true => simp [g1] at q1
            refine ⟨g2, (q2.trans sm).trans (ef6 g1).1, fun b h => q3 b ((ef6 g1).2.2 b h), ?_⟩
            rw [(ef6 g1).2.1, u5, q4]
        | true =>
          rw [if_pos rfl] at br ⊢
          obtain ⟨yv, s3, f2, ys', e3, ee, ny, ht, ec3, rfl, rfl⟩ := br
          refine ⟨F2, T, as2, L, s2, d6, r6, ?_⟩
          rw [ee]
          intro F3 as3 H4 xv d7 cy r7 ry s7 p7 ef7
          have fl_le3 : ∀ b, d6 b + (ck b + (x2 b + ca b) + oneD D b) ≤ 1 := sb.le
          have mv3 : ∀ b, (ck b + (x2 b + ca b) + oneD D b) ≠ 0 → MutO (H3 b) := fun b q => by
            have h2 := mv b q
            cases z : H2 b with
            | none => rw [z] at h2; exact h2.elim
            | some o =>
              rw [s6'.keep b o z (by have := fl_le b; omega), ← z]
              exact h2
          have sc := Step.flight r6 mv3 sb s7
          have fl1 : ∀ (d : Addr → Nat), (∀ b, d b ≠ 0 → (ck b + (x2 b + ca b) + oneD D b) ≠ 0) → Stay H3 H4 F2 T d := fun d hd' => r6.stay (fun b q => by have := fl_le3 b; have := hd' b q; omega) s7.keep
          have ra4 := ra3.stay na (fl1 _ fun b q => by omega) s7.sub (fun _ h => h) p7
          have rk4 := rk3.stay (fl1 _ fun b q => by omega) s7.sub (fun _ h => h) p7
          have hD4 : H4 D = some (.lst accV) := s7.keep D _ hD3 (by have := fl_le3 D; omega)
          have fl_le4 : ∀ b, (d7 b + cy b) + (ck b + (x2 b + ca b) + oneD D b) ≤ 1 := sc.le
          have dis4 : ∀ b, F3 b → (d7 b + cy b) + (ck b + (x2 b + ca b) + oneD D b) = 0 := sc.dis
          have tz4 : ∀ b, T b → (d7 b + cy b) + (ck b + (x2 b + ca b) + oneD D b) = 0 := tz sc
          have nD : ∀ (d : Addr → Nat), (∀ b, d b ≠ 0 → d7 b + cy b + ck b + x2 b + ca b ≠ 0) → ∀ b, F3 b ∨ T b ∨ d b ≠ 0 → b ≠ D := fun d hd' b q e => by
            subst e
            rcases q with q | q | q
            · have := dis4 b q; omega
            · have := tz4 b q; omega
            · have := fl_le4 b; have := hd' b q; omega
          have mD : MutO (H4 D) := by rw [hD4]; trivial
          have lacc : accV.length < sizeLine := by
            have := ra.length
            rw [ey, List.length_append, List.length_cons] at hz
            omega
          refine ⟨accV, hD4, lacc, ?_⟩
          have hla3 : vs.any (fun i => s3.la.contains i) = false := by rw [r7.lk.1, ← r1.lk.1]; exact hla
          obtain ⟨_, d8, _, r8, k8⟩ := (r7.wr (o := .lst (accV ++ [xv])) (nD d7 fun b q => by omega) mD).wipe vs hla3
          rw [w5] at r8
          have ra5 := ra4.stay na (stay_wr (o := .lst (accV ++ [xv])) (nD ca fun b q => by omega) mD) (fun _ h => h) (fun _ h => h) Pre.refl
          have ry5 := ry.stay ny (stay_wr (o := .lst (accV ++ [xv])) (nD cy fun b q => by omega) mD) (fun _ h => h) (fun _ h => h) Pre.refl
          have rk5 := rk4.stay (stay_wr (o := .lst (accV ++ [xv])) (nD ck fun b q => by omega) mD) (fun _ h => h) (fun _ h => h) Pre.refl
          have hf : tr = true → f1 = false ∧ f2 = false := ht
          refine ⟨rest.length, Nat.lt_succ_self _, F3, as3, s3, d8, x2, fun b => ca b + (cy b + 0), rest, acc ++ [yv], accV ++ [xv], ys', e3, rfl, r8, rk5, ?_, ec3, by rw [ey, List.append_assoc]; rfl, ra5.append (.cons ry5 (.nil fun _ => rfl) fun _ => rfl), ?_, upd_same, ?_, (pp.trans p6).trans p7, fun q => ?_⟩
          · have wp3' := wp3 (by cases tr with | false => exact .inr rfl | true => exact .inl (hf rfl).1)
            by_cases h : tr = true
            · rw [if_pos h] at wp3' ⊢
              obtain ⟨Hm, s, hm, wp'⟩ := wp3'
              have s4 := s.trans (ef7 (hf h).2).1
              refine ⟨Hm, fun b o e => ?_, hm, w.same wp' (Same.refl _) s7.sub p7⟩
              rw [upd_ne (ne_of_none e hm)]
              exact s4 b o e
            · rw [if_neg h] at wp3' ⊢
              have wp4 := w.step (by simpa using h) wp3' (fun d hd' => fl1 d fun b q => by have := hd' b q; omega) s7.sub p7
              exact w.step (by simpa using h) wp4 (fun d hd' => stay_wr (nD d fun b q => by have := hd' b q; omega) mD) (fun _ h => h) Pre.refl
          · have app : ∀ {l : List Vl}, noTrs l = true → noTrs (l ++ [yv]) = true := by
              intro l
              induction l with
              | nil => intro _; show (noTr yv && true) = true; rw [ny]; rfl
              | cons a l ih =>
                intro h
                unfold noTrs at h
                simp only [Bool.and_eq_true] at h
                show (noTr a && noTrs (l ++ [yv])) = true
                rw [h.1, ih h.2]; rfl
            exact app na
          · refine (sc.less fun b => ?_).wr (by show d8 D + (ck D + (x2 D + (ca D + (cy D + 0))) + oneD D D) ≠ 0; omega) hn
            have := k8 b
            show d8 b + (ck b + (x2 b + (ca b + (cy b + 0))) + oneD D b) ≤ (d7 b + cy b) + (ck b + (x2 b + ca b) + oneD D b)
            omega
          · obtain ⟨q1, q2, q3, q4⟩ := pure q
            have g1 : f1 = false := by cases f1 with | false => rfl | true => simp at q1
            have g2 : f2 = false := by cases f2 with | false => rfl | true => simp [g1] at q1
            have g3 : e3 = false := by cases e3 with | false => rfl | true => simp [g1, g2] at q1
            have sm4 := ((q2.trans sm).trans (ef6 g1).1).trans (ef7 g2).1
            refine ⟨g3, fun b o e => ?_, fun b h => q3 b ((ef6 g1).2.2 b ((ef7 g2).2.2 b h)), ?_⟩
            · rw [upd_ne (ne_of_none e hD)]; exact sm4 b o e
            · rw [(ef7 g2).2.1, (ef6 g1).2.1, u5, q4]
theorem EOk.comp (hc : X.calm = true) (hN : X.N.Nodup) (hi : SrcOk X tg iter src) (ok : BlkOk X.N X.env.scope scope own)
    (hg : ∀ (s : Shared) (H : Hp) (C : Addr) (cl : List (Str × Addr)) (fp : List Addr), GVOk (X.blk s H scope (compEnvC scope cl C X.env) fp) (own.map (·.2)) tg g) (ht : ∀ (s : Shared) (H : Hp) (C : Addr) (cl : List (Str × Addr)) (fp : List Addr), CTOk (X.blk s H scope (compEnvC scope cl C X.env) fp) ifs cond)
    (he : ∀ (s : Shared) (H : Hp) (C : Addr) (cl : List (Str × Addr)) (fp : List Addr), EOk (X.blk s H scope (compEnvC scope cl C X.env) fp) elt fe) (hs : ∀ x, foldedSetIterable iter X.env x = pure x := by intro _; rfl) : EOk X (.ListComp elt [⟨tg, iter, ifs, 0⟩] scope pos) (compE (own.map (·.2)) g src cond fe) := fun W t =>
  (pe_lc (g := GVI X.K X.mg (own.map fun (p : Str × Nat) => p.2) g) (tt := TsI X.K X.mg (fun _ _ _ _ => False) cond) (te := EI X.K X.mg (fun _ _ _ _ => False) fe) hc hN (hi W t) ok (fun s H C cl fp => hg s H C cl fp) (fun s H C cl fp => ht s H C cl fp _ takes0) (fun s H C cl fp => he s H C cl fp _ takes0) hs).imp fun σ H Q h => tLc_of h
theorem SOk.setComp {i : Nat} {y : Str} {py spos : Pos} (hc : X.calm = true) (hN : X.N.Nodup) (hy : X.N[i]? = some y) (hyl : X.env.scope.names.lookup y = some .local)
    (hsw : swapsWith (.ListComp elt [⟨tg, iter, ifs, 0⟩] scope pos) (some (.Name y py)) spos.line X.env = pure true) (hi : SrcOk X tg iter src) (ok : BlkOk X.N X.env.scope scope own)
    (hg : ∀ (s : Shared) (H : Hp) (C : Addr) (cl : List (Str × Addr)) (fp : List Addr), GVOk (X.blk s H scope (compEnvC scope cl C X.env) fp) (own.map (·.2)) tg g) (ht : ∀ (s : Shared) (H : Hp) (C : Addr) (cl : List (Str × Addr)) (fp : List Addr), CTOk (X.blk s H scope (compEnvC scope cl C X.env) fp) ifs cond)
    (he : ∀ (s : Shared) (H : Hp) (C : Addr) (cl : List (Str × Addr)) (fp : List Addr), EOk (X.blk s H scope (compEnvC scope cl C X.env) fp) elt fe) (hs : ∀ x, foldedSetIterable iter X.env x = pure x := by intro _; rfl) :
    SOk X (.Assign [.Name y py] (.ListComp elt [⟨tg, iter, ifs, 0⟩] scope pos) spos) (asgC (tgN i) (compE (own.map (·.2)) g src cond fe)) := fun W t =>
  (ps_setLc (g := GVI X.K X.mg (own.map fun (p : Str × Nat) => p.2) g) (tt := TsI X.K X.mg (fun _ _ _ _ => False) cond) (te := EI X.K X.mg (fun _ _ _ _ => False) fe) hc hN hy hyl hsw (hi W t) ok (fun s H C cl fp => hg s H C cl fp) (fun s H C cl fp => ht s H C cl fp _ takes0) (fun s H C cl fp => he s H C cl fp _ takes0) hs).imp fun D σ H h => by
    refine tLc_of ((SOk.asg_of h).mono fun x H1 ⟨F, T, as, L, st, v, c1, c2, f, rv, st', e, q⟩ => ?_)
    unfold tgN at e
    split at e
    · rename_i hc
      cases e
      simp only [Bool.and_eq_true, decide_eq_true_eq, Bool.not_eq_true'] at hc
      obtain ⟨c', r', k'⟩ := f.store rv hc.1.1 hc.1.2 hc.2
      exact q _ c' r' k'
    · cases e
end
end PyI

namespace PyI
open PySem PySem.Spec PyProof.Rows L2

/-! ### displays -/
def gTup (vs : List Vl) : Option Vl := if vs.length ≤ sizeLine then some (.tup vs) else none
def gLst (vs : List Vl) : Option Vl := if vs.length ≤ sizeLine then some (mkL vs) else none
section
variable {K : PySem.W.Frag} {mg : Str → Option Value}
theorem gop_tup : GOp K mg gTup (fun xs H Q => xs.length ≤ sizeLine ∧ ∀ p, H p = none → Q (.ref p) (upd H p (.tup xs))) := by
  intro H F T as vs xs c v Q r hl e fin
  unfold gTup at e
  split at e
  · rename_i hz
    cases e
    refine ⟨by rw [← r.length]; exact hz, fun p hp => ?_⟩
    have sm : Same H (upd H p (.tup xs)) := same_new hp
    exact fin _ _ c (.tup (.inl (.inl upd_same)) (r.same sm (fun _ h => h) (fun _ h => h) Pre.refl)) (fun b => .inl (Nat.le_refl _)) sm
  · cases e
theorem gop_lst : GOp K mg gLst (fun xs H Q => xs.length ≤ sizeLine ∧ ∀ p, H p = none → Q (.ref p) (upd H p (.lst xs))) := by
  intro H F T as vs xs c v Q r hl e fin
  unfold gLst at e
  split at e
  · rename_i hz
    cases e
    exact ⟨by rw [← r.length]; exact hz, fun p hp => fin.mkL r (fun b => Nat.le_refl _) hl (same_new hp) hp upd_same⟩
  · cases e
end
section
variable {X : Cx} {es : List Expr} {fs : List E} {pos : Pos}
theorem EOk.tup {x1} (h : AOk X es fs) : EOk X (.Tuple es x1 pos) (opE gTup fs) := fun W t => (pe_tup (h W t)).imp fun σ H Q h => h.op gop_tup
theorem EOk.lst (h : AOk X es fs) : EOk X (.List es pos) (opE gLst fs) := fun W t => (pe_lst (h W t)).imp fun σ H Q h => h.op gop_lst
end

/-! ### items, slices -/
def gIx : List Vl → Option Vl
  | [.nd _ .lst xs, .int i] => atI xs i
  | [.tup xs, .int i] => atI xs i
  | [.str z, .int i] => if z.length ≤ sizeLine then (atI z.cps.toList i).map fun c => .str ⟨#[c]⟩ else none
  | _ => none
section
variable {K : PySem.W.Frag} {mg : Str → Option Value} {H : Hp} {F T : Addr → Prop} {as : List Addr}
theorem Reps.atI {vs : List Vl} {xs : List V} {c : Addr → Nat} {i : Int} {v : Vl} (r : Reps K mg H F T as vs xs c) (e : atI vs i = some v) : ∃ x c', L2.atI xs i = some x ∧ Rep K mg H F T as v x c' ∧ ∀ b, c' b ≤ c b := by
  unfold L2.atI at e ⊢
  rw [← r.length]
  cases h : ixN vs.length i with
  | none => rw [h] at e; cases e
  | some j =>
    rw [h] at e
    exact r.at (i := j) e
theorem gop_ix : GOp K mg gIx (fun xs H Q => ∃ x y, xs = [x, y] ∧ rIx K x y H Q) := by
  intro H F T as vs xs c v Q r hl e fin
  unfold gIx at e
  split at e
  · obtain ⟨x, y, c1, c2, rfl, r1, r2, hcc⟩ := r.inv2
    obtain ⟨a, xs, c', rfl, h, s, k⟩ := r1.inv_lst
    obtain ⟨x', c5, e5, r5, k5⟩ := s.atI e
    exact ⟨_, _, rfl, .inl ⟨a, xs, _, x', rfl, r2.inv_int, h, e5, fin H x' c5 r5 (fun b => .inl (by rw [hcc]; have := k b; have := k5 b; omega)) (Same.refl H)⟩⟩
  · obtain ⟨x, y, c1, c2, rfl, r1, r2, hcc⟩ := r.inv2
    obtain ⟨a, xs, rfl, h, s⟩ := r1.inv_tup
    obtain ⟨x', c5, e5, r5, k5⟩ := s.atI e
    exact ⟨_, _, rfl, .inr (.inl ⟨a, xs, _, x', rfl, r2.inv_int, h, e5, fin H x' c5 r5 (fun b => .inl (by rw [hcc]; have := k5 b; omega)) (Same.refl H)⟩)⟩
  · obtain ⟨x, y, c1, c2, rfl, r1, r2, hcc⟩ := r.inv2
    split at e
    · rename_i hz
      obtain ⟨cp, e1, e2⟩ := Option.map_eq_some_iff.mp e
      subst e2
      exact ⟨_, _, rfl, .inr (.inr ⟨_, _, cp, r1.inv_str, r2.inv_int, hz, e1, fin.str⟩)⟩
    · cases e
  · cases e
end
/-- a part of a slice: an int -/
def cutL (xs : List Vl) (lo hi : Option Int) : List Vl := (xs.drop (HT.sIx xs.length 0 lo)).take (HT.sIx xs.length xs.length hi - HT.sIx xs.length 0 lo)
def sl1 (v : Vl) (lo hi : Option Int) : Option Vl := match v with
  | .nd _ .lst xs => some (mkL (cutL xs lo hi))
  | .tup xs => if HT.sIx xs.length 0 lo = 0 ∧ HT.sIx xs.length xs.length hi = xs.length then none else some (.tup (cutL xs lo hi))
  | _ => none
def gSlN : List Vl → Option Vl
  | [v] => sl1 v none none
  | _ => none
def gSlL : List Vl → Option Vl
  | [v, .int i] => sl1 v (some i) none
  | _ => none
def gSlH : List Vl → Option Vl
  | [v, .int i] => sl1 v none (some i)
  | _ => none
def gSlB : List Vl → Option Vl
  | [v, .int i, .int j] => sl1 v (some i) (some j)
  | _ => none
def gRev : List Vl → Option Vl
  | [.nd _ .lst xs] => some (mkL xs.reverse)
  | _ => none
section
variable {K : PySem.W.Frag} {mg : Str → Option Value} {H : Hp} {F T : Addr → Prop} {as : List Addr}
theorem Reps.cut {vs : List Vl} {xs : List V} {c : Addr → Nat} (r : Reps K mg H F T as vs xs c) (lo hi : Option Int) : ∃ c', Reps K mg H F T as (cutL vs lo hi) (cutV xs lo hi) c' ∧ ∀ b, c' b ≤ c b := by
  unfold cutL cutV
  rw [r.length]
  obtain ⟨c1, r1, k1⟩ := r.drop (HT.sIx xs.length 0 lo)
  obtain ⟨c2, r2, k2⟩ := r1.take (HT.sIx xs.length xs.length hi - HT.sIx xs.length 0 lo)
  exact ⟨c2, r2, fun b => Nat.le_trans (k2 b) (k1 b)⟩
theorem Reps.reverse : ∀ {vs : List Vl} {xs : List V} {c : Addr → Nat}, Reps K mg H F T as vs xs c → Reps K mg H F T as vs.reverse xs.reverse c
  | _, _, _, .nil hc => .nil hc
  | _, _, c, .cons (c1 := c1) (c2 := c2) r s hc => by
    have e : c = fun b => c2 b + (c1 b + 0) := funext fun b => by rw [hc]; omega
    rw [List.reverse_cons, List.reverse_cons, e]
    exact s.reverse.append (.cons r (.nil fun _ => rfl) fun _ => rfl)
theorem sl1_ok {v w : Vl} {x : V} {c c1 : Addr → Nat} {lo hi : Option Int} {Q : VK} (r : Rep K mg H F T as v x c1) (hc1 : ∀ b, c1 b ≤ c b) (hl : ∀ b, c b ≤ 1) (e : sl1 v lo hi = some w) (fin : Fin K mg F T as c H w Q) : rSlL K x lo hi H Q ∨ rSlT K x lo hi H Q := by
  unfold sl1 at e
  split at e
  · cases e
    obtain ⟨a, xs, c', rfl, h, s, k⟩ := r.inv_lst
    obtain ⟨c5, s5, k5⟩ := s.cut lo hi
    exact .inl ⟨a, xs, rfl, h, fun p hp => fin.mkL s5 (fun b => Nat.le_trans (k5 b) (Nat.le_trans (k b) (hc1 b))) hl (same_new hp) hp upd_same⟩
  · rename_i vs
    split at e
    · cases e
    · rename_i hw
      cases e
      obtain ⟨a, xs, rfl, h, s⟩ := r.inv_tup
      obtain ⟨c5, s5, k5⟩ := s.cut lo hi
      refine .inr ⟨a, xs, rfl, h, by rw [← s.length]; exact hw, fun p hp => ?_⟩
      have sm : Same H (upd H p (.tup (cutV xs lo hi))) := same_new hp
      exact fin _ _ c5 (.tup (.inl (.inl upd_same)) (s5.same sm (fun _ h => h) (fun _ h => h) Pre.refl)) (fun b => .inl (Nat.le_trans (k5 b) (hc1 b))) sm
  · cases e
end
/-- an int it must be -/
def asIntE (f : E) : E := fun st => match f st with
  | .ok (.int i, st1, e) => .ok (.int i, st1, e)
  | .ok _ => .bad
  | .exc c s => .exc c s
  | .bad => .bad
theorem EI.asInt {K : PySem.W.Frag} {mg : Str → Option Value} {W : WX} {f : E} {σ : L2.St} {H : Hp} {Q : VK} (h : EI K mg W (asIntE f) σ H Q) : EI K mg W f σ H fun y H' => ∃ i, y = .int i ∧ Q y H' := by
  obtain ⟨F, T, as, L, st, c, r, p⟩ := h
  refine ⟨F, T, as, L, st, c, r, ?_⟩
  unfold asIntE at p
  cases e1 : f st with
  | bad => rw [e1] at p; exact p
  | exc cl s => rw [e1] at p; exact p
  | ok q =>
    obtain ⟨v, st1, f1⟩ := q
    rw [e1] at p
    cases v with
    | int i => exact fun F1 as1 H1 x c1 c2 r1 rv s1 p1 ef => ⟨i, rv.inv_int, p F1 as1 H1 x c1 c2 r1 rv s1 p1 ef⟩
    | _ => exact (show False from p).elim
section
variable {X : Cx} {a b : Expr} {fa fb fc : E} {pos p2 : Pos} {lo hi : Expr}
theorem EOk.item (ha : EOk X a fa) (hb : EOk X b fb) (hs : PlainIx b := by exact fun _ _ => rfl) : EOk X (.Subscript a b pos) (opE gIx [fa, fb]) := .ix ix_seq gop_ix ha hb hs
theorem EOk.slN (ha : EOk X a fa) : EOk X (.Subscript a (.Slice none none none p2) pos) (opE gSlN [fa]) := fun W t =>
  (pe_slice (sl_list.or sl_tup) (ha W t) po_none po_none).imp fun σ H Q h => (h.op (r := fun xs H Q => ∃ x, xs = [x] ∧ (rSlL X.K x none none H Q ∨ rSlT X.K x none none H Q)) (by
    intro H F T as vs xs c v Q r hl e fin
    unfold gSlN at e
    split at e
    · obtain ⟨x, rfl, r1⟩ := r.inv1
      exact ⟨x, rfl, sl1_ok r1 (fun b => Nat.le_refl _) hl e fin⟩
    · cases e)).one.mono fun x H1 ⟨x', e, q⟩ => by cases e; exact q
theorem EOk.slL (ha : EOk X a fa) (hb : EOk X lo fb) : EOk X (.Subscript a (.Slice (some lo) none none p2) pos) (opE gSlL [fa, fb]) := fun W t =>
  (pe_slice (sl_list.or sl_tup) (ha W t) (po_some (hb W t)) po_none).imp fun σ H Q h => (h.op (r := fun xs H Q => ∃ x i, xs = [x, .int i] ∧ (rSlL X.K x (some i) none H Q ∨ rSlT X.K x (some i) none H Q)) (by
    intro H F T as vs xs c v Q r hl e fin
    unfold gSlL at e
    split at e
    · obtain ⟨x, y, c1, c2, rfl, r1, r2, hcc⟩ := r.inv2
      cases r2.inv_int
      exact ⟨x, _, rfl, sl1_ok r1 (fun b => by rw [hcc]; omega) hl e fin⟩
    · cases e)).two.mono fun x H1 h => h.mono fun y H2 ⟨x', i, e, q⟩ => by cases e; exact ⟨i, rfl, q⟩
theorem EOk.slH (ha : EOk X a fa) (hb : EOk X hi fb) : EOk X (.Subscript a (.Slice none (some hi) none p2) pos) (opE gSlH [fa, fb]) := fun W t =>
  (pe_slice (sl_list.or sl_tup) (ha W t) po_none (po_some (hb W t))).imp fun σ H Q h => (h.op (r := fun xs H Q => ∃ x i, xs = [x, .int i] ∧ (rSlL X.K x none (some i) H Q ∨ rSlT X.K x none (some i) H Q)) (by
    intro H F T as vs xs c v Q r hl e fin
    unfold gSlH at e
    split at e
    · obtain ⟨x, y, c1, c2, rfl, r1, r2, hcc⟩ := r.inv2
      cases r2.inv_int
      exact ⟨x, _, rfl, sl1_ok r1 (fun b => by rw [hcc]; omega) hl e fin⟩
    · cases e)).two.mono fun x H1 h => h.mono fun y H2 ⟨x', i, e, q⟩ => by cases e; exact ⟨i, rfl, q⟩
theorem EOk.slB (ha : EOk X a fa) (hb : EOk X lo fb) (hc : EOk X hi fc) : EOk X (.Subscript a (.Slice (some lo) (some hi) none p2) pos) (opE gSlB [fa, asIntE fb, fc]) := fun W t =>
  (pe_slice (sl_list.or sl_tup) (ha W t) (po_some (hb W t)) (po_some (hc W t))).imp fun σ H Q h => (h.op (r := fun xs H Q => ∃ x i j, xs = [x, .int i, .int j] ∧ (rSlL X.K x (some i) (some j) H Q ∨ rSlT X.K x (some i) (some j) H Q)) (by
    intro H F T as vs xs c v Q r hl e fin
    unfold gSlB at e
    split at e
    · obtain ⟨x, y, z, c1, c2, c3, rfl, r1, r2, r3, hcc⟩ := r.inv3
      cases r2.inv_int
      cases r3.inv_int
      exact ⟨x, _, _, rfl, sl1_ok r1 (fun b => by rw [hcc]; omega) hl e fin⟩
    · cases e)).cons.mono fun x H1 h => h.two.asInt.mono fun y H2 ⟨i, ei, h⟩ => ⟨i, ei, h.mono fun z H3 ⟨x', i', j, e, q⟩ => by cases e; cases ei; exact ⟨j, rfl, q⟩⟩
theorem EOk.rev {k : Nat} {p1 q2 p3 : Pos} (ha : EOk X a fa) : EOk X (.Subscript a (.Slice none none (some (.UnaryOp .USub (.Constant (.int 1) k p1) q2)) p3) pos) (opE gRev [fa]) := fun W t =>
  (pe_revL (ha W t)).imp fun σ H Q h => (h.op (r := fun xs H Q => ∃ x, xs = [x] ∧ ∃ a ys, x = .ref a ∧ SqL X.K H a ys ∧ ∀ p, H p = none → Q (.ref p) (upd H p (.lst ys.reverse))) (by
    intro H F T as vs xs c v Q r hl e fin
    unfold gRev at e
    split at e
    · cases e
      obtain ⟨x, rfl, r1⟩ := r.inv1
      obtain ⟨a, xs, c', rfl, h, s, k⟩ := r1.inv_lst
      exact ⟨_, rfl, a, xs, rfl, h, fun p hp => fin.mkL s.reverse k hl (same_new hp) hp upd_same⟩
    · cases e)).one.mono fun x H1 ⟨x', e, q⟩ => by cases e; exact q
end

/-! ### built-ins -/
def gLen : List Vl → Option Vl
  | [.nd _ .lst xs] => some (.int xs.length)
  | [.tup xs] => some (.int xs.length)
  | [.str z] => if z.length ≤ sizeLine then some (.int z.length) else none
  | _ => none
def gList : List Vl → Option Vl
  | [.nd _ .lst xs] => some (mkL xs)
  | [.tup xs] => some (mkL xs)
  | _ => none
def gMax2 : List Vl → Option Vl
  | [.int i, .int j] => some (.int (if j > i then j else i))
  | _ => none
def gMin2 : List Vl → Option Vl
  | [.int i, .int j] => some (.int (if j < i then j else i))
  | _ => none
def gAbs : List Vl → Option Vl
  | [.int i] => some (.int (if i < 0 then -i else i))
  | _ => none
def gInt : List Vl → Option Vl
  | [.int i] => some (.int i)
  | [.bl k] => some (.int (if k then 1 else 0))
  | _ => none
def blsOf : List Vl → Option (List Bool)
  | [] => some []
  | .bl b :: r => (blsOf r).map (b :: ·)
  | _ => none
def intsOf : List Vl → Option (List Int)
  | [] => some []
  | .int b :: r => (intsOf r).map (b :: ·)
  | _ => none
def gAll : List Vl → Option Vl
  | [.nd _ .lst xs] => (blsOf xs).map fun bs => .bl (bs.all id)
  | _ => none
def gAny : List Vl → Option Vl
  | [.nd _ .lst xs] => (blsOf xs).map fun bs => .bl (bs.any id)
  | _ => none
def gSum : List Vl → Option Vl
  | [.nd _ .lst xs] => (intsOf xs).map fun ns => .int ns.sum
  | _ => none
section
variable {K : PySem.W.Frag} {mg : Str → Option Value}
theorem Reps.bls {H : Hp} {F T : Addr → Prop} {as : List Addr} : ∀ {vs : List Vl} {xs : List V} {c : Addr → Nat} {bs : List Bool}, Reps K mg H F T as vs xs c → blsOf vs = some bs → xs = bs.map V.bl
  | [], _, _, _, r, e => by cases r; unfold blsOf at e; cases e; rfl
  | .bl b :: vs, _, _, _, .cons r s _, e => by
    unfold blsOf at e
    obtain ⟨bs, e1, e2⟩ := Option.map_eq_some_iff.mp e
    subst e2
    rw [r.inv_bl, s.bls e1]; rfl
  | .non :: _, _, _, _, _, e => by unfold blsOf at e; cases e
  | .int _ :: _, _, _, _, _, e => by unfold blsOf at e; cases e
  | .str _ :: _, _, _, _, _, e => by unfold blsOf at e; cases e
  | .ref _ :: _, _, _, _, _, e => by unfold blsOf at e; cases e
  | .sym _ :: _, _, _, _, _, e => by unfold blsOf at e; cases e
  | .tup _ :: _, _, _, _, _, e => by unfold blsOf at e; cases e
  | .nd _ _ _ :: _, _, _, _, _, e => by unfold blsOf at e; cases e
theorem Reps.ints {H : Hp} {F T : Addr → Prop} {as : List Addr} : ∀ {vs : List Vl} {xs : List V} {c : Addr → Nat} {bs : List Int}, Reps K mg H F T as vs xs c → intsOf vs = some bs → xs = bs.map V.int
  | [], _, _, _, r, e => by cases r; unfold intsOf at e; cases e; rfl
  | .int b :: vs, _, _, _, .cons r s _, e => by
    unfold intsOf at e
    obtain ⟨bs, e1, e2⟩ := Option.map_eq_some_iff.mp e
    subst e2
    rw [r.inv_int, s.ints e1]; rfl
  | .non :: _, _, _, _, _, e => by unfold intsOf at e; cases e
  | .bl _ :: _, _, _, _, _, e => by unfold intsOf at e; cases e
  | .str _ :: _, _, _, _, _, e => by unfold intsOf at e; cases e
  | .ref _ :: _, _, _, _, _, e => by unfold intsOf at e; cases e
  | .sym _ :: _, _, _, _, _, e => by unfold intsOf at e; cases e
  | .tup _ :: _, _, _, _, _, e => by unfold intsOf at e; cases e
  | .nd _ _ _ :: _, _, _, _, _, e => by unfold intsOf at e; cases e
theorem gop_len : GOp K mg gLen (fun xs H Q => ∃ x n, xs = [x] ∧ LenV K x H n ∧ Q (.int n) H) := by
  intro H F T as vs xs c v Q r hl e fin
  unfold gLen at e
  split at e
  · cases e
    obtain ⟨x, rfl, r1⟩ := r.inv1
    obtain ⟨a, xs, c', rfl, h, s, k⟩ := r1.inv_lst
    exact ⟨_, _, rfl, .inl ⟨xs, h, s.length⟩, fin.int⟩
  · cases e
    obtain ⟨x, rfl, r1⟩ := r.inv1
    obtain ⟨a, xs, rfl, h, s⟩ := r1.inv_tup
    exact ⟨_, _, rfl, .inr ⟨xs, h, s.length⟩, fin.int⟩
  · split at e
    · rename_i hz
      cases e
      obtain ⟨x, rfl, r1⟩ := r.inv1
      cases r1.inv_str
      exact ⟨_, _, rfl, ⟨hz, rfl⟩, fin.int⟩
    · cases e
  · cases e
theorem gop_list : GOp K mg gList (fun xs H Q => ∃ p ys, xs = [.ref p] ∧ (SqL K H p ys ∨ SqT K H p ys) ∧ ∀ l, H l = none → Q (.ref l) (upd H l (.lst ys))) := by
  intro H F T as vs xs c v Q r hl e fin
  unfold gList at e
  split at e
  · cases e
    obtain ⟨x, rfl, r1⟩ := r.inv1
    obtain ⟨a, xs, c', rfl, h, s, k⟩ := r1.inv_lst
    exact ⟨a, xs, rfl, .inl h, fun p hp => fin.mkL s k hl (same_new hp) hp upd_same⟩
  · cases e
    obtain ⟨x, rfl, r1⟩ := r.inv1
    obtain ⟨a, xs, rfl, h, s⟩ := r1.inv_tup
    exact ⟨a, xs, rfl, .inr h, fun p hp => fin.mkL s (fun b => Nat.le_refl _) hl (same_new hp) hp upd_same⟩
  · cases e
theorem gop_max2 : GOp K mg gMax2 (fun xs H Q => ∃ i j, xs = [.int i, .int j] ∧ Q (.int (if j > i then j else i)) H) := by
  intro H F T as vs xs c v Q r hl e fin
  unfold gMax2 at e
  split at e
  · cases e
    obtain ⟨x, y, c1, c2, rfl, r1, r2, hcc⟩ := r.inv2
    cases r1.inv_int
    cases r2.inv_int
    exact ⟨_, _, rfl, fin.int⟩
  · cases e
theorem gop_min2 : GOp K mg gMin2 (fun xs H Q => ∃ i j, xs = [.int i, .int j] ∧ Q (.int (if j < i then j else i)) H) := by
  intro H F T as vs xs c v Q r hl e fin
  unfold gMin2 at e
  split at e
  · cases e
    obtain ⟨x, y, c1, c2, rfl, r1, r2, hcc⟩ := r.inv2
    cases r1.inv_int
    cases r2.inv_int
    exact ⟨_, _, rfl, fin.int⟩
  · cases e
theorem gop_abs : GOp K mg gAbs (fun xs H Q => ∃ i, xs = [.int i] ∧ Q (.int (if i < 0 then -i else i)) H) := by
  intro H F T as vs xs c v Q r hl e fin
  unfold gAbs at e
  split at e
  · cases e
    obtain ⟨x, rfl, r1⟩ := r.inv1
    cases r1.inv_int
    exact ⟨_, rfl, fin.int⟩
  · cases e
theorem gop_int : GOp K mg gInt (fun xs H Q => (∃ i, xs = [.int i] ∧ Q (.int i) H) ∨ ∃ k, xs = [.bl k] ∧ Q (.int (if k then 1 else 0)) H) := by
  intro H F T as vs xs c v Q r hl e fin
  unfold gInt at e
  split at e
  · cases e
    obtain ⟨x, rfl, r1⟩ := r.inv1
    cases r1.inv_int
    exact .inl ⟨_, rfl, fin.int⟩
  · cases e
    obtain ⟨x, rfl, r1⟩ := r.inv1
    cases r1.inv_bl
    exact .inr ⟨_, rfl, fin.int⟩
  · cases e
theorem gop_all : GOp K mg gAll (rAll K) := by
  intro H F T as vs xs c v Q r hl e fin
  unfold gAll at e
  split at e
  · obtain ⟨bs, e1, e2⟩ := Option.map_eq_some_iff.mp e
    subst e2
    obtain ⟨x, rfl, r1⟩ := r.inv1
    obtain ⟨a, xs, c', rfl, h, s, k⟩ := r1.inv_lst
    rw [s.bls e1] at h
    exact ⟨a, bs, rfl, h, fin.bl⟩
  · cases e
theorem gop_any : GOp K mg gAny (rAny K) := by
  intro H F T as vs xs c v Q r hl e fin
  unfold gAny at e
  split at e
  · obtain ⟨bs, e1, e2⟩ := Option.map_eq_some_iff.mp e
    subst e2
    obtain ⟨x, rfl, r1⟩ := r.inv1
    obtain ⟨a, xs, c', rfl, h, s, k⟩ := r1.inv_lst
    rw [s.bls e1] at h
    exact ⟨a, bs, rfl, h, fin.bl⟩
  · cases e
theorem gop_sum : GOp K mg gSum (rSum K) := by
  intro H F T as vs xs c v Q r hl e fin
  unfold gSum at e
  split at e
  · obtain ⟨bs, e1, e2⟩ := Option.map_eq_some_iff.mp e
    subst e2
    obtain ⟨x, rfl, r1⟩ := r.inv1
    obtain ⟨a, xs, c', rfl, h, s, k⟩ := r1.inv_lst
    rw [s.ints e1] at h
    exact ⟨a, bs, rfl, h, fin.int⟩
  · cases e
end
section
variable {X : Cx} {e : Expr} {es : List Expr} {fs : List E} {p pos : Pos}
theorem EOk.len (hm : X.mg "len" = none) (ha : AOk X [e] fs) (hgl : Gl X "len" := by rfl) (he : starEach [e] X.env = (false, eval e X.env) :: starEach [] X.env := by rfl) : EOk X (.Call (.Name "len" p) [e] [] pos) (opE gLen fs) :=
  .callB call_len gop_len hgl hm PySem.boot_len ha (by decide) (by decide) he rfl
theorem EOk.list (hm : X.mg "list" = none) (ha : AOk X [e] fs) (hgl : Gl X "list" := by rfl) (he : starEach [e] X.env = (false, eval e X.env) :: starEach [] X.env := by rfl) : EOk X (.Call (.Name "list" p) [e] [] pos) (opE gList fs) :=
  .callTy call_list_of gop_list hgl hm (by decide +kernel) ha (by decide) (by decide) he rfl
theorem EOk.max2 {e2 : Expr} (hc : X.calm = true) (hm : X.mg "max" = none) (ha : AOk X [e, e2] fs) (hgl : Gl X "max" := by rfl) (he : starEach [e, e2] X.env = (false, eval e X.env) :: starEach [e2] X.env := by rfl) (hpl : (backTo pos (starEach [e2] X.env)).any (·.1) = false := by rfl) : EOk X (.Call (.Name "max" p) [e, e2] [] pos) (opE gMax2 fs) :=
  .callB (call_max2 hc) gop_max2 hgl hm (by decide +kernel) ha (by decide) (by decide) he hpl
theorem EOk.min2 {e2 : Expr} (hc : X.calm = true) (hm : X.mg "min" = none) (ha : AOk X [e, e2] fs) (hgl : Gl X "min" := by rfl) (he : starEach [e, e2] X.env = (false, eval e X.env) :: starEach [e2] X.env := by rfl) (hpl : (backTo pos (starEach [e2] X.env)).any (·.1) = false := by rfl) : EOk X (.Call (.Name "min" p) [e, e2] [] pos) (opE gMin2 fs) :=
  .callB (call_min2 hc) gop_min2 hgl hm (by decide +kernel) ha (by decide) (by decide) he hpl
theorem EOk.abs (hm : X.mg "abs" = none) (ha : AOk X [e] fs) (hgl : Gl X "abs" := by rfl) (he : starEach [e] X.env = (false, eval e X.env) :: starEach [] X.env := by rfl) : EOk X (.Call (.Name "abs" p) [e] [] pos) (opE gAbs fs) :=
  .callB call_abs gop_abs hgl hm (by decide +kernel) ha (by decide) (by decide) he rfl
theorem EOk.int_ (hm : X.mg "int" = none) (ha : AOk X [e] fs) (hgl : Gl X "int" := by rfl) (he : starEach [e] X.env = (false, eval e X.env) :: starEach [] X.env := by rfl) : EOk X (.Call (.Name "int" p) [e] [] pos) (opE gInt fs) :=
  .callTy call_int1 gop_int hgl hm (by decide +kernel) ha (by decide) (by decide) he rfl
theorem EOk.all (hc : X.calm = true) (hm : X.mg "all" = none) (ha : AOk X [e] fs) (hgl : Gl X "all" := by rfl) (he : starEach [e] X.env = (false, eval e X.env) :: starEach [] X.env := by rfl) : EOk X (.Call (.Name "all" p) [e] [] pos) (opE gAll fs) :=
  .callB (cr_all hc) gop_all hgl hm (by decide +kernel) ha (by decide) (by decide) he rfl
theorem EOk.any (hc : X.calm = true) (hm : X.mg "any" = none) (ha : AOk X [e] fs) (hgl : Gl X "any" := by rfl) (he : starEach [e] X.env = (false, eval e X.env) :: starEach [] X.env := by rfl) : EOk X (.Call (.Name "any" p) [e] [] pos) (opE gAny fs) :=
  .callB (cr_any hc) gop_any hgl hm (by decide +kernel) ha (by decide) (by decide) he rfl
theorem EOk.sum (hc : X.calm = true) (hm : X.mg "sum" = none) (ha : AOk X [e] fs) (hgl : Gl X "sum" := by rfl) (he : starEach [e] X.env = (false, eval e X.env) :: starEach [] X.env := by rfl) : EOk X (.Call (.Name "sum" p) [e] [] pos) (opE gSum fs) :=
  .callB (cr_sum hc) gop_sum hgl hm (by decide +kernel) ha (by decide) (by decide) he rfl
end

/-! ### list(range(..)) -/
def gLR1 : List Vl → Option Vl
  | [.int j] => if inB 16777216 j then some (.nd .own .lst (intsV 0 j.toNat)) else none
  | _ => none
def gLR2 : List Vl → Option Vl
  | [.int i, .int j] => if inB 4611686018427387903 i && inB 4611686018427387903 j && decide ((j - i).toNat ≤ 16777216) then some (.nd .own .lst (intsV i (j - i).toNat)) else none
  | _ => none
section
variable {K : PySem.W.Frag} {mg : Str → Option Value} {H : Hp} {F T : Addr → Prop} {as : List Addr}
theorem reps_ints (lo : Int) : ∀ (l : List Nat), Reps K mg H F T as (l.map fun k => .int (lo + (k : Nat))) (l.map fun i => V.int (lo + (i : Nat))) (fun _ => 0)
  | [] => .nil fun _ => rfl
  | k :: r => .cons Rep.int' (reps_ints lo r) fun _ => rfl
theorem stors_ints (lo : Int) : ∀ (l : List Nat), stors (l.map fun k => Vl.int (lo + (k : Nat))) = true
  | [] => rfl
  | k :: r => by show (true && stors _) = true; rw [stors_ints lo r]; rfl
theorem fin_ints {c : Addr → Nat} {Q : VK} {lo : Int} {n : Nat} (fin : Fin K mg F T as c H (.nd .own .lst (intsV lo n)) Q) (hl : ∀ b, c b ≤ 1) {p : Addr} (hp : H p = none) (b : Int) (hb : (b - lo).toNat = n) : Q (.ref p) (upd H p (.lst (rgV lo b))) := by
  have e : mkL (intsV lo n) = .nd .own .lst (intsV lo n) := by
    have st : stors (intsV lo n) = true := stors_ints lo _
    unfold mkL; rw [if_pos st]
  rw [← e] at fin
  refine fin.mkL (c5 := fun _ => 0) ?_ (fun b => Nat.zero_le _) hl (same_new hp) hp upd_same
  unfold rgV intsV
  rw [hb]
  exact reps_ints lo _
end
section
variable {X : Cx} {e e2 : Expr} {f f2 : E} {p pos p2 pos2 : Pos}
theorem EOk.listRng1 (hc : X.calm = true) (hl : X.mg "list" = none) (hm : X.mg "range" = none) (ha : EOk X e f) (hgl : Gl X "list" := by rfl) (hgr : Gl X "range" := by rfl) (na : starEach [e] X.env = (false, eval e X.env) :: starEach [] X.env := by rfl)
    (na2 : starEach [Expr.Call (.Name "range" p2) [e] [] pos2] X.env = (false, eval (Expr.Call (.Name "range" p2) [e] [] pos2) X.env) :: starEach [] X.env := by rfl) : EOk X (.Call (.Name "list" p) [.Call (.Name "range" p2) [e] [] pos2] [] pos) (opE gLR1 [f]) := fun W t =>
  (pe_listRg hc hgl hl (prg_1 hgr hm (ha W t) na) na2).imp fun σ H Q h => (h.op (r := fun xs H Q => ∃ x, xs = [x] ∧ ∃ n, x = .int n ∧ RgOk 0 n ∧ ∀ q, H q = none → Q (.ref q) (upd H q (.lst (rgV 0 n)))) (by
    intro H F T as vs xs c v Q r hl e fin
    unfold gLR1 at e
    split at e
    · split at e
      · rename_i j hc
        cases e
        simp only [inB_eq] at hc
        obtain ⟨x, rfl, r1⟩ := r.inv1
        exact ⟨x, rfl, j, r1.inv_int, ⟨by omega, by omega, by omega, by omega, by omega⟩, fun q hq => fin_ints fin hl hq j (by omega)⟩
      · cases e
    · cases e)).one.mono fun x H1 ⟨x', e, q⟩ => by cases e; exact q
theorem EOk.listRng2 (hc : X.calm = true) (hl : X.mg "list" = none) (hm : X.mg "range" = none) (ha : EOk X e f) (hb : EOk X e2 f2) (hgl : Gl X "list" := by rfl) (hgr : Gl X "range" := by rfl) (na : starEach [e, e2] X.env = (false, eval e X.env) :: starEach [e2] X.env := by rfl) (nb : starEach [e2] X.env = (false, eval e2 X.env) :: starEach [] X.env := by rfl) (hpl : (backTo pos2 (starEach [e2] X.env)).any (·.1) = false := by rfl)
    (na2 : starEach [Expr.Call (.Name "range" p2) [e, e2] [] pos2] X.env = (false, eval (Expr.Call (.Name "range" p2) [e, e2] [] pos2) X.env) :: starEach [] X.env := by rfl) : EOk X (.Call (.Name "list" p) [.Call (.Name "range" p2) [e, e2] [] pos2] [] pos) (opE gLR2 [f, f2]) := fun W t =>
  (pe_listRg hc hgl hl (prg_2 hgr hm (ha W t) (hb W t) na nb hpl) na2).imp fun σ H Q h => (h.op (r := fun xs H Q => ∃ x y, xs = [x, y] ∧ ∃ i j, x = .int i ∧ y = .int j ∧ RgOk i j ∧ ∀ q, H q = none → Q (.ref q) (upd H q (.lst (rgV i j)))) (by
    intro H F T as vs xs c v Q r hl e fin
    unfold gLR2 at e
    split at e
    · split at e
      · rename_i i j hc
        cases e
        simp only [Bool.and_eq_true, decide_eq_true_eq, inB_eq] at hc
        obtain ⟨x, y, c1, c2, rfl, r1, r2, hcc⟩ := r.inv2
        exact ⟨x, y, rfl, i, j, r1.inv_int, r2.inv_int, ⟨by omega, by omega, by omega, by omega, hc.2⟩, fun q hq => fin_ints fin hl hq j rfl⟩
      · cases e
    · cases e)).two.mono fun x H1 h => h.mono fun y H2 ⟨x', y', e, q⟩ => by cases e; exact q
end
end PyI

namespace PyI
open PySem PySem.Spec PyProof.Rows L2

/-! ### what is changed in place -/
/-- the object that a slot holds, its own or a cell's -/
def getN (st : Sta) (i : Nat) : Option (Kd × List Vl) := match st.sl[i]? with
  | some (some (.nd .own k xs)) => some (k, xs)
  | some (some (.ref n)) => (match st.hp[n]? with
    | some (.nd .own k xs) => some (k, xs)
    | _ => none)
  | _ => none
def putN (st : Sta) (i : Nat) (k : Kd) (xs : List Vl) : Sta := match st.sl[i]? with
  | some (some (.ref n)) => { st with hp := st.hp.set n (.nd .own k xs) }
  | _ => { st with sl := st.sl.set i (some (.nd .own k xs)) }
abbrev Mu := List Vl → Kd → List Vl → Option (Vl × Kd × List Vl)
def isL : Kd → Bool
  | .lst => true
  | _ => false
def isD : Kd → Bool
  | .dK _ => true
  | .dT _ => true
  | _ => false
def mutE (i : Nat) (p : Kd → Bool) (fs : List E) (g : Mu) : E := fun st => match getN st i with
  | some (k0, _) => if p k0 then (match evs fs st with
    | .ok (vs, st1, _) => (match getN st1 i with
      | some (k, xs) => (match g vs k xs with
        | some (res, k', ys) => if stors ys && noTr res then .ok (res, putN st1 i k' ys, true) else .bad
        | none => .bad)
      | none => .bad)
    | .exc c s => .exc c s
    | .bad => .bad) else .bad
  | none => .bad
def GMu (K : PySem.W.Frag) (mg : Str → Option Value) (g : Mu) (r : V → List V → Hp → VK → Prop) : Prop :=
  ∀ (H : Hp) (F T : Addr → Prop) (as : List Addr) (vs : List Vl) (xs : List V) (ca : Addr → Nat) (k : Kd) (ws : List Vl) (wsV : List V) (cx : Addr → Nat) (a : Addr) (o : HO) (res : Vl) (k' : Kd) (ys : List Vl) (Q : VK),
    Reps K mg H F T as vs xs ca → Reps K mg H F T as ws wsV cx → H a = some o → hoOf mg k wsV o → g vs k ws = some (res, k', ys) →
    (∀ ysV cy x cr o', Reps K mg H F T as ys ysV cy → Rep K mg H F T as res x cr → hoOf mg k' ysV o' → (∀ b, cy b + cr b ≤ cx b + ca b) → Q x (upd H a o')) → r (.ref a) xs H Q
theorem noTrs_of_stors {vs : List Vl} (h : stors vs = true) : noTrs vs = true := stors_noTrs h
section
variable {K : PySem.W.Frag} {mg : Str → Option Value} {H : Hp} {F T : Addr → Prop} {as : List Addr} {L : List (Nat × V)} {st : Sta} {σ : L2.St} {c1 c2 : Addr → Nat}
/-- the object at a slot -/
theorem Rel.node {i : Nat} {k : Kd} {xs : List Vl} (r : Rel K mg F T as L st σ H c1) (e : getN st i = some (k, xs)) : ∃ a o xsV cx, σ[i]? = some (some (.ref a)) ∧ H a = some o ∧ hoOf mg k xsV o ∧ Reps K mg H F T as xs xsV cx ∧ noTrs xs = true ∧ (∀ b, cx b + oneD a b ≤ c1 b) ∧
    ∀ (c9 : Addr → Nat) (k' : Kd) (ys : List Vl) (ysV : List V) (cy : Addr → Nat) (o' : HO), (∀ b, c1 b + c9 b ≤ 1) → (∀ b, F b ∨ T b → c9 b = 0) → (∀ b, cy b ≤ cx b + c9 b) → Reps K mg H F T as ys ysV cy → noTrs ys = true → hoOf mg k' ysV o' →
      ∃ c', Rel K mg F T as L (putN st i k' ys) σ (upd H a o') c' ∧ ∀ b, c' b + cx b = c1 b + cy b := by
  unfold getN at e
  split at e
  · rename_i k0 xs0 es
    cases e
    obtain ⟨x, d1, d2, e1, rv, nt, r2, hc⟩ := r.slot es
    cases rv with
    | own h ho rr hcc =>
      rename_i a o xsV cx
      have ntx : noTrs xs = true := by unfold noTr at nt; simp only [Bool.and_eq_true] at nt; exact nt.2
      refine ⟨a, o, xsV, cx, e1, h, ho, rr, ntx, fun b => by rw [hc, hcc]; simp only [oneD]; omega, fun c9 k' ys ysV cy o' le hF hy ry nty ho' => ?_⟩
      have hm : MutO (H a) := by rw [h]; exact hoOf_mut ho
      have oa : oneD a a = 1 := if_pos rfl
      have da : d1 a = 1 + cx a := by rw [hcc]; simp
      have ca1 : c1 a = 1 := by have := r.le a; have := hc a; omega
      have nd : ∀ (d : Addr → Nat), (∀ b, d b ≤ c9 b + d2 b + cx b) → ∀ b, F b ∨ T b ∨ d b ≠ 0 → b ≠ a := fun d hd b q eb => by
        subst eb
        rcases q with q | q | q
        · have := (r.fr b (.inl q)).1; omega
        · have := (r.fr b (.inr q)).1; omega
        · have := hd b; have := le b; have := hc b; omega
      have hi : i < st.sl.length := (List.getElem?_eq_some_iff.mp es).1
      have r3 := r2.wr (o := o') (nd d2 fun b => by omega) hm
      have ry3 := ry.stay nty (stay_wr (o := o') (nd cy fun b => by have := hy b; omega) hm) (fun _ h => h) (fun _ h => h) Pre.refl
      have rn : Rep K mg (upd H a o') F T as (.nd .own k' ys) (.ref a) (fun b => oneD a b + cy b) := .own upd_same ho' ry3 fun b => rfl
      have nt2 : noTr (.nd .own k' ys) = true := by unfold noTr; simp only [Bool.and_eq_true]; exact ⟨by decide, nty⟩
      have hle : ∀ b, (oneD a b + cy b) + d2 b ≤ 1 := fun b => by
        have h1 := hy b; have h2 := le b; have h3 := hc b; have h4 := hcc b
        simp only [oneD]; omega
      have r4 := r3.fill hi e1 rn nt2 hle fun b q => by
        have h1 := (r.fr b q).1
        have h2 := hc b; have h3 := hcc b; have h4 := hy b; have h5 := hF b q
        simp only [oneD]; omega
      refine ⟨fun b => (oneD a b + cy b) + d2 b, ?_, fun b => ?_⟩
      · unfold putN
        rw [es]
        exact r4
      · show (oneD a b + cy b) + d2 b + cx b = c1 b + cy b
        rw [hc, hcc]; simp only [oneD]; omega
  · rename_i n es
    split at e
    · rename_i k0 xs0 ec
      cases e
      obtain ⟨x, d1, d2, e1, rv, nt, r2, hc⟩ := r.slot es
      cases rv with
      | ref hn h0 =>
        rename_i a
        obtain ⟨s1, s2, h1, h2, h3, h4⟩ := r.rep
        -- the cell taken out of the cells
        have take : ∀ {hp : List Vl} {bs : List Addr} {s : Addr → Nat} {n : Nat}, Reps K mg H F T as hp (bs.map V.ref) s → noTrs hp = true → hp[n]? = some (.nd .own k xs) → bs[n]? = some a →
            ∃ (cn cr : Addr → Nat), Rep K mg H F T as (.nd .own k xs) (.ref a) cn ∧ noTr (.nd .own k xs) = true ∧ (∀ b, s b = cn b + cr b) ∧ (∀ b, cr b ≠ 0 → MutO (H b)) ∧
              ∀ (H' : Hp) (v : Vl) (cv : Addr → Nat), (∀ d : Addr → Nat, (∀ b, d b ≤ cr b) → Stay H H' F T d) → Rep K mg H' F T as v (.ref a) cv → noTr v = true → Reps K mg H' F T as (hp.set n v) (bs.map V.ref) (fun b => cv b + cr b) ∧ noTrs (hp.set n v) = true := by
          intro hp
          induction hp with
          | nil => intro bs s n _ _ e _; simp at e
          | cons w hp ih =>
            intro bs s n rr nn e eb
            cases bs with
            | nil => simp at eb
            | cons b0 bs =>
              unfold noTrs at nn
              simp only [Bool.and_eq_true] at nn
              cases rr with
              | cons r1 rs hs =>
                rename_i e1' e2'
                cases n with
                | zero =>
                  simp at e eb
                  subst e eb
                  refine ⟨_, _, r1, nn.1, hs, rs.mu, fun H' v cv st rv nv => ⟨.cons rv (rs.stay nn.2 (st _ fun b => Nat.le_refl _) (fun _ h => h) (fun _ h => h) Pre.refl) fun _ => rfl, ?_⟩⟩
                  show (noTr v && noTrs hp) = true
                  rw [nv, nn.2]; rfl
                | succ n =>
                  obtain ⟨cn, cr, q1, q2, q3, q5, q4⟩ := ih rs nn.2 (by simpa using e) (by simpa using eb)
                  refine ⟨cn, fun b => e1' b + cr b, q1, q2, fun b => by show _ = cn b + (e1' b + cr b); rw [hs, q3]; omega, fun b z => ?_, fun H' v cv st rv nv => ?_⟩
                  · by_cases y : e1' b = 0
                    · exact q5 b (by have z' : e1' b + cr b ≠ 0 := z; omega)
                    · exact r1.mu b y
                  · obtain ⟨t1, t2⟩ := q4 H' v cv (fun d hd => st d fun b => Nat.le_trans (hd b) (Nat.le_add_left _ _)) rv nv
                    refine ⟨.cons (r1.stay nn.1 (st _ fun b => Nat.le_add_right _ _) (fun _ h => h) (fun _ h => h) Pre.refl) t1 fun b => by show cv b + (e1' b + cr b) = e1' b + (cv b + cr b); omega, ?_⟩
                    show (noTr w && noTrs (hp.set n v)) = true
                    rw [nn.1, t2]; rfl
        obtain ⟨cn, cr, q1, q2, q3, q5, q4⟩ := take h2 h3 ec hn
        cases q1 with
        | own h ho rr hcc =>
          rename_i o xsV cx
          have ntx : noTrs xs = true := by unfold noTr at q2; simp only [Bool.and_eq_true] at q2; exact q2.2
          refine ⟨a, o, xsV, cx, e1, h, ho, rr, ntx, fun b => by rw [h4, q3, hcc]; simp only [oneD]; omega, fun c9 k' ys ysV cy o' le hF hy ry nty ho' => ?_⟩
          have hm : MutO (H a) := by rw [h]; exact hoOf_mut ho
          have da : cn a = 1 + cx a := by rw [hcc]; simp
          have ca1 : c1 a = 1 := by have := r.le a; have := h4 a; have := q3 a; omega
          have nd : ∀ (d : Addr → Nat), (∀ b, d b ≤ c9 b + s1 b + cr b + cx b) → ∀ b, F b ∨ T b ∨ d b ≠ 0 → b ≠ a := fun d hd b q eb => by
            subst eb
            rcases q with q | q | q
            · have := (r.fr b (.inl q)).1; omega
            · have := (r.fr b (.inr q)).1; omega
            · have := hd b; have := le b; have := h4 b; have := q3 b; omega
          have ry3 := ry.stay nty (stay_wr (o := o') (nd cy fun b => by have := hy b; omega) hm) (fun _ h => h) (fun _ h => h) Pre.refl
          have rn : Rep K mg (upd H a o') F T as (.nd .own k' ys) (.ref a) (fun b => oneD a b + cy b) := .own upd_same ho' ry3 fun b => rfl
          have nt2 : noTr (.nd .own k' ys) = true := by unfold noTr; simp only [Bool.and_eq_true]; exact ⟨by decide, nty⟩
          obtain ⟨t1, t2⟩ := q4 (upd H a o') (.nd .own k' ys) _ (fun d hd => stay_wr (nd d fun b => by have := hd b; omega) hm) rn nt2
          have t0 := h1.stay (stay_wr (o := o') (nd s1 fun b => by omega) hm) (fun _ h => h) (fun _ h => h) Pre.refl
          refine ⟨fun b => s1 b + ((oneD a b + cy b) + cr b), ⟨⟨s1, _, ?_, ?_, ?_, fun _ => rfl⟩, fun b => ?_, fun b q => ⟨?_, ?_⟩, ?_⟩, fun b => ?_⟩
          · unfold putN; rw [es]; exact t0
          · unfold putN; rw [es]; exact t1
          · unfold putN; rw [es]; exact t2
          · show s1 b + ((oneD a b + cy b) + cr b) ≤ 1
            have := le b; have := hy b; have := h4 b; have := q3 b; have := hcc b; simp only [oneD]; omega
          · show s1 b + ((oneD a b + cy b) + cr b) = 0
            have := (r.fr b q).1; have := hF b q; have := hy b; have := h4 b; have := q3 b; have := hcc b; simp only [oneD]; omega
          · rw [upd_ne (nd (fun _ => 0) (fun b => Nat.zero_le _) b (q.elim .inl fun z => .inr (.inl z)))]; exact (r.fr b q).2
          · unfold putN; rw [es]; exact r.lk
          · show s1 b + ((oneD a b + cy b) + cr b) + cx b = c1 b + cy b
            rw [h4, q3, hcc]; simp only [oneD]; omega
    · cases e
  · cases e
end
theorem EI.mut {K : PySem.W.Frag} {mg : Str → Option Value} {W : WX} {i : Nat} {p : Kd → Bool} {fs : List E} {g : Mu} {r : V → List V → Hp → VK → Prop} {σ : L2.St} {H : Hp} {Q : VK} (h : EI K mg W (mutE i p fs g) σ H Q) (hg : GMu K mg g r) :
    ∃ a, σ[i]? = some (some (.ref a)) ∧ (∃ k xsV o, p k = true ∧ H a = some o ∧ hoOf mg k xsV o) ∧ AI K mg W fs σ H fun xs H2 => r (.ref a) xs H2 Q := by
  obtain ⟨F0, T, as0, L, st0, c0, r0, q⟩ := h
  unfold mutE at q
  split at q
  · rename_i k0 ws0 e0
    split at q
    · rename_i hp
      obtain ⟨a, o, xsV, cx, es, ha, ho, _, _, _, _⟩ := r0.node e0
      refine ⟨a, es, ⟨k0, xsV, o, hp, ha, ho⟩, F0, T, as0, L, st0, c0, r0, ?_⟩
      cases e1 : evs fs st0 with
      | bad => rw [e1] at q; exact q
      | exc cl s => rw [e1] at q; exact q
      | ok z =>
        obtain ⟨vs, st1, f1⟩ := z
        rw [e1] at q
        simp only at q
        intro F1 as1 H2 xs c1 ca r1 rv s1 p1 ef
        split at q
        · rename_i k ws e2
          split at q
          · rename_i res k' ys e3
            split at q
            · rename_i hc
              simp only [Bool.and_eq_true] at hc
              obtain ⟨a2, o2, wsV, cx2, es2, ha2, ho2, rw2, nw, kx, up⟩ := r1.node e2
              have ea : a2 = a := by rw [es] at es2; cases es2; rfl
              subst ea
              have tz : ∀ b, T b → c1 b + ca b = 0 := fun b z => by
                have h0 := r0.fr b (.inr z)
                by_cases y : c1 b + ca b = 0
                · exact y
                · rcases s1.grow b y with w | w
                  · exact absurd h0.1 w
                  · exact absurd w h0.2
              refine hg H2 F1 T as1 vs xs ca k ws wsV cx2 a2 o2 res k' ys Q rv rw2 ha2 ho2 e3 fun ysV cy x cr o' ry rr ho' hle => ?_
              have le1 : ∀ b, c1 b + ca b ≤ 1 := s1.le
              have dis1 : ∀ b, F1 b → c1 b + ca b = 0 := s1.dis
              obtain ⟨c', r', hc'⟩ := up ca k' ys ysV cy o' le1 (fun b z => by
                rcases z with z | z
                · have := dis1 b z; omega
                · have := tz b z; omega) (fun b => by have := hle b; omega) ry (noTrs_of_stors hc.1) ho'
              have hm : MutO (H2 a2) := by rw [ha2]; exact hoOf_mut ho2
              have oa : oneD a2 a2 = 1 := if_pos rfl
              have nda : ∀ (d : Addr → Nat), (∀ b, d b ≤ cx2 b + ca b) → ∀ b, F1 b ∨ T b ∨ d b ≠ 0 → b ≠ a2 := fun d hd b z eb => by
                subst eb
                have k1 := kx b
                rcases z with z | z | z
                · have := dis1 b z; omega
                · have := tz b z; omega
                · have := hd b; have := le1 b; omega
              have rr' := rr.stay hc.2 (stay_wr (o := o') (nda cr fun b => by have := hle b; omega) hm) (fun _ h => h) (fun _ h => h) Pre.refl
              refine q F1 as1 (upd H2 a2 o') x c' cr r' rr' ⟨fun b u e z => ?_, fun b z => s1.grow b ?_, fun b => ?_, s1.sub, fun b z => ?_, s1.fgr, fun b z => ?_⟩ p1 fun z => nomatch z
              · have e2' := s1.keep b u e z
                rw [upd_ne ?_]
                · exact e2'
                · rintro rfl
                  have k1 := kx b
                  rcases s1.grow b (by show c1 b + ca b ≠ 0; omega) with w | w
                  · exact w z
                  · rw [e] at w; cases w
              · have z' : c' b + cr b ≠ 0 := z
                have := hc' b; have := hle b; have := kx b
                show c1 b + ca b ≠ 0
                omega
              · show c' b + cr b ≤ 1
                have := hc' b; have := hle b; have := kx b; have := le1 b
                omega
              · show c' b + cr b = 0
                have := hc' b; have := hle b; have := kx b; have := dis1 b z
                omega
              · by_cases y : b = a2
                · rw [y, upd_same]; exact fun w => nomatch w
                · rw [upd_ne y]; exact s1.trk b z
            · exact (show False from q).elim
          · exact (show False from q).elim
        · exact (show False from q).elim
    · exact (show False from q).elim
  · exact (show False from q).elim
end PyI

namespace PyI
open PySem PySem.Spec PyProof.Rows L2

def muApp : Mu
  | [v], .lst, xs => if xs.length < sizeLine then some (.non, .lst, xs ++ [v]) else none
  | _, _, _ => none
def muPop : Mu
  | [], .lst, xs => (xs[xs.length - 1]?).map fun v => (v, .lst, xs.dropLast)
  | _, _, _ => none
def muPopAt : Mu
  | [.int i], .lst, xs => if inB 9223372036854775807 i then (ixN xs.length i).bind fun k => (xs[k]?).map fun v => (v, .lst, xs.eraseIdx k) else none
  | _, _, _ => none
def muClear : Mu
  | [], .lst, _ => some (.non, .lst, [])
  | _, _, _ => none
def muRev : Mu
  | [], .lst, xs => some (.non, .lst, xs.reverse)
  | _, _, _ => none
/-- o[i] = v: the value, then the place -/
def muSet : Mu
  | [v, .int i], .lst, xs => (ixN xs.length i).map fun k => (.non, .lst, xs.set k v)
  | _, _, _ => none
section
variable {K : PySem.W.Frag} {mg : Str → Option Value} {H : Hp} {F T : Addr → Prop} {as : List Addr}
theorem Reps.dropLast : ∀ {vs : List Vl} {xs : List V} {c : Addr → Nat} {v : Vl}, Reps K mg H F T as vs xs c → vs[vs.length - 1]? = some v → ∃ x c1 c2, xs[xs.length - 1]? = some x ∧ Rep K mg H F T as v x c1 ∧ Reps K mg H F T as vs.dropLast xs.dropLast c2 ∧ ∀ b, c b = c1 b + c2 b
  | _, _, _, _, .nil hc, e => by simp at e
  | _, _, _, _, .cons r (.nil h0) hc, e => by
    simp at e
    subst e
    exact ⟨_, _, fun _ => 0, rfl, r, .nil fun _ => rfl, fun b => by rw [hc, h0]⟩
  | _, _, c, v, .cons (v := w) (c1 := c0) r (.cons (v := w2) (x := x2) (vs := ws) (xs := xs) r2 s h2) hc, e => by
    obtain ⟨x, c1, c2, e1, r1, r3, k⟩ := Reps.dropLast (v := v) (Reps.cons r2 s h2) (by simpa using e)
    refine ⟨x, c1, fun b => c0 b + c2 b, by simpa using e1, r1, .cons r r3 fun _ => rfl, fun b => by show c b = c1 b + (c0 b + c2 b); rw [hc, k]; omega⟩
theorem Reps.eraseIdx : ∀ {vs : List Vl} {xs : List V} {c : Addr → Nat} {k : Nat} {v : Vl}, Reps K mg H F T as vs xs c → vs[k]? = some v → ∃ x c1 c2, xs[k]? = some x ∧ Rep K mg H F T as v x c1 ∧ Reps K mg H F T as (vs.eraseIdx k) (xs.eraseIdx k) c2 ∧ ∀ b, c b = c1 b + c2 b
  | _, _, _, _, _, .nil hc, e => by simp at e
  | _, _, _, 0, _, .cons r s hc, e => by
    simp at e
    subst e
    exact ⟨_, _, _, rfl, r, s, hc⟩
  | _, _, c, k + 1, _, .cons (c1 := c0) r s hc, e => by
    obtain ⟨x, c1, c2, e1, r1, r3, h⟩ := s.eraseIdx (k := k) (by simpa using e)
    exact ⟨x, c1, fun b => c0 b + c2 b, by simpa using e1, r1, .cons r r3 fun _ => rfl, fun b => by show c b = c1 b + (c0 b + c2 b); rw [hc, h]; omega⟩
theorem Reps.set : ∀ {vs : List Vl} {xs : List V} {c d : Addr → Nat} {k : Nat} {v : Vl} {x : V}, Reps K mg H F T as vs xs c → Rep K mg H F T as v x d → ∃ c', Reps K mg H F T as (vs.set k v) (xs.set k x) c' ∧ ∀ b, c' b ≤ c b + d b
  | _, _, _, _, _, _, _, .nil hc, r => ⟨_, .nil hc, fun b => Nat.le_add_right _ _⟩
  | _, _, _, d, 0, _, _, .cons r s hc, r' => ⟨_, .cons r' s fun _ => rfl, fun b => by rw [hc]; omega⟩
  | _, _, _, _, k + 1, _, _, .cons r s hc, r' => by
    obtain ⟨c', h1, h2⟩ := s.set (k := k) r'
    exact ⟨_, .cons r h1 fun _ => rfl, fun b => by rw [hc]; have := h2 b; omega⟩
theorem gmu_app : GMu K mg muApp rAppend := by
  intro H F T as vs xs ca k ws wsV cx a o res k' ys Q rv rw_ ha ho e fin
  unfold muApp at e
  split at e
  · split at e
    · rename_i hz
      cases e
      cases ho
      obtain ⟨x, rfl, r1⟩ := rv.inv1
      refine ⟨a, wsV, x, rfl, rfl, ha, by rw [← rw_.length]; exact hz, ?_⟩
      exact fin _ _ _ _ _ (rw_.append (.cons r1 (.nil fun _ => rfl) fun _ => rfl)) Rep.non' rfl fun b => by show cx b + (ca b + 0) + 0 ≤ cx b + ca b; omega
    · cases e
  · cases e
theorem gmu_pop : GMu K mg muPop rPop := by
  intro H F T as vs xs ca k ws wsV cx a o res k' ys Q rv rw_ ha ho e fin
  unfold muPop at e
  split at e
  · obtain ⟨v, e1, e2⟩ := Option.map_eq_some_iff.mp e
    cases e2
    cases ho
    cases rv with
    | nil h0 =>
      obtain ⟨x, c1, c2, e3, r1, r2, h⟩ := rw_.dropLast e1
      exact ⟨a, wsV, x, rfl, rfl, ha, e3, fin _ _ _ _ _ r2 r1 rfl fun b => by rw [h]; omega⟩
  · cases e
theorem ixN_ok {n : Nat} {i : Int} {j : Nat} (h : ixN n i = some j) : seqIndex? i n = some j := (ixN_seq h).1
theorem gmu_popAt : GMu K mg muPopAt rPopAt := by
  intro H F T as vs xs ca k ws wsV cx a o res k' ys Q rv rw_ ha ho e fin
  unfold muPopAt at e
  split at e
  · split at e
    · rename_i hb
      simp only [inB_eq] at hb
      obtain ⟨j, e0, e⟩ := Option.bind_eq_some_iff.mp e
      obtain ⟨v, e1, e2⟩ := Option.map_eq_some_iff.mp e
      cases e2
      cases ho
      obtain ⟨x0, rfl, r0⟩ := rv.inv1
      cases r0.inv_int
      obtain ⟨x, c1, c2, e3, r1, r2, h⟩ := rw_.eraseIdx e1
      exact ⟨a, wsV, _, j, x, rfl, rfl, ha, by omega, by omega, by rw [← rw_.length]; exact ixN_ok e0, e3, fin _ _ _ _ _ r2 r1 rfl fun b => by rw [h]; omega⟩
    · cases e
  · cases e
theorem gmu_clear : GMu K mg muClear rClear := by
  intro H F T as vs xs ca k ws wsV cx a o res k' ys Q rv rw_ ha ho e fin
  unfold muClear at e
  split at e
  · cases e
    cases ho
    cases rv with
    | nil h0 => exact ⟨a, wsV, rfl, rfl, ha, fin _ _ _ _ _ (.nil fun _ => rfl) Rep.non' rfl fun b => Nat.zero_le _⟩
  · cases e
theorem gmu_rev : GMu K mg muRev rReverse := by
  intro H F T as vs xs ca k ws wsV cx a o res k' ys Q rv rw_ ha ho e fin
  unfold muRev at e
  split at e
  · cases e
    cases ho
    cases rv with
    | nil h0 => exact ⟨a, wsV, rfl, rfl, ha, fin _ _ _ _ _ rw_.reverse Rep.non' rfl fun b => by show cx b + 0 ≤ _; omega⟩
  · cases e
/-- a store by place, as a rule of a method's form -/
def rSetM (o : V) (xs : List V) (H : Hp) (Q : VK) : Prop := ∃ v i, xs = [v, i] ∧ rSetL o i v H (fun H' => Q .non H')
theorem gmu_set : GMu K mg muSet rSetM := by
  intro H F T as vs xs ca k ws wsV cx a o res k' ys Q rv rw_ ha ho e fin
  unfold muSet at e
  split at e
  · obtain ⟨j, e1, e2⟩ := Option.map_eq_some_iff.mp e
    cases e2
    cases ho
    obtain ⟨x, y, c1, c2, rfl, r1, r2, hcc⟩ := rv.inv2
    cases r2.inv_int
    obtain ⟨c', r3, k3⟩ := rw_.set (k := j) r1
    exact ⟨x, _, rfl, a, wsV, _, j, rfl, rfl, ha, by rw [← rw_.length]; exact e1, fin _ _ _ _ _ r3 Rep.non' rfl fun b => by rw [hcc]; have := k3 b; omega⟩
  · cases e
end
section
variable {X : Cx} {x m : Str} {p0 apos cpos pos : Pos} {i : Nat} {e : Expr} {es : List Expr} {fs : List E} {f fi : E} {g : Mu} {id : String}
theorem tyL {K : PySem.W.Frag} {mg : Str → Option Value} {H : Hp} {a : Addr} (h : ∃ k xsV o, isL k = true ∧ H a = some o ∧ hoOf mg k xsV o) : tyV K "list" (.ref a) H := by
  obtain ⟨k, xsV, o, hk, ha, ho⟩ := h
  cases k with
  | lst => cases ho; exact .inl ⟨rfl, _, SqL.of ha⟩
  | _ => cases hk
/-- x.m(..), x a slot's list -/
theorem EOk.meth {r : V → List V → Hp → VK → Prop} (hN : X.N[i]? = some x) (hv : Vis X.env.scope x) (hd : (x == ("__debug__" : Str)) = false) (hcd : (x == ("__classdict__" : Str)) = false) (slot : Slot "list" m id) (hty : typeOf (.builtin id) = pure (.type "method_descriptor")) (hm : MtR X id r) (hg : GMu X.K X.mg g r) (ha : AOk X (e :: es) fs)
    (hbase : attributeBase (.Name x p0) m X.env (eval (.Name x p0) X.env) = eval (.Name x p0) X.env := by rfl)
    (hfew : ((backTo cpos (starEach (e :: es) X.env)).all (fun x => !x.1) && (backToKw cpos (keywordEach [] X.env)).all (fun x => x.1.isSome)
      && decide ((e :: es).length + ([] : List Keyword).length + (if ([] : List Keyword).isEmpty then 0 else 1) < 30)) = true := by rfl)
    (hline : (apos.endLine == cpos.line) = true := by rfl) (hs : starEach (e :: es) X.env = (false, eval e X.env) :: starEach es X.env := by rfl) (hplain : (backTo cpos (starEach es X.env)).any (·.1) = false := by rfl) :
    EOk X (.Call (.Attribute (.Name x p0) m apos) (e :: es) [] cpos) (mutE i isL fs g) := fun W t =>
  (pe_bm PySem.F.plainAttrs_list slot hty hm (pe_var hN hv hd hcd) (ha W t) hbase hfew hline hs hplain).imp fun σ H Q h => by
    obtain ⟨a, es, ty, q⟩ := h.mut hg
    exact ⟨_, es, tyL ty, q⟩
theorem EOk.meth0 {r : V → List V → Hp → VK → Prop} (hN : X.N[i]? = some x) (hv : Vis X.env.scope x) (hd : (x == ("__debug__" : Str)) = false) (hcd : (x == ("__classdict__" : Str)) = false) (slot : Slot "list" m id) (hty : typeOf (.builtin id) = pure (.type "method_descriptor")) (hm : MtR X id r) (hg : GMu X.K X.mg g r)
    (hbase : attributeBase (.Name x p0) m X.env (eval (.Name x p0) X.env) = eval (.Name x p0) X.env := by rfl) (hline : (apos.endLine == cpos.line) = true := by rfl) :
    EOk X (.Call (.Attribute (.Name x p0) m apos) [] [] cpos) (mutE i isL [] g) := fun W t =>
  (pe_bm0 PySem.F.plainAttrs_list slot hty hm (pe_var hN hv hd hcd) hbase hline).imp fun σ H Q h => by
    obtain ⟨a, es, ty, q⟩ := h.mut hg
    exact ⟨_, es, tyL ty, q.nil⟩
/-- x[i] = e -/
theorem SOk.setItem {ei : Expr} {q0 : Pos} (hN : X.N[i]? = some x) (hv : Vis X.env.scope x) (hd : (x == ("__debug__" : Str)) = false) (hcd : (x == ("__classdict__" : Str)) = false) (he : EOk X e f) (hi : EOk X ei fi)
    (ha : ∀ v, assign (.Subscript (.Name x p0) ei q0) X.env v = (do
      let ov ← holding [v] (eval (.Name x p0) X.env)
      let iv ← holding [v, ov] (eval ei X.env)
      standAt q0
      holding [v, ov, iv] (setItem ov iv v)
      release [v, ov, iv] []) := by intro _; rfl)
    (hs : swapsWithSole [.Subscript (.Name x p0) ei q0] e pos.line X.env = pure false := by rfl) (hw : swappedStores [.Subscript (.Name x p0) ei q0] e X.env = pure none := by rfl)
    (h1 : (assignEach [.Subscript (.Name x p0) ei q0] X.env).map (·.2) = [assign (.Subscript (.Name x p0) ei q0) X.env] := by rfl) :
    SOk X (.Assign [.Subscript (.Name x p0) ei q0] e pos) (expC (mutE i isL [f, fi] muSet)) := fun W t =>
  (ps_asg (he W t) (pg_sub (pe_var hN hv hd hcd) (hi W t) set_list ha) hs hw h1).imp fun D σ H h => by
    have h2 : EI X.K X.mg W (mutE i isL [f, fi] muSet) σ H (fun _ H1 => D.nx σ H1) := h.bind.mono fun x H1 ⟨F, T, as, L, v, st, c1, c2, r1, rv, p⟩ => p F as σ H1 c1 r1.r (r1.s.less fun b => Nat.le_add_right _ _) Pre.refl
    obtain ⟨a, es, _, q⟩ := h2.mut gmu_set
    refine q.two.mono fun y H1 q => ⟨_, es, q.mono fun z H2 ⟨v, i, e1, q⟩ => ?_⟩
    cases e1
    exact q
end

/-! ### while -/
def whileC (t : E) (f : C) : Nat → C
  | 0 => fun _ => .bad
  | n + 1 => fun st => match t st with
    | .ok (.bl true, st1, _) => (match f st1 with
      | .nx st2 => whileC t f n st2
      | .ct st2 => whileC t f n st2
      | .bk st2 => .nx st2
      | z => z)
    | .ok (.bl false, st1, _) => .nx st1
    | .ok _ => .bad
    | .exc cl s => .exc cl s
    | .bad => .bad
section
variable {X : Cx} {c : Expr} {body : List Stmt} {fc : E} {f : C} {pos : Pos}
theorem SOk.while_ (n : Nat) (hp : PassesOwn (model X.prog X.w) X.A X.env X.xe) (hc : TOk X c fc) (hb : SsOk X body f) : SOk X (.While c body [] pos) (whileC fc f n) := fun W t => (ps_while hp (hc W t) (hb W t)).imp fun D σ H h => by
  refine ⟨fun m σ H => SI X.K X.mg W (whileC fc f m) D σ H, ⟨n, h⟩, fun m σ H h => ?_⟩
  obtain ⟨F, T, as, L, st, c0, r, p⟩ := h
  refine ⟨F, T, as, L, st, c0, r, ?_⟩
  cases m with
  | zero => exact (show False from p).elim
  | succ m =>
    unfold whileC at p
    cases e1 : fc st with
    | bad => rw [e1] at p; exact p
    | exc cl s => rw [e1] at p; exact p
    | ok q =>
      obtain ⟨v, st1, f1⟩ := q
      rw [e1] at p
      intro F1 as1 H1 x c1 c2 r1 rv s1 p1 ef
      cases v with
      | bl b =>
        have z0 : ∀ b, c2 b = 0 := Rep.none0 rv rfl
        have s1' : Step F c0 H F1 c1 H1 := s1.less fun b => Nat.le_add_right _ _
        refine ⟨b, rv.inv_bl, ?_⟩
        cases b with
        | false =>
          rw [if_neg Bool.false_ne_true]
          exact p F1 as1 σ H1 c1 r1 s1' p1
        | true =>
          rw [if_pos rfl]
          refine ⟨fun σ' H' => ∃ m', m' < m + 1 ∧ SI X.K X.mg W (whileC fc f m') D σ' H', fun _ _ h => h, F1, T, as1, L, st1, c1, r1, ?_⟩
          simp only at p
          have pb := SPost.back p s1' p1
          cases e3 : f st1 with
          | bad => rw [e3] at pb; exact (show False from pb).elim
          | exc cl s => rw [e3] at pb; exact pb
          | rt v s => rw [e3] at pb; exact pb
          | bk s => rw [e3] at pb; exact pb
          | nx s => rw [e3] at pb; exact fun F2 as2 σ2 H2 c2 r2 s2 p2 => ⟨m, Nat.lt_succ_self _, F2, T, as2, L, s, c2, r2, SPost.back pb s2 p2⟩
          | ct s => rw [e3] at pb; exact fun F2 as2 σ2 H2 c2 r2 s2 p2 => ⟨m, Nat.lt_succ_self _, F2, T, as2, L, s, c2, r2, SPost.back pb s2 p2⟩
      | _ => exact (show False from p).elim
end

/-! ### name op= e, of whole numbers -/
def augE (g : List Vl → Option Vl) (i : Nat) (f : E) : E := opE g [varE i, f]
def gAddI : List Vl → Option Vl := i2c (fun _ _ => true) fun i j => .int (i + j)
section
variable {X : Cx} {x : Str} {e : Expr} {f : E} {i : Nat} {pos' pos : Pos} {op : Operator}
theorem SOk.aug {h : Int → Int → Int} (hN : X.N.Nodup) (hi : X.N[i]? = some x) (hx : Loc X.env.scope x) (he : EOk X e f) (ho : PIp X op (ipI h)) (hf : X.fn x = true ∨ X.env.scope.names.lookup x = some .local := by first | exact .inl rfl | exact .inr rfl | assumption) :
    SOk X (.AugAssign (.Name x pos') op e pos) (asgC (tgN i) (augE (i2c (fun _ _ => true) fun i j => .int (h i j)) i f)) := fun W t => (ps_aug hN hi hx (he W t) ho hf).imp fun D σ H hh => by
  have h1 := (SOk.asg_of hh)
  have h2 := (EI.op h1 gop_i2').two
  -- the name's value
  obtain ⟨F, T, as, L, st, c, r, p⟩ := h2
  unfold varE at p
  split at p
  · rename_i n e0
    split at p
    · rename_i w ew
      obtain ⟨y, c1, c2, e1, r1, n1, r2, k⟩ := r.slot e0
      obtain ⟨a, c3, ea, r3, _⟩ := r.cell ew
      cases r1 with
      | ref hh hc =>
        rw [hh] at ea
        cases ea
        have q := p F as H _ c (fun _ => 0) r r3.peek r.refl Pre.refl fun _ => ⟨Same.refl H, rfl, fun _ h => h⟩
        refine ⟨_, e1, q.mono fun z H2 ⟨x', y', ex, a', b', ea', eb', g⟩ => ?_⟩
        cases ex
        cases ea'
    · exact (show False from p).elim
  · rename_i v ne e0
    obtain ⟨y, c1, c2, e1, r1, n1, r2, k⟩ := r.slot e0
    have q := p F as H _ c (fun _ => 0) r r1.peek r.refl Pre.refl fun _ => ⟨Same.refl H, rfl, fun _ h => h⟩
    refine ⟨_, e1, q.mono fun z H2 ⟨x', y', ex, a', b', ea', eb', g⟩ => ?_⟩
    cases ex
    refine ⟨a', b', ea', eb', ?_⟩
    obtain ⟨F, T, as, L, st, v, c1, c2, fl, rv, st', e, q⟩ := g
    unfold tgN at e
    split at e
    · rename_i hc
      cases e
      simp only [Bool.and_eq_true, decide_eq_true_eq, Bool.not_eq_true'] at hc
      obtain ⟨c', r', k'⟩ := fl.store rv hc.1.1 hc.1.2 hc.2
      exact q _ c' r' k'
    · cases e
  · exact (show False from p).elim
end

/-! ### isinstance -/
def tyNm : Vl → Option String
  | .non => some "NoneType"
  | .bl _ => some "bool"
  | .int _ => some "int"
  | .str _ => some "str"
  | .tup _ => some "tuple"
  | .nd _ .lst _ => some "list"
  | .nd _ (.dK _) _ => some "dict"
  | .nd .own (.dT _) _ => some "dict"
  | _ => none
def isiB (a b : String) : Bool := a == b || (a == "bool" && b == "int") || b == "object"
def isiT : String → Bool := fun b => b == "int" || b == "bool" || b == "str" || b == "list" || b == "tuple" || b == "dict"
def gIsi : List Vl → Option Vl
  | [v, .sym (.ty b)] => if isiT b then (tyNm v).map fun a => .bl (isiB a b) else none
  | _ => none
theorem kit_tab : ∀ a ∈ ["NoneType", "bool", "int", "str", "tuple", "list", "dict"], ∀ b ∈ ["int", "bool", "str", "list", "tuple", "dict"], kitB a b = some (isiB a b) := by decide +kernel
theorem tyNm_mem {v : Vl} {a : String} (h : tyNm v = some a) : a ∈ ["NoneType", "bool", "int", "str", "tuple", "list", "dict"] := by
  unfold tyNm at h
  split at h <;> first | (cases h; decide) | cases h
theorem isiT_mem {b : String} (h : isiT b = true) : b ∈ ["int", "bool", "str", "list", "tuple", "dict"] := by
  unfold isiT at h
  simp only [Bool.or_eq_true, beq_iff_eq] at h
  rcases h with ((((h | h) | h) | h) | h) | h <;> (subst h; decide)
section
variable {K : PySem.W.Frag} {mg : Str → Option Value} {H : Hp} {F T : Addr → Prop} {as : List Addr}
theorem Rep.tyx {v : Vl} {x : V} {c : Addr → Nat} {a : String} (r : Rep K mg H F T as v x c) (h : tyNm v = some a) : TyX K H x (.type a) := by
  have tq : ∀ {b : Addr} {xs : List V}, SqT K H b xs → TyX K H (.ref b) (.type "tuple") := fun {b xs} q => by
    rcases q with (q | ⟨o, q⟩) | ⟨o, its, n, q, hc, _⟩
    · exact .base (.tup q)
    · exact .fTuple q
    · exact .kTuple q hc
  have lq : ∀ {b : Addr} {xs : List V}, SqL K H b xs → TyX K H (.ref b) (.type "list") := fun {b xs} q => by
    rcases q with (q | ⟨o, q⟩) | ⟨o, its, n, q, hc, _⟩
    · exact .base (.lst q)
    · exact .base (.frz q)
    · exact .kList q hc
  unfold tyNm at h
  split at h
  · cases h; cases r; exact .base .non
  · cases h; cases r; exact .base (.bl _)
  · cases h; cases r; exact .base (.int _)
  · cases h; cases r; exact .base (.str _)
  · cases h
    obtain ⟨b, xs, rfl, q, _⟩ := r.inv_tup
    exact tq q
  · cases h
    obtain ⟨b, xs, c', rfl, q, _⟩ := r.inv_lst
    exact lq q
  · cases h
    have dq : ∀ {a : Addr} {k : List Key} {xs : List V}, (∃ o, hoOf mg (.dK k) xs o ∧ L2.Rd H a o) → TyX K H (.ref a) (.type "dict") := fun {a k xs} ⟨o, ho, q⟩ => by
      obtain ⟨_, rfl⟩ := ho
      rcases q with q | ⟨u, q⟩
      · exact .base (.dK q)
      · exact .fDict q
    cases r with
    | own h ho r hc => obtain ⟨_, rfl⟩ := ho; exact .base (.dK h)
    | sh h r hc =>
      rcases h with ⟨_, h⟩ | ⟨h, _⟩
      · exact dq h
      · cases h
    | bw h r hc =>
      rcases h with ⟨_, h⟩ | ⟨h, _⟩
      · exact dq h
      · cases h
    | tr h r hc =>
      rcases h with h | ⟨h, _⟩
      · exact dq h
      · cases h
  · cases h
    cases r with
    | own h ho r hc => obtain ⟨_, rfl⟩ := ho; exact .base (.dT h)
  · cases h
theorem gop_isi : GOp K mg gIsi (rIsi K) := by
  intro H F T as vs xs c v Q r hl e fin
  unfold gIsi at e
  split at e
  · split at e
    · rename_i w b hb
      obtain ⟨a, e1, e2⟩ := Option.map_eq_some_iff.mp e
      subst e2
      obtain ⟨x, y, c1, c2, rfl, r1, r2, _⟩ := r.inv2
      cases r2 with
      | sym hs hc =>
        cases hs
        exact ⟨x, _, _, _, isiB a b, rfl, .ty b, r1.tyx e1, kit_ty (kit_tab a (tyNm_mem e1) b (isiT_mem hb)), fin.bl⟩
    · cases e
  · cases e
end
section
variable {X : Cx} {e e2 : Expr} {fs : List E} {p pos : Pos}
theorem EOk.ty {x : Str} {n : String} (hg : Gl X x) (hm : X.mg x = none) (hv : bootBuiltins x = some (.type n)) (hn : x ≠ "__name__" := by decide) (hd : (x == ("__debug__" : Str)) = false := by decide) : EOk X (.Name x pos) (cstE (.sym (.ty n))) :=
  .cst (pe_bltn (v := .ty n) hg hm hv rfl hn hd) fun _ _ _ _ => .sym rfl fun _ => rfl
theorem EOk.isi (hm : X.mg "isinstance" = none) (ha : AOk X [e, e2] fs) (hgl : Gl X "isinstance" := by rfl) (he : starEach [e, e2] X.env = (false, eval e X.env) :: starEach [e2] X.env := by rfl) (hpl : (backTo pos (starEach [e2] X.env)).any (·.1) = false := by rfl) : EOk X (.Call (.Name "isinstance" p) [e, e2] [] pos) (opE gIsi fs) :=
  .callB call_isi gop_isi hgl hm (by decide +kernel) ha (by decide) (by decide) he hpl
end

/-! ### a <= b <= c -/
def chainE (g1 g2 : Int → Int → Bool) (fa fb fc : E) : E := fun st => match evs [fa, fb] st with
  | .ok ([.int i, .int j], st1, e1) => if g1 i j then (match fc st1 with
      | .ok (.int k, st2, e2) => .ok (.bl (g2 j k), st2, e1 || e2)
      | .ok _ => .bad
      | .exc c s => .exc c s
      | .bad => .bad) else .ok (.bl false, st1, e1)
  | .ok _ => .bad
  | .exc c s => .exc c s
  | .bad => .bad
section
variable {K : PySem.W.Frag} {mg : Str → Option Value} {W : WX} {σ : L2.St} {H : Hp} {Q : VK}
theorem EI.chain {g1 g2 : Int → Int → Bool} {fa fb fc : E} (h : EI K mg W (chainE g1 g2 fa fb fc) σ H Q) : tChain (rI0 fun i j => .bl (g1 i j)) (rI0 fun i j => .bl (g2 i j)) (EI K mg W fa) (EI K mg W fb) (EI K mg W fc) σ H Q := by
  have h2 : AI K mg W [fa, fb] σ H fun xs H1 => ∃ i j, xs = [.int i, .int j] ∧ if g1 i j = true then EI K mg W fc σ H1 (fun z H2 => ∃ k, z = .int k ∧ Q (.bl (g2 j k)) H2) else Q (.bl false) H1 := by
    obtain ⟨F, T, as, L, st, c0, r0, p⟩ := h
    refine ⟨F, T, as, L, st, c0, r0, ?_⟩
    unfold chainE at p
    cases e1 : evs [fa, fb] st with
    | bad => rw [e1] at p; exact p
    | exc cl s => rw [e1] at p; exact p
    | ok q =>
      obtain ⟨vs, st1, f1⟩ := q
      rw [e1] at p
      intro F1 as1 H1 xs c1 c r1 rv s1 p1 ef
      split at p
      · rename_i i j st1' f1' eq
        cases eq
        obtain ⟨x, y, d1, d2, rfl, ra, rb, hcc⟩ := rv.inv2
        refine ⟨i, j, by rw [ra.inv_int, rb.inv_int], ?_⟩
        have s1' : Step F c0 H F1 c1 H1 := s1.less fun b => Nat.le_add_right _ _
        split at p
        · rename_i hg
          rw [if_pos hg]
          refine ⟨F1, T, as1, L, st1, c1, r1, ?_⟩
          cases e3 : fc st1 with
          | bad => rw [e3] at p; exact (show False from p).elim
          | exc cl s => rw [e3] at p; exact XPost.back p r1 (cv := fun _ => 0) (fun b q => absurd rfl q) s1' p1
          | ok q =>
            obtain ⟨w, st2, f2⟩ := q
            rw [e3] at p
            cases w with
            | int k =>
              intro F2 as2 H2 z c3 c4 r2 rz s2 p2 ef2
              refine ⟨k, rz.inv_int, p F2 as2 H2 _ c3 (fun _ => 0) r2 Rep.bl' ((s1'.trans s2).less fun b => by show c3 b + 0 ≤ c3 b + c4 b; omega) (p1.trans p2) fun q => ?_⟩
              have q' : (f1 || f2) = false := q
              have q1 : f1 = false := by cases f1 with | false => rfl | true => simp at q'
              have q2 : f2 = false := by cases f2 with | false => rfl | true => simp [q1] at q'
              exact ⟨(ef q1).1.trans (ef2 q2).1, (ef2 q2).2.1.trans (ef q1).2.1, fun b h => (ef q1).2.2 b ((ef2 q2).2.2 b h)⟩
            | _ => exact (show False from p).elim
        · rename_i hg
          rw [if_neg hg]
          exact p F1 as1 H1 _ c1 (fun _ => 0) r1 Rep.bl' s1' p1 ef
      · exact (show False from p).elim
      · rename_i eq; cases eq
      · rename_i eq; cases eq
  refine h2.two.mono fun x H1 h => h.mono fun y H2 ⟨i, j, e, q⟩ => ?_
  cases e
  refine ⟨i, j, rfl, rfl, g1 i j, rfl, ?_⟩
  by_cases hg : g1 i j = true
  · rw [if_pos hg] at q ⊢
    exact q.mono fun z H2 ⟨k, e, q⟩ => ⟨j, k, rfl, e, q⟩
  · rw [if_neg hg] at q ⊢
    exact q
end
section
variable {X : Cx} {a b c : Expr} {fa fb fc : E} {pos : Pos} {op op' : CmpOp} {g1 g2 : Int → Int → Bool}
theorem EOk.chain (ho : OpR X (compareOp op) (rI0 fun i j => .bl (g1 i j))) (ho' : OpR X (compareOp op') (rI0 fun i j => .bl (g2 i j))) (ha : EOk X a fa) (hb : EOk X b fb) (hc : EOk X c fc) (hm : lastMarks [op, op'] [b, c] = false := by with_unfolding_all rfl) :
    EOk X (.Compare a [op, op'] [b, c] pos) (chainE g1 g2 fa fb fc) := fun W t => (pe_chain ho ho' (ha W t) (hb W t) (hc W t) hm).imp fun σ H Q h => h.chain
theorem TOk.chain (ho : OpR X (compareOp op) (rI0 fun i j => .bl (g1 i j))) (ho' : OpR X (compareOp op') (rI0 fun i j => .bl (g2 i j))) (ha : EOk X a fa) (hb : EOk X b fb) (hc : EOk X c fc) (hm : lastMarks [op, op'] [b, c] = false := by with_unfolding_all rfl) :
    TOk X (.Compare a [op, op'] [b, c] pos) (chainE g1 g2 fa fb fc) := fun W t => (pt_chain ho ho' (ha W t) (hb W t) (hc W t) hm).imp fun σ H Q h => EI.chain h
end
end PyI

namespace PyI
open PySem PySem.Spec PyProof.Rows L2

/-! ### a def that stands, with its promise -/
def HasF (P : Program) (w : World) (K : PySem.W.Frag) (mg : Str → Option Value) (base : Heap) (x : Str) (k : Nat) (ps : List Str) (Fn : List Vl → RF) : Prop :=
  ∃ f fd, mg x = some (.ref f) ∧ PySem.W.keepIn K (.ref f) = true ∧ Binds K fd ps [] ∧ FnOk P w K mg base (L2.CX P w) k f fd ps (spP K mg ps.length Fn)
/-- the def itself, as it stands behind the top -/
def DefAt (K : PySem.W.Frag) (mg : Str → Option Value) (x : Str) (st : Stmt) : Prop := ∃ f fd, L2.Fun K x x st f fd ∧ mg x = some (.ref f)
theorem defAt {K : PySem.W.Frag} {mg : Str → Option Value} {h : Heap} {x : Str} {st : Stmt} {f : Addr} {oc : Value} {od an : Option Addr} {osl : Array (Option Value)} {kV doc pm cdv ct : Value} (X : K.In h) (G : h.Ns mainGlobals mg)
    (a : PySem.W.nsIn K mainGlobals x = some (some (.ref f))) (l : K.lookup f = some ⟨oc, od, .func (PySem.W.fnOf x x (defArgs st) (defBody st) (defScope st) .none kV doc pm an cdv ct), osl⟩) (c : PySem.W.codeIn K cdv x = true) (k : PySem.W.keepIn K (.ref f) = true) : DefAt K mg x st :=
  ⟨f, _, fun_mk l c k, PySem.W.mg_of X G a⟩
section
variable {P : Program} {w : World} {K : PySem.W.Frag} {mg : Str → Option Value} {base : Heap}
theorem hasF {x : Str} {st : Stmt} {N ps : List Str} {k : Nat} {body : C} (d : DefAt K mg x st) (S : FnScope N ps (defScope st)) (hb : ∀ f, BodyOk P w K mg base k N x st f body)
    (bind : ∀ (kV doc pm : Value) (an : Option Addr) (cdv ct : Value) (us : List Value), us.length = ps.length → bindArgs (PySem.W.fnOf x x (defArgs st) (defBody st) (defScope st) .none kV doc pm an cdv ct) ⟨us, []⟩ = pure (ps.zip us)) :
    HasF P w K mg base x (k + 1) ps (runF N.length body) := by
  obtain ⟨f, fd, F, m⟩ := d
  exact ⟨f, fd, m, F.kp, F.binds bind, Fun.okP F S (hb f)⟩
theorem HasF.eqF {x : Str} {k : Nat} {ps : List Str} {F G : List Vl → RF} (h : HasF P w K mg base x k ps F) (e : F = G) : HasF P w K mg base x k ps G := e ▸ h
end
section
variable {X : Cx} {k : Nat} {ps : List Str} {Fn : List Vl → RF} {x : Str} {p pos : Pos} {e : Expr} {es : List Expr} {fs : List E}
theorem EOk.callH (G : HasF X.prog X.w X.K X.mg X.base x k ps Fn) (hr : Room k X.A) (ha : AOk X (e :: es) fs) (hg : Gl X x := by rfl) (hdb : (x == ("__debug__" : Str)) = false := by decide) (he : starEach (e :: es) X.env = (false, eval e X.env) :: starEach es X.env := by rfl) (hpl : (backTo pos (starEach es X.env)).any (·.1) = false := by rfl) :
    EOk X (.Call (.Name x p) (e :: es) [] pos) (callE ps.length Fn fs []) := by
  obtain ⟨f, fd, m, kp, b, G⟩ := G
  exact EOk.call G hr hg m kp b ha hdb he hpl
end
/-! ### short forms -/
section
variable {X : Cx}
theorem vr (i : Nat) {x : Str} {pos : Pos} (hN : X.N[i]? = some x := by rfl) (hv : Vis X.env.scope x := by first | exact Or.inl rfl | exact Or.inr (Or.inl rfl) | exact Or.inr (Or.inr rfl)) (hd : (x == ("__debug__" : Str)) = false := by decide) (hcd : (x == ("__classdict__" : Str)) = false := by decide) : EOk X (.Name x pos) (varE i) := .var hN hv hd hcd
theorem rw_ (i : Nat) {x : Str} {pos : Pos} (hN : X.N[i]? = some x := by rfl) (hv : Vis X.env.scope x := by first | exact Or.inl rfl | exact Or.inr (Or.inl rfl) | exact Or.inr (Or.inr rfl)) (hd : (x == ("__debug__" : Str)) = false := by decide) (hcd : (x == ("__classdict__" : Str)) = false := by decide) : EOk X (.Name x pos) (rawE i) := .raw hN hv hd hcd
theorem tk (i : Nat) {x : Str} {pos : Pos} (hN : X.N[i]? = some x := by rfl) (hv : Vis X.env.scope x := by first | exact Or.inl rfl | exact Or.inr (Or.inl rfl) | exact Or.inr (Or.inr rfl)) (hd : (x == ("__debug__" : Str)) = false := by decide) (hcd : (x == ("__classdict__" : Str)) = false := by decide) : EOk X (.Name x pos) (takE i) := .tak hN hv hd hcd
theorem fz (i : Nat) {x : Str} {pos : Pos} (hN : X.N[i]? = some x := by rfl) (hv : Vis X.env.scope x := by first | exact Or.inl rfl | exact Or.inr (Or.inl rfl) | exact Or.inr (Or.inr rfl)) (hd : (x == ("__debug__" : Str)) = false := by decide) (hcd : (x == ("__classdict__" : Str)) = false := by decide) : EOk X (.Name x pos) (frzE i) := .frz hN hv hd hcd
/-- a target -/
theorem tn (i : Nat) {x : Str} {pos : Pos} (hN : X.N.Nodup) (hi : X.N[i]? = some x := by rfl) (hx : Loc X.env.scope x := by first | exact Or.inl rfl | exact Or.inr rfl) (hf : X.fn x = true ∨ X.env.scope.names.lookup x = some .local := by first | exact .inl rfl | exact .inr rfl) : GOk X (.Name x pos) (tgN i) := .name hN hi hx hf
theorem gn (i : Nat) {vs : List Nat} {x : Str} {pos : Pos} (hN : X.N.Nodup) (hi : X.N[i]? = some x := by rfl) (hx : Loc X.env.scope x := by first | exact Or.inl rfl | exact Or.inr rfl) (hm : i ∈ vs := by decide) (hf : X.fn x = true ∨ X.env.scope.names.lookup x = some .local := by first | exact .inl rfl | exact .inr rfl) : GVOk X vs (.Name x pos) (tgN i) := .name hN hi hx hm hf
theorem st_ (i : Nat) {x : Str} {pos pos' : Pos} {e : Expr} {f : E} (hN : X.N.Nodup) (h : EOk X e f) (hi : X.N[i]? = some x := by rfl) (hx : Loc X.env.scope x := by first | exact Or.inl rfl | exact Or.inr rfl) (hs : swapsWith e (some (.Name x pos')) pos.line X.env = pure false := by rfl) (hf : X.fn x = true ∨ X.env.scope.names.lookup x = some .local := by first | exact .inl rfl | exact .inr rfl) : SOk X (.Assign [.Name x pos'] e pos) (asgC (tgN i) f) := .set hN hi hx h hs hf
theorem ag_ (i : Nat) {x : Str} {pos pos' : Pos} {e : Expr} {f : E} {op : Operator} {h : Int → Int → Int} (hN : X.N.Nodup) (he : EOk X e f) (ho : PIp X op (ipI h)) (hi : X.N[i]? = some x := by rfl) (hx : Loc X.env.scope x := by first | exact Or.inl rfl | exact Or.inr rfl) (hf : X.fn x = true ∨ X.env.scope.names.lookup x = some .local := by first | exact .inl rfl | exact .inr rfl) :
    SOk X (.AugAssign (.Name x pos') op e pos) (asgC (tgN i) (augE (i2c (fun _ _ => true) fun i j => .int (h i j)) i f)) := .aug hN hi hx he ho hf
end
end PyI

namespace PyI
open PySem PySem.Spec PyProof.Rows L2

/-! ### a place within a slot's own list -/
def getP : List Nat → Vl → Option (Kd × List Vl)
  | [], v => (match v with
    | .nd .own k xs => some (k, xs)
    | _ => none)
  | j :: p, v => (match v with
    | .nd .own .lst xs => (xs[j]?).bind (getP p)
    | _ => none)
def putP : List Nat → Vl → Kd → List Vl → Vl
  | [], _, k, ys => .nd .own k ys
  | j :: p, v, k, ys => (match v with
    | .nd .own .lst xs => .nd .own .lst (match xs[j]? with
      | some v => xs.set j (putP p v k ys)
      | none => xs)
    | v => v)
/-- the way down -/
def VP (H : Hp) : List Nat → V → V → Prop
  | [], x, y => x = y
  | j :: p, x, y => ∃ a xs z, x = .ref a ∧ H a = some (.lst xs) ∧ xs[j]? = some z ∧ VP H p z y
theorem VP.same {H H' : Hp} (s : Same H H') : ∀ {p : List Nat} {x y : V}, VP H p x y → VP H' p x y
  | [], _, _, h => h
  | _ :: _, _, _, ⟨a, xs, z, e, h, g, k⟩ => ⟨a, xs, z, e, s _ _ h, g, k.same s⟩
theorem VP.det {H : Hp} : ∀ {p : List Nat} {x y z : V}, VP H p x y → VP H p x z → y = z
  | [], _, _, _, h, g => h.symm.trans g
  | _ :: _, _, _, _, ⟨a, xs, z, e, h, g, k⟩, ⟨a', xs', z', e', h', g', k'⟩ => by
    rw [e] at e'
    cases e'
    rw [h] at h'
    cases h'
    rw [g] at g'
    cases g'
    exact k.det k'
theorem VP.snoc {H : Hp} : ∀ {p : List Nat} {x z : V} {a : Addr} {xs : List V} {j : Nat}, VP H p x (.ref a) → H a = some (.lst xs) → xs[j]? = some z → VP H (p ++ [j]) x z
  | [], _, _, _, _, _, h, e, g => ⟨_, _, _, h, e, g, rfl⟩
  | _ :: _, _, _, _, _, _, ⟨a, xs, z, e, h, g, k⟩, e2, g2 => ⟨a, xs, z, e, h, g, k.snoc e2 g2⟩
section
variable {K : PySem.W.Frag} {mg : Str → Option Value} {H : Hp} {F T : Addr → Prop} {as : List Addr}
theorem Reps.split : ∀ {vs : List Vl} {xs : List V} {c : Addr → Nat} {j : Nat} {v : Vl}, Reps K mg H F T as vs xs c → noTrs vs = true → vs[j]? = some v → ∃ (x : V) (c1 c2 : Addr → Nat), xs[j]? = some x ∧ Rep K mg H F T as v x c1 ∧ noTr v = true ∧ (∀ b, c b = c1 b + c2 b) ∧
    ∀ (H' : Hp) (w : Vl) (cw : Addr → Nat), (∀ d : Addr → Nat, (∀ b, d b ≤ c2 b) → Stay H H' F T d) → Rep K mg H' F T as w x cw → noTr w = true → Reps K mg H' F T as (vs.set j w) xs (fun b => cw b + c2 b) ∧ noTrs (vs.set j w) = true
  | _, _, _, _, _, .nil hc, _, e => by simp at e
  | _, _, _, 0, _, .cons (c2 := c2) r s hc, nt, e => by
    simp at e
    subst e
    unfold noTrs at nt
    simp only [Bool.and_eq_true] at nt
    refine ⟨_, _, _, rfl, r, nt.1, hc, fun H' w cw st rw nw => ⟨.cons rw (s.stay nt.2 (st _ fun b => Nat.le_refl _) (fun _ h => h) (fun _ h => h) Pre.refl) fun _ => rfl, ?_⟩⟩
    show noTrs (w :: _) = true
    unfold noTrs
    rw [nw, nt.2]; rfl
  | _, _, c, j + 1, _, .cons (v := v0) (vs := vs) (c1 := c0) r s hc, nt, e => by
    unfold noTrs at nt
    simp only [Bool.and_eq_true] at nt
    obtain ⟨x, c1, c2, e1, r1, n1, h1, up⟩ := s.split (j := j) nt.2 (by simpa using e)
    refine ⟨x, c1, fun b => c0 b + c2 b, by simpa using e1, r1, n1, fun b => by show c b = c1 b + (c0 b + c2 b); rw [hc, h1]; omega, fun H' w cw st rw nw => ?_⟩
    obtain ⟨t1, t2⟩ := up H' w cw (fun d hd => st d fun b => Nat.le_trans (hd b) (Nat.le_add_left _ _)) rw nw
    refine ⟨.cons (r.stay nt.1 (st _ fun b => Nat.le_add_right _ _) (fun _ h => h) (fun _ h => h) Pre.refl) t1 fun b => by show cw b + (c0 b + c2 b) = c0 b + (cw b + c2 b); omega, ?_⟩
    show noTrs (v0 :: vs.set j w) = true
    unfold noTrs
    rw [nt.1, t2]; rfl
theorem Rep.path : ∀ {p : List Nat} {v : Vl} {x : V} {c : Addr → Nat} {k : Kd} {xs : List Vl}, Rep K mg H F T as v x c → noTr v = true → (∀ b, c b ≤ 1) → getP p v = some (k, xs) → ∃ a o xsV cx, VP H p x (.ref a) ∧ H a = some o ∧ hoOf mg k xsV o ∧ Reps K mg H F T as xs xsV cx ∧ noTrs xs = true ∧ (∀ b, cx b + oneD a b ≤ c b) ∧
    ∀ (H' : Hp) (k' : Kd) (ys : List Vl) (ysV : List V) (cy : Addr → Nat) (o' : HO), (∀ d : Addr → Nat, (∀ b, d b + oneD a b ≤ c b) → Stay H H' F T d) → H' a = some o' → hoOf mg k' ysV o' → Reps K mg H' F T as ys ysV cy → noTrs ys = true →
      ∃ c', Rep K mg H' F T as (putP p v k' ys) x c' ∧ noTr (putP p v k' ys) = true ∧ ∀ b, c' b + cx b = c b + cy b
  | [], v, x, c, k, xs, r, nt, hl, e => by
    unfold getP at e
    split at e
    · cases e
      cases r with
      | own h ho rr hc =>
        rename_i a o xsV cx
        have ntx : noTrs xs = true := by unfold noTr at nt; simp only [Bool.and_eq_true] at nt; exact nt.2
        refine ⟨a, o, xsV, cx, rfl, h, ho, rr, ntx, fun b => by rw [hc]; simp only [oneD]; omega, fun H' k' ys ysV cy o' st ha ho' ry nty => ⟨fun b => oneD a b + cy b, ?_, ?_, fun b => ?_⟩⟩
        · exact .own ha ho' ry fun b => rfl
        · show noTr (.nd .own k' ys) = true
          unfold noTr; simp only [Bool.and_eq_true]; exact ⟨by decide, nty⟩
        · show oneD a b + cy b + cx b = c b + cy b
          rw [hc]; simp only [oneD]; omega
    · cases e
  | j :: p, v, x, c, k, xs, r, nt, hl, e => by
    unfold getP at e
    split at e
    · rename_i ws
      obtain ⟨w, e1, e2⟩ := Option.bind_eq_some_iff.mp e
      cases r with
      | own h ho rr hc =>
        rename_i a0 o0 wsV c0
        cases ho
        have ntw : noTrs ws = true := by unfold noTr at nt; simp only [Bool.and_eq_true] at nt; exact nt.2
        obtain ⟨z, c1, c2, ez, rz, nz, hcc, up⟩ := rr.split ntw e1
        obtain ⟨a, o, xsV, cx, vp, ha, ho2, rx, ntx, kx, reb⟩ := rz.path nz (fun b => by have := hl b; have := hc b; have := hcc b; omega) e2
        refine ⟨a, o, xsV, cx, ⟨a0, _, z, rfl, h, ez, vp⟩, ha, ho2, rx, ntx, fun b => by have := kx b; rw [hc, hcc]; omega, fun H' k' ys ysV cy o' st ha' ho' ry nty => ?_⟩
        obtain ⟨c', r', n', k3⟩ := reb H' k' ys ysV cy o' (fun d hd => st d fun b => by have := hd b; rw [hc, hcc]; omega) ha' ho' ry nty
        obtain ⟨t1, t2⟩ := up H' _ c' (fun d hd => st d fun b => by have := hd b; have := kx b; rw [hc, hcc]; omega) r' n'
        have ha0 : H' a0 = some (.lst wsV) := st (oneD a0) (fun b => by have := kx b; rw [hc, hcc]; simp only [oneD] at this ⊢; omega) a0 _ h (.inr (.inr (.inl (by simp [oneD]))))
        have ep : putP (j :: p) (.nd .own .lst ws) k' ys = .nd .own .lst (ws.set j (putP p w k' ys)) := by
          show Vl.nd .own .lst (match ws[j]? with | some v => ws.set j (putP p v k' ys) | none => ws) = _
          rw [e1]
        rw [ep]
        refine ⟨fun b => oneD a0 b + (c' b + c2 b), .own ha0 rfl t1 fun b => rfl, ?_, fun b => ?_⟩
        · unfold noTr; simp only [Bool.and_eq_true]; exact ⟨by decide, t2⟩
        · show oneD a0 b + (c' b + c2 b) + cx b = c b + cy b
          have := k3 b; rw [hc, hcc]; simp only [oneD]; omega
    · cases e
variable {L : List (Nat × V)} {st : Sta} {σ : L2.St} {c1 : Addr → Nat}
theorem Rel.place {i : Nat} {p : List Nat} {v : Vl} {k : Kd} {xs : List Vl} (r : Rel K mg F T as L st σ H c1) (es : st.sl[i]? = some (some v)) (e : getP p v = some (k, xs)) : ∃ x a o xsV cx, σ[i]? = some (some x) ∧ VP H p x (.ref a) ∧ H a = some o ∧ hoOf mg k xsV o ∧ Reps K mg H F T as xs xsV cx ∧ noTrs xs = true ∧ (∀ b, cx b + oneD a b ≤ c1 b) ∧
    ∀ (c9 : Addr → Nat) (k' : Kd) (ys : List Vl) (ysV : List V) (cy : Addr → Nat) (o' : HO), (∀ b, c1 b + c9 b ≤ 1) → (∀ b, F b ∨ T b → c9 b = 0) → (∀ b, cy b ≤ cx b + c9 b) → Reps K mg H F T as ys ysV cy → noTrs ys = true → hoOf mg k' ysV o' →
      ∃ c', Rel K mg F T as L { st with sl := st.sl.set i (some (putP p v k' ys)) } σ (upd H a o') c' ∧ ∀ b, c' b + cx b = c1 b + cy b := by
  obtain ⟨x, d1, d2, e1, rv, nt, r2, hc⟩ := r.slot es
  have hd1 : ∀ b, d1 b ≤ 1 := fun b => by have := r.le b; have := hc b; omega
  obtain ⟨a, o, xsV, cx, vp, h, ho, rr, ntx, kx, reb⟩ := rv.path nt hd1 e
  refine ⟨x, a, o, xsV, cx, e1, vp, h, ho, rr, ntx, fun b => by rw [hc]; have := kx b; omega, fun c9 k' ys ysV cy o' le hF hy ry nty ho' => ?_⟩
  have hm : MutO (H a) := by rw [h]; exact hoOf_mut ho
  have oa : oneD a a = 1 := if_pos rfl
  have da : d1 a ≥ 1 := by have := kx a; omega
  have nd : ∀ (d : Addr → Nat), (∀ b, d b + oneD a b ≤ c9 b + d2 b + d1 b) → ∀ b, F b ∨ T b ∨ d b ≠ 0 → b ≠ a := fun d hd b q eb => by
    subst eb
    have h1 := hd b
    rcases q with q | q | q
    · have := (r.fr b (.inl q)).1; have := hc b; omega
    · have := (r.fr b (.inr q)).1; have := hc b; omega
    · have := le b; have := hc b; omega
  have hi : i < st.sl.length := (List.getElem?_eq_some_iff.mp es).1
  have r3 := r2.wr (o := o') (nd d2 fun b => by have := kx b; omega) hm
  have ry3 := ry.stay nty (stay_wr (o := o') (nd cy fun b => by have := hy b; have := kx b; omega) hm) (fun _ h => h) (fun _ h => h) Pre.refl
  obtain ⟨c', r', n', k3⟩ := reb (upd H a o') k' ys ysV cy o' (fun d hd => stay_wr (nd d fun b => by have := hd b; omega) hm) upd_same ho' ry3 nty
  have hle : ∀ b, c' b + d2 b ≤ 1 := fun b => by
    have h1 := hy b; have h2 := le b; have h3 := hc b; have h4 := k3 b; have h5 := kx b
    omega
  have r4 := r3.fill hi e1 r' n' hle fun b q => by
    have h1 := (r.fr b q).1
    have h2 := hc b; have h4 := hy b; have h5 := hF b q; have h6 := k3 b; have := kx b
    omega
  refine ⟨fun b => c' b + d2 b, r4, fun b => ?_⟩
  show c' b + d2 b + cx b = c1 b + cy b
  have := k3 b; have := hc b; omega
end

/-! ### the place that an expression names -/
abbrev Pl := Sta → Option (Nat × List Nat)
def plN (i : Nat) : Pl := fun st => match st.sl[i]? with
  | some (some (.nd .own .lst _)) => some (i, [])
  | _ => none
def plI (l : Pl) (f : E) : Pl := fun st => match l st with
  | some (i, p) => (match st.sl[i]? with
    | some (some v) => (match getP p v with
      | some (.lst, xs) => (match f st with
        | .ok (.int j, _, false) => (ixN xs.length j).bind fun n => match xs[n]? with
          | some (.nd .own .lst _) => some (i, p ++ [n])
          | _ => none
        | _ => none)
      | _ => none)
    | _ => none)
  | none => none
def PlI (K : PySem.W.Frag) (mg : Str → Option Value) (W : WX) (l : Pl) : TE := fun σ H Q => ∃ F T as L st c, Rel K mg F T as L st σ H c ∧ ∃ i p v x k xs, l st = some (i, p) ∧ st.sl[i]? = some (some v) ∧ σ[i]? = some (some x) ∧ getP p v = some (k, xs) ∧ ∀ H' y, Same H H' → VP H' p x y → Q y H'
def PlOk (X : Cx) (e : Expr) (l : Pl) : Prop := ∀ W, Takes X W → PE X e (PlI X.K X.mg W l)
theorem getP_snoc : ∀ {p : List Nat} {v w : Vl} {xs : List Vl} {n : Nat}, getP p v = some (.lst, xs) → xs[n]? = some w → getP (p ++ [n]) v = getP [] w
  | [], v, w, xs, n, h, e => by
    unfold getP at h
    split at h
    · cases h
      show (xs[n]?).bind (getP []) = _
      rw [e]; rfl
    · cases h
  | j :: p, v, w, xs, n, h, e => by
    unfold getP at h
    split at h
    · rename_i ws
      obtain ⟨u, e1, e2⟩ := Option.bind_eq_some_iff.mp h
      show (ws[j]?).bind (getP (p ++ [n])) = _
      rw [e1]
      exact getP_snoc e2 e
    · cases h
theorem ixN_lt {n : Nat} {i : Int} {j : Nat} (h : ixN n i = some j) : j < n := by
  unfold ixN at h
  split at h
  · split at h
    · cases h; omega
    · cases h
  · split at h
    · cases h; omega
    · cases h
section
variable {X : Cx} {x : Str} {pos p0 : Pos} {i : Nat} {a b : Expr} {l : Pl} {f : E}
theorem PlOk.name (hN : X.N[i]? = some x := by rfl) (hv : Vis X.env.scope x := by first | exact Or.inl rfl | exact Or.inr (Or.inl rfl) | exact Or.inr (Or.inr rfl)) (hd : (x == ("__debug__" : Str)) = false := by decide) (hcd : (x == ("__classdict__" : Str)) = false := by decide) : PlOk X (.Name x pos) (plN i) := fun W t => (pe_var hN hv hd hcd).imp fun σ H Q h => by
  obtain ⟨F, T, as, L, st, c, r, i', p, v, x, k, xs, e1, e2, e3, e4, q⟩ := h
  unfold plN at e1
  split at e1
  · cases e1
    exact ⟨x, e3, q H x (Same.refl H) rfl⟩
  · cases e1
theorem PlOk.ix (ha : PlOk X a l) (hb : EOk X b f) (hs : PlainIx b := by exact fun _ _ => rfl) : PlOk X (.Subscript a b pos) (plI l f) := fun W t => (pe_ix ix_list (ha W t) (hb W t) hs).imp fun σ H Q h => by
  obtain ⟨F, T, as, L, st, c, r, i', p, v, x, k, xs, e1, e2, e3, e4, q⟩ := h
  unfold plI at e1
  cases el : l st with
  | none => rw [el] at e1; cases e1
  | some ip =>
    obtain ⟨i0, p1⟩ := ip
    rw [el] at e1
    simp only at e1
    cases ev : st.sl[i0]? with
    | none => rw [ev] at e1; cases e1
    | some ov =>
      cases ov with
      | none => rw [ev] at e1; cases e1
      | some w =>
        rw [ev] at e1
        simp only at e1
        split at e1
        · rename_i ys eg
          split at e1
          · rename_i j s0 ef
            obtain ⟨n, en, e1⟩ := Option.bind_eq_some_iff.mp e1
            split at e1
            · rename_i zs ez
              injection e1 with e1
              injection e1 with ei ep
              subst ei ep
              rw [ev] at e2
              cases e2
              refine ⟨F, T, as, L, st, c, r, i0, p1, _, x, _, ys, el, ev, e3, eg, fun H1 y sm vp => ?_⟩
              have r1 := r.same sm
              obtain ⟨x', a, o, xsV, cx, ex, vp', ha, ho, rx, _, _, _⟩ := r1.place ev eg
              rw [e3] at ex
              cases ex
              cases vp.det vp'
              cases ho
              refine ⟨F, T, as, L, st, c, r1, ?_⟩
              rw [ef]
              intro F2 as2 H2 z c2 c3 r2 rv s2 p2 ef2
              obtain ⟨sm2, _, _⟩ := ef2 rfl
              obtain ⟨y', cy, ey, _, _⟩ := rx.at ez
              refine ⟨a, xsV, j, y', rfl, rv.inv_int, SqL.of (sm2 _ _ ha), ?_, q H2 y' (sm.trans sm2) ?_⟩
              · unfold atI
                rw [← rx.length, en]
                exact ey
              · exact (vp.same sm2).snoc (sm2 _ _ ha) ey
            · cases e1
          · cases e1
        · cases e1
end
/-- a change at a place, what is handed in only looked at -/
def mutPE (l : Pl) (p : Kd → Bool) (fs : List E) (g : Mu) : E := fun st => match l st with
  | some (i, pt) => (match st.sl[i]? with
    | some (some v) => (match getP pt v with
      | some (k0, xs) => if p k0 then (match evs fs st with
        | .ok (vs, _, false) => (match g vs k0 xs with
          | some (res, k', ys) => if stors ys && noTr res then .ok (res, { st with sl := st.sl.set i (some (putP pt v k' ys)) }, true) else .bad
          | none => .bad)
        | _ => .bad) else .bad
      | none => .bad)
    | _ => .bad)
  | none => .bad
theorem EI.mutP {K : PySem.W.Frag} {mg : Str → Option Value} {W : WX} {l : Pl} {p : Kd → Bool} {fs : List E} {g : Mu} {r : V → List V → Hp → VK → Prop} {σ : L2.St} {H : Hp} {Q : VK} (h : EI K mg W (mutPE l p fs g) σ H Q) (hg : GMu K mg g r) :
    PlI K mg W l σ H fun y H1 => (∃ a k xsV o, y = .ref a ∧ p k = true ∧ H1 a = some o ∧ hoOf mg k xsV o) ∧ AI K mg W fs σ H1 fun xs H2 => r y xs H2 Q := by
  obtain ⟨F0, T, as0, L, st, c0, r0, q⟩ := h
  unfold mutPE at q
  split at q
  · rename_i i pt el
    split at q
    · rename_i v es
      split at q
      · rename_i k0 ws eg
        split at q
        · rename_i hp
          obtain ⟨x, a, o, xsV, cx, ex, vp, ha, ho, rx, ntx, kx, up⟩ := r0.place es eg
          refine ⟨F0, T, as0, L, st, c0, r0, i, pt, v, x, k0, ws, el, es, ex, eg, fun H1 y sm vpy => ?_⟩
          cases (vp.same sm).det vpy
          refine ⟨⟨a, k0, xsV, o, rfl, hp, sm _ _ ha, ho⟩, F0, T, as0, L, st, c0, r0.same sm, ?_⟩
          split at q
          · rename_i vs s' e1
            rw [e1]
            intro F1 as1 H2 xs c1 ca r1 rv s1 p1 ef
            obtain ⟨sm2, es2, _⟩ := ef rfl
            subst es2
            split at q
            · rename_i res k' ys e3
              split at q
              · rename_i hc
                simp only [Bool.and_eq_true] at hc
                obtain ⟨x2, a2, o2, wsV, cx2, ex2, vp2, ha2, ho2, rw2, nw, kx2, up2⟩ := r1.place es eg
                rw [ex] at ex2
                cases ex2
                cases (vp.same (sm.trans sm2)).det vp2
                have tz : ∀ b, T b → c1 b + ca b = 0 := fun b z => by
                  have h0 := (r0.same sm).fr b (.inr z)
                  by_cases y : c1 b + ca b = 0
                  · exact y
                  · rcases s1.grow b y with w | w
                    · exact absurd h0.1 w
                    · exact absurd w h0.2
                refine hg H2 F1 T as1 vs xs ca k0 ws wsV cx2 a o2 res k' ys Q rv rw2 ha2 ho2 e3 fun ysV cy x cr o' ry rr ho' hle => ?_
                have le1 : ∀ b, c1 b + ca b ≤ 1 := s1.le
                have dis1 : ∀ b, F1 b → c1 b + ca b = 0 := s1.dis
                obtain ⟨c', r', hc'⟩ := up2 ca k' ys ysV cy o' le1 (fun b z => by
                  rcases z with z | z
                  · have := dis1 b z; omega
                  · have := tz b z; omega) (fun b => by have := hle b; omega) ry (noTrs_of_stors hc.1) ho'
                have hm : MutO (H2 a) := by rw [ha2]; exact hoOf_mut ho2
                have nda : ∀ (d : Addr → Nat), (∀ b, d b ≤ cx2 b + ca b) → ∀ b, F1 b ∨ T b ∨ d b ≠ 0 → b ≠ a := fun d hd b z eb => by
                  subst eb
                  have k1 := kx2 b
                  have oa : oneD b b = 1 := if_pos rfl
                  rcases z with z | z | z
                  · have := dis1 b z; omega
                  · have := tz b z; omega
                  · have := hd b; have := le1 b; omega
                have rr' := rr.stay hc.2 (stay_wr (o := o') (nda cr fun b => by have := hle b; omega) hm) (fun _ h => h) (fun _ h => h) Pre.refl
                have sm0 : ∀ b, H1 b = none → H b = none := fun b w => by
                  cases u : H b with
                  | none => rfl
                  | some o => rw [sm _ _ u] at w; cases w
                have s1 : Step F0 c0 H F1 (fun b => c1 b + ca b) H2 := ⟨fun b o e z => s1.keep b o (sm _ _ e) z, fun b z => (s1.grow b z).imp id (sm0 b), s1.le, s1.sub, s1.dis, fun b z => (s1.fgr b z).imp id fun w => w.imp id (sm0 b), fun b z => s1.trk b (PyI.Same.trk sm b z)⟩
                refine q F1 as1 (upd H2 a o') x c' cr r' rr' ⟨fun b u e z => ?_, fun b z => s1.grow b ?_, fun b => ?_, s1.sub, fun b z => ?_, s1.fgr, fun b z => ?_⟩ p1 fun z => nomatch z
                · have e2' := s1.keep b u e z
                  rw [upd_ne ?_]
                  · exact e2'
                  · rintro rfl
                    have k1 := kx2 b
                    have oa : oneD b b = 1 := if_pos rfl
                    rcases s1.grow b (by show c1 b + ca b ≠ 0; omega) with w | w
                    · exact w z
                    · rw [e] at w; cases w
                · have z' : c' b + cr b ≠ 0 := z
                  have := hc' b; have := hle b; have := kx2 b
                  show c1 b + ca b ≠ 0
                  omega
                · show c' b + cr b ≤ 1
                  have := hc' b; have := hle b; have := kx2 b; have := le1 b
                  omega
                · show c' b + cr b = 0
                  have := hc' b; have := hle b; have := kx2 b; have := dis1 b z
                  omega
                · by_cases y : b = a
                  · rw [y, upd_same]; exact fun w => nomatch w
                  · rw [upd_ne y]; exact s1.trk b z
              · exact (show False from q).elim
            · exact (show False from q).elim
          · exact (show False from q).elim
        · exact (show False from q).elim
      · exact (show False from q).elim
    · exact (show False from q).elim
  · exact (show False from q).elim
theorem PlI.mono {K : PySem.W.Frag} {mg : Str → Option Value} {W : WX} {l : Pl} {σ : L2.St} {H : Hp} {Q Q' : VK} (h : PlI K mg W l σ H Q) (i : ∀ y H', Q y H' → Q' y H') : PlI K mg W l σ H Q' := by
  obtain ⟨F, T, as, L, st, c, r, i', p, v, x, k, xs, e1, e2, e3, e4, q⟩ := h
  exact ⟨F, T, as, L, st, c, r, i', p, v, x, k, xs, e1, e2, e3, e4, fun H' y s vp => i _ _ (q H' y s vp)⟩
section
variable {X : Cx} {m : Str} {p0 apos cpos pos : Pos} {o e : Expr} {es : List Expr} {fs : List E} {l : Pl} {f fi : E} {g : Mu} {id : String}
theorem tyLP {K : PySem.W.Frag} {mg : Str → Option Value} {H : Hp} {y : V} (h : ∃ a k xsV o, y = .ref a ∧ isL k = true ∧ H a = some o ∧ hoOf mg k xsV o) : tyV K "list" y H := by
  obtain ⟨a, k, xsV, o, rfl, hk, ha, ho⟩ := h
  exact tyL ⟨k, xsV, o, hk, ha, ho⟩
/-- place.m(..) -/
theorem EOk.methP {r : V → List V → Hp → VK → Prop} (hl : PlOk X o l) (slot : Slot "list" m id) (hty : typeOf (.builtin id) = pure (.type "method_descriptor")) (hm : MtR X id r) (hg : GMu X.K X.mg g r) (ha : AOk X (e :: es) fs)
    (hbase : attributeBase o m X.env (eval o X.env) = eval o X.env := by rfl)
    (hfew : ((backTo cpos (starEach (e :: es) X.env)).all (fun x => !x.1) && (backToKw cpos (keywordEach [] X.env)).all (fun x => x.1.isSome)
      && decide ((e :: es).length + ([] : List Keyword).length + (if ([] : List Keyword).isEmpty then 0 else 1) < 30)) = true := by rfl)
    (hline : (apos.endLine == cpos.line) = true := by rfl) (hs : starEach (e :: es) X.env = (false, eval e X.env) :: starEach es X.env := by rfl) (hplain : (backTo cpos (starEach es X.env)).any (·.1) = false := by rfl) :
    EOk X (.Call (.Attribute o m apos) (e :: es) [] cpos) (mutPE l isL fs g) := fun W t =>
  (pe_bm PySem.F.plainAttrs_list slot hty hm (hl W t) (ha W t) hbase hfew hline hs hplain).imp fun σ H Q h =>
    (h.mutP hg).mono fun y H1 ⟨ty, q⟩ => ⟨tyLP ty, q⟩
theorem EOk.methP0 {r : V → List V → Hp → VK → Prop} (hl : PlOk X o l) (slot : Slot "list" m id) (hty : typeOf (.builtin id) = pure (.type "method_descriptor")) (hm : MtR X id r) (hg : GMu X.K X.mg g r)
    (hbase : attributeBase o m X.env (eval o X.env) = eval o X.env := by rfl) (hline : (apos.endLine == cpos.line) = true := by rfl) :
    EOk X (.Call (.Attribute o m apos) [] [] cpos) (mutPE l isL [] g) := fun W t =>
  (pe_bm0 PySem.F.plainAttrs_list slot hty hm (hl W t) hbase hline).imp fun σ H Q h =>
    (h.mutP hg).mono fun y H1 ⟨ty, q⟩ => ⟨tyLP ty, q.nil⟩
end
end PyI

namespace PyI
open PySem PySem.Spec PyProof.Rows L2

/-! ### what the top has written -/
/-- a whole number of the module -/
def IntG (mg : Str → Option Value) (x : Str) (i : Int) : Prop := ∃ t, mg x = some (.int i t)
/-- an own class of refusals, without an own __init__ -/
def ExcC (K : PySem.W.Frag) (mg : Str → Option Value) (x : Str) : Prop := ∃ C bm, ExcBaseFacts "ValueError" "ValueError.__new__" "ValueError.__init__" bm ∧ mg x = some (.ref C) ∧ PySem.W.excIn K C bm "ValueError.__new__" = true ∧ PySem.W.keepIn K (.ref C) = true ∧
  PySem.W.subIn K (.ref C) (.type "BaseException") = some true ∧ PySem.W.typeIn K (.ref C) = some (.type "type")
section
variable {K : PySem.W.Frag} {mg : Str → Option Value} {h : Heap}
theorem intG {x : Str} {i : Int} {t : Nat} (X : K.In h) (G : h.Ns mainGlobals mg) (a : PySem.W.nsIn K mainGlobals x = some (some (.int i t))) : IntG mg x i := ⟨t, PySem.W.mg_of X G a⟩
theorem excC {x : Str} {C : Addr} {bm : List Value} (X : K.In h) (G : h.Ns mainGlobals mg) (F : ExcBaseFacts "ValueError" "ValueError.__new__" "ValueError.__init__" bm) (a : PySem.W.nsIn K mainGlobals x = some (some (.ref C))) (b : PySem.W.excIn K C bm "ValueError.__new__" = true) (c : PySem.W.keepIn K (.ref C) = true)
    (d : PySem.W.subIn K (.ref C) (.type "BaseException") = some true) (e : PySem.W.typeIn K (.ref C) = some (.type "type")) : ExcC K mg x := ⟨C, bm, F, PySem.W.mg_of X G a, b, c, d, e⟩
end
section
variable {X : Cx} {x m : Str} {j : Nat} {p p2 pos rpos : Pos}
theorem EOk.gint {i : Int} (h : IntG X.mg x i) (hg : Gl X x := by rfl) (hd : (x == ("__debug__" : Str)) = false := by decide) : EOk X (.Name x pos) (cstE (.int i)) := by
  obtain ⟨t, h⟩ := h
  exact EOk.glob (y := .int i) hg h ⟨t, rfl⟩ (fun _ _ _ _ => Rep.int') hd
theorem SOk.raiseC (hc : X.calm = true) (h : ExcC X.K X.mg x) (hg : Gl X x := by rfl) (hd : (x == ("__debug__" : Str)) = false := by decide) : SOk X (.Raise (some (.Call (.Name x p) [.Constant (.str m) j p2] [] pos)) none rpos) (rsC x) := by
  obtain ⟨C, bm, F, a, b, c, d, e⟩ := h
  exact SOk.raise hc F b a c (raises_own d e) hg hd
end
/-- the law's own end -/
def spLaw (K : PySem.W.Frag) : Sp := fun vs H Q _ => ∃ (a : Addr) (ns : List Int), vs = [.ref a] ∧ SqL K H a (ns.map V.int) ∧ ns.length ≤ 63 ∧ ∀ H', Q (.bl true) H'
theorem Reps.intL {K : PySem.W.Frag} {mg : Str → Option Value} {H : Hp} {F T : Addr → Prop} {as : List Addr} : ∀ ns : List Int, Reps K mg H F T as (ns.map Vl.int) (ns.map V.int) (fun _ => 0)
  | [] => .nil fun _ => rfl
  | _ :: r => .cons Rep.int' (Reps.intL r) fun _ => rfl
theorem setFs_ints (f : Fl) : ∀ ns : List Int, setFs f (ns.map Vl.int) = ns.map Vl.int
  | [] => rfl
  | n :: r => by
    show setF f (.int n) :: setFs f (r.map Vl.int) = _
    rw [setFs_ints f r]
    rfl
theorem law_all {P : Program} {w : World} {K : PySem.W.Frag} {mg : Str → Option Value} {h : Heap} {fa : Addr} {k : Nat} {x : Str} {N : List Str} {body : C} {st : Stmt} (G : h.Ns mainGlobals mg) (hfa : mg "law" = some (.ref fa)) (d : DefAt K mg "law" st) (S : FnScope N [x] (defScope st))
    (bind : ∀ (kV doc pm : Value) (an : Option Addr) (cdv ct : Value) (us : List Value), us.length = 1 → bindArgs (PySem.W.fnOf "law" "law" (defArgs st) (defBody st) (defScope st) .none kV doc pm an cdv ct) ⟨us, []⟩ = pure ([x].zip us))
    (hb : ∀ base f, BodyOk P w K mg base k N "law" st f body) (truth : ∀ ns : List Int, ns.length ≤ 63 → runF N.length body [.nd .sh .lst (ns.map Vl.int)] = .ok (.bl true)) :
    ∃ fd : FuncData, (∀ (s : Shared) (v : Value), BindsTo s fd ⟨[v], []⟩ [(x, v)]) ∧ ∀ base : Heap, K.In base → base.Ns mainGlobals mg → FnOk P w K mg base (L2.CX P w) (k + 1) fa fd [x] (spLaw K) := by
  obtain ⟨f, fd, F, m⟩ := d
  rw [m] at hfa
  cases hfa
  refine ⟨fd, fun s v => ?_, fun base _ _ => ?_⟩
  · obtain ⟨oc, od, kV, doc, pm, an, cdv, ct, osl, rfl, lk, hcd⟩ := F.ex
    exact .of_eq (bind kV doc pm an cdv ct [v] rfl)
  · have hpl : [x].length ≤ N.length := by have := congrArg List.length S.pre; rw [List.length_take] at this; omega
    refine F.okX S (fun vs H Q E h => ?_) fun cdv A outer s H vs Q E hr h => ?_
    · obtain ⟨a, ns, rfl, _⟩ := h
      rfl
    · obtain ⟨a, ns, rfl, hS, hl, q⟩ := h
      refine ⟨_, hb base fa cdv A outer s H E hr (fun cls d _ H => E cls d H) (takes_of rfl rfl rfl rfl), body_ok (ps := [x]) (n := 0) hpl ⟨rfl, [.nd .sh .lst (ns.map Vl.int)], ?_, ?_⟩⟩
      · show Reps K mg H (Trk H) _ [] [.nd .sh .lst (setFs .sh (ns.map Vl.int))] _ _
        rw [setFs_ints]
        refine .cons (c1 := fun _ => 0) (c2 := fun _ => 0) (.sh ?_ (Reps.intL ns) fun _ => rfl) (.nil fun _ => rfl) fun _ => rfl
        rcases hS with hS | hS
        · exact .inl ⟨rd_trk hS, _, rfl, hS⟩
        · exact .inr ⟨rfl, hS⟩
      · show match runF N.length body [.nd .sh .lst (setFs .sh (ns.map Vl.int))] with | .ok v => _ | .exc cl => _ | .bad => _
        rw [setFs_ints, truth ns hl]
        refine ⟨rfl, fun H' x c _ rx _ _ => ?_⟩
        cases rx
        exact q H'
end PyI
namespace PyI
open PySem PySem.Spec PyProof.Rows L2
theorem withF {a b : Prop} (h : a) (k : a → b) : b := k h
theorem cx_none {P : Program} : ∀ (w : World) (H : Hp) (s : Shared) (e : Value) (s' : Shared), L2.CX P w [] H s (fun _ _ _ => False) e s' → False := fun _ _ _ _ _ ⟨_, _, _, _, _, _, _, _, _, _, _, _, z⟩ => z
end PyI

namespace PyI
open PySem PySem.Spec PyProof.Rows L2

/-! ### values with a Lean type -/
class Enc (α : Type) [DecidableEq α] extends PySem.W.Datum α where
  enc : Fl → α → Vl
  setF_ : ∀ f g a, setF g (enc f a) = enc g a
  peek_ : ∀ f a, peek (enc f a) = enc (if f = .own then .tr else f) a
  noRef_ : ∀ f a, noRef (enc f a) = true
  allOwn_ : ∀ a, allOwn (enc .own a) = true
  stor_ : ∀ f a, (f == .own || f == .sh) = true → stor (enc f a) = true
  noTr_ : ∀ f a, (f != .tr) = true → noTr (enc f a) = true
  noOwn_ : ∀ f a, (f != .own) = true → noOwn (enc f a) = true
  py_ : ∀ f a, pyOf (enc f a) = some (toD a)
  lay_ : ∀ a, (toD a).canLay0 = true
open Enc (enc)
section
variable {α β : Type} [DecidableEq α] [Enc α] [DecidableEq β] [Enc β]
theorem setFs_enc (f g : Fl) : ∀ xs : List α, setFs g (xs.map (enc f)) = xs.map (enc g)
  | [] => rfl
  | x :: r => by show setF g (enc f x) :: setFs g (r.map (enc f)) = _; rw [Enc.setF_, setFs_enc f g r]; rfl
theorem peeks_enc (f : Fl) : ∀ xs : List α, peeks (xs.map (enc f)) = xs.map (enc (if f = .own then .tr else f))
  | [] => rfl
  | x :: r => by show peek (enc f x) :: peeks (r.map (enc f)) = _; rw [Enc.peek_, peeks_enc f r]; rfl
theorem noRefs_enc (f : Fl) : ∀ xs : List α, noRefs (xs.map (enc f)) = true
  | [] => rfl
  | x :: r => by show (noRef (enc f x) && noRefs (r.map (enc f))) = true; rw [Enc.noRef_, noRefs_enc f r]; rfl
theorem allOwns_enc : ∀ xs : List α, allOwns (xs.map (enc .own)) = true
  | [] => rfl
  | x :: r => by show (allOwn (enc .own x) && allOwns (r.map (enc .own))) = true; rw [Enc.allOwn_, allOwns_enc r]; rfl
theorem stors_enc (f : Fl) (h : (f == .own || f == .sh) = true) : ∀ xs : List α, stors (xs.map (enc f)) = true
  | [] => rfl
  | x :: r => by show (stor (enc f x) && stors (r.map (enc f))) = true; rw [Enc.stor_ f x h, stors_enc f h r]; rfl
theorem noTrs_enc (f : Fl) (h : (f != .tr) = true) : ∀ xs : List α, noTrs (xs.map (enc f)) = true
  | [] => rfl
  | x :: r => by show (noTr (enc f x) && noTrs (r.map (enc f))) = true; rw [Enc.noTr_ f x h, noTrs_enc f h r]; rfl
theorem noOwns_enc (f : Fl) (h : (f != .own) = true) : ∀ xs : List α, noOwns (xs.map (enc f)) = true
  | [] => rfl
  | x :: r => by show (noOwn (enc f x) && noOwns (r.map (enc f))) = true; rw [Enc.noOwn_ f x h, noOwns_enc f h r]; rfl
theorem pysOf_enc (f : Fl) : ∀ xs : List α, pysOf (xs.map (enc f)) = some (xs.map PySem.W.Datum.toD)
  | [] => by simp [pysOf]
  | x :: r => by
    show pysOf (enc f x :: r.map (enc f)) = _
    unfold pysOf
    rw [Enc.py_, pysOf_enc f r]
    rfl
theorem canLayAll_enc : ∀ xs : List α, PyData.canLayAll0 (xs.map PySem.W.Datum.toD) = true
  | [] => rfl
  | x :: r => by
    show ((PySem.W.Datum.toD x).canLay0 && PyData.canLayAll0 (r.map PySem.W.Datum.toD)) = true
    rw [Enc.lay_, canLayAll_enc r]; rfl
instance : Enc Int where
  enc _ i := .int i
  setF_ _ _ _ := rfl
  peek_ _ _ := rfl
  noRef_ _ _ := rfl
  allOwn_ _ := rfl
  stor_ _ _ _ := rfl
  noTr_ _ _ _ := rfl
  noOwn_ _ _ _ := rfl
  py_ _ _ := by simp [pyOf]; rfl
  lay_ _ := rfl
instance : Enc Bool where
  enc _ i := .bl i
  setF_ _ _ _ := rfl
  peek_ _ _ := rfl
  noRef_ _ _ := rfl
  allOwn_ _ := rfl
  stor_ _ _ _ := rfl
  noTr_ _ _ _ := rfl
  noOwn_ _ _ _ := rfl
  py_ _ _ := by simp [pyOf]; rfl
  lay_ _ := rfl
instance : Enc Unit where
  enc _ _ := .non
  setF_ _ _ _ := rfl
  peek_ _ _ := rfl
  noRef_ _ _ := rfl
  allOwn_ _ := rfl
  stor_ _ _ _ := rfl
  noTr_ _ _ _ := rfl
  noOwn_ _ _ _ := rfl
  py_ _ _ := by simp [pyOf]; rfl
  lay_ _ := rfl
instance : Enc (List α) where
  enc f xs := .nd f .lst (xs.map (enc f))
  setF_ f g a := by show Vl.nd g .lst (setFs g (a.map (enc f))) = _; rw [setFs_enc]
  peek_ f a := by show Vl.nd (if f = .own then .tr else f) .lst (peeks (a.map (enc f))) = _; rw [peeks_enc]
  noRef_ f a := noRefs_enc f a
  allOwn_ a := by show (Fl.own == Fl.own && allOwns (a.map (enc .own))) = true; rw [allOwns_enc]; rfl
  stor_ f a h := by show ((f == .own || f == .sh) && stors (a.map (enc f))) = true; rw [stors_enc f h, h]; rfl
  noTr_ f a h := by show (f != .tr && noTrs (a.map (enc f))) = true; rw [noTrs_enc f h, h]; rfl
  noOwn_ f a h := by show (f != .own && noOwns (a.map (enc f))) = true; rw [noOwns_enc f h, h]; rfl
  py_ f a := by unfold pyOf; rw [pysOf_enc]; rfl
  lay_ a := canLayAll_enc a
instance : Enc (α × β) where
  enc f p := .tup [enc f p.1, enc f p.2]
  setF_ f g a := by show Vl.tup [setF g (enc f a.1), setF g (enc f a.2)] = _; rw [Enc.setF_, Enc.setF_]
  peek_ f a := by show Vl.tup [peek (enc f a.1), peek (enc f a.2)] = _; rw [Enc.peek_, Enc.peek_]
  noRef_ f a := by show (noRef (enc f a.1) && (noRef (enc f a.2) && true)) = true; rw [Enc.noRef_, Enc.noRef_]; rfl
  allOwn_ a := by show (allOwn (enc .own a.1) && (allOwn (enc .own a.2) && true)) = true; rw [Enc.allOwn_, Enc.allOwn_]; rfl
  stor_ f a h := by show (stor (enc f a.1) && (stor (enc f a.2) && true)) = true; rw [Enc.stor_ f _ h, Enc.stor_ f _ h]; rfl
  noTr_ f a h := by show (noTr (enc f a.1) && (noTr (enc f a.2) && true)) = true; rw [Enc.noTr_ f _ h, Enc.noTr_ f _ h]; rfl
  noOwn_ f a h := by show (noOwn (enc f a.1) && (noOwn (enc f a.2) && true)) = true; rw [Enc.noOwn_ f _ h, Enc.noOwn_ f _ h]; rfl
  py_ f a := by
    unfold pyOf
    show Option.map PyData.tuple (pysOf [enc f a.1, enc f a.2]) = _
    unfold pysOf
    rw [Enc.py_]
    unfold pysOf
    rw [Enc.py_]
    unfold pysOf
    rfl
  lay_ a := by show ((PySem.W.Datum.toD a.1).canLay0 && ((PySem.W.Datum.toD a.2).canLay0 && true)) = true; rw [Enc.lay_, Enc.lay_]; rfl
theorem shaped_enc (a : α) (h : PySem.W.Datum.depth α ≤ 64) : SeqAt.shaped (PySem.W.Datum.toD a) = true := by
  unfold SeqAt.shaped
  rw [Enc.lay_, decide_eq_true (Nat.le_trans (PySem.W.Datum.depth_le a) h)]
  rfl
theorem gEq_enc {f g : Fl} (a b : α) (h : PySem.W.Datum.depth α ≤ 64 := by decide) : gEq [enc f a, enc g b] = some (.bl (decide (a = b))) := by
  show (match pyOf (enc f a), pyOf (enc g b) with
    | some d, some e => if SeqAt.shaped d && SeqAt.shaped e then some (Vl.bl (PyData.eqv d e)) else none
    | _, _ => none) = _
  rw [Enc.py_, Enc.py_]
  show (if (SeqAt.shaped (PySem.W.Datum.toD a) && SeqAt.shaped (PySem.W.Datum.toD b)) = true then some (Vl.bl (PyData.eqv (PySem.W.Datum.toD a) (PySem.W.Datum.toD b))) else none) = _
  rw [shaped_enc a h, shaped_enc b h, PySem.W.Datum.eqv]
  rfl
theorem gNe_enc {f g : Fl} (a b : α) (h : PySem.W.Datum.depth α ≤ 64 := by decide) : gNe [enc f a, enc g b] = some (.bl (!decide (a = b))) := by
  show (match pyOf (enc f a), pyOf (enc g b) with
    | some d, some e => if SeqAt.shaped d && SeqAt.shaped e then some (Vl.bl (!PyData.eqv d e)) else none
    | _, _ => none) = _
  rw [Enc.py_, Enc.py_]
  show (if (SeqAt.shaped (PySem.W.Datum.toD a) && SeqAt.shaped (PySem.W.Datum.toD b)) = true then some (Vl.bl (!PyData.eqv (PySem.W.Datum.toD a) (PySem.W.Datum.toD b))) else none) = _
  rw [shaped_enc a h, shaped_enc b h, PySem.W.Datum.eqv]
  rfl
theorem gEq_int (a b : Int) : gEq [.int a, .int b] = some (.bl (decide (a = b))) := gEq_enc (f := .own) (g := .own) a b
theorem gNe_int (a b : Int) : gNe [.int a, .int b] = some (.bl (!decide (a = b))) := gNe_enc (f := .own) (g := .own) a b
theorem mkL_enc (xs : List α) : mkL (xs.map (enc .own)) = enc .own xs := by
  unfold mkL
  rw [if_pos (stors_enc .own rfl xs)]
  rfl
theorem atI_map {γ δ : Type} (f : γ → δ) (xs : List γ) (i : Int) : atI (xs.map f) i = (atI xs i).map f := by
  unfold atI
  rw [List.length_map]
  cases ixN xs.length i with
  | none => rfl
  | some j => exact List.getElem?_map
theorem atI_pos {γ : Type} {xs : List γ} {i : Int} {x : γ} (h0 : 0 ≤ i) (h : xs[i.toNat]? = some x) : atI xs i = some x := by
  have e : ((i.toNat : Nat) : Int) = i := Int.toNat_of_nonneg h0
  rw [← e]
  exact atI_nat h
end

/-! ### loops -/
theorem forL_inv {g : Tg} {body : C} {items : List Vl} {st : Sta} (I : Nat → Sta → Prop) (h0 : I 0 st)
    (h : ∀ i st v, I i st → items[i]? = some v → ∃ st1 st2, g v st = some st1 ∧ (body st1 = .nx st2 ∨ body st1 = .ct st2) ∧ I (i + 1) st2) : ∃ st', forL g body items st = .nx st' ∧ I items.length st' := by
  have main : ∀ (r : List Vl) (i : Nat) (st : Sta), items.drop i = r → I i st → i ≤ items.length → ∃ st', forL g body r st = .nx st' ∧ I items.length st' := by
    intro r
    induction r with
    | nil =>
      intro i st e hi hl
      have : items.length ≤ i := by
        have := congrArg List.length e
        rw [List.length_drop] at this
        simp at this
        omega
      have : i = items.length := by omega
      exact ⟨st, rfl, this ▸ hi⟩
    | cons v r ih =>
      intro i st e hi hl
      have hv : items[i]? = some v := by
        have := congrArg (fun l : List Vl => l[0]?) e
        simpa using this
      have hlt : i < items.length := (List.getElem?_eq_some_iff.mp hv).1
      have hr : items.drop (i + 1) = r := by
        rw [← List.drop_drop, e]; rfl
      obtain ⟨st1, st2, e1, e2, h2⟩ := h i st v hi hv
      obtain ⟨st', e3, h3⟩ := ih (i + 1) st2 hr h2 hlt
      refine ⟨st', ?_, h3⟩
      unfold forL
      rw [e1]
      rcases e2 with e2 | e2 <;> (simp only [e2]; exact e3)
  exact main items 0 st rfl h0 (Nat.zero_le _)
/-- over typed items, the state told by what is behind -/
theorem forL_map {γ : Type} {g : Tg} {body : C} {ev : γ → Vl} (xs : List γ) {st : Sta} (I : List γ → Sta → Prop) (h0 : I [] st)
    (h : ∀ (p : List γ) (x : γ) (r : List γ) st, xs = p ++ x :: r → I p st → ∃ st1 st2, g (ev x) st = some st1 ∧ (body st1 = .nx st2 ∨ body st1 = .ct st2) ∧ I (p ++ [x]) st2) : ∃ st', forL g body (xs.map ev) st = .nx st' ∧ I xs st' := by
  have main : ∀ (r p : List γ) (st : Sta), xs = p ++ r → I p st → ∃ st', forL g body (r.map ev) st = .nx st' ∧ I xs st' := by
    intro r
    induction r with
    | nil =>
      intro p st e hi
      rw [List.append_nil] at e
      exact ⟨st, rfl, e ▸ hi⟩
    | cons v r ih =>
      intro p st e hi
      obtain ⟨st1, st2, e1, e2, h2⟩ := h p v r st e hi
      obtain ⟨st', e3, h3⟩ := ih (p ++ [v]) st2 (by rw [e]; simp) h2
      refine ⟨st', ?_, h3⟩
      show forL g body (ev v :: r.map ev) st = _
      unfold forL
      rw [e1]
      rcases e2 with e2 | e2 <;> (simp only [e2]; exact e3)
  exact main xs [] st rfl h0
theorem compL_map {γ : Type} {vs : List Nat} {g : Tg} {cond elt : E} {tr : Bool} {ev h : γ → Vl} {P : γ → Bool} {st : Sta} : ∀ (xs : List γ),
    (∀ x ∈ xs, ∃ s, g (ev x) st = some s ∧ cond s = .ok (.bl (P x), s, false) ∧ (P x = true → elt s = .ok (h x, s, false) ∧ noTr (h x) = true) ∧ wipeS vs s = st) →
    compL vs g cond elt tr (xs.map ev) st = .ok ((xs.filter P).map h, st, false)
  | [], _ => rfl
  | x :: r, q => by
    obtain ⟨s, e1, e2, e3, e4⟩ := q x List.mem_cons_self
    have ih := compL_map (tr := tr) r fun y hy => q y (List.mem_cons_of_mem _ hy)
    show compL vs g cond elt tr (ev x :: r.map ev) st = _
    unfold compL
    rw [e1]
    simp only [e2]
    cases hp : P x with
    | false =>
      simp only [Bool.not_false, Bool.or_true, if_true, e4, ih]
      rw [List.filter_cons_of_neg (by rw [hp]; decide)]
      rfl
    | true =>
      obtain ⟨e5, e6⟩ := e3 hp
      simp only [e5, e6, Bool.or_false, Bool.not_false, Bool.or_true, Bool.and_true, if_true, e4, ih]
      rw [List.filter_cons_of_pos hp]
      rfl
theorem compE_map {γ : Type} {vs : List Nat} {g : Tg} {src : Src} {cond elt : E} {tr : Bool} {ev : γ → Vl} {st st1 : Sta} {e0 : Bool} (xs : List γ) (P : γ → Bool) (h : γ → Vl) (hs : src st = .ok (xs.map ev, tr, st1, e0)) (hl : (vs.any fun i => st1.la.contains i) = false)
    (hx : ∀ x ∈ xs, ∃ s, g (ev x) (wipeS vs st1) = some s ∧ cond s = .ok (.bl (P x), s, false) ∧ (P x = true → elt s = .ok (h x, s, false) ∧ noTr (h x) = true) ∧ wipeS vs s = wipeS vs st1) (hn : ((xs.filter P).map h).length < sizeLine) :
    compE vs g src cond elt st = .ok (mkL ((xs.filter P).map h), st1, e0) := by
  unfold compE
  rw [hs]
  simp only [hl]
  rw [compL_map xs hx]
  simp only [hn, decide_true, if_true, back_wipe, Bool.or_false]
  rfl
/-- no if -/
theorem compE_all {γ : Type} {vs : List Nat} {g : Tg} {src : Src} {elt : E} {tr : Bool} {ev : γ → Vl} {st st1 : Sta} {e0 : Bool} (xs : List γ) (h : γ → Vl) (hs : src st = .ok (xs.map ev, tr, st1, e0)) (hl : (vs.any fun i => st1.la.contains i) = false)
    (hx : ∀ x ∈ xs, ∃ s, g (ev x) (wipeS vs st1) = some s ∧ elt s = .ok (h x, s, false) ∧ noTr (h x) = true ∧ wipeS vs s = wipeS vs st1) (hn : xs.length < sizeLine) :
    compE vs g src (cstE (.bl true)) elt st = .ok (mkL (xs.map h), st1, e0) := by
  have ft : xs.filter (fun _ => true) = xs := List.filter_eq_self.mpr fun _ _ => rfl
  have := compE_map (cond := cstE (.bl true)) xs (fun _ => true) h hs hl (fun x m => by
    obtain ⟨s, a, b, c, d⟩ := hx x m
    exact ⟨s, a, rfl, fun _ => ⟨b, c⟩, d⟩) (by rw [ft, List.length_map]; exact hn)
  rw [ft] at this
  exact this
/-! ### for simp -/
theorem nt_non : noTr Vl.non = true := rfl
theorem nt_bl (b : Bool) : noTr (Vl.bl b) = true := rfl
theorem nt_int (i : Int) : noTr (Vl.int i) = true := rfl
theorem nt_str (x : PySem.Str) : noTr (Vl.str x) = true := rfl
theorem nt_tup (xs : List Vl) : noTr (.tup xs) = noTrs xs := rfl
theorem nt_nil : noTrs [] = true := rfl
theorem nt_cons (v : Vl) (r : List Vl) : noTrs (v :: r) = (noTr v && noTrs r) := rfl
theorem so_non : stor Vl.non = true := rfl
theorem so_bl (b : Bool) : stor (Vl.bl b) = true := rfl
theorem so_int (i : Int) : stor (Vl.int i) = true := rfl
theorem so_str (x : PySem.Str) : stor (Vl.str x) = true := rfl
theorem so_tup (xs : List Vl) : stor (.tup xs) = stors xs := rfl
theorem so_nil : stors [] = true := rfl
theorem so_cons (v : Vl) (r : List Vl) : stors (v :: r) = (stor v && stors r) := rfl
theorem no_non : noOwn Vl.non = true := rfl
theorem no_bl (b : Bool) : noOwn (Vl.bl b) = true := rfl
theorem no_int (i : Int) : noOwn (Vl.int i) = true := rfl
theorem no_str (x : PySem.Str) : noOwn (Vl.str x) = true := rfl
theorem no_tup (xs : List Vl) : noOwn (.tup xs) = noOwns xs := rfl
theorem no_nil : noOwns [] = true := rfl
theorem no_cons (v : Vl) (r : List Vl) : noOwns (v :: r) = (noOwn v && noOwns r) := rfl
theorem nr_non : noRef Vl.non = true := rfl
theorem nr_bl (b : Bool) : noRef (Vl.bl b) = true := rfl
theorem nr_int (i : Int) : noRef (Vl.int i) = true := rfl
theorem nr_str (x : PySem.Str) : noRef (Vl.str x) = true := rfl
theorem nr_tup (xs : List Vl) : noRef (.tup xs) = noRefs xs := rfl
theorem nr_nil : noRefs [] = true := rfl
theorem nr_cons (v : Vl) (r : List Vl) : noRefs (v :: r) = (noRef v && noRefs r) := rfl
theorem ao_non : allOwn Vl.non = true := rfl
theorem ao_bl (b : Bool) : allOwn (Vl.bl b) = true := rfl
theorem ao_int (i : Int) : allOwn (Vl.int i) = true := rfl
theorem ao_str (x : PySem.Str) : allOwn (Vl.str x) = true := rfl
theorem ao_tup (xs : List Vl) : allOwn (.tup xs) = allOwns xs := rfl
theorem ao_nil : allOwns [] = true := rfl
theorem ao_cons (v : Vl) (r : List Vl) : allOwns (v :: r) = (allOwn v && allOwns r) := rfl
theorem pk_non : peek Vl.non = Vl.non := rfl
theorem pk_bl (b : Bool) : peek (Vl.bl b) = (Vl.bl b) := rfl
theorem pk_int (i : Int) : peek (Vl.int i) = (Vl.int i) := rfl
theorem pk_str (x : PySem.Str) : peek (Vl.str x) = (Vl.str x) := rfl
theorem pk_tup (xs : List Vl) : peek (.tup xs) = .tup (peeks xs) := rfl
theorem pk_nil : peeks [] = [] := rfl
theorem pk_cons (v : Vl) (r : List Vl) : peeks (v :: r) = peek v :: peeks r := rfl
theorem sf_non (f : Fl) : setF f Vl.non = Vl.non := rfl
theorem sf_bl (f : Fl) (b : Bool) : setF f (Vl.bl b) = (Vl.bl b) := rfl
theorem sf_int (f : Fl) (i : Int) : setF f (Vl.int i) = (Vl.int i) := rfl
theorem sf_str (f : Fl) (x : PySem.Str) : setF f (Vl.str x) = (Vl.str x) := rfl
theorem sf_tup (f : Fl) (xs : List Vl) : setF f (.tup xs) = .tup (setFs f xs) := rfl
theorem sf_nil (f : Fl) : setFs f [] = [] := rfl
theorem sf_cons (f : Fl) (v : Vl) (r : List Vl) : setFs f (v :: r) = setF f v :: setFs f r := rfl
section
variable {α β : Type} [DecidableEq α] [Enc α] [DecidableEq β] [Enc β]
theorem en_int (f : Fl) (i : Int) : enc f i = .int i := rfl
theorem en_bl (f : Fl) (i : Bool) : enc f i = .bl i := rfl
theorem en_pair (f : Fl) (p : α × β) : enc f p = .tup [enc f p.1, enc f p.2] := rfl
theorem en_nil (f : Fl) : (Vl.nd f .lst []) = enc f ([] : List α) := rfl
theorem sf_enc (f g : Fl) (a : α) : setF g (enc f a) = enc g a := Enc.setF_ f g a
theorem pk_own (a : α) : peek (enc .own a) = enc .tr a := Enc.peek_ .own a
theorem pk_sh (a : α) : peek (enc .sh a) = enc .sh a := Enc.peek_ .sh a
theorem pk_tr (a : α) : peek (enc .tr a) = enc .tr a := Enc.peek_ .tr a
theorem nr_enc (f : Fl) (a : α) : noRef (enc f a) = true := Enc.noRef_ f a
theorem ao_enc (a : α) : allOwn (enc .own a) = true := Enc.allOwn_ a
theorem so_own (a : α) : stor (enc .own a) = true := Enc.stor_ .own a rfl
theorem so_sh (a : α) : stor (enc .sh a) = true := Enc.stor_ .sh a rfl
theorem nt_own (a : α) : noTr (enc .own a) = true := Enc.noTr_ .own a rfl
theorem nt_sh (a : α) : noTr (enc .sh a) = true := Enc.noTr_ .sh a rfl
theorem no_sh (a : α) : noOwn (enc .sh a) = true := Enc.noOwn_ .sh a rfl
theorem no_tr (a : α) : noOwn (enc .tr a) = true := Enc.noOwn_ .tr a rfl
theorem no_own (xs : List α) : noOwn (enc .own xs) = false := rfl
theorem nt_tr (xs : List α) : noTr (enc .tr xs) = false := rfl
theorem gLen_enc (f : Fl) (xs : List α) : gLen [enc f xs] = some (.int xs.length) := by show some (Vl.int ((xs.map (enc f)).length : Nat)) = _; rw [List.length_map]
theorem gIx_enc (f : Fl) (xs : List α) (i : Int) : gIx [enc f xs, .int i] = (atI xs i).map (enc f) := atI_map _ _ _
theorem gIx_at {f : Fl} {xs : List α} {i : Int} {x : α} (h0 : 0 ≤ i) (h : xs[i.toNat]? = some x) : gIx [enc f xs, .int i] = some (enc f x) := by rw [gIx_enc, atI_pos h0 h]; rfl
theorem gIx_0 (a : Vl) (r : List Vl) : gIx [.tup (a :: r), .int 0] = some a := by
  show atI (a :: r) 0 = _
  exact atI_pos (by decide) rfl
theorem gIx_1 (a b : Vl) (r : List Vl) : gIx [.tup (a :: b :: r), .int 1] = some b := by
  show atI (a :: b :: r) 1 = _
  exact atI_pos (by decide) rfl
theorem gList_sh (xs : List α) : gList [enc .sh xs] = some (mkL (xs.map (enc .sh))) := rfl
theorem isi_enc (f : Fl) (xs : List α) (b : String) (h : isiT b = true) : gIsi [enc f xs, .sym (.ty b)] = some (.bl (isiB "list" b)) := by
  show (if isiT b = true then some (Vl.bl (isiB "list" b)) else none) = _
  rw [if_pos h]
theorem gLst_nil : gLst [] = some (enc .own ([] : List α)) := rfl
theorem fld_seq (f : Fl) (h : (f != .tr) = true) (xs : List α) : hSeq [enc f xs] = some (xs.map (enc f), false) := by
  show some (xs.map (enc f), f == .tr || !noTrs (xs.map (enc f))) = _
  rw [noTrs_enc f h]
  cases f <;> first | rfl | cases h
theorem hSeq_sh (xs : List α) : hSeq [enc .sh xs] = some (xs.map (enc .sh), false) := fld_seq .sh rfl xs
theorem inB_ok {n : Nat} {j : Int} (h : j.natAbs ≤ n) : inB n j = true := by rw [inB_eq]; exact h
theorem hRng1_ok {j : Int} (h : j.natAbs ≤ 4611686018427387903) : hRng1 [.int j] = some (intsV 0 j.toNat, false) := if_pos (inB_ok h)
theorem hRng2_ok {i j : Int} (h1 : i.natAbs ≤ 4611686018427387903) (h2 : j.natAbs ≤ 4611686018427387903) : hRng2 [.int i, .int j] = some (intsV i (j - i).toNat, false) := if_pos (by rw [inB_ok h1, inB_ok h2]; rfl)
end
theorem gSub_ok (i j : Int) : gSub [.int i, .int j] = some (.int (i - j)) := rfl
theorem gAdd_ok (i j : Int) : gAdd [.int i, .int j] = some (.int (i + j)) := rfl
theorem gNeg_ok (i : Int) : gNeg [.int i] = some (.int (-i)) := rfl
theorem gMod_ok {i j : Int} (h : 0 < j) : gMod [.int i, .int j] = some (.int (i % j)) := by
  show (if decide (0 < j) = true then _ else _) = _
  rw [decide_eq_true h]; rfl
theorem gDiv_ok {i j : Int} (h : 0 < j) (h2 : j < 1073741824) : gDiv [.int i, .int j] = some (.int (i / j)) := if_pos (by show (decide (0 < j) && inB 1073741823 j) = true; rw [decide_eq_true h, inB_ok (by omega)]; rfl)
theorem gShl_ok {i j : Int} (h : 0 ≤ j) (h2 : j ≤ 1000000) (h3 : i.natAbs ≤ 18446744073709551615) : gShl [.int i, .int j] = some (.int (i * 2 ^ j.toNat)) := if_pos (by show (decide (0 ≤ j) && inB 1000000 j && inB 18446744073709551615 i) = true; rw [decide_eq_true h, inB_ok (by omega), inB_ok h3]; rfl)
theorem gShr_ok {i j : Int} (h : 0 ≤ j) : gShr [.int i, .int j] = some (.int (i / 2 ^ j.toNat)) := if_pos (decide_eq_true h)
theorem gMul_r {i j : Int} (h : j.natAbs ≤ 18446744073709551615) : gMul [.int i, .int j] = some (.int (i * j)) := if_pos (by rw [inB_ok h, Bool.or_true])
theorem gMul_l {i j : Int} (h : i.natAbs ≤ 18446744073709551615) : gMul [.int i, .int j] = some (.int (i * j)) := if_pos (by rw [inB_ok h, Bool.true_or])
theorem gLR1_ok {j : Int} (h : j.natAbs ≤ 16777216) : gLR1 [.int j] = some (.nd .own .lst (intsV 0 j.toNat)) := if_pos (inB_ok h)
theorem gLR2_ok {i j : Int} (h1 : i.natAbs ≤ 4194304) (h2 : j.natAbs ≤ 4194304) : gLR2 [.int i, .int j] = some (.nd .own .lst (intsV i (j - i).toNat)) := if_pos (by rw [inB_ok (by omega), inB_ok (by omega), decide_eq_true (by omega)]; rfl)
theorem gLt_ok (i j : Int) : gLt [.int i, .int j] = some (.bl (decide (i < j))) := rfl
theorem gLe_ok (i j : Int) : gLe [.int i, .int j] = some (.bl (decide (i ≤ j))) := rfl
theorem gGt_ok (i j : Int) : gGt [.int i, .int j] = some (.bl (decide (j < i))) := rfl
theorem gGe_ok (i j : Int) : gGe [.int i, .int j] = some (.bl (decide (j ≤ i))) := rfl
theorem gNot_ok (b : Bool) : gNot [.bl b] = some (.bl (!b)) := rfl
theorem sz16 : 16777216 ≤ sizeLine := by rw [sizeLine_eq]; exact Nat.le_refl _
theorem sz2 : 64 ≤ sizeLine := by rw [sizeLine_eq]; decide
theorem gTup_le {xs : List Vl} (h : xs.length ≤ 64) : gTup xs = some (.tup xs) := if_pos (Nat.le_trans h sz2)
theorem gTup_2 (a b : Vl) : gTup [a, b] = some (.tup [a, b]) := gTup_le (by show _ ≤ _; simp)
theorem gTup_3 (a b c : Vl) : gTup [a, b, c] = some (.tup [a, b, c]) := gTup_le (by show _ ≤ _; simp)
theorem gLst_le {xs : List Vl} (h : xs.length ≤ 64) : gLst xs = some (mkL xs) := if_pos (Nat.le_trans h sz2)
theorem gMax2_ok (i j : Int) : gMax2 [.int i, .int j] = some (.int (if j > i then j else i)) := rfl
theorem gMin2_ok (i j : Int) : gMin2 [.int i, .int j] = some (.int (if j < i then j else i)) := rfl
theorem isi_int_int (i : Int) : gIsi [.int i, .sym (.ty "int")] = some (.bl true) := rfl
theorem isi_int_bool (i : Int) : gIsi [.int i, .sym (.ty "bool")] = some (.bl false) := rfl
theorem isi_tup (xs : List Vl) : gIsi [.tup xs, .sym (.ty "tuple")] = some (.bl true) := rfl
theorem isi_int_list (i : Int) : gIsi [.int i, .sym (.ty "list")] = some (.bl false) := rfl
theorem isi_list {α : Type} [DecidableEq α] [Enc α] (f : Fl) (xs : List α) : gIsi [enc f xs, .sym (.ty "list")] = some (.bl true) := rfl
end PyI
namespace PyI
/-! ### lists of whole numbers, as they stand -/
theorem ints_so : ∀ ns : List Int, stors (ns.map Vl.int) = true := stors_enc (α := Int) .own rfl
theorem ints_nt : ∀ ns : List Int, noTrs (ns.map Vl.int) = true := noTrs_enc (α := Int) .own rfl
theorem ints_no : ∀ ns : List Int, noOwns (ns.map Vl.int) = true := noOwns_enc (α := Int) .sh rfl
theorem ints_nr : ∀ ns : List Int, noRefs (ns.map Vl.int) = true := noRefs_enc (α := Int) .sh
theorem ints_ao : ∀ ns : List Int, allOwns (ns.map Vl.int) = true := allOwns_enc (α := Int)
theorem ints_pk (ns : List Int) : peeks (ns.map Vl.int) = ns.map Vl.int := peeks_enc (α := Int) .own ns
theorem ints_sf (f : Fl) (ns : List Int) : setFs f (ns.map Vl.int) = ns.map Vl.int := setFs_enc (α := Int) .own f ns
theorem ints_snoc (ns : List Int) (n : Int) : ns.map Vl.int ++ [.int n] = (ns ++ [n]).map Vl.int := by simp
theorem pk_nd (f : Fl) (k : Kd) (xs : List Vl) : peek (.nd f k xs) = .nd (if f = .own then .tr else f) k (peeks xs) := rfl
theorem sf_nd (f g : Fl) (k : Kd) (xs : List Vl) : setF g (.nd f k xs) = .nd g k (setFs g xs) := rfl
theorem nt_nd (f : Fl) (k : Kd) (xs : List Vl) : noTr (.nd f k xs) = (f != .tr && noTrs xs) := rfl
theorem so_nd (f : Fl) (k : Kd) (xs : List Vl) : stor (.nd f k xs) = ((f == .own || f == .sh) && stors xs) := rfl
theorem no_nd (f : Fl) (k : Kd) (xs : List Vl) : noOwn (.nd f k xs) = (f != .own && noOwns xs) := rfl
theorem nr_nd (f : Fl) (k : Kd) (xs : List Vl) : noRef (.nd f k xs) = noRefs xs := rfl
theorem ao_nd (f : Fl) (k : Kd) (xs : List Vl) : allOwn (.nd f k xs) = (f == .own && allOwns xs) := rfl
theorem so_app : ∀ (xs ys : List Vl), stors (xs ++ ys) = (stors xs && stors ys)
  | [], _ => rfl
  | x :: r, ys => by show (stor x && stors (r ++ ys)) = ((stor x && stors r) && stors ys); rw [so_app, Bool.and_assoc]
theorem fl_own_tr : (Fl.own = Fl.own) = True := by simp
theorem fb1 : (Fl.own != Fl.tr) = true := rfl
theorem fb2 : (Fl.sh != Fl.tr) = true := rfl
theorem fb3 : (Fl.tr != Fl.tr) = false := rfl
theorem fb4 : (Fl.own == Fl.own) = true := rfl
theorem fb5 : (Fl.sh == Fl.own) = false := rfl
theorem fb6 : (Fl.tr == Fl.own) = false := rfl
theorem fb7 : (Fl.sh == Fl.sh) = true := rfl
theorem fb8 : (Fl.tr == Fl.sh) = false := rfl
theorem fb9 : (Fl.own != Fl.own) = false := rfl
theorem fb10 : (Fl.sh != Fl.own) = true := rfl
theorem fb11 : (Fl.tr != Fl.own) = true := rfl
theorem fb12 : (Fl.tr == Fl.tr) = true := rfl
theorem fb13 : (Fl.own == Fl.tr) = false := rfl
theorem fb14 : (Fl.sh == Fl.tr) = false := rfl
theorem fp1 (a : Fl) : (if Fl.own = Fl.own then Fl.tr else a) = Fl.tr := rfl
theorem fp2 : (if Fl.sh = Fl.own then Fl.tr else Fl.sh) = Fl.sh := rfl
theorem fp3 : (if Fl.tr = Fl.own then Fl.tr else Fl.tr) = Fl.tr := rfl
theorem gLen_nd (f : Fl) (xs : List Vl) : gLen [.nd f .lst xs] = some (.int xs.length) := rfl
theorem gIx_nd (f : Fl) (xs : List Vl) (i : Int) : gIx [.nd f .lst xs, .int i] = L2.atI xs i := rfl
theorem atI_ints {ns : List Int} {i : Int} {x : Int} (h0 : 0 ≤ i) (h : ns[i.toNat]? = some x) : L2.atI (ns.map Vl.int) i = some (.int x) := by rw [atI_map, atI_pos h0 h]; rfl
theorem gLst_0 : gLst [] = some (.nd .own .lst []) := rfl
theorem isi_lst (f : Fl) (xs : List Vl) : gIsi [.nd f .lst xs, .sym (.ty "list")] = some (.bl true) := rfl
theorem hSeq_nd (f : Fl) (xs : List Vl) : hSeq [.nd f .lst xs] = some (xs, f == .tr || !noTrs xs) := rfl
end PyI
namespace PyI
theorem mkL_ints (ns : List Int) : mkL (ns.map Vl.int) = .nd .own .lst (ns.map Vl.int) := by
  unfold mkL
  rw [if_pos (ints_so ns)]
theorem map_ints {γ : Type} (g : γ → Int) (xs : List γ) : (xs.map fun j => Vl.int (g j)) = (xs.map g).map Vl.int := by
  rw [List.map_map]; rfl
end PyI
namespace PyI
theorem seqC_assoc (f g h : C) : seqC (seqC f g) h = seqC f (seqC g h) := by
  funext st
  unfold seqC
  cases f st <;> rfl
end PyI
namespace PyI
theorem cut_ints (ns : List Int) (lo hi : Option Int) : ∃ ms : List Int, cutL (ns.map Vl.int) lo hi = ms.map Vl.int ∧ ms.length ≤ ns.length := by
  unfold cutL
  refine ⟨(ns.drop (HT.sIx (ns.map Vl.int).length 0 lo)).take (HT.sIx (ns.map Vl.int).length (ns.map Vl.int).length hi - HT.sIx (ns.map Vl.int).length 0 lo), ?_, ?_⟩
  · rw [List.map_take, List.map_drop]
  · rw [List.length_take, List.length_drop]; omega
theorem gSlH_ints (f : Fl) (ns : List Int) (i : Int) : ∃ ms : List Int, gSlH [.nd f .lst (ns.map Vl.int), .int i] = some (.nd .own .lst (ms.map Vl.int)) ∧ ms.length ≤ ns.length := by
  obtain ⟨ms, h1, h2⟩ := cut_ints ns none (some i)
  refine ⟨ms, ?_, h2⟩
  show some (mkL (cutL (ns.map Vl.int) none (some i))) = _
  rw [h1, mkL_ints]
theorem gAdd_ints (f g : Fl) (ns ms : List Int) (h : ns.length + ms.length ≤ 1000) : gAdd [.nd f .lst (ns.map Vl.int), .nd g .lst (ms.map Vl.int)] = some (.nd .own .lst ((ns ++ ms).map Vl.int)) := by
  show (if (ns.map Vl.int).length + (ms.map Vl.int).length ≤ PySem.sizeLine then some (mkL (ns.map Vl.int ++ ms.map Vl.int)) else none) = _
  have hz := sz16
  rw [if_pos (by rw [List.length_map, List.length_map]; omega), ← List.map_append, mkL_ints]
theorem gList_ints (f : Fl) (ns : List Int) : gList [.nd f .lst (ns.map Vl.int)] = some (.nd .own .lst (ns.map Vl.int)) := by
  show some (mkL _) = _
  rw [mkL_ints]
end PyI

namespace L2
open PySem PySem.Spec PyProof.Rows
/-- what 'except x as n' wishes of an exception of the body: the exception stands in the heap behind it -/
def wAsT (K : PySem.W.Frag) (c : Value) (i : Nat) (ts : Addr → Value → TS) (Wout : WX) (D : Ends) : WX := fun cls d σ H =>
  ∃ b, PySem.W.exmOne K cls c = some b ∧ (b = true → d = none ∧ ∀ a, H a = none → ts a cls { nx := fun σ' H' => D.nx (σ'.set i none) H', rt := D.rt, bk := fun σ' H' => D.bk (σ'.set i none) H', ct := fun σ' H' => D.ct (σ'.set i none) H' } (σ.set i (some (.ref a))) (upd H a (PyI.ExT cls a))) ∧
    (b = false → Wout cls d σ H)
section
variable {X : Cx} {pins : List (Addr × Obj)} {σ : St} {H : Hp} {s : Shared}
theorem Inv.suiteT {a : Addr} {oe : Obj} {vs : Array Value} {cls : Value} (I : Inv X pins σ H s) (ha : s.heap.get? a = some oe) (hz : Zc cls none oe) (hd : oe.data = .fields vs) (na : H a = none) (nL : a ≠ X.env.locals) (nC : ∀ x c, X.env.cells.lookup x = some c → c ≠ a) (n0 : X.s_0.heap.get? a = none) (nP : ∀ p ∈ X.pn ++ pins, p.1 ≠ a) :
    Inv (X.suite a (X.pn ++ pins)) [] σ (upd H a (PyI.ExT cls a)) s := by
  have ne0 : ∀ b o, X.s_0.heap.get? b = some o → b ≠ a := fun b o e z => by rw [z, n0] at e; cases e
  refine ⟨I.ok.suite _ _, I.os, I.bare, ⟨I.base.keep, I.base.slot, fun b o e n hb => ?_, I.base.there, fun b xs e => ?_, fun b o u e => ?_, fun b ps e => ?_⟩, I.loc, I.cell, ?_, fun x c e => ?_, fun p hp => ?_, fun b o e => ?_, I.len⟩
  · rw [upd_ne (ne0 b o e)]; exact I.base.free b o e n hb
  · have q := I.base.tups b xs e
    rw [upd_ne (ne_of_none q na)]; exact q
  · have q := I.base.frzs b o u e
    rw [upd_ne (ne_of_none q na)]; exact q
  · obtain ⟨m, q⟩ := I.base.tbls b ps e
    exact ⟨m, by rw [upd_ne (ne_of_none q na)]; exact q⟩
  · rw [upd_ne (Ne.symm nL)]; exact I.free
  · rw [upd_ne (nC x c e)]; exact I.freeC x c e
  · rw [List.append_nil] at hp
    obtain ⟨e, n, ne, nf, d⟩ := I.pin p hp
    exact ⟨e, by rw [upd_ne (nP p hp)]; exact n, ne, nf, d⟩
  · by_cases hb : b = a
    · subst hb
      rw [upd_same] at e
      cases e
      exact ⟨⟨oe, ha, hz, vs, hd⟩, ⟨oe, ha⟩, fun _ _ ⟨o, v, q⟩ k => ⟨o, k o v, q⟩⟩
    · rw [upd_ne hb] at e
      exact (I.hok b o e).stay (fun c v _ q => q) (fun c q => by rw [upd_ne (ne_of_none q na)]; exact q) fun c xs q => by rw [upd_ne (ne_of_none q na)]; exact q
theorem Inv.unsuiteT {a : Addr} {pn' : List (Addr × Obj)} (I : Inv (X.suite a (X.pn ++ pins)) pn' σ H s) (ok : X.Ok) : Inv X pins σ H s :=
  ⟨ok, I.os, I.bare, I.base, I.loc, I.cell, I.free, I.freeC, fun p hp => I.pin p (List.mem_append_left _ hp), I.hok, I.len⟩
end
section
variable {X : Cx} {x n : Str} {c : Value} {i : Nat} {body suite : List Stmt} {b₀ : Stmt} {np pos pos' : Pos} {tb : WX → TS} {ts : Addr → Value → TS} {Wout : WX}
theorem ps_try_asT (hs : X.stack = X.env :: X.outer) (hf : X.env.frame = some X.env.locals) (hex : X.ex = []) (hN : X.N.Nodup) (hi : X.N[i]? = some n) (hln : X.env.kindOf n = some .local) (hc : Names X x c) (tk : Takes X Wout)
    (hb : ∀ (W : WX) (pn : List (Addr × Obj)) (xe : Value → Shared → Prop), Takes (X.tr pn xe) W → PassesOwn (model X.prog X.w) X.A X.env xe → PSs (X.tr pn xe) body (tb W))
    (hsu : ∀ (a : Addr) (cls : Value) (pn : List (Addr × Obj)), PSs (X.suite a pn) (b₀ :: suite) (ts a cls)) :
    PS X (.Try body [.ExceptHandler (some (.Name x np)) (some n) (b₀ :: suite) pos'] [] [] pos) (fun D σ H => tb (wAsT X.K c i ts Wout D) D σ H) := by
  refine ⟨fun pins s σ H D I h => ?_⟩
  have ok := I.ok
  have hfr : X.A.frames = some (X.env :: X.outer) := by rw [ok.frames, hs]
  have hloc : Loc X.env.scope n := .inl hln
  refine wpAny_Try_except ?_
  refine wpAny_mono ((hb (wAsT X.K c i ts Wout D) (X.pn ++ pins) (fun e s₁ => wpAny (model X.prog X.w) X.A (noteFrame e X.env) (fun _ s₂ => wpAny (model X.prog X.w) X.A (setFlight e none) (fun _ s₃ =>
    wpAny (model X.prog X.w) X.A (handleBy e X.env [.ExceptHandler (some (.Name x np)) (some n) (b₀ :: suite) pos']) (SP X pins D) X.xe s₃) X.xe s₂) X.xe s₁) (fun u s' xx => ?_) PassesOwn.looking).run [] s σ H D (I.toTry _) h) (fun f s1 hsp => ?_) (fun e s1 he => he)
  · obtain ⟨a, B, sI, pins', σ', H', cls, d, rfl, J', nb, up, sky, na, os, ag, b, hb1, hyes, hno⟩ := xx
    have J : Inv X pins σ' H' sI := J'.ofTry ok
    have sky' : Sky B (X.env :: X.outer) a (Zc cls d) X.env.locals s'.heap := by rw [← hs]; exact sky
    show wpAny (model X.prog X.w) X.A (noteFrame (.ref a) X.env) _ _ _
    refine Sky.land Zc.steady hfr hf sky' fun h3 fl3 up3 => ?_
    have J3 : Inv X pins σ' H' { s' with heap := h3 } := J.landed nb fl3.1 (up.trans up3) os ag
    obtain ⟨oe3, vs3, he3, hz3, hd3⟩ := fl3.there
    have notFr : ∀ {h : Heap} {o : Obj} {vs : Array Value}, h.FunFrames B (X.env :: X.outer) → h.get? a = some o → o.data = .fields vs → a ∉ frs (X.env :: X.outer) := fun {h o vs} ff e dd hm => by
      obtain ⟨_, o', e', hnf⟩ := ff.mem hm
      rw [e] at e'; cases e'
      exact hnf _ dd
    have nfr := notFr fl3.2.2.1 he3 hd3
    have nL : a ≠ X.env.locals := fun z => nfr (List.mem_filterMap.mpr ⟨X.env, List.mem_cons_self, by rw [hf, z]⟩)
    have nF : a ∉ X.fs := fun hm => by
      obtain ⟨e, he, q⟩ := List.mem_filterMap.mp hm
      exact nfr (List.mem_filterMap.mpr ⟨e, List.mem_cons_of_mem _ he, q⟩)
    have nB : B.get? a = none := fl3.2.1
    have noI : sI.heap.get? a = none := by
      cases e : sI.heap.get? a with
      | none => rfl
      | some o =>
        have := nb a o e (by rw [hs]; exact nfr)
        rw [nB] at this
        cases this
    have n0 : X.s_0.heap.get? a = none := by
      cases e : X.s_0.heap.get? a with
      | none => rfl
      | some o =>
        obtain ⟨o', q⟩ := J.base.there a o e (by rw [hex]; exact fun z => nomatch z)
        rw [noI] at q
        cases q
    have S3 := J3.suite he3 hd3 na nL nF
    refine wpAny_handleBy_cons (codeAny_handlers_test ?_) (by intro q; cases q)
    have LT : PySem.W.Looks (model X.prog X.w) h3 (typeOf (.ref a)) cls := fun A Q E s k q => wpAny_typeOf_ref (k _ _ he3) (by rw [hz3.1]; exact q)
    have LM := PySem.W.exm_one (M := model X.prog X.w) (J3.kIn) LT hb1
    have test : ∀ {Q : Value → Shared → Prop} {E : Value → Shared → Prop}, Q c { s' with heap := h3 } → wpAny (model X.prog X.w) (X.A.mark (some (.ref a))) (eval (.Name x np) X.env) Q E { s' with heap := h3 } := fun {Q E} q => by
      obtain ⟨hg, hdbg, hm | ⟨hm, hv, hnn⟩⟩ := hc
      · exact ld_glob (X := X.suite a ((a, oe3) :: (X.pn ++ pins))) S3 hg hm q hdbg
      · exact ld_blt (X := X.suite a ((a, oe3) :: (X.pn ++ pins))) S3 hg hm hv q hnn hdbg
    refine test (LM.here ?_)
    cases b with
    | true =>
      obtain ⟨hd0, hy2⟩ := hyes rfl
      subst hd0
      refine codeAny_handlers_suite_as ?_
      refine HandSPX.lands_againZ fl3 fun h4 fl4 up4 => ?_
      have J4 : Inv X pins σ' H' { s' with heap := h4 } := J.landed nb fl4.1 ((up.trans up3).trans up4) os ag
      obtain ⟨oe4, vs4, he4, hz4, hd4⟩ := fl4.there
      have S4 := J4.suiteT (a := a) he4 hz4 hd4 na nL (fun y c e z => by
        obtain ⟨v, o, q, _⟩ := J.cell y c e
        rw [z, noI] at q
        cases q) n0 fun p hp z => by
          obtain ⟨e, _⟩ := J.pin p hp
          rw [z, noI] at e
          cases e
      refine store_ok (X := X.suite a (X.pn ++ pins)) (v := .ref a) S4 hN hi hloc rfl (fun s5 S5 => ?_) (.inr hln)
      refine wpAny_mono ((hsu a cls (X.pn ++ pins)).run [] s5 _ _ _ S5 (hy2 a na)) (fun f s6 hsp => ?_) (fun _ _ z => False.elim z)
      have end_ : ∀ {σ6 : St} {H6 : Hp} {Q : Shared → Prop}, Inv (X.suite a (X.pn ++ pins)) [] σ6 H6 s6 → (∀ s7, Inv X pins (σ6.set i none) H6 s7 → Q s7) →
          wpAny (model X.prog X.w) X.A (do bindName X.env n .none; unbindBehindTheSuite X.env n pos') (fun _ s7 => Q s7) X.xe s6 := fun {σ6 H6 Q} S6 hq => gone_ok (S6.unsuiteT ok) hN hi hln hq
      cases f with
      | next =>
        obtain ⟨σ6, H6, S6, q6⟩ := hsp
        exact end_ S6 fun s7 J7 => ⟨_, _, J7, q6⟩
      | brk =>
        obtain ⟨σ6, H6, S6, q6⟩ := hsp
        exact end_ S6 fun s7 J7 => ⟨_, _, J7, q6⟩
      | cont =>
        obtain ⟨σ6, H6, S6, q6⟩ := hsp
        exact end_ S6 fun s7 J7 => ⟨_, _, J7, q6⟩
      | ret u =>
        obtain ⟨v6, σ6, H6, S6, r6, q6⟩ := hsp
        exact end_ S6 fun s7 J7 => ⟨_, _, _, J7, r6, q6⟩
    | false =>
      show wpAny _ X.A (handleBy (.ref a) X.env []) _ _ _
      refine wpAny_handleBy_nil ?_
      obtain ⟨k1, k2, k3, oe, vs, T, oT, ts', he, hz, hd, h1, hr⟩ := id fl3
      unfold PySem.passOn
      refine wpAny_bind (wpAny_field he hd h1 ?_)
      rw [if_neg (show ¬ ((Value.ref T == Value.none) = true) from by simp)]
      have fin : wpAny (model X.prog X.w) X.A (setFlight (.ref a) X.env.frame) (fun _ s4 => wpAny (model X.prog X.w) X.A (throw (.ref a) : Sem Flow) (SP X pins D) X.xe s4) X.xe { s' with heap := h3 } := by
        rw [hf]
        refine HandSPX.setFlight_upZ fl3 fun h4 hh4 up4 => wpAny_throw (tk _ _ ?_)
        exact ⟨a, B, sI, pins, σ', H', cls, d, rfl, J, nb, (up.trans up3).trans up4, .inr (.inr (by rw [hs]; exact hh4)), na, os, ag, hno rfl⟩
      first
        | exact wpAny_bind (wpAny_pure (wpAny_bind fin))
        | exact wpAny_bind fin
  · cases f with
    | next =>
      obtain ⟨σ', H', J', q⟩ := hsp
      exact wpAny_execs_nil ⟨σ', H', J'.ofTry ok, q⟩
    | brk =>
      obtain ⟨σ', H', J', q⟩ := hsp
      exact ⟨σ', H', J'.ofTry ok, q⟩
    | cont =>
      obtain ⟨σ', H', J', q⟩ := hsp
      exact ⟨σ', H', J'.ofTry ok, q⟩
    | ret u =>
      obtain ⟨v, σ', H', J', r, q⟩ := hsp
      exact ⟨v, σ', H', J'.ofTry ok, r, q⟩
end
end L2
namespace PyI
open PySem PySem.Spec PyProof.Rows L2
/-! ### try -/
def clrS (i : Nat) (s : Sta) : Sta := { s with sl := s.sl.set i none }
def tryC (kn : List Str) (i : Nat) (body suite : C) : C := fun st => match body st with
  | .exc cl s1 => if kn.contains cl && decide (i < s1.sl.length) && !s1.la.contains i then (match suite { s1 with sl := s1.sl.set i (some (.sym (.exc cl))) } with
      | .nx s => if s.la.contains i then .bad else .nx (clrS i s)
      | .bk s => if s.la.contains i then .bad else .bk (clrS i s)
      | .ct s => if s.la.contains i then .bad else .ct (clrS i s)
      | .rt v s => .rt v s
      | _ => .bad) else .bad
  | z => z
section
variable {K : PySem.W.Frag} {mg : Str → Option Value} {H : Hp} {F T : Addr → Prop} {as : List Addr} {L : List (Nat × V)} {st : Sta} {σ : L2.St} {c : Addr → Nat}
theorem RepSl.clr : ∀ {sl : List (Option Vl)} {σ : L2.St} {c : Addr → Nat} (i : Nat), RepSl K mg H F T as sl σ c → ∃ c', RepSl K mg H F T as (sl.set i none) (σ.set i none) c' ∧ ∀ b, c' b ≤ c b
  | _, _, _, i, .nil hc => ⟨_, .nil hc, fun _ => Nat.le_refl _⟩
  | _, _, _, 0, .no s => ⟨_, .no s, fun _ => Nat.le_refl _⟩
  | _, _, _, i + 1, .no s => by
    obtain ⟨c', h1, h2⟩ := s.clr i
    exact ⟨c', .no h1, h2⟩
  | _, _, _, 0, .yes r nt s hc => ⟨_, .no s, fun b => by rw [hc]; omega⟩
  | _, _, _, i + 1, .yes r nt s hc => by
    obtain ⟨c', h1, h2⟩ := s.clr i
    exact ⟨_, .yes r nt h1 (fun _ => rfl), fun b => by rw [hc]; have := h2 b; omega⟩
theorem Rel.clr (r : Rel K mg F T as L st σ H c) {i : Nat} (hl : st.la.contains i = false) : ∃ c', Rel K mg F T as L (clrS i st) (σ.set i none) H c' ∧ ∀ b, c' b ≤ c b := by
  obtain ⟨d1, d2, h1, h2, h3, h4⟩ := r.rep
  obtain ⟨d3, s3, k3⟩ := h1.clr i
  refine ⟨fun b => d3 b + d2 b, ⟨⟨d3, d2, s3, h2, h3, fun _ => rfl⟩, fun b => ?_, fun b q => ⟨?_, (r.fr b q).2⟩, r.lk.1, fun p hp => ?_⟩, fun b => ?_⟩
  · have := r.le b; have := k3 b; have := h4 b; show d3 b + d2 b ≤ 1; omega
  · have := (r.fr b q).1; have := k3 b; have := h4 b; show d3 b + d2 b = 0; omega
  · rw [List.getElem?_set_ne]
    · exact r.lk.2 p hp
    · intro e
      have hm : i ∈ st.la := by rw [r.lk.1, e]; exact List.mem_map_of_mem hp
      rw [List.contains_eq_mem, decide_eq_true hm] at hl
      cases hl
  · have := k3 b; have := h4 b; show d3 b + d2 b ≤ c b; omega
end
theorem takesF {X : Cx} : Takes X (fun _ _ _ _ => False) := fun _ _ ⟨_, _, _, _, _, _, _, _, _, _, _, _, _, _, _, _, w⟩ => w.elim
section
variable {X : Cx} {x n : Str} {c : Value} {i : Nat} {body suite : List Stmt} {b₀ : Stmt} {np pos pos' : Pos} {f g : C} {kn : List Str}
theorem SOk.try_ (hN : X.N.Nodup) (hx : ∀ cl, kn.contains cl = true → ∀ C, X.mg cl = some (.ref C) → PySem.W.exmOne X.K (.ref C) c = some true) (hc : Names X x c)
    (hb : ∀ (pn : List (Addr × Obj)) (xe : Value → Shared → Prop), PassesOwn (model X.prog X.w) X.A X.env xe → SsOk (X.tr pn xe) body f)
    (hsu : ∀ (a : Addr) (pn : List (Addr × Obj)), SsOk (X.suite a pn) (b₀ :: suite) g)
    (hs : X.stack = X.env :: X.outer := by rfl) (hf : X.env.frame = some X.env.locals := by rfl) (hex : X.ex = [] := by rfl) (hi : X.N[i]? = some n := by rfl) (hln : X.env.kindOf n = some .local := by rfl) :
    SOk X (.Try body [.ExceptHandler (some (.Name x np)) (some n) (b₀ :: suite) pos'] [] [] pos) (tryC kn i f g) := fun W t =>
  (ps_try_asT (tb := fun W' => SI X.K X.mg W' f) (ts := fun _ _ => SI X.K X.mg (fun _ _ _ _ => False) g) hs hf hex hN hi hln hc t (fun W' pn xe t' po => hb pn xe po W' t') (fun a cls pn => hsu a pn _ takesF)).imp fun D σ H h => by
    obtain ⟨F, T, as, L, st, c0, r, p⟩ := h
    refine ⟨F, T, as, L, st, c0, r, ?_⟩
    unfold tryC at p
    cases e1 : f st with
    | nx s => rw [e1] at p; exact p
    | bk s => rw [e1] at p; exact p
    | ct s => rw [e1] at p; exact p
    | rt v s => rw [e1] at p; exact p
    | bad => rw [e1] at p; exact p
    | exc cl s1 =>
      rw [e1] at p
      simp only at p
      split at p
      · rename_i hk
        simp only [Bool.and_eq_true, decide_eq_true_eq, Bool.not_eq_true'] at hk
        intro F1 as1 σ1 H1 c1 r1 s1' p1 C hC
        refine ⟨true, hx cl hk.1.1 C hC, fun _ => ⟨rfl, fun a na => ?_⟩, fun z => nomatch z⟩
        have sm : Same H1 (upd H1 a (ExT (.ref C) a)) := same_new na
        have r2 := r1.same sm
        have fl : Fly X.K X.mg F1 T as1 L s1 σ1 (upd H1 a (ExT (.ref C) a)) c1 (fun _ => 0) := ⟨r2, r2.refl, fun _ _ => rfl⟩
        have rv : Rep X.K X.mg (upd H1 a (ExT (.ref C) a)) F1 T as1 (.sym (.exc cl)) (.ref a) (fun _ => 0) := .sym ⟨C, a, hC, rfl, upd_same⟩ fun _ => rfl
        obtain ⟨c', r3, k3⟩ := fl.store rv rfl hk.1.2 hk.2
        have sb : Step F c0 H F1 c' (upd H1 a (ExT (.ref C) a)) := ⟨fun b o e q => sm _ _ (s1'.keep b o e q), fun b q => s1'.grow b (by have := k3 b; have : c' b ≤ c1 b + 0 := this; omega), r3.le, s1'.sub, fun b q => by have := s1'.dis b q; have := k3 b; have : c' b ≤ c1 b + 0 := this; omega, s1'.fgr, fun b q => PyI.Same.trk sm b (s1'.trk b q)⟩
        refine ⟨F1, T, as1, L, _, c', r3, ?_⟩
        cases e2 : g { s1 with sl := s1.sl.set i (some (.sym (.exc cl))) } with
        | bad => rw [e2] at p; exact p
        | exc cl2 s => rw [e2] at p; exact (show False from p).elim
        | rt v s => rw [e2] at p; exact SPost.back p sb p1
        | nx s =>
          rw [e2] at p
          simp only at p
          split at p
          · exact (show False from p).elim
          · rename_i hl
            intro F2 as2 σ2 H2 c2 r4 s4 p4
            obtain ⟨c5, r5, k5⟩ := r4.clr (i := i) (by simpa using hl)
            exact SPost.back p sb p1 F2 as2 _ H2 c5 r5 (s4.less k5) p4
        | bk s =>
          rw [e2] at p
          simp only at p
          split at p
          · exact (show False from p).elim
          · rename_i hl
            intro F2 as2 σ2 H2 c2 r4 s4 p4
            obtain ⟨c5, r5, k5⟩ := r4.clr (i := i) (by simpa using hl)
            exact SPost.back p sb p1 F2 as2 _ H2 c5 r5 (s4.less k5) p4
        | ct s =>
          rw [e2] at p
          simp only at p
          split at p
          · exact (show False from p).elim
          · rename_i hl
            intro F2 as2 σ2 H2 c2 r4 s4 p4
            obtain ⟨c5, r5, k5⟩ := r4.clr (i := i) (by simpa using hl)
            exact SPost.back p sb p1 F2 as2 _ H2 c5 r5 (s4.less k5) p4
      · exact (show False from p).elim
end
end PyI

namespace PyI
open PySem PySem.Spec PyProof.Rows L2
/-! ### isinstance of a caught exception -/
def rIsX (K : PySem.W.Frag) : List V → Hp → VK → Prop := fun xs H Q => ∃ a D c, xs = [.ref a, c] ∧ H a = some (ExT (.ref D) a) ∧ L2.ExcC K D ∧
  ((∃ cv b, ClsV c cv ∧ PySem.W.kitOne K (.ref D) cv = some b ∧ Q (.bl b) H) ∨ (∃ tp cs us b, c = .ref tp ∧ SqT K H tp cs ∧ Paired ClsV cs us ∧ PySem.W.kitAny K (.ref D) us = some b ∧ Q (.bl b) H))
theorem call_isX {X : Cx} : CallR X (.builtin "isinstance") (rIsX X.K) := by
  intro pins s σ H xs us Q I r h
  obtain ⟨a, D, c, rfl, ha, C, h⟩ := h
  obtain ⟨u1, u2, rfl, r1, r2⟩ := vals2 r
  cases (show u1 = Value.ref a from r1)
  obtain ⟨⟨oe, hget, hz, hv⟩, _, _⟩ := I.hok a _ ha
  have J : PySem.W.InstAt s.heap a oe D none := by
    obtain ⟨vs, hv⟩ := hv
    obtain ⟨oc, od, oda, osl⟩ := oe
    obtain ⟨h1, h2⟩ := hz
    dsimp only at h1 h2 hv
    subst h1 h2 hv
    exact ⟨hget, rfl, rfl, trivial⟩
  rcases h with ⟨cv, b, k, e, q⟩ | ⟨tp, cs, ws, b, rfl, hT, k, e, q⟩
  · have e2 := k.eq r2
    subst e2
    exact PySem.W.kia_one (PySem.W.handS_kitx_exc C.hg C.hk C.hs C.hd C.ha C.hn C.ht C.hm) I.kIn J e (fun z => nomatch z) fun tk => ⟨.bl b, H, I.tok tk, rfl, q⟩
  · cases (show u2 = Value.ref tp from r2)
    obtain ⟨its, rv, ⟨o, h1, h2, n, h3⟩, _⟩ := I.tuple hT
    have e3 := ClsV.all k rv
    subst e3
    obtain ⟨oc, od, dt, sl⟩ := o
    simp only at h2 h3
    subst h2 h3
    exact PySem.W.kia_tup (PySem.W.handS_kitx_exc C.hg C.hk C.hs C.hd C.ha C.hn C.ht C.hm) I.kIn J h1 e (fun z => nomatch z) fun tk => ⟨.bl b, H, I.tok tk, rfl, q⟩
def isX (d c : Str) : Bool := d == c || c == "PairError"
def isX1 (cs : List Str) (d : Str) : Vl → Option Bool
  | .sym (.cls c) => if cs.contains c then some (isX d c) else none
  | .sym (.ty n) => if n == "ValueError" then some true else none
  | _ => none
def isXs (cs : List Str) (d : Str) : List Vl → Option Bool
  | [] => some false
  | v :: r => match isX1 cs d v with
    | some true => some true
    | some false => isXs cs d r
    | none => none
def clsOk : List Vl → Bool
  | [] => true
  | .sym (.cls _) :: r => clsOk r
  | .sym (.ty _) :: r => clsOk r
  | _ => false
def gIsX (ds cs : List Str) : List Vl → Option Vl
  | [.sym (.exc d), .tup vs] => if ds.contains d && clsOk vs then (isXs cs d vs).map .bl else none
  | [.sym (.exc d), v] => if ds.contains d then (isX1 cs d v).map .bl else none
  | _ => none
/-- what the written part says of the classes ds (raised) and cs (asked for) -/
def KX (K : PySem.W.Frag) (mg : Str → Option Value) (ds cs : List Str) : Prop := ∀ d, ds.contains d = true → ∀ D, mg d = some (.ref D) → L2.ExcC K D ∧ PySem.W.kitOne K (.ref D) (.type "ValueError") = some true ∧ ∀ c, cs.contains c = true → ∀ C, mg c = some (.ref C) → PySem.W.kitOne K (.ref D) (.ref C) = some (isX d c)
theorem KX.nil {K : PySem.W.Frag} {mg : Str → Option Value} {cs : List Str} : KX K mg [] cs := fun d h => by simp at h
def KX1 (K : PySem.W.Frag) (mg : Str → Option Value) (d : Str) (cs : List Str) : Prop := ∀ D, mg d = some (.ref D) → ∀ c, cs.contains c = true → ∀ C, mg c = some (.ref C) → PySem.W.kitOne K (.ref D) (.ref C) = some (isX d c)
theorem KX1.nil {K : PySem.W.Frag} {mg : Str → Option Value} {d : Str} : KX1 K mg d [] := fun D _ c h => by simp at h
theorem KX1.cons {K : PySem.W.Frag} {mg : Str → Option Value} {d c : Str} {cs : List Str} {D C : Addr} {b : Bool} (hd : mg d = some (.ref D)) (hc : mg c = some (.ref C)) (h : PySem.W.kitOne K (.ref D) (.ref C) = some b) (hb : isX d c = b) (r : KX1 K mg d cs) : KX1 K mg d (c :: cs) := fun D' e1 c' e2 C' e3 => by
  rw [hd] at e1
  cases e1
  rw [List.contains_cons, Bool.or_eq_true] at e2
  rcases e2 with e2 | e2
  · have := eq_of_beq e2
    subst this
    rw [hc] at e3
    cases e3
    rw [h, hb]
  · exact r D hd c' e2 C' e3
theorem KX.cons {K : PySem.W.Frag} {mg : Str → Option Value} {d : Str} {ds cs : List Str} {D : Addr} (hd : mg d = some (.ref D)) (E : L2.ExcC K D) (v : PySem.W.kitOne K (.ref D) (.type "ValueError") = some true) (h : KX1 K mg d cs) (r : KX K mg ds cs) : KX K mg (d :: ds) cs := fun d' e1 D' e2 => by
  rw [List.contains_cons, Bool.or_eq_true] at e1
  rcases e1 with e1 | e1
  · have := eq_of_beq e1
    subst this
    rw [hd] at e2
    cases e2
    exact ⟨E, v, h D hd⟩
  · exact r d' e1 D' e2
section
variable {K : PySem.W.Frag} {mg : Str → Option Value} {H : Hp} {F T : Addr → Prop} {as : List Addr} {ds cs : List Str}
theorem isX1_ok {d : Str} {D : Addr} {v : Vl} {x : V} {c : Addr → Nat} {b : Bool} (k : KX K mg ds cs) (hd : ds.contains d = true) (hD : mg d = some (.ref D)) (r : Rep K mg H F T as v x c) (e : isX1 cs d v = some b) : ∃ cv, ClsV x cv ∧ PySem.W.kitOne K (.ref D) cv = some b := by
  obtain ⟨_, kv, kc⟩ := k d hd D hD
  unfold isX1 at e
  split at e
  · split at e
    · rename_i c' hc
      cases e
      cases r with
      | sym h _ =>
        obtain ⟨C, h1, rfl⟩ := h
        exact ⟨_, .own C, kc _ hc C h1⟩
    · cases e
  · split at e
    · rename_i n hn
      cases e
      have := eq_of_beq hn
      subst this
      cases r with
      | sym h _ =>
        cases (show x = .ty "ValueError" from h)
        exact ⟨_, .ty _, kv⟩
    · cases e
  · cases e
theorem isXs_ok {d : Str} {D : Addr} (k : KX K mg ds cs) (hd : ds.contains d = true) (hD : mg d = some (.ref D)) : ∀ {vs : List Vl} {xs : List V} {c : Addr → Nat} {b : Bool}, Reps K mg H F T as vs xs c → clsOk vs = true → isXs cs d vs = some b → ∃ us, Paired ClsV xs us ∧ PySem.W.kitAny K (.ref D) us = some b
  | [], _, _, b, .nil _, _, e => ⟨[], .nil, e⟩
  | v :: vs, _, _, b, .cons r s _, ok, e => by
    have cv : ∀ {v : Vl} {vs : List Vl} {x : V} {c : Addr → Nat}, clsOk (v :: vs) = true → Rep K mg H F T as v x c → (∃ u, ClsV x u) ∧ clsOk vs = true := by
      intro v vs x c ok r
      unfold clsOk at ok
      split at ok
      · rename_i h; cases h
      · rename_i h
        cases h
        cases r with
        | sym h _ =>
          obtain ⟨C, h1, rfl⟩ := h
          exact ⟨⟨_, .own C⟩, ok⟩
      · rename_i h
        cases h
        cases r with
        | sym h _ =>
          cases (show x = .ty _ from h)
          exact ⟨⟨_, .ty _⟩, ok⟩
      · cases ok
    have rest : ∀ {vs : List Vl} {xs : List V} {c : Addr → Nat}, Reps K mg H F T as vs xs c → clsOk vs = true → ∃ us, Paired ClsV xs us := by
      intro vs
      induction vs with
      | nil => intro xs c r _; cases r; exact ⟨[], .nil⟩
      | cons v vs ih =>
        intro xs c r ok
        cases r with
        | cons r s _ =>
          obtain ⟨⟨u, hu⟩, ok2⟩ := cv ok r
          obtain ⟨us, hus⟩ := ih s ok2
          exact ⟨_, .cons hu hus⟩
    unfold isXs at e
    cases e1 : isX1 cs d v with
    | none => rw [e1] at e; cases e
    | some b1 =>
      rw [e1] at e
      obtain ⟨u, hu, hk⟩ := isX1_ok k hd hD r e1
      obtain ⟨_, ok2⟩ := cv ok r
      cases b1 with
      | true =>
        cases e
        obtain ⟨us, hus⟩ := rest s ok2
        exact ⟨u :: us, .cons hu hus, by unfold PySem.W.kitAny; rw [hk]⟩
      | false =>
        obtain ⟨us, hus, hk2⟩ := isXs_ok k hd hD s ok2 e
        exact ⟨u :: us, .cons hu hus, by unfold PySem.W.kitAny; rw [hk]; exact hk2⟩
theorem gop_isx (k : KX K mg ds cs) : GOp K mg (gIsX ds cs) (rIsX K) := by
  intro H F T as vs xs c v Q r hl e fin
  unfold gIsX at e
  split at e
  · split at e
    · rename_i d ws hd
      obtain ⟨b, e1, e2⟩ := Option.map_eq_some_iff.mp e
      subst e2
      simp only [Bool.and_eq_true] at hd
      obtain ⟨x, y, c1, c2, rfl, r1, r2, _⟩ := r.inv2
      cases r1 with
      | sym h _ =>
        obtain ⟨D, a, hD, rfl, ha⟩ := h
        obtain ⟨tp, ys, rfl, hT, s⟩ := r2.inv_tup
        obtain ⟨us, h1, h2⟩ := isXs_ok k hd.1 hD s hd.2 e1
        exact ⟨a, D, _, rfl, ha, (k d hd.1 D hD).1, .inr ⟨tp, ys, us, b, rfl, hT, h1, h2, fin.bl⟩⟩
    · cases e
  · split at e
    · rename_i d w nt hd
      obtain ⟨b, e1, e2⟩ := Option.map_eq_some_iff.mp e
      subst e2
      obtain ⟨x, y, c1, c2, rfl, r1, r2, _⟩ := r.inv2
      cases r1 with
      | sym h _ =>
        obtain ⟨D, a, hD, rfl, ha⟩ := h
        obtain ⟨cv, h1, h2⟩ := isX1_ok k hd hD r2 e1
        exact ⟨a, D, _, rfl, ha, (k d hd D hD).1, .inl ⟨cv, b, h1, h2, fin.bl⟩⟩
    · cases e
  · cases e
end
section
variable {X : Cx} {e e2 : Expr} {fs : List E} {p pos : Pos} {x : Str}
theorem EOk.isx {ds cs : List Str} (k : KX X.K X.mg ds cs) (hm : X.mg "isinstance" = none) (ha : AOk X [e, e2] fs) (hgl : Gl X "isinstance" := by rfl) (he : starEach [e, e2] X.env = (false, eval e X.env) :: starEach [e2] X.env := by rfl) (hpl : (backTo pos (starEach [e2] X.env)).any (·.1) = false := by rfl) : EOk X (.Call (.Name "isinstance" p) [e, e2] [] pos) (opE (gIsX ds cs) fs) :=
  .callB call_isX (gop_isx k) hgl hm (by decide +kernel) ha (by decide) (by decide) he hpl
/-- an own class, by its name -/
def ClsG (mg : Str → Option Value) (x : Str) : Prop := ∃ C, mg x = some (.ref C)
theorem EOk.own (h : ClsG X.mg x) (hg : Gl X x := by rfl) (hd : (x == ("__debug__" : Str)) = false := by decide) : EOk X (.Name x pos) (cstE (.sym (.cls x))) := by
  obtain ⟨C, h⟩ := h
  exact EOk.glob (y := .ref C) hg h rfl (fun _ _ _ _ => .sym ⟨C, h, rfl⟩ fun _ => rfl) hd
end
/-! ### a def as a value, called -/
def FnG (mg : Str → Option Value) (x : Str) : Prop := ∃ C, mg x = some (.ref C)
theorem EOk.fnv {X : Cx} {x : Str} {pos : Pos} (h : FnG X.mg x) (hg : Gl X x := by rfl) (hd : (x == ("__debug__" : Str)) = false := by decide) : EOk X (.Name x pos) (cstE (.sym (.fn x))) := by
  obtain ⟨C, h⟩ := h
  exact EOk.glob (y := .ref C) hg h rfl (fun _ _ _ _ => .sym ⟨C, h, rfl⟩ fun _ => rfl) hd
end PyI

namespace PyI
open PySem PySem.Spec PyProof.Rows L2
/-! ### in, not in, index: of data -/
def anyEq (d : PyData) (ds : List PyData) : Bool := ds.any fun z => PyData.eqv z d
def gIn : List Vl → Option Vl
  | [a, .nd _ .lst xs] => match pyOf a, pysOf xs with
    | some d, some ds => if SeqAt.shaped d && SeqAt.shaped (.list ds) then some (.bl (anyEq d ds)) else none
    | _, _ => none
  | _ => none
def gNin : List Vl → Option Vl
  | [a, .nd _ .lst xs] => match pyOf a, pysOf xs with
    | some d, some ds => if SeqAt.shaped d && SeqAt.shaped (.list ds) then some (.bl (!anyEq d ds)) else none
    | _, _ => none
  | _ => none
/-- the first place -/
def firstEq (d : PyData) : List PyData → Option Nat
  | [] => none
  | z :: r => if PyData.eqv z d then some 0 else (firstEq d r).map (· + 1)
theorem firstEq_ok {d : PyData} : ∀ {ds : List PyData} {j : Nat}, firstEq d ds = some j → ∃ z, ds[j]? = some z ∧ PyData.eqv z d = true ∧ ∀ (m : Nat) (z' : PyData), m < j → ds[m]? = some z' → PyData.eqv z' d = false
  | [], _, h => by cases h
  | z :: r, j, h => by
    unfold firstEq at h
    split at h
    · rename_i e
      cases h
      exact ⟨z, rfl, e, fun m z' hm _ => absurd hm (Nat.not_lt_zero _)⟩
    · rename_i e
      obtain ⟨k, h1, h2⟩ := Option.map_eq_some_iff.mp h
      subst h2
      obtain ⟨z1, a, b, c⟩ := firstEq_ok h1
      refine ⟨z1, a, b, fun m z' hm hz => ?_⟩
      cases m with
      | zero =>
        simp at hz
        subst hz
        simpa using e
      | succ m => exact c m z' (by omega) (by simpa using hz)
def gIdx : List Vl → Option Vl
  | [.nd _ .lst xs, a] => match pyOf a, pysOf xs with
    | some d, some ds => if SeqAt.shaped d && SeqAt.shaped (.list ds) then (firstEq d ds).map fun j => .int (j : Nat) else none
    | _, _ => none
  | _ => none
section
variable {K : PySem.W.Frag} {mg : Str → Option Value} {H : Hp} {F T : Addr → Prop} {as : List Addr}
theorem dp_list {f : Fl} {xs : List Vl} {x : V} {c : Addr → Nat} {ds : List PyData} (r : Rep K mg H F T as (.nd f .lst xs) x c) (e : pysOf xs = some ds) : Dp K H x (.list ds) := r.dp (by unfold pyOf; rw [e]; rfl)
theorem gop_in : GOp K mg gIn (fun xs H Q => ∃ x y, xs = [x, y] ∧ rInD K x y H Q) := by
  intro H F T as vs xs c v Q r hl e fin
  unfold gIn at e
  split at e
  · split at e
    · split at e
      · rename_i d ds e1 e2 hc
        cases e
        simp only [Bool.and_eq_true] at hc
        obtain ⟨x, y, c1, c2, rfl, r1, r2, _⟩ := r.inv2
        exact ⟨x, y, rfl, d, ds, r1.dp e1, dp_list r2 e2, hc.1, hc.2, fin.bl⟩
      · cases e
    · cases e
  · cases e
theorem gop_nin : GOp K mg gNin (fun xs H Q => ∃ x y, xs = [x, y] ∧ rNotInD K x y H Q) := by
  intro H F T as vs xs c v Q r hl e fin
  unfold gNin at e
  split at e
  · split at e
    · split at e
      · rename_i d ds e1 e2 hc
        cases e
        simp only [Bool.and_eq_true] at hc
        obtain ⟨x, y, c1, c2, rfl, r1, r2, _⟩ := r.inv2
        exact ⟨x, y, rfl, d, ds, r1.dp e1, dp_list r2 e2, hc.1, hc.2, fin.bl⟩
      · cases e
    · cases e
  · cases e
end
section
variable {X : Cx} {a b : Expr} {fa fb : E} {pos : Pos}
theorem EOk.in_ (hu : X.A.units + 65 < cLine) (ha : EOk X a fa) (hb : EOk X b fb) (hm : behindInMarks .In b = false := by rfl) : EOk X (.Compare a [.In] [b] pos) (opE gIn [fa, fb]) := .cmp (op_inD hu) gop_in ha hb hm
theorem EOk.nin (hu : X.A.units + 65 < cLine) (ha : EOk X a fa) (hb : EOk X b fb) (hm : behindInMarks .NotIn b = false := by rfl) : EOk X (.Compare a [.NotIn] [b] pos) (opE gNin [fa, fb]) := .cmp (op_notInD hu) gop_nin ha hb hm
theorem TOk.in_ (hu : X.A.units + 65 < cLine) (ha : EOk X a fa) (hb : EOk X b fb) (hm : behindInMarks .In b = false := by rfl) : TOk X (.Compare a [.In] [b] pos) (opE gIn [fa, fb]) := .cmp (op_inD hu) gop_in ha hb hm
theorem TOk.nin (hu : X.A.units + 65 < cLine) (ha : EOk X a fa) (hb : EOk X b fb) (hm : behindInMarks .NotIn b = false := by rfl) : TOk X (.Compare a [.NotIn] [b] pos) (opE gNin [fa, fb]) := .cmp (op_notInD hu) gop_nin ha hb hm
end
/-! ### x.index(y), x read alone -/
def isLV : Vl → Bool
  | .nd _ .lst _ => true
  | _ => false
/-- a list it must be -/
def lstE (f : E) : E := fun st => match f st with
  | .ok (v, st1, e) => if isLV v then .ok (v, st1, e) else .bad
  | .exc c s => .exc c s
  | .bad => .bad
theorem EI.lst {K : PySem.W.Frag} {mg : Str → Option Value} {W : WX} {f : E} {σ : L2.St} {H : Hp} {Q : VK} (h : EI K mg W (lstE f) σ H Q) : EI K mg W f σ H fun y H' => tyV K "list" y H' ∧ Q y H' := by
  obtain ⟨F, T, as, L, st, c, r, p⟩ := h
  refine ⟨F, T, as, L, st, c, r, ?_⟩
  unfold lstE at p
  cases e1 : f st with
  | bad => rw [e1] at p; exact p
  | exc cl s => rw [e1] at p; exact p
  | ok q =>
    obtain ⟨v, st1, f1⟩ := q
    rw [e1] at p
    simp only at p
    intro F1 as1 H1 x c1 c2 r1 rv s1 p1 ef
    split at p
    · rename_i hv
      unfold isLV at hv
      split at hv
      · obtain ⟨a, xs, c', rfl, h, _⟩ := rv.inv_lst
        exact ⟨.inl ⟨rfl, _, h⟩, p F1 as1 H1 _ c1 c2 r1 rv s1 p1 ef⟩
      · cases hv
    · exact (show False from p).elim
section
variable {X : Cx} {o e : Expr} {es : List Expr} {fo : E} {fs : List E} {g : List Vl → Option Vl} {m : Str} {id : String} {apos cpos : Pos}
/-- a method that only reads its list -/
theorem EOk.rmeth {r : V → List V → Hp → VK → Prop} (ho : EOk X o fo) (slot : Slot "list" m id) (hty : typeOf (.builtin id) = pure (.type "method_descriptor")) (hm : MtR X id r)
    (hg : GOp X.K X.mg g (fun xs H Q => ∃ x ys, xs = x :: ys ∧ r x ys H Q)) (ha : AOk X (e :: es) fs)
    (hbase : attributeBase o m X.env (eval o X.env) = eval o X.env := by rfl)
    (hfew : ((backTo cpos (starEach (e :: es) X.env)).all (fun x => !x.1) && (backToKw cpos (keywordEach [] X.env)).all (fun x => x.1.isSome)
      && decide ((e :: es).length + ([] : List Keyword).length + (if ([] : List Keyword).isEmpty then 0 else 1) < 30)) = true := by rfl)
    (hline : (apos.endLine == cpos.line) = true := by rfl) (hs : starEach (e :: es) X.env = (false, eval e X.env) :: starEach es X.env := by rfl) (hplain : (backTo cpos (starEach es X.env)).any (·.1) = false := by rfl) :
    EOk X (.Call (.Attribute o m apos) (e :: es) [] cpos) (opE g (lstE fo :: fs)) := fun W t =>
  (pe_bm PySem.F.plainAttrs_list slot hty hm (ho W t) (ha W t) hbase hfew hline hs hplain).imp fun σ H Q h =>
    (h.op hg).cons.lst.mono fun x H1 ⟨ty, q⟩ => ⟨ty, q.mono fun xs H2 ⟨x', ys, e, q⟩ => by cases e; exact q⟩
end
section
variable {K : PySem.W.Frag} {mg : Str → Option Value}
theorem gop_idx : GOp K mg gIdx (fun xs H Q => ∃ x ys, xs = x :: ys ∧ rIndexD K x ys H Q) := by
  intro H F T as vs xs c v Q r hl e fin
  unfold gIdx at e
  split at e
  · split at e
    · split at e
      · rename_i d ds e1 e2 hc
        obtain ⟨j, e3, e4⟩ := Option.map_eq_some_iff.mp e
        subst e4
        simp only [Bool.and_eq_true] at hc
        obtain ⟨x, y, c1, c2, rfl, r1, r2, _⟩ := r.inv2
        obtain ⟨z, h1, h2, h3⟩ := firstEq_ok e3
        have hd := dp_list r1 e2
        obtain ⟨a, ys, c', rfl, _, _, _⟩ := r1.inv_lst
        exact ⟨_, _, rfl, a, y, d, ds, j, z, rfl, rfl, hd, r2.dp e1, hc.2, hc.1, h1, h2, h3, fin.int⟩
      · cases e
    · cases e
  · cases e
end
/-! ### {} -/
def dctE : E := fun st => .ok (.nd .own (.dK []) [], st, false)
theorem EOk.dct {X : Cx} {pos : Pos} : EOk X (.Dict [] [] pos) dctE := fun W t => pe_dnewK.imp fun σ H Q h => by
  intro p hp
  obtain ⟨F, T, as, L, st, c, r, q⟩ := h
  have sm : Same H (upd H p (.dK [])) := same_new hp
  have r2 := r.same sm
  have z : c p = 0 := by
    by_cases e : c p = 0
    · exact e
    · exact absurd hp (r.there p e)
  have rv : Rep X.K X.mg (upd H p (.dK [])) F T as (.nd .own (.dK []) []) (.ref p) (fun b => if b = p then 1 else 0) := .own upd_same ⟨rfl, rfl⟩ (.nil (c := fun _ => 0) fun _ => rfl) fun b => by simp
  refine q F as _ _ c _ r2 rv ⟨fun b o e _ => sm b o e, fun b e => ?_, fun b => ?_, fun _ h => h, fun b e => ?_, fun _ h => .inl h, fun b e => PyI.Same.trk sm b e⟩ Pre.refl fun _ => ⟨sm, rfl, fun _ h => h⟩
  · by_cases eb : b = p
    · exact .inr (by rw [eb]; exact hp)
    · refine .inl ?_
      simp only [if_neg eb] at e
      exact e
  · show c b + (if b = p then 1 else 0) ≤ 1
    by_cases eb : b = p
    · rw [if_pos eb, eb, z]; omega
    · rw [if_neg eb]; exact r.le b
  · show c b + (if b = p then 1 else 0) = 0
    have h0 := r.fr b (.inl e)
    rw [if_neg (fun eb => h0.2 (by rw [eb]; exact hp)), h0.1]
/-! ### x += list -/
def muExt : Mu
  | [.nd .own .lst ys], .lst, xs => if xs.length + ys.length ≤ sizeLine then some (.non, .lst, xs ++ ys) else none
  | _, _, _ => none
def rExtA : V → List V → Hp → VK → Prop := fun o xs H Q => ∃ y, xs = [y] ∧ rExt2 o y H (fun z H' => z = o → Q .non H')
theorem gmu_ext {K : PySem.W.Frag} {mg : Str → Option Value} : GMu K mg muExt rExtA := by
  intro H F T as vs xs ca k ws wsV cx a o res k' ys Q rv rw_ ha ho e fin
  unfold muExt at e
  split at e
  · split at e
    · rename_i hz
      cases e
      cases ho
      obtain ⟨x, rfl, r1⟩ := rv.inv1
      cases r1 with
      | own h ho r hc =>
        cases ho
        refine ⟨_, rfl, a, _, _, _, rfl, rfl, ha, h, by rw [← rw_.length, ← r.length]; exact hz, fun _ => ?_⟩
        exact fin _ _ _ _ _ (rw_.append r) Rep.non' rfl fun b => by rw [hc]; omega
    · cases e
  · cases e
section
variable {X : Cx} {x : Str} {e : Expr} {f : E} {i : Nat} {pos' pos : Pos}
theorem SOk.augL (hN : X.N.Nodup) (he : EOk X e f) (hi : X.N[i]? = some x := by rfl) (hx : Loc X.env.scope x := by first | exact Or.inl rfl | exact Or.inr rfl) (hf : X.fn x = true ∨ X.env.scope.names.lookup x = some .local := by first | exact .inl rfl | exact .inr rfl) :
    SOk X (.AugAssign (.Name x pos') .Add e pos) (expC (mutE i isL [f] muExt)) := fun W t => (ps_aug hN hi hx (he W t) (fun pins s σ H x y v u Q I r1 r2 h => iop_ext pins s σ H x y v u Q I r1 r2 h) hf).imp fun D σ H h => by
  have h2 : EI X.K X.mg W (mutE i isL [f] muExt) σ H (fun _ H1 => D.nx σ H1) := h.bind.mono fun x H1 ⟨F, T, as, L, v, st, c1, c2, r1, rv, p⟩ => p F as σ H1 c1 r1.r (r1.s.less fun b => Nat.le_add_right _ _) Pre.refl
  obtain ⟨a, es, _, q⟩ := h2.mut gmu_ext
  refine ⟨_, es, q.one.mono fun y H1 ⟨y', e1, q⟩ => ?_⟩
  cases e1
  obtain ⟨l, b, xs, zs, h1, h3, h4, h5, h6, h7⟩ := q
  refine ⟨l, b, xs, zs, h1, h3, h4, h5, h6, ?_⟩
  cases h1
  have := h7 rfl
  rwa [show σ.set i (some (.ref a)) = σ from List.ext_getElem? fun j => by
    by_cases q : i = j
    · subst q
      rw [List.getElem?_set_self (List.getElem?_eq_some_iff.mp es).1, es]
    · rw [List.getElem?_set_ne q]]
end
/-! ### a call of a name that holds a def -/
def callVE (i : Nat) (tab : List (Str × (List Vl → RF))) (n : Nat) (fs : List E) : E := fun st => match st.sl[i]? with
  | some (some (.sym (.fn f))) => (match tab.lookup f with
    | some Fn => callE n Fn fs [] st
    | none => .bad)
  | _ => .bad
section
variable {X : Cx} {x : Str} {p pos : Pos} {e : Expr} {es : List Expr} {fs : List E} {i n : Nat} {tab : List (Str × (List Vl → RF))}
theorem pe_callV {t : TA} {E : L2.St → XK} (hN : X.N[i]? = some x) (hv : Vis X.env.scope x) (ha : PA X (e :: es) t) (hx : ∀ σ, PassesAt (L2.CX X.prog X.w) X σ (E σ))
    (hdb : (x == ("__debug__" : Str)) = false := by decide) (hcd : (x == ("__classdict__" : Str)) = false := by decide)
    (he : starEach (e :: es) X.env = (false, eval e X.env) :: starEach es X.env := by rfl) (hpl : (backTo pos (starEach es X.env)).any (·.1) = false := by rfl) :
    PE X (.Call (.Name x p) (e :: es) [] pos) (fun σ H Q => ∃ f k fd ps sp, σ[i]? = some (some (.ref f)) ∧ FnOk X.prog X.w X.K X.mg X.base (L2.CX X.prog X.w) k f fd ps sp ∧ Room k X.A ∧ PySem.W.keepIn X.K (.ref f) = true ∧ Binds X.K fd ps [] ∧ t σ H fun vs H1 => sp vs H1 Q (E σ)) := by
  refine ⟨fun pins s σ H Q I h => ?_⟩
  obtain ⟨f, k, fd, ps, sp, hs, G, hr, hk, hb, ht⟩ := h
  refine wpAny_Call_Name_kw (thn ((pe_var (pos := p) hN hv hdb hcd).run pins s σ H (fun v H1 => v = .ref f ∧ H1 = H) I ⟨.ref f, hs, rfl, rfl⟩) fun u s1 ⟨v, H1, I1, r1, q1⟩ => ?_)
  obtain ⟨rfl, rfl⟩ := q1
  cases r1
  refine PySem.W.callWith_K (h₀ := X.base) I.ok.mod.kin hk (thn (ha.run pos pins s1 σ _ _ I1 ht) fun us s2 ⟨vs, H2, I2, r, q⟩ => ⟨I2.kIn, ?_⟩) he hpl
  exact run_fnS G hr hb (hx σ) I2 r q
/-- each of the table keeps its promise -/
def TabOk (X : Cx) (n : Nat) (tab : List (Str × (List Vl → RF))) : Prop := ∀ f Fn, tab.lookup f = some Fn → ∃ k ps, ps.length = n ∧ Room k X.A ∧ HasF X.prog X.w X.K X.mg X.base f k ps Fn
theorem TabOk.nil : TabOk X n [] := fun f Fn h => by cases h
theorem TabOk.cons {f : Str} {Fn : List Vl → RF} {k : Nat} {ps : List Str} (h : HasF X.prog X.w X.K X.mg X.base f k ps Fn) (hr : Room k X.A) (r : TabOk X n tab) (hl : ps.length = n := by rfl) : TabOk X n ((f, Fn) :: tab) := fun g Gn e => by
  rw [List.lookup_cons] at e
  split at e
  · rename_i hg
    cases e
    have := eq_of_beq hg
    subst this
    exact ⟨k, ps, hl, hr, h⟩
  · exact r g Gn e
theorem EOk.callV (tk : TabOk X n tab) (ha : AOk X (e :: es) fs) (hN : X.N[i]? = some x := by rfl) (hv : Vis X.env.scope x := by first | exact Or.inl rfl | exact Or.inr (Or.inl rfl) | exact Or.inr (Or.inr rfl))
    (hdb : (x == ("__debug__" : Str)) = false := by decide) (hcd : (x == ("__classdict__" : Str)) = false := by decide)
    (he : starEach (e :: es) X.env = (false, eval e X.env) :: starEach es X.env := by rfl) (hpl : (backTo pos (starEach es X.env)).any (·.1) = false := by rfl) :
    EOk X (.Call (.Name x p) (e :: es) [] pos) (callVE i tab n fs) := fun W t =>
  (pe_callV (E := WE W) hN hv (ha W t) (fun σ => passAt t σ) hdb hcd he hpl).imp fun σ H Q h => by
    obtain ⟨F, T, as, L, st, c, r, q⟩ := h
    unfold callVE at q
    split at q
    · rename_i f es'
      split at q
      · rename_i Fn hf
        obtain ⟨k, ps, hl, hr, G⟩ := tk f Fn hf
        obtain ⟨a, fd, m, kp, b, G⟩ := G
        obtain ⟨y, c1, c2, e1, r1, _⟩ := r.slot es'
        cases r1 with
        | sym hs _ =>
          obtain ⟨C, hC, rfl⟩ := hs
          rw [m] at hC
          cases hC
          subst hl
          have h3 : EI X.K X.mg W (callE ps.length Fn fs []) σ H Q := ⟨F, T, as, L, st, c, r, q⟩
          exact ⟨a, k, fd, ps, _, e1, G, hr, kp, b, (h3.call (dxs := []) fun _ _ _ _ => .nil fun _ => rfl).mono fun xs H1 q => by rw [List.append_nil] at q; exact q⟩
      · exact (show False from q).elim
    · exact (show False from q).elim
end
end PyI
namespace PyI
open PySem PySem.Spec PyProof.Rows L2
theorem units65 {k : Nat} {A : Around} (r : Room k A) : A.units + 65 < cLine := by have := r.un; omega
/-- what the written part says of a clause 'except x' at exceptions of kn -/
def TryG (K : PySem.W.Frag) (mg : Str → Option Value) (kn : List Str) (x : Str) : Prop := ∃ C, mg x = some (.ref C) ∧ ∀ cl, kn.contains cl = true → ∀ D, mg cl = some (.ref D) → PySem.W.exmOne K (.ref D) (.ref C) = some true
theorem TryG.nil {K : PySem.W.Frag} {mg : Str → Option Value} {x : Str} {C : Addr} (h : mg x = some (.ref C)) : TryG K mg [] x := ⟨C, h, fun cl h => by simp at h⟩
theorem TryG.cons {K : PySem.W.Frag} {mg : Str → Option Value} {x d : Str} {kn : List Str} {C D : Addr} (h : mg x = some (.ref C)) (hd : mg d = some (.ref D)) (h1 : PySem.W.subIn K (.ref C) (.type "BaseException") = some true) (hdct : PySem.W.hasDictIn K C = true) (ht : PySem.W.typeIn K (.ref C) = some (.type "type")) (h4 : PySem.W.subIn K (.ref D) (.ref C) = some true)
    (r : TryG K mg kn x) : TryG K mg (d :: kn) x := by
  obtain ⟨C', h', r⟩ := r
  rw [h] at h'
  cases h'
  refine ⟨C, h, fun cl e D' e2 => ?_⟩
  rw [List.contains_cons, Bool.or_eq_true] at e
  rcases e with e | e
  · have := eq_of_beq e
    subst this
    rw [hd] at e2
    cases e2
    exact PySem.W.exm_ref h1 hdct ht h4
  · exact r cl e D' e2
section
variable {X : Cx} {x n : Str} {i : Nat} {body suite : List Stmt} {b₀ : Stmt} {np pos pos' : Pos} {f g : C} {kn : List Str}
theorem SOk.tryG (hN : X.N.Nodup) (ht : TryG X.K X.mg kn x)
    (hb : ∀ (pn : List (Addr × Obj)) (xe : Value → Shared → Prop), PassesOwn (model X.prog X.w) X.A X.env xe → SsOk (X.tr pn xe) body f)
    (hsu : ∀ (a : Addr) (pn : List (Addr × Obj)), SsOk (X.suite a pn) (b₀ :: suite) g)
    (hg : Gl X x := by rfl) (hd : (x == ("__debug__" : Str)) = false := by decide)
    (hs : X.stack = X.env :: X.outer := by rfl) (hf : X.env.frame = some X.env.locals := by rfl) (hex : X.ex = [] := by rfl) (hi : X.N[i]? = some n := by rfl) (hln : X.env.kindOf n = some .local := by rfl) :
    SOk X (.Try body [.ExceptHandler (some (.Name x np)) (some n) (b₀ :: suite) pos'] [] [] pos) (tryC kn i f g) := by
  obtain ⟨C, h, hx⟩ := ht
  exact SOk.try_ hN hx ⟨hg, hd, .inl h⟩ hb hsu hs hf hex hi hln
end
end PyI
namespace PyI
open PySem PySem.Spec PyProof.Rows L2
/-! ### a look at what a slot holds, all of it shared meanwhile -/
def flatVl : Vl → Bool
  | .non => true
  | .bl _ => true
  | .int _ => true
  | .str _ => true
  | _ => false
def lockE (j : Nat) (f : E) : E := fun st => match st.sl[j]? with
  | some (some v) => if stor v then (match f { st with sl := st.sl.set j (some (setF .sh v)) } with
    | .ok (w, _, false) => if flatVl w then .ok (w, st, false) else .bad
    | _ => .bad) else .bad
  | _ => .bad
theorem EI.lock {K : PySem.W.Frag} {mg : Str → Option Value} {W : WX} {j : Nat} {f : E} {σ : L2.St} {H : Hp} {Q : VK} (h : EI K mg W (lockE j f) σ H Q) : EI K mg W f σ H Q := by
  obtain ⟨F, T, as, L, st, c, r, p⟩ := h
  unfold lockE at p
  split at p
  · rename_i v e
    split at p
    · rename_i sv
      obtain ⟨x, c1, c2, e1, r1, n1, r2, k⟩ := r.slot e
      have hi : j < st.sl.length := (List.getElem?_eq_some_iff.mp e).1
      have mo : ∀ b, F b → F b ∨ c1 b ≠ 0 := fun b h => .inl h
      have r2' : Rel K mg (fun b => F b ∨ c1 b ≠ 0) T as L { st with sl := st.sl.set j none } σ H c2 := by
        obtain ⟨d1, d2, h1, h2, h3, h4⟩ := r2.rep
        refine ⟨⟨d1, d2, h1.stay (fun b o e _ => e) mo (fun _ h => h) Pre.refl, h2.stay h3 (fun b o e _ => e) mo (fun _ h => h) Pre.refl, h3, h4⟩, r2.le, fun b q => ?_, r2.lk⟩
        rcases q with (q | q) | q
        · exact r2.fr b (.inl q)
        · have := r.le b
          rw [k] at this
          refine ⟨by omega, fun z => ?_⟩
          have := r1.mu b q
          rw [z] at this
          exact this
        · exact r2.fr b (.inr q)
      have rf : Rep K mg H (fun b => F b ∨ c1 b ≠ 0) T as (setF .sh v) x (fun _ => 0) := r1.freeze sv mo fun b q => .inr q
      have r3 := r2'.fill hi e1 rf noTr_sh (fun b => by have := r2.le b; omega) fun b _ => rfl
      refine ⟨fun b => F b ∨ c1 b ≠ 0, T, as, L, _, _, r3, ?_⟩
      split at p
      · rename_i w s' e2
        split at p
        · rename_i hw
          rw [e2]
          intro F1 as1 H1 y d1 d2 q1 qv q2 q3 ef
          obtain ⟨sm, _, _⟩ := ef rfl
          have rw' : Rep K mg H1 F T as w y (fun _ => 0) := by
            unfold flatVl at hw
            split at hw
            · cases qv; exact .non fun _ => rfl
            · cases qv; exact .bl fun _ => rfl
            · cases qv; exact .int fun _ => rfl
            · cases qv; exact .str fun _ => rfl
            · cases hw
          exact p F as H1 y c (fun _ => 0) (r.same sm) rw' ⟨fun b o e _ => sm b o e, fun b q => .inl q, r.le, fun _ h => h, fun b q => (r.fr b (.inl q)).1, fun _ h => .inl h, fun b q => PyI.Same.trk sm b q⟩ Pre.refl fun _ => ⟨sm, rfl, fun _ h => h⟩
        · exact (show False from p).elim
      · exact (show False from p).elim
    · exact (show False from p).elim
  · exact (show False from p).elim
theorem EOk.lock {X : Cx} {e : Expr} {f : E} (j : Nat) (h : EOk X e f) : EOk X e (lockE j f) := fun W t => (h W t).imp fun σ H Q q => q.lock
theorem TOk.lock {X : Cx} {e : Expr} {f : E} (j : Nat) (h : TOk X e f) : TOk X e (lockE j f) := fun W t => (h W t).imp fun σ H Q q => EI.lock q
end PyI
namespace PyI
theorem TryG.nilX {K : PySem.W.Frag} {mg : PySem.Str → Option PySem.Value} {x : PySem.Str} {C : PySem.Addr} {h0 : PySem.Heap} (_ : K.In h0) (h : mg x = some (.ref C)) : TryG K mg [] x := TryG.nil h
theorem KX.nilX {K : PySem.W.Frag} {mg : PySem.Str → Option PySem.Value} {cs : List PySem.Str} {h0 : PySem.Heap} (_ : K.In h0) : KX K mg [] cs := KX.nil
theorem KX1.nilX {K : PySem.W.Frag} {mg : PySem.Str → Option PySem.Value} {d : PySem.Str} {h0 : PySem.Heap} (_ : K.In h0) : KX1 K mg d [] := KX1.nil
end PyI
namespace PyI
open PySem PySem.Spec PyProof.Rows L2
theorem kitOne_self {K : PySem.W.Frag} {t : Value} : PySem.W.kitOne K t t = some true := if_pos (beq_self_eq_true _)
theorem kitOne_sub {K : PySem.W.Frag} {D C : Addr} {b : Bool} (h0 : (Value.ref D == Value.ref C) = false) (hd : PySem.W.hasDictIn K C = true) (ht : PySem.W.typeIn K (.ref C) = some (.type "type")) (h4 : PySem.W.subIn K (.ref D) (.ref C) = some b) : PySem.W.kitOne K (.ref D) (.ref C) = some b := by
  obtain ⟨cd, hc, _⟩ := PySem.W.any_some hd
  have e2 : ((PySem.W.clsIn K C).isSome && PySem.W.typeIn K (.ref C) == some (.type "type")) = true := by rw [hc, ht] <;> rfl
  unfold PySem.W.kitOne
  rw [h0]
  show (if ((PySem.W.clsIn K C).isSome && PySem.W.typeIn K (.ref C) == some (.type "type")) = true then PySem.W.subIn K (.ref D) (.ref C) else none) = some b
  rw [if_pos e2]
  exact h4
theorem kitOne_VE {K : PySem.W.Frag} {D : Addr} (h : PySem.W.subIn K (.ref D) (.type "ValueError") = some true) : PySem.W.kitOne K (.ref D) (.type "ValueError") = some true := by
  have e : PySem.W.kitMeta "ValueError" = true := by decide +kernel
  have h0 : (Value.ref D == Value.type "ValueError") = false := rfl
  unfold PySem.W.kitOne
  rw [h0]
  show (if PySem.W.kitMeta "ValueError" = true then PySem.W.subIn K (.ref D) (.type "ValueError") else none) = some true
  rw [if_pos e]
  exact h
theorem DefAt.fn {K : PySem.W.Frag} {mg : Str → Option Value} {x : Str} {st : Stmt} (d : DefAt K mg x st) : FnG mg x := by
  obtain ⟨f, _, _, h⟩ := d
  exact ⟨f, h⟩
end PyI
namespace PyI
theorem clsG {mg : PySem.Str → Option PySem.Value} {x : PySem.Str} {C : PySem.Addr} (h : mg x = some (.ref C)) : ClsG mg x := ⟨C, h⟩
end PyI

namespace PyI
open PySem PySem.Spec PyProof.Rows L2
/-! ### dicts with plain keys -/
def kOf : Vl → Option Key
  | .int i => some (.inl i)
  | .str x => some (.inr x)
  | _ => none
def lookK (k : Key) : List Key → List Vl → Option Vl
  | j :: ks, v :: r => if j = k then some v else lookK k ks r
  | _, _ => none
def gDgt : List Vl → Option Vl
  | [.nd _ (.dK ks) xs, y] => (kOf y).bind fun k => lookK k ks xs
  | _ => none
def gDin : List Vl → Option Vl
  | [y, .nd _ (.dK ks) xs] => (kOf y).map fun k => .bl (lookK k ks xs).isSome
  | _ => none
def gDnin : List Vl → Option Vl
  | [y, .nd _ (.dK ks) xs] => (kOf y).map fun k => .bl (!(lookK k ks xs).isSome)
  | _ => none
section
variable {K : PySem.W.Frag} {mg : Str → Option Value} {H : Hp} {F T : Addr → Prop} {as : List Addr}
theorem kOf_ok {y : Vl} {x : V} {c : Addr → Nat} {k : Key} (r : Rep K mg H F T as y x c) (e : kOf y = some k) : x = kV k := by
  unfold kOf at e
  split at e
  · cases e; exact r.inv_int
  · cases e; exact r.inv_str
  · cases e
theorem Reps.look : ∀ {vs : List Vl} {xs : List V} {c : Addr → Nat} {ks : List Key} {k : Key}, Reps K mg H F T as vs xs c → ks.length = xs.length →
    match lookK k ks vs with
    | some v => ∃ x c', valV (ks.zip xs) k = some x ∧ Rep K mg H F T as v x c' ∧ ∀ b, c' b ≤ c b
    | none => valV (ks.zip xs) k = none
  | _, _, _, [], k, .nil _, _ => rfl
  | _, _, _, j :: ks, k, .nil _, h => by simp at h
  | _, _, _, [], k, .cons _ _ _, h => by simp at h
  | v :: vs, x :: xs, c, j :: ks, k, .cons r s hc, h => by
    have ih := Reps.look (ks := ks) (k := k) s (by simpa using h)
    unfold lookK
    by_cases e : j = k
    · rw [if_pos e]
      exact ⟨x, _, valV_pos (p := (j, x)) e, r, fun b => by rw [hc]; omega⟩
    · rw [if_neg e]
      have e2 : valV ((j :: ks).zip (x :: xs)) k = valV (ks.zip xs) k := by simp [valV, List.find?_cons, e]
      rw [e2]
      split
      · rename_i v' e3
        rw [e3] at ih
        obtain ⟨y, c', h1, h2, h3⟩ := ih
        exact ⟨y, c', h1, h2, fun b => by rw [hc]; have := h3 b; omega⟩
      · rename_i e3
        rw [e3] at ih
        exact ih
/-- a dict, whatever its flag -/
theorem Rep.inv_dK {f : Fl} {ks : List Key} {vs : List Vl} {x : V} {c : Addr → Nat} (r : Rep K mg H F T as (.nd f (.dK ks) vs) x c) : ∃ a xs c', x = .ref a ∧ L2.Rd H a (.dK (ks.zip xs)) ∧ ks.length = xs.length ∧ Reps K mg H F T as vs xs c' ∧ ∀ b, c' b ≤ c b := by
  have go : ∀ {a : Addr} {xs : List V} {S : Addr → Prop}, ((S a ∧ ∃ o, hoOf mg (.dK ks) xs o ∧ L2.Rd H a o) ∨ (Kd.dK ks = .lst ∧ KL K a xs)) → L2.Rd H a (.dK (ks.zip xs)) ∧ ks.length = xs.length := fun {a xs S} h => by
    rcases h with ⟨_, o, ⟨hl, rfl⟩, q⟩ | ⟨h, _⟩
    · exact ⟨q, hl⟩
    · cases h
  cases r with
  | own h ho r hc =>
    obtain ⟨hl, rfl⟩ := ho
    exact ⟨_, _, _, rfl, .inl h, hl, r, fun b => by rw [hc]; omega⟩
  | sh h r hc => exact ⟨_, _, _, rfl, (go h).1, (go h).2, r, fun _ => Nat.le_refl _⟩
  | bw h r hc => exact ⟨_, _, _, rfl, (go h).1, (go h).2, r, fun _ => Nat.le_refl _⟩
  | tr h r hc =>
    rcases h with ⟨o, ⟨hl, rfl⟩, q⟩ | ⟨h, _⟩
    · exact ⟨_, _, _, rfl, q, hl, r, fun _ => Nat.le_refl _⟩
    · cases h
def rDgt : List V → Hp → VK → Prop := fun xs H Q => ∃ x y, xs = [x, y] ∧ ∃ a v, x = .ref a ∧ DGet H a y (some v) ∧ Q v H
theorem gop_dgt : GOp K mg gDgt rDgt := by
  intro H F T as vs xs c v Q r hl e fin
  unfold gDgt at e
  split at e
  · obtain ⟨k, e1, e2⟩ := Option.bind_eq_some_iff.mp e
    obtain ⟨x, y, c1, c2, rfl, r1, r2, hcc⟩ := r.inv2
    obtain ⟨a, xs, c', rfl, hr, hl2, s, hk⟩ := r1.inv_dK
    have ht := s.look (k := k) hl2.symm.symm
    rw [e2] at ht
    obtain ⟨z, c5, h1, h2, h3⟩ := ht
    exact ⟨_, _, rfl, a, z, rfl, .inl ⟨_, k, hr, kOf_ok r2 e1, h1.symm⟩, fin H z c5 h2 (fun b => .inl (by rw [hcc]; have := h3 b; have := hk b; omega)) (Same.refl H)⟩
  · cases e
def rDin (n : Bool) : List V → Hp → VK → Prop := fun xs H Q => ∃ y x, xs = [y, x] ∧ ∃ a o, x = .ref a ∧ DGet H a y o ∧ Q (.bl (if n then !o.isSome else o.isSome)) H
theorem look_some {vs : List Vl} {xs : List V} {c : Addr → Nat} {ks : List Key} {k : Key} (s : Reps K mg H F T as vs xs c) (h : ks.length = xs.length) : (valV (ks.zip xs) k).isSome = (lookK k ks vs).isSome := by
  have ht := s.look (k := k) h
  cases e : lookK k ks vs with
  | none => rw [e] at ht; rw [ht]; rfl
  | some v =>
    rw [e] at ht
    obtain ⟨z, c5, h1, _⟩ := ht
    rw [h1]; rfl
theorem gop_din : GOp K mg gDin (rDin false) := by
  intro H F T as vs xs c v Q r hl e fin
  unfold gDin at e
  split at e
  · obtain ⟨k, e1, e2⟩ := Option.map_eq_some_iff.mp e
    subst e2
    obtain ⟨y, x, c1, c2, rfl, r1, r2, hcc⟩ := r.inv2
    obtain ⟨a, xs, c', rfl, hr, hl2, s, hk⟩ := r2.inv_dK
    refine ⟨_, _, rfl, a, _, rfl, .inl ⟨_, k, hr, kOf_ok r1 e1, rfl⟩, ?_⟩
    rw [if_neg Bool.false_ne_true, look_some s hl2]
    exact fin.bl
  · cases e
theorem gop_dnin : GOp K mg gDnin (rDin true) := by
  intro H F T as vs xs c v Q r hl e fin
  unfold gDnin at e
  split at e
  · obtain ⟨k, e1, e2⟩ := Option.map_eq_some_iff.mp e
    subst e2
    obtain ⟨y, x, c1, c2, rfl, r1, r2, hcc⟩ := r.inv2
    obtain ⟨a, xs, c', rfl, hr, hl2, s, hk⟩ := r2.inv_dK
    refine ⟨_, _, rfl, a, _, rfl, .inl ⟨_, k, hr, kOf_ok r1 e1, rfl⟩, ?_⟩
    rw [if_pos rfl, look_some s hl2]
    exact fin.bl
  · cases e
end
section
variable {X : Cx} {a b : Expr} {fa fb : E} {pos : Pos}
theorem EOk.dgt (hu : X.A.units + 64 < cLine) (ha : EOk X a fa) (hb : EOk X b fb) (hs : NoSl b := by intro _ _; rfl) : EOk X (.Subscript a b pos) (opE gDgt [fa, fb]) := fun W t =>
  (pe_dget (by omega) (ha W t) (hb W t) hs).imp fun σ H Q h => (h.op gop_dgt).two.mono fun x H1 q => q.mono fun y H2 ⟨x', y', e, q⟩ => by cases e; exact q
end
end PyI
namespace PyI
open PySem PySem.Spec PyProof.Rows L2
/-! ### d[k] = v -/
def ixK (k : Key) : List Key → Option Nat
  | [] => none
  | j :: r => if j = k then some 0 else (ixK k r).map (· + 1)
theorem ixK_some {k : Key} : ∀ {ks : List Key} {j : Nat}, ixK k ks = some j → ks[j]? = some k ∧ ∀ i, i < j → ks[i]? ≠ some k
  | [], _, h => by cases h
  | a :: r, j, h => by
    unfold ixK at h
    split at h
    · rename_i e
      cases h
      exact ⟨by rw [e]; rfl, fun i hi => absurd hi (Nat.not_lt_zero _)⟩
    · rename_i e
      obtain ⟨m, h1, h2⟩ := Option.map_eq_some_iff.mp h
      subst h2
      obtain ⟨h3, h4⟩ := ixK_some h1
      refine ⟨by simpa using h3, fun i hi => ?_⟩
      cases i with
      | zero => simpa using e
      | succ i => simpa using h4 i (by omega)
theorem ixK_none {k : Key} : ∀ {ks : List Key}, ixK k ks = none → k ∉ ks
  | [], _ => by simp
  | a :: r, h => by
    unfold ixK at h
    split at h
    · cases h
    · rename_i e
      have h1 : ixK k r = none := by
        cases e1 : ixK k r with
        | none => rfl
        | some j => rw [e1] at h; cases h
      intro hm
      rcases List.mem_cons.mp hm with hm | hm
      · exact e hm.symm
      · exact ixK_none h1 hm
def muPut : Mu
  | [v, y], .dK ks, xs => (kOf y).bind fun k => if xs.length < sizeLine then (match ixK k ks with
    | some j => if (ks.drop (j + 1)).any (fun x => decide (x = k)) then none else some (.non, .dK ks, xs.set j v)
    | none => some (.non, .dK (ks ++ [k]), xs ++ [v])) else none
  | _, _, _ => none
def rPutM : V → List V → Hp → VK → Prop := fun o xs H Q => ∃ v y, xs = [v, y] ∧ ∃ a H4, o = .ref a ∧ DPut H a y v H4 ∧ Q .non H4
theorem putK_set {k : Key} {x : V} {ks : List Key} {xs : List V} {j : Nat} (hl : ks.length = xs.length) (h : ixK k ks = some j) (hu : k ∉ ks.drop (j + 1)) : putK (ks.zip xs) k x = ks.zip (xs.set j x) := by
  obtain ⟨h1, h2⟩ := ixK_some h
  have hj : j < ks.length := (List.getElem?_eq_some_iff.mp h1).1
  have h3 : ∀ i, j < i → ks[i]? ≠ some k := fun i hi e => by
    refine hu (List.mem_iff_getElem?.mpr ⟨i - (j + 1), ?_⟩)
    rw [List.getElem?_drop, show j + 1 + (i - (j + 1)) = i by omega]
    exact e
  have ha : ((ks.zip xs).any fun kv => decide (kv.1 = k)) = true := by
    rw [List.any_eq_true]
    refine ⟨(k, xs[j]'(by omega)), List.mem_iff_getElem?.mpr ⟨j, ?_⟩, by simp⟩
    rw [List.getElem?_zip_eq_some]
    exact ⟨h1, List.getElem?_eq_getElem _⟩
  unfold putK
  rw [if_pos ha]
  refine List.ext_getElem? fun i => ?_
  rw [List.getElem?_map]
  by_cases hi : i < ks.length
  · have e1 : ks[i]? = some ks[i] := List.getElem?_eq_getElem hi
    have e2 : xs[i]? = some (xs[i]'(by omega)) := List.getElem?_eq_getElem _
    have e3 : (ks.zip xs)[i]? = some (ks[i], xs[i]'(by omega)) := by rw [List.getElem?_zip_eq_some]; exact ⟨e1, e2⟩
    rw [e3]
    by_cases hij : i = j
    · subst hij
      have ek : ks[i] = k := by rw [e1] at h1; exact Option.some.inj h1
      have e4 : (ks.zip (xs.set i x))[i]? = some (ks[i], x) := by rw [List.getElem?_zip_eq_some]; exact ⟨e1, by rw [List.getElem?_set_self (by omega)]⟩
      rw [e4]
      simp [ek]
    · have ek : ks[i] ≠ k := fun e => by
        rcases Nat.lt_or_gt_of_ne hij with h | h
        · exact h2 i h (by rw [e1, e])
        · exact h3 i h (by rw [e1, e])
      have e4 : (ks.zip (xs.set j x))[i]? = some (ks[i], xs[i]'(by omega)) := by rw [List.getElem?_zip_eq_some]; exact ⟨e1, by rw [List.getElem?_set_ne (Ne.symm hij)]; exact e2⟩
      rw [e4]
      simp [ek]
  · have e3 : (ks.zip xs)[i]? = none := List.getElem?_eq_none (by rw [List.length_zip]; omega)
    have e4 : (ks.zip (xs.set j x))[i]? = none := List.getElem?_eq_none (by rw [List.length_zip, List.length_set]; omega)
    rw [e3, e4]
    rfl
theorem gmu_put {K : PySem.W.Frag} {mg : Str → Option Value} : GMu K mg muPut rPutM := by
  intro H F T as vs xs ca k ws wsV cx a o res k' ys Q rv rw_ ha ho e fin
  unfold muPut at e
  split at e
  · rename_i v y ks
    obtain ⟨kk, e1, e⟩ := Option.bind_eq_some_iff.mp e
    obtain ⟨hl, rfl⟩ := ho
    obtain ⟨x, yV, c1, c2, rfl, r1, r2, hcc⟩ := rv.inv2
    have lw := rw_.length
    split at e
    · rename_i hz
      have hsz : (ks.zip wsV).length < sizeLine := by rw [List.length_zip]; omega
      split at e
      · rename_i j ej
        split at e
        · cases e
        · rename_i hu
          cases e
          obtain ⟨c', r3, k3⟩ := rw_.set (k := j) r1
          refine ⟨x, yV, rfl, a, _, rfl, .inl ⟨ks.zip wsV, kk, ha, kOf_ok r2 e1, hsz, rfl⟩, ?_⟩
          rw [putK_set hl ej (fun hm => hu (List.any_eq_true.mpr ⟨_, hm, decide_eq_true rfl⟩))]
          exact fin (wsV.set j x) c' _ _ _ r3 Rep.non' ⟨by rw [List.length_set]; exact hl, rfl⟩ fun b => by rw [hcc]; have := k3 b; omega
      · rename_i ej
        cases e
        have hn : valV (ks.zip wsV) kk = none := by
          have := ixK_none ej
          unfold valV
          rw [List.find?_eq_none.mpr]
          · rfl
          · intro p hp
            have : p.1 ∈ ks := (List.of_mem_zip hp).1
            simp only [decide_eq_true_eq]
            intro e
            exact absurd (e ▸ this) (ixK_none ej)
        refine ⟨x, yV, rfl, a, _, rfl, .inl ⟨ks.zip wsV, kk, ha, kOf_ok r2 e1, hsz, rfl⟩, ?_⟩
        rw [putK_new x hn]
        have ez : ks.zip wsV ++ [(kk, x)] = (ks ++ [kk]).zip (wsV ++ [x]) := by rw [List.zip_append hl]; rfl
        rw [ez]
        exact fin (wsV ++ [x]) _ _ _ _ (rw_.append (.cons r1 (.nil (c := fun _ => 0) fun _ => rfl) fun _ => rfl)) Rep.non' ⟨by simp [hl], rfl⟩ fun b => by rw [hcc]; show cx b + (c1 b + 0) + 0 ≤ _; omega
    · cases e
  · cases e
section
variable {X : Cx} {x : Str} {e : Expr} {f fi : E} {i : Nat} {ei : Expr} {p0 q0 pos : Pos}
theorem SOk.dput (hu : X.A.units + 64 < cLine) (he : EOk X e f) (hi : EOk X ei fi) (hN : X.N[i]? = some x := by rfl) (hv : Vis X.env.scope x := by first | exact Or.inl rfl | exact Or.inr (Or.inl rfl) | exact Or.inr (Or.inr rfl)) (hd : (x == ("__debug__" : Str)) = false := by decide) (hcd : (x == ("__classdict__" : Str)) = false := by decide)
    (hs : swapsWith e (some (.Subscript (.Name x p0) ei q0)) pos.line X.env = pure false := by rfl) : SOk X (.Assign [.Subscript (.Name x p0) ei q0] e pos) (expC (mutE i isD [f, fi] muPut)) := fun W t =>
  (ps_dput (by omega) (pe_var hN hv hd hcd) (hi W t) (he W t) hs).imp fun D σ H h => by
    have h2 : EI X.K X.mg W (mutE i isD [f, fi] muPut) σ H (fun _ H1 => D.nx σ H1) := h.bind.mono fun x H1 ⟨F, T, as, L, v, st, c1, c2, r1, rv, p⟩ => p F as σ H1 c1 r1.r (r1.s.less fun b => Nat.le_add_right _ _) Pre.refl
    obtain ⟨a, es, _, q⟩ := h2.mut gmu_put
    exact q.two.mono fun y H1 q => ⟨_, es, q.mono fun z H2 ⟨v, w, e1, a', H4, e2, h3, h4⟩ => by
      cases e1
      cases e2
      exact ⟨_, H4, rfl, h3, h4⟩⟩
end
/-! ### displays with plain keys -/
theorem mergeK_app : ∀ (kvs acc : List (Key × V)), (kvs.map (·.1)).Nodup → (∀ k ∈ kvs.map (·.1), valV acc k = none) → mergeK acc kvs = acc ++ kvs
  | [], acc, _, _ => by simp [mergeK]
  | p :: r, acc, hn, hd => by
    have h1 : putK acc p.1 p.2 = acc ++ [p] := putK_new _ (hd p.1 (by simp))
    show mergeK (putK acc p.1 p.2) r = _
    rw [h1, mergeK_app r (acc ++ [p]) (by simpa using (List.nodup_cons.mp hn).2) fun k hk => ?_]
    · simp
    · have hne : p.1 ≠ k := fun e => (List.nodup_cons.mp hn).1 (by show p.1 ∈ r.map (·.1); rw [e]; exact hk)
      have h2 := hd k (List.mem_cons_of_mem _ hk)
      unfold valV at h2 ⊢
      rw [List.find?_append]
      cases e : acc.find? (fun kv => decide (kv.1 = k)) with
      | some q => rw [e] at h2; cases h2
      | none => simp [List.find?_cons, hne]
def dispE (ks : List Key) (fs : List E) : E := fun st => match evs fs st with
  | .ok (vs, st1, e) => if stors vs && decide (vs.length = ks.length) then .ok (.nd .own (.dK ks) vs, st1, e) else .bad
  | .exc c s => .exc c s
  | .bad => .bad
/-- the pairs of a display: text keys -/
def DOk (X : Cx) (pos : Pos) (keys : List (Option Expr)) (values : List Expr) (ks : List Key) (fs : List E) : Prop :=
  ∀ W, Takes X W → PPs X pos keys values ((ks.zip fs).map fun p => (tC (kV p.1), EI X.K X.mg W p.2))
section
variable {X : Cx} {pos : Pos}
theorem DOk.nil : DOk X pos [] [] [] [] := fun W t => pps_nil
theorem DOk.str {x : Str} {j : Nat} {p : Pos} {v : Expr} {keys : List (Option Expr)} {values : List Expr} {ks : List Key} {f : E} {fs : List E} (h : EOk X v f) (r : DOk X pos keys values ks fs) : DOk X pos (some (.Constant (.str x) j p) :: keys) (v :: values) (.inr x :: ks) (f :: fs) := fun W t =>
  pps_cons (pe_str (x := x)) (h W t) (r W t)
theorem tPairs_of {W : WX} : ∀ {ks : List Key} {fs : List E} {σ : L2.St} {H : Hp} {Q : List V → Hp → Prop}, ks.length = fs.length → AI X.K X.mg W fs σ H Q → tPairs ((ks.zip fs).map fun p => (tC (kV p.1), EI X.K X.mg W p.2)) σ H fun ps H2 => (∃ ys, ps = (ks.zip ys).map (fun kv => (kV kv.1, kv.2)) ∧ ys.length = ks.length ∧ Q ys H2)
  | [], [], σ, H, Q, _, h => ⟨[], rfl, rfl, h.nil⟩
  | [], _ :: _, _, _, _, h, _ => by simp at h
  | _ :: _, [], _, _, _, h, _ => by simp at h
  | k :: ks, f :: fs, σ, H, Q, hl, h => h.cons.mono fun y H2 q => by
    have ih := tPairs_of (ks := ks) (by simpa using hl) q
    have mono : ∀ {trs : List (TE × TE)} {H : Hp} {Q Q' : List (V × V) → Hp → Prop}, (∀ ps H, Q ps H → Q' ps H) → (∀ tr ∈ trs, ∀ σ H (Q Q' : VK), (∀ x H, Q x H → Q' x H) → tr.2 σ H Q → tr.2 σ H Q') → (∀ tr ∈ trs, ∃ x, tr.1 = tC x) → tPairs trs σ H Q → tPairs trs σ H Q' := by
      intro trs
      induction trs with
      | nil => intro H Q Q' i _ _ h; exact i _ _ h
      | cons tr trs ih =>
        intro H Q Q' i m1 m2 h
        obtain ⟨tk, tv⟩ := tr
        obtain ⟨x, hx⟩ := m2 _ List.mem_cons_self
        simp only at hx
        subst hx
        exact m1 _ List.mem_cons_self σ H _ _ (fun y H2 h2 => ih (fun ps H h => i _ _ h) (fun tr ht => m1 tr (List.mem_cons_of_mem _ ht)) (fun tr ht => m2 tr (List.mem_cons_of_mem _ ht)) h2) h
    have m1 : ∀ tr ∈ ((ks.zip fs).map fun p => ((tC (kV p.1), EI X.K X.mg W p.2) : TE × TE)), ∀ σ H (Q Q' : VK), (∀ x H, Q x H → Q' x H) → tr.2 σ H Q → tr.2 σ H Q' := fun tr ht σ H Q Q' i h => by
      obtain ⟨p, _, rfl⟩ := List.mem_map.mp ht
      exact EI.mono h i
    have m2 : ∀ tr ∈ ((ks.zip fs).map fun p => ((tC (kV p.1), EI X.K X.mg W p.2) : TE × TE)), ∃ x, tr.1 = tC x := fun tr ht => by
      obtain ⟨p, _, rfl⟩ := List.mem_map.mp ht
      exact ⟨_, rfl⟩
    exact mono (fun ps H ⟨ys, h1, h2, h3⟩ => ⟨y :: ys, by rw [h1]; rfl, by simpa using h2, h3⟩) m1 m2 ih
end
end PyI
namespace PyI
open PySem PySem.Spec PyProof.Rows L2
theorem tPairs_mono {X : Cx} {W : WX} : ∀ {ks : List Key} {fs : List E} {σ : L2.St} {H : Hp} {Q Q' : List (V × V) → Hp → Prop}, (∀ ps H, Q ps H → Q' ps H) → tPairs ((ks.zip fs).map fun p => (tC (kV p.1), EI X.K X.mg W p.2)) σ H Q → tPairs ((ks.zip fs).map fun p => (tC (kV p.1), EI X.K X.mg W p.2)) σ H Q'
  | [], _, _, _, _, _, i, h => i _ _ h
  | _ :: _, [], _, _, _, _, i, h => i _ _ h
  | k :: ks, f :: fs, σ, H, Q, Q', i, h => EI.mono (show EI X.K X.mg W f σ H _ from h) fun y H2 h2 => tPairs_mono (ks := ks) (fs := fs) (fun ps H h => i _ _ h) h2
theorem EOk.disp {X : Cx} {pos : Pos} {keys : List (Option Expr)} {values : List Expr} {ks : List Key} {fs : List E} (h : DOk X pos keys values ks fs) (hn : ks.Nodup := by decide) (hf : ks.length = fs.length := by rfl) (hz : ks.length ≤ 15 := by decide) (hall : keys.all (·.isSome) = true := by rfl) (hl : keys.length = values.length := by rfl) (h0 : keys ≠ [] := by exact List.cons_ne_nil _ _)
    (h15 : keys.length ≤ 15 := by first | decide | (simp)) : EOk X (.Dict keys values pos) (dispE ks fs) := fun W t => (pe_disp (h W t) hall hl h0 h15).imp fun σ H Q hq => by
  intro p hp
  obtain ⟨F, T, as, L, st, c, r, q⟩ := hq
  have cp : c p = 0 := by
    by_cases e : c p = 0
    · exact e
    · exact absurd hp (r.there p e)
  have sm : Same H (upd H p (.dK [])) := same_new hp
  have sm0 : ∀ b, upd H p (.dK []) b = none → H b = none := fun b w => by
    cases u : H b with
    | none => rfl
    | some o => rw [sm _ _ u] at w; cases w
  have ne : ∀ b, H b ≠ none → b ≠ p := fun b e z => e (by rw [z]; exact hp)
  have key : AI X.K X.mg W fs σ (upd H p (.dK [])) fun ys H2 => H2 p = some (.dK []) ∧ ys.length = ks.length ∧ Q (.ref p) (upd H2 p (.dK (ks.zip ys))) := by
    refine ⟨F, T, as, L, st, c, r.same sm, ?_⟩
    unfold dispE at q
    cases e1 : evs fs st with
    | bad => rw [e1] at q; exact q
    | exc cl s => rw [e1] at q; exact fun F' as' σ' H' c1 r1 s1 p1 C hC => q F' as' σ' H' c1 r1 ⟨fun b o e z => s1.keep b o (sm _ _ e) z, fun b z => (s1.grow b z).imp id (sm0 b), s1.le, s1.sub, s1.dis, fun b z => (s1.fgr b z).imp id fun w => w.imp id (sm0 b), fun b z => s1.trk b (PyI.Same.trk sm b z)⟩ p1 C hC
    | ok z =>
      obtain ⟨vs, st1, e⟩ := z
      rw [e1] at q
      simp only at q
      intro F1 as1 H2 ys c1 ca r1 rv s1 p1 ef
      split at q
      · rename_i hc
        simp only [Bool.and_eq_true, decide_eq_true_eq] at hc
        have kp : H2 p = some (.dK []) := s1.keep p _ upd_same cp
        have zp : c1 p + ca p = 0 := by
          by_cases z : c1 p + ca p = 0
          · exact z
          · rcases s1.grow p z with w | w
            · exact absurd cp w
            · rw [upd_same] at w; cases w
        have nF : ∀ b, F1 b → b ≠ p := fun b z eb => by
          subst eb
          rcases s1.fgr b z with w | w | w
          · exact (r.fr b (.inl w)).2 hp
          · exact w cp
          · rw [upd_same] at w; cases w
        have nT : ∀ b, T b → b ≠ p := fun b z eb => (r.fr b (.inr z)).2 (by rw [eb]; exact hp)
        have hm : MutO (H2 p) := by rw [kp]; trivial
        have nd : ∀ d : Addr → Nat, (∀ b, d b ≤ c1 b + ca b) → ∀ b, F1 b ∨ T b ∨ d b ≠ 0 → b ≠ p := fun d hd b z eb => by
          rcases z with z | z | z
          · exact nF b z eb
          · exact nT b z eb
          · subst eb; have := hd b; omega
        have r3 := r1.wr (o := .dK (ks.zip ys)) (nd c1 fun b => Nat.le_add_right _ _) hm
        have rv3 := rv.stay (stors_noTrs hc.1) (stay_wr (o := .dK (ks.zip ys)) (nd ca fun b => Nat.le_add_left _ _) hm) (fun _ h => h) (fun _ h => h) Pre.refl
        have hlen : ks.length = ys.length := by rw [← rv.length]; exact hc.2.symm
        have rn : Rep X.K X.mg (upd H2 p (.dK (ks.zip ys))) F1 T as1 (.nd .own (.dK ks) vs) (.ref p) (fun b => oneD p b + ca b) := .own upd_same ⟨hlen, rfl⟩ rv3 fun b => rfl
        refine ⟨kp, hlen.symm, q F1 as1 _ (.ref p) c1 _ r3 rn ⟨fun b o e z => ?_, fun b z => ?_, fun b => ?_, s1.sub, fun b z => ?_, fun b z => ?_, fun b z => ?_⟩ p1 fun z => ⟨fun b o e => ?_, (ef z).2.1, (ef z).2.2⟩⟩
        · have nb := ne b (by rw [e]; exact fun w => nomatch w)
          rw [upd_ne nb]; exact s1.keep b o (sm _ _ e) z
        · by_cases eb : b = p
          · exact .inr (by rw [eb]; exact hp)
          · have z' : c1 b + (oneD p b + ca b) ≠ 0 := z
            simp only [oneD, if_neg eb] at z'
            rcases s1.grow b (by show c1 b + ca b ≠ 0; omega) with w | w
            · exact .inl w
            · rw [upd_ne eb] at w; exact .inr w
        · show c1 b + (oneD p b + ca b) ≤ 1
          by_cases eb : b = p
          · subst eb; simp only [oneD, if_true]; omega
          · simp only [oneD, if_neg eb]; have := s1.le b; have : c1 b + ca b ≤ 1 := this; omega
        · show c1 b + (oneD p b + ca b) = 0
          have := s1.dis b z
          have : c1 b + ca b = 0 := this
          simp only [oneD, if_neg (nF b z)]; omega
        · rcases s1.fgr b z with w | w | w
          · exact .inl w
          · exact .inr (.inl w)
          · rw [upd_ne (nF b z)] at w; exact .inr (.inr w)
        · rw [upd_ne (ne b z)]; exact s1.trk b (by rw [upd_ne (ne b z)]; exact z)
        · have nb := ne b (by rw [e]; exact fun w => nomatch w)
          rw [upd_ne nb]; exact (ef z).1 _ _ (sm _ _ e)
      · exact (show False from q).elim
  refine tPairs_mono (fun ps H2 ⟨ys, h1, h2, h3, h4, h5⟩ => ⟨h3, ks.zip ys, h1, ?_, ?_⟩) (tPairs_of hf key)
  · rw [List.length_zip]; omega
  · have hk : (ks.zip ys).map (·.1) = ks := List.map_fst_zip (by omega)
    rw [mergeK_app (ks.zip ys) [] (by rw [hk]; exact hn) fun _ _ => rfl]
    exact h5
end PyI

namespace PyI
open PySem PySem.Spec PyProof.Rows L2
/-! ### defs that change their first argument in place -/
inductive RIO where
  | ok (v w : Vl) | bad
/-- the first argument is own (region c), the others are only looked at -/
def spIO (K : PySem.W.Frag) (mg : Str → Option Value) (n : Nat) (Fn : List Vl → RIO) : Sp := fun xs H Q _ => xs.length = n ∧ ∃ (v : Vl) (x0 : V) (ys : List V) (ws : List Vl) (c c' : Addr → Nat) (S : Addr → Prop), xs = x0 :: ys ∧ Rep K mg H S (fun _ => False) [] v x0 c ∧ noTr v = true ∧ (∀ b, c b + c' b ≤ 1) ∧ (∀ b, S b → c b + c' b = 0 ∧ H b ≠ none) ∧
  Reps K mg H S (fun b => H b ≠ none ∧ c b + c' b = 0) [] ws ys c' ∧ noTrs ws = true ∧ match Fn (v :: ws) with
  | .ok r w => allOwn r = true ∧ stor w = true ∧ ∀ F' H' x c1 c2, (∀ b, F' b → H' b ≠ none) → Rep K mg H' F' (fun b => H b ≠ none ∧ c b + c' b = 0) [] w x0 c1 → Rep K mg H' F' (fun b => H b ≠ none ∧ c b + c' b = 0) [] r x c2 → Step S (fun b => c b + c' b) H F' (fun b => c1 b + c2 b) H' → Q x H'
  | .bad => False
def endIO (s : Sta) (r : Vl) : RIO := match s.sl[0]? with
  | some (some w) => if allOwn r && (stor w && noRef w) then .ok r w else .bad
  | _ => .bad
def runIO (n : Nat) (body : C) : List Vl → RIO := fun vs => match body ⟨vs.map some ++ List.replicate (n - vs.length) none, [], [0]⟩ with
  | .nx s => endIO s .non
  | .rt v s => endIO s v
  | _ => .bad
section
variable {K : PySem.W.Frag} {mg : Str → Option Value} {H : Hp} {F T : Addr → Prop} {as as' : List Addr}
mutual
theorem Rep.reAs {v : Vl} {x : V} {c : Addr → Nat} (r : Rep K mg H F T as v x c) (n : noRef v = true) : Rep K mg H F T as' v x c := by
  cases r with
  | non hc => exact .non hc
  | bl hc => exact .bl hc
  | int hc => exact .int hc
  | str hc => exact .str hc
  | ref h hc => unfold noRef at n; cases n
  | sym h hc => exact .sym h hc
  | tup h r => unfold noRef at n; exact .tup h (Reps.reAs r n)
  | own h ho r hc => unfold noRef at n; exact .own h ho (Reps.reAs r n) hc
  | sh h r hc => unfold noRef at n; exact .sh h (Reps.reAs r n) hc
  | bw h r hc => unfold noRef at n; exact .bw h (Reps.reAs r n) hc
  | tr h r hc => unfold noRef at n; exact .tr h (Reps.reAs r n) hc
theorem Reps.reAs {v : List Vl} {x : List V} {c : Addr → Nat} (r : Reps K mg H F T as v x c) (n : noRefs v = true) : Reps K mg H F T as' v x c := by
  cases r with
  | nil hc => exact .nil hc
  | cons r1 r2 hc =>
    unfold noRefs at n
    simp only [Bool.and_eq_true] at n
    exact .cons (Rep.reAs r1 n.1) (Reps.reAs r2 n.2) hc
end
end
mutual
theorem noTr_bw : ∀ {v : Vl}, noTr (setF .bw v) = true
  | .tup xs => by unfold setF noTr; exact noTrs_bw
  | .nd f k xs => by unfold setF noTr; simp only [Bool.and_eq_true]; exact ⟨by decide, noTrs_bw⟩
  | .non => rfl
  | .bl _ => rfl
  | .int _ => rfl
  | .str _ => rfl
  | .ref _ => rfl
  | .sym _ => rfl
theorem noTrs_bw : ∀ {v : List Vl}, noTrs (setFs .bw v) = true
  | [] => rfl
  | v :: r => by unfold setFs noTrs; simp only [Bool.and_eq_true]; exact ⟨noTr_bw, noTrs_bw⟩
end
theorem RepSl.ofRepsC {K : PySem.W.Frag} {mg : Str → Option Value} {H : Hp} {F T : Addr → Prop} {as : List Addr} : ∀ {vs : List Vl} {xs : List V} {n : Nat} {c : Addr → Nat}, Reps K mg H F T as vs xs c → noTrs vs = true → RepSl K mg H F T as (vs.map some ++ List.replicate n none) (xs.map some ++ List.replicate n none) c
  | _, _, 0, _, .nil hc, _ => .nil hc
  | _, _, n + 1, _, .nil hc, h => .no (RepSl.ofRepsC (n := n) (.nil hc) h)
  | _, _, n, _, .cons r s hc, h => by
    unfold noTrs at h
    simp only [Bool.and_eq_true] at h
    exact .yes r h.1 (RepSl.ofRepsC s h.2) hc
theorem body_io {K : PySem.W.Frag} {mg : Str → Option Value} {body : C} {N ps : List Str} {vs : List V} {H : Hp} {Q : VK} {E : XK} (hN : ps.length ≤ N.length) (h : spIO K mg ps.length (runIO N.length body) vs H Q E) : SI K mg (fun cls d _ H => E cls d H) body { nx := fun _ H' => Q .non H', rt := Q } (L2.start N vs) H := by
  obtain ⟨hl, v, x0, ys, ws, c, c', S, rfl, r0, nv, le, fr, rv, nws, q⟩ := h
  have lw := rv.length
  have e0 : (v :: ws).length = (x0 :: ys).length := by simp only [List.length_cons]; omega
  refine ⟨S, fun b => H b ≠ none ∧ c b + c' b = 0, [], [(0, x0)], ⟨(v :: ws).map some ++ List.replicate (N.length - (v :: ws).length) none, [], [0]⟩, fun b => c b + c' b, ⟨⟨fun b => c b + c' b, fun _ => 0, ?_, .nil fun _ => rfl, rfl, fun _ => rfl⟩, le, fun b z => ?_, rfl, fun p hp => ?_⟩, ?_⟩
  · unfold L2.start
    rw [e0]
    show RepSl K mg H _ _ _ (some v :: ((ws).map some ++ _)) (some x0 :: (ys.map some ++ _)) _
    exact .yes (r0.stay nv (fun b o e _ => e) (fun _ h => h) (fun _ h => h.elim) Pre.refl) nv (RepSl.ofRepsC rv nws) fun b => rfl
  · rcases z with z | z
    · exact fr b z
    · exact ⟨z.2, z.1⟩
  · rw [List.mem_singleton] at hp
    subst hp
    rfl
  · unfold runIO at q
    have fin : ∀ {s : Sta} {r : Vl} {F' : Addr → Prop} {as' : List Addr} {σ' : L2.St} {H' : Hp} {x : V} {c1 c2 : Addr → Nat}, (match endIO s r with
        | .ok r w => allOwn r = true ∧ stor w = true ∧ ∀ F' H' x c1 c2, (∀ b, F' b → H' b ≠ none) → Rep K mg H' F' (fun b => H b ≠ none ∧ c b + c' b = 0) [] w x0 c1 → Rep K mg H' F' (fun b => H b ≠ none ∧ c b + c' b = 0) [] r x c2 → Step S (fun b => c b + c' b) H F' (fun b => c1 b + c2 b) H' → Q x H'
        | .bad => False) → Rel K mg F' (fun b => H b ≠ none ∧ c b + c' b = 0) as' [(0, x0)] s σ' H' c1 → Rep K mg H' F' (fun b => H b ≠ none ∧ c b + c' b = 0) as' r x c2 → Step S (fun b => c b + c' b) H F' (fun b => c1 b + c2 b) H' → Q x H' := by
      intro s r F' as' σ' H' x c1 c2 he hr hx hs
      unfold endIO at he
      split at he
      · rename_i r' w' eq
        split at eq
        · rename_i w es
          split at eq
          · rename_i hc0
            cases eq
            simp only [Bool.and_eq_true] at hc0
            obtain ⟨y, d1, d2, e1, ry, _, _, hc⟩ := hr.slot es
            have e2 := hr.lk.2 (0, x0) (List.mem_singleton.mpr rfl)
            rw [e1] at e2
            cases e2
            exact he.2.2 F' H' x d1 c2 (fun b z => (hr.fr b (.inl z)).2) (ry.reAs hc0.2.2) (hx.home hc0.1) (hs.less fun b => by have := hc b; show d1 b + c2 b ≤ c1 b + c2 b; omega)
          · cases eq
        · cases eq
      · exact he.elim
    cases e1 : body ⟨(v :: ws).map some ++ List.replicate (N.length - (v :: ws).length) none, [], [0]⟩ with
    | bad => rw [e1] at q; exact q
    | bk s => rw [e1] at q; exact (show False from q).elim
    | ct s => rw [e1] at q; exact (show False from q).elim
    | exc cl s => rw [e1] at q; exact (show False from q).elim
    | nx s =>
      rw [e1] at q
      exact fun F' as' σ' H' c' r s p => fin q r (Rep.non' (F := F')) (s.less fun b => by show c' b + 0 ≤ c' b; omega)
    | rt r s =>
      rw [e1] at q
      exact fun F' as' σ' H' x c1 c2 r rx s p => fin q r rx s
end PyI
namespace PyI
open PySem PySem.Spec PyProof.Rows L2
theorem Fun.okIO {P : Program} {w : World} {K : PySem.W.Frag} {mg : Str → Option Value} {base : Heap} {x qual : Str} {st : Stmt} {f : Addr} {fd : FuncData} {N ps : List Str} {k : Nat} {body : C} (F : L2.Fun K x qual st f fd) (S : FnScope N ps (defScope st)) (hb : BodyOk P w K mg base k N qual st f body) :
    FnOk P w K mg base (L2.CX P w) (k + 1) f fd ps (spIO K mg ps.length (runIO N.length body)) := by
  have hpl : ps.length ≤ N.length := by have := congrArg List.length S.pre; rw [List.length_take] at this; omega
  refine F.okX S (fun vs H Q E h => h.1) fun cdv A outer s H vs Q E hr h => ?_
  exact ⟨_, hb cdv A outer s H E hr (fun cls d _ H => E cls d H) (takes_of rfl rfl rfl rfl), body_io hpl h⟩
def HasIO (P : Program) (w : World) (K : PySem.W.Frag) (mg : Str → Option Value) (base : Heap) (x : Str) (k : Nat) (ps : List Str) (Fn : List Vl → RIO) : Prop :=
  ∃ f fd, mg x = some (.ref f) ∧ PySem.W.keepIn K (.ref f) = true ∧ Binds K fd ps [] ∧ FnOk P w K mg base (L2.CX P w) k f fd ps (spIO K mg ps.length Fn)
theorem hasIO {P : Program} {w : World} {K : PySem.W.Frag} {mg : Str → Option Value} {base : Heap} {x : Str} {st : Stmt} {N ps : List Str} {k : Nat} {body : C} (d : DefAt K mg x st) (S : FnScope N ps (defScope st)) (hb : ∀ f, BodyOk P w K mg base k N x st f body)
    (bind : ∀ (kV doc pm : Value) (an : Option Addr) (cdv ct : Value) (us : List Value), us.length = ps.length → bindArgs (PySem.W.fnOf x x (defArgs st) (defBody st) (defScope st) .none kV doc pm an cdv ct) ⟨us, []⟩ = pure (ps.zip us)) :
    HasIO P w K mg base x (k + 1) ps (runIO N.length body) := by
  obtain ⟨f, fd, F, m⟩ := d
  exact ⟨f, fd, m, F.kp, F.binds bind, Fun.okIO F S (hb f)⟩
end PyI

namespace PyI
open PySem PySem.Spec PyProof.Rows L2
section
variable {K : PySem.W.Frag} {mg : Str → Option Value} {H : Hp} {F F' T T' : Addr → Prop} {as as' : List Addr}
mutual
theorem Rep.toBw {v : Vl} {x : V} {c : Addr → Nat} (r : Rep K mg H F T as v x c) (nt : noTr v = true) (nr : noRef v = true) (hF : ∀ b, F b → T' b) (hT : ∀ b, T b → T' b) (hc' : ∀ b, c b ≠ 0 → T' b) : Rep K mg H F' T' as' (setF .bw v) x (fun _ => 0) := by
  cases r with
  | non hc => unfold setF; exact .non fun _ => rfl
  | bl hc => unfold setF; exact .bl fun _ => rfl
  | int hc => unfold setF; exact .int fun _ => rfl
  | str hc => unfold setF; exact .str fun _ => rfl
  | ref h hc => unfold noRef at nr; cases nr
  | sym h hc => unfold setF; exact .sym h fun _ => rfl
  | tup h r => unfold noTr at nt; unfold noRef at nr; unfold setF; exact .tup h (Reps.toBw r nt nr hF hT hc')
  | own h ho r hc =>
    unfold noTr at nt; simp only [Bool.and_eq_true] at nt; unfold noRef at nr; unfold setF
    exact .bw (.inl ⟨hc' _ (by rw [hc]; simp), _, ho, .inl h⟩) (Reps.toBw r nt.2 nr hF hT fun b q => hc' b (by rw [hc]; omega)) fun _ => rfl
  | sh h r hc =>
    unfold noTr at nt; simp only [Bool.and_eq_true] at nt; unfold noRef at nr; unfold setF
    refine .bw ?_ (Reps.toBw r nt.2 nr hF hT hc') fun _ => rfl
    rcases h with ⟨h1, h2⟩ | h
    · exact .inl ⟨hF _ h1, h2⟩
    · exact .inr h
  | bw h r hc =>
    unfold noTr at nt; simp only [Bool.and_eq_true] at nt; unfold noRef at nr; unfold setF
    refine .bw ?_ (Reps.toBw r nt.2 nr hF hT hc') fun _ => rfl
    rcases h with ⟨h1, h2⟩ | h
    · exact .inl ⟨hT _ h1, h2⟩
    · exact .inr h
  | tr h r hc => unfold noTr at nt; simp at nt
theorem Reps.toBw {v : List Vl} {x : List V} {c : Addr → Nat} (r : Reps K mg H F T as v x c) (nt : noTrs v = true) (nr : noRefs v = true) (hF : ∀ b, F b → T' b) (hT : ∀ b, T b → T' b) (hc' : ∀ b, c b ≠ 0 → T' b) : Reps K mg H F' T' as' (setFs .bw v) x (fun _ => 0) := by
  cases r with
  | nil hc => unfold setFs; exact .nil fun _ => rfl
  | cons r1 r2 hc =>
    unfold noTrs at nt
    unfold noRefs at nr
    simp only [Bool.and_eq_true] at nt nr
    unfold setFs; exact .cons (Rep.toBw r1 nt.1 nr.1 hF hT fun b q => hc' b (by rw [hc]; omega)) (Reps.toBw r2 nt.2 nr.2 hF hT fun b q => hc' b (by rw [hc]; omega)) fun _ => rfl
end
end
end PyI
namespace PyI
open PySem PySem.Spec PyProof.Rows L2
/-- what is handed in: what is the caller's own and not held elsewhere goes over, all else is lent -/
def handIO (u : Vl) : Vl := if stor u && !noOwn u then u else setF .bw u
def handsIO : List Vl → List Vl
  | [] => []
  | u :: r => handIO u :: handsIO r
theorem len_handsIO : ∀ vs : List Vl, (handsIO vs).length = vs.length
  | [] => rfl
  | v :: r => by show (handsIO r).length + 1 = r.length + 1; rw [len_handsIO r]
theorem noTr_hand (u : Vl) : noTr (handIO u) = true := by
  unfold handIO
  split
  · rename_i h
    simp only [Bool.and_eq_true] at h
    exact stor_noTr h.1
  · exact noTr_bw
theorem noTrs_hand : ∀ vs : List Vl, noTrs (handsIO vs) = true
  | [] => rfl
  | v :: r => by show (noTr (handIO v) && noTrs (handsIO r)) = true; rw [noTr_hand, noTrs_hand r]; rfl
theorem Reps.handIO {K : PySem.W.Frag} {mg : Str → Option Value} {H : Hp} {F T : Addr → Prop} {as as' : List Addr} : ∀ {vs : List Vl} {xs : List V} {ca : Addr → Nat}, Reps K mg H F T as vs xs ca → noTrs vs = true → noRefs vs = true → (∀ b, ca b ≤ 1) →
    ∃ c', (∀ b, c' b ≤ ca b) ∧ ∀ T' : Addr → Prop, (∀ b, F b → T' b) → (∀ b, T b → T' b) → (∀ b, ca b ≠ 0 → c' b = 0 → T' b) → Reps K mg H F T' as' (handsIO vs) xs c'
  | _, _, _, .nil hc, _, _, _ => ⟨fun _ => 0, fun _ => Nat.zero_le _, fun _ _ _ _ => .nil fun _ => rfl⟩
  | _, _, ca, .cons (v := v) (c1 := c1) (c2 := c2) r s hc, nt, nr, le => by
    unfold noTrs at nt
    unfold noRefs at nr
    simp only [Bool.and_eq_true] at nt nr
    obtain ⟨c', h1, h2⟩ := Reps.handIO (as' := as') s nt.2 nr.2 fun b => by have := le b; rw [hc] at this; omega
    by_cases h : (stor v && !noOwn v) = true
    · refine ⟨fun b => c1 b + c' b, fun b => by rw [hc]; have := h1 b; show c1 b + c' b ≤ _; omega, fun T' hF hT hc' => ?_⟩
      have e : PyI.handIO v = v := if_pos h
      simp only [Bool.and_eq_true] at h
      show Reps K mg H F T' as' (PyI.handIO v :: handsIO _) _ _
      rw [e]
      refine .cons ((r.anyT h.1).reAs nr.1) (h2 T' hF hT fun b q q' => hc' b (by rw [hc]; omega) ?_) fun _ => rfl
      have := le b
      rw [hc] at this
      show c1 b + c' b = 0
      omega
    · refine ⟨fun b => 0 + c' b, fun b => by rw [hc]; have := h1 b; show 0 + c' b ≤ _; omega, fun T' hF hT hc' => ?_⟩
      have e : PyI.handIO v = setF .bw v := if_neg h
      show Reps K mg H F T' as' (PyI.handIO v :: handsIO _) _ _
      rw [e]
      refine .cons (r.toBw nt.1 nr.1 hF hT fun b q => hc' b (by rw [hc]; omega) ?_) (h2 T' hF hT fun b q q' => hc' b (by rw [hc]; omega) ?_) fun _ => rfl
      · have := le b
        have := h1 b
        rw [hc] at *
        show 0 + c' b = 0
        omega
      · show 0 + c' b = 0
        omega
def callIOE (i n : Nat) (Fn : List Vl → RIO) (fs : List E) : E := fun st => match st.sl[i]? with
  | some (some (.nd .own _ _)) => (match evs fs st with
    | .ok (vs, st1, _) => (match st1.sl[i]? with
      | some (some (.nd .own k xs)) => if (noTrs vs && noRefs vs) && (stor (.nd .own k xs) && noRef (.nd .own k xs)) && decide (vs.length + 1 = n) then (match Fn (.nd .own k xs :: handsIO vs) with
        | .ok r w => .ok (r, { st1 with sl := st1.sl.set i (some w) }, true)
        | .bad => .bad) else .bad
      | _ => .bad)
    | .exc c s => .exc c s
    | .bad => .bad)
  | _ => .bad
theorem EI.callIO {K : PySem.W.Frag} {mg : Str → Option Value} {W : WX} {i n : Nat} {Fn : List Vl → RIO} {fs : List E} {σ : L2.St} {H : Hp} {Q : VK} {E : XK} (h : EI K mg W (callIOE i n Fn fs) σ H Q) (hok : ∀ vs r w, Fn vs = .ok r w → allOwn r = true ∧ stor w = true ∧ noRef w = true) : ∃ x0, σ[i]? = some (some x0) ∧ AI K mg W fs σ H fun ys H2 => spIO K mg n Fn (x0 :: ys) H2 Q E := by
  obtain ⟨F, T, as, L, st, c0, r0, p⟩ := h
  unfold callIOE at p
  split at p
  · rename_i k0 xs0 e0
    obtain ⟨x0, _, _, ex0, _⟩ := r0.slot e0
    refine ⟨x0, ex0, F, T, as, L, st, c0, r0, ?_⟩
    cases e1 : evs fs st with
    | bad => rw [e1] at p; exact p
    | exc cl s => rw [e1] at p; exact p
    | ok z =>
      obtain ⟨vs, st1, f1⟩ := z
      rw [e1] at p
      simp only at p
      intro F1 as1 H2 ys c1 ca r1 rv s1 p1 ef
      split at p
      · rename_i k xs es
        split at p
        · rename_i hc
          simp only [Bool.and_eq_true, decide_eq_true_eq] at hc
          obtain ⟨⟨⟨nt, nr⟩, sv, nv⟩, hn⟩ := hc
          obtain ⟨x, d1, d2, e2, rx, nx, r2, hd⟩ := r1.slot es
          rw [ex0] at e2
          cases e2
          have le1 : ∀ b, c1 b + ca b ≤ 1 := s1.le
          have hl := rv.length
          obtain ⟨c', hc'1, hc'2⟩ := rv.handIO (as' := []) nt nr fun b => by have := le1 b; omega
          have tT : ∀ b, T b → d1 b + c' b = 0 ∧ H2 b ≠ none := fun b z => by
            have h0 := r1.fr b (.inr z)
            have := hd b
            have := hc'1 b
            have h9 := r0.fr b (.inr z)
            have : ca b = 0 := by
              by_cases u : ca b = 0
              · exact u
              · rcases s1.grow b (by show c1 b + ca b ≠ 0; omega) with q | q
                · exact absurd h9.1 q
                · exact absurd q h9.2
            exact ⟨by omega, h0.2⟩
          have tF : ∀ b, F1 b → d1 b + c' b = 0 ∧ H2 b ≠ none := fun b z => by
            have h0 := r1.fr b (.inl z)
            have := hd b
            have := hc'1 b
            have : c1 b + ca b = 0 := s1.dis b z
            exact ⟨by omega, h0.2⟩
          refine ⟨by simp only [List.length_cons]; omega, .nd .own k xs, x0, ys, handsIO vs, d1, c', F1, rfl, (rx.anyT sv).reAs nv, nx, fun b => by have := hd b; have := le1 b; have := hc'1 b; omega, tF, hc'2 _ (fun b z => ⟨(tF b z).2, (tF b z).1⟩) (fun b z => ⟨(tT b z).2, (tT b z).1⟩) (fun b z z' => ⟨fun e => by have := rv.mu b z; rw [e] at this; exact this, by have := hd b; have := le1 b; omega⟩), noTrs_hand vs, ?_⟩
          cases e3 : Fn (.nd .own k xs :: handsIO vs) with
          | bad => rw [e3] at p; exact p
          | ok r w =>
            rw [e3] at p
            simp only at p
            obtain ⟨ha, hw, nw⟩ := hok _ _ _ e3
            refine ⟨ha, hw, fun F' H' y e1c e2c hF' rw' rr s5 => ?_⟩
            have keep0 : ∀ b, F1 b ∨ T b ∨ d2 b ≠ 0 ∨ ¬ MutO (H2 b) → d1 b + c' b = 0 := fun b z => by
              rcases z with z | z | z | z
              · exact (tF b z).1
              · exact (tT b z).1
              · have := hd b; have := le1 b; have := hc'1 b; omega
              · by_cases q : d1 b = 0
                · by_cases q' : c' b = 0
                  · omega
                  · exact absurd (rv.mu b (by have := hc'1 b; omega)) z
                · exact absurd (rx.mu b q) z
            have st2 : Stay H2 H' F1 T d2 := fun b o e z => s5.keep b o e (keep0 b (by
              rcases z with z | z | z | z
              · exact .inl z
              · exact .inr (.inl z)
              · exact .inr (.inr (.inl z))
              · exact .inr (.inr (.inr (by rw [e]; exact z)))))
            have zF : ∀ b, F' b → d2 b = 0 := fun b z => by
              rcases s5.fgr b z with q | q | q
              · exact (r2.fr b (.inl q)).1
              · have := hd b; have := le1 b; have := hc'1 b; omega
              · by_cases u : d2 b = 0
                · exact u
                · exact absurd q (r2.there b u)
            have r3 : Rel K mg F' T as1 L { st1 with sl := st1.sl.set i none } σ H' d2 := by
              obtain ⟨g1, g2, h1, h2, h3, h4⟩ := r2.rep
              refine ⟨⟨g1, g2, h1.stay (st2.le fun b q => by rw [h4]; omega) s5.sub (fun _ h => h) Pre.refl, h2.stay h3 (st2.le fun b q => by rw [h4]; omega) s5.sub (fun _ h => h) Pre.refl, h3, h4⟩, r2.le, fun b z => ?_, r2.lk⟩
              rcases z with z | z
              · exact ⟨zF b z, hF' b z⟩
              · exact ⟨(r2.fr b (.inr z)).1, s5.trk b (tT b z).2⟩
            have hi : i < st1.sl.length := (List.getElem?_eq_some_iff.mp es).1
            have grow : ∀ b, e1c b + e2c b ≠ 0 → d2 b = 0 := fun b z => by
              rcases s5.grow b z with q | q
              · have := hd b; have := le1 b; have := hc'1 b; omega
              · by_cases u : d2 b = 0
                · exact u
                · exact absurd q (r2.there b u)
            have hT0 : ∀ b, T b → e1c b + e2c b = 0 := fun b z => by
              by_cases u : e1c b + e2c b = 0
              · exact u
              · rcases s5.grow b u with q | q
                · exact absurd (tT b z).1 q
                · exact absurd q (tT b z).2
            have r4 := r3.fill (v := w) (x := x0) (c1 := e1c) hi ex0 ((rw'.anyT hw).reAs nw) (stor_noTr hw) (fun b => by
              by_cases u : e1c b = 0
              · have := r2.le b; omega
              · have := grow b (by omega); have : e1c b + e2c b ≤ 1 := s5.le b; omega) fun b z => by
                rcases z with z | z
                · have : e1c b + e2c b = 0 := s5.dis b z; omega
                · have := hT0 b z; omega
            have dn : ∀ b, d1 b + c' b ≠ 0 → c0 b ≠ 0 ∨ H b = none := fun b z => s1.grow b (by have := hd b; have := hc'1 b; show c1 b + ca b ≠ 0; omega)
            have n0 : ∀ b, H2 b = none → H b = none := fun b z => by
              cases u : H b with
              | none => rfl
              | some o => exact absurd z (s1.trk b (by rw [u]; exact fun w => nomatch w))
            refine p F' as1 H' y _ e2c r4 (rr.home ha) ⟨fun b o e z => ?_, fun b z => ?_, fun b => ?_, fun b z => s5.sub b (s1.sub b z), fun b z => ?_, fun b z => ?_, fun b z => s5.trk b (s1.trk b z)⟩ p1 fun z => nomatch z
            · have h2 := s1.keep b o e z
              refine s5.keep b o h2 ?_
              by_cases q : d1 b + c' b = 0
              · exact q
              · rcases dn b q with w | w
                · exact absurd z w
                · rw [e] at w; cases w
            · have z' : (e1c b + d2 b) + e2c b ≠ 0 := z
              by_cases q : e1c b + e2c b = 0
              · exact s1.grow b (by have := hd b; show c1 b + ca b ≠ 0; omega)
              · rcases s5.grow b q with w | w
                · exact dn b w
                · exact .inr (n0 b w)
            · show (e1c b + d2 b) + e2c b ≤ 1
              by_cases q : e1c b + e2c b = 0
              · have := r2.le b; omega
              · have := grow b q; have : e1c b + e2c b ≤ 1 := s5.le b; omega
            · show (e1c b + d2 b) + e2c b = 0
              have : e1c b + e2c b = 0 := s5.dis b z
              have := zF b z
              omega
            · rcases s5.fgr b z with q | q | q
              · exact s1.fgr b q
              · exact .inr (dn b q)
              · exact .inr (.inr (n0 b q))
        · exact (show False from p).elim
      · exact (show False from p).elim
  · exact (show False from p).elim
end PyI
namespace PyI
open PySem PySem.Spec PyProof.Rows L2
theorem runIO_ok {n : Nat} {body : C} {vs : List Vl} {r w : Vl} (h : runIO n body vs = .ok r w) : allOwn r = true ∧ stor w = true ∧ noRef w = true := by
  have key : ∀ {s : Sta} {r0 : Vl}, endIO s r0 = .ok r w → allOwn r = true ∧ stor w = true ∧ noRef w = true := by
    intro s r0 he
    unfold endIO at he
    split at he
    · split at he
      · rename_i hc
        cases he
        simp only [Bool.and_eq_true] at hc
        exact ⟨hc.1, hc.2.1, hc.2.2⟩
      · cases he
    · cases he
  unfold runIO at h
  split at h
  · exact key h
  · exact key h
  · cases h
section
variable {X : Cx} {g x : Str} {p px pos : Pos} {es : List Expr} {fs : List E} {i k N : Nat} {ps : List Str} {body : C}
theorem EOk.callIO (G : HasIO X.prog X.w X.K X.mg X.base g k ps (runIO N body)) (hr : Room k X.A) (ha : AOk X es fs) (hN : X.N[i]? = some x := by rfl) (hv : Vis X.env.scope x := by first | exact Or.inl rfl | exact Or.inr (Or.inl rfl) | exact Or.inr (Or.inr rfl))
    (hd : (x == ("__debug__" : Str)) = false := by decide) (hcd : (x == ("__classdict__" : Str)) = false := by decide) (hg : Gl X g := by rfl) (hdb : (g == ("__debug__" : Str)) = false := by decide)
    (he : starEach (.Name x px :: es) X.env = (false, eval (.Name x px) X.env) :: starEach es X.env := by rfl) (hpl : (backTo pos (starEach es X.env)).any (·.1) = false := by rfl) :
    EOk X (.Call (.Name g p) (.Name x px :: es) [] pos) (callIOE i ps.length (runIO N body) fs) := by
  obtain ⟨f, fd, m, kp, b, G⟩ := G
  exact fun W t => (pe_callS (E := WE W) G hr hg m kp b (fun σ => passAt t σ) (pa_cons (pe_var hN hv hd hcd) (ha W t) he) hdb he hpl).imp fun σ H Q h => h.callIO fun vs r w e => runIO_ok e
end
end PyI

namespace L2
open PySem PySem.Spec PyProof.Rows
/-- a or b, by a's truth -/
def tOrT (K : PySem.W.Frag) (ta tb : TE) : TE := fun σ H Q => ta σ H fun x H1 => ∃ k, TruV K x H1 k ∧ if k = true then Q x H1 else tb σ H1 Q
theorem pe_orT {X : Cx} {a b : Expr} {rest : List Expr} {ta tb : TE} {pos : Pos} (ha : PE X a ta) (hb : PE X (.BoolOp .Or (b :: rest) pos) tb) : PE X (.BoolOp .Or (a :: b :: rest) pos) (tOrT X.K ta tb) := by
  refine ⟨fun pins s σ H Q I h => ?_⟩
  refine BoolOp_or (thn (ha.run pins s σ H _ I h) fun v s1 ⟨x, H1, I1, r1, q1⟩ => ?_)
  obtain ⟨k, hk, q1⟩ := q1
  refine wpAny_mono (tru_ok pins s1 σ H1 x v (fun k' H2 => k' = k ∧ H2 = H1) I1 r1 ⟨k, hk, rfl, rfl⟩) (fun c s2 hc => ?_) fun _ _ z => z
  obtain ⟨H2, I2, e1, e2⟩ := hc
  subst e1 e2
  cases c with
  | false => exact hb.run pins s2 σ _ Q I2 q1
  | true => exact ⟨x, _, I2, r1, q1⟩
end L2
namespace PyI
open PySem PySem.Spec PyProof.Rows L2
def orLE (fa fb : E) : E := fun st => match fa st with
  | .ok (.nd f .lst xs, st1, false) => if xs.isEmpty then fb st1 else .ok (.nd f .lst xs, st1, false)
  | .ok _ => .bad
  | .exc c s => .exc c s
  | .bad => .bad
theorem EI.orL {K : PySem.W.Frag} {mg : Str → Option Value} {W : WX} {fa fb : E} {σ : L2.St} {H : Hp} {Q : VK} (h : EI K mg W (orLE fa fb) σ H Q) : EI K mg W fa σ H fun x H1 => ∃ k, TruV K x H1 k ∧ if k = true then Q x H1 else EI K mg W fb σ H1 Q := by
  obtain ⟨F, T, as, L, st, c, r, p⟩ := h
  refine ⟨F, T, as, L, st, c, r, ?_⟩
  unfold orLE at p
  cases e1 : fa st with
  | bad => rw [e1] at p; exact p
  | exc cl s => rw [e1] at p; exact p
  | ok q =>
    obtain ⟨v, st1, f1⟩ := q
    rw [e1] at p
    intro F1 as1 H1 x c1 c2 r1 rv s1 p1 ef
    split at p
    · rename_i f xs st1' eq
      cases eq
      obtain ⟨a, ysV, c', rfl, hS, rr, _⟩ := rv.inv_lst
      have hl := rr.length
      refine ⟨!ysV.isEmpty, .inl ⟨ysV, hS, rfl⟩, ?_⟩
      cases xs with
      | nil =>
        have : ysV = [] := List.eq_nil_of_length_eq_zero (by simpa using hl.symm)
        subst this
        have p' : EPost K mg W F T as L st c σ H (fb st1) Q := p
        have s1' : Step F c H F1 c1 H1 := s1.less fun b => Nat.le_add_right _ _
        refine ⟨F1, T, as1, L, st1, c1, r1, ?_⟩
        cases e2 : fb st1 with
        | bad => rw [e2] at p'; exact (show False from p').elim
        | exc cl s => rw [e2] at p'; exact XPost.back p' r1 (cv := fun _ => 0) (fun b q => absurd rfl q) s1' p1
        | ok z =>
          obtain ⟨w, st2, f2⟩ := z
          rw [e2] at p'
          intro F2 as2 H2 y d1 d2 r2 rw' s2 p2 ef2
          refine p' F2 as2 H2 y d1 d2 r2 rw' (s1'.trans s2) (p1.trans p2) fun q => ?_
          exact ⟨(ef rfl).1.trans (ef2 q).1, (ef2 q).2.1.trans (ef rfl).2.1, fun b h => (ef rfl).2.2 b ((ef2 q).2.2 b h)⟩
      | cons w ws =>
        cases ysV with
        | nil => simp at hl
        | cons z zs => exact p F1 as1 H1 _ c1 c2 r1 rv s1 p1 ef
    · exact (show False from p).elim
    · rename_i h; cases h
    · rename_i h; cases h
theorem EOk.orL {X : Cx} {a b : Expr} {rest : List Expr} {pos : Pos} {fa fb : E} (ha : EOk X a fa) (hb : EOk X (.BoolOp .Or (b :: rest) pos) fb) : EOk X (.BoolOp .Or (a :: b :: rest) pos) (orLE fa fb) := fun W t =>
  (pe_orT (ha W t) (hb W t)).imp fun σ H Q h => h.orL
end PyI

namespace PyI
open PySem PySem.Spec PyProof.Rows L2
/-! ### x[a], x[b] = v, w: plain values -/
def flatV1 (w : Vl) : Bool := match w with
  | .non => true
  | .bl _ => true
  | .int _ => true
  | .str _ => true
  | _ => false
def flatV0 (w : Vl) : Bool := match w with
  | .tup xs => xs.all flatV1
  | w => flatV1 w
/-- store a plain value at a place of a slot's own list -/
def tgIx (i : Nat) (fi : E) : Tg := fun v st => match fi st with
  | .ok (.int j, _, false) => (match getN st i with
    | some (.lst, xs) => if flatV0 v then (ixN xs.length j).map fun n => putN st i .lst (xs.set n v) else none
    | _ => none)
  | _ => none
theorem flat1_so {v : Vl} (f : flatV1 v = true) : stor v = true ∧ noOwn v = true := by
  unfold flatV1 at f
  split at f <;> first | exact ⟨rfl, rfl⟩ | cases f
theorem flats_so : ∀ {xs : List Vl}, xs.all flatV1 = true → stors xs = true ∧ noOwns xs = true
  | [], _ => ⟨rfl, rfl⟩
  | v :: r, h => by
    rw [List.all_cons, Bool.and_eq_true] at h
    obtain ⟨a, b⟩ := flat1_so h.1
    obtain ⟨c, d⟩ := flats_so h.2
    exact ⟨by show (stor v && stors r) = true; rw [a, c]; rfl, by show (noOwn v && noOwns r) = true; rw [b, d]; rfl⟩
theorem flat_son {v : Vl} (f : flatV0 v = true) : stor v = true ∧ noOwn v = true := by
  unfold flatV0 at f
  split at f
  · exact flats_so f
  · exact flat1_so f
theorem flat_so {v : Vl} (f : flatV0 v = true) : stor v = true := (flat_son f).1
theorem flat_rep {K : PySem.W.Frag} {mg : Str → Option Value} {H H' : Hp} {F T : Addr → Prop} {as : List Addr} {v : Vl} {x : V} {c : Addr → Nat} (r : Rep K mg H F T as v x c) (f : flatV0 v = true) (s : Stay H H' F T (fun _ => 0)) : Rep K mg H' F T as v x (fun _ => 0) := by
  have z := Rep.none0 r (flat_son f).2
  have e : c = fun _ => 0 := funext z
  subst e
  exact r.stay (stor_noTr (flat_so f)) s (fun _ h => h) (fun _ h => h) Pre.refl
/-- what a plain value's target wishes -/
def FI (K : PySem.W.Frag) (mg : Str → Option Value) (g : Tg) : TG := fun x σ H Q => ∃ F T as L st v c, Rel K mg F T as L st σ H c ∧ Rep K mg H F T as v x (fun _ => 0) ∧ ∃ st', g v st = some st' ∧ ∀ H' c', Rel K mg F T as L st' σ H' c' → Step F c H F c' H' → Q σ H'
def FOk (X : Cx) (tg : Expr) (g : Tg) : Prop := PG X tg (FI X.K X.mg g)
end PyI
namespace PyI
open PySem PySem.Spec PyProof.Rows L2
section
variable {X : Cx} {x : Str} {ei : Expr} {fi : E} {i : Nat} {p0 q0 : Pos}
theorem FOk.sub (hi : EOk X ei fi) (hN : X.N[i]? = some x := by rfl) (hv : Vis X.env.scope x := by first | exact Or.inl rfl | exact Or.inr (Or.inl rfl) | exact Or.inr (Or.inr rfl)) (hd : (x == ("__debug__" : Str)) = false := by decide) (hcd : (x == ("__classdict__" : Str)) = false := by decide)
    (ha : ∀ v, assign (.Subscript (.Name x p0) ei q0) X.env v = (do
      let ov ← holding [v] (eval (.Name x p0) X.env)
      let iv ← holding [v, ov] (eval ei X.env)
      standAt q0
      holding [v, ov, iv] (setItem ov iv v)
      release [v, ov, iv] []) := by intro _; rfl) : FOk X (.Subscript (.Name x p0) ei q0) (tgIx i fi) :=
  (pg_sub (pe_var hN hv hd hcd) (hi _ takesF) set_list ha).imp fun v σ H Q ⟨F, T, as, L, st, w, c, r, rv, st', e, q⟩ => by
    unfold tgIx at e
    split at e
    · rename_i j s' ef
      split at e
      · rename_i xs eg
        split at e
        · rename_i hfl
          obtain ⟨n, en, e2⟩ := Option.map_eq_some_iff.mp e
          subst e2
          obtain ⟨a, o, xsV, cx, es, ha, ho, rx, ntx, kx, up⟩ := r.node eg
          refine ⟨.ref a, es, F, T, as, L, st, c, r, ?_⟩
          rw [ef]
          intro F1 as1 H2 y c1 c2 r1 ry s1 p1 ef1
          obtain ⟨sm, _, _⟩ := ef1 rfl
          have rs := r.same sm
          obtain ⟨a2, o2, xsV2, cx2, es2, ha2, ho2, rx2, ntx2, kx2, up2⟩ := rs.node eg
          rw [es] at es2
          cases es2
          cases ho2
          refine ⟨a, xsV2, j, n, rfl, ry.inv_int, ha2, by rw [← rx2.length]; exact en, ?_⟩
          obtain ⟨c', r3, k3⟩ := rx2.set (k := n) (rv.same sm (fun _ h => h) (fun _ h => h) Pre.refl)
          have nt3 : noTrs (xs.set n w) = true := by
            have : ∀ (l : List Vl) (n : Nat), noTrs l = true → noTrs (l.set n w) = true := by
              intro l
              induction l with
              | nil => intro n h; exact h
              | cons u l ih =>
                intro n h
                unfold noTrs at h
                simp only [Bool.and_eq_true] at h
                cases n with
                | zero => show (noTr w && noTrs l) = true; rw [stor_noTr (flat_so hfl), h.2]; rfl
                | succ n => show (noTr u && noTrs (l.set n w)) = true; rw [h.1, ih n h.2]; rfl
            exact this xs n ntx2
          obtain ⟨c3, r4, k4⟩ := up2 (fun _ => 0) .lst (xs.set n w) (xsV2.set n v) c' _ (fun b => by have := r.le b; omega) (fun _ _ => rfl) (fun b => by have := k3 b; omega) r3 nt3 rfl
          have oa : oneD a a = 1 := if_pos rfl
          refine q _ c3 r4 ⟨fun b u e z => ?_, fun b z => .inl ?_, r4.le, fun _ h => h, fun b z => (r4.fr b (.inl z)).1, fun _ h => .inl h, fun b z => ?_⟩
          · have nb : b ≠ a := fun eb => by
              subst eb
              have := kx2 b
              omega
            rw [upd_ne nb]; exact sm _ _ e
          · have := k4 b; have := k3 b; have := kx2 b
            omega
          · by_cases eb : b = a
            · rw [eb, upd_same]; exact fun w => nomatch w
            · rw [upd_ne eb]; exact PyI.Same.trk sm b z
        · cases e
      · cases e
    · cases e
end
end PyI
namespace PyI
open PySem PySem.Spec PyProof.Rows L2
/-- x[a], x[b] = v, w, of plain values -/
def swapC (fv fw : E) (g1 g2 : Tg) : C := fun st => match evs [fv, fw] st with
  | .ok ([v, w], st1, _) => if flatV0 v && flatV0 w then (match g1 v st1 with
    | some st2 => (match g2 w st2 with
      | some st3 => .nx st3
      | none => .bad)
    | none => .bad) else .bad
  | .ok _ => .bad
  | .exc c s => .exc c s
  | .bad => .bad
section
variable {X : Cx} {t1 t2 e1 e2 : Expr} {g1 g2 : Tg} {fv fw : E} {k : Nat} {tp q0 pos : Pos} {n1 : Nat}
theorem SOk.swap (hc : X.calm = true) (hv : EOk X e1 fv) (hw : EOk X e2 fw) (h1 : FOk X t1 g1) (h2 : FOk X t2 g2)
    (hn : (assignEach [t1, t2] X.env).length = 2 := by rfl) (hst : (assignEach [t1, t2] X.env).findIdx? (·.1) = none := by rfl)
    (ha1 : (assignEach [t1, t2] X.env).map (·.2) = assign t1 X.env :: (assignEach [t2] X.env).map (·.2) := by rfl) (ha2 : (assignEach [t2] X.env).map (·.2) = assign t2 X.env :: (assignEach [] X.env).map (·.2) := by rfl)
    (hs : swapsWithSole [.Tuple [t1, t2] k tp] (.Tuple [e1, e2] n1 q0) pos.line X.env = pure false := by rfl) (hsw : swappedStores [.Tuple [t1, t2] k tp] (.Tuple [e1, e2] n1 q0) X.env = pure none := by rfl)
    (ha : (assignEach [.Tuple [t1, t2] k tp] X.env).map (·.2) = [assign (.Tuple [t1, t2] k tp) X.env] := by rfl)
    (hse : starEach [e1, e2] X.env = (false, eval e1 X.env) :: starEach [e2] X.env := by rfl) (hse2 : starEach [e2] X.env = (false, eval e2 X.env) :: starEach [] X.env := by rfl) :
    SOk X (.Assign [.Tuple [t1, t2] k tp] (.Tuple [e1, e2] n1 q0) pos) (swapC fv fw g1 g2) := fun W t =>
  (ps_asg (pe_tup ((AOk.cons hv (AOk.cons hw AOk.nil hse2) hse) W t)) (pg_tup hc (pgs_cons h1 (pgs_cons h2 pgs_nil ha2) ha1) hn hst) hs hsw ha).imp fun D σ H h => by
    obtain ⟨F, T, as, L, st, c, r, p⟩ := h
    show AI X.K X.mg W [fv, fw] σ H _
    refine ⟨F, T, as, L, st, c, r, ?_⟩
    unfold swapC at p
    cases e0 : evs [fv, fw] st with
    | bad => rw [e0] at p; exact p
    | exc cl s => rw [e0] at p; exact p
    | ok z =>
      obtain ⟨vs, st1, f1⟩ := z
      rw [e0] at p
      intro F1 as1 H1 xs c1 ca r1 rv s1 p1 ef
      split at p
      · rename_i v w st1' f1' eq
        cases eq
        split at p
        · rename_i hf
          simp only [Bool.and_eq_true] at hf
          obtain ⟨x, y, d1, d2, rfl, rx, ry, hd⟩ := rv.inv2
          split at p
          · rename_i st2 eg1
            split at p
            · rename_i st3 eg2
              refine ⟨by rw [sizeLine_eq]; simp, fun q hq => ?_⟩
              have sm : Same H1 (upd H1 q (.tup [x, y])) := same_new hq
              refine ⟨q, [x, y], rfl, .inl (.inl upd_same), rfl, x, [y], rfl, ?_⟩
              refine ⟨F1, T, as1, L, st1, v, c1, r1.same sm, flat_rep rx hf.1 (fun b o e _ => sm b o e), st2, eg1, fun H2 c2 r2 s2 => ?_⟩
              refine ⟨y, [], rfl, ?_⟩
              refine ⟨F1, T, as1, L, st2, w, c2, r2, flat_rep (flat_rep ry hf.2 (fun b o e _ => sm b o e)) hf.2 ((r1.same sm).stay (fun b q => absurd rfl q) s2.keep), st3, eg2, fun H3 c3 r3 s3 => ?_⟩
              refine ⟨rfl, p F1 as1 σ H3 c3 r3 ?_ p1⟩
              have s0 : Step F c H F1 c1 (upd H1 q (.tup [x, y])) := ⟨fun b o e z => sm _ _ (s1.keep b o e z), fun b z => s1.grow b (by show c1 b + ca b ≠ 0; omega), r1.le, s1.sub, fun b z => by have : c1 b + ca b = 0 := s1.dis b z; omega, s1.fgr, fun b z => PyI.Same.trk sm b (s1.trk b z)⟩
              exact (s0.trans s2).trans s3
            · exact (show False from p).elim
          · exact (show False from p).elim
        · exact (show False from p).elim
      · exact (show False from p).elim
      · rename_i h; cases h
      · rename_i h; cases h
end
end PyI

namespace PyI
open PySem PySem.Spec PyProof.Rows L2
/-! ### sorted, of whole numbers -/
def insI (n : Int) : List Int → List Int
  | [] => [n]
  | m :: r => if n ≤ m then n :: m :: r else m :: insI n r
def sortI : List Int → List Int
  | [] => []
  | n :: r => insI n (sortI r)
theorem insI_perm (n : Int) : ∀ r : List Int, (insI n r).Perm (n :: r)
  | [] => List.Perm.refl _
  | m :: r => by
    unfold insI
    split
    · exact List.Perm.refl _
    · exact ((insI_perm n r).cons m).trans (List.Perm.swap n m r)
theorem sortI_perm : ∀ r : List Int, (sortI r).Perm r
  | [] => List.Perm.refl _
  | n :: r => (insI_perm n _).trans ((sortI_perm r).cons n)
theorem insI_sorted (n : Int) : ∀ {r : List Int}, r.Pairwise (· ≤ ·) → (insI n r).Pairwise (· ≤ ·)
  | [], _ => List.pairwise_singleton _ _
  | m :: r, h => by
    obtain ⟨h1, h2⟩ := List.pairwise_cons.mp h
    unfold insI
    split
    · rename_i hn
      refine List.pairwise_cons.mpr ⟨fun x hx => ?_, h⟩
      rcases List.mem_cons.mp hx with rfl | hx
      · exact hn
      · exact Int.le_trans hn (h1 x hx)
    · rename_i hn
      refine List.pairwise_cons.mpr ⟨fun x hx => ?_, insI_sorted n h2⟩
      rcases List.mem_cons.mp ((insI_perm n r).mem_iff.mp hx) with rfl | hx
      · omega
      · exact h1 x hx
theorem sortI_sorted : ∀ r : List Int, (sortI r).Pairwise (· ≤ ·)
  | [] => List.Pairwise.nil
  | n :: r => insI_sorted n (sortI_sorted r)
theorem sorted_uniq : ∀ {a b : List Int}, a.Perm b → a.Pairwise (· ≤ ·) → b.Pairwise (· ≤ ·) → a = b
  | [], b, p, _, _ => (List.nil_perm.mp p).symm
  | x :: a, [], p, _, _ => absurd p.length_eq (by simp)
  | x :: a, y :: b, p, ha, hb => by
    obtain ⟨a1, a2⟩ := List.pairwise_cons.mp ha
    obtain ⟨b1, b2⟩ := List.pairwise_cons.mp hb
    have hx : x ∈ y :: b := p.mem_iff.mp List.mem_cons_self
    have hy : y ∈ x :: a := p.mem_iff.mpr List.mem_cons_self
    have e : x = y := by
      have h1 : y ≤ x := by rcases List.mem_cons.mp hx with h | h; exact Int.le_of_eq h.symm; exact b1 x h
      have h2 : x ≤ y := by rcases List.mem_cons.mp hy with h | h; exact Int.le_of_eq h.symm; exact a1 y h
      omega
    subst e
    rw [sorted_uniq ((List.perm_cons x).mp p) a2 b2]

/-! ### .. of tuples of whole numbers -/
def lexL : List Int → List Int → Bool
  | [], [] => false
  | [], _ :: _ => true
  | _ :: _, [] => false
  | x :: xs, y :: ys => if x = y then lexL xs ys else decide (x < y)
theorem lexL_asym : ∀ {a b : List Int}, lexL a b = true → lexL b a = false
  | [], [], h => rfl
  | [], _ :: _, h => rfl
  | _ :: _, [], h => by cases h
  | x :: xs, y :: ys, h => by
    unfold lexL at h ⊢
    by_cases e : x = y
    · rw [if_pos e] at h; rw [if_pos e.symm]; exact lexL_asym h
    · rw [if_neg e] at h; rw [if_neg fun z => e z.symm]
      have := of_decide_eq_true h
      exact decide_eq_false (by omega)
theorem lexL_neg : ∀ {a b c : List Int}, lexL a b = false → lexL b c = false → lexL a c = false
  | [], [], c, _, h => h
  | [], _ :: _, _, h, _ => by cases h
  | x :: xs, b, [], _, _ => rfl
  | x :: xs, [], z :: zs, _, h => by cases h
  | x :: xs, y :: ys, z :: zs, h1, h2 => by
    unfold lexL at h1 h2 ⊢
    by_cases e : x = y
    · rw [if_pos e] at h1
      subst e
      by_cases f : x = z
      · rw [if_pos f] at h2 ⊢; exact lexL_neg h1 h2
      · rw [if_neg f] at h2 ⊢; exact h2
    · rw [if_neg e] at h1
      have h1 := of_decide_eq_false h1
      by_cases f : y = z
      · subst f; rw [if_neg e]; exact decide_eq_false h1
      · rw [if_neg f] at h2
        have h2 := of_decide_eq_false h2
        rw [if_neg (by omega)]
        exact decide_eq_false (by omega)
theorem lexL_eq : ∀ {a b : List Int}, lexL a b = false → lexL b a = false → a = b
  | [], [], _, _ => rfl
  | [], _ :: _, h, _ => by cases h
  | _ :: _, [], _, h => by cases h
  | x :: xs, y :: ys, h1, h2 => by
    unfold lexL at h1 h2
    by_cases e : x = y
    · rw [if_pos e] at h1; rw [if_pos e.symm] at h2
      rw [e, lexL_eq h1 h2]
    · rw [if_neg e] at h1; rw [if_neg fun z => e z.symm] at h2
      have := of_decide_eq_false h1
      have := of_decide_eq_false h2
      omega
def insT (n : List Int) : List (List Int) → List (List Int)
  | [] => [n]
  | m :: r => if lexL m n then m :: insT n r else n :: m :: r
def sortT : List (List Int) → List (List Int)
  | [] => []
  | n :: r => insT n (sortT r)
theorem insT_perm (n : List Int) : ∀ r : List (List Int), (insT n r).Perm (n :: r)
  | [] => List.Perm.refl _
  | m :: r => by
    unfold insT
    split
    · exact ((insT_perm n r).cons m).trans (List.Perm.swap n m r)
    · exact List.Perm.refl _
theorem sortT_perm : ∀ r : List (List Int), (sortT r).Perm r
  | [] => List.Perm.refl _
  | n :: r => (insT_perm n _).trans ((sortT_perm r).cons n)
abbrev SrtT (r : List (List Int)) : Prop := r.Pairwise fun x y => lexL y x = false
theorem insT_sorted (n : List Int) : ∀ {r : List (List Int)}, SrtT r → SrtT (insT n r)
  | [], _ => List.pairwise_singleton _ _
  | m :: r, h => by
    obtain ⟨h1, h2⟩ := List.pairwise_cons.mp h
    unfold insT
    split
    · rename_i hn
      refine List.pairwise_cons.mpr ⟨fun x hx => ?_, insT_sorted n h2⟩
      rcases List.mem_cons.mp ((insT_perm n r).mem_iff.mp hx) with rfl | hx
      · exact lexL_asym hn
      · exact h1 x hx
    · rename_i hn
      have hn : lexL m n = false := by simpa using hn
      refine List.pairwise_cons.mpr ⟨fun x hx => ?_, h⟩
      rcases List.mem_cons.mp hx with rfl | hx
      · exact hn
      · exact lexL_neg (h1 x hx) hn
theorem sortT_sorted : ∀ r : List (List Int), SrtT (sortT r)
  | [] => List.Pairwise.nil
  | n :: r => insT_sorted n (sortT_sorted r)
theorem srtT_uniq : ∀ {a b : List (List Int)}, a.Perm b → SrtT a → SrtT b → a = b
  | [], b, p, _, _ => (List.nil_perm.mp p).symm
  | x :: a, [], p, _, _ => absurd p.length_eq (by simp)
  | x :: a, y :: b, p, ha, hb => by
    obtain ⟨a1, a2⟩ := List.pairwise_cons.mp ha
    obtain ⟨b1, b2⟩ := List.pairwise_cons.mp hb
    have hx : x ∈ y :: b := p.mem_iff.mp List.mem_cons_self
    have hy : y ∈ x :: a := p.mem_iff.mpr List.mem_cons_self
    have rf : ∀ z : List Int, lexL z z = false := fun z => by
      cases h : lexL z z with
      | false => rfl
      | true => have := lexL_asym h; rw [h] at this; exact this
    have e : x = y := by
      have h1 : lexL x y = false := by rcases List.mem_cons.mp hx with h | h; rw [h]; exact rf _; exact b1 x h
      have h2 : lexL y x = false := by rcases List.mem_cons.mp hy with h | h; rw [h]; exact rf _; exact a1 y h
      exact lexL_eq h1 h2
    subst e
    rw [srtT_uniq ((List.perm_cons x).mp p) a2 b2]
/-- v is a tuple of these whole numbers -/
def IsTI (h : Heap) (v : Value) (ns : List Int) : Prop := ∃ a o its n, v = .ref a ∧ h.get? a = some o ∧ o.cls = .type "tuple" ∧ o.data = .seq its n ∧ Vals (ns.map V.int) its.toList
theorem IsTI.keeps {h h' : Heap} {v : Value} {ns : List Int} (p : IsTI h v ns) (k : ∀ b o, h.get? b = some o → o.cls = .type "tuple" → h'.get? b = some o) : IsTI h' v ns := by
  obtain ⟨a, o, its, n, e, ho, hc, hd, r⟩ := p
  exact ⟨a, o, its, n, e, k _ _ ho hc, hc, hd, r⟩
theorem vals_inj : ∀ {ns ms : List Int} {us : List Value}, Vals (ns.map V.int) us → Vals (ms.map V.int) us → ns = ms
  | [], [], _, _, _ => rfl
  | [], _ :: _, _, h1, h2 => by cases h1; cases h2
  | _ :: _, [], _, h1, h2 => by cases h2; cases h1
  | n :: ns, m :: ms, _, .cons r1 s1, .cons r2 s2 => by
    obtain ⟨t1, e1⟩ := (show ∃ t, _ = Value.int n t from r1)
    obtain ⟨t2, e2⟩ := (show ∃ t, _ = Value.int m t from r2)
    rw [e1] at e2
    cases e2
    rw [vals_inj s1 s2]
theorem IsTI.uniq {h : Heap} {v : Value} {ns ms : List Int} (p : IsTI h v ns) (q : IsTI h v ms) : ns = ms := by
  obtain ⟨a, o, its, n, e, ho, hc, hd, r⟩ := p
  obtain ⟨a', o', its', n', e', ho', hc', hd', r'⟩ := q
  rw [e] at e'
  cases e'
  rw [ho] at ho'
  cases ho'
  rw [hd] at hd'
  cases hd'
  exact vals_inj r r'
section
variable {prog : Program} {w : World} {A : Around} {E : Value → Shared → Prop} {s : Shared} {Q : Bool → Shared → Prop}
theorem lex_go {b : Bool} : ∀ {ns ms : List Int} {xs ys : List Value} (i : Nat), Vals (ns.map V.int) xs → Vals (ms.map V.int) ys → Q (lexL ns ms) s → PySem.W.KatLex prog w A b (decide (ns.length < ms.length)) Q (xs.zip ys) i s
  | [], [], _, _, _, .nil, .nil, h => PySem.W.kat_nil h
  | [], _ :: _, _, _, _, .nil, .cons _ _, h => PySem.W.kat_nil (by
      rw [show decide (([] : List Int).length < (_ :: _ : List Int).length) = true from decide_eq_true (by simp)]; exact h)
  | _ :: _, [], _, _, _, .cons _ _, .nil, h => PySem.W.kat_nil (by
      rw [show decide ((_ :: _ : List Int).length < ([] : List Int).length) = false from decide_eq_false (by simp)]; exact h)
  | n :: ns, m :: ms, _, _, i, .cons r1 s1, .cons r2 s2, h => by
    obtain ⟨t1, rfl⟩ := (show ∃ t, _ = Value.int n t from r1)
    obtain ⟨t2, rfl⟩ := (show ∃ t, _ = Value.int m t from r2)
    have e0 : decide ((n :: ns).length < (m :: ms).length) = decide (ns.length < ms.length) := decide_eq_decide.mpr (by simp)
    rw [e0]
    show PySem.W.KatLex prog w A b _ Q ((Value.int n t1, Value.int m t2) :: List.zip _ _) i s
    refine PySem.W.kat_cons (SeqAt.EqAt.int_int n t1 m t2 prog w _ _ ?_)
    refine PySem.W.kat_go (fun e1 => ?_) (fun e1 => ?_)
    · have ex : n = m := by simpa using e1
      refine PySem.W.kat_yes (lex_go (i + 1) s1 s2 ?_)
      unfold lexL at h
      rwa [if_pos ex] at h
    · have ex : ¬ n = m := by simpa using e1
      unfold lexL at h
      rw [if_neg ex] at h
      exact PySem.W.kat_no (TS.oneLt_ints _ h)
theorem firstsT {h : Heap} : ∀ {vs : List Value}, (∀ v ∈ vs, ∃ ns, IsTI h v ns ∧ ns ≠ []) → ∃ fs : List Value, PySem.W.KatTups h vs fs ∧ fs.length = vs.length ∧ ∀ f ∈ fs, ∃ x t, f = Value.int x t
  | [], _ => ⟨[], PySem.W.KatTups.nil, rfl, fun _ hm => by simp at hm⟩
  | v :: vs, hp => by
    obtain ⟨fs, h1, h2, h3⟩ := firstsT (vs := vs) fun v' hm => hp v' (List.mem_cons_of_mem _ hm)
    obtain ⟨ns, ⟨a, o, its, n, e, ho, hc, hd, r⟩, hne⟩ := hp v (List.mem_cons_self ..)
    subst e
    cases ns with
    | nil => exact absurd rfl hne
    | cons x ns =>
      generalize hL : its.toList = L at r
      cases r with
      | cons r1 s1 =>
        obtain ⟨t, rfl⟩ := (show ∃ t, _ = Value.int x t from r1)
        refine ⟨.int x t :: fs, PySem.W.KatTups.cons ho hc hd ?_ h1, by rw [List.length_cons, List.length_cons, h2], fun f hm => ?_⟩
        · have z := congrArg (fun l : List Value => l[0]?) hL
          simpa using z
        · rcases List.mem_cons.mp hm with rfl | hm
          · exact ⟨x, t, rfl⟩
          · exact h3 f hm
theorem swo_lexL (k : Value → List Int) : SrtO.Swo fun v u => lexL (k v) (k u) := ⟨fun x y h => lexL_asym h, fun x y z h1 h2 => lexL_neg h2 h1⟩
theorem tups_cmp {vs : List Value} {k : Value → List Int} (hp : ∀ v ∈ vs, IsTI s.heap v (k v)) : SrtO.Cmp prog w A s (tuples' true) (fun p => p.1 ∈ vs) (SrtO.lt2 fun v u => lexL (k v) (k u)) := by
  intro p q hm hm'
  have h1 := hp _ hm
  have h2 := hp _ hm'
  show wpAny (model prog w) A (keyLt' (tuples' true) p.1 q.1) (fun r s' => s' = s ∧ r = lexL (k p.1) (k q.1)) (fun _ _ => False) s
  generalize k p.1 = ns at h1 ⊢
  generalize k q.1 = ms at h2 ⊢
  obtain ⟨a, o, its, n, e, ho, hc, hd, r⟩ := h1
  obtain ⟨a', o', its', n', e', ho', hc', hd', r'⟩ := h2
  rw [e, e']
  refine PySem.W.kat_lt ho hd ho' hd' ?_
  have l1 := r.length
  have l2 := r'.length
  rw [List.length_map] at l1 l2
  rw [show its.size = ns.length by rw [l1]; simp, show its'.size = ms.length by rw [l2]; simp]
  exact lex_go 0 r r' ⟨rfl, rfl⟩
theorem tups_sortable {a : Addr} {vs : List Value} {k : Value → List Int} (h0 : 0 < vs.length) (hp : ∀ v ∈ vs, IsTI s.heap v (k v) ∧ k v ≠ []) (ha : ∀ o, s.heap.get? a = some o → o.cls ≠ .type "tuple") : SrtO.SortableO prog w A s a vs fun v u => lexL (k v) (k u) := by
  intro h' keep
  have hp' : ∀ v ∈ vs, IsTI h' v (k v) := fun v hm => (hp v hm).1.keeps fun b o e c => keep b o (fun z => by subst z; exact ha o e c) e
  obtain ⟨fs, h1, h2, h3⟩ := firstsT fun v hm => ⟨_, hp' v hm, (hp v hm).2⟩
  refine ⟨tuples' true, fun Q E hq => ?_, tups_cmp hp'⟩
  refine PySem.W.kat_kind (T := .type "int") h1 (by omega) (fun f hm => ?_) (by rfl) ?_
  · obtain ⟨x, t, rfl⟩ := h3 f hm
    exact PySem.W.Looks.now
  · have e : (Value.type "int" != Value.type "tuple") = true := by first | decide +kernel | rfl | decide
    rw [e]
    exact hq
theorem sorted_tupsO {E : Value → Shared → Prop} {Q : Value → Shared → Prop} {l : Addr} {vs : List Value} {k : Value → List Int} (hl : s.heap.IsList l vs.toArray) (hz : vs.length ≤ sizeLine) (hp : ∀ v ∈ vs, IsTI s.heap v (k v) ∧ k v ≠ [])
    (h : ∀ (h' : Heap) (d : Addr) (out : List Value), SrtO.Srtd (fun v u => lexL (k v) (k u)) out → SrtO.Stb (fun v u => lexL (k v) (k u)) out vs → (∀ b o, s.heap.get? b = some o → h'.get? b = some o) → s.heap.objs.size ≤ d → (∃ n, h'.get? d = some (seqObj "list" out.toArray n)) → Q (.ref d) { s with heap := h' }) :
    wpAny (model prog w) A (call (.builtin "sorted") [.ref l]) Q E s := by
  refine SrtO.sorted_ord (swo_lexL k) hl hz (fun h2 h₁ a ha kk => ?_) fun out hs hb => ?_
  · refine tups_sortable (s := { s with heap := h₁ }) (by omega) (fun v hm => ⟨(hp v hm).1.keeps fun b o e _ => (kk b o e).2, (hp v hm).2⟩) fun o e => ?_
    have e' : some o = some (seqObj "list" vs.toArray 0) := e.symm.trans ha
    cases e'
    intro c
    exact absurd (Value.type.inj c) (by decide)
  · exact h _ _ out hs hb (fun b o e => sortedAll_old e) (Nat.le_succ _) (sortedAll_at s.heap vs out.toArray)
end
def rSortedT (K : PySem.W.Frag) : List V → Hp → VK → Prop := fun vs H Q => ∃ (a : Addr) (ps : List (V × List Int)), vs = [.ref a] ∧ SqL K H a (ps.map (·.1)) ∧ (∀ p ∈ ps, ∃ t, p.1 = .ref t ∧ SqT K H t (p.2.map V.int) ∧ p.2 ≠ []) ∧
  ∀ (zs : List (V × List Int)) (q : Addr), zs.Perm ps → zs.Pairwise (fun x y => lexL y.2 x.2 = false) → H q = none → Q (.ref q) (upd H q (.lst (zs.map (·.1))))
theorem cr_sortedT {X : Cx} : CallR X (.builtin "sorted") (rSortedT X.K) := by
  intro pins s σ H vs us Q I r h
  obtain ⟨a, ps, rfl, hs, hx, q⟩ := h
  obtain ⟨its, rv, hl, hz⟩ := I.list hs
  obtain ⟨u, rfl, ru⟩ := vals1 r
  obtain rfl : u = Value.ref a := ru
  have hp0 : ∀ p ∈ ps, ∃ t, p.1 = .ref t ∧ IsTI s.heap (.ref t) p.2 ∧ p.2 ≠ [] := fun p hm => by
    obtain ⟨t, e, ht, hne⟩ := hx p hm
    obtain ⟨its2, r2, ⟨o, ho, hc, n, hd⟩, _⟩ := I.tuple ht
    exact ⟨t, e, ⟨t, o, _, n, rfl, ho, hc, hd, by simpa using r2⟩, hne⟩
  obtain ⟨k, hk⟩ : ∃ k : Value → List Int, ∀ v ns, IsTI s.heap v ns → k v = ns := by
    classical
    refine ⟨fun v => if h : ∃ ns, IsTI s.heap v ns then h.choose else [], fun v ns h => ?_⟩
    have hh : ∃ ns, IsTI s.heap v ns := ⟨ns, h⟩
    simp only [dif_pos hh]
    exact hh.choose_spec.uniq h
  obtain ⟨e1, e2⟩ := refs_back rv fun x m => by
    obtain ⟨p, hm, rfl⟩ := List.mem_map.mp m
    obtain ⟨t, e, _⟩ := hp0 p hm
    exact ⟨t, e⟩
  have eps : ps = its.map fun v => (backV v, k v) := by
    have gen : ∀ (ps : List (V × List Int)) (its : List Value), (∀ p ∈ ps, ∃ t, p.1 = .ref t ∧ IsTI s.heap (.ref t) p.2 ∧ p.2 ≠ []) → ps.map (·.1) = its.map backV → (∀ u ∈ its, ∃ a, u = Value.ref a) → ps = its.map fun v => (backV v, k v) := by
      intro ps
      induction ps with
      | nil => intro its _ e _; cases its with | nil => rfl | cons => simp at e
      | cons p ps ih =>
        intro its h e hr
        cases its with
        | nil => simp at e
        | cons v its =>
          simp only [List.map_cons, List.cons.injEq] at e
          obtain ⟨t, e3, h3, _⟩ := h p List.mem_cons_self
          obtain ⟨b, rfl⟩ := hr v List.mem_cons_self
          have eb : V.ref t = backV (.ref b) := e3.symm.trans e.1
          have eb' : t = b := by
            have : V.ref t = V.ref b := eb
            cases this; rfl
          subst eb'
          rw [List.map_cons, ← ih its (fun q m => h q (List.mem_cons_of_mem _ m)) e.2 fun u m => hr u (List.mem_cons_of_mem _ m)]
          congr 1
          have := hk _ _ h3
          rw [this]
          exact Prod.ext e.1 rfl
    exact gen ps its hp0 e1 e2
  have hp : ∀ v ∈ its, IsTI s.heap v (k v) ∧ k v ≠ [] := fun v hv => by
    have hm : (backV v, k v) ∈ ps := by rw [eps]; exact List.mem_map.mpr ⟨v, hv, rfl⟩
    obtain ⟨t, e, h3⟩ := hp0 _ hm
    obtain ⟨b, rfl⟩ := e2 v hv
    have : V.ref b = V.ref t := e
    cases this
    exact h3
  refine sorted_tupsO hl.isList (by rw [← rv.length]; exact hz) hp fun h' d out h1 h2 k2 hd hn => ?_
  have h3 : ∀ u ∈ out, ∃ a, u = Value.ref a := fun u hu => e2 u (h2.perm.mem_iff.mp hu)
  obtain ⟨n, hn⟩ := hn
  refine ⟨.ref d, upd H d (.lst (out.map backV)), I.laid (t' := s.toks) k2 hd ⟨?_, out, n, vals_back h3, hn⟩, rfl, ?_⟩
  · rw [List.length_map, h2.len, ← rv.length]; exact hz
  · have := q (out.map fun v => (backV v, k v)) d (by rw [eps]; exact h2.perm.map _) (List.pairwise_map.mpr h1) (I.hok.fresh hd)
    rw [List.map_map] at this
    exact this
def tisOf : List Vl → Option (List (List Int))
  | [] => some []
  | .tup xs :: r => match intsOf xs, tisOf r with
    | some (n :: ns), some t => some ((n :: ns) :: t)
    | _, _ => none
  | _ :: _ => none
def tiV (ns : List Int) : Vl := .tup (ns.map Vl.int)
def gSort : List Vl → Option Vl
  | [.nd _ .lst xs] => match intsOf xs with
    | some ns => some (.nd .own .lst ((sortI ns).map Vl.int))
    | none => (tisOf xs).map fun ts => .nd .own .lst ((sortT ts).map tiV)
  | _ => none
section
variable {K : PySem.W.Frag} {mg : Str → Option Value} {H : Hp} {F T : Addr → Prop} {as : List Addr}
theorem Reps.tis : ∀ {vs : List Vl} {xs : List V} {c : Addr → Nat} {ts : List (List Int)}, Reps K mg H F T as vs xs c → tisOf vs = some ts → ∃ ps : List (V × List Int), xs = ps.map (·.1) ∧ ts = ps.map (·.2) ∧ ∀ p ∈ ps, ∃ t, p.1 = .ref t ∧ SqT K H t (p.2.map V.int) ∧ p.2 ≠ []
  | [], _, _, _, r, e => by cases r; unfold tisOf at e; cases e; exact ⟨[], rfl, rfl, fun p h => nomatch h⟩
  | .tup xs :: vs, _, _, _, .cons r s _, e => by
    unfold tisOf at e
    split at e
    · rename_i n ns t e1 e2
      cases e
      obtain ⟨ps, h1, h2, h3⟩ := s.tis e2
      obtain ⟨a, ys, rfl, ha, s1⟩ := r.inv_tup
      have ey := s1.ints e1
      subst ey
      refine ⟨(.ref a, n :: ns) :: ps, by rw [h1]; rfl, by rw [h2]; rfl, fun p hp => ?_⟩
      rcases List.mem_cons.mp hp with rfl | hp
      · exact ⟨a, rfl, ha, by simp⟩
      · exact h3 p hp
    · cases e
  | .non :: _, _, _, _, _, e => by unfold tisOf at e; cases e
  | .bl _ :: _, _, _, _, _, e => by unfold tisOf at e; cases e
  | .int _ :: _, _, _, _, _, e => by unfold tisOf at e; cases e
  | .str _ :: _, _, _, _, _, e => by unfold tisOf at e; cases e
  | .ref _ :: _, _, _, _, _, e => by unfold tisOf at e; cases e
  | .sym _ :: _, _, _, _, _, e => by unfold tisOf at e; cases e
  | .nd _ _ _ :: _, _, _, _, _, e => by unfold tisOf at e; cases e
theorem reps_tis : ∀ {ps : List (V × List Int)}, (∀ p ∈ ps, ∃ t, p.1 = .ref t ∧ SqT K H t (p.2.map V.int) ∧ p.2 ≠ []) → Reps K mg H F T as (ps.map fun p => tiV p.2) (ps.map (·.1)) (fun _ => 0)
  | [], _ => .nil fun _ => rfl
  | p :: ps, h => by
    obtain ⟨t, e, h1, _⟩ := h p List.mem_cons_self
    obtain ⟨x, ns⟩ := p
    cases e
    exact .cons (.tup h1 (Reps.intL _)) (reps_tis fun q m => h q (List.mem_cons_of_mem _ m)) fun _ => rfl
theorem stors_tis : ∀ ts : List (List Int), stors (ts.map tiV) = true
  | [] => rfl
  | t :: r => by
    have h1 : ∀ ns : List Int, stors (ns.map Vl.int) = true := fun ns => by
      induction ns with
      | nil => rfl
      | cons n ns ih => show (true && stors _) = true; rw [ih]; rfl
    show (stors (t.map Vl.int) && stors (r.map tiV)) = true
    rw [stors_tis r, h1]; rfl
end
theorem gop_sort {K : PySem.W.Frag} {mg : Str → Option Value} : GOp K mg gSort (fun xs H Q => rSortedI K xs H Q ∨ rSortedT K xs H Q) := by
  intro H F T as vs xs c v Q r hl e fin
  unfold gSort at e
  split at e
  · rename_i f zs
    obtain ⟨x, rfl, r1⟩ := r.inv1
    obtain ⟨a, ys, c', rfl, h, s, k⟩ := r1.inv_lst
    split at e
    · rename_i ns e1
      cases e
      have ey := s.ints e1
      subst ey
      refine .inl ⟨a, ns, rfl, h, fun ns' p hp hs hn => ?_⟩
      have en : ns' = sortI ns := sorted_uniq (hp.trans (sortI_perm ns).symm) hs (sortI_sorted ns)
      subst en
      have em : mkL ((sortI ns).map Vl.int) = .nd .own .lst ((sortI ns).map Vl.int) := mkL_ints _
      rw [← em] at fin
      exact fin.mkL (c5 := fun _ => 0) (Reps.intL _) (fun b => Nat.zero_le _) hl (same_new hn) hn upd_same
    · obtain ⟨ts, e1, e2⟩ := Option.map_eq_some_iff.mp e
      subst e2
      obtain ⟨ps, h1, h2, h3⟩ := s.tis e1
      subst h1 h2
      refine .inr ⟨a, ps, rfl, h, h3, fun qs p hp hs hn => ?_⟩
      have en : qs.map (·.2) = sortT (ps.map (·.2)) := srtT_uniq ((hp.map _).trans (sortT_perm _).symm) (List.pairwise_map.mpr hs) (sortT_sorted _)
      have em : mkL ((sortT (ps.map (·.2))).map tiV) = .nd .own .lst ((sortT (ps.map (·.2))).map tiV) := by unfold mkL; rw [if_pos (stors_tis _)]
      rw [← em, ← en] at fin
      rw [List.map_map] at fin
      have h4 : ∀ p ∈ qs, ∃ t, p.1 = .ref t ∧ SqT K H t (p.2.map V.int) ∧ p.2 ≠ [] := fun p hm => h3 p (hp.mem_iff.mp hm)
      exact fin.mkL (c5 := fun _ => 0) (reps_tis h4) (fun b => Nat.zero_le _) hl (same_new hn) hn upd_same
  · cases e
theorem EOk.sorted {X : Cx} {e : Expr} {fs : List E} {p pos : Pos} (hm : X.mg "sorted" = none) (ha : AOk X [e] fs) (hgl : Gl X "sorted" := by rfl) (he : starEach [e] X.env = (false, eval e X.env) :: starEach [] X.env := by rfl) : EOk X (.Call (.Name "sorted" p) [e] [] pos) (opE gSort fs) :=
  .callB (cr_sortedI.or cr_sortedT) gop_sort hgl hm (by decide +kernel) ha (by decide) (by decide) he (by rfl)
end PyI

namespace PyI
open PySem PySem.Spec PyProof.Rows L2
/-! ### a def that calls itself: by its depth -/
theorem hasBad {P : Program} {w : World} {K : PySem.W.Frag} {mg : Str → Option Value} {base : Heap} {x : Str} {st : Stmt} {N ps : List Str} {k : Nat} (d : DefAt K mg x st) (S : FnScope N ps (defScope st))
    (bind : ∀ (kV doc pm : Value) (an : Option Addr) (cdv ct : Value) (us : List Value), us.length = ps.length → bindArgs (PySem.W.fnOf x x (defArgs st) (defBody st) (defScope st) .none kV doc pm an cdv ct) ⟨us, []⟩ = pure (ps.zip us)) :
    HasF P w K mg base x (k + 1) ps (fun _ => .bad) := by
  obtain ⟨f, fd, F, m⟩ := d
  exact ⟨f, fd, m, F.kp, F.binds bind, F.okX S (fun vs H Q E h => h.1) fun cdv A outer s H vs Q E hr h => by
    obtain ⟨_, _, _, q⟩ := h
    exact q.elim⟩
/-! ### min, max of one list of whole numbers -/
def minI : Int → List Int → Int
  | m, [] => m
  | m, n :: r => minI (if n < m then n else m) r
def maxI : Int → List Int → Int
  | m, [] => m
  | m, n :: r => maxI (if m < n then n else m) r
theorem minI_le : ∀ (m : Int) (r : List Int), minI m r ≤ m ∧ (∀ y ∈ r, minI m r ≤ y) ∧ minI m r ∈ m :: r
  | m, [] => ⟨Int.le_refl _, fun y h => (by cases h), List.mem_cons_self⟩
  | m, n :: r => by
    obtain ⟨h1, h2, h3⟩ := minI_le (if n < m then n else m) r
    show minI (if n < m then n else m) r ≤ m ∧ (∀ y ∈ n :: r, minI (if n < m then n else m) r ≤ y) ∧ minI (if n < m then n else m) r ∈ m :: n :: r
    have hx : (if n < m then n else m) ≤ m ∧ (if n < m then n else m) ≤ n := by split <;> omega
    refine ⟨Int.le_trans h1 hx.1, fun y h => ?_, ?_⟩
    · rcases List.mem_cons.mp h with rfl | h
      · exact Int.le_trans h1 hx.2
      · exact h2 y h
    · rcases List.mem_cons.mp h3 with h | h
      · rw [h]; split <;> simp
      · exact List.mem_cons_of_mem _ (List.mem_cons_of_mem _ h)
theorem maxI_le : ∀ (m : Int) (r : List Int), m ≤ maxI m r ∧ (∀ y ∈ r, y ≤ maxI m r) ∧ maxI m r ∈ m :: r
  | m, [] => ⟨Int.le_refl _, fun y h => (by cases h), List.mem_cons_self⟩
  | m, n :: r => by
    obtain ⟨h1, h2, h3⟩ := maxI_le (if m < n then n else m) r
    show m ≤ maxI (if m < n then n else m) r ∧ (∀ y ∈ n :: r, y ≤ maxI (if m < n then n else m) r) ∧ maxI (if m < n then n else m) r ∈ m :: n :: r
    have hx : m ≤ (if m < n then n else m) ∧ n ≤ (if m < n then n else m) := by split <;> omega
    refine ⟨Int.le_trans hx.1 h1, fun y h => ?_, ?_⟩
    · rcases List.mem_cons.mp h with rfl | h
      · exact Int.le_trans hx.2 h1
      · exact h2 y h
    · rcases List.mem_cons.mp h3 with h | h
      · rw [h]; split <;> simp
      · exact List.mem_cons_of_mem _ (List.mem_cons_of_mem _ h)
def gMin1 : List Vl → Option Vl
  | [.nd _ .lst xs] => match intsOf xs with
    | some (n :: ns) => some (.int (minI n ns))
    | _ => none
  | _ => none
def gMax1 : List Vl → Option Vl
  | [.nd _ .lst xs] => match intsOf xs with
    | some (n :: ns) => some (.int (maxI n ns))
    | _ => none
  | _ => none
section
variable {K : PySem.W.Frag} {mg : Str → Option Value}
theorem gop_min1 : GOp K mg gMin1 (rMin K) := by
  intro H F T as vs xs c v Q r hl e fin
  unfold gMin1 at e
  split at e
  · split at e
    · rename_i n ns e1
      cases e
      obtain ⟨x, rfl, r1⟩ := r.inv1
      obtain ⟨a, xs, c', rfl, h, s, k⟩ := r1.inv_lst
      rw [s.ints e1] at h
      refine ⟨a, n :: ns, rfl, h, by simp, fun m hm hle => ?_⟩
      obtain ⟨h1, h2, h3⟩ := minI_le n ns
      have em : m = minI n ns := by
        have a1 := hle _ h3
        have a2 : minI n ns ≤ m := by
          rcases List.mem_cons.mp hm with h | h
          · omega
          · exact h2 m h
        omega
      rw [em]; exact fin.int
    · cases e
  · cases e
theorem gop_max1 : GOp K mg gMax1 (rMax K) := by
  intro H F T as vs xs c v Q r hl e fin
  unfold gMax1 at e
  split at e
  · split at e
    · rename_i n ns e1
      cases e
      obtain ⟨x, rfl, r1⟩ := r.inv1
      obtain ⟨a, xs, c', rfl, h, s, k⟩ := r1.inv_lst
      rw [s.ints e1] at h
      refine ⟨a, n :: ns, rfl, h, by simp, fun m hm hle => ?_⟩
      obtain ⟨h1, h2, h3⟩ := maxI_le n ns
      have em : m = maxI n ns := by
        have a1 := hle _ h3
        have a2 : m ≤ maxI n ns := by
          rcases List.mem_cons.mp hm with h | h
          · omega
          · exact h2 m h
        omega
      rw [em]; exact fin.int
    · cases e
  · cases e
end
section
variable {X : Cx} {e : Expr} {fs : List E} {p pos : Pos}
theorem EOk.min1 (hc : X.calm = true) (hm : X.mg "min" = none) (ha : AOk X [e] fs) (hgl : Gl X "min" := by rfl) (he : starEach [e] X.env = (false, eval e X.env) :: starEach [] X.env := by rfl) : EOk X (.Call (.Name "min" p) [e] [] pos) (opE gMin1 fs) :=
  .callB (cr_min hc) gop_min1 hgl hm (by decide +kernel) ha (by decide) (by decide) he rfl
theorem EOk.max1 (hc : X.calm = true) (hm : X.mg "max" = none) (ha : AOk X [e] fs) (hgl : Gl X "max" := by rfl) (he : starEach [e] X.env = (false, eval e X.env) :: starEach [] X.env := by rfl) : EOk X (.Call (.Name "max" p) [e] [] pos) (opE gMax1 fs) :=
  .callB (cr_max hc) gop_max1 hgl hm (by decide +kernel) ha (by decide) (by decide) he rfl
end
/-! ### x *= n -/
def mulB (i j : Int) : Bool := inB 18446744073709551615 i || inB 18446744073709551615 j
section
variable {X : Cx} {x : Str} {e : Expr} {f : E} {i : Nat} {pos' pos : Pos}
theorem SOk.augM (hN : X.N.Nodup) (he : EOk X e f) (hi : X.N[i]? = some x := by rfl) (hx : Loc X.env.scope x := by first | exact Or.inl rfl | exact Or.inr rfl) (hf : X.fn x = true ∨ X.env.scope.names.lookup x = some .local := by first | exact .inl rfl | exact .inr rfl) :
    SOk X (.AugAssign (.Name x pos') .Mult e pos) (asgC (tgN i) (augE (i2c mulB fun i j => .int (i * j)) i f)) := fun W t => (ps_aug hN hi hx (he W t) (ti := rI CMul fun i j => .int (i * j)) (fun pins s σ H x y v u Q I r1 r2 h => iop_mul pins s σ H x y v u Q I r1 r2 h) hf).imp fun D σ H hh => by
  have h1 := (SOk.asg_of hh)
  have h2 := (EI.op h1 (gop_i2 (C := CMul) fun i j hc => by
    unfold mulB at hc
    simp only [Bool.or_eq_true, inB_eq] at hc
    show _ ∨ _
    omega)).two
  obtain ⟨F, T, as, L, st, c, r, p⟩ := h2
  unfold varE at p
  split at p
  · rename_i n e0
    split at p
    · rename_i w ew
      obtain ⟨y, c1, c2, e1, r1, n1, r2, k⟩ := r.slot e0
      obtain ⟨a, c3, ea, r3, _⟩ := r.cell ew
      cases r1 with
      | ref hh hc =>
        rw [hh] at ea
        cases ea
        have q := p F as H _ c (fun _ => 0) r r3.peek r.refl Pre.refl fun _ => ⟨Same.refl H, rfl, fun _ h => h⟩
        refine ⟨_, e1, q.mono fun z H2 ⟨x', y', ex, a', b', ea', eb', hcc, g⟩ => ?_⟩
        cases ex
        cases ea'
    · exact (show False from p).elim
  · rename_i v ne e0
    obtain ⟨y, c1, c2, e1, r1, n1, r2, k⟩ := r.slot e0
    have q := p F as H _ c (fun _ => 0) r r1.peek r.refl Pre.refl fun _ => ⟨Same.refl H, rfl, fun _ h => h⟩
    refine ⟨_, e1, q.mono fun z H2 ⟨x', y', ex, a', b', ea', eb', hcc, g⟩ => ?_⟩
    cases ex
    refine ⟨a', b', ea', eb', hcc, ?_⟩
    obtain ⟨F, T, as, L, st, v, c1, c2, fl, rv, st', e, q⟩ := g
    unfold tgN at e
    split at e
    · rename_i hc
      cases e
      simp only [Bool.and_eq_true, decide_eq_true_eq, Bool.not_eq_true'] at hc
      obtain ⟨c', r', k'⟩ := fl.store rv hc.1.1 hc.1.2 hc.2
      exact q _ c' r' k'
    · cases e
  · exact (show False from p).elim
end
end PyI

namespace PyI
open PySem PySem.Spec PyProof.Rows L2
/-! ### in, not in: lists, dicts, tuples of flat items -/
def fvV : Vl → Option V
  | .non => some .non
  | .bl b => some (.bl b)
  | .int i => some (.int i)
  | .str x => some (.str x)
  | _ => none
def fvs : List Vl → Option (List V)
  | [] => some []
  | v :: r => match fvV v, fvs r with
    | some x, some xs => some (x :: xs)
    | _, _ => none
section
variable {K : PySem.W.Frag} {mg : Str → Option Value} {H : Hp} {F T : Addr → Prop} {as : List Addr}
theorem Rep.fv {v : Vl} {x y : V} {c : Addr → Nat} (r : Rep K mg H F T as v x c) (e : fvV v = some y) : x = y ∧ flatV y = true := by
  unfold fvV at e
  split at e
  · cases e; exact ⟨r.inv_non, rfl⟩
  · cases e; exact ⟨r.inv_bl, rfl⟩
  · cases e; exact ⟨r.inv_int, rfl⟩
  · cases e; exact ⟨r.inv_str, rfl⟩
  · cases e
theorem Reps.fv : ∀ {vs : List Vl} {xs ys : List V} {c : Addr → Nat}, Reps K mg H F T as vs xs c → fvs vs = some ys → xs = ys ∧ ys.all flatV = true
  | _, _, _, _, .nil _, e => by unfold fvs at e; cases e; exact ⟨rfl, rfl⟩
  | _, _, _, _, .cons r s _, e => by
    unfold fvs at e
    split at e
    · rename_i x xs e1 e2
      cases e
      obtain ⟨h1, h2⟩ := r.fv e1
      obtain ⟨h3, h4⟩ := Reps.fv s e2
      exact ⟨by rw [h1, h3], by rw [List.all_cons, h2, h4]; rfl⟩
    · cases e
end
def gInA (neg : Bool) : List Vl → Option Vl
  | [a, .nd _ .lst xs] => match pyOf a, pysOf xs with
    | some d, some ds => if SeqAt.shaped d && SeqAt.shaped (.list ds) then some (.bl (if neg then !anyEq d ds else anyEq d ds)) else none
    | _, _ => none
  | [a, .nd _ (.dK ks) xs] => (kOf a).map fun k => .bl (if neg then !(lookK k ks xs).isSome else (lookK k ks xs).isSome)
  | [a, .tup xs] => match fvV a, fvs xs with
    | some x, some ys => some (.bl (if neg then !inV x ys else inV x ys))
    | _, _ => none
  | _ => none
def rDinX (neg : Bool) : R2 := fun y x H Q => ∃ a o, x = .ref a ∧ DGet H a y o ∧ Q (.bl (if neg then !o.isSome else o.isSome)) H
theorem op_dinX {X : Cx} (hu : X.A.units + 65 < cLine) : OpR X (compareOp .In) (rDinX false) := by
  intro pins s σ H y x u v Q I ry rx h
  obtain ⟨a, o, rfl, g, q⟩ := h
  obtain rfl : v = Value.ref a := rx
  exact d_in (by omega) I g ry fun s3 I3 => ⟨.bl o.isSome, H, I3, rfl, q⟩
theorem op_dninX {X : Cx} (hu : X.A.units + 65 < cLine) : OpR X (compareOp .NotIn) (rDinX true) := by
  intro pins s σ H y x u v Q I ry rx h
  obtain ⟨a, o, rfl, g, q⟩ := h
  obtain rfl : v = Value.ref a := rx
  exact d_notIn (by omega) I g ry fun s3 I3 => ⟨.bl (!o.isSome), H, I3, rfl, q⟩
def rInAny (K : PySem.W.Frag) (neg : Bool) : R2 := fun x y H Q => ((if neg then rNotInD K x y H Q else rInD K x y H Q) ∨ rDinX neg x y H Q) ∨ rIn K neg x y H Q
theorem gop_inA {K : PySem.W.Frag} {mg : Str → Option Value} {neg : Bool} : GOp K mg (gInA neg) (fun xs H Q => ∃ x y, xs = [x, y] ∧ rInAny K neg x y H Q) := by
  intro H F T as vs xs c v Q r hl e fin
  unfold gInA at e
  split at e
  · split at e
    · split at e
      · rename_i d ds e1 e2 hc
        cases e
        simp only [Bool.and_eq_true] at hc
        obtain ⟨x, y, c1, c2, rfl, r1, r2, _⟩ := r.inv2
        refine ⟨x, y, rfl, .inl (.inl ?_)⟩
        cases neg with
        | false => exact ⟨d, ds, r1.dp e1, dp_list r2 e2, hc.1, hc.2, fin.bl⟩
        | true => exact ⟨d, ds, r1.dp e1, dp_list r2 e2, hc.1, hc.2, fin.bl⟩
      · cases e
    · cases e
  · obtain ⟨k, e1, e2⟩ := Option.map_eq_some_iff.mp e
    subst e2
    obtain ⟨y, x, c1, c2, rfl, r1, r2, hcc⟩ := r.inv2
    obtain ⟨a, xs, c', rfl, hr, hl2, s, hk⟩ := r2.inv_dK
    refine ⟨_, _, rfl, .inl (.inr ⟨a, _, rfl, .inl ⟨_, k, hr, kOf_ok r1 e1, rfl⟩, ?_⟩)⟩
    rw [look_some s hl2]
    exact fin.bl
  · split at e
    · rename_i x ys e1 e2
      cases e
      obtain ⟨y, z, c1, c2, rfl, r1, r2, _⟩ := r.inv2
      obtain ⟨a, xa, rfl, ha, s1⟩ := r2.inv_tup
      obtain ⟨h1, h2⟩ := r1.fv e1
      obtain ⟨h3, h4⟩ := s1.fv e2
      subst h1 h3
      exact ⟨_, _, rfl, .inr ⟨a, xa, rfl, .inr ha, h2, h4, fin.bl⟩⟩
    · cases e
  · cases e
section
variable {X : Cx} {a b : Expr} {fa fb : E} {pos : Pos}
theorem op_inAny (hu : X.A.units + 65 < cLine) : OpR X (compareOp .In) (rInAny X.K false) := ((op_inD hu).or (op_dinX hu)).or op_in_seq
theorem op_ninAny (hu : X.A.units + 65 < cLine) : OpR X (compareOp .NotIn) (rInAny X.K true) := ((op_notInD hu).or (op_dninX hu)).or op_notIn_seq
theorem EOk.inA (hu : X.A.units + 65 < cLine) (ha : EOk X a fa) (hb : EOk X b fb) (hm : behindInMarks .In b = false := by rfl) : EOk X (.Compare a [.In] [b] pos) (opE (gInA false) [fa, fb]) := .cmp (op_inAny hu) gop_inA ha hb hm
theorem EOk.ninA (hu : X.A.units + 65 < cLine) (ha : EOk X a fa) (hb : EOk X b fb) (hm : behindInMarks .NotIn b = false := by rfl) : EOk X (.Compare a [.NotIn] [b] pos) (opE (gInA true) [fa, fb]) := .cmp (op_ninAny hu) gop_inA ha hb hm
theorem TOk.inA (hu : X.A.units + 65 < cLine) (ha : EOk X a fa) (hb : EOk X b fb) (hm : behindInMarks .In b = false := by rfl) : TOk X (.Compare a [.In] [b] pos) (opE (gInA false) [fa, fb]) := .cmp (op_inAny hu) gop_inA ha hb hm
theorem TOk.ninA (hu : X.A.units + 65 < cLine) (ha : EOk X a fa) (hb : EOk X b fb) (hm : behindInMarks .NotIn b = false := by rfl) : TOk X (.Compare a [.NotIn] [b] pos) (opE (gInA true) [fa, fb]) := .cmp (op_ninAny hu) gop_inA ha hb hm
end
/-! ### len(set(x)) of whole numbers -/
def dedupL (ns : List Int) : List Int := ns.foldl step_dedup []
theorem firstMet_all (ns : List Int) : firstMet (fun i => ns.getD i 0) ns.length = dedupL ns := by
  unfold firstMet dedupL
  congr 1
  refine List.ext_getElem? fun i => ?_
  rw [List.getElem?_map]
  by_cases h : i < ns.length
  · rw [List.getElem?_range h, List.getElem?_eq_getElem h]
    simp [List.getD_eq_getElem?_getD, List.getElem?_eq_getElem h]
  · rw [List.getElem?_eq_none (by simpa using h), List.getElem?_eq_none (by omega)]
    rfl
def gLenSet : List Vl → Option Vl
  | [.nd _ .lst xs] => (intsOf xs).bind fun ns => if ns.length ≤ 1000 then some (.int (dedupL ns).length) else none
  | _ => none
def rLenSetG (K : PySem.W.Frag) : List V → Hp → VK → Prop := fun xs H Q => ∃ x, xs = [x] ∧ ∃ (l : Addr) (ns : List Int), x = V.ref l ∧ SqL K H l (ns.map V.int) ∧ ns.length ≤ 1000 ∧ Q (.int (dedupL ns).length) H
theorem gop_lenSet {K : PySem.W.Frag} {mg : Str → Option Value} : GOp K mg gLenSet (rLenSetG K) := by
  intro H F T as vs xs c v Q r hl e fin
  unfold gLenSet at e
  split at e
  · obtain ⟨ns, e1, e2⟩ := Option.bind_eq_some_iff.mp e
    split at e2
    · rename_i hz
      cases e2
      obtain ⟨x, rfl, r1⟩ := r.inv1
      obtain ⟨a, xs, c', rfl, h, s, k⟩ := r1.inv_lst
      rw [s.ints e1] at h
      exact ⟨_, rfl, a, ns, rfl, h, hz, fin.int⟩
    · cases e2
  · cases e
theorem pe_lenSetG {X : Cx} {a : Expr} {ta : TE} {p p2 q pos : Pos} (hc : X.calm = true) (hg : Gl X "len") (hm : X.mg "len" = none) (hg2 : Gl X "set") (hm2 : X.mg "set" = none) (ha : PE X a ta)
    (na : starEach [a] X.env = (false, eval a X.env) :: starEach [] X.env := by rfl) : PE X (.Call (.Name "len" p) [.Call (.Name "set" p2) [a] [] q] [] pos) (fun σ H Q => ta σ H fun x H1 => ∃ (l : Addr) (ns : List Int), x = V.ref l ∧ SqL X.K H1 l (ns.map V.int) ∧ ns.length ≤ 1000 ∧ Q (.int (dedupL ns).length) H1) := by
  refine ⟨fun pins s σ H Q I h => ?_⟩
  refine Call_ (ld_blt I hg hm PySem.boot_len ?_)
  refine PyProof.Rows.callWith_builtin1 (PyProof.Rows.args_cons ?_ rfl) rfl rfl
  refine Call_ (ld_blt I hg2 hm2 PyProof.Rows.boot_set ?_)
  refine PyProof.Rows.callWith_type1 (PyProof.Rows.args_cons (thn (ha.run pins s σ H _ I h) fun v s1 ⟨x, H1, I1, r1, q1⟩ => PyProof.Rows.args_nil ?_) na) na rfl
  obtain ⟨l, ns, rfl, hq, h1, q1⟩ := q1
  cases r1
  obtain ⟨its, r, pl, hz⟩ := I1.list hq
  have hl : its.toArray.size = ns.length := by rw [List.size_toArray, ← r.length, List.length_map]
  refine call_set_list (I1.ok.hd hc) pl.isList (ns := ns) (by simpa using r.ints) (by unfold scanBound; omega) fun h' tk hS hk => ?_
  rw [hl, firstMet_all ns] at hS
  have hle : (dedupL ns).length ≤ ns.length := by rw [← firstMet_all]; exact firstMet_length_le _ _
  refine PyProof.Rows.args_nil ?_
  obtain ⟨o, es, ep, t, ho, hex, hd, _, _, _, hf, hn⟩ := hS
  have I2 : Inv X pins σ H1 { s1 with heap := h', toks := tk } := I1.kept fun b o e => hk b o (Heap.lt_size e) e
  refine call_len_set ho hex hd hf (by rw [hn] <;> omega) ⟨.int (dedupL ns).length, H1, I2.tok _, ⟨_, by rw [hn]⟩, q1⟩
theorem EOk.lenSet {X : Cx} {a : Expr} {f : E} {p p2 q pos : Pos} (hc : X.calm = true) (hm : X.mg "len" = none) (hm2 : X.mg "set" = none) (ha : EOk X a f) (hg : Gl X "len" := by rfl) (hg2 : Gl X "set" := by rfl)
    (na : starEach [a] X.env = (false, eval a X.env) :: starEach [] X.env := by rfl) : EOk X (.Call (.Name "len" p) [.Call (.Name "set" p2) [a] [] q] [] pos) (opE gLenSet [f]) := fun W t =>
  (pe_lenSetG hc hg hm hg2 hm2 (ha W t) na).imp fun σ H Q h => (h.op gop_lenSet).one.mono fun x H1 ⟨x', e, q⟩ => by cases e; exact q
/-! ### tuple(x) -/
def gTuple : List Vl → Option Vl
  | [.nd _ .lst xs] => some (.tup xs)
  | [.tup xs] => some (.tup xs)
  | _ => none
theorem gop_tuple {K : PySem.W.Frag} {mg : Str → Option Value} : GOp K mg gTuple (fun xs H Q => ∃ p ys, xs = [.ref p] ∧ ((SqL K H p ys ∧ ∀ l, H l = none → Q (.ref l) (upd H l (.tup ys))) ∨ (SqT K H p ys ∧ Q (.ref p) H))) := by
  intro H F T as vs xs c v Q r hl e fin
  unfold gTuple at e
  split at e
  · cases e
    obtain ⟨x, rfl, r1⟩ := r.inv1
    obtain ⟨a, xs, c', rfl, h, s, k⟩ := r1.inv_lst
    refine ⟨a, xs, rfl, .inl ⟨h, fun l hn => ?_⟩⟩
    have sm : Same H (upd H l (.tup xs)) := same_new hn
    exact fin _ _ c' (.tup (.inl (.inl upd_same)) (s.same sm (fun _ h => h) (fun _ h => h) Pre.refl)) (fun b => .inl (k b)) sm
  · cases e
    obtain ⟨x, rfl, r1⟩ := r.inv1
    obtain ⟨a, xs, rfl, h, s⟩ := r1.inv_tup
    exact ⟨a, xs, rfl, .inr ⟨h, fin H _ c (.tup h s) (fun b => .inl (Nat.le_refl _)) (Same.refl H)⟩⟩
  · cases e
theorem EOk.tuple {X : Cx} {e : Expr} {fs : List E} {p pos : Pos} (hm : X.mg "tuple" = none) (ha : AOk X [e] fs) (hgl : Gl X "tuple" := by rfl) (he : starEach [e] X.env = (false, eval e X.env) :: starEach [] X.env := by rfl) : EOk X (.Call (.Name "tuple" p) [e] [] pos) (opE gTuple fs) :=
  .callTy call_tuple_of gop_tuple hgl hm (by decide +kernel) ha (by decide) (by decide) he rfl
end PyI

namespace PyI
open PySem PySem.Spec PyProof.Rows L2
/-! ### defs with default values -/
def DefAtD (K : PySem.W.Frag) (mg : Str → Option Value) (x : Str) (st : Stmt) (dvs : List V) : Prop := ∃ f fd, L2.FunD K x x (defArgs st) (defBody st) (defScope st) dvs [] f fd ∧ mg x = some (.ref f)
theorem defAtD {K : PySem.W.Frag} {mg : Str → Option Value} {h : Heap} {x : Str} {st : Stmt} {f T : Addr} {oc oc2 : Value} {od an od2 : Option Addr} {osl osl2 : Array (Option Value)} {kV doc pm cdv ct : Value} {its : Array Value} {n : Nat} {dvs : List V} (X : K.In h) (G : h.Ns mainGlobals mg)
    (a : PySem.W.nsIn K mainGlobals x = some (some (.ref f))) (l : K.lookup f = some ⟨oc, od, .func (PySem.W.fnOf x x (defArgs st) (defBody st) (defScope st) (.ref T) kV doc pm an cdv ct), osl⟩) (c : PySem.W.codeIn K cdv x = true) (k : PySem.W.keepIn K (.ref f) = true)
    (lT : K.lookup T = some ⟨oc2, od2, .seq its n, osl2⟩) (hd : dvs ≠ []) (hv : Vals dvs its.toList) : DefAtD K mg x st dvs :=
  ⟨f, _, ⟨⟨oc, od, .ref T, kV, doc, pm, an, cdv, ct, osl, rfl, l, c, .inr ⟨hd, T, _, its.toList, n, rfl, lT, by simp, hv⟩, .inl rfl⟩, k⟩, PySem.W.mg_of X G a⟩
/-- a def with its promise, called so that the last of its parameters take their default values -/
def HasFD (P : Program) (w : World) (K : PySem.W.Frag) (mg : Str → Option Value) (base : Heap) (x : Str) (k : Nat) (ps : List Str) (Fn : List Vl → RF) (dvs : List V) : Prop :=
  ∃ f fd dus, mg x = some (.ref f) ∧ PySem.W.keepIn K (.ref f) = true ∧ Binds K fd ps dus ∧ Vals dvs dus ∧ FnOk P w K mg base (L2.CX P w) k f fd ps (spP K mg ps.length Fn)
section
variable {P : Program} {w : World} {K : PySem.W.Frag} {mg : Str → Option Value} {base : Heap}
theorem hasFD {x : Str} {st : Stmt} {N ps : List Str} {k : Nat} {body : C} {dvs : List V} (n j : Nat) (d : DefAtD K mg x st dvs) (S : FnScope N ps (defScope st)) (hb : ∀ f, BodyOk P w K mg base k N x st f body) (hd : dvs ≠ []) (hn : n + (dvs.length - j) = ps.length)
    (bind : ∀ (T : Addr) (kV doc pm : Value) (an : Option Addr) (cdv ct : Value) (us its : List Value), us.length = n → its.length = dvs.length →
      ∃ k, bindArgs (PySem.W.fnOf x x (defArgs st) (defBody st) (defScope st) (.ref T) kV doc pm an cdv ct) ⟨us, []⟩ = seqItems? (.ref T) >>= k ∧ k (some its.toArray) = pure (ps.zip (us ++ its.drop j))) :
    HasFD P w K mg base x (k + 1) ps (runF N.length body) (dvs.drop j) := by
  obtain ⟨f, fd, F, m⟩ := d
  obtain ⟨ds, h1, h2⟩ := F.binds1 n j hd hn bind
  exact ⟨f, fd, ds, m, F.kp, h2, h1, FunD.okP F S (hb f)⟩
theorem HasFD.full {x : Str} {k : Nat} {ps : List Str} {Fn : List Vl → RF} (h : HasFD P w K mg base x k ps Fn []) : HasF P w K mg base x k ps Fn := by
  obtain ⟨f, fd, ds, m, kp, b, v, G⟩ := h
  cases v
  exact ⟨f, fd, m, kp, b, G⟩
end
theorem EOk.callHD {X : Cx} {k : Nat} {ps : List Str} {Fn : List Vl → RF} {x : Str} {p pos : Pos} {e : Expr} {es : List Expr} {fs : List E} {dvs : List V} {ds : List Vl} (G : HasFD X.prog X.w X.K X.mg X.base x k ps Fn dvs) (hr : Room k X.A) (ha : AOk X (e :: es) fs)
    (hds : ∀ H F T as, Reps X.K X.mg H F T as (setFs .sh ds) dvs (fun _ => 0)) (hg : Gl X x := by rfl) (hdb : (x == ("__debug__" : Str)) = false := by decide) (he : starEach (e :: es) X.env = (false, eval e X.env) :: starEach es X.env := by rfl) (hpl : (backTo pos (starEach es X.env)).any (·.1) = false := by rfl) :
    EOk X (.Call (.Name x p) (e :: es) [] pos) (callE ps.length Fn fs ds) := by
  obtain ⟨f, fd, dus, m, kp, b, v, G⟩ := G
  exact EOk.callD G hr hg m kp b v hds ha hdb he hpl
theorem reps_non {K : PySem.W.Frag} {mg : Str → Option Value} (H : Hp) (F T : Addr → Prop) (as : List Addr) : Reps K mg H F T as (setFs .sh [.non]) [.non] (fun _ => 0) := .cons (.non fun _ => rfl) (.nil (c := fun _ => 0) fun _ => rfl) fun _ => rfl
theorem reps_int1 {K : PySem.W.Frag} {mg : Str → Option Value} {i : Int} (H : Hp) (F T : Addr → Prop) (as : List Addr) : Reps K mg H F T as (setFs .sh [.int i]) [.int i] (fun _ => 0) := .cons (.int fun _ => rfl) (.nil (c := fun _ => 0) fun _ => rfl) fun _ => rfl
theorem DOk.int {X : Cx} {pos : Pos} {i : Int} {j : Nat} {p : Pos} {v : Expr} {keys : List (Option Expr)} {values : List Expr} {ks : List Key} {f : E} {fs : List E} (h : EOk X v f) (r : DOk X pos keys values ks fs) : DOk X pos (some (.Constant (.int i) j p) :: keys) (v :: values) (.inl i :: ks) (f :: fs) := fun W t =>
  pps_cons (pe_int (i := i)) (h W t) (r W t)
/-! ### x[i], x not wanted any more: the item is taken -/
def ixTakeE (i : Nat) (f : E) : E := fun st => match st.sl[i]? with
  | some (some _) => (match f st with
    | .ok (.int k, st1, e) => (match st1.sl[i]? with
      | some (some (.nd .own .lst xs)) => if st1.la.contains i then .bad else (match L2.atI xs k with
        | some v => .ok (v, { st1 with sl := st1.sl.set i none }, true)
        | none => .bad)
      | some (some (.nd .sh .lst xs)) => (match L2.atI xs k with
        | some v => .ok (v, st1, e)
        | none => .bad)
      | some (some (.nd .bw .lst xs)) => (match L2.atI xs k with
        | some v => .ok (v, st1, e)
        | none => .bad)
      | _ => .bad)
    | .exc c s => .exc c s
    | _ => .bad)
  | _ => .bad
theorem EOk.ixT {X : Cx} {x : Str} {b : Expr} {fb : E} {i : Nat} {p pos : Pos} (hb : EOk X b fb) (hs : PlainIx b := by exact fun _ _ => rfl) (hN : X.N[i]? = some x := by rfl) (hv : Vis X.env.scope x := by first | exact Or.inl rfl | exact Or.inr (Or.inl rfl) | exact Or.inr (Or.inr rfl)) (hd : (x == ("__debug__" : Str)) = false := by decide) (hcd : (x == ("__classdict__" : Str)) = false := by decide) :
    EOk X (.Subscript (.Name x p) b pos) (ixTakeE i fb) := fun W t => (pe_ix ix_seq (pe_var hN hv hd hcd) (hb W t) hs).imp fun σ H Q h => by
  obtain ⟨F, T, as, L, st, c0, r0, q⟩ := h
  unfold ixTakeE at q
  split at q
  · rename_i w0 e0
    obtain ⟨x0, _, _, ex0, _⟩ := r0.slot e0
    refine ⟨x0, ex0, F, T, as, L, st, c0, r0, ?_⟩
    cases e1 : fb st with
    | bad => rw [e1] at q; exact q
    | exc cl s => rw [e1] at q; exact q
    | ok z =>
      obtain ⟨v, st1, f1⟩ := z
      rw [e1] at q
      intro F1 as1 H2 y c1 ca r1 rv s1 p1 ef
      have le : ∀ b, c1 b + ca b ≤ 1 := s1.le
      split at q
      · rename_i k st1' f1' eq
        cases eq
        have ey := rv.inv_int
        subst ey
        show rIx X.K x0 (.int k) H2 Q
        have zca : ∀ b, ca b = 0 := Rep.none0 rv rfl
        have gen : ∀ {f : Fl} {xs : List Vl} {v : Vl}, st1.sl[i]? = some (some (.nd f .lst xs)) → L2.atI xs k = some v → (∀ x' d2 c5, Rel X.K X.mg F1 T as1 L { st1 with sl := st1.sl.set i none } σ H2 d2 → Rep X.K X.mg H2 F1 T as1 v x' c5 → (∀ b, d2 b + c5 b ≤ c1 b) → (f = .sh ∨ f = .bw → ∀ b, c5 b = 0) → Q x' H2) → rIx X.K x0 (.int k) H2 Q := by
          intro f xs v es ea hq
          obtain ⟨x, d1, d2, e2, rx, nx, r2, hd⟩ := r1.slot es
          rw [ex0] at e2
          cases e2
          have z0 : f = .sh ∨ f = .bw → ∀ b, d1 b = 0 := fun h => by
            cases rx with
            | own _ _ _ _ => rcases h with h | h <;> cases h
            | sh _ _ hc => exact hc
            | bw _ _ hc => exact hc
            | tr _ _ hc => exact hc
          obtain ⟨a, xsV, c', rfl, h, s, k'⟩ := rx.inv_lst
          obtain ⟨x', c5, e5, r5, k5⟩ := s.atI ea
          refine .inl ⟨a, xsV, k, x', rfl, rfl, h, e5, ?_⟩
          exact hq x' d2 c5 r2 r5 (fun b => by have := hd b; have := k5 b; have := k' b; omega) fun hh b => by have := z0 hh b; have := k5 b; have := k' b; omega
        split at q
        · rename_i xs es
          split at q
          · exact q.elim
          · split at q
            · rename_i v ea
              exact gen es ea fun x' d2 c5 r2 r5 hh _ => q F1 as1 H2 x' d2 c5 r2 r5 (s1.less fun b => by have := hh b; show d2 b + c5 b ≤ c1 b + ca b; omega) p1 fun q => nomatch q
            · exact q.elim
        · rename_i xs es
          split at q
          · rename_i v ea
            exact gen es ea fun x' d2 c5 r2 r5 hh h0 => q F1 as1 H2 x' c1 c5 r1 r5 (s1.less fun b => by have := h0 (by first | exact .inl rfl | exact .inr rfl) b; show c1 b + c5 b ≤ c1 b + ca b; omega) p1 ef
          · exact q.elim
        · rename_i xs es
          split at q
          · rename_i v ea
            exact gen es ea fun x' d2 c5 r2 r5 hh h0 => q F1 as1 H2 x' c1 c5 r1 r5 (s1.less fun b => by have := h0 (by first | exact .inl rfl | exact .inr rfl) b; show c1 b + c5 b ≤ c1 b + ca b; omega) p1 ef
          · exact q.elim
        · exact q.elim
      · rename_i h; cases h
      · exact q.elim
  · exact q.elim
end PyI

namespace PyI
open PySem PySem.Spec PyProof.Rows L2
/-! ### for x in y: .. where x, an item of the own list y, is changed in place -/
def isNone2 : Option (Option Vl) → Bool
  | some none => true
  | _ => false
def putL (i j : Nat) (body : C) : List Vl → List Vl → Sta → Option (List Vl × Sta)
  | [], acc, st => some (acc, st)
  | v :: r, acc, st => if stor v && decide (i < st.sl.length) && !st.la.contains i then (match body { st with sl := st.sl.set i (some v), la := i :: st.la } with
    | .nx st2 => (match st2.sl[i]? with
      | some (some w) => if stor w && isNone2 (st2.sl[j]?) then putL i j body r (acc ++ [w]) { st2 with sl := st2.sl.set i none, la := st.la } else none
      | _ => none)
    | _ => none) else none
def forPutC (j i : Nat) (body : C) : C := fun st => match st.sl[j]? with
  | some (some (.nd .own .lst xs)) => if st.la.contains j then .bad else (match putL i j body xs [] { st with sl := st.sl.set j none, la := j :: st.la } with
    | some (ys, st2) => .nx { st2 with sl := st2.sl.set j (some (.nd .own .lst ys)), la := st.la }
    | none => .bad)
  | _ => .bad
section
variable {K : PySem.W.Frag} {mg : Str → Option Value} {H H' H1 H2 : Hp} {F F' F1 F2 T T' : Addr → Prop} {as as' as1 as2 : List Addr} {L : List (Nat × V)} {st st' : Sta} {σ : L2.St} {c c' c1 c2 c3 cv : Addr → Nat}
/-- locks more, locks less -/
theorem Rel.lock (r : Rel K mg F T as L st σ H c) {i : Nat} {x : V} (e : σ[i]? = some (some x)) : Rel K mg F T as ((i, x) :: L) { st with la := i :: st.la } σ H c :=
  ⟨r.rep, r.le, r.fr, by show i :: st.la = _; rw [r.lk.1]; rfl, fun p hp => by
    rcases List.mem_cons.mp hp with rfl | hp
    · exact e
    · exact r.lk.2 p hp⟩
theorem Rel.unlock {i : Nat} {x : V} (r : Rel K mg F T as ((i, x) :: L) st σ H c) : Rel K mg F T as L { st with la := L.map (·.1) } σ H c :=
  ⟨r.rep, r.le, r.fr, rfl, fun p hp => r.lk.2 p (List.mem_cons_of_mem _ hp)⟩
end
section
variable {X : Cx} {x y : Str} {body : List Stmt} {f : C} {i j : Nat} {p px py pos : Pos}
theorem SOk.forPut (hp : PassesOwn (model X.prog X.w) X.A X.env X.xe) (hc : X.calm = true) (hNd : X.N.Nodup) (hb : SsOk X body f) (hN : X.N[j]? = some y := by rfl) (hv : Vis X.env.scope y := by first | exact Or.inl rfl | exact Or.inr (Or.inl rfl) | exact Or.inr (Or.inr rfl)) (hd : (y == ("__debug__" : Str)) = false := by decide) (hcd : (y == ("__classdict__" : Str)) = false := by decide)
    (hi : X.N[i]? = some x := by rfl) (hx : Loc X.env.scope x := by first | exact Or.inl rfl | exact Or.inr rfl) (hf : X.fn x = true ∨ X.env.scope.names.lookup x = some .local := by first | exact .inl rfl | exact .inr rfl) (hs : ∀ v, foldedSetIterable (.Name y py) X.env v = pure v := by intro _; rfl) :
    SOk X (.For (.Name x px) (.Name y py) body [] pos) (forPutC j i f) := fun W t => (ps_for hp hc (pi_seq (pe_var hN hv hd hcd)) (pg_name hNd hi hx hf) (hb W t) hs).imp fun D σ0 H0 h => by
  obtain ⟨F0, T, as0, L, st0, c0, r0, q⟩ := h
  unfold forPutC at q
  split at q
  · rename_i xs ej
    split at q
    · exact q.elim
    rename_i hla
    obtain ⟨x0, d1, d2, ex, rx, nx, r2, hd⟩ := r0.slot ej
    have ntx : noTrs xs = true := by unfold noTr at nx; simp only [Bool.and_eq_true] at nx; exact nx.2
    cases rx with
    | own hH ho rr hcc =>
      rename_i a o xsV cx
      cases ho
      refine ⟨_, ex, a, rfl, .inl ⟨⟨xsV, SqL.of hH⟩, ?_⟩⟩
      cases hpl : putL i j f xs [] { st0 with sl := st0.sl.set j none, la := j :: st0.la } with
      | none => rw [hpl] at q; exact q.elim
      | some z =>
        obtain ⟨ys, st9⟩ := z
        rw [hpl] at q
        have le0 : ∀ b, c0 b ≤ 1 := r0.le
        have z0 : ∀ b, c0 b = (if b = a then 1 else 0) + cx b + d2 b := fun b => by rw [hd, hcc]
        have hjl : j < st0.sl.length := (List.getElem?_eq_some_iff.mp ej).1
        have rl := r2.lock ex
        refine ⟨fun k m σ H => ∃ F as st c1 ca cr acc rest, m = rest.length ∧ k = acc.length ∧ Rel X.K X.mg F T as ((j, .ref a) :: L) st σ H c1 ∧ st.sl[j]? = some none ∧ H a = some (.lst xsV) ∧ Reps X.K X.mg H F T as acc (xsV.take k) ca ∧ Reps X.K X.mg H F T as rest (xsV.drop k) cr ∧ noTrs acc = true ∧ noTrs rest = true ∧
            Step F0 c0 H0 F (fun b => c1 b + (oneD a b + (ca b + cr b))) H ∧ Pre as0 as ∧ putL i j f rest acc st = some (ys, st9), ⟨xs.length, F0, as0, _, d2, fun _ => 0, cx, [], xs, rfl, rfl, rl, ?_, hH, .nil fun _ => rfl, rr, rfl, ntx, ?_, Pre.refl, hpl⟩, ?_⟩
        · show (st0.sl.set j none)[j]? = _
          rw [List.getElem?_set_self hjl]
        · exact (r0.refl).less fun b => by rw [z0]; simp only [oneD]; omega
        rintro k m σ H ⟨F, as, st, c1, ca, cr, acc, rest, rfl, rfl, rl, ejn, ha, ra, rr', na, nr, sp, pp, hpl'⟩
        have le : ∀ b, c1 b + (oneD a b + (ca b + cr b)) ≤ 1 := sp.le
        have dis : ∀ b, F b → c1 b + (oneD a b + (ca b + cr b)) = 0 := sp.dis
        have oa : oneD a a = 1 := if_pos rfl
        have tz : ∀ b, T b → c1 b + (oneD a b + (ca b + cr b)) = 0 := fun b q => by
          have h0 := r0.fr b (.inr q)
          by_cases z : c1 b + (oneD a b + (ca b + cr b)) = 0
          · exact z
          · rcases sp.grow b z with w | w
            · exact absurd h0.1 w
            · exact absurd w h0.2
        cases rest with
        | nil =>
          have hq : acc = ys ∧ st = st9 := by
            unfold putL at hpl'
            cases hpl'
            exact ⟨rfl, rfl⟩
          simp only at q
          rw [← hq.1, ← hq.2] at q
          have hl := rr'.length
          have hl2 := ra.length
          simp only [List.length_nil, List.length_drop] at hl
          refine .inl ⟨⟨xsV, SqL.of ha, by omega⟩, ?_⟩
          have htk : xsV.take acc.length = xsV := List.take_of_length_le (by omega)
          rw [htk] at ra
          have ejσ := rl.lk.2 (j, .ref a) List.mem_cons_self
          have r3 : Rel X.K X.mg F T as L { st with sl := st.sl.set j none, la := L.map (·.1) } σ H c1 := by
            have := rl.unlock
            have e : st.sl.set j none = st.sl := List.ext_getElem? fun n => by
              by_cases q : j = n
              · subst q; rw [List.getElem?_set_self (List.getElem?_eq_some_iff.mp ejn).1, ejn]
              · rw [List.getElem?_set_ne q]
            rw [e]; exact this
          have r4 := r3.fill (st := { st with la := L.map (·.1) }) (i := j) (v := .nd .own .lst acc) (c1 := fun b => oneD a b + ca b) (List.getElem?_eq_some_iff.mp ejn).1 ejσ (.own ha rfl ra fun b => rfl) (by show (true && noTrs acc) = true; rw [na]; rfl) (fun b => by have := le b; show (oneD a b + ca b) + c1 b ≤ 1; omega) fun b q => by
            rcases q with q | q
            · have := dis b q; show oneD a b + ca b = 0; omega
            · have := tz b q; show oneD a b + ca b = 0; omega
          have hla' : L.map (·.1) = st0.la := r0.lk.1.symm
          rw [hla'] at r4
          exact q F as σ H _ r4 (sp.less fun b => by show (oneD a b + ca b) + c1 b ≤ c1 b + (oneD a b + (ca b + cr b)); omega) pp
        | cons v rest =>
          have hl := rr'.length
          have hl2 := ra.length
          simp only [List.length_cons, List.length_drop, List.length_take] at hl hl2
          refine .inr ⟨⟨xsV, xsV[acc.length]'(by omega), SqL.of ha, List.getElem?_eq_getElem _⟩, fun σ' H' => ∃ m', m' < (v :: rest).length ∧ ∃ F as st c1 ca cr acc' rest', m' = rest'.length ∧ acc.length + 1 = acc'.length ∧ Rel X.K X.mg F T as ((j, .ref a) :: L) st σ' H' c1 ∧ st.sl[j]? = some none ∧ H' a = some (.lst xsV) ∧ Reps X.K X.mg H' F T as acc' (xsV.take (acc.length + 1)) ca ∧ Reps X.K X.mg H' F T as rest' (xsV.drop (acc.length + 1)) cr ∧ noTrs acc' = true ∧ noTrs rest' = true ∧
            Step F0 c0 H0 F (fun b => c1 b + (oneD a b + (ca b + cr b))) H' ∧ Pre as0 as ∧ putL i j f rest' acc' st = some (ys, st9), fun _ _ h => h, fun xv H' yy => ?_⟩
          obtain ⟨rfl, yy⟩ := yy
          have ex1 := yy xsV (SqL.of ha)
          unfold putL at hpl'
          split at hpl'
          · rename_i hcond
            simp only [Bool.and_eq_true, decide_eq_true_eq, Bool.not_eq_true'] at hcond
            generalize hdr : xsV.drop acc.length = zs at rr'
            cases rr' with
            | cons rv rrest hcr =>
              rename_i x1 cv xsr crest
              obtain ⟨g1, g2⟩ := drop_cons hdr
              rw [ex1] at g1
              cases g1
              unfold noTrs at nr
              simp only [Bool.and_eq_true] at nr
              show (fun σ2 H2 => _) (σ.set i (some xv)) H'
              have fly : Fly X.K X.mg F T as ((j, .ref a) :: L) st σ H' c1 cv := ⟨rl, Step.refl (fun b => by have := le b; have := hcr b; omega) (fun b q => by have := dis b q; have := hcr b; omega), fun b q => by have := tz b q; have := hcr b; omega⟩
              obtain ⟨c5, r5, k5⟩ := fly.store (i := i) rv (stor_noTr hcond.1.1) hcond.1.2 hcond.2
              have hil : i < σ.length := by rw [← rl.len]; exact hcond.1.2
              have r6 := r5.lock (i := i) (x := xv) (List.getElem?_set_self hil)
              refine ⟨F, T, as, _, _, c5, r6, ?_⟩
              show SPost X.K X.mg W _ T as _ F c5 H' (f { st with sl := st.sl.set i (some v), la := i :: st.la })
              cases e3 : f { st with sl := st.sl.set i (some v), la := i :: st.la } with
              | nx st2 =>
                rw [e3] at hpl'
                simp only at hpl'
                intro F' as' σ2 H2 c6 r7 s7 p7
                split at hpl'
                · rename_i w ew
                  split at hpl'
                  · rename_i sw
                    obtain ⟨xw, e1, e2c, exw, rw1, nw, r8, hd8⟩ := r7.slot ew
                    have elk := r7.lk.2 (i, xv) List.mem_cons_self
                    rw [exw] at elk
                    cases elk
                    have c5a : c5 a = 0 := by
                      have := le a
                      have := k5 a
                      have := hcr a
                      omega
                    have ha2 : H2 a = some (.lst xsV) := s7.keep a _ ha c5a
                    have fl : ∀ b, c5 b + (oneD a b + (ca b + crest b)) ≤ 1 := fun b => by have := le b; have := k5 b; have := hcr b; omega
                    have mvv : ∀ b, oneD a b + (ca b + crest b) ≠ 0 → MutO (H' b) := fun b q => by
                      by_cases z1 : ca b = 0
                      · by_cases z2 : crest b = 0
                        · by_cases z3 : b = a
                          · rw [z3, ha]; trivial
                          · simp only [oneD, if_neg z3] at q; omega
                        · exact rrest.mu b z2
                      · exact ra.mu b z1
                    have sa : Step F0 c0 H0 F (fun b => c5 b + (oneD a b + (ca b + crest b))) H' := sp.less fun b => by have := k5 b; have := hcr b; omega
                    have sb := Step.flight r6 mvv sa s7
                    have stq : ∀ dq : Addr → Nat, (∀ b, dq b ≠ 0 → oneD a b + (ca b + crest b) ≠ 0) → Stay H' H2 F T dq := fun dq hq => r6.stay (fun b q => by have := fl b; have := hq b q; omega) s7.keep
                    have ra2 := ra.stay na (stq _ fun b q => by omega) s7.sub (fun _ h => h) p7
                    have rr2 := rrest.stay nr.2 (stq _ fun b q => by omega) s7.sub (fun _ h => h) p7
                    have hacc : xsV.take (acc.length + 1) = xsV.take acc.length ++ [xv] := by rw [List.take_succ, ex1]; rfl
                    simp only [Bool.and_eq_true] at sw
                    have hj2 : st2.sl[j]? = some none := by
                      have h := sw.2
                      unfold isNone2 at h
                      split at h
                      · assumption
                      · cases h
                    have hnw : noTrs (acc ++ [w]) = true := by
                      have app : ∀ {l : List Vl}, noTrs l = true → noTrs (l ++ [w]) = true := by
                        intro l
                        induction l with
                        | nil => intro _; show (noTr w && true) = true; rw [nw]; rfl
                        | cons a l ih =>
                          intro h
                          unfold noTrs at h
                          simp only [Bool.and_eq_true] at h
                          show (noTr a && noTrs (l ++ [w])) = true
                          rw [h.1, ih h.2]; rfl
                      exact app na
                    refine ⟨rest.length, Nat.lt_succ_self _, F', as', { st2 with sl := st2.sl.set i none, la := st.la }, e2c, fun b => ca b + (e1 b + 0), crest, acc ++ [w], rest, rfl, by simp, ?_, ?_, ha2, ?_, ?_, hnw, nr.2, ?_, pp.trans p7, hpl'⟩
                    · have := r8.unlock
                      have el : ((j, V.ref a) :: L).map (·.1) = st.la := rl.lk.1.symm
                      rw [el] at this
                      exact this
                    · show (st2.sl.set i none)[j]? = some none
                      by_cases q : i = j
                      · subst q; rw [List.getElem?_set_self (List.getElem?_eq_some_iff.mp hj2).1]
                      · rw [List.getElem?_set_ne q]; exact hj2
                    · rw [hacc]
                      exact ra2.append (.cons rw1 (.nil fun _ => rfl) fun _ => rfl)
                    · rw [g2]; exact rr2
                    · refine sb.less fun b => ?_
                      have := hd8 b
                      show e2c b + (oneD a b + ((ca b + (e1 b + 0)) + crest b)) ≤ c6 b + (oneD a b + (ca b + crest b))
                      omega
                  · cases hpl'
                · cases hpl'
              | rt v s => rw [e3] at hpl'; cases hpl'
              | bk s => rw [e3] at hpl'; cases hpl'
              | ct s => rw [e3] at hpl'; cases hpl'
              | exc cl s => rw [e3] at hpl'; cases hpl'
              | bad => rw [e3] at hpl'; cases hpl'
          · cases hpl'
  · exact q.elim
end
end PyI

namespace PyI
open PySem PySem.Spec PyProof.Rows L2
/-! ### reversed(a list) -/
theorem noTrs_app : ∀ {a b : List Vl}, noTrs (a ++ b) = (noTrs a && noTrs b)
  | [], b => by simp [noTrs]
  | x :: r, b => by
    show (noTr x && noTrs (r ++ b)) = ((noTr x && noTrs r) && noTrs b)
    rw [noTrs_app, Bool.and_assoc]
theorem noTrs_rev : ∀ {a : List Vl}, noTrs a.reverse = noTrs a
  | [] => rfl
  | x :: r => by
    rw [List.reverse_cons, noTrs_app, noTrs_rev]
    show (noTrs r && (noTr x && true)) = (noTr x && noTrs r)
    rw [Bool.and_true, Bool.and_comm]
section
variable {K : PySem.W.Frag} {mg : Str → Option Value} {H : Hp} {F T : Addr → Prop} {as : List Addr}
theorem Reps.rev : ∀ {vs : List Vl} {xs : List V} {c : Addr → Nat}, Reps K mg H F T as vs xs c → Reps K mg H F T as vs.reverse xs.reverse c
  | _, _, _, .nil hc => .nil hc
  | _, _, _, .cons r s hc => by
    rw [List.reverse_cons, List.reverse_cons]
    have := s.rev.append (.cons r (.nil fun _ => rfl) fun _ => rfl)
    have e : (fun b => _ + (_ + 0)) = _ := funext fun b => (hc b).trans (Nat.add_comm _ _) |>.symm
    exact e ▸ this
/-- the list at a, from its end -/
def walkV (f : Fl) (a : Addr) (xs : List V) (tr : Bool) : Walk K mg T (Itv K a xs.length) tr where
  P := fun i r H c F as => ∃ cn cr, Nod K H F T f a xs cn ∧ Reps K mg H F T as r (xs.reverse.drop i) cr ∧ (tr = false → f ≠ .tr ∧ noTrs r = true) ∧ ∀ b, c b = cn b + cr b
  same := fun ⟨cn, cr, n, r, t, e⟩ s hF p => ⟨cn, cr, n.same s hF, r.same s hF (fun _ h => h) p, t, e⟩
  step := fun ht ⟨cn, cr, n, r, t, e⟩ s hF p => ⟨cn, cr, n.stay (t ht).1 (s _ fun b q => by rw [e]; omega) hF, r.stay (t ht).2 (s _ fun b q => by rw [e]; omega) hF (fun _ h => h) p, t, e⟩
  mu := fun ⟨cn, cr, n, r, t, e⟩ b q => by
    by_cases z : cn b = 0
    · exact r.mu b (by rw [e] at q; omega)
    · exact n.mu b z
  stop := fun {i H c F as} ⟨cn, cr, n, r, t, e⟩ => by
    have := r.length
    simp at this
    show xs.length ≤ i
    omega
  go := fun {i v r' H c F as} ⟨cn, cr, n, r, t, e⟩ => by
    have := r.length
    simp at this
    have h : i < xs.length := by omega
    exact ⟨h, xs, xs[xs.length - 1 - i]'(by omega), n.seq, List.getElem?_eq_getElem _⟩
  yld := fun {i v r' Hm H c F as x H'} ⟨cn, cr, n, r, t, e⟩ sH y => by
    obtain ⟨rfl, y⟩ := y
    have hl := r.length
    simp at hl
    generalize hd : xs.reverse.drop i = ys at r
    cases r with
    | cons r1 r2 hc =>
      obtain ⟨h1, h2⟩ := drop_cons hd
      have ex := y xs (sH.seq n.seq)
      rw [List.getElem?_reverse (by omega)] at h1
      rw [h1] at ex
      cases ex
      refine ⟨Same.refl _, Hm, _, _, Same.refl _, sH, fun b q => .inl q, r1, ⟨cn, _, n, by rw [h2]; exact r2, fun q => ⟨(t q).1, ?_⟩, fun _ => rfl⟩, fun b => by rw [e, hc]; omega⟩
      have := (t q).2
      unfold noTrs at this
      simp only [Bool.and_eq_true] at this
      exact this.2
end
def hRev : List Vl → Option (List Vl × Bool)
  | [.nd f .lst vs] => some (vs.reverse, f == .tr || !noTrs vs)
  | _ => none
section
variable {X : Cx} {tg e : Expr} {f : E} {p pos : Pos}
theorem SrcOk.rev (hg : Gl X "reversed") (hm : X.mg "reversed" = none) (h : AOk X [e] [f]) (hs : starEach [e] X.env = [(false, eval e X.env)] := by rfl) : SrcOk X tg (.Call (.Name "reversed" p) [e] [] pos) (srcE hRev [f]) := fun W t => (pi_reversed hg hm (h W t) hs).imp fun σ H Rr hi => by
  refine hi.args.mono fun x H1 ⟨F, T, as, vs, c, items, tr, r, e1, q⟩ => ?_
  unfold hRev at e1
  split at e1
  · rename_i f vs
    cases e1
    obtain ⟨x', e2, r1⟩ := r.inv1
    cases e2
    obtain ⟨a, xs, cn, cr, rfl, n, rr, hc⟩ := r1.nod
    refine ⟨a, xs, rfl, n.seq, q _ (walkV f a xs _) c ⟨cn, cr, n, ?_, fun z => ?_, hc⟩ fun b => Nat.le_refl _⟩
    · exact rr.rev
    · rw [noTrs_rev]; exact tr_of z
  · cases e1
end
end PyI

namespace PyI
open PySem PySem.Spec PyProof.Rows L2
/-! ### y.append(x), and the rest of the block with x still in use: y is out of sight, x is not bound anew; at the block's end x is y's last item -/
def aliasC (j i : Nat) (g : C) : C := fun st => match st.sl[j]?, st.sl[i]? with
  | some (some (.nd .own .lst xs)), some (some v) => if (stor v && decide (xs.length < sizeLine)) && (!(j == i) && (!st.la.contains j && !st.la.contains i)) then
      (match g { st with sl := st.sl.set j none, la := i :: j :: st.la } with
      | .nx st2 => (match st2.sl[i]? with
        | some (some w) => if stor w && isNone2 (st2.sl[j]?) then .nx { st2 with sl := (st2.sl.set i none).set j (some (.nd .own .lst (xs ++ [w]))), la := st.la } else .bad
        | _ => .bad)
      | _ => .bad) else .bad
  | _, _ => .bad
section
variable {X : Cx} {x y : Str} {ss : List Stmt} {g : C} {i j : Nat} {px py apos cpos pos : Pos}
theorem SsOk.alias (hb : SsOk X ss g) (hj : X.N[j]? = some y := by rfl) (hi : X.N[i]? = some x := by rfl) (hvj : Vis X.env.scope y := by first | exact Or.inl rfl | exact Or.inr (Or.inl rfl) | exact Or.inr (Or.inr rfl)) (hvi : Vis X.env.scope x := by first | exact Or.inl rfl | exact Or.inr (Or.inl rfl) | exact Or.inr (Or.inr rfl))
    (hd : (x == ("__debug__" : Str)) = false := by decide) (hcd : (x == ("__classdict__" : Str)) = false := by decide) (hd2 : (y == ("__debug__" : Str)) = false := by decide) (hcd2 : (y == ("__classdict__" : Str)) = false := by decide)
    (hbase : attributeBase (.Name y py) "append" X.env (eval (.Name y py) X.env) = eval (.Name y py) X.env := by rfl)
    (hfew : ((backTo cpos (starEach [.Name x px] X.env)).all (fun x => !x.1) && (backToKw cpos (keywordEach [] X.env)).all (fun x => x.1.isSome)
      && decide (([.Name x px] : List Expr).length + ([] : List Keyword).length + (if ([] : List Keyword).isEmpty then 0 else 1) < 30)) = true := by rfl)
    (hline : (apos.endLine == cpos.line) = true := by rfl) (hs : starEach [.Name x px] X.env = (false, eval (.Name x px) X.env) :: starEach [] X.env := by rfl) (hplain : (backTo cpos (starEach [] X.env)).any (·.1) = false := by rfl)
    (hsw : swapsWith (.Call (.Attribute (.Name y py) "append" apos) [.Name x px] [] cpos) none pos.line X.env = pure false := by rfl) :
    SsOk X (.Expr (.Call (.Attribute (.Name y py) "append" apos) [.Name x px] [] cpos) pos :: ss) (aliasC j i g) := fun W t =>
  (pss_cons (ps_expr (pe_bm PySem.F.plainAttrs_list PySem.F.slot_list_append PySem.F.type_list_append mt_append (pe_var hj hvj hd2 hcd2) (pa_cons (pe_var hi hvi hd hcd) pa_nil hs) hbase hfew hline hs hplain) hsw) (hb W t)).imp fun D σ H h => by
  obtain ⟨F, T, as, L, st, c, r, p⟩ := h
  unfold aliasC at p
  split at p
  · rename_i xs v ej ei
    split at p
    · rename_i hc
      simp only [Bool.and_eq_true, decide_eq_true_eq, Bool.not_eq_true', beq_eq_false_iff_ne] at hc
      obtain ⟨⟨sv, hz⟩, nij, lj, li⟩ := hc
      obtain ⟨x0, d1, d2, ex, rx, nx, r2, hdd⟩ := r.slot ej
      have ntx : noTrs xs = true := by unfold noTr at nx; simp only [Bool.and_eq_true] at nx; exact nx.2
      have ei2 : (st.sl.set j none)[i]? = some (some v) := by rw [List.getElem?_set_ne nij]; exact ei
      obtain ⟨y0, _, _, ey, _, _, _, _⟩ := r2.slot (st := { st with sl := st.sl.set j none }) ei2
      cases rx with
      | own hH ho rr hcc =>
        rename_i a o xsV cx
        cases ho
        have z0 : ∀ b, c b = (if b = a then 1 else 0) + cx b + d2 b := fun b => by rw [hdd, hcc]
        have le0 : ∀ b, c b ≤ 1 := r.le
        have ca : c a ≠ 0 := by rw [z0]; simp
        have cxa : cx a = 0 := by have := le0 a; have := z0 a; simp at this; omega
        have d2a : d2 a = 0 := by have := le0 a; have := z0 a; simp at this; omega
        have hjl : j < st.sl.length := (List.getElem?_eq_some_iff.mp ej).1
        have nFa : ∀ b, F b ∨ T b → b ≠ a := fun b q e => by subst e; exact ca (r.fr b q).1
        have ma : MutO (H a) := by rw [hH]; trivial
        have rl := ((r2.lock ex).lock (i := i) (x := y0) ey)
        have r5 := rl.wr (D := a) (o := .lst (xsV ++ [y0])) (fun b q e => by
          rcases q with q | q | q
          · exact nFa b (.inl q) e
          · exact nFa b (.inr q) e
          · subst e; exact q d2a) ma
        refine ⟨_, ex, .inl ⟨rfl, xsV, SqL.of hH⟩, ?_⟩
        refine ⟨y0, ey, ?_⟩
        refine ⟨a, xsV, y0, rfl, rfl, hH, by rw [← rr.length]; exact hz, ?_⟩
        refine ⟨F, T, as, _, _, d2, r5, ?_⟩
        show SPost X.K X.mg W D T as _ F d2 _ (g { st with sl := st.sl.set j none, la := i :: j :: st.la })
        cases e3 : g { st with sl := st.sl.set j none, la := i :: j :: st.la } with
        | nx st2 =>
          rw [e3] at p
          simp only at p
          intro F' as' σ2 H2 c6 r7 s7 p7
          split at p
          · rename_i w ew
            split at p
            · rename_i sw
              obtain ⟨xw, e1, e2c, exw, rw1, nw, r8, hd8⟩ := r7.slot ew
              have elk := r7.lk.2 (i, y0) List.mem_cons_self
              rw [exw] at elk
              cases elk
              simp only [Bool.and_eq_true] at sw
              have hj2 : st2.sl[j]? = some none := by
                have h := sw.2
                unfold isNone2 at h
                split at h
                · assumption
                · cases h
              have ha2 : H2 a = some (.lst (xsV ++ [y0])) := s7.keep a _ upd_same d2a
              -- what is held aside
              have fl : ∀ b, d2 b + (oneD a b + cx b) ≤ 1 := fun b => by have := le0 b; have := z0 b; simp only [oneD]; omega
              have sw0 : Stay H (upd H a (.lst (xsV ++ [y0]))) F T cx := stay_wr (fun b q e => by
                rcases q with q | q | q
                · exact nFa b (.inl q) e
                · exact nFa b (.inr q) e
                · subst e; exact q cxa) ma
              have ra1 := rr.stay ntx sw0 (fun _ h => h) (fun _ h => h) Pre.refl
              have mvv : ∀ b, oneD a b + cx b ≠ 0 → MutO (upd H a (.lst (xsV ++ [y0])) b) := fun b q => by
                by_cases z : b = a
                · rw [z, upd_same]; trivial
                · rw [upd_ne z]
                  exact rr.mu b (by simp only [oneD, if_neg z] at q; omega)
              have sa : Step F c H F (fun b => d2 b + (oneD a b + cx b)) (upd H a (.lst (xsV ++ [y0]))) := ⟨fun b u e z => by
                  have nb : b ≠ a := fun eb => by subst eb; exact ca z
                  rw [upd_ne nb]; exact e, fun b z => .inl (by rw [z0]; simp only [oneD] at z; omega), fl, fun _ h => h, fun b z => by
                  have := (r.fr b (.inl z)).1
                  rw [z0] at this
                  simp only [oneD]; omega, fun _ h => .inl h, fun b z => by
                  by_cases eb : b = a
                  · rw [eb, upd_same]; exact fun w => nomatch w
                  · rw [upd_ne eb]; exact z⟩
              have sb := Step.flight r5 mvv sa s7
              have dis : ∀ b, F' b → c6 b + (oneD a b + cx b) = 0 := sb.dis
              have le6 : ∀ b, c6 b + (oneD a b + cx b) ≤ 1 := sb.le
              have tz : ∀ b, T b → c6 b + (oneD a b + cx b) = 0 := fun b q => by
                have h0 := r.fr b (.inr q)
                by_cases z : c6 b + (oneD a b + cx b) = 0
                · exact z
                · rcases sb.grow b z with w | w
                  · exact absurd h0.1 w
                  · exact absurd w h0.2
              have stq : ∀ dq : Addr → Nat, (∀ b, dq b ≠ 0 → oneD a b + cx b ≠ 0) → Stay (upd H a (.lst (xsV ++ [y0]))) H2 F T dq := fun dq hq => r5.stay (fun b q => by have := fl b; have := hq b q; omega) s7.keep
              have ra2 := ra1.stay ntx (stq _ fun b q => by omega) s7.sub (fun _ h => h) p7
              have r9 : Rel X.K X.mg F' T as' L { st2 with sl := (st2.sl.set i none).set j none, la := L.map (·.1) } σ2 H2 e2c := by
                have := (r8.unlock).unlock
                have e : (st2.sl.set i none).set j none = st2.sl.set i none := List.ext_getElem? fun n => by
                  by_cases q : j = n
                  · subst q
                    have hjl2 : j < (st2.sl.set i none).length := by rw [List.length_set]; exact (List.getElem?_eq_some_iff.mp hj2).1
                    rw [List.getElem?_set_self hjl2, List.getElem?_set_ne (Ne.symm nij), hj2]
                  · rw [List.getElem?_set_ne q]
                rw [e]; exact this
              have nta : noTrs (xs ++ [w]) = true := by
                have app : ∀ {l : List Vl}, noTrs l = true → noTrs (l ++ [w]) = true := by
                  intro l
                  induction l with
                  | nil => intro _; show (noTr w && true) = true; rw [nw]; rfl
                  | cons a l ih =>
                    intro h
                    unfold noTrs at h
                    simp only [Bool.and_eq_true] at h
                    show (noTr a && noTrs (l ++ [w])) = true
                    rw [h.1, ih h.2]; rfl
                exact app ntx
              have ejσ := r7.lk.2 (j, .ref a) (List.mem_cons_of_mem _ List.mem_cons_self)
              have r10 := r9.fill (st := { st2 with sl := st2.sl.set i none, la := L.map (·.1) }) (i := j) (v := .nd .own .lst (xs ++ [w])) (c1 := fun b => oneD a b + (cx b + (e1 b + 0))) (by rw [List.length_set]; exact (List.getElem?_eq_some_iff.mp hj2).1) ejσ (.own ha2 rfl (ra2.append (.cons rw1 (.nil fun _ => rfl) fun _ => rfl)) fun b => rfl) (by show (true && noTrs (xs ++ [w])) = true; rw [nta]; rfl) (fun b => by have := le6 b; have := hd8 b; show (oneD a b + (cx b + (e1 b + 0))) + e2c b ≤ 1; omega) fun b q => by
                have := hd8 b
                rcases q with q | q
                · have := dis b q; show oneD a b + (cx b + (e1 b + 0)) = 0; omega
                · have := tz b q; show oneD a b + (cx b + (e1 b + 0)) = 0; omega
              have hla' : L.map (·.1) = st.la := r.lk.1.symm
              rw [hla'] at r10
              exact p F' as' σ2 H2 _ r10 (sb.less fun b => by have := hd8 b; show (oneD a b + (cx b + (e1 b + 0))) + e2c b ≤ c6 b + (oneD a b + cx b); omega) p7
            · exact p.elim
          · exact p.elim
        | rt v s => rw [e3] at p; exact p.elim
        | bk s => rw [e3] at p; exact p.elim
        | ct s => rw [e3] at p; exact p.elim
        | exc cl s => rw [e3] at p; exact p.elim
        | bad => rw [e3] at p; exact p.elim
    · exact p.elim
  · exact p.elim
end
end PyI

namespace PyI
open PySem PySem.Spec PyProof.Rows L2
/-! ### d["k"], d a slot's own dict: what stands there is shared from now on -/
def frzK (k : Key) : List Key → List Vl → Option (Vl × List Vl)
  | j :: ks, v :: r => if j = k then some (v, setF .sh v :: r) else (frzK k ks r).map fun p => (p.1, v :: p.2)
  | _, _ => none
def dgFE (i : Nat) (k : Str) : E := fun st => match st.sl[i]? with
  | some (some (.nd .own (.dK ks) xs)) => (match frzK (.inr k) ks xs with
    | some (v, ys) => if noOwn v then .ok (v, st, false) else if stor v then .ok (setF .sh v, { st with sl := st.sl.set i (some (.nd .own (.dK ks) ys)) }, true) else .bad
    | none => .bad)
  | _ => .bad
section
variable {K : PySem.W.Frag} {mg : Str → Option Value} {H : Hp} {F T : Addr → Prop} {as : List Addr}
theorem Reps.frzK {k : Key} : ∀ {vs : List Vl} {xs : List V} {c : Addr → Nat} {ks : List Key} {v : Vl} {ys : List Vl}, Reps K mg H F T as vs xs c → ks.length = xs.length → PyI.frzK k ks vs = some (v, ys) → noTrs vs = true →
    ∃ x c1 c2, valV (ks.zip xs) k = some x ∧ Rep K mg H F T as v x c1 ∧ noTr v = true ∧ noTrs ys = true ∧ (∀ b, c b = c1 b + c2 b) ∧ (stor v = true → ∀ F' : Addr → Prop, (∀ b, F b → F' b) → (∀ b, c1 b ≠ 0 → F' b) → Reps K mg H F' T as ys xs c2)
  | _, _, _, [], _, _, .nil _, _, e, _ => by simp [PyI.frzK] at e
  | _, _, _, _ :: _, _, _, .nil _, h, _, _ => by simp at h
  | _, _, _, [], _, _, .cons _ _ _, h, _, _ => by simp at h
  | w :: vs, x :: xs, c, j :: ks, v, ys, .cons (c1 := cw) (c2 := cs) r s hc, h, e, nt => by
    unfold noTrs at nt
    simp only [Bool.and_eq_true] at nt
    unfold PyI.frzK at e
    by_cases q : j = k
    · rw [if_pos q] at e
      cases e
      refine ⟨x, cw, cs, valV_pos (p := (j, x)) q, r, nt.1, by show (noTr (setF .sh w) && noTrs vs) = true; rw [noTr_sh, nt.2]; rfl, hc, fun sv F' hF h1 => ?_⟩
      exact .cons (r.freeze sv hF h1) (s.stay nt.2 (fun b o e _ => e) hF (fun _ h => h) Pre.refl) fun b => by omega
    · rw [if_neg q] at e
      obtain ⟨⟨v', ys'⟩, e1, e2⟩ := Option.map_eq_some_iff.mp e
      cases e2
      obtain ⟨x', c1, c2, h1, h2, h3, h4, h5, h6⟩ := Reps.frzK s (by simpa using h) e1 nt.2
      refine ⟨x', c1, fun b => cw b + c2 b, ?_, h2, h3, by show (noTr w && noTrs ys') = true; rw [nt.1, h4]; rfl, fun b => by have a := hc b; have d := h5 b; show c b = c1 b + (cw b + c2 b); omega, fun sv F' hF hh => .cons (r.stay nt.1 (fun b o e _ => e) hF (fun _ h => h) Pre.refl) (h6 sv F' hF hh) fun b => rfl⟩
      have e2 : valV ((j :: ks).zip (x :: xs)) k = valV (ks.zip xs) k := by simp [valV, List.find?_cons, q]
      rw [e2]; exact h1
end
section
variable {X : Cx} {x : Str} {k : Str} {i : Nat} {p0 p1 pos : Pos} {n : Nat}
theorem EOk.dgF (hu : X.A.units + 64 < cLine) (hN : X.N[i]? = some x := by rfl) (hv : Vis X.env.scope x := by first | exact Or.inl rfl | exact Or.inr (Or.inl rfl) | exact Or.inr (Or.inr rfl)) (hd : (x == ("__debug__" : Str)) = false := by decide) (hcd : (x == ("__classdict__" : Str)) = false := by decide) (hs : NoSl (.Constant (.str k) n p1) := by intro _ _; rfl) :
    EOk X (.Subscript (.Name x p0) (.Constant (.str k) n p1) pos) (dgFE i k) := fun W t =>
  (pe_dget (by omega) (pe_var hN hv hd hcd) pe_str hs).imp fun σ H Q h => by
  obtain ⟨F, T, as, L, st, c, r, p⟩ := h
  unfold dgFE at p
  split at p
  · rename_i ks xs e
    obtain ⟨x, c1, c2, e1, r1, n1, r2, hk⟩ := r.slot e
    have ntx : noTrs xs = true := by unfold noTr at n1; simp only [Bool.and_eq_true] at n1; exact n1.2
    cases r1 with
    | own hH ho rr hcc =>
      rename_i a o xsV cx
      obtain ⟨hl, rfl⟩ := ho
      cases ef : frzK (.inr k) ks xs with
      | none => rw [ef] at p; exact (show False from p).elim
      | some z =>
        obtain ⟨v, ys⟩ := z
        rw [ef] at p
        simp only at p
        obtain ⟨xv, d1, d2, hx, rv, nv, ny, hdd, fz⟩ := rr.frzK hl ef ntx
        refine ⟨_, e1, ?_⟩
        refine ⟨a, xv, rfl, .inl ⟨_, .inr k, .inl hH, rfl, hx.symm⟩, ?_⟩
        split at p
        · rename_i no
          have z : ∀ b, d1 b = 0 := Rep.none0 rv no
          exact p F as H _ c d1 r rv (r.refl.less fun b => by show c b + d1 b ≤ c b; rw [z]; exact Nat.le_refl _) Pre.refl fun _ => ⟨Same.refl H, rfl, fun _ h => h⟩
        · split at p
          · rename_i sv
            have hi : i < st.sl.length := (List.getElem?_eq_some_iff.mp e).1
            obtain ⟨f1, f2, h1, h2, h3, h4⟩ := r2.rep
            have mo : ∀ b, F b → (F b ∨ d1 b ≠ 0) := fun b q => .inl q
            have sy : ∀ (d : Addr → Nat), Stay H H F T d := fun d b o e _ => e
            have z0 : ∀ b, c b = ((if b = a then 1 else 0) + (d1 b + d2 b)) + c2 b := fun b => by rw [hk, hcc, hdd]
            have le0 : ∀ b, c b ≤ 1 := r.le
            have r2' : Rel X.K X.mg (fun b => F b ∨ d1 b ≠ 0) T as L { st with sl := st.sl.set i none } σ H c2 := by
              refine ⟨⟨f1, f2, h1.stay (sy _) mo (fun _ h => h) Pre.refl, h2.stay h3 (sy _) mo (fun _ h => h) Pre.refl, h3, h4⟩, r2.le, fun b q => ?_, r2.lk⟩
              rcases q with (q | q) | q
              · exact r2.fr b (.inl q)
              · have := le0 b
                rw [z0] at this
                refine ⟨by omega, fun z => ?_⟩
                have := rv.mu b q
                rw [z] at this
                exact this
              · exact r2.fr b (.inr q)
            have rf : ∀ T', Rep X.K X.mg H (fun b => F b ∨ d1 b ≠ 0) T' as (setF .sh v) xv (fun _ => 0) := fun T' => rv.freeze sv mo fun b q => .inr q
            have rn : Rep X.K X.mg H (fun b => F b ∨ d1 b ≠ 0) T as (.nd .own (.dK ks) ys) (.ref a) (fun b => (if b = a then 1 else 0) + d2 b) := .own hH ⟨hl, rfl⟩ (fz sv _ mo fun b q => .inr q) fun b => rfl
            have r3 := r2'.fill hi e1 rn (by show (true && noTrs ys) = true; rw [ny]; rfl) (fun b => by have := le0 b; rw [z0] at this; show ((if b = a then 1 else 0) + d2 b) + c2 b ≤ 1; omega) fun b q => by
              have l := le0 b
              rw [z0] at l
              rcases q with (q | q) | q
              · have := (r.fr b (.inl q)).1
                rw [z0] at this
                show (if b = a then 1 else 0) + d2 b = 0; omega
              · show (if b = a then 1 else 0) + d2 b = 0; omega
              · have := (r.fr b (.inr q)).1
                rw [z0] at this
                show (if b = a then 1 else 0) + d2 b = 0; omega
            refine p (fun b => F b ∨ d1 b ≠ 0) as H xv _ (fun _ => 0) r3 (rf T) ⟨fun _ _ e _ => e, fun b q => .inl ?_, fun b => ?_, mo, fun b q => ?_, fun b q => ?_, fun _ h => h⟩ Pre.refl fun q => nomatch q
            · have q' : ((if b = a then 1 else 0) + d2 b) + c2 b + 0 ≠ 0 := q
              rw [z0]; omega
            · show ((if b = a then 1 else 0) + d2 b) + c2 b + 0 ≤ 1
              have := le0 b
              rw [z0] at this
              omega
            · show ((if b = a then 1 else 0) + d2 b) + c2 b + 0 = 0
              have := (r3.fr b (.inl q)).1
              have this : ((if b = a then 1 else 0) + d2 b) + c2 b = 0 := this
              omega
            · rcases q with q | q
              · exact .inl q
              · exact .inr (.inl (by rw [z0]; omega))
          · exact (show False from p).elim
  · exact (show False from p).elim
end
end PyI

namespace PyI
open PySem PySem.Spec PyProof.Rows L2
/-! ### range with a step above nought -/
def hRngP : List Vl → Option (List Vl × Bool)
  | [.int i, .int j, .int c] => if (inB 1000000 i && inB 1000000 j) && (decide (0 < c) && inB 1000000 c) then some (intsC i c (if i < j then (j - i - 1) / c + 1 else 0).toNat, false) else none
  | _ => none
section
variable {X : Cx} {tg e e2 e3 : Expr} {f f2 f3 : E} {p pos : Pos}
theorem SrcOk.rngP (hg : Gl X "range") (hm : X.mg "range" = none) (h : AOk X [e, e2, e3] [f, f2, f3]) (hs : starEach [e, e2, e3] X.env = (false, eval e X.env) :: starEach [e2, e3] X.env := by rfl) (hpl : (backTo pos (starEach [e2, e3] X.env)).any (·.1) = false := by rfl) :
    SrcOk X tg (.Call (.Name "range" p) [e, e2, e3] [] pos) (srcE hRngP [f, f2, f3]) := fun W t => (pi_range3 hg hm (h W t) hs hpl).imp fun σ H Rr hi => by
  refine hi.args.mono fun x H1 ⟨F, T, as, vs, c, items, tr, r, e1, q⟩ => ?_
  unfold hRngP at e1
  split at e1
  · split at e1
    · rename_i i j c hc
      cases e1
      simp only [Bool.and_eq_true, inB_eq, decide_eq_true_eq] at hc
      obtain ⟨⟨hi, hj⟩, c0, hc⟩ := hc
      obtain ⟨x', y', z', d1, d2, d3, e2, r1, r2, r3, hcc⟩ := r.inv3
      cases e2
      cases r1.inv_int
      cases r2.inv_int
      cases r3.inv_int
      refine ⟨i, j, c, (if i < j then (j - i - 1) / c + 1 else 0).toNat, rfl, ?_, q _ (walkC i c (if i < j then (j - i - 1) / c + 1 else 0).toNat) (fun _ => 0) ⟨by simp [intsC], rfl, fun _ => rfl⟩ fun b => Nat.zero_le _⟩
      have hr : Builtin.Range.rangeSize i j c = (if i < j then (j - i - 1) / c + 1 else 0) := by
        unfold Builtin.Range.rangeSize
        rw [if_pos (by omega)]
      have hn : 0 ≤ (if i < j then (j - i - 1) / c + 1 else 0) := by
        split
        · have : 0 ≤ (j - i - 1) / c := Int.ediv_nonneg (by omega) (by omega)
          omega
        · omega
      have hm : (if i < j then (j - i - 1) / c + 1 else 0) * c ≤ 3000000 + c := by
        split
        · have : (j - i - 1) / c * c ≤ j - i - 1 := Int.ediv_mul_le _ (by omega)
          rw [Int.add_mul]
          omega
        · omega
      refine ⟨by omega, by omega, ?_, by rw [hr, Int.toNat_of_nonneg hn]⟩
      unfold Builtin.Range.small
      rw [hr]
      generalize (if i < j then (j - i - 1) / c + 1 else 0) = m at *
      have h1 : m * 1 ≤ m * c := Int.mul_le_mul_of_nonneg_left (by omega) hn
      rw [Int.mul_one] at h1
      simp only [Builtin.Range.rangeFitsLong, Bool.and_eq_true, Bool.or_eq_true, decide_eq_true_eq, beq_iff_eq]
      rw [if_pos (show c > 0 by omega)]
      simp only [Bool.and_eq_true, decide_eq_true_eq]
      omega
    · cases e1
  · cases e1
end
end PyI

namespace PyI
open PySem PySem.Spec PyProof.Rows L2
/-! ### place.m(e), e a whole number that has effects elsewhere: the slot is lent out while e is read -/
def allSt (sl : List (Option Vl)) : Bool := sl.all fun o => match o with
  | some v => stor v
  | none => true
def mutPXE (l : Pl) (p : Kd → Bool) (f : E) (g : Mu) : E := fun st => match l st with
  | some (i, pt) => (match st.sl[i]? with
    | some (some v) => (match getP pt v with
      | some (k0, xs) => if p k0 && noRef v then (match f { st with sl := st.sl.set i (some (setF .bw v)) } with
        | .ok (.int j, st1, _) => if allSt (st1.sl.set i none) && stors st1.hp then (match g [.int j] k0 xs with
          | some (res, k', ys) => if stors ys && noTr res then .ok (res, { st1 with sl := st1.sl.set i (some (putP pt v k' ys)) }, true) else .bad
          | none => .bad) else .bad
        | _ => .bad) else .bad
      | none => .bad)
    | _ => .bad)
  | none => .bad
section
variable {K : PySem.W.Frag} {mg : Str → Option Value} {H H' : Hp} {F T T' : Addr → Prop} {as : List Addr}
mutual
theorem Rep.shT : ∀ {v : Vl} {x : V} {c : Addr → Nat}, Rep K mg H F T' as v x c → stor v = true → Rep K mg H F T as v x c
  | _, _, _, .non hc, _ => .non hc
  | _, _, _, .bl hc, _ => .bl hc
  | _, _, _, .int hc, _ => .int hc
  | _, _, _, .str hc, _ => .str hc
  | _, _, _, .ref h hc, _ => .ref h hc
  | _, _, _, .sym h hc, _ => .sym h hc
  | _, _, _, .tup h r, s => .tup h (Reps.shT r (by unfold stor at s; exact s))
  | _, _, _, .own h ho r hc, s => .own h ho (Reps.shT r (by unfold stor at s; simp only [Bool.and_eq_true] at s; exact s.2)) hc
  | _, _, _, .sh h r hc, s => .sh h (Reps.shT r (by unfold stor at s; simp only [Bool.and_eq_true] at s; exact s.2)) hc
  | _, _, _, .bw h r hc, s => by unfold stor at s; simp at s
  | _, _, _, .tr h r hc, s => by unfold stor at s; simp at s
theorem Reps.shT : ∀ {v : List Vl} {x : List V} {c : Addr → Nat}, Reps K mg H F T' as v x c → stors v = true → Reps K mg H F T as v x c
  | _, _, _, .nil hc, _ => .nil hc
  | _, _, _, .cons r q hc, s => by
    unfold stors at s
    simp only [Bool.and_eq_true] at s
    exact .cons (Rep.shT r s.1) (Reps.shT q s.2) hc
end
theorem RepSl.shT : ∀ {sl : List (Option Vl)} {σ : L2.St} {c : Addr → Nat}, RepSl K mg H F T' as sl σ c → allSt sl = true → RepSl K mg H F T as sl σ c
  | _, _, _, .nil hc, _ => .nil hc
  | _, _, _, .no s, h => .no (s.shT (by unfold allSt at h ⊢; rw [List.all_cons, Bool.and_eq_true] at h; exact h.2))
  | _, _, _, .yes r nt s hc, h => by
    unfold allSt at h
    rw [List.all_cons, Bool.and_eq_true] at h
    exact .yes (r.shT h.1) nt (s.shT h.2) hc
theorem Rel.shT {L : List (Nat × V)} {st : Sta} {σ : L2.St} {c : Addr → Nat} (r : Rel K mg F T' as L st σ H c) (h1 : allSt st.sl = true) (h2 : stors st.hp = true) (hT : ∀ b, T b → T' b) : Rel K mg F T as L st σ H c := by
  obtain ⟨d1, d2, g1, g2, g3, g4⟩ := r.rep
  exact ⟨⟨d1, d2, g1.shT h1, g2.shT h2, g3, g4⟩, r.le, fun b q => r.fr b (q.imp id (hT b)), r.lk⟩
theorem VP.stay : ∀ {p : List Nat} {v : Vl} {x y : V} {c : Addr → Nat} {k : Kd} {xs : List Vl}, Rep K mg H F T as v x c → getP p v = some (k, xs) → noTr v = true → Stay H H' F T c → VP H p x y → VP H' p x y
  | [], _, _, _, _, _, _, _, _, _, _, h => h
  | j :: p, v, x, y, c, k, xs, r, e, nt, s, ⟨a, zs, z, ex, hz, ez, vp⟩ => by
    unfold getP at e
    split at e
    · rename_i ws
      obtain ⟨w, e1, e2⟩ := Option.bind_eq_some_iff.mp e
      cases r with
      | own h ho rr hc =>
        cases ho
        cases ex
        rw [h] at hz
        cases hz
        have ntw : noTrs ws = true := by unfold noTr at nt; simp only [Bool.and_eq_true] at nt; exact nt.2
        obtain ⟨x', c1, c2, g1, g2, g3, g4, _⟩ := rr.split ntw e1
        rw [g1] at ez
        cases ez
        refine ⟨_, _, z, rfl, s _ _ h (.inr (.inr (.inl (by rw [hc]; simp)))), g1, VP.stay g2 e2 g3 (fun b o e q => s b o e ?_) vp⟩
        rcases q with q | q | q | q
        · exact .inl q
        · exact .inr (.inl q)
        · exact .inr (.inr (.inl (by rw [hc, g4]; omega)))
        · exact .inr (.inr (.inr q))
    · cases e
end
theorem EI.mutPX {K : PySem.W.Frag} {mg : Str → Option Value} {W : WX} {l : Pl} {p : Kd → Bool} {f : E} {g : Mu} {r : V → List V → Hp → VK → Prop} {σ : L2.St} {H : Hp} {Q : VK} (h : EI K mg W (mutPXE l p f g) σ H Q) (hg : GMu K mg g r) :
    PlI K mg W l σ H fun y H1 => (∃ a k xsV o, y = .ref a ∧ p k = true ∧ H1 a = some o ∧ hoOf mg k xsV o) ∧ AI K mg W [f] σ H1 fun xs H2 => r y xs H2 Q := by
  obtain ⟨F0, T, as0, L, st, c0, r0, q⟩ := h
  unfold mutPXE at q
  split at q
  · rename_i i pt el
    split at q
    · rename_i v es
      split at q
      · rename_i k0 ws eg
        split at q
        · rename_i hpn
          simp only [Bool.and_eq_true] at hpn
          obtain ⟨hp, nrv⟩ := hpn
          obtain ⟨x, a, o, xsV, cx, ex, vp, ha, ho, rx, ntx, kx, up⟩ := r0.place es eg
          refine ⟨F0, T, as0, L, st, c0, r0, i, pt, v, x, k0, ws, el, es, ex, eg, fun H1 y sm vpy => ?_⟩
          cases (vp.same sm).det vpy
          obtain ⟨x', c1, c2, ex', rv, nv, r2, hd⟩ := r0.slot es
          rw [ex] at ex'
          cases ex'
          have le0 : ∀ b, c0 b ≤ 1 := r0.le
          have hil : i < st.sl.length := (List.getElem?_eq_some_iff.mp es).1
          have rv1 := rv.same sm (fun _ h => h) (fun _ h => h) Pre.refl
          have r21 := r2.same sm
          -- the lent out
          generalize hT' : (fun b => (T b ∨ F0 b) ∨ c1 b ≠ 0) = T'
          have tT : ∀ b, T b → T' b := fun b q => by rw [← hT']; exact .inl (.inl q)
          have fT : ∀ b, F0 b → T' b := fun b q => by rw [← hT']; exact .inl (.inr q)
          have cT : ∀ b, c1 b ≠ 0 → T' b := fun b q => by rw [← hT']; exact .inr q
          have Tc : ∀ b, T' b → c2 b = 0 ∧ H1 b ≠ none := fun b q => by
            rw [← hT'] at q
            rcases q with (q | q) | q
            · exact r21.fr b (.inr q)
            · exact r21.fr b (.inl q)
            · refine ⟨by have := le0 b; rw [hd] at this; omega, fun z => ?_⟩
              have := rv1.mu b q
              rw [z] at this
              exact this
          have r2' : Rel K mg F0 T' as0 L { st with sl := st.sl.set i none } σ H1 c2 := by
            obtain ⟨d1, d2, h1, h2, h3, h4⟩ := r21.rep
            have sy : ∀ (d : Addr → Nat), Stay H1 H1 F0 T d := fun d b o e _ => e
            exact ⟨⟨d1, d2, h1.stay (sy _) (fun _ h => h) tT Pre.refl, h2.stay h3 (sy _) (fun _ h => h) tT Pre.refl, h3, h4⟩, r21.le, fun b q => q.elim (fun q => r21.fr b (.inl q)) (Tc b), r21.lk⟩
          have rb := r2'.fill (v := setF .bw v) hil ex (rv1.toBw nv nrv fT tT cT) noTr_bw (fun b => by have := r21.le b; omega) fun b _ => rfl
          refine ⟨⟨a, k0, xsV, o, rfl, hp, sm _ _ ha, ho⟩, F0, T', as0, L, { st with sl := st.sl.set i (some (setF .bw v)) }, _, rb, ?_⟩
          split at q
          · rename_i j st1 ef e1
            have e1' : evs [f] { st with sl := st.sl.set i (some (setF .bw v)) } = .ok ([.int j], st1, ef) := by
              unfold evs evs
              rw [e1]
              cases ef <;> rfl
            rw [e1']
            intro F1 as1 H2 xs d1 ca r1 rvs s1 p1 _
            split at q
            · rename_i hst
              simp only [Bool.and_eq_true] at hst
              split at q
              · rename_i res k' ys e3
                split at q
                · rename_i hc
                  simp only [Bool.and_eq_true] at hc
                  have ca0 : ∀ b, ca b = 0 := Reps.none0 rvs rfl
                  -- what was lent is as it was
                  have stv : ∀ cv : Addr → Nat, (∀ b, cv b ≠ 0 → c1 b ≠ 0) → Stay H1 H2 F0 T cv := fun cv hcv b o e z => (rb.stay (cv := fun _ => 0) (fun b q => absurd rfl q) s1.keep) b o e (by
                    rcases z with z | z | z | z
                    · exact .inl z
                    · exact .inr (.inl (tT b z))
                    · exact .inr (.inl (cT b (hcv b z)))
                    · exact .inr (.inr (.inr z)))
                  have rv2 := rv1.stay nv (stv c1 fun _ h => h) s1.sub (fun _ h => h) p1
                  have vp2 : VP H2 pt x (.ref a) := VP.stay rv1 eg nv (stv c1 fun _ h => h) (vp.same sm)
                  obtain ⟨e1c, e2c, g1, g2, g3, g4⟩ := r1.rep
                  obtain ⟨e1d, g1', ke⟩ := g1.drop i
                  have l1 : ∀ b, d1 b + ca b ≤ 1 := s1.le
                  have dis1 : ∀ b, F1 b → d1 b + ca b = 0 := s1.dis
                  have r3 : Rel K mg F1 T' as1 L { st1 with sl := st1.sl.set i none } σ H2 (fun b => e1d b + e2c b) :=
                    ⟨⟨e1d, e2c, g1', g2, g3, fun _ => rfl⟩, fun b => by have := l1 b; have := ke b; have := g4 b; show e1d b + e2c b ≤ 1; omega, fun b q => ⟨by have := (r1.fr b q).1; have := ke b; have := g4 b; show e1d b + e2c b = 0; omega, (r1.fr b q).2⟩, r1.lk⟩
                  have r3T := r3.shT (T := T) hst.1 hst.2 tT
                  have hil2 : i < st1.sl.length := by
                    have := r1.len
                    have := (List.getElem?_eq_some_iff.mp ex).1
                    omega
                  have kd : ∀ b, c1 b ≠ 0 → d1 b = 0 := fun b q => by
                    have h0 := Tc b (cT b q)
                    by_cases z : d1 b = 0
                    · exact z
                    · rcases s1.grow b (by show d1 b + ca b ≠ 0; omega) with w | w
                      · exact absurd (by show 0 + c2 b = 0; omega) w
                      · exact absurd w h0.2
                  have kF1 : ∀ b, F1 b ∨ T b → c1 b = 0 := fun b q => by
                    rcases q with q | q
                    · rcases s1.fgr b q with w | w | w
                      · have := (r0.fr b (.inl w)).1; rw [hd] at this; omega
                      · have w' : 0 + c2 b ≠ 0 := w
                        have := le0 b; rw [hd] at this; omega
                      · by_cases z : c1 b = 0
                        · exact z
                        · exact absurd w (Tc b (cT b z)).2
                    · have := (r0.fr b (.inr q)).1; rw [hd] at this; omega
                  have r4 := r3T.fill (st := st1) (v := v) hil2 ex rv2 nv (fun b => by
                    by_cases z : c1 b = 0
                    · have := r3T.le b
                      have this : e1d b + e2c b ≤ 1 := this
                      omega
                    · have := kd b z; have := ke b; have := g4 b; have := le0 b; rw [hd] at this
                      omega) kF1
                  generalize hd4 : (fun b => c1 b + (e1d b + e2c b)) = d4 at r4
                  have hd4' : ∀ b, d4 b = c1 b + (e1d b + e2c b) := fun b => by rw [← hd4]
                  obtain ⟨x2, a2, o2, wsV, cx2, ex2, vp3, ha2, ho2, rw2, nw, kx2, up2⟩ := r4.place (List.getElem?_set_self hil2) eg
                  rw [ex] at ex2
                  cases ex2
                  cases vp2.det vp3
                  have s0 : Step F0 c0 H1 F0 (fun b => (0 + c2 b) + c1 b) H1 := ((r0.same sm).refl).less fun b => by rw [hd]; omega
                  have s2 := Step.flight (cv := c1) rb (fun b q => rv1.mu b q) s0 (s1.less fun b => Nat.le_add_right _ _)
                  have s3 : Step F0 c0 H1 F1 (fun b => d4 b + ca b) H2 := s2.less fun b => by
                    have := ke b; have := g4 b
                    show d4 b + ca b ≤ d1 b + c1 b
                    rw [hd4', ca0]; omega
                  have tz : ∀ b, T b → d4 b + ca b = 0 := fun b z => by
                    have h0 := (r0.same sm).fr b (.inr z)
                    by_cases y : d4 b + ca b = 0
                    · exact y
                    · rcases s3.grow b y with w | w
                      · exact absurd h0.1 w
                      · exact absurd w h0.2
                  have rvT : Reps K mg H2 F1 T as1 [.int j] xs ca := rvs.shT rfl
                  refine hg H2 F1 T as1 [.int j] xs ca k0 ws wsV cx2 a o2 res k' ys Q rvT rw2 ha2 ho2 e3 fun ysV cy x cr o' ry rr ho' hle => ?_
                  have le1 : ∀ b, d4 b + ca b ≤ 1 := s3.le
                  have dis1 : ∀ b, F1 b → d4 b + ca b = 0 := s3.dis
                  obtain ⟨c', r', hc'⟩ := up2 ca k' ys ysV cy o' le1 (fun b z => by
                    rcases z with z | z
                    · have := dis1 b z; omega
                    · have := tz b z; omega) (fun b => by have := hle b; omega) ry (noTrs_of_stors hc.1) ho'
                  have r' : Rel K mg F1 T as1 L { st1 with sl := st1.sl.set i (some (putP pt v k' ys)) } σ (upd H2 a o') c' := by
                    have e : (st1.sl.set i (some v)).set i (some (putP pt v k' ys)) = st1.sl.set i (some (putP pt v k' ys)) := by rw [List.set_set]
                    rw [← e]; exact r'
                  have hm : MutO (H2 a) := by rw [ha2]; exact hoOf_mut ho2
                  have nda : ∀ (d : Addr → Nat), (∀ b, d b ≤ cx2 b + ca b) → ∀ b, F1 b ∨ T b ∨ d b ≠ 0 → b ≠ a := fun d hd b z eb => by
                    subst eb
                    have k1 := kx2 b
                    have oa : oneD b b = 1 := if_pos rfl
                    rcases z with z | z | z
                    · have := dis1 b z; omega
                    · have := tz b z; omega
                    · have := hd b; have := le1 b; omega
                  have rr' := rr.stay hc.2 (stay_wr (o := o') (nda cr fun b => by have := hle b; omega) hm) (fun _ h => h) (fun _ h => h) Pre.refl
                  have sm0 : ∀ b, H1 b = none → H b = none := fun b w => by
                    cases u : H b with
                    | none => rfl
                    | some o => rw [sm _ _ u] at w; cases w
                  have s1 : Step F0 c0 H F1 (fun b => d4 b + ca b) H2 := ⟨fun b o e z => s3.keep b o (sm _ _ e) z, fun b z => (s3.grow b z).imp id (sm0 b), s3.le, s3.sub, s3.dis, fun b z => (s3.fgr b z).imp id fun w => w.imp id (sm0 b), fun b z => s3.trk b (PyI.Same.trk sm b z)⟩
                  refine q F1 as1 (upd H2 a o') x c' cr r' rr' ⟨fun b u e z => ?_, fun b z => s1.grow b ?_, fun b => ?_, s1.sub, fun b z => ?_, s1.fgr, fun b z => ?_⟩ p1 fun z => nomatch z
                  · have e2' := s1.keep b u e z
                    rw [upd_ne ?_]
                    · exact e2'
                    · rintro rfl
                      have k1 := kx2 b
                      have oa : oneD b b = 1 := if_pos rfl
                      rcases s1.grow b (by show d4 b + ca b ≠ 0; omega) with w | w
                      · exact w z
                      · rw [e] at w; cases w
                  · have z' : c' b + cr b ≠ 0 := z
                    have := hc' b; have := hle b; have := kx2 b
                    show d4 b + ca b ≠ 0
                    omega
                  · show c' b + cr b ≤ 1
                    have := hc' b; have := hle b; have := kx2 b; have := le1 b
                    omega
                  · show c' b + cr b = 0
                    have := hc' b; have := hle b; have := kx2 b; have := dis1 b z
                    omega
                  · by_cases y : b = a
                    · rw [y, upd_same]; exact fun w => nomatch w
                    · rw [upd_ne y]; exact s1.trk b z
                · exact (show False from q).elim
              · exact (show False from q).elim
            · exact (show False from q).elim
          · exact (show False from q).elim
        · exact (show False from q).elim
      · exact (show False from q).elim
    · exact (show False from q).elim
  · exact (show False from q).elim
section
variable {X : Cx} {m : Str} {p0 apos cpos pos : Pos} {o e : Expr} {l : Pl} {f : E} {g : Mu} {id : String}
/-- place.m(e), e with effects elsewhere -/
theorem EOk.methPX {r : V → List V → Hp → VK → Prop} (hl : PlOk X o l) (slot : Slot "list" m id) (hty : typeOf (.builtin id) = pure (.type "method_descriptor")) (hm : MtR X id r) (hg : GMu X.K X.mg g r) (ha : AOk X [e] [f])
    (hbase : attributeBase o m X.env (eval o X.env) = eval o X.env := by rfl)
    (hfew : ((backTo cpos (starEach [e] X.env)).all (fun x => !x.1) && (backToKw cpos (keywordEach [] X.env)).all (fun x => x.1.isSome)
      && decide (([e] : List Expr).length + ([] : List Keyword).length + (if ([] : List Keyword).isEmpty then 0 else 1) < 30)) = true := by rfl)
    (hline : (apos.endLine == cpos.line) = true := by rfl) (hs : starEach [e] X.env = (false, eval e X.env) :: starEach [] X.env := by rfl) (hplain : (backTo cpos (starEach [] X.env)).any (·.1) = false := by rfl) :
    EOk X (.Call (.Attribute o m apos) [e] [] cpos) (mutPXE l isL f g) := fun W t =>
  (pe_bm PySem.F.plainAttrs_list slot hty hm (hl W t) (ha W t) hbase hfew hline hs hplain).imp fun σ H Q h =>
    (h.mutPX hg).mono fun y H1 ⟨ty, q⟩ => ⟨tyLP ty, q⟩
end
end PyI

namespace K41
open PySem PySem.Spec PyProof.Rows L2 PyI
def topS (i : Nat) : Stmt := PySem.Challenge.pw_pairhall_k41_rows_unsorted.main.body.getD i (.Pass ⟨0, 0, 0, 0⟩)
abbrev s_is_number : Stmt := topS 6
abbrev N_is_number : List Str := ["thing", "least", "most"]
theorem sc_is_number : FnScope N_is_number ["thing", "least", "most"] (defScope s_is_number) := ⟨rfl, rfl, rfl, by decide +kernel, rfl, by decide +kernel, by decide +kernel⟩
abbrev s_is_switch : Stmt := topS 9
abbrev N_is_switch : List Str := ["thing", "lanes"]
theorem sc_is_switch : FnScope N_is_switch ["thing", "lanes"] (defScope s_is_switch) := ⟨rfl, rfl, rfl, by decide +kernel, rfl, by decide +kernel, by decide +kernel⟩
abbrev s_is_layer : Stmt := topS 10
abbrev N_is_layer : List Str := ["thing", "lanes", "used", "low", "high", "one"]
theorem sc_is_layer : FnScope N_is_layer ["thing", "lanes"] (defScope s_is_layer) := ⟨rfl, rfl, rfl, by decide +kernel, rfl, by decide +kernel, by decide +kernel⟩
abbrev s_need_net : Stmt := topS 11
abbrev N_need_net : List Str := ["net", "lanes", "layer"]
theorem sc_need_net : FnScope N_need_net ["net", "lanes"] (defScope s_need_net) := ⟨rfl, rfl, rfl, by decide +kernel, rfl, by decide +kernel, by decide +kernel⟩
abbrev s_exchanged : Stmt := topS 12
abbrev N_exchanged : List Str := ["things", "layer", "some", "found", "one", "low", "high"]
theorem sc_exchanged : FnScope N_exchanged ["things", "layer", "some"] (defScope s_exchanged) := ⟨rfl, rfl, rfl, by decide +kernel, rfl, by decide +kernel, by decide +kernel⟩
abbrev s_compared : Stmt := topS 13
abbrev N_compared : List Str := ["net", "things", "settings", "layer", "some", "low", "high"]
theorem sc_compared : FnScope N_compared ["net", "things"] (defScope s_compared) := ⟨rfl, rfl, rfl, by decide +kernel, rfl, by decide +kernel, by decide +kernel⟩
abbrev s_rises : Stmt := topS 16
abbrev N_rises : List Str := ["things", "one", "other"]
theorem sc_rises : FnScope N_rises ["things"] (defScope s_rises) := ⟨rfl, rfl, rfl, by decide +kernel, rfl, by decide +kernel, by decide +kernel⟩
abbrev s_unsorted_row : Stmt := topS 17
abbrev N_unsorted_row : List Str := ["net", "lanes", "number", "row", "lane"]
theorem sc_unsorted_row : FnScope N_unsorted_row ["net", "lanes"] (defScope s_unsorted_row) := ⟨rfl, rfl, rfl, by decide +kernel, rfl, by decide +kernel, by decide +kernel⟩
abbrev s__law_mixed : Stmt := topS 19
abbrev N__law_mixed : List Str := ["_law_x", "_law_number"]
theorem sc__law_mixed : FnScope N__law_mixed ["_law_x"] (defScope s__law_mixed) := ⟨rfl, rfl, rfl, by decide +kernel, rfl, by decide +kernel, by decide +kernel⟩
abbrev s__law_begun : Stmt := topS 20
abbrev N__law_begun : List Str := ["_law_script", "_law_salt"]
theorem sc__law_begun : FnScope N__law_begun ["_law_script", "_law_salt"] (defScope s__law_begun) := ⟨rfl, rfl, rfl, by decide +kernel, rfl, by decide +kernel, by decide +kernel⟩
abbrev s__law_next : Stmt := topS 21
abbrev N__law_next : List Str := ["_law_s", "_law_cells"]
theorem sc__law_next : FnScope N__law_next ["_law_s"] (defScope s__law_next) := ⟨rfl, rfl, rfl, by decide +kernel, rfl, by decide +kernel, by decide +kernel⟩
abbrev s__law_pick : Stmt := topS 22
abbrev N__law_pick : List Str := ["_law_s", "_law_some"]
theorem sc__law_pick : FnScope N__law_pick ["_law_s", "_law_some"] (defScope s__law_pick) := ⟨rfl, rfl, rfl, by decide +kernel, rfl, by decide +kernel, by decide +kernel⟩
abbrev s__law_walked : Stmt := topS 24
abbrev N__law_walked : List Str := ["_law_net_here", "_law_things", "_law_rows", "_law_layer_here", "_law_row", "_law_low", "_law_high"]
theorem sc__law_walked : FnScope N__law_walked ["_law_net_here", "_law_things"] (defScope s__law_walked) := ⟨rfl, rfl, rfl, by decide +kernel, rfl, by decide +kernel, by decide +kernel⟩
abbrev s__law_layer : Stmt := topS 25
abbrev N__law_layer : List Str := ["_law_s", "_law_lanes", "_law_left", "_law_found", "_law_one", "_law_other"]
theorem sc__law_layer : FnScope N__law_layer ["_law_s", "_law_lanes"] (defScope s__law_layer) := ⟨rfl, rfl, rfl, by decide +kernel, rfl, by decide +kernel, by decide +kernel⟩
abbrev s__law_neighbours : Stmt := topS 26
abbrev N__law_neighbours : List Str := ["_law_lanes", "_law_turn", "_law_lane"]
theorem sc__law_neighbours : FnScope N__law_neighbours ["_law_lanes"] (defScope s__law_neighbours) := ⟨rfl, rfl, rfl, by decide +kernel, rfl, by decide +kernel, by decide +kernel⟩
abbrev s__law_net : Stmt := topS 27
abbrev N__law_net : List Str := ["_law_s", "_law_lanes", "_law_way", "_law_net_here", "_law_found", "_law_at", "_law_layer_here"]
theorem sc__law_net : FnScope N__law_net ["_law_s", "_law_lanes"] (defScope s__law_net) := ⟨rfl, rfl, rfl, by decide +kernel, rfl, by decide +kernel, by decide +kernel⟩
abbrev s__law_first : Stmt := topS 28
abbrev N__law_first : List Str := ["_law_net_here", "_law_lanes", "_law_number", "_law_row", "_law_lane", "_law_end"]
theorem sc__law_first : FnScope N__law_first ["_law_net_here", "_law_lanes"] (defScope s__law_first) := ⟨rfl, rfl, rfl, by decide +kernel, rfl, by decide +kernel, by decide +kernel⟩
abbrev s_law : Stmt := topS 29
abbrev N_law : List Str := ["_law_script", "_law_s", "_law_turn", "_law_lanes", "_law_net_here", "_law_kept", "_law_due", "_law_found", "_law_layer_here", "_law_one"]
theorem sc_law : FnScope N_law ["_law_script"] (defScope s_law) := ⟨rfl, rfl, rfl, by decide +kernel, rfl, by decide +kernel, by decide +kernel⟩
abbrev knL : List Str := ["NoSize", "NoNet"]
abbrev dsL : List Str := ["NoSize", "NoNet"]
abbrev csL : List Str := []
/-- what the top has written -/
structure Fx (K : PySem.W.Frag) (mg : Str → Option Value) : Prop where
  m_int : mg "int" = none
  m_isinstance : mg "isinstance" = none
  m_bool : mg "bool" = none
  m_tuple : mg "tuple" = none
  m_len : mg "len" = none
  m_list : mg "list" = none
  m_all : mg "all" = none
  m_sorted : mg "sorted" = none
  m_set : mg "set" = none
  m_zip : mg "zip" = none
  m_range : mg "range" = none
  m_min : mg "min" = none
  m_max : mg "max" = none
  g_MOST_LANES_pairings : IntG mg "MOST_LANES_pairings" 64
  g_MOST_LAYERS : IntG mg "MOST_LAYERS" 40
  g_MOST_LANES_sorters : IntG mg "MOST_LANES_sorters" 8
  e_NoSize : ExcC K mg "NoSize"
  e_NoNet : ExcC K mg "NoNet"
  d_is_number : DefAt K mg "is_number" s_is_number
  d_is_switch : DefAt K mg "is_switch" s_is_switch
  d_is_layer : DefAt K mg "is_layer" s_is_layer
  d_need_net : DefAt K mg "need_net" s_need_net
  d_exchanged : DefAt K mg "exchanged" s_exchanged
  d_compared : DefAt K mg "compared" s_compared
  d_rises : DefAt K mg "rises" s_rises
  d_unsorted_row : DefAt K mg "unsorted_row" s_unsorted_row
  d__law_mixed : DefAt K mg "_law_mixed" s__law_mixed
  d__law_begun : DefAt K mg "_law_begun" s__law_begun
  d__law_next : DefAt K mg "_law_next" s__law_next
  d__law_pick : DefAt K mg "_law_pick" s__law_pick
  d__law_walked : DefAt K mg "_law_walked" s__law_walked
  d__law_layer : DefAt K mg "_law_layer" s__law_layer
  d__law_neighbours : DefAt K mg "_law_neighbours" s__law_neighbours
  d__law_net : DefAt K mg "_law_net" s__law_net
  d__law_first : DefAt K mg "_law_first" s__law_first
  d_law : DefAt K mg "law" s_law
section
variable {P : Program} {w : World} {K : PySem.W.Frag} {mg : Str → Option Value} {base : Heap}
def b_is_number : C := retC (andE (opE gIsi [varE 0, cstE (.sym (.ty "int"))]) (andE (notE (opE gIsi [varE 0, cstE (.sym (.ty "bool"))])) (chainE (fun i j => decide (i ≤ j)) (fun i j => decide (i ≤ j)) (varE 1) (varE 0) (varE 2))))
def F_is_number : List Vl → RF := runF 3 b_is_number
theorem ok_is_number (x : Fx K mg) (f : Addr) : BodyOk P w K mg base 0 N_is_number "is_number" s_is_number f b_is_number := fun cdv A outer s H E hr => SsOk.one (SOk.ret (EOk.and (EOk.isi x.m_isinstance (AOk.cons (vr 0) (AOk.cons (EOk.ty rfl x.m_int (by decide +kernel)) (AOk.nil)))) (EOk.and (EOk.not (EOk.isi x.m_isinstance (AOk.cons (vr 0) (AOk.cons (EOk.ty rfl x.m_bool (by decide +kernel)) (AOk.nil))))) (EOk.one (EOk.chain op_le op_le (vr 1) (vr 0) (vr 2))))))
theorem h_is_number (x : Fx K mg) : HasF P w K mg base "is_number" 1 ["thing", "least", "most"] F_is_number := hasF x.d_is_number sc_is_number (ok_is_number x) fun _ _ _ _ _ _ us hl => match us, hl with | [_, _, _], _ => rfl
def b_is_switch : C := seqC (ifC (orE (notE (opE gIsi [varE 0, cstE (.sym (.ty "tuple"))])) (orE (opE gNe [opE gLen [varE 0], cstE (.int 2)]) (notE (callE 3 F_is_number [opE gIx [varE 0, cstE (.int 1)], cstE (.int 0), opE gSub [varE 1, cstE (.int 1)]] [])))) (retC (cstE (.bl false))) (passC))
 (retC (callE 3 F_is_number [opE gIx [varE 0, cstE (.int 0)], cstE (.int 0), opE gSub [opE gIx [varE 0, cstE (.int 1)], cstE (.int 1)]] []))
def F_is_switch : List Vl → RF := runF 2 b_is_switch
theorem ok_is_switch (x : Fx K mg) (f : Addr) : BodyOk P w K mg base 1 N_is_switch "is_switch" s_is_switch f b_is_switch := fun cdv A outer s H E hr => SsOk.cons (SOk.ite (TWOk.pt (TWOk.or (TOk.not (TOk.val (EOk.isi x.m_isinstance (AOk.cons (vr 0) (AOk.cons (EOk.ty rfl x.m_tuple (by decide +kernel)) (AOk.nil)))))) (TWOk.or (TOk.ne hr.units (EOk.len x.m_len (AOk.cons (vr 0) (AOk.nil))) (EOk.int)) (TWOk.or1 (TOk.not (TOk.val (EOk.callH (h_is_number x) (hr.mono (by decide)) (AOk.cons (EOk.item (vr 0) (EOk.int)) (AOk.cons (EOk.int) (AOk.cons (EOk.sub (vr 1) (EOk.int)) (AOk.nil))))))))))) (SsOk.one (SOk.ret (EOk.bl))) (SsOk.nil))
 (SsOk.one (SOk.ret (EOk.callH (h_is_number x) (hr.mono (by decide)) (AOk.cons (EOk.item (vr 0) (EOk.int)) (AOk.cons (EOk.int) (AOk.cons (EOk.sub (EOk.item (vr 0) (EOk.int)) (EOk.int)) (AOk.nil)))))))
theorem h_is_switch (x : Fx K mg) : HasF P w K mg base "is_switch" 2 ["thing", "lanes"] F_is_switch := hasF x.d_is_switch sc_is_switch (ok_is_switch x) fun _ _ _ _ _ _ us hl => match us, hl with | [_, _], _ => rfl
def b_is_layer : C := seqC (ifC (orE (notE (opE gIsi [varE 0, cstE (.sym (.ty "list"))])) (notE (opE gAll [compE [5] (tgN 5) (srcE hSeq [varE 0]) (cstE (.bl true)) (callE 2 F_is_switch [varE 5, varE 1] [])]))) (retC (cstE (.bl false))) (passC))
 (seqC (asgC (tgN 2) (opE gAdd [compE [3, 4] (tgT 2 (tgsC (tgN 3) (tgsC (tgN 4) (tgsN)))) (srcE hSeq [varE 0]) (cstE (.bl true)) (frzE 3), compE [3, 4] (tgT 2 (tgsC (tgN 3) (tgsC (tgN 4) (tgsN)))) (srcE hSeq [varE 0]) (cstE (.bl true)) (frzE 4)]))
 (retC (andE (opE gEq [varE 0, opE gSort [varE 0]]) (opE gEq [opE gLenSet [varE 2], opE gLen [varE 2]]))))
def F_is_layer : List Vl → RF := runF 6 b_is_layer
theorem ok_is_layer (x : Fx K mg) (f : Addr) : BodyOk P w K mg base 2 N_is_layer "is_layer" s_is_layer f b_is_layer := fun cdv A outer s H E hr => SsOk.cons (SOk.ite (TWOk.pt (TWOk.or (TOk.not (TOk.val (EOk.isi x.m_isinstance (AOk.cons (vr 0) (AOk.cons (EOk.ty rfl x.m_list (by decide +kernel)) (AOk.nil)))))) (TWOk.or1 (TOk.not (TOk.val (EOk.all rfl x.m_all (AOk.cons (EOk.comp (own := [("one", 5)]) rfl sc_is_layer.nd (SrcOk.seq (vr 0)) (blkOk_by (by kernel_rfl)) (fun _ _ _ _ _ => gn 5 sc_is_layer.nd) (fun _ _ _ _ _ => CTOk.nil) (fun _ _ _ _ _ => EOk.callH (h_is_switch x) (hr.mono (by decide)) (AOk.cons (vr 5) (AOk.cons (vr 1) (AOk.nil))))) (AOk.nil)))))))) (SsOk.one (SOk.ret (EOk.bl))) (SsOk.nil))
 (SsOk.cons (st_ 2 sc_is_layer.nd (EOk.add (EOk.comp (own := [("low", 3), ("high", 4)]) rfl sc_is_layer.nd (SrcOk.seq (vr 0)) (blkOk_by (by kernel_rfl)) (fun _ _ _ _ _ => GVOk.tup rfl (GVsOk.cons (gn 3 sc_is_layer.nd) (GVsOk.cons (gn 4 sc_is_layer.nd) (GVsOk.nil)))) (fun _ _ _ _ _ => CTOk.nil) (fun _ _ _ _ _ => fz 3)) (EOk.comp (own := [("low", 3), ("high", 4)]) rfl sc_is_layer.nd (SrcOk.seq (vr 0)) (blkOk_by (by kernel_rfl)) (fun _ _ _ _ _ => GVOk.tup rfl (GVsOk.cons (gn 3 sc_is_layer.nd) (GVsOk.cons (gn 4 sc_is_layer.nd) (GVsOk.nil)))) (fun _ _ _ _ _ => CTOk.nil) (fun _ _ _ _ _ => fz 4))))
 (SsOk.one (SOk.ret (EOk.and (EOk.eq hr.units (vr 0) (EOk.sorted x.m_sorted (AOk.cons (vr 0) (AOk.nil)))) (EOk.one (EOk.eq hr.units (EOk.lenSet rfl x.m_len x.m_set (vr 2)) (EOk.len x.m_len (AOk.cons (vr 2) (AOk.nil)))))))))
theorem h_is_layer (x : Fx K mg) : HasF P w K mg base "is_layer" 3 ["thing", "lanes"] F_is_layer := hasF x.d_is_layer sc_is_layer (ok_is_layer x) fun _ _ _ _ _ _ us hl => match us, hl with | [_, _], _ => rfl
def b_need_net : C := seqC (ifC (notE (callE 3 F_is_number [varE 1, cstE (.int 1), cstE (.int 64)] [])) (rsC "NoSize") (passC))
 (seqC (ifC (orE (notE (opE gIsi [varE 0, cstE (.sym (.ty "list"))])) (opE gGt [opE gLen [varE 0], cstE (.int 40)])) (rsC "NoNet") (passC))
 (ifC (notE (opE gAll [compE [2] (tgN 2) (srcE hSeq [varE 0]) (cstE (.bl true)) (callE 2 F_is_layer [varE 2, varE 1] [])])) (rsC "NoNet") (passC)))
def F_need_net : List Vl → RF := runF 3 b_need_net
theorem ok_need_net (x : Fx K mg) (f : Addr) : BodyOk P w K mg base 3 N_need_net "need_net" s_need_net f b_need_net := fun cdv A outer s H E hr => SsOk.cons (SOk.ite (TOk.not (TOk.val (EOk.callH (h_is_number x) (hr.mono (by decide)) (AOk.cons (vr 1) (AOk.cons (EOk.int) (AOk.cons (EOk.gint x.g_MOST_LANES_pairings) (AOk.nil))))))) (SsOk.one (SOk.raiseC rfl x.e_NoSize)) (SsOk.nil))
 (SsOk.cons (SOk.ite (TWOk.pt (TWOk.or (TOk.not (TOk.val (EOk.isi x.m_isinstance (AOk.cons (vr 0) (AOk.cons (EOk.ty rfl x.m_list (by decide +kernel)) (AOk.nil)))))) (TWOk.or1 (TOk.gt (EOk.len x.m_len (AOk.cons (vr 0) (AOk.nil))) (EOk.gint x.g_MOST_LAYERS))))) (SsOk.one (SOk.raiseC rfl x.e_NoNet)) (SsOk.nil))
 (SsOk.one (SOk.ite (TOk.not (TOk.val (EOk.all rfl x.m_all (AOk.cons (EOk.comp (own := [("layer", 2)]) rfl sc_need_net.nd (SrcOk.seq (vr 0)) (blkOk_by (by kernel_rfl)) (fun _ _ _ _ _ => gn 2 sc_need_net.nd) (fun _ _ _ _ _ => CTOk.nil) (fun _ _ _ _ _ => EOk.callH (h_is_layer x) (hr.mono (by decide)) (AOk.cons (vr 2) (AOk.cons (vr 1) (AOk.nil))))) (AOk.nil))))) (SsOk.one (SOk.raiseC rfl x.e_NoNet)) (SsOk.nil))))
theorem h_need_net (x : Fx K mg) : HasF P w K mg base "need_net" 4 ["net", "lanes"] F_need_net := hasF x.d_need_net sc_need_net (ok_need_net x) fun _ _ _ _ _ _ us hl => match us, hl with | [_, _], _ => rfl
def b_exchanged_L0 : C := ifC (opE gEq [varE 4, cstE (.int 1)]) (swapC (opE gIx [varE 3, varE 6]) (opE gIx [varE 3, varE 5]) (tgIx 3 (varE 5)) (tgIx 3 (varE 6))) (passC)
def b_exchanged : C := seqC (asgC (tgN 3) (opE gList [varE 0]))
 (seqC (forC (tgT 2 (tgsC (tgT 2 (tgsC (tgN 5) (tgsC (tgN 6) (tgsN)))) (tgsC (tgN 4) (tgsN)))) (srcE hZip [frzE 1, frzE 2]) (b_exchanged_L0))
 (retC (takE 3)))
def F_exchanged : List Vl → RF := runF 7 b_exchanged
theorem ok_exchanged (x : Fx K mg) (f : Addr) : BodyOk P w K mg base 0 N_exchanged "exchanged" s_exchanged f b_exchanged := fun cdv A outer s H E hr => SsOk.cons (st_ 3 sc_exchanged.nd (EOk.list x.m_list (AOk.cons (vr 0) (AOk.nil))))
 (SsOk.cons (SOk.for_ (passes_of rfl) rfl (SrcOk.zip rfl x.m_zip (AOk.cons (fz 1) (AOk.cons (fz 2) (AOk.nil)))) (GOk.tup rfl (GsOk.cons (GOk.tup rfl (GsOk.cons (tn 5 sc_exchanged.nd) (GsOk.cons (tn 6 sc_exchanged.nd) (GsOk.nil)))) (GsOk.cons (tn 4 sc_exchanged.nd) (GsOk.nil)))) (SsOk.one (SOk.ite (TOk.eq hr.units (vr 4) (EOk.int)) (SsOk.one (SOk.swap rfl (EOk.item (vr 3) (vr 6)) (EOk.item (vr 3) (vr 5)) (FOk.sub (i := 3) (vr 5)) (FOk.sub (i := 3) (vr 6)))) (SsOk.nil))))
 (SsOk.one (SOk.ret (tk 3))))
theorem h_exchanged (x : Fx K mg) : HasF P w K mg base "exchanged" 1 ["things", "layer", "some"] F_exchanged := hasF x.d_exchanged sc_exchanged (ok_exchanged x) fun _ _ _ _ _ _ us hl => match us, hl with | [_, _, _], _ => rfl
def b_compared_L0 : C := seqC (asgC (tgN 4) (compE [5, 6] (tgT 2 (tgsC (tgN 5) (tgsC (tgN 6) (tgsN)))) (srcE hSeq [varE 3]) (cstE (.bl true)) (opE gInt [opE gGt [opE gIx [varE 1, varE 5], opE gIx [varE 1, varE 6]]])))
 (aliasC 2 4 (asgC (tgN 1) (callE 3 F_exchanged [varE 1, varE 3, varE 4] [])))
def b_compared : C := seqC (asgC (tgN 2) (opE gLst []))
 (seqC (forC (tgN 3) (srcE hSeq [frzE 0]) (b_compared_L0))
 (retC (opE gTup [takE 2, opE gList [varE 1]])))
def F_compared : List Vl → RF := runF 7 b_compared
theorem ok_compared (x : Fx K mg) (f : Addr) : BodyOk P w K mg base 1 N_compared "compared" s_compared f b_compared := fun cdv A outer s H E hr => SsOk.cons (st_ 2 sc_compared.nd (EOk.lst (AOk.nil)))
 (SsOk.cons (SOk.for_ (passes_of rfl) rfl (SrcOk.seq (fz 0)) (tn 3 sc_compared.nd) (SsOk.cons (SOk.setComp (i := 4) (own := [("low", 5), ("high", 6)]) rfl sc_compared.nd rfl rfl (sw_true rfl rfl rfl (by decide +kernel)) (SrcOk.seq (vr 3)) (blkOk_by (by kernel_rfl)) (fun _ _ _ _ _ => GVOk.tup rfl (GVsOk.cons (gn 5 sc_compared.nd) (GVsOk.cons (gn 6 sc_compared.nd) (GVsOk.nil)))) (fun _ _ _ _ _ => CTOk.nil) (fun _ _ _ _ _ => EOk.int_ x.m_int (AOk.cons (EOk.gt (EOk.item (vr 1) (vr 5)) (EOk.item (vr 1) (vr 6))) (AOk.nil))))
 (SsOk.alias (j := 2) (i := 4) (SsOk.one (st_ 1 sc_compared.nd (EOk.callH (h_exchanged x) (hr.mono (by decide)) (AOk.cons (vr 1) (AOk.cons (vr 3) (AOk.cons (vr 4) (AOk.nil))))))))))
 (SsOk.one (SOk.ret (EOk.tup (AOk.cons (tk 2) (AOk.cons (EOk.list x.m_list (AOk.cons (vr 1) (AOk.nil))) (AOk.nil)))))))
theorem h_compared (x : Fx K mg) : HasF P w K mg base "compared" 2 ["net", "things"] F_compared := hasF x.d_compared sc_compared (ok_compared x) fun _ _ _ _ _ _ us hl => match us, hl with | [_, _], _ => rfl
def b_rises : C := retC (opE gAll [compE [1, 2] (tgT 2 (tgsC (tgN 1) (tgsC (tgN 2) (tgsN)))) (srcE hZip [varE 0, opE gSlL [varE 0, cstE (.int 1)]]) (cstE (.bl true)) (opE gLe [varE 1, varE 2])])
def F_rises : List Vl → RF := runF 3 b_rises
theorem ok_rises (x : Fx K mg) (f : Addr) : BodyOk P w K mg base 0 N_rises "rises" s_rises f b_rises := fun cdv A outer s H E hr => SsOk.one (SOk.ret (EOk.all rfl x.m_all (AOk.cons (EOk.comp (own := [("one", 1), ("other", 2)]) rfl sc_rises.nd (SrcOk.zip rfl x.m_zip (AOk.cons (vr 0) (AOk.cons (EOk.slL (vr 0) (EOk.int)) (AOk.nil)))) (blkOk_by (by kernel_rfl)) (fun _ _ _ _ _ => GVOk.tup rfl (GVsOk.cons (gn 1 sc_rises.nd) (GVsOk.cons (gn 2 sc_rises.nd) (GVsOk.nil)))) (fun _ _ _ _ _ => CTOk.nil) (fun _ _ _ _ _ => EOk.le (vr 1) (vr 2))) (AOk.nil))))
theorem h_rises (x : Fx K mg) : HasF P w K mg base "rises" 1 ["things"] F_rises := hasF x.d_rises sc_rises (ok_rises x) fun _ _ _ _ _ _ us hl => match us, hl with | [_], _ => rfl
def b_unsorted_row_L0 : C := seqC (asgC (tgN 3) (compE [4] (tgN 4) (srcE hRng1 [varE 1]) (cstE (.bl true)) (opE gAnd [opE gShr [varE 2, varE 4], cstE (.int 1)])))
 (ifC (notE (callE 1 F_rises [opE gIx [callE 2 F_compared [varE 0, varE 3] [], cstE (.int 1)]] [])) (retC (takE 3)) (passC))
def b_unsorted_row : C := seqC (ifC (orE (notE (opE gIsi [varE 1, cstE (.sym (.ty "int"))])) (orE (opE gIsi [varE 1, cstE (.sym (.ty "bool"))]) (notE (chainE (fun i j => decide (i ≤ j)) (fun i j => decide (i ≤ j)) (cstE (.int 1)) (varE 1) (cstE (.int 8)))))) (rsC "NoSize") (passC))
 (seqC (expC (callE 2 F_need_net [varE 0, varE 1] []))
 (seqC (forC (tgN 2) (srcE hRng1 [opE gShl [cstE (.int 1), varE 1]]) (b_unsorted_row_L0))
 (retC (cstE .non))))
def F_unsorted_row : List Vl → RF := runF 5 b_unsorted_row
theorem ok_unsorted_row (x : Fx K mg) (f : Addr) : BodyOk P w K mg base 4 N_unsorted_row "unsorted_row" s_unsorted_row f b_unsorted_row := fun cdv A outer s H E hr => SsOk.cons (SOk.ite (TWOk.pt (TWOk.or (TOk.not (TOk.val (EOk.isi x.m_isinstance (AOk.cons (vr 1) (AOk.cons (EOk.ty rfl x.m_int (by decide +kernel)) (AOk.nil)))))) (TWOk.or (TOk.val (EOk.isi x.m_isinstance (AOk.cons (vr 1) (AOk.cons (EOk.ty rfl x.m_bool (by decide +kernel)) (AOk.nil))))) (TWOk.or1 (TOk.not (TOk.chain op_le op_le (EOk.int) (vr 1) (EOk.gint x.g_MOST_LANES_sorters))))))) (SsOk.one (SOk.raiseC rfl x.e_NoSize)) (SsOk.nil))
 (SsOk.cons (SOk.exp (EOk.callH (h_need_net x) (hr.mono (by decide)) (AOk.cons (vr 0) (AOk.cons (vr 1) (AOk.nil)))))
 (SsOk.cons (SOk.for_ (passes_of rfl) rfl (SrcOk.rng1 rfl x.m_range (AOk.cons (EOk.shl (EOk.int) (vr 1)) (AOk.nil))) (tn 2 sc_unsorted_row.nd) (SsOk.cons (SOk.setComp (i := 3) (own := [("lane", 4)]) rfl sc_unsorted_row.nd rfl rfl (sw_true rfl rfl rfl (by decide +kernel)) (SrcOk.rng1 rfl x.m_range (AOk.cons (vr 1) (AOk.nil))) (blkOk_by (by kernel_rfl)) (fun _ _ _ _ _ => gn 4 sc_unsorted_row.nd) (fun _ _ _ _ _ => CTOk.nil) (fun _ _ _ _ _ => EOk.and_ (EOk.shr (vr 2) (vr 4)) (EOk.int)))
 (SsOk.one (SOk.ite (TOk.not (TOk.val (EOk.callH (h_rises x) (hr.mono (by decide)) (AOk.cons (EOk.item (EOk.callH (h_compared x) (hr.mono (by decide)) (AOk.cons (vr 0) (AOk.cons (vr 3) (AOk.nil)))) (EOk.int)) (AOk.nil))))) (SsOk.one (SOk.ret (tk 3))) (SsOk.nil)))))
 (SsOk.one (SOk.ret (EOk.non)))))
theorem h_unsorted_row (x : Fx K mg) : HasF P w K mg base "unsorted_row" 5 ["net", "lanes"] F_unsorted_row := hasF x.d_unsorted_row sc_unsorted_row (ok_unsorted_row x) fun _ _ _ _ _ _ us hl => match us, hl with | [_, _], _ => rfl
def b__law_mixed : C := seqC (asgC (tgN 1) (opE gMod [opE gMul [opE gAdd [varE 0, cstE (.int 7919)], cstE (.int 48271)], cstE (.int 2147483647)]))
 (seqC (asgC (tgN 1) (opE gMod [opE gAdd [opE gMul [varE 1, opE gAdd [opE gMod [varE 1, cstE (.int 65537)], cstE (.int 11)]], cstE (.int 131)], cstE (.int 2147483647)]))
 (retC (opE gMod [opE gMul [varE 1, opE gAdd [opE gMod [varE 1, cstE (.int 30011)], cstE (.int 7)]], cstE (.int 2147483647)])))
def F__law_mixed : List Vl → RF := runF 2 b__law_mixed
theorem ok__law_mixed (x : Fx K mg) (f : Addr) : BodyOk P w K mg base 0 N__law_mixed "_law_mixed" s__law_mixed f b__law_mixed := fun cdv A outer s H E hr => SsOk.cons (st_ 1 sc__law_mixed.nd (EOk.mod (EOk.mul (EOk.add (vr 0) (EOk.int)) (EOk.int)) (EOk.int)))
 (SsOk.cons (st_ 1 sc__law_mixed.nd (EOk.mod (EOk.add (EOk.mul (vr 1) (EOk.add (EOk.mod (vr 1) (EOk.int)) (EOk.int))) (EOk.int)) (EOk.int)))
 (SsOk.one (SOk.ret (EOk.mod (EOk.mul (vr 1) (EOk.add (EOk.mod (vr 1) (EOk.int)) (EOk.int))) (EOk.int)))))
theorem h__law_mixed (x : Fx K mg) : HasF P w K mg base "_law_mixed" 1 ["_law_x"] F__law_mixed := hasF x.d__law_mixed sc__law_mixed (ok__law_mixed x) fun _ _ _ _ _ _ us hl => match us, hl with | [_], _ => rfl
def b__law_begun : C := retC (dispE [.inr "cells", .inr "count"] [opE gAdd [opE gLst [frzE 1], opE gList [varE 0]], frzE 1])
def F__law_begun : List Vl → RF := runF 2 b__law_begun
theorem ok__law_begun (x : Fx K mg) (f : Addr) : BodyOk P w K mg base 0 N__law_begun "_law_begun" s__law_begun f b__law_begun := fun cdv A outer s H E hr => SsOk.one (SOk.ret (EOk.disp (DOk.str (EOk.add (EOk.lst (AOk.cons (fz 1) (AOk.nil))) (EOk.list x.m_list (AOk.cons (vr 0) (AOk.nil)))) (DOk.str (fz 1) (DOk.nil)))))
theorem h__law_begun (x : Fx K mg) : HasF P w K mg base "_law_begun" 1 ["_law_script", "_law_salt"] F__law_begun := hasF x.d__law_begun sc__law_begun (ok__law_begun x) fun _ _ _ _ _ _ us hl => match us, hl with | [_, _], _ => rfl
def b__law_next : C := seqC (expC (mutE 0 isD [opE gAdd [opE gDgt [varE 0, cstE (.str "count")], cstE (.int 1)], cstE (.str "count")] muPut))
 (seqC (asgC (tgN 1) (dgFE 0 "cells"))
 (retC (callE 1 F__law_mixed [opE gAdd [opE gIx [varE 1, opE gMod [opE gDgt [varE 0, cstE (.str "count")], opE gLen [varE 1]]], opE gMul [cstE (.int 104729), opE gDgt [varE 0, cstE (.str "count")]]]] [])))
def F__law_next : List Vl → RIO := runIO 2 b__law_next
theorem ok__law_next (x : Fx K mg) (f : Addr) : BodyOk P w K mg base 1 N__law_next "_law_next" s__law_next f b__law_next := fun cdv A outer s H E hr => SsOk.cons (SOk.dput (i := 0) hr.units (EOk.add (EOk.dgt hr.units (vr 0) (EOk.str)) (EOk.int)) (EOk.str))
 (SsOk.cons (st_ 1 sc__law_next.nd (EOk.dgF hr.units (i := 0)))
 (SsOk.one (SOk.ret (EOk.callH (h__law_mixed x) (hr.mono (by decide)) (AOk.cons (EOk.add (EOk.item (vr 1) (EOk.mod (EOk.dgt hr.units (vr 0) (EOk.str)) (EOk.len x.m_len (AOk.cons (vr 1) (AOk.nil))))) (EOk.mul (EOk.int) (EOk.dgt hr.units (vr 0) (EOk.str)))) (AOk.nil))))))
theorem h__law_next (x : Fx K mg) : HasIO P w K mg base "_law_next" 2 ["_law_s"] F__law_next := hasIO x.d__law_next sc__law_next (ok__law_next x) fun _ _ _ _ _ _ us hl => match us, hl with | [_], _ => rfl
def b__law_pick : C := retC (ixTakeE 1 (opE gMod [callIOE 0 1 F__law_next [], opE gLen [varE 1]]))
def F__law_pick : List Vl → RIO := runIO 2 b__law_pick
theorem ok__law_pick (x : Fx K mg) (f : Addr) : BodyOk P w K mg base 2 N__law_pick "_law_pick" s__law_pick f b__law_pick := fun cdv A outer s H E hr => SsOk.one (SOk.ret (EOk.ixT (i := 1) (EOk.mod (EOk.callIO (i := 0) (h__law_next x) (hr.mono (by decide)) (AOk.nil)) (EOk.len x.m_len (AOk.cons (vr 1) (AOk.nil))))))
theorem h__law_pick (x : Fx K mg) : HasIO P w K mg base "_law_pick" 3 ["_law_s", "_law_some"] F__law_pick := hasIO x.d__law_pick sc__law_pick (ok__law_pick x) fun _ _ _ _ _ _ us hl => match us, hl with | [_, _], _ => rfl
def b__law_walked_L0 : C := ifC (opE gGt [opE gIx [varE 4, varE 5], opE gIx [varE 4, varE 6]]) (swapC (opE gIx [varE 4, varE 6]) (opE gIx [varE 4, varE 5]) (tgIx 4 (varE 5)) (tgIx 4 (varE 6))) (passC)
def b__law_walked_L1 : C := seqC (asgC (tgN 4) (opE gList [opE gIx [varE 2, opE gNeg [cstE (.int 1)]]]))
 (seqC (forC (tgT 2 (tgsC (tgN 5) (tgsC (tgN 6) (tgsN)))) (srcE hSeq [frzE 3]) (b__law_walked_L0))
 (expC (mutE 2 isL [takE 4] muApp)))
def b__law_walked : C := seqC (asgC (tgN 2) (opE gLst [opE gList [varE 1]]))
 (seqC (forC (tgN 3) (srcE hSeq [frzE 0]) (b__law_walked_L1))
 (retC (takE 2)))
def F__law_walked : List Vl → RF := runF 7 b__law_walked
theorem ok__law_walked (x : Fx K mg) (f : Addr) : BodyOk P w K mg base 0 N__law_walked "_law_walked" s__law_walked f b__law_walked := fun cdv A outer s H E hr => SsOk.cons (st_ 2 sc__law_walked.nd (EOk.lst (AOk.cons (EOk.list x.m_list (AOk.cons (vr 1) (AOk.nil))) (AOk.nil))))
 (SsOk.cons (SOk.for_ (passes_of rfl) rfl (SrcOk.seq (fz 0)) (tn 3 sc__law_walked.nd) (SsOk.cons (st_ 4 sc__law_walked.nd (EOk.list x.m_list (AOk.cons (EOk.item (vr 2) (EOk.neg (EOk.int))) (AOk.nil))))
 (SsOk.cons (SOk.for_ (passes_of rfl) rfl (SrcOk.seq (fz 3)) (GOk.tup rfl (GsOk.cons (tn 5 sc__law_walked.nd) (GsOk.cons (tn 6 sc__law_walked.nd) (GsOk.nil)))) (SsOk.one (SOk.ite (TOk.gt (EOk.item (vr 4) (vr 5)) (EOk.item (vr 4) (vr 6))) (SsOk.one (SOk.swap rfl (EOk.item (vr 4) (vr 6)) (EOk.item (vr 4) (vr 5)) (FOk.sub (i := 4) (vr 5)) (FOk.sub (i := 4) (vr 6)))) (SsOk.nil))))
 (SsOk.one (SOk.exp (EOk.meth (i := 2) rfl (by first | exact Or.inl rfl | exact Or.inr (Or.inl rfl) | exact Or.inr (Or.inr rfl)) (by decide) (by decide) PySem.F.slot_list_append PySem.F.type_list_append mt_append gmu_app (AOk.cons (tk 4) (AOk.nil))))))))
 (SsOk.one (SOk.ret (tk 2))))
theorem h__law_walked (x : Fx K mg) : HasF P w K mg base "_law_walked" 1 ["_law_net_here", "_law_things"] F__law_walked := hasF x.d__law_walked sc__law_walked (ok__law_walked x) fun _ _ _ _ _ _ us hl => match us, hl with | [_, _], _ => rfl
def b__law_layer_L0 : C := seqC (asgC (tgN 4) (mutE 2 isL [opE gMod [callIOE 0 1 F__law_next [], opE gLen [varE 2]]] muPopAt))
 (seqC (asgC (tgN 5) (mutE 2 isL [opE gMod [callIOE 0 1 F__law_next [], opE gLen [varE 2]]] muPopAt))
 (expC (mutE 3 isL [opE gTup [opE gMin2 [varE 4, varE 5], opE gMax2 [varE 4, varE 5]]] muApp)))
def b__law_layer : C := seqC (asgC (tgN 2) (opE gLR1 [varE 1]))
 (seqC (asgC (tgN 3) (opE gLst []))
 (seqC (whileC (andE (opE gGt [opE gLen [varE 2], cstE (.int 1)]) (opE gGt [opE gMod [callIOE 0 1 F__law_next [], cstE (.int 5)], cstE (.int 0)])) (b__law_layer_L0) 10)
 (retC (opE gSort [varE 3]))))
def F__law_layer : List Vl → RIO := runIO 6 b__law_layer
theorem ok__law_layer (x : Fx K mg) (f : Addr) : BodyOk P w K mg base 2 N__law_layer "_law_layer" s__law_layer f b__law_layer := fun cdv A outer s H E hr => SsOk.cons (st_ 2 sc__law_layer.nd (EOk.listRng1 rfl x.m_list x.m_range (vr 1)))
 (SsOk.cons (st_ 3 sc__law_layer.nd (EOk.lst (AOk.nil)))
 (SsOk.cons (SOk.while_ 10 (passes_of rfl) (TWOk.pt (TWOk.and (TOk.gt (EOk.len x.m_len (AOk.cons (vr 2) (AOk.nil))) (EOk.int)) (TWOk.and1 (TOk.gt (EOk.mod (EOk.callIO (i := 0) (h__law_next x) (hr.mono (by decide)) (AOk.nil)) (EOk.int)) (EOk.int))))) (SsOk.cons (st_ 4 sc__law_layer.nd (EOk.meth (i := 2) rfl (by first | exact Or.inl rfl | exact Or.inr (Or.inl rfl) | exact Or.inr (Or.inr rfl)) (by decide) (by decide) PySem.F.slot_list_pop PySem.F.type_list_pop mt_popAt gmu_popAt (AOk.cons (EOk.mod (EOk.callIO (i := 0) (h__law_next x) (hr.mono (by decide)) (AOk.nil)) (EOk.len x.m_len (AOk.cons (vr 2) (AOk.nil)))) (AOk.nil))))
 (SsOk.cons (st_ 5 sc__law_layer.nd (EOk.meth (i := 2) rfl (by first | exact Or.inl rfl | exact Or.inr (Or.inl rfl) | exact Or.inr (Or.inr rfl)) (by decide) (by decide) PySem.F.slot_list_pop PySem.F.type_list_pop mt_popAt gmu_popAt (AOk.cons (EOk.mod (EOk.callIO (i := 0) (h__law_next x) (hr.mono (by decide)) (AOk.nil)) (EOk.len x.m_len (AOk.cons (vr 2) (AOk.nil)))) (AOk.nil))))
 (SsOk.one (SOk.exp (EOk.meth (i := 3) rfl (by first | exact Or.inl rfl | exact Or.inr (Or.inl rfl) | exact Or.inr (Or.inr rfl)) (by decide) (by decide) PySem.F.slot_list_append PySem.F.type_list_append mt_append gmu_app (AOk.cons (EOk.tup (AOk.cons (EOk.min2 rfl x.m_min (AOk.cons (vr 4) (AOk.cons (vr 5) (AOk.nil)))) (AOk.cons (EOk.max2 rfl x.m_max (AOk.cons (vr 4) (AOk.cons (vr 5) (AOk.nil)))) (AOk.nil)))) (AOk.nil))))))))
 (SsOk.one (SOk.ret (EOk.sorted x.m_sorted (AOk.cons (vr 3) (AOk.nil)))))))
theorem h__law_layer (x : Fx K mg) : HasIO P w K mg base "_law_layer" 3 ["_law_s", "_law_lanes"] F__law_layer := hasIO x.d__law_layer sc__law_layer (ok__law_layer x) fun _ _ _ _ _ _ us hl => match us, hl with | [_, _], _ => rfl
def b__law_neighbours : C := retC (compE [1] (tgN 1) (srcE hRng1 [varE 0]) (cstE (.bl true)) (compE [2] (tgN 2) (srcE hRngP [opE gMod [varE 1, cstE (.int 2)], opE gSub [varE 0, cstE (.int 1)], cstE (.int 2)]) (cstE (.bl true)) (opE gTup [frzE 2, opE gAdd [varE 2, cstE (.int 1)]])))
def F__law_neighbours : List Vl → RF := runF 3 b__law_neighbours
theorem ok__law_neighbours (x : Fx K mg) (f : Addr) : BodyOk P w K mg base 0 N__law_neighbours "_law_neighbours" s__law_neighbours f b__law_neighbours := fun cdv A outer s H E hr => SsOk.one (SOk.ret (EOk.comp (own := [("_law_turn", 1)]) rfl sc__law_neighbours.nd (SrcOk.rng1 rfl x.m_range (AOk.cons (vr 0) (AOk.nil))) (blkOk_by (by kernel_rfl)) (fun _ _ _ _ _ => gn 1 sc__law_neighbours.nd) (fun _ _ _ _ _ => CTOk.nil) (fun _ _ _ _ _ => EOk.comp (own := [("_law_lane", 2)]) rfl sc__law_neighbours.nd (SrcOk.rngP rfl x.m_range (AOk.cons (EOk.mod (vr 1) (EOk.int)) (AOk.cons (EOk.sub (vr 0) (EOk.int)) (AOk.cons (EOk.int) (AOk.nil))))) (blkOk_by (by kernel_rfl)) (fun _ _ _ _ _ => gn 2 sc__law_neighbours.nd) (fun _ _ _ _ _ => CTOk.nil) (fun _ _ _ _ _ => EOk.tup (AOk.cons (fz 2) (AOk.cons (EOk.add (vr 2) (EOk.int)) (AOk.nil)))))))
theorem h__law_neighbours (x : Fx K mg) : HasF P w K mg base "_law_neighbours" 1 ["_law_lanes"] F__law_neighbours := hasF x.d__law_neighbours sc__law_neighbours (ok__law_neighbours x) fun _ _ _ _ _ _ us hl => match us, hl with | [_], _ => rfl
def b__law_net : C := seqC (asgC (tgN 2) (opE gMod [callIOE 0 1 F__law_next [], cstE (.int 5)]))
 (seqC (asgC (tgN 3) (compE [6] (tgN 6) (srcE hRng1 [opE gMod [callIOE 0 1 F__law_next [], cstE (.int 8)]]) (cstE (.bl true)) (callIOE 0 2 F__law_layer [frzE 1])))
 (seqC (ifC (opE gGt [varE 2, cstE (.int 2)]) (retC (takE 3)) (passC))
 (seqC (asgC (tgN 4) (opE gAdd [opE gSlH [takE 3, cstE (.int 2)], callE 1 F__law_neighbours [varE 1] []]))
 (seqC (asgC (tgN 5) (opE gMod [callIOE 0 1 F__law_next [], opE gLen [varE 4]]))
 (seqC (ifC (andE (opE gGt [varE 2, cstE (.int 0)]) (opE gNe [opE gIx [varE 4, varE 5], opE gLst []])) (expC (mutPXE (plI (plN 4) (varE 5)) isL (opE gMod [callIOE 0 1 F__law_next [], opE gLen [opE gIx [varE 4, varE 5]]]) muPopAt)) (passC))
 (retC (takE 4)))))))
def F__law_net : List Vl → RIO := runIO 7 b__law_net
theorem ok__law_net (x : Fx K mg) (f : Addr) : BodyOk P w K mg base 3 N__law_net "_law_net" s__law_net f b__law_net := fun cdv A outer s H E hr => SsOk.cons (st_ 2 sc__law_net.nd (EOk.mod (EOk.callIO (i := 0) (h__law_next x) (hr.mono (by decide)) (AOk.nil)) (EOk.int)))
 (SsOk.cons (SOk.setComp (i := 3) (own := [("_law_layer_here", 6)]) rfl sc__law_net.nd rfl rfl (sw_true rfl rfl rfl (by decide +kernel)) (SrcOk.rng1 rfl x.m_range (AOk.cons (EOk.mod (EOk.callIO (i := 0) (h__law_next x) (hr.mono (by decide)) (AOk.nil)) (EOk.int)) (AOk.nil))) (blkOk_by (by kernel_rfl)) (fun _ _ _ _ _ => gn 6 sc__law_net.nd) (fun _ _ _ _ _ => CTOk.nil) (fun _ _ _ _ _ => EOk.callIO (i := 0) (h__law_layer x) (hr.mono (by decide)) (AOk.cons (fz 1) (AOk.nil))))
 (SsOk.cons (SOk.ite (TOk.gt (vr 2) (EOk.int)) (SsOk.one (SOk.ret (tk 3))) (SsOk.nil))
 (SsOk.cons (st_ 4 sc__law_net.nd (EOk.add (EOk.slH (tk 3) (EOk.int)) (EOk.callH (h__law_neighbours x) (hr.mono (by decide)) (AOk.cons (vr 1) (AOk.nil)))))
 (SsOk.cons (st_ 5 sc__law_net.nd (EOk.mod (EOk.callIO (i := 0) (h__law_next x) (hr.mono (by decide)) (AOk.nil)) (EOk.len x.m_len (AOk.cons (vr 4) (AOk.nil)))))
 (SsOk.cons (SOk.ite (TWOk.pt (TWOk.and (TOk.gt (vr 2) (EOk.int)) (TWOk.and1 (TOk.ne hr.units (EOk.item (vr 4) (vr 5)) (EOk.lst (AOk.nil)))))) (SsOk.one (SOk.exp (EOk.methPX (PlOk.ix (PlOk.name (i := 4)) (vr 5)) PySem.F.slot_list_pop PySem.F.type_list_pop mt_popAt gmu_popAt (AOk.cons (EOk.mod (EOk.callIO (i := 0) (h__law_next x) (hr.mono (by decide)) (AOk.nil)) (EOk.len x.m_len (AOk.cons (EOk.item (vr 4) (vr 5)) (AOk.nil)))) (AOk.nil))))) (SsOk.nil))
 (SsOk.one (SOk.ret (tk 4))))))))
theorem h__law_net (x : Fx K mg) : HasIO P w K mg base "_law_net" 4 ["_law_s", "_law_lanes"] F__law_net := hasIO x.d__law_net sc__law_net (ok__law_net x) fun _ _ _ _ _ _ us hl => match us, hl with | [_, _], _ => rfl
def b__law_first_L0 : C := expC (mutE 3 isL [opE gMod [opE gDiv [varE 2, opE gShl [cstE (.int 1), varE 4]], cstE (.int 2)]] muApp)
def b__law_first_L1 : C := seqC (asgC (tgN 3) (opE gLst []))
 (seqC (forC (tgN 4) (srcE hRng1 [varE 1]) (b__law_first_L0))
 (seqC (asgC (tgN 5) (opE gIx [callE 2 F__law_walked [varE 0, varE 3] [], opE gNeg [cstE (.int 1)]]))
 (ifC (opE gNe [compE [4] (tgN 4) (srcE hRng2 [cstE (.int 1), varE 1]) (opE gGt [opE gIx [varE 5, opE gSub [varE 4, cstE (.int 1)]], opE gIx [varE 5, varE 4]]) (frzE 4), opE gLst []]) (retC (takE 3)) (passC))))
def b__law_first : C := seqC (forC (tgN 2) (srcE hRng1 [opE gShl [cstE (.int 1), varE 1]]) (b__law_first_L1))
 (retC (cstE .non))
def F__law_first : List Vl → RF := runF 6 b__law_first
theorem ok__law_first (x : Fx K mg) (f : Addr) : BodyOk P w K mg base 1 N__law_first "_law_first" s__law_first f b__law_first := fun cdv A outer s H E hr => SsOk.cons (SOk.for_ (passes_of rfl) rfl (SrcOk.rng1 rfl x.m_range (AOk.cons (EOk.shl (EOk.int) (vr 1)) (AOk.nil))) (tn 2 sc__law_first.nd) (SsOk.cons (st_ 3 sc__law_first.nd (EOk.lst (AOk.nil)))
 (SsOk.cons (SOk.for_ (passes_of rfl) rfl (SrcOk.rng1 rfl x.m_range (AOk.cons (vr 1) (AOk.nil))) (tn 4 sc__law_first.nd) (SsOk.one (SOk.exp (EOk.meth (i := 3) rfl (by first | exact Or.inl rfl | exact Or.inr (Or.inl rfl) | exact Or.inr (Or.inr rfl)) (by decide) (by decide) PySem.F.slot_list_append PySem.F.type_list_append mt_append gmu_app (AOk.cons (EOk.mod (EOk.div (vr 2) (EOk.shl (EOk.int) (vr 4))) (EOk.int)) (AOk.nil))))))
 (SsOk.cons (st_ 5 sc__law_first.nd (EOk.item (EOk.callH (h__law_walked x) (hr.mono (by decide)) (AOk.cons (vr 0) (AOk.cons (vr 3) (AOk.nil)))) (EOk.neg (EOk.int))))
 (SsOk.one (SOk.ite (TOk.ne hr.units (EOk.comp (own := [("_law_lane", 4)]) rfl sc__law_first.nd (SrcOk.rng2 rfl x.m_range (AOk.cons (EOk.int) (AOk.cons (vr 1) (AOk.nil)))) (blkOk_by (by kernel_rfl)) (fun _ _ _ _ _ => gn 4 sc__law_first.nd) (fun _ _ _ _ _ => CTOk.one (TOk.gt (EOk.item (vr 5) (EOk.sub (vr 4) (EOk.int))) (EOk.item (vr 5) (vr 4)))) (fun _ _ _ _ _ => fz 4)) (EOk.lst (AOk.nil))) (SsOk.one (SOk.ret (tk 3))) (SsOk.nil)))))))
 (SsOk.one (SOk.ret (EOk.non)))
theorem h__law_first (x : Fx K mg) : HasF P w K mg base "_law_first" 2 ["_law_net_here", "_law_lanes"] F__law_first := hasF x.d__law_first sc__law_first (ok__law_first x) fun _ _ _ _ _ _ us hl => match us, hl with | [_, _], _ => rfl
def b_law_L0 : C := seqC (asgC (tgN 3) (callIOE 1 2 F__law_pick [opE gLst [cstE (.int 1), cstE (.int 2), cstE (.int 3), cstE (.int 3), cstE (.int 4), cstE (.int 4), cstE (.int 5), cstE (.int 5), cstE (.int 6), cstE (.int 6), cstE (.int 7), cstE (.int 8)]]))
 (seqC (asgC (tgN 4) (callIOE 1 2 F__law_net [frzE 3]))
 (seqC (asgC (tgN 5) (compE [8] (tgN 8) (srcE hSeq [frzE 4]) (cstE (.bl true)) (opE gList [varE 8])))
 (seqC (asgC (tgN 6) (callE 2 F__law_first [varE 5, varE 3] []))
 (seqC (asgC (tgN 7) (callE 2 F_unsorted_row [frzE 4, varE 3] []))
 (seqC (ifC (orE (opE gNe [varE 7, varE 6]) (opE gNe [frzE 4, varE 5])) (retC (cstE (.bl false))) (passC))
 (seqC (ifC (opE gNotN [varE 7]) (seqC (ifC (orE (notE (opE gIsi [varE 7, cstE (.sym (.ty "list"))])) (opE gNe [compE [9] (tgN 9) (srcE hSeq [varE 7]) (opE gIsi [varE 9, cstE (.sym (.ty "bool"))]) (frzE 9), opE gLst []])) (retC (cstE (.bl false))) (passC))
 (expC (mutE 7 isL [cstE (.int 7)] muApp))) (passC))
 (ifC (opE gNe [callE 2 F_unsorted_row [frzE 4, varE 3] [], varE 6]) (retC (cstE (.bl false))) (passC))))))))
def b_law : C := seqC (asgC (tgN 1) (callE 2 F__law_begun [varE 0, cstE (.int 5)] []))
 (seqC (forC (tgN 2) (srcE hRng1 [opE gAdd [cstE (.int 1), opE gMin2 [cstE (.int 2), opE gDiv [opE gLen [varE 0], cstE (.int 20)]]]]) (b_law_L0))
 (retC (cstE (.bl true))))
def F_law : List Vl → RF := runF 10 b_law
theorem ok_law (x : Fx K mg) (f : Addr) : BodyOk P w K mg base 5 N_law "law" s_law f b_law := fun cdv A outer s H E hr => SsOk.cons (st_ 1 sc_law.nd (EOk.callH (h__law_begun x) (hr.mono (by decide)) (AOk.cons (vr 0) (AOk.cons (EOk.int) (AOk.nil)))))
 (SsOk.cons (SOk.for_ (passes_of rfl) rfl (SrcOk.rng1 rfl x.m_range (AOk.cons (EOk.add (EOk.int) (EOk.min2 rfl x.m_min (AOk.cons (EOk.int) (AOk.cons (EOk.div (EOk.len x.m_len (AOk.cons (vr 0) (AOk.nil))) (EOk.int)) (AOk.nil))))) (AOk.nil))) (tn 2 sc_law.nd) (SsOk.cons (st_ 3 sc_law.nd (EOk.callIO (i := 1) (h__law_pick x) (hr.mono (by decide)) (AOk.cons (EOk.lst (AOk.cons (EOk.int) (AOk.cons (EOk.int) (AOk.cons (EOk.int) (AOk.cons (EOk.int) (AOk.cons (EOk.int) (AOk.cons (EOk.int) (AOk.cons (EOk.int) (AOk.cons (EOk.int) (AOk.cons (EOk.int) (AOk.cons (EOk.int) (AOk.cons (EOk.int) (AOk.cons (EOk.int) (AOk.nil)))))))))))))) (AOk.nil))))
 (SsOk.cons (st_ 4 sc_law.nd (EOk.callIO (i := 1) (h__law_net x) (hr.mono (by decide)) (AOk.cons (fz 3) (AOk.nil))))
 (SsOk.cons (SOk.setComp (i := 5) (own := [("_law_layer_here", 8)]) rfl sc_law.nd rfl rfl (sw_true rfl rfl rfl (by decide +kernel)) (SrcOk.seq (fz 4)) (blkOk_by (by kernel_rfl)) (fun _ _ _ _ _ => gn 8 sc_law.nd) (fun _ _ _ _ _ => CTOk.nil) (fun _ _ _ _ _ => EOk.list x.m_list (AOk.cons (vr 8) (AOk.nil))))
 (SsOk.cons (st_ 6 sc_law.nd (EOk.callH (h__law_first x) (hr.mono (by decide)) (AOk.cons (vr 5) (AOk.cons (vr 3) (AOk.nil)))))
 (SsOk.cons (st_ 7 sc_law.nd (EOk.callH (h_unsorted_row x) (hr.mono (by decide)) (AOk.cons (fz 4) (AOk.cons (vr 3) (AOk.nil)))))
 (SsOk.cons (SOk.ite (TWOk.pt (TWOk.or (TOk.ne hr.units (vr 7) (vr 6)) (TWOk.or1 (TOk.ne hr.units (fz 4) (vr 5))))) (SsOk.one (SOk.ret (EOk.bl))) (SsOk.nil))
 (SsOk.cons (SOk.ite (TOk.notN (vr 7)) (SsOk.cons (SOk.ite (TWOk.pt (TWOk.or (TOk.not (TOk.val (EOk.isi x.m_isinstance (AOk.cons (vr 7) (AOk.cons (EOk.ty rfl x.m_list (by decide +kernel)) (AOk.nil)))))) (TWOk.or1 (TOk.ne hr.units (EOk.comp (own := [("_law_one", 9)]) rfl sc_law.nd (SrcOk.seq (vr 7)) (blkOk_by (by kernel_rfl)) (fun _ _ _ _ _ => gn 9 sc_law.nd) (fun _ _ _ _ _ => CTOk.one (TOk.val (EOk.isi x.m_isinstance (AOk.cons (vr 9) (AOk.cons (EOk.ty rfl x.m_bool (by decide +kernel)) (AOk.nil)))))) (fun _ _ _ _ _ => fz 9)) (EOk.lst (AOk.nil)))))) (SsOk.one (SOk.ret (EOk.bl))) (SsOk.nil))
 (SsOk.one (SOk.exp (EOk.meth (i := 7) rfl (by first | exact Or.inl rfl | exact Or.inr (Or.inl rfl) | exact Or.inr (Or.inr rfl)) (by decide) (by decide) PySem.F.slot_list_append PySem.F.type_list_append mt_append gmu_app (AOk.cons (EOk.int) (AOk.nil)))))) (SsOk.nil))
 (SsOk.one (SOk.ite (TOk.ne hr.units (EOk.callH (h_unsorted_row x) (hr.mono (by decide)) (AOk.cons (fz 4) (AOk.cons (vr 3) (AOk.nil)))) (vr 6)) (SsOk.one (SOk.ret (EOk.bl))) (SsOk.nil)))))))))))
 (SsOk.one (SOk.ret (EOk.bl))))
theorem h_law (x : Fx K mg) : HasF P w K mg base "law" 6 ["_law_script"] F_law := hasF x.d_law sc_law (ok_law x) fun _ _ _ _ _ _ us hl => match us, hl with | [_], _ => rfl
end
end K41

namespace K41
open PyI
mutual
theorem pk_sf : ∀ v : Vl, peek (setF .sh v) = setF .sh v
  | .tup xs => by show Vl.tup (peeks (setFs .sh xs)) = Vl.tup (setFs .sh xs); rw [pks_sf]
  | .nd f k xs => by show Vl.nd (if Fl.sh = Fl.own then .tr else .sh) k (peeks (setFs .sh xs)) = Vl.nd .sh k (setFs .sh xs); rw [pks_sf]; rfl
  | .non => rfl
  | .bl _ => rfl
  | .int _ => rfl
  | .str _ => rfl
  | .ref _ => rfl
  | .sym _ => rfl
theorem pks_sf : ∀ v : List Vl, peeks (setFs .sh v) = setFs .sh v
  | [] => rfl
  | v :: r => by show peek (setF .sh v) :: peeks (setFs .sh r) = setF .sh v :: setFs .sh r; rw [pk_sf, pks_sf]
end
mutual
theorem sf_pk : ∀ v : Vl, setF .sh (peek v) = setF .sh v
  | .tup xs => by show Vl.tup (setFs .sh (peeks xs)) = Vl.tup (setFs .sh xs); rw [sfs_pk]
  | .nd f k xs => by show Vl.nd .sh k (setFs .sh (peeks xs)) = Vl.nd .sh k (setFs .sh xs); rw [sfs_pk]
  | .non => rfl
  | .bl _ => rfl
  | .int _ => rfl
  | .str _ => rfl
  | .ref _ => rfl
  | .sym _ => rfl
theorem sfs_pk : ∀ v : List Vl, setFs .sh (peeks v) = setFs .sh v
  | [] => rfl
  | v :: r => by show setF .sh (peek v) :: setFs .sh (peeks r) = setF .sh v :: setFs .sh r; rw [sf_pk, sfs_pk]
end
mutual
theorem sf_sf : ∀ v : Vl, setF .sh (setF .sh v) = setF .sh v
  | .tup xs => by show Vl.tup (setFs .sh (setFs .sh xs)) = Vl.tup (setFs .sh xs); rw [sfs_sf]
  | .nd f k xs => by show Vl.nd .sh k (setFs .sh (setFs .sh xs)) = Vl.nd .sh k (setFs .sh xs); rw [sfs_sf]
  | .non => rfl
  | .bl _ => rfl
  | .int _ => rfl
  | .str _ => rfl
  | .ref _ => rfl
  | .sym _ => rfl
theorem sfs_sf : ∀ v : List Vl, setFs .sh (setFs .sh v) = setFs .sh v
  | [] => rfl
  | v :: r => by show setF .sh (setF .sh v) :: setFs .sh (setFs .sh r) = setF .sh v :: setFs .sh r; rw [sf_sf, sfs_sf]
end
mutual
theorem so_sf : ∀ v : Vl, stor (setF .sh v) = true
  | .tup xs => sos_sf xs
  | .nd f k xs => by show ((Fl.sh == .own || Fl.sh == .sh) && stors (setFs .sh xs)) = true; rw [sos_sf]; rfl
  | .non => rfl
  | .bl _ => rfl
  | .int _ => rfl
  | .str _ => rfl
  | .ref _ => rfl
  | .sym _ => rfl
theorem sos_sf : ∀ v : List Vl, stors (setFs .sh v) = true
  | [] => rfl
  | v :: r => by show (stor (setF .sh v) && stors (setFs .sh r)) = true; rw [so_sf, sos_sf]; rfl
end
mutual
theorem no_sf : ∀ v : Vl, noOwn (setF .sh v) = true
  | .tup xs => nos_sf xs
  | .nd f k xs => by show ((Fl.sh != .own) && noOwns (setFs .sh xs)) = true; rw [nos_sf]; rfl
  | .non => rfl
  | .bl _ => rfl
  | .int _ => rfl
  | .str _ => rfl
  | .ref _ => rfl
  | .sym _ => rfl
theorem nos_sf : ∀ v : List Vl, noOwns (setFs .sh v) = true
  | [] => rfl
  | v :: r => by show (noOwn (setF .sh v) && noOwns (setFs .sh r)) = true; rw [no_sf, nos_sf]; rfl
end
mutual
theorem nr_sf (f : Fl) : ∀ v : Vl, noRef (setF f v) = noRef v
  | .tup xs => nrs_sf f xs
  | .nd _ k xs => nrs_sf f xs
  | .non => rfl
  | .bl _ => rfl
  | .int _ => rfl
  | .str _ => rfl
  | .ref _ => rfl
  | .sym _ => rfl
theorem nrs_sf (f : Fl) : ∀ v : List Vl, noRefs (setFs f v) = noRefs v
  | [] => rfl
  | v :: r => by show (noRef (setF f v) && noRefs (setFs f r)) = (noRef v && noRefs r); rw [nr_sf, nrs_sf]
end
mutual
theorem nr_pk : ∀ v : Vl, noRef (peek v) = noRef v
  | .tup xs => nrs_pk xs
  | .nd _ k xs => nrs_pk xs
  | .non => rfl
  | .bl _ => rfl
  | .int _ => rfl
  | .str _ => rfl
  | .ref _ => rfl
  | .sym _ => rfl
theorem nrs_pk : ∀ v : List Vl, noRefs (peeks v) = noRefs v
  | [] => rfl
  | v :: r => by show (noRef (peek v) && noRefs (peeks r)) = (noRef v && noRefs r); rw [nr_pk, nrs_pk]
end
theorem setFs_map (f : Fl) : ∀ xs : List Vl, setFs f xs = xs.map (setF f)
  | [] => rfl
  | v :: r => by show setF f v :: setFs f r = _; rw [setFs_map]; rfl
theorem varE_ok {i : Nat} {st : Sta} {v : Vl} (h : noRef v = true) (e : st.sl[i]? = some (some v)) : varE i st = .ok (peek v, st, false) := by
  unfold varE
  rw [e]
  cases v with
  | ref n => cases h
  | _ => rfl
/-- plain kinds -/
def plK : Vl → Bool
  | .ref _ => false
  | .sym _ => false
  | .nd _ (.ins _ _) _ => false
  | .nd _ (.dT _) _ => false
  | _ => true
def isNum (hi : Int) : Vl → Bool
  | .int i => decide (0 ≤ i) && decide (i ≤ hi)
  | _ => false
theorem isi_other (v : Vl) (hp : plK v = true) (h1 : ∀ i, v ≠ .int i) (h2 : ∀ b, v ≠ .bl b) : gIsi [setF .sh v, .sym (.ty "int")] = some (.bl false) := by
  cases v with
  | int i => exact absurd rfl (h1 i)
  | bl i => exact absurd rfl (h2 i)
  | nd f k xs => cases k <;> first | (cases hp; done) | rfl
  | ref n => cases hp
  | sym n => cases hp
  | _ => rfl
theorem num_ok (v : Vl) (hp : plK v = true) (hr : noRef v = true) (hi : Int) : F_is_number [setF .sh v, .int 0, .int hi] = .ok (.bl (isNum hi v)) := by
  by_cases h1 : ∃ i, v = .int i
  · obtain ⟨i, rfl⟩ := h1
    have e1 : isNum hi (.int i) = (decide (0 ≤ i) && decide (i ≤ hi)) := rfl
    rw [e1]
    cases h1 : decide ((0 : Int) ≤ i) <;> cases h2 : decide (i ≤ hi) <;> simp (disch := omega) only [F_is_number, b_is_number, runF, seqC, bindC, asgC, tgN, tgT, tgsC, tgsN, opE, evs, varE, takE, frzE, cstE, retC, retNC, expC, ifC, passC, rsC, brkC, cntC, callE, srcE, andE, orE, ifE, seqE, notE, chainE, nt_non, nt_bl, nt_int, nt_str, nt_tup, nt_nil, nt_cons, so_non, so_bl, so_int, so_str, so_tup, so_nil, so_cons, no_non, no_bl, no_int, no_str, no_tup, no_nil, no_cons, nr_non, nr_bl, nr_int, nr_str, nr_tup, nr_nil, nr_cons, ao_non, ao_bl, ao_int, ao_str, ao_tup, ao_nil, ao_cons, pk_non, pk_bl, pk_int, pk_str, pk_tup, pk_nil, pk_cons, sf_non, sf_bl, sf_int, sf_str, sf_tup, sf_nil, sf_cons, ints_so, ints_nt, ints_no, ints_nr, ints_ao, ints_pk, ints_sf, ints_snoc, pk_nd, sf_nd, nt_nd, so_nd, no_nd, nr_nd, ao_nd, so_app, gLen_nd, gIx_nd, gLst_0, gLR1_ok, gLR2_ok, isi_lst, hSeq_nd, fp1, fp2, fp3, fb1, fb2, fb3, fb4, fb5, fb6, fb7, fb8, fb9, fb10, fb11, fb12, fb13, fb14, sf_enc, pk_own, pk_sh, pk_tr, nr_enc, ao_enc, so_own, so_sh, nt_own, nt_sh, no_sh, no_tr, no_own, nt_tr, gLen_enc, gIx_0, gIx_1, gLst_nil, hSeq_sh, hRng1_ok, hRng2_ok, gSub_ok, gAdd_ok, gNeg_ok, gMod_ok, gDiv_ok, gShl_ok, gShr_ok, gMul_r, gMul_l, gLt_ok, gLe_ok, gGt_ok, gGe_ok, gNot_ok, gTup_2, gTup_3, gMax2_ok, gMin2_ok, isi_int_int, isi_int_bool, isi_tup, isi_int_list, isi_list, gEq_int, gNe_int, List.getElem?_cons_zero, List.getElem?_cons_succ, List.set_cons_zero, List.set_cons_succ, List.length_cons, List.length_nil, List.map_cons, List.map_nil, List.cons_append, List.nil_append, List.replicate_zero, List.replicate_succ, decide_true, decide_false, Bool.and_true, Bool.true_and, Bool.and_false, Bool.false_and, Bool.or_true, Bool.true_or, Bool.or_false, Bool.false_or, Bool.not_true, Bool.not_false, if_true, if_false, ite_true, ite_false, reduceIte, List.contains_nil, List.contains_cons, Nat.reduceBEq, List.any_cons, List.any_nil, List.append_nil, Bool.false_eq_true, reduceCtorEq, Nat.reduceAdd, Nat.reduceLT, Nat.reduceLeDiff, Nat.zero_add, Int.reduceSub, Int.reduceAdd, Int.reduceMul, Int.reduceToNat, Int.reducePow, Int.one_mul, Int.reduceNeg, Int.reduceLT, Int.reduceLE, Int.zero_add, Int.add_zero, Int.reduceEq, Int.reduceMod, Int.reduceDiv, Int.reduceOfNat, Int.cast_ofNat_Int, h1, h2]
  by_cases h2 : ∃ b, v = .bl b
  · obtain ⟨b, rfl⟩ := h2
    kernel_rfl
  have e := isi_other v hp (fun i z => h1 ⟨i, z⟩) (fun i z => h2 ⟨i, z⟩)
  have e2 : isNum hi v = false := by
    cases v with
    | int i => exact absurd ⟨i, rfl⟩ h1
    | _ => rfl
  have v0 := varE_ok (i := 0) (st := ⟨[some (setF .sh v), some (.int 0), some (.int hi)], [], []⟩) (v := setF .sh v) (by rw [nr_sf]; exact hr) rfl
  rw [pk_sf] at v0
  have ht : noTr (setF .sh v) = true := noTr_sh
  rw [e2]
  simp (disch := omega) only [F_is_number, b_is_number, runF, seqC, bindC, asgC, tgN, tgT, tgsC, tgsN, opE, evs, takE, frzE, cstE, retC, retNC, expC, ifC, passC, rsC, brkC, cntC, callE, srcE, andE, orE, ifE, seqE, notE, chainE, nt_non, nt_bl, nt_int, nt_str, nt_tup, nt_nil, nt_cons, so_non, so_bl, so_int, so_str, so_tup, so_nil, so_cons, no_non, no_bl, no_int, no_str, no_tup, no_nil, no_cons, nr_non, nr_bl, nr_int, nr_str, nr_tup, nr_nil, nr_cons, ao_non, ao_bl, ao_int, ao_str, ao_tup, ao_nil, ao_cons, pk_non, pk_bl, pk_int, pk_str, pk_tup, pk_nil, pk_cons, sf_non, sf_bl, sf_int, sf_str, sf_tup, sf_nil, sf_cons, ints_so, ints_nt, ints_no, ints_nr, ints_ao, ints_pk, ints_sf, ints_snoc, pk_nd, sf_nd, nt_nd, so_nd, no_nd, nr_nd, ao_nd, so_app, gLen_nd, gIx_nd, gLst_0, gLR1_ok, gLR2_ok, isi_lst, hSeq_nd, fp1, fp2, fp3, fb1, fb2, fb3, fb4, fb5, fb6, fb7, fb8, fb9, fb10, fb11, fb12, fb13, fb14, sf_enc, pk_own, pk_sh, pk_tr, nr_enc, ao_enc, so_own, so_sh, nt_own, nt_sh, no_sh, no_tr, no_own, nt_tr, gLen_enc, gIx_0, gIx_1, gLst_nil, hSeq_sh, hRng1_ok, hRng2_ok, gSub_ok, gAdd_ok, gNeg_ok, gMod_ok, gDiv_ok, gShl_ok, gShr_ok, gMul_r, gMul_l, gLt_ok, gLe_ok, gGt_ok, gGe_ok, gNot_ok, gTup_2, gTup_3, gMax2_ok, gMin2_ok, isi_int_int, isi_int_bool, isi_tup, isi_int_list, isi_list, gEq_int, gNe_int, List.getElem?_cons_zero, List.getElem?_cons_succ, List.set_cons_zero, List.set_cons_succ, List.length_cons, List.length_nil, List.map_cons, List.map_nil, List.cons_append, List.nil_append, List.replicate_zero, List.replicate_succ, decide_true, decide_false, Bool.and_true, Bool.true_and, Bool.and_false, Bool.false_and, Bool.or_true, Bool.true_or, Bool.or_false, Bool.false_or, Bool.not_true, Bool.not_false, if_true, if_false, ite_true, ite_false, reduceIte, List.contains_nil, List.contains_cons, Nat.reduceBEq, List.any_cons, List.any_nil, List.append_nil, Bool.false_eq_true, reduceCtorEq, Nat.reduceAdd, Nat.reduceLT, Nat.reduceLeDiff, Nat.zero_add, Nat.reduceSub, List.length_map, Int.reduceSub, Int.reduceAdd, Int.reduceMul, Int.reduceToNat, Int.reducePow, Int.one_mul, Int.reduceNeg, Int.reduceLT, Int.reduceLE, Int.zero_add, Int.add_zero, Int.reduceEq, Int.reduceMod, Int.reduceDiv, Int.reduceOfNat, Int.cast_ofNat_Int, v0, e, ht]
theorem blsOf_map {γ : Type} (p : γ → Bool) : ∀ xs : List γ, blsOf (xs.map fun e => Vl.bl (p e)) = some (xs.map p)
  | [] => rfl
  | x :: r => by show (blsOf (r.map fun e => Vl.bl (p e))).map (p x :: ·) = _; rw [blsOf_map p r]; rfl
theorem stors_bls {γ : Type} (p : γ → Bool) : ∀ xs : List γ, stors (xs.map fun e => Vl.bl (p e)) = true
  | [] => rfl
  | x :: r => by show (true && stors (r.map fun e => Vl.bl (p e))) = true; rw [stors_bls p r]; rfl
theorem gAll_bls {γ : Type} (p : γ → Bool) (xs : List γ) : gAll [mkL (xs.map fun e => Vl.bl (p e))] = some (.bl (xs.all p)) := by
  unfold mkL
  rw [if_pos (stors_bls p xs)]
  show (blsOf (xs.map fun e => Vl.bl (p e))).map _ = _
  rw [blsOf_map]
  simp [List.all_map]
theorem intsOf_sf : ∀ xs : List Vl, intsOf (setFs .sh xs) = intsOf xs
  | [] => rfl
  | .int b :: r => by show (intsOf (setFs .sh r)).map (b :: ·) = (intsOf r).map (b :: ·); rw [intsOf_sf]
  | .non :: _ => rfl
  | .bl _ :: _ => rfl
  | .str _ :: _ => rfl
  | .ref _ :: _ => rfl
  | .sym _ :: _ => rfl
  | .tup _ :: _ => rfl
  | .nd _ _ _ :: _ => rfl
theorem intsOf_ints : ∀ ns : List Int, intsOf (ns.map Vl.int) = some ns
  | [] => rfl
  | n :: r => by show (intsOf (r.map Vl.int)).map (n :: ·) = _; rw [intsOf_ints]; rfl
theorem ints_of_all (hi : Int) : ∀ xs : List Vl, xs.all (isNum hi) = true → ∃ ns : List Int, xs = ns.map Vl.int ∧ ∀ n ∈ ns, 0 ≤ n ∧ n ≤ hi
  | [], _ => ⟨[], rfl, fun n h => by cases h⟩
  | .int b :: r, h => by
    rw [List.all_cons] at h
    simp only [Bool.and_eq_true] at h
    obtain ⟨ns, e, q⟩ := ints_of_all hi r h.2
    refine ⟨b :: ns, by rw [e]; rfl, fun n hn => ?_⟩
    rcases List.mem_cons.mp hn with rfl | hn
    · have := h.1
      unfold isNum at this
      simpa using this
    · exact q n hn
  | .non :: _, h => by simp [isNum] at h
  | .bl _ :: _, h => by simp [isNum] at h
  | .str _ :: _, h => by simp [isNum] at h
  | .ref _ :: _, h => by simp [isNum] at h
  | .sym _ :: _, h => by simp [isNum] at h
  | .tup _ :: _, h => by simp [isNum] at h
  | .nd _ _ _ :: _, h => by simp [isNum] at h
open Enc (enc)
open PySem PyProof.Rows in
theorem dd_len : ∀ (ns acc : List Int), (ns.foldl step_dedup acc).length ≤ acc.length + ns.length ∧ ((ns.foldl step_dedup acc).length = acc.length + ns.length ↔ ns.Nodup ∧ ∀ x ∈ ns, x ∉ acc)
  | [], acc => by simp
  | n :: r, acc => by
    rw [List.foldl_cons]
    by_cases h : acc.any (· == n) = true
    · have e : step_dedup acc n = acc := if_pos h
      rw [e]
      obtain ⟨h1, h2⟩ := dd_len r acc
      have hm : n ∈ acc := by
        obtain ⟨y, hy, he⟩ := List.any_eq_true.mp h
        rw [eq_of_beq he] at hy; exact hy
      refine ⟨by simp only [List.length_cons]; omega, ⟨fun q => ?_, fun q => absurd hm (q.2 n List.mem_cons_self)⟩⟩
      simp only [List.length_cons] at q; omega
    · have e : step_dedup acc n = acc ++ [n] := if_neg h
      rw [e]
      have hm : n ∉ acc := fun hm => h (List.any_eq_true.mpr ⟨n, hm, by simp⟩)
      obtain ⟨h1, h2⟩ := dd_len r (acc ++ [n])
      simp only [List.length_append, List.length_cons, List.length_nil] at h1 h2 ⊢
      refine ⟨by omega, ⟨fun q => ?_, fun q => ?_⟩⟩
      · obtain ⟨a, b⟩ := h2.mp (by omega)
        refine ⟨List.nodup_cons.mpr ⟨fun hn => b n hn (by simp), a⟩, fun x hx => ?_⟩
        rcases List.mem_cons.mp hx with rfl | hx
        · exact hm
        · exact fun z => b x hx (by simp [z])
      · obtain ⟨a, b⟩ := List.nodup_cons.mp q.1
        have := h2.mpr ⟨b, fun x hx z => by
          rcases List.mem_append.mp z with z | z
          · exact q.2 x (List.mem_cons_of_mem _ hx) z
          · rw [List.mem_singleton] at z
            exact a (z ▸ hx)⟩
        omega
theorem dd_nodup (ns : List Int) : (dedupL ns).length = ns.length ↔ ns.Nodup := by
  have := (dd_len ns []).2
  simp only [List.length_nil, Nat.zero_add] at this
  unfold dedupL
  rw [this]
  simp
def rng (n : Nat) : List Int := (List.range n).map fun k => (0 + (k : Nat) : Int)
theorem incr_eq : ∀ (L : List Int) (a : Int), L.Pairwise (· < ·) → (∀ x ∈ L, a ≤ x ∧ x < a + L.length) → L = (List.range L.length).map fun k => a + (k : Nat)
  | [], a, _, _ => rfl
  | x :: r, a, h, hb => by
    obtain ⟨h1, h2⟩ := List.pairwise_cons.mp h
    have hx := hb x List.mem_cons_self
    have ih := incr_eq r (a + 1) h2 fun y hy => by
      have q1 := h1 y hy
      have q2 := hb y (List.mem_cons_of_mem _ hy)
      simp only [List.length_cons] at q2
      omega
    have ex : x = a := by
      cases r with
      | nil => simp only [List.length_cons, List.length_nil] at hx; omega
      | cons y r =>
        have e0 : y = a + 1 := by
          have := congrArg (fun l => l[0]?) ih
          simpa using this
        have := h1 y List.mem_cons_self
        omega
    rw [List.length_cons, List.range_succ_eq_map, List.map_cons, List.map_map, ex]
    congr 1
    · simp
    · rw [ih]
      simp only [List.length_map, List.length_range]
      refine List.map_congr_left fun k _ => ?_
      show a + 1 + (k : Int) = a + ((k + 1 : Nat) : Int)
      omega
theorem lt_of_nodup : ∀ {L : List Int}, L.Pairwise (· ≤ ·) → L.Nodup → L.Pairwise (· < ·)
  | [], _, _ => List.Pairwise.nil
  | x :: r, h, n => by
    obtain ⟨h1, h2⟩ := List.pairwise_cons.mp h
    obtain ⟨n1, n2⟩ := List.nodup_cons.mp n
    refine List.pairwise_cons.mpr ⟨fun y hy => ?_, lt_of_nodup h2 n2⟩
    have := h1 y hy
    have : x ≠ y := fun z => n1 (z ▸ hy)
    omega
theorem rng_nodup (n : Nat) : (rng n).Nodup := by
  unfold rng
  refine List.Pairwise.map _ (fun a b h => ?_) List.nodup_range
  simp only [ne_eq] at h ⊢
  omega
theorem forL_cons {g : Tg} {body : C} {v : Vl} {r : List Vl} {st st1 : Sta} (hg : g v st = some st1) : forL g body (v :: r) st = (match body st1 with
      | .nx s => forL g body r s
      | .ct s => forL g body r s
      | .bk s => .nx s
      | z => z) := by
  conv => lhs; unfold forL
  simp only [hg] <;> (cases body st1 <;> rfl)
theorem intsV_rng (n : Nat) : intsV 0 n = (rng n).map Vl.int := by
  unfold intsV rng
  rw [List.map_map]
  rfl
theorem gEq_il (f g : Fl) (a b : List Int) : gEq [.nd f .lst (a.map Vl.int), .nd g .lst (b.map Vl.int)] = some (.bl (decide (a = b))) := gEq_enc (f := f) (g := g) a b
theorem ixN_pos {n : Nat} {i : Int} (h0 : 0 ≤ i) (h1 : i < n) : L2.ixN n i = some i.toNat := by
  unfold L2.ixN
  rw [if_pos h0, if_pos h1]
/-- the places seen -/
theorem gNe_il (f g : Fl) (a b : List Int) : gNe [.nd f .lst (a.map Vl.int), .nd g .lst (b.map Vl.int)] = some (.bl (!decide (a = b))) := gNe_enc (f := f) (g := g) a b
theorem atI_last (L : List Int) (y : Int) : L2.atI ((L ++ [y]).map Vl.int) (-1) = some (.int y) := by
  have h : L2.ixN ((L ++ [y]).map Vl.int).length (-1) = some L.length := by
    unfold L2.ixN
    rw [if_neg (by omega), if_pos (by simp only [List.length_map, List.length_append, List.length_cons, List.length_nil]; omega)]
    congr 1
    simp only [List.length_map, List.length_append, List.length_cons, List.length_nil]
    omega
  unfold L2.atI
  rw [h]
  show ((L ++ [y]).map Vl.int)[L.length]? = _
  simp
end K41

namespace K41
open PyI
open Enc (enc)
/-! ### a layer that is set, a net that is set -/
abbrev Sw := (Int × Int) × Int
abbrev hit (x : Int) (s : Sw) : Prop := s.2 = 1 ∧ (x = s.1.1 ∨ x = s.1.2)
def mvF (x : Int) (lane : Int) (s : Sw) : Int := if hit x s then s.1.1 + s.1.2 - x else lane
def mv (z : List Sw) (x : Int) : Int := z.foldl (mvF x) x
def swp (xs : List Vl) (l h : Nat) : List Vl := (xs.set l (xs.getD h .non)).set h (xs.getD l .non)
def exF (xs : List Vl) (s : Sw) : List Vl := if s.2 = 1 then swp xs s.1.1.toNat s.1.2.toNat else xs
def exch (z : List Sw) (xs : List Vl) : List Vl := z.foldl exF xs
abbrev Dj (p q : Sw) : Prop := p.1.1 ≠ q.1.1 ∧ p.1.1 ≠ q.1.2 ∧ p.1.2 ≠ q.1.1 ∧ p.1.2 ≠ q.1.2
structure Lz (n : Nat) (z : List Sw) : Prop where
  b : ∀ s ∈ z, 0 ≤ s.1.1 ∧ s.1.1 < s.1.2 ∧ s.1.2 ≤ (n : Int) - 1
  o : ∀ s ∈ z, s.2 = 0 ∨ s.2 = 1
  d : z.Pairwise Dj
  l : z.length ≤ 64
theorem Lz.tail {n : Nat} {s : Sw} {r : List Sw} (h : Lz n (s :: r)) : Lz n r :=
  ⟨fun t ht => h.b t (List.mem_cons_of_mem _ ht), fun t ht => h.o t (List.mem_cons_of_mem _ ht), (List.pairwise_cons.mp h.d).2, by have := h.l; simp at this; omega⟩
theorem fold_miss (x : Int) : ∀ (z : List Sw) (lane : Int), (∀ s ∈ z, ¬ hit x s) → z.foldl (mvF x) lane = lane
  | [], _, _ => rfl
  | s :: r, lane, h => by
    show r.foldl (mvF x) (mvF x lane s) = lane
    have e : mvF x lane s = lane := if_neg (h s List.mem_cons_self)
    rw [e]
    exact fold_miss x r lane fun t ht => h t (List.mem_cons_of_mem _ ht)
theorem no_two {z : List Sw} {s : Sw} {x : Int} (hp : ∀ t ∈ z, Dj s t) (hx : x = s.1.1 ∨ x = s.1.2) : ∀ t ∈ z, ¬ hit x t := fun t ht q => by
  obtain ⟨a, b, c, d⟩ := hp t ht
  rcases hx with rfl | rfl <;> rcases q.2 with q | q <;> contradiction
theorem fold_hit {n : Nat} {x : Int} : ∀ (z : List Sw) (lane : Int) (s : Sw), Lz n z → s ∈ z → hit x s → z.foldl (mvF x) lane = s.1.1 + s.1.2 - x
  | t :: r, lane, s, h, hs, q => by
    obtain ⟨h1, h2⟩ := List.pairwise_cons.mp h.d
    show r.foldl (mvF x) (mvF x lane t) = _
    rcases List.mem_cons.mp hs with e | hs
    · subst e
      have e : mvF x lane s = s.1.1 + s.1.2 - x := if_pos q
      rw [e]
      exact fold_miss x r _ (no_two h1 q.2)
    · exact fold_hit r _ s h.tail hs q
theorem mv_hit {n : Nat} {z : List Sw} (h : Lz n z) {x : Int} {s : Sw} (hs : s ∈ z) (q : hit x s) : mv z x = s.1.1 + s.1.2 - x := fold_hit z x s h hs q
theorem mv_miss {z : List Sw} {x : Int} (h : ∀ s ∈ z, ¬ hit x s) : mv z x = x := fold_miss x z x h
theorem mv_or {n : Nat} {z : List Sw} (h : Lz n z) (x : Int) : (∃ s ∈ z, hit x s ∧ mv z x = s.1.1 + s.1.2 - x) ∨ ((∀ s ∈ z, ¬ hit x s) ∧ mv z x = x) := by
  by_cases q : ∃ s ∈ z, hit x s
  · obtain ⟨s, hs, q⟩ := q
    exact .inl ⟨s, hs, q, mv_hit h hs q⟩
  · have q : ∀ s ∈ z, ¬ hit x s := fun s hs w => q ⟨s, hs, w⟩
    exact .inr ⟨q, mv_miss q⟩
theorem mv_mv {n : Nat} {z : List Sw} (h : Lz n z) (x : Int) : mv z (mv z x) = x := by
  rcases mv_or h x with ⟨s, hs, q, e⟩ | ⟨q, e⟩
  · rw [e, mv_hit h hs ⟨q.1, by rcases q.2 with q | q <;> omega⟩]
    omega
  · rw [e, e]
abbrev Ir (n : Nat) (x : Int) : Prop := 0 ≤ x ∧ x ≤ (n : Int) - 1
theorem mv_in {n : Nat} {z : List Sw} (h : Lz n z) {x : Int} (hx : Ir n x) : Ir n (mv z x) := by
  rcases mv_or h x with ⟨s, hs, q, e⟩ | ⟨q, e⟩
  · have := h.b s hs
    rw [e]
    rcases q.2 with q | q <;> exact ⟨by omega, by omega⟩
  · rw [e]; exact hx
theorem swp_len (xs : List Vl) (l h : Nat) : (swp xs l h).length = xs.length := by simp [swp]
theorem exF_len (xs : List Vl) (s : Sw) : (exF xs s).length = xs.length := by
  unfold exF
  split
  · exact swp_len _ _ _
  · rfl
theorem exch_len : ∀ (z : List Sw) (xs : List Vl), (exch z xs).length = xs.length
  | [], xs => rfl
  | s :: r, xs => by
    show (exch r (exF xs s)).length = _
    rw [exch_len r, exF_len]
theorem swp_l {xs : List Vl} {l h : Nat} (hl : l < xs.length) (hh : h < xs.length) (ne : l ≠ h) : (swp xs l h)[l]? = xs[h]? ∧ (swp xs l h)[h]? = xs[l]? := by
  unfold swp
  constructor
  · rw [List.getElem?_set_ne (Ne.symm ne), List.getElem?_set_self hl, List.getD_eq_getElem?_getD, List.getElem?_eq_getElem hh]; rfl
  · rw [List.getElem?_set_self (by simpa using hh), List.getD_eq_getElem?_getD, List.getElem?_eq_getElem hl]; rfl
theorem swp_ne {xs : List Vl} {l h k : Nat} (h1 : k ≠ l) (h2 : k ≠ h) : (swp xs l h)[k]? = xs[k]? := by
  unfold swp
  rw [List.getElem?_set_ne (Ne.symm h2), List.getElem?_set_ne (Ne.symm h1)]
theorem exch_at {n : Nat} : ∀ {z : List Sw} (_ : Lz n z) {xs : List Vl} (_ : xs.length = n) {x : Int} (_ : Ir n x), (exch z xs)[(mv z x).toNat]? = xs[x.toNat]?
  | [], _, xs, _, x, _ => rfl
  | s :: r, h, xs, hl, x, hx => by
    have hr := h.tail
    obtain ⟨h1, h2⟩ := List.pairwise_cons.mp h.d
    obtain ⟨b1, b2, b3⟩ := h.b s List.mem_cons_self
    show (exch r (exF xs s))[_]? = _
    by_cases q : hit x s
    · rw [mv_hit h List.mem_cons_self q]
      have o : mv r (s.1.1 + s.1.2 - x) = s.1.1 + s.1.2 - x := mv_miss (no_two h1 (by rcases q.2 with q | q <;> omega))
      have ih := exch_at hr (xs := exF xs s) (by rw [exF_len]; exact hl) (x := s.1.1 + s.1.2 - x) (by rcases q.2 with q | q <;> exact ⟨by omega, by omega⟩)
      rw [o] at ih
      rw [ih]
      have e : exF xs s = swp xs s.1.1.toNat s.1.2.toNat := if_pos q.1
      rw [e]
      have sw := swp_l (xs := xs) (l := s.1.1.toNat) (h := s.1.2.toNat) (by omega) (by omega) (by omega)
      rcases q.2 with q | q
      · rw [show s.1.1 + s.1.2 - x = s.1.2 by omega, q]; exact sw.2
      · rw [show s.1.1 + s.1.2 - x = s.1.1 by omega, q]; exact sw.1
    · have e : mv (s :: r) x = mv r x := by
        show r.foldl (mvF x) (mvF x x s) = r.foldl (mvF x) x
        rw [show mvF x x s = x from if_neg q]
      rw [e, exch_at hr (by rw [exF_len]; exact hl) hx]
      unfold exF
      split
      · rename_i q1
        have nq : ¬ (x = s.1.1 ∨ x = s.1.2) := fun z => q ⟨q1, z⟩
        exact swp_ne (fun z => nq (.inl (by have := hx.1; omega))) (fun z => nq (.inr (by have := hx.1; omega)))
      · rfl
theorem rng_len (n : Nat) : (rng n).length = n := by simp [rng]
theorem mem_rng {n : Nat} {x : Int} : x ∈ rng n ↔ Ir n x := by
  unfold rng
  rw [List.mem_map]
  constructor
  · rintro ⟨k, hk, rfl⟩
    have := List.mem_range.mp hk
    exact ⟨by omega, by omega⟩
  · intro h
    exact ⟨x.toNat, List.mem_range.mpr (by have := h.1; have := h.2; omega), by have := h.1; omega⟩
theorem rng_at {n k : Nat} (h : k < n) : (rng n)[k]? = some (k : Int) := by
  unfold rng
  rw [List.getElem?_map, List.getElem?_range h]
  show some (0 + (k : Int)) = _
  rw [Int.zero_add]
abbrev netV (Z : List (List Sw)) : List (List (Int × Int)) := Z.map fun z => z.map fun s => s.1
abbrev setV (Z : List (List Sw)) : List (List Int) := Z.map fun z => z.map fun s => s.2
theorem zipV_map {γ : Type} (f g : γ → Vl) : ∀ Z : List γ, zipV (Z.map f) (Z.map g) = Z.map fun z => .tup [f z, g z]
  | [] => rfl
  | z :: r => by
    show Vl.tup [f z, g z] :: zipV (r.map f) (r.map g) = _
    rw [zipV_map f g r]; rfl
--%DEF LY lyL_nt, lyL_no, lyL_nr, lyL_pk, lyL_sf, lyL_so, lyL_len, seL_nt, seL_no, seL_nr, seL_pk, seL_sf, seL_so, seL_len, nL_nt, nL_no, nL_nr, nL_pk, nL_sf, nL_so, nL_len, tL_nt, tL_no, tL_nr, tL_pk, tL_sf, tL_so, tL_len
def lyL (z : List Sw) : List Vl := (z.map fun s => s.1).map (enc .sh)
def seL (z : List Sw) : List Vl := (z.map fun s => s.2).map (enc .sh)
def nL (Z : List (List Sw)) : List Vl := (netV Z).map (enc .sh)
def tL (Z : List (List Sw)) : List Vl := (setV Z).map (enc .sh)
abbrev lyV (z : List Sw) : Vl := .nd .sh .lst (lyL z)
abbrev seV (z : List Sw) : Vl := .nd .sh .lst (seL z)
abbrev zV (z : List Sw) : Vl := .tup [lyV z, seV z]
abbrev sV (s : Sw) : Vl := .tup [.tup [.int s.1.1, .int s.1.2], .int s.2]
abbrev nV (Z : List (List Sw)) : Vl := .nd .sh .lst (nL Z)
abbrev tV (Z : List (List Sw)) : Vl := .nd .sh .lst (tL Z)
theorem lyL_nt (z : List Sw) : noTrs (lyL z) = true := noTrs_enc .sh rfl _
theorem lyL_no (z : List Sw) : noOwns (lyL z) = true := noOwns_enc .sh rfl _
theorem lyL_nr (z : List Sw) : noRefs (lyL z) = true := noRefs_enc .sh _
theorem lyL_pk (z : List Sw) : peeks (lyL z) = lyL z := peeks_enc .sh _
theorem lyL_sf (z : List Sw) : setFs .sh (lyL z) = lyL z := setFs_enc .sh .sh _
theorem lyL_so (z : List Sw) : stors (lyL z) = true := stors_enc .sh rfl _
theorem lyL_len (z : List Sw) : (lyL z).length = z.length := by unfold lyL; rw [List.length_map, List.length_map]
theorem seL_nt (z : List Sw) : noTrs (seL z) = true := noTrs_enc .sh rfl _
theorem seL_no (z : List Sw) : noOwns (seL z) = true := noOwns_enc .sh rfl _
theorem seL_nr (z : List Sw) : noRefs (seL z) = true := noRefs_enc .sh _
theorem seL_pk (z : List Sw) : peeks (seL z) = seL z := peeks_enc .sh _
theorem seL_sf (z : List Sw) : setFs .sh (seL z) = seL z := setFs_enc .sh .sh _
theorem seL_so (z : List Sw) : stors (seL z) = true := stors_enc .sh rfl _
theorem seL_len (z : List Sw) : (seL z).length = z.length := by unfold seL; rw [List.length_map, List.length_map]
theorem nL_nt (Z : List (List Sw)) : noTrs (nL Z) = true := noTrs_enc .sh rfl _
theorem nL_no (Z : List (List Sw)) : noOwns (nL Z) = true := noOwns_enc .sh rfl _
theorem nL_nr (Z : List (List Sw)) : noRefs (nL Z) = true := noRefs_enc .sh _
theorem nL_pk (Z : List (List Sw)) : peeks (nL Z) = nL Z := peeks_enc .sh _
theorem nL_sf (Z : List (List Sw)) : setFs .sh (nL Z) = nL Z := setFs_enc .sh .sh _
theorem nL_so (Z : List (List Sw)) : stors (nL Z) = true := stors_enc .sh rfl _
theorem nL_len (Z : List (List Sw)) : (nL Z).length = Z.length := by unfold nL; rw [List.length_map, List.length_map]
theorem tL_nt (Z : List (List Sw)) : noTrs (tL Z) = true := noTrs_enc .sh rfl _
theorem tL_no (Z : List (List Sw)) : noOwns (tL Z) = true := noOwns_enc .sh rfl _
theorem tL_nr (Z : List (List Sw)) : noRefs (tL Z) = true := noRefs_enc .sh _
theorem tL_pk (Z : List (List Sw)) : peeks (tL Z) = tL Z := peeks_enc .sh _
theorem tL_sf (Z : List (List Sw)) : setFs .sh (tL Z) = tL Z := setFs_enc .sh .sh _
theorem tL_so (Z : List (List Sw)) : stors (tL Z) = true := stors_enc .sh rfl _
theorem tL_len (Z : List (List Sw)) : (tL Z).length = Z.length := by unfold tL; rw [List.length_map, List.length_map]
theorem hZip_Z (Z : List (List Sw)) : hZip [nV Z, tV Z] = some (Z.map zV, false) := by
  have e1 : nL Z = Z.map lyV := by unfold nL; rw [List.map_map]; rfl
  have e2 : tL Z = Z.map seV := by unfold tL; rw [List.map_map]; rfl
  show some (zipV (nL Z) (tL Z), (Fl.sh == .tr || Fl.sh == .tr) || !(noTrs (nL Z) && noTrs (tL Z))) = _
  rw [nL_nt, tL_nt, e1, e2, zipV_map]
  rfl
theorem hZip_z (z : List Sw) : hZip [lyV z, seV z] = some (z.map sV, false) := by
  have e1 : lyL z = z.map fun s : Sw => Vl.tup [.int s.1.1, .int s.1.2] := by unfold lyL; rw [List.map_map]; rfl
  have e2 : seL z = z.map fun s : Sw => Vl.int s.2 := by unfold seL; rw [List.map_map]; rfl
  show some (zipV (lyL z) (seL z), (Fl.sh == .tr || Fl.sh == .tr) || !(noTrs (lyL z) && noTrs (seL z))) = _
  rw [lyL_nt, seL_nt, e1, e2, zipV_map]
  rfl
/-! plain things -/
structure Pl1 (v : Vl) : Prop where
  so : stor v = true
  no : noOwn v = true
  nt : noTr v = true
  nr : noRef v = true
  ao : allOwn v = true
  pk : peek v = v
  sf : ∀ f, setF f v = v
structure PlS (v : List Vl) : Prop where
  so : stors v = true
  no : noOwns v = true
  nt : noTrs v = true
  nr : noRefs v = true
  ao : allOwns v = true
  pk : peeks v = v
  sf : ∀ f, setFs f v = v
theorem PlS.nil : PlS [] := ⟨rfl, rfl, rfl, rfl, rfl, rfl, fun _ => rfl⟩
theorem PlS.cons {v : Vl} {r : List Vl} (a : Pl1 v) (b : PlS r) : PlS (v :: r) :=
  ⟨by show (stor v && stors r) = true; rw [a.so, b.so]; rfl, by show (noOwn v && noOwns r) = true; rw [a.no, b.no]; rfl, by show (noTr v && noTrs r) = true; rw [a.nt, b.nt]; rfl,
   by show (noRef v && noRefs r) = true; rw [a.nr, b.nr]; rfl, by show (allOwn v && allOwns r) = true; rw [a.ao, b.ao]; rfl, by show peek v :: peeks r = _; rw [a.pk, b.pk], fun f => by show setF f v :: setFs f r = _; rw [a.sf, b.sf]⟩
theorem pl_1 {v : Vl} (h : flatV1 v = true) : Pl1 v := by
  unfold flatV1 at h
  split at h <;> first | exact ⟨rfl, rfl, rfl, rfl, rfl, rfl, fun _ => rfl⟩ | cases h
theorem pls_1 : ∀ {xs : List Vl}, xs.all flatV1 = true → PlS xs
  | [], _ => .nil
  | v :: r, h => by
    rw [List.all_cons, Bool.and_eq_true] at h
    exact .cons (pl_1 h.1) (pls_1 h.2)
theorem pl_0 {v : Vl} (h : flatV0 v = true) : Pl1 v := by
  unfold flatV0 at h
  split at h
  · rename_i xs
    have a := pls_1 h
    exact ⟨a.so, a.no, a.nt, a.nr, a.ao, by show Vl.tup (peeks xs) = _; rw [a.pk], fun f => by show Vl.tup (setFs f xs) = _; rw [a.sf]⟩
  · exact pl_1 h
theorem pls_0 : ∀ {xs : List Vl}, xs.all flatV0 = true → PlS xs
  | [], _ => .nil
  | v :: r, h => by
    rw [List.all_cons, Bool.and_eq_true] at h
    exact .cons (pl_0 h.1) (pls_0 h.2)
theorem getD_flat {xs : List Vl} (h : xs.all flatV0 = true) (i : Nat) : flatV0 (xs.getD i .non) = true := by
  rw [List.getD_eq_getElem?_getD]
  cases e : xs[i]? with
  | none => rfl
  | some v => exact List.all_eq_true.mp h v (List.mem_of_getElem? e)
theorem set_flat {xs : List Vl} (h : xs.all flatV0 = true) {v : Vl} (hv : flatV0 v = true) (i : Nat) : (xs.set i v).all flatV0 = true := by
  refine List.all_eq_true.mpr fun x hx => ?_
  rcases List.mem_or_eq_of_mem_set hx with q | q
  · exact List.all_eq_true.mp h x q
  · rw [q]; exact hv
theorem exF_flat {xs : List Vl} (h : xs.all flatV0 = true) (s : Sw) : (exF xs s).all flatV0 = true := by
  unfold exF swp
  split
  · exact set_flat (set_flat h (getD_flat h _) _) (getD_flat h _) _
  · exact h
theorem exch_flat : ∀ (z : List Sw) {xs : List Vl}, xs.all flatV0 = true → (exch z xs).all flatV0 = true
  | [], _, h => h
  | s :: r, xs, h => exch_flat r (exF_flat h s)
abbrev SE (xs : List Vl) (z : List Sw) (ys : List Vl) (o l h : Option Vl) : Sta := ⟨[some (.nd .sh .lst xs), some (lyV z), some (seV z), some (.nd .own .lst ys), o, l, h], [], []⟩
theorem exch_step {n : Nat} {z0 : List Sw} {s : Sw} (b : 0 ≤ s.1.1 ∧ s.1.1 < s.1.2 ∧ s.1.2 ≤ (n : Int) - 1) {xs ys : List Vl} (hl : ys.length = n) (hf : ys.all flatV0 = true) : b_exchanged_L0 (SE xs z0 ys (some (.int s.2)) (some (.int s.1.1)) (some (.int s.1.2))) = .nx (SE xs z0 (exF ys s) (some (.int s.2)) (some (.int s.1.1)) (some (.int s.1.2))) := by
  obtain ⟨b1, b2, b3⟩ := b
  have q := pls_0 hf
  by_cases h : s.2 = 1
  · have e : exF ys s = (ys.set s.1.1.toNat (ys.getD s.1.2.toNat .non)).set s.1.2.toNat (ys.getD s.1.1.toNat .non) := if_pos h
    rw [e]
    have dd : decide (s.2 = 1) = true := decide_eq_true h
    have fv := getD_flat hf s.1.2.toNat
    have fw := getD_flat hf s.1.1.toNat
    have at1 : L2.atI ys s.1.2 = some (ys.getD s.1.2.toNat .non) := atI_pos (by omega) (by rw [List.getD_eq_getElem?_getD, List.getElem?_eq_getElem (by omega)]; rfl)
    have at2 : L2.atI ys s.1.1 = some (ys.getD s.1.1.toNat .non) := atI_pos (by omega) (by rw [List.getD_eq_getElem?_getD, List.getElem?_eq_getElem (by omega)]; rfl)
    generalize ys.getD s.1.2.toNat .non = v at *
    generalize ys.getD s.1.1.toNat .non = w at *
    have qv := (pl_0 fv).nt
    have qw := (pl_0 fw).nt
    have x1 : L2.ixN ys.length s.1.1 = some s.1.1.toNat := ixN_pos (by omega) (by omega)
    have x2 : L2.ixN (ys.set s.1.1.toNat v).length s.1.2 = some s.1.2.toNat := ixN_pos (by omega) (by rw [List.length_set]; omega)
    simp (disch := omega) only [b_exchanged_L0, swapC, tgIx, runF, seqC, bindC, asgC, tgN, tgT, tgsC, tgsN, opE, evs, varE, takE, frzE, cstE, retC, retNC, expC, ifC, passC, rsC, brkC, cntC, callE, srcE, andE, orE, ifE, seqE, notE, chainE, nt_non, nt_bl, nt_int, nt_str, nt_tup, nt_nil, nt_cons, so_non, so_bl, so_int, so_str, so_tup, so_nil, so_cons, no_non, no_bl, no_int, no_str, no_tup, no_nil, no_cons, nr_non, nr_bl, nr_int, nr_str, nr_tup, nr_nil, nr_cons, ao_non, ao_bl, ao_int, ao_str, ao_tup, ao_nil, ao_cons, pk_non, pk_bl, pk_int, pk_str, pk_tup, pk_nil, pk_cons, sf_non, sf_bl, sf_int, sf_str, sf_tup, sf_nil, sf_cons, ints_so, ints_nt, ints_no, ints_nr, ints_ao, ints_pk, ints_sf, ints_snoc, pk_nd, sf_nd, nt_nd, so_nd, no_nd, nr_nd, ao_nd, so_app, gLen_nd, gIx_nd, gLst_0, gLR1_ok, gLR2_ok, isi_lst, hSeq_nd, fp1, fp2, fp3, fb1, fb2, fb3, fb4, fb5, fb6, fb7, fb8, fb9, fb10, fb11, fb12, fb13, fb14, sf_enc, pk_own, pk_sh, pk_tr, nr_enc, ao_enc, so_own, so_sh, nt_own, nt_sh, no_sh, no_tr, no_own, nt_tr, gLen_enc, gIx_0, gIx_1, gLst_nil, hSeq_sh, hRng1_ok, hRng2_ok, gSub_ok, gAdd_ok, gNeg_ok, gMod_ok, gDiv_ok, gShl_ok, gShr_ok, gMul_r, gMul_l, gLt_ok, gLe_ok, gGt_ok, gGe_ok, gNot_ok, gTup_2, gTup_3, gMax2_ok, gMin2_ok, isi_int_int, isi_int_bool, isi_tup, isi_int_list, isi_list, gEq_int, gNe_int, List.getElem?_cons_zero, List.getElem?_cons_succ, List.set_cons_zero, List.set_cons_succ, List.length_cons, List.length_nil, List.map_cons, List.map_nil, List.cons_append, List.nil_append, List.replicate_zero, List.replicate_succ, decide_true, decide_false, Bool.and_true, Bool.true_and, Bool.and_false, Bool.false_and, Bool.or_true, Bool.true_or, Bool.or_false, Bool.false_or, Bool.not_true, Bool.not_false, if_true, if_false, ite_true, ite_false, reduceIte, List.contains_nil, List.contains_cons, Nat.reduceBEq, List.any_cons, List.any_nil, List.append_nil, Bool.false_eq_true, reduceCtorEq, Nat.reduceAdd, Nat.reduceLT, Nat.reduceLeDiff, Nat.zero_add, Int.reduceSub, Int.reduceAdd, Int.reduceMul, Int.reduceToNat, Int.reducePow, Int.one_mul, Int.reduceNeg, Int.reduceLT, Int.reduceLE, Int.zero_add, Int.add_zero, Int.reduceEq, Int.reduceMod, Int.reduceDiv, Int.reduceOfNat, Int.cast_ofNat_Int, getN, putN, gEq_int, dd, q.pk, at1, at2, qv, qw, fv, fw, x1, x2, Option.map_some]
  · have e : exF ys s = ys := if_neg h
    rw [e]
    have dd : decide (s.2 = 1) = false := decide_eq_false h
    simp (disch := omega) only [b_exchanged_L0, runF, seqC, bindC, asgC, tgN, tgT, tgsC, tgsN, opE, evs, varE, takE, frzE, cstE, retC, retNC, expC, ifC, passC, rsC, brkC, cntC, callE, srcE, andE, orE, ifE, seqE, notE, chainE, nt_non, nt_bl, nt_int, nt_str, nt_tup, nt_nil, nt_cons, so_non, so_bl, so_int, so_str, so_tup, so_nil, so_cons, no_non, no_bl, no_int, no_str, no_tup, no_nil, no_cons, nr_non, nr_bl, nr_int, nr_str, nr_tup, nr_nil, nr_cons, ao_non, ao_bl, ao_int, ao_str, ao_tup, ao_nil, ao_cons, pk_non, pk_bl, pk_int, pk_str, pk_tup, pk_nil, pk_cons, sf_non, sf_bl, sf_int, sf_str, sf_tup, sf_nil, sf_cons, ints_so, ints_nt, ints_no, ints_nr, ints_ao, ints_pk, ints_sf, ints_snoc, pk_nd, sf_nd, nt_nd, so_nd, no_nd, nr_nd, ao_nd, so_app, gLen_nd, gIx_nd, gLst_0, gLR1_ok, gLR2_ok, isi_lst, hSeq_nd, fp1, fp2, fp3, fb1, fb2, fb3, fb4, fb5, fb6, fb7, fb8, fb9, fb10, fb11, fb12, fb13, fb14, sf_enc, pk_own, pk_sh, pk_tr, nr_enc, ao_enc, so_own, so_sh, nt_own, nt_sh, no_sh, no_tr, no_own, nt_tr, gLen_enc, gIx_0, gIx_1, gLst_nil, hSeq_sh, hRng1_ok, hRng2_ok, gSub_ok, gAdd_ok, gNeg_ok, gMod_ok, gDiv_ok, gShl_ok, gShr_ok, gMul_r, gMul_l, gLt_ok, gLe_ok, gGt_ok, gGe_ok, gNot_ok, gTup_2, gTup_3, gMax2_ok, gMin2_ok, isi_int_int, isi_int_bool, isi_tup, isi_int_list, isi_list, gEq_int, gNe_int, List.getElem?_cons_zero, List.getElem?_cons_succ, List.set_cons_zero, List.set_cons_succ, List.length_cons, List.length_nil, List.map_cons, List.map_nil, List.cons_append, List.nil_append, List.replicate_zero, List.replicate_succ, decide_true, decide_false, Bool.and_true, Bool.true_and, Bool.and_false, Bool.false_and, Bool.or_true, Bool.true_or, Bool.or_false, Bool.false_or, Bool.not_true, Bool.not_false, if_true, if_false, ite_true, ite_false, reduceIte, List.contains_nil, List.contains_cons, Nat.reduceBEq, List.any_cons, List.any_nil, List.append_nil, Bool.false_eq_true, reduceCtorEq, Nat.reduceAdd, Nat.reduceLT, Nat.reduceLeDiff, Nat.zero_add, Int.reduceSub, Int.reduceAdd, Int.reduceMul, Int.reduceToNat, Int.reducePow, Int.one_mul, Int.reduceNeg, Int.reduceLT, Int.reduceLE, Int.zero_add, Int.add_zero, Int.reduceEq, Int.reduceMod, Int.reduceDiv, Int.reduceOfNat, Int.cast_ofNat_Int, gEq_int, dd]
theorem exchanged_ok {n : Nat} {z : List Sw} (h : Lz n z) {xs : List Vl} (hl : xs.length = n) (hf : xs.all flatV0 = true) : F_exchanged [.nd .sh .lst xs, lyV z, seV z] = .ok (.nd .own .lst (exch z xs)) := by
  obtain ⟨st, e1, o, l, k, hs⟩ := forL_map (g := tgT 2 (tgsC (tgT 2 (tgsC (tgN 5) (tgsC (tgN 6) tgsN))) (tgsC (tgN 4) tgsN))) (body := b_exchanged_L0) (ev := sV) z (st := SE xs z xs none none none)
    (fun p st => ∃ o l k, st = SE xs z (exch p xs) o l k) ⟨_, _, _, rfl⟩ fun p s r st hz ⟨o, l, k, hs⟩ => by
      subst hs
      have hb := h.b s (by rw [hz]; simp)
      have hp := exch_flat p hf
      have hpl : (exch p xs).length = n := by rw [exch_len]; exact hl
      have e : exch (p ++ [s]) xs = exF (exch p xs) s := by unfold exch; rw [List.foldl_append]; rfl
      rw [e]
      generalize exch p xs = ys at *
      refine ⟨SE xs z ys (some (.int s.2)) (some (.int s.1.1)) (some (.int s.1.2)), _, by simp (disch := omega) only [runF, seqC, bindC, asgC, tgN, tgT, tgsC, tgsN, opE, evs, varE, takE, frzE, cstE, retC, retNC, expC, ifC, passC, rsC, brkC, cntC, callE, srcE, andE, orE, ifE, seqE, notE, chainE, nt_non, nt_bl, nt_int, nt_str, nt_tup, nt_nil, nt_cons, so_non, so_bl, so_int, so_str, so_tup, so_nil, so_cons, no_non, no_bl, no_int, no_str, no_tup, no_nil, no_cons, nr_non, nr_bl, nr_int, nr_str, nr_tup, nr_nil, nr_cons, ao_non, ao_bl, ao_int, ao_str, ao_tup, ao_nil, ao_cons, pk_non, pk_bl, pk_int, pk_str, pk_tup, pk_nil, pk_cons, sf_non, sf_bl, sf_int, sf_str, sf_tup, sf_nil, sf_cons, ints_so, ints_nt, ints_no, ints_nr, ints_ao, ints_pk, ints_sf, ints_snoc, pk_nd, sf_nd, nt_nd, so_nd, no_nd, nr_nd, ao_nd, so_app, gLen_nd, gIx_nd, gLst_0, gLR1_ok, gLR2_ok, isi_lst, hSeq_nd, fp1, fp2, fp3, fb1, fb2, fb3, fb4, fb5, fb6, fb7, fb8, fb9, fb10, fb11, fb12, fb13, fb14, sf_enc, pk_own, pk_sh, pk_tr, nr_enc, ao_enc, so_own, so_sh, nt_own, nt_sh, no_sh, no_tr, no_own, nt_tr, gLen_enc, gIx_0, gIx_1, gLst_nil, hSeq_sh, hRng1_ok, hRng2_ok, gSub_ok, gAdd_ok, gNeg_ok, gMod_ok, gDiv_ok, gShl_ok, gShr_ok, gMul_r, gMul_l, gLt_ok, gLe_ok, gGt_ok, gGe_ok, gNot_ok, gTup_2, gTup_3, gMax2_ok, gMin2_ok, isi_int_int, isi_int_bool, isi_tup, isi_int_list, isi_list, gEq_int, gNe_int, List.getElem?_cons_zero, List.getElem?_cons_succ, List.set_cons_zero, List.set_cons_succ, List.length_cons, List.length_nil, List.map_cons, List.map_nil, List.cons_append, List.nil_append, List.replicate_zero, List.replicate_succ, decide_true, decide_false, Bool.and_true, Bool.true_and, Bool.and_false, Bool.false_and, Bool.or_true, Bool.true_or, Bool.or_false, Bool.false_or, Bool.not_true, Bool.not_false, if_true, if_false, ite_true, ite_false, reduceIte, List.contains_nil, List.contains_cons, Nat.reduceBEq, List.any_cons, List.any_nil, List.append_nil, Bool.false_eq_true, reduceCtorEq, Nat.reduceAdd, Nat.reduceLT, Nat.reduceLeDiff, Nat.zero_add], .inl (exch_step hb hpl hp), _, _, _, rfl⟩
  subst hs
  have hz := hZip_z z
  have q := pls_0 hf
  have q2 := pls_0 (exch_flat z hf)
  have gl : gList [.nd .sh .lst xs] = some (.nd .own .lst xs) := by
    show some (mkL xs) = _
    unfold mkL
    rw [if_pos q.so]
  generalize exch z xs = ys at *
  generalize hq : forL (tgT 2 (tgsC (tgT 2 (tgsC (tgN 5) (tgsC (tgN 6) tgsN))) (tgsC (tgN 4) tgsN))) b_exchanged_L0 = fl at e1
  simp only [SE] at e1
  simp (disch := omega) only [F_exchanged, b_exchanged, forC, hq, runF, seqC, bindC, asgC, tgN, tgT, tgsC, tgsN, opE, evs, varE, takE, frzE, cstE, retC, retNC, expC, ifC, passC, rsC, brkC, cntC, callE, srcE, andE, orE, ifE, seqE, notE, chainE, nt_non, nt_bl, nt_int, nt_str, nt_tup, nt_nil, nt_cons, so_non, so_bl, so_int, so_str, so_tup, so_nil, so_cons, no_non, no_bl, no_int, no_str, no_tup, no_nil, no_cons, nr_non, nr_bl, nr_int, nr_str, nr_tup, nr_nil, nr_cons, ao_non, ao_bl, ao_int, ao_str, ao_tup, ao_nil, ao_cons, pk_non, pk_bl, pk_int, pk_str, pk_tup, pk_nil, pk_cons, sf_non, sf_bl, sf_int, sf_str, sf_tup, sf_nil, sf_cons, ints_so, ints_nt, ints_no, ints_nr, ints_ao, ints_pk, ints_sf, ints_snoc, pk_nd, sf_nd, nt_nd, so_nd, no_nd, nr_nd, ao_nd, so_app, gLen_nd, gIx_nd, gLst_0, gLR1_ok, gLR2_ok, isi_lst, hSeq_nd, fp1, fp2, fp3, fb1, fb2, fb3, fb4, fb5, fb6, fb7, fb8, fb9, fb10, fb11, fb12, fb13, fb14, sf_enc, pk_own, pk_sh, pk_tr, nr_enc, ao_enc, so_own, so_sh, nt_own, nt_sh, no_sh, no_tr, no_own, nt_tr, gLen_enc, gIx_0, gIx_1, gLst_nil, hSeq_sh, hRng1_ok, hRng2_ok, gSub_ok, gAdd_ok, gNeg_ok, gMod_ok, gDiv_ok, gShl_ok, gShr_ok, gMul_r, gMul_l, gLt_ok, gLe_ok, gGt_ok, gGe_ok, gNot_ok, gTup_2, gTup_3, gMax2_ok, gMin2_ok, isi_int_int, isi_int_bool, isi_tup, isi_int_list, isi_list, gEq_int, gNe_int, List.getElem?_cons_zero, List.getElem?_cons_succ, List.set_cons_zero, List.set_cons_succ, List.length_cons, List.length_nil, List.map_cons, List.map_nil, List.cons_append, List.nil_append, List.replicate_zero, List.replicate_succ, decide_true, decide_false, Bool.and_true, Bool.true_and, Bool.and_false, Bool.false_and, Bool.or_true, Bool.true_or, Bool.or_false, Bool.false_or, Bool.not_true, Bool.not_false, if_true, if_false, ite_true, ite_false, reduceIte, List.contains_nil, List.contains_cons, Nat.reduceBEq, List.any_cons, List.any_nil, List.append_nil, Bool.false_eq_true, reduceCtorEq, Nat.reduceAdd, Nat.reduceLT, Nat.reduceLeDiff, Nat.zero_add, Int.reduceSub, Int.reduceAdd, Int.reduceMul, Int.reduceToNat, Int.reducePow, Int.one_mul, Int.reduceNeg, Int.reduceLT, Int.reduceLE, Int.zero_add, Int.add_zero, Int.reduceEq, Int.reduceMod, Int.reduceDiv, Int.reduceOfNat, Int.cast_ofNat_Int, e1, hz, lyL_nt, lyL_no, lyL_nr, lyL_pk, lyL_sf, lyL_so, lyL_len, seL_nt, seL_no, seL_nr, seL_pk, seL_sf, seL_so, seL_len, nL_nt, nL_no, nL_nr, nL_pk, nL_sf, nL_so, nL_len, tL_nt, tL_no, tL_nr, tL_pk, tL_sf, tL_so, tL_len, gl, q.pk, q.nt, q2.ao, Nat.reduceSub, List.length_map]
end K41

namespace K41
open PyI
open Enc (enc)
--%DEF FO foL_nt, foL_no, foL_nr, foL_pk, foL_sf, foL_so, foL_len
abbrev pV (p : Int × Int) : Vl := .tup [.int p.1, .int p.2]
def foL (L : List (Int × Int)) : List Vl := L.map pV
theorem foL_e (L : List (Int × Int)) (f : Fl) : foL L = L.map (enc f) := rfl
theorem foL_nt (L : List (Int × Int)) : noTrs (foL L) = true := noTrs_enc (α := Int × Int) .sh rfl _
theorem foL_no (L : List (Int × Int)) : noOwns (foL L) = true := noOwns_enc (α := Int × Int) .sh rfl _
theorem foL_so (L : List (Int × Int)) : stors (foL L) = true := stors_enc (α := Int × Int) .sh rfl _
theorem foL_nr (L : List (Int × Int)) : noRefs (foL L) = true := noRefs_enc (α := Int × Int) .sh _
theorem foL_ao (L : List (Int × Int)) : allOwns (foL L) = true := allOwns_enc (α := Int × Int) _
theorem foL_pk (L : List (Int × Int)) : peeks (foL L) = foL L := peeks_enc (α := Int × Int) .sh _
theorem foL_sf (f : Fl) (L : List (Int × Int)) : setFs f (foL L) = foL L := setFs_enc (α := Int × Int) .sh f _
theorem foL_snoc (L : List (Int × Int)) (a b : Int) : foL L ++ [.tup [.int a, .int b]] = foL (L ++ [(a, b)]) := by unfold foL; rw [List.map_append]; rfl
theorem foL_len (L : List (Int × Int)) : (foL L).length = L.length := List.length_map _
def flt (L : List (Int × Int)) : List Int := L.flatMap fun p => [p.1, p.2]
theorem flt_snoc (L : List (Int × Int)) (a b : Int) : flt (L ++ [(a, b)]) = flt L ++ [a, b] := by unfold flt; rw [List.flatMap_append]; rfl
/-- a layer of so many lanes -/
structure Ly (n : Nat) (L : List (Int × Int)) : Prop where
  b : ∀ p ∈ L, 0 ≤ p.1 ∧ p.1 < p.2 ∧ p.2 ≤ (n : Int) - 1
  d : L.Pairwise fun p q => p.1 ≠ q.1 ∧ p.1 ≠ q.2 ∧ p.2 ≠ q.1 ∧ p.2 ≠ q.2
  l : L.length ≤ 64
theorem dj_of : ∀ {L : List (Int × Int)}, (flt L).Nodup → L.Pairwise fun p q => p.1 ≠ q.1 ∧ p.1 ≠ q.2 ∧ p.2 ≠ q.1 ∧ p.2 ≠ q.2
  | [], _ => .nil
  | p :: r, h => by
    have h : (p.1 :: p.2 :: flt r).Nodup := h
    obtain ⟨h1, h2⟩ := List.nodup_cons.mp h
    obtain ⟨h3, h4⟩ := List.nodup_cons.mp h2
    refine List.pairwise_cons.mpr ⟨fun q hq => ?_, dj_of h4⟩
    have m1 : q.1 ∈ flt r := List.mem_flatMap.mpr ⟨q, hq, by simp⟩
    have m2 : q.2 ∈ flt r := List.mem_flatMap.mpr ⟨q, hq, by simp⟩
    exact ⟨fun e => h1 (by rw [e]; exact List.mem_cons_of_mem _ m1), fun e => h1 (by rw [e]; exact List.mem_cons_of_mem _ m2), fun e => h3 (by rw [e]; exact m1), fun e => h3 (by rw [e]; exact m2)⟩
theorem tis_fo : ∀ L : List (Int × Int), tisOf (foL L) = some (L.map fun p => [p.1, p.2])
  | [] => rfl
  | p :: r => by
    have := tis_fo r
    show (match intsOf [.int p.1, .int p.2], tisOf (foL r) with
      | some (n :: ns), some t => some ((n :: ns) :: t)
      | _, _ => none) = _
    rw [this]; rfl
theorem sort_fo (f : Fl) (L : List (Int × Int)) : ∃ L' : List (Int × Int), L'.Perm L ∧ SrtT (L'.map fun p => [p.1, p.2]) ∧ gSort [.nd f .lst (foL L)] = some (.nd .own .lst (foL L')) := by
  cases L with
  | nil => exact ⟨[], List.Perm.refl _, sortT_sorted [], rfl⟩
  | cons p r =>
    have h0 : intsOf (foL (p :: r)) = none := rfl
    generalize p :: r = L at h0 ⊢
    have ht := tis_fo L
    have hp := sortT_perm (L.map fun p => [p.1, p.2])
    refine ⟨(sortT (L.map fun p => [p.1, p.2])).map fun l => (l.getD 0 0, l.getD 1 0), ?_, ?_, ?_⟩
    rotate_left
    · rw [List.map_map]
      have e : (sortT (L.map fun p => [p.1, p.2])).map ((fun p : Int × Int => [p.1, p.2]) ∘ fun l : List Int => (l.getD 0 0, l.getD 1 0)) = sortT (L.map fun p => [p.1, p.2]) := by
        conv => rhs; rw [← List.map_id (sortT (L.map fun p => [p.1, p.2]))]
        refine List.map_congr_left fun l hl => ?_
        obtain ⟨p, _, rfl⟩ := List.mem_map.mp (hp.mem_iff.mp hl)
        rfl
      rw [e]
      exact sortT_sorted _
    rotate_left
    · have := hp.map fun l : List Int => (l.getD 0 0, l.getD 1 0)
      rw [List.map_map] at this
      have e : ((fun l : List Int => (l.getD 0 0, l.getD 1 0)) ∘ fun p : Int × Int => [p.1, p.2]) = id := rfl
      rw [e, List.map_id] at this
      exact this
    · show (match intsOf (foL L) with
        | some ns => some (Vl.nd .own .lst ((sortI ns).map Vl.int))
        | none => (tisOf (foL L)).map fun ts => Vl.nd .own .lst ((sortT ts).map tiV)) = _
      rw [h0, ht]
      show some (Vl.nd .own .lst ((sortT (L.map fun p => [p.1, p.2])).map tiV)) = _
      congr 2
      unfold foL
      rw [List.map_map]
      refine List.map_congr_left fun l hl => ?_
      obtain ⟨p, _, rfl⟩ := List.mem_map.mp (hp.mem_iff.mp hl)
      rfl

/-! ### a layer that compares -/
def gz (r : List Int) (i : Int) : Int := r.getD i.toNat 0
def wF (r : List Int) (p : Int × Int) : List Int := if gz r p.1 > gz r p.2 then (r.set p.1.toNat (gz r p.2)).set p.2.toNat (gz r p.1) else r
def wl (L : List (Int × Int)) (r : List Int) : List Int := L.foldl wF r
def fl (r : List Int) (p : Int × Int) : Int := if gz r p.1 > gz r p.2 then 1 else 0
def zs (L : List (Int × Int)) (r : List Int) : List Sw := L.map fun p => (p, fl r p)
theorem wF_len (r : List Int) (p : Int × Int) : (wF r p).length = r.length := by unfold wF; split <;> simp
theorem wl_len : ∀ (L : List (Int × Int)) (r : List Int), (wl L r).length = r.length
  | [], _ => rfl
  | p :: t, r => by show (wl t (wF r p)).length = _; rw [wl_len t, wF_len]
theorem Ly.tail {n : Nat} {p : Int × Int} {t : List (Int × Int)} (h : Ly n (p :: t)) : Ly n t :=
  ⟨fun q hq => h.b q (List.mem_cons_of_mem _ hq), (List.pairwise_cons.mp h.d).2, by have := h.l; simp at this; omega⟩
theorem zs_Lz {n : Nat} {L : List (Int × Int)} (h : Ly n L) (r : List Int) : Lz n (zs L r) := by
  refine ⟨fun s hs => ?_, fun s hs => ?_, ?_, by unfold zs; rw [List.length_map]; exact h.l⟩
  · obtain ⟨p, hp, rfl⟩ := List.mem_map.mp hs
    exact h.b p hp
  · obtain ⟨p, hp, rfl⟩ := List.mem_map.mp hs
    show fl r p = 0 ∨ fl r p = 1
    unfold fl
    split
    · exact .inr rfl
    · exact .inl rfl
  · exact List.pairwise_map.mpr h.d
theorem gz_set {r : List Int} {i j : Int} {v : Int} (hi : 0 ≤ i) (hj : 0 ≤ j) (ne : i ≠ j) : gz (r.set i.toNat v) j = gz r j := by
  unfold gz
  rw [List.getD_eq_getElem?_getD, List.getD_eq_getElem?_getD, List.getElem?_set_ne (by omega)]
theorem getD_map {r : List Int} {k : Nat} (h : k < r.length) : (r.map Vl.int).getD k .non = .int (r.getD k 0) := by
  rw [List.getD_eq_getElem?_getD, List.getD_eq_getElem?_getD, List.getElem?_map, List.getElem?_eq_getElem h]; rfl
theorem exch_wl {n : Nat} : ∀ {L : List (Int × Int)} (_ : Ly n L) (r r' : List Int), r'.length = n → (∀ p ∈ L, gz r' p.1 = gz r p.1 ∧ gz r' p.2 = gz r p.2) → exch (zs L r) (r'.map Vl.int) = (wl L r').map Vl.int
  | [], _, _, _, _, _ => rfl
  | p :: t, h, r, r', hl, ha => by
    obtain ⟨h1, h2⟩ := List.pairwise_cons.mp h.d
    obtain ⟨b1, b2, b3⟩ := h.b p List.mem_cons_self
    obtain ⟨a1, a2⟩ := ha p List.mem_cons_self
    show exch (zs t r) (exF (r'.map Vl.int) (p, fl r p)) = (wl t (wF r' p)).map Vl.int
    have e : exF (r'.map Vl.int) (p, fl r p) = (wF r' p).map Vl.int := by
      unfold exF wF
      by_cases q : gz r p.1 > gz r p.2
      · have q1 : (p, fl r p).2 = 1 := if_pos q
        rw [if_pos q1, if_pos (by rw [a1, a2]; exact q)]
        unfold swp
        rw [getD_map (by rw [hl]; show p.2.toNat < n; omega), getD_map (by rw [hl]; show p.1.toNat < n; omega), List.map_set, List.map_set]
        rfl
      · have q1 : ¬ (p, fl r p).2 = 1 := by
          show ¬ fl r p = 1
          unfold fl
          rw [if_neg q]
          decide
        rw [if_neg q1, if_neg (by rw [a1, a2]; exact q)]
    rw [e]
    refine exch_wl h.tail r (wF r' p) (by rw [wF_len]; exact hl) fun q hq => ?_
    obtain ⟨d1, d2, d3, d4⟩ := h1 q hq
    obtain ⟨c1, c2, c3⟩ := h.b q (List.mem_cons_of_mem _ hq)
    obtain ⟨g1, g2⟩ := ha q (List.mem_cons_of_mem _ hq)
    unfold wF
    split
    · rw [gz_set (by omega) (by omega) d3, gz_set (by omega) (by omega) d1, gz_set (by omega) (by omega) d4, gz_set (by omega) (by omega) d2]
      exact ⟨g1, g2⟩
    · exact ⟨g1, g2⟩
/-- what compared tells -/
def cs : List (List (Int × Int)) → List Int → List (List Int)
  | [], _ => []
  | L :: t, r => L.map (fl r) :: cs t (wl L r)
def ps (N : List (List (Int × Int))) (r : List Int) : List Int := N.foldl (fun r L => wl L r) r
theorem ps_snoc (p : List (List (Int × Int))) (L : List (Int × Int)) (r : List Int) : ps (p ++ [L]) r = wl L (ps p r) := by unfold ps; rw [List.foldl_append]; rfl
theorem ps_len : ∀ (N : List (List (Int × Int))) (r : List Int), (ps N r).length = r.length
  | [], _ => rfl
  | L :: t, r => by show (ps t (wl L r)).length = _; rw [ps_len t, wl_len]
theorem cs_snoc : ∀ (p : List (List (Int × Int))) (L : List (Int × Int)) (r : List Int), cs (p ++ [L]) r = cs p r ++ [L.map (fl (ps p r))]
  | [], _, _ => rfl
  | M :: t, L, r => by
    show M.map (fl r) :: cs (t ++ [L]) (wl M r) = _
    rw [cs_snoc t]; rfl
theorem cs_len : ∀ (N : List (List (Int × Int))) (r : List Int), (cs N r).length = N.length
  | [], _ => rfl
  | L :: t, r => by show (cs t (wl L r)).length + 1 = _; rw [cs_len t]; rfl
structure Nt (n : Nat) (N : List (List (Int × Int))) : Prop where
  h : ∀ L ∈ N, Ly n L
  l : N.length ≤ 40
def nw (N : List (List (Int × Int))) : List Vl := N.map fun L => .nd .sh .lst (foL L)
theorem nw_e (N : List (List (Int × Int))) : nw N = N.map (enc .sh) := rfl
theorem nw_nt (N : List (List (Int × Int))) : noTrs (nw N) = true := noTrs_enc (α := List (Int × Int)) .sh rfl _
theorem nw_no (N : List (List (Int × Int))) : noOwns (nw N) = true := noOwns_enc (α := List (Int × Int)) .sh rfl _
theorem nw_nr (N : List (List (Int × Int))) : noRefs (nw N) = true := noRefs_enc (α := List (Int × Int)) .sh _
theorem nw_pk (N : List (List (Int × Int))) : peeks (nw N) = nw N := peeks_enc (α := List (Int × Int)) .sh _
theorem nw_sf (N : List (List (Int × Int))) : setFs .sh (nw N) = nw N := setFs_enc (α := List (Int × Int)) .sh .sh _
theorem nw_len (N : List (List (Int × Int))) : (nw N).length = N.length := List.length_map _
theorem lyL_zs (L : List (Int × Int)) (r : List Int) : lyL (zs L r) = foL L := by unfold lyL zs; rw [List.map_map, List.map_map]; rfl
theorem seL_zs (L : List (Int × Int)) (r : List Int) : seL (zs L r) = (L.map (fl r)).map Vl.int := by unfold seL zs; rw [List.map_map, List.map_map, List.map_map]; rfl
def soL (S : List (List Int)) : List Vl := S.map fun s => .nd .own .lst (s.map Vl.int)
theorem soL_so (S : List (List Int)) : stors (soL S) = true := stors_enc (α := List Int) .own rfl _
theorem soL_nt (S : List (List Int)) : noTrs (soL S) = true := noTrs_enc (α := List Int) .own rfl _
theorem soL_ao (S : List (List Int)) : allOwns (soL S) = true := allOwns_enc (α := List Int) _
theorem soL_len (S : List (List Int)) : (soL S).length = S.length := List.length_map _
theorem soL_snoc (S : List (List Int)) (s : List Int) : soL S ++ [.nd .own .lst (s.map Vl.int)] = soL (S ++ [s]) := by unfold soL; rw [List.map_append]; rfl
abbrev SC (N : List (List (Int × Int))) (f : Fl) (r : List Int) (S : List (List Int)) (o3 o4 : Option Vl) : Sta := ⟨[some (.nd .sh .lst (nw N)), some (.nd f .lst (r.map Vl.int)), some (.nd .own .lst (soL S)), o3, o4, none, none], [], []⟩
theorem atI_gz {r : List Int} {i : Int} (h0 : 0 ≤ i) (h1 : i < (r.length : Nat)) : L2.atI (r.map Vl.int) i = some (.int (gz r i)) := by
  refine atI_ints h0 ?_
  unfold gz
  rw [List.getD_eq_getElem?_getD, List.getElem?_eq_getElem (by omega)]
  rfl
theorem cmp_step {n : Nat} (N : List (List (Int × Int))) {L : List (Int × Int)} (hL : Ly n L) (f : Fl) (hf : f = .sh ∨ f = .own) (r : List Int) (hr : r.length = n) (S : List (List Int)) (hS : S.length ≤ 1000) (o4 : Option Vl) :
    b_compared_L0 (SC N f r S (some (.nd .sh .lst (foL L))) o4) = .nx (SC N .own (wl L r) (S ++ [L.map (fl r)]) (some (.nd .sh .lst (foL L))) none) := by
  have hc : ∀ o4, compE [5, 6] (tgT 2 (tgsC (tgN 5) (tgsC (tgN 6) tgsN))) (srcE hSeq [varE 3]) (cstE (.bl true)) (opE gInt [opE gGt [opE gIx [varE 1, varE 5], opE gIx [varE 1, varE 6]]]) (SC N f r S (some (.nd .sh .lst (foL L))) o4) = .ok (mkL (L.map fun p => .int (fl r p)), SC N f r S (some (.nd .sh .lst (foL L))) o4, false) := fun o4 => by
    refine compE_all (vs := [5, 6]) (st1 := SC N f r S (some (.nd .sh .lst (foL L))) o4) (ev := pV) (tr := false) L (fun p => .int (fl r p)) ?_ rfl (fun p hp => ?_) (by rw [PySem.sizeLine_eq]; have := hL.l; omega)
    · have e : foL L = L.map pV := rfl
      simp (disch := omega) only [runF, seqC, bindC, asgC, tgN, tgT, tgsC, tgsN, opE, evs, varE, takE, frzE, cstE, retC, retNC, expC, ifC, passC, rsC, brkC, cntC, callE, srcE, andE, orE, ifE, seqE, notE, chainE, nt_non, nt_bl, nt_int, nt_str, nt_tup, nt_nil, nt_cons, so_non, so_bl, so_int, so_str, so_tup, so_nil, so_cons, no_non, no_bl, no_int, no_str, no_tup, no_nil, no_cons, nr_non, nr_bl, nr_int, nr_str, nr_tup, nr_nil, nr_cons, ao_non, ao_bl, ao_int, ao_str, ao_tup, ao_nil, ao_cons, pk_non, pk_bl, pk_int, pk_str, pk_tup, pk_nil, pk_cons, sf_non, sf_bl, sf_int, sf_str, sf_tup, sf_nil, sf_cons, ints_so, ints_nt, ints_no, ints_nr, ints_ao, ints_pk, ints_sf, ints_snoc, pk_nd, sf_nd, nt_nd, so_nd, no_nd, nr_nd, ao_nd, so_app, gLen_nd, gIx_nd, gLst_0, gLR1_ok, gLR2_ok, isi_lst, hSeq_nd, fp1, fp2, fp3, fb1, fb2, fb3, fb4, fb5, fb6, fb7, fb8, fb9, fb10, fb11, fb12, fb13, fb14, sf_enc, pk_own, pk_sh, pk_tr, nr_enc, ao_enc, so_own, so_sh, nt_own, nt_sh, no_sh, no_tr, no_own, nt_tr, gLen_enc, gIx_0, gIx_1, gLst_nil, hSeq_sh, hRng1_ok, hRng2_ok, gSub_ok, gAdd_ok, gNeg_ok, gMod_ok, gDiv_ok, gShl_ok, gShr_ok, gMul_r, gMul_l, gLt_ok, gLe_ok, gGt_ok, gGe_ok, gNot_ok, gTup_2, gTup_3, gMax2_ok, gMin2_ok, isi_int_int, isi_int_bool, isi_tup, isi_int_list, isi_list, gEq_int, gNe_int, List.getElem?_cons_zero, List.getElem?_cons_succ, List.set_cons_zero, List.set_cons_succ, List.length_cons, List.length_nil, List.map_cons, List.map_nil, List.cons_append, List.nil_append, List.replicate_zero, List.replicate_succ, decide_true, decide_false, Bool.and_true, Bool.true_and, Bool.and_false, Bool.false_and, Bool.or_true, Bool.true_or, Bool.or_false, Bool.false_or, Bool.not_true, Bool.not_false, if_true, if_false, ite_true, ite_false, reduceIte, List.contains_nil, List.contains_cons, Nat.reduceBEq, List.any_cons, List.any_nil, List.append_nil, Bool.false_eq_true, reduceCtorEq, Nat.reduceAdd, Nat.reduceLT, Nat.reduceLeDiff, Nat.zero_add, Int.reduceSub, Int.reduceAdd, Int.reduceMul, Int.reduceToNat, Int.reducePow, Int.one_mul, Int.reduceNeg, Int.reduceLT, Int.reduceLE, Int.zero_add, Int.add_zero, Int.reduceEq, Int.reduceMod, Int.reduceDiv, Int.reduceOfNat, Int.cast_ofNat_Int, foL_nt, foL_no, foL_nr, foL_pk, foL_sf, foL_so, foL_len]
      rw [e]
    · obtain ⟨b1, b2, b3⟩ := hL.b p hp
      have a1 := atI_gz (r := r) b1 (by omega)
      have a2 := atI_gz (r := r) (i := p.2) (by omega) (by omega)
      refine ⟨⟨[some (.nd .sh .lst (nw N)), some (.nd f .lst (r.map Vl.int)), some (.nd .own .lst (soL S)), some (.nd .sh .lst (foL L)), o4, some (.int p.1), some (.int p.2)], [], []⟩, by simp (disch := omega) only [wipeS, wipeF, runF, seqC, bindC, asgC, tgN, tgT, tgsC, tgsN, opE, evs, varE, takE, frzE, cstE, retC, retNC, expC, ifC, passC, rsC, brkC, cntC, callE, srcE, andE, orE, ifE, seqE, notE, chainE, nt_non, nt_bl, nt_int, nt_str, nt_tup, nt_nil, nt_cons, so_non, so_bl, so_int, so_str, so_tup, so_nil, so_cons, no_non, no_bl, no_int, no_str, no_tup, no_nil, no_cons, nr_non, nr_bl, nr_int, nr_str, nr_tup, nr_nil, nr_cons, ao_non, ao_bl, ao_int, ao_str, ao_tup, ao_nil, ao_cons, pk_non, pk_bl, pk_int, pk_str, pk_tup, pk_nil, pk_cons, sf_non, sf_bl, sf_int, sf_str, sf_tup, sf_nil, sf_cons, ints_so, ints_nt, ints_no, ints_nr, ints_ao, ints_pk, ints_sf, ints_snoc, pk_nd, sf_nd, nt_nd, so_nd, no_nd, nr_nd, ao_nd, so_app, gLen_nd, gIx_nd, gLst_0, gLR1_ok, gLR2_ok, isi_lst, hSeq_nd, fp1, fp2, fp3, fb1, fb2, fb3, fb4, fb5, fb6, fb7, fb8, fb9, fb10, fb11, fb12, fb13, fb14, sf_enc, pk_own, pk_sh, pk_tr, nr_enc, ao_enc, so_own, so_sh, nt_own, nt_sh, no_sh, no_tr, no_own, nt_tr, gLen_enc, gIx_0, gIx_1, gLst_nil, hSeq_sh, hRng1_ok, hRng2_ok, gSub_ok, gAdd_ok, gNeg_ok, gMod_ok, gDiv_ok, gShl_ok, gShr_ok, gMul_r, gMul_l, gLt_ok, gLe_ok, gGt_ok, gGe_ok, gNot_ok, gTup_2, gTup_3, gMax2_ok, gMin2_ok, isi_int_int, isi_int_bool, isi_tup, isi_int_list, isi_list, gEq_int, gNe_int, List.getElem?_cons_zero, List.getElem?_cons_succ, List.set_cons_zero, List.set_cons_succ, List.length_cons, List.length_nil, List.map_cons, List.map_nil, List.cons_append, List.nil_append, List.replicate_zero, List.replicate_succ, decide_true, decide_false, Bool.and_true, Bool.true_and, Bool.and_false, Bool.false_and, Bool.or_true, Bool.true_or, Bool.or_false, Bool.false_or, Bool.not_true, Bool.not_false, if_true, if_false, ite_true, ite_false, reduceIte, List.contains_nil, List.contains_cons, Nat.reduceBEq, List.any_cons, List.any_nil, List.append_nil, Bool.false_eq_true, reduceCtorEq, Nat.reduceAdd, Nat.reduceLT, Nat.reduceLeDiff, Nat.zero_add], ?_, rfl, rfl⟩
      have gi : gInt [.bl (decide (gz r p.2 < gz r p.1))] = some (.int (fl r p)) := by
        unfold fl
        show some (Vl.int (if decide (gz r p.2 < gz r p.1) then 1 else 0)) = _
        by_cases q : gz r p.2 < gz r p.1
        · rw [decide_eq_true q, if_pos (show gz r p.1 > gz r p.2 from q)]; rfl
        · rw [decide_eq_false q, if_neg (show ¬ gz r p.1 > gz r p.2 from q)]; rfl
      generalize fl r p = w at gi
      generalize gz r p.1 = u at *
      generalize gz r p.2 = v at *
      rcases hf with rfl | rfl <;> simp (disch := omega) only [runF, seqC, bindC, asgC, tgN, tgT, tgsC, tgsN, opE, evs, varE, takE, frzE, cstE, retC, retNC, expC, ifC, passC, rsC, brkC, cntC, callE, srcE, andE, orE, ifE, seqE, notE, chainE, nt_non, nt_bl, nt_int, nt_str, nt_tup, nt_nil, nt_cons, so_non, so_bl, so_int, so_str, so_tup, so_nil, so_cons, no_non, no_bl, no_int, no_str, no_tup, no_nil, no_cons, nr_non, nr_bl, nr_int, nr_str, nr_tup, nr_nil, nr_cons, ao_non, ao_bl, ao_int, ao_str, ao_tup, ao_nil, ao_cons, pk_non, pk_bl, pk_int, pk_str, pk_tup, pk_nil, pk_cons, sf_non, sf_bl, sf_int, sf_str, sf_tup, sf_nil, sf_cons, ints_so, ints_nt, ints_no, ints_nr, ints_ao, ints_pk, ints_sf, ints_snoc, pk_nd, sf_nd, nt_nd, so_nd, no_nd, nr_nd, ao_nd, so_app, gLen_nd, gIx_nd, gLst_0, gLR1_ok, gLR2_ok, isi_lst, hSeq_nd, fp1, fp2, fp3, fb1, fb2, fb3, fb4, fb5, fb6, fb7, fb8, fb9, fb10, fb11, fb12, fb13, fb14, sf_enc, pk_own, pk_sh, pk_tr, nr_enc, ao_enc, so_own, so_sh, nt_own, nt_sh, no_sh, no_tr, no_own, nt_tr, gLen_enc, gIx_0, gIx_1, gLst_nil, hSeq_sh, hRng1_ok, hRng2_ok, gSub_ok, gAdd_ok, gNeg_ok, gMod_ok, gDiv_ok, gShl_ok, gShr_ok, gMul_r, gMul_l, gLt_ok, gLe_ok, gGt_ok, gGe_ok, gNot_ok, gTup_2, gTup_3, gMax2_ok, gMin2_ok, isi_int_int, isi_int_bool, isi_tup, isi_int_list, isi_list, gEq_int, gNe_int, List.getElem?_cons_zero, List.getElem?_cons_succ, List.set_cons_zero, List.set_cons_succ, List.length_cons, List.length_nil, List.map_cons, List.map_nil, List.cons_append, List.nil_append, List.replicate_zero, List.replicate_succ, decide_true, decide_false, Bool.and_true, Bool.true_and, Bool.and_false, Bool.false_and, Bool.or_true, Bool.true_or, Bool.or_false, Bool.false_or, Bool.not_true, Bool.not_false, if_true, if_false, ite_true, ite_false, reduceIte, List.contains_nil, List.contains_cons, Nat.reduceBEq, List.any_cons, List.any_nil, List.append_nil, Bool.false_eq_true, reduceCtorEq, Nat.reduceAdd, Nat.reduceLT, Nat.reduceLeDiff, Nat.zero_add, Int.reduceSub, Int.reduceAdd, Int.reduceMul, Int.reduceToNat, Int.reducePow, Int.one_mul, Int.reduceNeg, Int.reduceLT, Int.reduceLE, Int.zero_add, Int.add_zero, Int.reduceEq, Int.reduceMod, Int.reduceDiv, Int.reduceOfNat, Int.cast_ofNat_Int, a1, a2, gGt_ok, gi]
  have he := exchanged_ok (zs_Lz hL r) (xs := r.map Vl.int) (by rw [List.length_map]; exact hr) (by
    refine List.all_eq_true.mpr fun x hx => ?_
    obtain ⟨k, _, rfl⟩ := List.mem_map.mp hx
    rfl)
  rw [exch_wl hL r r hr (fun p _ => ⟨rfl, rfl⟩)] at he
  simp only [lyV, seV, lyL_zs, seL_zs] at he
  have hm : (L.map fun p => Vl.int (fl r p)) = (L.map (fl r)).map Vl.int := by rw [List.map_map]; rfl
  rw [hm, mkL_ints] at hc
  have z1 : decide ((soL S).length < PySem.sizeLine) = true := decide_eq_true (by rw [PySem.sizeLine_eq, soL_len]; omega)
  have iz : isNone2 (some none) = true := rfl
  have sn := soL_snoc S (L.map (fl r))
  unfold b_compared_L0
  generalize L.map (fl r) = ss at *
  generalize wl L r = r2 at *
  generalize compE [5, 6] (tgT 2 (tgsC (tgN 5) (tgsC (tgN 6) tgsN))) (srcE hSeq [varE 3]) (cstE (.bl true)) (opE gInt [opE gGt [opE gIx [varE 1, varE 5], opE gIx [varE 1, varE 6]]]) = ce at *
  have s1 : asgC (tgN 4) ce (SC N f r S (some (.nd .sh .lst (foL L))) o4) = .nx (SC N f r S (some (.nd .sh .lst (foL L))) (some (.nd .own .lst (ss.map Vl.int)))) := by
    have := hc o4
    simp only [SC] at this
    simp (disch := omega) only [runF, seqC, bindC, asgC, tgN, tgT, tgsC, tgsN, opE, evs, varE, takE, frzE, cstE, retC, retNC, expC, ifC, passC, rsC, brkC, cntC, callE, srcE, andE, orE, ifE, seqE, notE, chainE, nt_non, nt_bl, nt_int, nt_str, nt_tup, nt_nil, nt_cons, so_non, so_bl, so_int, so_str, so_tup, so_nil, so_cons, no_non, no_bl, no_int, no_str, no_tup, no_nil, no_cons, nr_non, nr_bl, nr_int, nr_str, nr_tup, nr_nil, nr_cons, ao_non, ao_bl, ao_int, ao_str, ao_tup, ao_nil, ao_cons, pk_non, pk_bl, pk_int, pk_str, pk_tup, pk_nil, pk_cons, sf_non, sf_bl, sf_int, sf_str, sf_tup, sf_nil, sf_cons, ints_so, ints_nt, ints_no, ints_nr, ints_ao, ints_pk, ints_sf, ints_snoc, pk_nd, sf_nd, nt_nd, so_nd, no_nd, nr_nd, ao_nd, so_app, gLen_nd, gIx_nd, gLst_0, gLR1_ok, gLR2_ok, isi_lst, hSeq_nd, fp1, fp2, fp3, fb1, fb2, fb3, fb4, fb5, fb6, fb7, fb8, fb9, fb10, fb11, fb12, fb13, fb14, sf_enc, pk_own, pk_sh, pk_tr, nr_enc, ao_enc, so_own, so_sh, nt_own, nt_sh, no_sh, no_tr, no_own, nt_tr, gLen_enc, gIx_0, gIx_1, gLst_nil, hSeq_sh, hRng1_ok, hRng2_ok, gSub_ok, gAdd_ok, gNeg_ok, gMod_ok, gDiv_ok, gShl_ok, gShr_ok, gMul_r, gMul_l, gLt_ok, gLe_ok, gGt_ok, gGe_ok, gNot_ok, gTup_2, gTup_3, gMax2_ok, gMin2_ok, isi_int_int, isi_int_bool, isi_tup, isi_int_list, isi_list, gEq_int, gNe_int, List.getElem?_cons_zero, List.getElem?_cons_succ, List.set_cons_zero, List.set_cons_succ, List.length_cons, List.length_nil, List.map_cons, List.map_nil, List.cons_append, List.nil_append, List.replicate_zero, List.replicate_succ, decide_true, decide_false, Bool.and_true, Bool.true_and, Bool.and_false, Bool.false_and, Bool.or_true, Bool.true_or, Bool.or_false, Bool.false_or, Bool.not_true, Bool.not_false, if_true, if_false, ite_true, ite_false, reduceIte, List.contains_nil, List.contains_cons, Nat.reduceBEq, List.any_cons, List.any_nil, List.append_nil, Bool.false_eq_true, reduceCtorEq, Nat.reduceAdd, Nat.reduceLT, Nat.reduceLeDiff, Nat.zero_add, this]
  have s2 : aliasC 2 4 (asgC (tgN 1) (callE 3 F_exchanged [varE 1, varE 3, varE 4] [])) (SC N f r S (some (.nd .sh .lst (foL L))) (some (.nd .own .lst (ss.map Vl.int)))) = .nx (SC N .own r2 (S ++ [ss]) (some (.nd .sh .lst (foL L))) none) := by
    have g1 : asgC (tgN 1) (callE 3 F_exchanged [varE 1, varE 3, varE 4] []) ⟨[some (.nd .sh .lst (nw N)), some (.nd f .lst (r.map Vl.int)), none, some (.nd .sh .lst (foL L)), some (.nd .own .lst (ss.map Vl.int)), none, none], [], [4, 2]⟩ = .nx ⟨[some (.nd .sh .lst (nw N)), some (.nd .own .lst (r2.map Vl.int)), none, some (.nd .sh .lst (foL L)), some (.nd .own .lst (ss.map Vl.int)), none, none], [], [4, 2]⟩ := by
      rcases hf with rfl | rfl <;> simp (disch := omega) only [runF, seqC, bindC, asgC, tgN, tgT, tgsC, tgsN, opE, evs, varE, takE, frzE, cstE, retC, retNC, expC, ifC, passC, rsC, brkC, cntC, callE, srcE, andE, orE, ifE, seqE, notE, chainE, nt_non, nt_bl, nt_int, nt_str, nt_tup, nt_nil, nt_cons, so_non, so_bl, so_int, so_str, so_tup, so_nil, so_cons, no_non, no_bl, no_int, no_str, no_tup, no_nil, no_cons, nr_non, nr_bl, nr_int, nr_str, nr_tup, nr_nil, nr_cons, ao_non, ao_bl, ao_int, ao_str, ao_tup, ao_nil, ao_cons, pk_non, pk_bl, pk_int, pk_str, pk_tup, pk_nil, pk_cons, sf_non, sf_bl, sf_int, sf_str, sf_tup, sf_nil, sf_cons, ints_so, ints_nt, ints_no, ints_nr, ints_ao, ints_pk, ints_sf, ints_snoc, pk_nd, sf_nd, nt_nd, so_nd, no_nd, nr_nd, ao_nd, so_app, gLen_nd, gIx_nd, gLst_0, gLR1_ok, gLR2_ok, isi_lst, hSeq_nd, fp1, fp2, fp3, fb1, fb2, fb3, fb4, fb5, fb6, fb7, fb8, fb9, fb10, fb11, fb12, fb13, fb14, sf_enc, pk_own, pk_sh, pk_tr, nr_enc, ao_enc, so_own, so_sh, nt_own, nt_sh, no_sh, no_tr, no_own, nt_tr, gLen_enc, gIx_0, gIx_1, gLst_nil, hSeq_sh, hRng1_ok, hRng2_ok, gSub_ok, gAdd_ok, gNeg_ok, gMod_ok, gDiv_ok, gShl_ok, gShr_ok, gMul_r, gMul_l, gLt_ok, gLe_ok, gGt_ok, gGe_ok, gNot_ok, gTup_2, gTup_3, gMax2_ok, gMin2_ok, isi_int_int, isi_int_bool, isi_tup, isi_int_list, isi_list, gEq_int, gNe_int, List.getElem?_cons_zero, List.getElem?_cons_succ, List.set_cons_zero, List.set_cons_succ, List.length_cons, List.length_nil, List.map_cons, List.map_nil, List.cons_append, List.nil_append, List.replicate_zero, List.replicate_succ, decide_true, decide_false, Bool.and_true, Bool.true_and, Bool.and_false, Bool.false_and, Bool.or_true, Bool.true_or, Bool.or_false, Bool.false_or, Bool.not_true, Bool.not_false, if_true, if_false, ite_true, ite_false, reduceIte, List.contains_nil, List.contains_cons, Nat.reduceBEq, List.any_cons, List.any_nil, List.append_nil, Bool.false_eq_true, reduceCtorEq, Nat.reduceAdd, Nat.reduceLT, Nat.reduceLeDiff, Nat.zero_add, Int.reduceSub, Int.reduceAdd, Int.reduceMul, Int.reduceToNat, Int.reducePow, Int.one_mul, Int.reduceNeg, Int.reduceLT, Int.reduceLE, Int.zero_add, Int.add_zero, Int.reduceEq, Int.reduceMod, Int.reduceDiv, Int.reduceOfNat, Int.cast_ofNat_Int, foL_nt, foL_no, foL_nr, foL_pk, foL_sf, foL_so, foL_len, he]
    generalize asgC (tgN 1) (callE 3 F_exchanged [varE 1, varE 3, varE 4] []) = bd at *
    have so : stor (.nd .own .lst (ss.map Vl.int)) = true := ints_so ss
    unfold aliasC
    simp only [SC, List.getElem?_cons_succ, List.getElem?_cons_zero, so, z1, g1, iz, sn, List.contains_nil, List.set_cons_succ, List.set_cons_zero, Bool.not_false, Bool.and_self, if_true, Nat.reduceBEq]
  simp only [seqC, s1, s2]
theorem compared_ok {n : Nat} {N : List (List (Int × Int))} (h : Nt n N) {r : List Int} (hr : r.length = n) (hn : n ≤ 64) : F_compared [.nd .sh .lst (nw N), .nd .sh .lst (r.map Vl.int)] = .ok (.tup [.nd .own .lst (soL (cs N r)), .nd .own .lst ((ps N r).map Vl.int)]) := by
  obtain ⟨st, e1, f, o3, hf, hs⟩ := forL_map (g := tgN 3) (body := b_compared_L0) (ev := fun L => .nd .sh .lst (foL L)) N (st := ⟨[some (.nd .sh .lst (nw N)), some (.nd .sh .lst (r.map Vl.int)), some (.nd .own .lst []), none, none, none, none], [], []⟩)
    (fun p st => ∃ f o3, (f = .sh ∨ f = .own) ∧ st = SC N f (ps p r) (cs p r) o3 none) ⟨.sh, none, .inl rfl, rfl⟩ fun p L t st hz ⟨f, o3, hf, hs⟩ => by
      subst hs
      have hL := h.h L (by rw [hz]; simp)
      have hp : p.length ≤ 40 := by have := h.l; rw [hz, List.length_append] at this; omega
      rw [ps_snoc, cs_snoc]
      exact ⟨_, _, by simp (disch := omega) only [runF, seqC, bindC, asgC, tgN, tgT, tgsC, tgsN, opE, evs, varE, takE, frzE, cstE, retC, retNC, expC, ifC, passC, rsC, brkC, cntC, callE, srcE, andE, orE, ifE, seqE, notE, chainE, nt_non, nt_bl, nt_int, nt_str, nt_tup, nt_nil, nt_cons, so_non, so_bl, so_int, so_str, so_tup, so_nil, so_cons, no_non, no_bl, no_int, no_str, no_tup, no_nil, no_cons, nr_non, nr_bl, nr_int, nr_str, nr_tup, nr_nil, nr_cons, ao_non, ao_bl, ao_int, ao_str, ao_tup, ao_nil, ao_cons, pk_non, pk_bl, pk_int, pk_str, pk_tup, pk_nil, pk_cons, sf_non, sf_bl, sf_int, sf_str, sf_tup, sf_nil, sf_cons, ints_so, ints_nt, ints_no, ints_nr, ints_ao, ints_pk, ints_sf, ints_snoc, pk_nd, sf_nd, nt_nd, so_nd, no_nd, nr_nd, ao_nd, so_app, gLen_nd, gIx_nd, gLst_0, gLR1_ok, gLR2_ok, isi_lst, hSeq_nd, fp1, fp2, fp3, fb1, fb2, fb3, fb4, fb5, fb6, fb7, fb8, fb9, fb10, fb11, fb12, fb13, fb14, sf_enc, pk_own, pk_sh, pk_tr, nr_enc, ao_enc, so_own, so_sh, nt_own, nt_sh, no_sh, no_tr, no_own, nt_tr, gLen_enc, gIx_0, gIx_1, gLst_nil, hSeq_sh, hRng1_ok, hRng2_ok, gSub_ok, gAdd_ok, gNeg_ok, gMod_ok, gDiv_ok, gShl_ok, gShr_ok, gMul_r, gMul_l, gLt_ok, gLe_ok, gGt_ok, gGe_ok, gNot_ok, gTup_2, gTup_3, gMax2_ok, gMin2_ok, isi_int_int, isi_int_bool, isi_tup, isi_int_list, isi_list, gEq_int, gNe_int, List.getElem?_cons_zero, List.getElem?_cons_succ, List.set_cons_zero, List.set_cons_succ, List.length_cons, List.length_nil, List.map_cons, List.map_nil, List.cons_append, List.nil_append, List.replicate_zero, List.replicate_succ, decide_true, decide_false, Bool.and_true, Bool.true_and, Bool.and_false, Bool.false_and, Bool.or_true, Bool.true_or, Bool.or_false, Bool.false_or, Bool.not_true, Bool.not_false, if_true, if_false, ite_true, ite_false, reduceIte, List.contains_nil, List.contains_cons, Nat.reduceBEq, List.any_cons, List.any_nil, List.append_nil, Bool.false_eq_true, reduceCtorEq, Nat.reduceAdd, Nat.reduceLT, Nat.reduceLeDiff, Nat.zero_add, foL_nt, foL_no, foL_nr, foL_pk, foL_sf, foL_so, foL_len], .inl (cmp_step N hL f hf (ps p r) (by rw [ps_len]; exact hr) (cs p r) (by rw [cs_len]; omega) none), .own, _, .inr rfl, rfl⟩
  subst hs
  have e0 : nw N = N.map fun L => .nd .sh .lst (foL L) := rfl
  rw [← e0] at e1
  have no := nw_no N
  have nt := nw_nt N
  have ao := soL_ao (cs N r)
  have nt2 := soL_nt (cs N r)
  have gl : ∀ f, gList [.nd f .lst ((ps N r).map Vl.int)] = some (.nd .own .lst ((ps N r).map Vl.int)) := fun f => by
    show some (mkL _) = _
    rw [mkL_ints]
  simp only [SC] at e1
  generalize ps N r = r2 at *
  generalize soL (cs N r) = ss at *
  generalize hq : forL (tgN 3) b_compared_L0 = flp at e1
  rcases hf with rfl | rfl <;> simp (disch := omega) only [F_compared, b_compared, forC, hq, runF, seqC, bindC, asgC, tgN, tgT, tgsC, tgsN, opE, evs, varE, takE, frzE, cstE, retC, retNC, expC, ifC, passC, rsC, brkC, cntC, callE, srcE, andE, orE, ifE, seqE, notE, chainE, nt_non, nt_bl, nt_int, nt_str, nt_tup, nt_nil, nt_cons, so_non, so_bl, so_int, so_str, so_tup, so_nil, so_cons, no_non, no_bl, no_int, no_str, no_tup, no_nil, no_cons, nr_non, nr_bl, nr_int, nr_str, nr_tup, nr_nil, nr_cons, ao_non, ao_bl, ao_int, ao_str, ao_tup, ao_nil, ao_cons, pk_non, pk_bl, pk_int, pk_str, pk_tup, pk_nil, pk_cons, sf_non, sf_bl, sf_int, sf_str, sf_tup, sf_nil, sf_cons, ints_so, ints_nt, ints_no, ints_nr, ints_ao, ints_pk, ints_sf, ints_snoc, pk_nd, sf_nd, nt_nd, so_nd, no_nd, nr_nd, ao_nd, so_app, gLen_nd, gIx_nd, gLst_0, gLR1_ok, gLR2_ok, isi_lst, hSeq_nd, fp1, fp2, fp3, fb1, fb2, fb3, fb4, fb5, fb6, fb7, fb8, fb9, fb10, fb11, fb12, fb13, fb14, sf_enc, pk_own, pk_sh, pk_tr, nr_enc, ao_enc, so_own, so_sh, nt_own, nt_sh, no_sh, no_tr, no_own, nt_tr, gLen_enc, gIx_0, gIx_1, gLst_nil, hSeq_sh, hRng1_ok, hRng2_ok, gSub_ok, gAdd_ok, gNeg_ok, gMod_ok, gDiv_ok, gShl_ok, gShr_ok, gMul_r, gMul_l, gLt_ok, gLe_ok, gGt_ok, gGe_ok, gNot_ok, gTup_2, gTup_3, gMax2_ok, gMin2_ok, isi_int_int, isi_int_bool, isi_tup, isi_int_list, isi_list, gEq_int, gNe_int, List.getElem?_cons_zero, List.getElem?_cons_succ, List.set_cons_zero, List.set_cons_succ, List.length_cons, List.length_nil, List.map_cons, List.map_nil, List.cons_append, List.nil_append, List.replicate_zero, List.replicate_succ, decide_true, decide_false, Bool.and_true, Bool.true_and, Bool.and_false, Bool.false_and, Bool.or_true, Bool.true_or, Bool.or_false, Bool.false_or, Bool.not_true, Bool.not_false, if_true, if_false, ite_true, ite_false, reduceIte, List.contains_nil, List.contains_cons, Nat.reduceBEq, List.any_cons, List.any_nil, List.append_nil, Bool.false_eq_true, reduceCtorEq, Nat.reduceAdd, Nat.reduceLT, Nat.reduceLeDiff, Nat.zero_add, Int.reduceSub, Int.reduceAdd, Int.reduceMul, Int.reduceToNat, Int.reducePow, Int.one_mul, Int.reduceNeg, Int.reduceLT, Int.reduceLE, Int.zero_add, Int.add_zero, Int.reduceEq, Int.reduceMod, Int.reduceDiv, Int.reduceOfNat, Int.cast_ofNat_Int, e1, no, nt, ao, nt2, gl, Nat.reduceSub, List.length_map]
end K41

namespace K41
open PyI
open Enc (enc)
--%DEF FO foL_nt, foL_no, foL_nr, foL_pk, foL_sf, foL_so, foL_len
--%DEF NW nw_nt, nw_no, nw_nr, nw_pk, nw_sf, nw_len
/-! ### need_net -/
theorem num_int {i hi : Int} (h0 : 0 ≤ i) (h1 : i ≤ hi) : F_is_number [.int i, .int 0, .int hi] = .ok (.bl true) := by
  have := num_ok (.int i) rfl rfl hi
  rw [show isNum hi (.int i) = true from by show (decide (0 ≤ i) && decide (i ≤ hi)) = true; rw [decide_eq_true h0, decide_eq_true h1]; rfl] at this
  exact this
theorem num_int1 {n : Int} (h0 : 1 ≤ n) (h1 : n ≤ 64) : F_is_number [.int n, .int 1, .int 64] = .ok (.bl true) := by
  have a : decide ((1 : Int) ≤ n) = true := decide_eq_true h0
  have b : decide (n ≤ (64 : Int)) = true := decide_eq_true h1
  simp (disch := omega) only [F_is_number, b_is_number, runF, seqC, bindC, asgC, tgN, tgT, tgsC, tgsN, opE, evs, varE, takE, frzE, cstE, retC, retNC, expC, ifC, passC, rsC, brkC, cntC, callE, srcE, andE, orE, ifE, seqE, notE, chainE, nt_non, nt_bl, nt_int, nt_str, nt_tup, nt_nil, nt_cons, so_non, so_bl, so_int, so_str, so_tup, so_nil, so_cons, no_non, no_bl, no_int, no_str, no_tup, no_nil, no_cons, nr_non, nr_bl, nr_int, nr_str, nr_tup, nr_nil, nr_cons, ao_non, ao_bl, ao_int, ao_str, ao_tup, ao_nil, ao_cons, pk_non, pk_bl, pk_int, pk_str, pk_tup, pk_nil, pk_cons, sf_non, sf_bl, sf_int, sf_str, sf_tup, sf_nil, sf_cons, ints_so, ints_nt, ints_no, ints_nr, ints_ao, ints_pk, ints_sf, ints_snoc, pk_nd, sf_nd, nt_nd, so_nd, no_nd, nr_nd, ao_nd, so_app, gLen_nd, gIx_nd, gLst_0, gLR1_ok, gLR2_ok, isi_lst, hSeq_nd, fp1, fp2, fp3, fb1, fb2, fb3, fb4, fb5, fb6, fb7, fb8, fb9, fb10, fb11, fb12, fb13, fb14, sf_enc, pk_own, pk_sh, pk_tr, nr_enc, ao_enc, so_own, so_sh, nt_own, nt_sh, no_sh, no_tr, no_own, nt_tr, gLen_enc, gIx_0, gIx_1, gLst_nil, hSeq_sh, hRng1_ok, hRng2_ok, gSub_ok, gAdd_ok, gNeg_ok, gMod_ok, gDiv_ok, gShl_ok, gShr_ok, gMul_r, gMul_l, gLt_ok, gLe_ok, gGt_ok, gGe_ok, gNot_ok, gTup_2, gTup_3, gMax2_ok, gMin2_ok, isi_int_int, isi_int_bool, isi_tup, isi_int_list, isi_list, gEq_int, gNe_int, List.getElem?_cons_zero, List.getElem?_cons_succ, List.set_cons_zero, List.set_cons_succ, List.length_cons, List.length_nil, List.map_cons, List.map_nil, List.cons_append, List.nil_append, List.replicate_zero, List.replicate_succ, decide_true, decide_false, Bool.and_true, Bool.true_and, Bool.and_false, Bool.false_and, Bool.or_true, Bool.true_or, Bool.or_false, Bool.false_or, Bool.not_true, Bool.not_false, if_true, if_false, ite_true, ite_false, reduceIte, List.contains_nil, List.contains_cons, Nat.reduceBEq, List.any_cons, List.any_nil, List.append_nil, Bool.false_eq_true, reduceCtorEq, Nat.reduceAdd, Nat.reduceLT, Nat.reduceLeDiff, Nat.zero_add, Int.reduceSub, Int.reduceAdd, Int.reduceMul, Int.reduceToNat, Int.reducePow, Int.one_mul, Int.reduceNeg, Int.reduceLT, Int.reduceLE, Int.zero_add, Int.add_zero, Int.reduceEq, Int.reduceMod, Int.reduceDiv, Int.reduceOfNat, Int.cast_ofNat_Int, isi_int_int, isi_int_bool, a, b]
theorem switch_ok {n : Nat} {p : Int × Int} (h : 0 ≤ p.1 ∧ p.1 < p.2 ∧ p.2 ≤ (n : Int) - 1) : F_is_switch [pV p, .int n] = .ok (.bl true) := by
  obtain ⟨a, b, c⟩ := h
  have f1 := num_int (i := p.2) (hi := (n : Int) - 1) (by omega) c
  have f2 := num_int (i := p.1) (hi := p.2 - 1) a (by omega)
  have gl : gLen [.tup [.int p.1, .int p.2]] = some (.int 2) := rfl
  have g1 : gNe [.int 2, .int 2] = some (.bl false) := by rw [gNe_int]; rfl
  simp (disch := omega) only [F_is_switch, b_is_switch, runF, seqC, bindC, asgC, tgN, tgT, tgsC, tgsN, opE, evs, varE, takE, frzE, cstE, retC, retNC, expC, ifC, passC, rsC, brkC, cntC, callE, srcE, andE, orE, ifE, seqE, notE, chainE, nt_non, nt_bl, nt_int, nt_str, nt_tup, nt_nil, nt_cons, so_non, so_bl, so_int, so_str, so_tup, so_nil, so_cons, no_non, no_bl, no_int, no_str, no_tup, no_nil, no_cons, nr_non, nr_bl, nr_int, nr_str, nr_tup, nr_nil, nr_cons, ao_non, ao_bl, ao_int, ao_str, ao_tup, ao_nil, ao_cons, pk_non, pk_bl, pk_int, pk_str, pk_tup, pk_nil, pk_cons, sf_non, sf_bl, sf_int, sf_str, sf_tup, sf_nil, sf_cons, ints_so, ints_nt, ints_no, ints_nr, ints_ao, ints_pk, ints_sf, ints_snoc, pk_nd, sf_nd, nt_nd, so_nd, no_nd, nr_nd, ao_nd, so_app, gLen_nd, gIx_nd, gLst_0, gLR1_ok, gLR2_ok, isi_lst, hSeq_nd, fp1, fp2, fp3, fb1, fb2, fb3, fb4, fb5, fb6, fb7, fb8, fb9, fb10, fb11, fb12, fb13, fb14, sf_enc, pk_own, pk_sh, pk_tr, nr_enc, ao_enc, so_own, so_sh, nt_own, nt_sh, no_sh, no_tr, no_own, nt_tr, gLen_enc, gIx_0, gIx_1, gLst_nil, hSeq_sh, hRng1_ok, hRng2_ok, gSub_ok, gAdd_ok, gNeg_ok, gMod_ok, gDiv_ok, gShl_ok, gShr_ok, gMul_r, gMul_l, gLt_ok, gLe_ok, gGt_ok, gGe_ok, gNot_ok, gTup_2, gTup_3, gMax2_ok, gMin2_ok, isi_int_int, isi_int_bool, isi_tup, isi_int_list, isi_list, gEq_int, gNe_int, List.getElem?_cons_zero, List.getElem?_cons_succ, List.set_cons_zero, List.set_cons_succ, List.length_cons, List.length_nil, List.map_cons, List.map_nil, List.cons_append, List.nil_append, List.replicate_zero, List.replicate_succ, decide_true, decide_false, Bool.and_true, Bool.true_and, Bool.and_false, Bool.false_and, Bool.or_true, Bool.true_or, Bool.or_false, Bool.false_or, Bool.not_true, Bool.not_false, if_true, if_false, ite_true, ite_false, reduceIte, List.contains_nil, List.contains_cons, Nat.reduceBEq, List.any_cons, List.any_nil, List.append_nil, Bool.false_eq_true, reduceCtorEq, Nat.reduceAdd, Nat.reduceLT, Nat.reduceLeDiff, Nat.zero_add, Int.reduceSub, Int.reduceAdd, Int.reduceMul, Int.reduceToNat, Int.reducePow, Int.one_mul, Int.reduceNeg, Int.reduceLT, Int.reduceLE, Int.zero_add, Int.add_zero, Int.reduceEq, Int.reduceMod, Int.reduceDiv, Int.reduceOfNat, Int.cast_ofNat_Int, f1, f2, gl, g1, isi_tup]
/-- as it stands when sorted -/
def Sd (L : List (Int × Int)) : Prop := SrtT (L.map fun p => [p.1, p.2])
theorem Sd.eq {L : List (Int × Int)} (h : Sd L) (f : Fl) : gSort [.nd f .lst (foL L)] = some (.nd .own .lst (foL L)) := by
  cases L with
  | nil => rfl
  | cons p r =>
    have h0 : intsOf (foL (p :: r)) = none := rfl
    generalize p :: r = L at *
    have ht := tis_fo L
    have e : sortT (L.map fun p => [p.1, p.2]) = L.map fun p => [p.1, p.2] := srtT_uniq (sortT_perm _) (sortT_sorted _) h
    show (match intsOf (foL L) with
      | some ns => some (Vl.nd .own .lst ((sortI ns).map Vl.int))
      | none => (tisOf (foL L)).map fun ts => Vl.nd .own .lst ((sortT ts).map tiV)) = _
    rw [h0, ht]
    show some (Vl.nd .own .lst ((sortT (L.map fun p => [p.1, p.2])).map tiV)) = _
    rw [e, List.map_map]
    rfl
theorem used_nodup {n : Nat} : ∀ {L : List (Int × Int)}, Ly n L → ((L.map fun p => p.1) ++ (L.map fun p => p.2)).Nodup
  | [], _ => by simp
  | p :: t, h => by
    have ih := used_nodup h.tail
    obtain ⟨h1, _⟩ := List.pairwise_cons.mp h.d
    obtain ⟨b1, b2, b3⟩ := h.b p List.mem_cons_self
    rw [List.nodup_append] at ih ⊢
    obtain ⟨i1, i2, i3⟩ := ih
    refine ⟨?_, ?_, ?_⟩
    · rw [List.map_cons, List.nodup_cons]
      refine ⟨fun m => ?_, i1⟩
      obtain ⟨q, hq, e⟩ := List.mem_map.mp m
      exact (h1 q hq).1 e.symm
    · rw [List.map_cons, List.nodup_cons]
      refine ⟨fun m => ?_, i2⟩
      obtain ⟨q, hq, e⟩ := List.mem_map.mp m
      exact (h1 q hq).2.2.2 e.symm
    · intro x hx y hy e
      subst e
      rw [List.map_cons] at hx hy
      rcases List.mem_cons.mp hx with e1 | hx
      · rcases List.mem_cons.mp hy with e2 | hy
        · omega
        · obtain ⟨q, hq, e⟩ := List.mem_map.mp hy
          exact (h1 q hq).2.1 (by rw [← e1, ← e])
      · rcases List.mem_cons.mp hy with e2 | hy
        · obtain ⟨q, hq, e⟩ := List.mem_map.mp hx
          exact (h1 q hq).2.2.1 (by rw [← e2, ← e])
        · exact i3 x hx x hy rfl
theorem is_layer_ok {n : Nat} {L : List (Int × Int)} (h : Ly n L) (hs : Sd L) : F_is_layer [.nd .sh .lst (foL L), .int n] = .ok (.bl true) := by
  have hl := h.l
  have eL : foL L = L.map pV := rfl
  have s0 : ∀ o2 o3 o4 o5, srcE hSeq [varE 0] ⟨[some (.nd .sh .lst (foL L)), some (.int n), o2, o3, o4, o5], [], []⟩ = .ok (L.map pV, false, ⟨[some (.nd .sh .lst (foL L)), some (.int n), o2, o3, o4, o5], [], []⟩, false) := fun o2 o3 o4 o5 => by
    simp (disch := omega) only [runF, seqC, bindC, asgC, tgN, tgT, tgsC, tgsN, opE, evs, varE, takE, frzE, cstE, retC, retNC, expC, ifC, passC, rsC, brkC, cntC, callE, srcE, andE, orE, ifE, seqE, notE, chainE, nt_non, nt_bl, nt_int, nt_str, nt_tup, nt_nil, nt_cons, so_non, so_bl, so_int, so_str, so_tup, so_nil, so_cons, no_non, no_bl, no_int, no_str, no_tup, no_nil, no_cons, nr_non, nr_bl, nr_int, nr_str, nr_tup, nr_nil, nr_cons, ao_non, ao_bl, ao_int, ao_str, ao_tup, ao_nil, ao_cons, pk_non, pk_bl, pk_int, pk_str, pk_tup, pk_nil, pk_cons, sf_non, sf_bl, sf_int, sf_str, sf_tup, sf_nil, sf_cons, ints_so, ints_nt, ints_no, ints_nr, ints_ao, ints_pk, ints_sf, ints_snoc, pk_nd, sf_nd, nt_nd, so_nd, no_nd, nr_nd, ao_nd, so_app, gLen_nd, gIx_nd, gLst_0, gLR1_ok, gLR2_ok, isi_lst, hSeq_nd, fp1, fp2, fp3, fb1, fb2, fb3, fb4, fb5, fb6, fb7, fb8, fb9, fb10, fb11, fb12, fb13, fb14, sf_enc, pk_own, pk_sh, pk_tr, nr_enc, ao_enc, so_own, so_sh, nt_own, nt_sh, no_sh, no_tr, no_own, nt_tr, gLen_enc, gIx_0, gIx_1, gLst_nil, hSeq_sh, hRng1_ok, hRng2_ok, gSub_ok, gAdd_ok, gNeg_ok, gMod_ok, gDiv_ok, gShl_ok, gShr_ok, gMul_r, gMul_l, gLt_ok, gLe_ok, gGt_ok, gGe_ok, gNot_ok, gTup_2, gTup_3, gMax2_ok, gMin2_ok, isi_int_int, isi_int_bool, isi_tup, isi_int_list, isi_list, gEq_int, gNe_int, List.getElem?_cons_zero, List.getElem?_cons_succ, List.set_cons_zero, List.set_cons_succ, List.length_cons, List.length_nil, List.map_cons, List.map_nil, List.cons_append, List.nil_append, List.replicate_zero, List.replicate_succ, decide_true, decide_false, Bool.and_true, Bool.true_and, Bool.and_false, Bool.false_and, Bool.or_true, Bool.true_or, Bool.or_false, Bool.false_or, Bool.not_true, Bool.not_false, if_true, if_false, ite_true, ite_false, reduceIte, List.contains_nil, List.contains_cons, Nat.reduceBEq, List.any_cons, List.any_nil, List.append_nil, Bool.false_eq_true, reduceCtorEq, Nat.reduceAdd, Nat.reduceLT, Nat.reduceLeDiff, Nat.zero_add, Int.reduceSub, Int.reduceAdd, Int.reduceMul, Int.reduceToNat, Int.reducePow, Int.one_mul, Int.reduceNeg, Int.reduceLT, Int.reduceLE, Int.zero_add, Int.add_zero, Int.reduceEq, Int.reduceMod, Int.reduceDiv, Int.reduceOfNat, Int.cast_ofNat_Int, foL_nt, foL_no, foL_nr, foL_pk, foL_sf, foL_so, foL_len]
    rw [eL]
  have hc1 : compE [5] (tgN 5) (srcE hSeq [varE 0]) (cstE (.bl true)) (callE 2 F_is_switch [varE 5, varE 1] []) ⟨[some (.nd .sh .lst (foL L)), some (.int n), none, none, none, none], [], []⟩ = .ok (mkL (L.map fun _ => Vl.bl true), (⟨[some (.nd .sh .lst (foL L)), some (.int n), none, none, none, none], [], []⟩ : Sta), false) := by
    refine compE_all (vs := [5]) (st1 := ⟨[some (.nd .sh .lst (foL L)), some (.int n), none, none, none, none], [], []⟩) (ev := pV) (tr := false) L (fun _ => Vl.bl true) (s0 _ _ _ _) rfl (fun p hp => ?_) (by rw [PySem.sizeLine_eq]; omega)
    refine ⟨⟨[some (.nd .sh .lst (foL L)), some (.int n), none, none, none, some (pV p)], [], []⟩, rfl, ?_, rfl, rfl⟩
    have := switch_ok (h.b p hp)
    simp (disch := omega) only [runF, seqC, bindC, asgC, tgN, tgT, tgsC, tgsN, opE, evs, varE, takE, frzE, cstE, retC, retNC, expC, ifC, passC, rsC, brkC, cntC, callE, srcE, andE, orE, ifE, seqE, notE, chainE, nt_non, nt_bl, nt_int, nt_str, nt_tup, nt_nil, nt_cons, so_non, so_bl, so_int, so_str, so_tup, so_nil, so_cons, no_non, no_bl, no_int, no_str, no_tup, no_nil, no_cons, nr_non, nr_bl, nr_int, nr_str, nr_tup, nr_nil, nr_cons, ao_non, ao_bl, ao_int, ao_str, ao_tup, ao_nil, ao_cons, pk_non, pk_bl, pk_int, pk_str, pk_tup, pk_nil, pk_cons, sf_non, sf_bl, sf_int, sf_str, sf_tup, sf_nil, sf_cons, ints_so, ints_nt, ints_no, ints_nr, ints_ao, ints_pk, ints_sf, ints_snoc, pk_nd, sf_nd, nt_nd, so_nd, no_nd, nr_nd, ao_nd, so_app, gLen_nd, gIx_nd, gLst_0, gLR1_ok, gLR2_ok, isi_lst, hSeq_nd, fp1, fp2, fp3, fb1, fb2, fb3, fb4, fb5, fb6, fb7, fb8, fb9, fb10, fb11, fb12, fb13, fb14, sf_enc, pk_own, pk_sh, pk_tr, nr_enc, ao_enc, so_own, so_sh, nt_own, nt_sh, no_sh, no_tr, no_own, nt_tr, gLen_enc, gIx_0, gIx_1, gLst_nil, hSeq_sh, hRng1_ok, hRng2_ok, gSub_ok, gAdd_ok, gNeg_ok, gMod_ok, gDiv_ok, gShl_ok, gShr_ok, gMul_r, gMul_l, gLt_ok, gLe_ok, gGt_ok, gGe_ok, gNot_ok, gTup_2, gTup_3, gMax2_ok, gMin2_ok, isi_int_int, isi_int_bool, isi_tup, isi_int_list, isi_list, gEq_int, gNe_int, List.getElem?_cons_zero, List.getElem?_cons_succ, List.set_cons_zero, List.set_cons_succ, List.length_cons, List.length_nil, List.map_cons, List.map_nil, List.cons_append, List.nil_append, List.replicate_zero, List.replicate_succ, decide_true, decide_false, Bool.and_true, Bool.true_and, Bool.and_false, Bool.false_and, Bool.or_true, Bool.true_or, Bool.or_false, Bool.false_or, Bool.not_true, Bool.not_false, if_true, if_false, ite_true, ite_false, reduceIte, List.contains_nil, List.contains_cons, Nat.reduceBEq, List.any_cons, List.any_nil, List.append_nil, Bool.false_eq_true, reduceCtorEq, Nat.reduceAdd, Nat.reduceLT, Nat.reduceLeDiff, Nat.zero_add, Int.reduceSub, Int.reduceAdd, Int.reduceMul, Int.reduceToNat, Int.reducePow, Int.one_mul, Int.reduceNeg, Int.reduceLT, Int.reduceLE, Int.zero_add, Int.add_zero, Int.reduceEq, Int.reduceMod, Int.reduceDiv, Int.reduceOfNat, Int.cast_ofNat_Int, this]
  have ga : gAll [mkL (L.map fun _ => Vl.bl true)] = some (.bl true) := by
    rw [gAll_bls (fun _ => true) L]
    congr 2
    exact List.all_eq_true.mpr fun _ _ => rfl
  have hc2 : compE [3, 4] (tgT 2 (tgsC (tgN 3) (tgsC (tgN 4) tgsN))) (srcE hSeq [varE 0]) (cstE (.bl true)) (frzE 3) ⟨[some (.nd .sh .lst (foL L)), some (.int n), none, none, none, none], [], []⟩ = .ok (mkL (L.map fun p => Vl.int p.1), (⟨[some (.nd .sh .lst (foL L)), some (.int n), none, none, none, none], [], []⟩ : Sta), false) := by
    refine compE_all (vs := [3, 4]) (st1 := ⟨[some (.nd .sh .lst (foL L)), some (.int n), none, none, none, none], [], []⟩) (ev := pV) (tr := false) L (fun p => Vl.int p.1) (s0 _ _ _ _) rfl (fun p hp => ?_) (by rw [PySem.sizeLine_eq]; omega)
    exact ⟨⟨[some (.nd .sh .lst (foL L)), some (.int n), none, some (.int p.1), some (.int p.2), none], [], []⟩, rfl, rfl, rfl, rfl⟩
  have hc3 : compE [3, 4] (tgT 2 (tgsC (tgN 3) (tgsC (tgN 4) tgsN))) (srcE hSeq [varE 0]) (cstE (.bl true)) (frzE 4) ⟨[some (.nd .sh .lst (foL L)), some (.int n), none, none, none, none], [], []⟩ = .ok (mkL (L.map fun p => Vl.int p.2), (⟨[some (.nd .sh .lst (foL L)), some (.int n), none, none, none, none], [], []⟩ : Sta), false) := by
    refine compE_all (vs := [3, 4]) (st1 := ⟨[some (.nd .sh .lst (foL L)), some (.int n), none, none, none, none], [], []⟩) (ev := pV) (tr := false) L (fun p => Vl.int p.2) (s0 _ _ _ _) rfl (fun p hp => ?_) (by rw [PySem.sizeLine_eq]; omega)
    exact ⟨⟨[some (.nd .sh .lst (foL L)), some (.int n), none, some (.int p.1), some (.int p.2), none], [], []⟩, rfl, rfl, rfl, rfl⟩
  rw [map_ints (fun p : Int × Int => p.1) L, mkL_ints] at hc2
  rw [map_ints (fun p : Int × Int => p.2) L, mkL_ints] at hc3
  have hn := used_nodup h
  have gad : gAdd [.nd .own .lst ((L.map fun p => p.1).map Vl.int), .nd .own .lst ((L.map fun p => p.2).map Vl.int)] = some (.nd .own .lst (((L.map fun p => p.1) ++ (L.map fun p => p.2)).map Vl.int)) := gAdd_ints _ _ _ _ (by simp; omega)
  have hul : ((L.map fun p => p.1) ++ (L.map fun p => p.2)).length ≤ 1000 := by simp; omega
  generalize (L.map fun p => p.1) ++ (L.map fun p => p.2) = us at *
  have gls : gLenSet [.nd .tr .lst (us.map Vl.int)] = some (.int us.length) := by
    show (intsOf (us.map Vl.int)).bind (fun ns => if ns.length ≤ 1000 then some (Vl.int (dedupL ns).length) else none) = _
    rw [intsOf_ints]
    show (if us.length ≤ 1000 then some (Vl.int (dedupL us).length) else none) = _
    rw [if_pos hul, (dd_nodup us).mpr hn]
  have hso := hs.eq .sh
  have geq : gEq [.nd .sh .lst (foL L), .nd .own .lst (foL L)] = some (.bl true) := by
    have := gEq_enc (f := .sh) (g := .own) L L
    rw [decide_eq_true rfl] at this
    exact this
  have ge2 : gEq [.int us.length, .int us.length] = some (.bl true) := by rw [gEq_int]; simp
  generalize mkL (L.map fun _ => Vl.bl true) = wb at *
  generalize hq1 : compE [5] (tgN 5) (srcE hSeq [varE 0]) (cstE (.bl true)) (callE 2 F_is_switch [varE 5, varE 1] []) = k1 at hc1
  generalize hq2 : compE [3, 4] (tgT 2 (tgsC (tgN 3) (tgsC (tgN 4) tgsN))) (srcE hSeq [varE 0]) (cstE (.bl true)) (frzE 3) = k2 at hc2
  generalize hq3 : compE [3, 4] (tgT 2 (tgsC (tgN 3) (tgsC (tgN 4) tgsN))) (srcE hSeq [varE 0]) (cstE (.bl true)) (frzE 4) = k3 at hc3
  simp (disch := omega) only [F_is_layer, b_is_layer, hq1, hq2, hq3, runF, seqC, bindC, asgC, tgN, tgT, tgsC, tgsN, opE, evs, varE, takE, frzE, cstE, retC, retNC, expC, ifC, passC, rsC, brkC, cntC, callE, srcE, andE, orE, ifE, seqE, notE, chainE, nt_non, nt_bl, nt_int, nt_str, nt_tup, nt_nil, nt_cons, so_non, so_bl, so_int, so_str, so_tup, so_nil, so_cons, no_non, no_bl, no_int, no_str, no_tup, no_nil, no_cons, nr_non, nr_bl, nr_int, nr_str, nr_tup, nr_nil, nr_cons, ao_non, ao_bl, ao_int, ao_str, ao_tup, ao_nil, ao_cons, pk_non, pk_bl, pk_int, pk_str, pk_tup, pk_nil, pk_cons, sf_non, sf_bl, sf_int, sf_str, sf_tup, sf_nil, sf_cons, ints_so, ints_nt, ints_no, ints_nr, ints_ao, ints_pk, ints_sf, ints_snoc, pk_nd, sf_nd, nt_nd, so_nd, no_nd, nr_nd, ao_nd, so_app, gLen_nd, gIx_nd, gLst_0, gLR1_ok, gLR2_ok, isi_lst, hSeq_nd, fp1, fp2, fp3, fb1, fb2, fb3, fb4, fb5, fb6, fb7, fb8, fb9, fb10, fb11, fb12, fb13, fb14, sf_enc, pk_own, pk_sh, pk_tr, nr_enc, ao_enc, so_own, so_sh, nt_own, nt_sh, no_sh, no_tr, no_own, nt_tr, gLen_enc, gIx_0, gIx_1, gLst_nil, hSeq_sh, hRng1_ok, hRng2_ok, gSub_ok, gAdd_ok, gNeg_ok, gMod_ok, gDiv_ok, gShl_ok, gShr_ok, gMul_r, gMul_l, gLt_ok, gLe_ok, gGt_ok, gGe_ok, gNot_ok, gTup_2, gTup_3, gMax2_ok, gMin2_ok, isi_int_int, isi_int_bool, isi_tup, isi_int_list, isi_list, gEq_int, gNe_int, List.getElem?_cons_zero, List.getElem?_cons_succ, List.set_cons_zero, List.set_cons_succ, List.length_cons, List.length_nil, List.map_cons, List.map_nil, List.cons_append, List.nil_append, List.replicate_zero, List.replicate_succ, decide_true, decide_false, Bool.and_true, Bool.true_and, Bool.and_false, Bool.false_and, Bool.or_true, Bool.true_or, Bool.or_false, Bool.false_or, Bool.not_true, Bool.not_false, if_true, if_false, ite_true, ite_false, reduceIte, List.contains_nil, List.contains_cons, Nat.reduceBEq, List.any_cons, List.any_nil, List.append_nil, Bool.false_eq_true, reduceCtorEq, Nat.reduceAdd, Nat.reduceLT, Nat.reduceLeDiff, Nat.zero_add, Int.reduceSub, Int.reduceAdd, Int.reduceMul, Int.reduceToNat, Int.reducePow, Int.one_mul, Int.reduceNeg, Int.reduceLT, Int.reduceLE, Int.zero_add, Int.add_zero, Int.reduceEq, Int.reduceMod, Int.reduceDiv, Int.reduceOfNat, Int.cast_ofNat_Int, foL_nt, foL_no, foL_nr, foL_pk, foL_sf, foL_so, foL_len, hc1, hc2, hc3, ga, gad, gls, hso, geq, ge2, Nat.reduceSub, List.length_map]
theorem need_net_ok {n : Nat} (n1 : 1 ≤ n) (n2 : n ≤ 64) {N : List (List (Int × Int))} (h : Nt n N) (hs : ∀ L ∈ N, Sd L) : F_need_net [.nd .sh .lst (nw N), .int n] = .ok .non := by
  have hl := h.l
  have e0 : nw N = N.map fun L => .nd .sh .lst (foL L) := rfl
  have hc : compE [2] (tgN 2) (srcE hSeq [varE 0]) (cstE (.bl true)) (callE 2 F_is_layer [varE 2, varE 1] []) ⟨[some (.nd .sh .lst (nw N)), some (.int n), none], [], []⟩ = .ok (mkL (N.map fun _ => Vl.bl true), (⟨[some (.nd .sh .lst (nw N)), some (.int n), none], [], []⟩ : Sta), false) := by
    refine compE_all (vs := [2]) (st1 := ⟨[some (.nd .sh .lst (nw N)), some (.int n), none], [], []⟩) (ev := fun L => .nd .sh .lst (foL L)) (tr := false) N (fun _ => Vl.bl true) ?_ rfl (fun L hL => ?_) (by rw [PySem.sizeLine_eq]; omega)
    · simp (disch := omega) only [runF, seqC, bindC, asgC, tgN, tgT, tgsC, tgsN, opE, evs, varE, takE, frzE, cstE, retC, retNC, expC, ifC, passC, rsC, brkC, cntC, callE, srcE, andE, orE, ifE, seqE, notE, chainE, nt_non, nt_bl, nt_int, nt_str, nt_tup, nt_nil, nt_cons, so_non, so_bl, so_int, so_str, so_tup, so_nil, so_cons, no_non, no_bl, no_int, no_str, no_tup, no_nil, no_cons, nr_non, nr_bl, nr_int, nr_str, nr_tup, nr_nil, nr_cons, ao_non, ao_bl, ao_int, ao_str, ao_tup, ao_nil, ao_cons, pk_non, pk_bl, pk_int, pk_str, pk_tup, pk_nil, pk_cons, sf_non, sf_bl, sf_int, sf_str, sf_tup, sf_nil, sf_cons, ints_so, ints_nt, ints_no, ints_nr, ints_ao, ints_pk, ints_sf, ints_snoc, pk_nd, sf_nd, nt_nd, so_nd, no_nd, nr_nd, ao_nd, so_app, gLen_nd, gIx_nd, gLst_0, gLR1_ok, gLR2_ok, isi_lst, hSeq_nd, fp1, fp2, fp3, fb1, fb2, fb3, fb4, fb5, fb6, fb7, fb8, fb9, fb10, fb11, fb12, fb13, fb14, sf_enc, pk_own, pk_sh, pk_tr, nr_enc, ao_enc, so_own, so_sh, nt_own, nt_sh, no_sh, no_tr, no_own, nt_tr, gLen_enc, gIx_0, gIx_1, gLst_nil, hSeq_sh, hRng1_ok, hRng2_ok, gSub_ok, gAdd_ok, gNeg_ok, gMod_ok, gDiv_ok, gShl_ok, gShr_ok, gMul_r, gMul_l, gLt_ok, gLe_ok, gGt_ok, gGe_ok, gNot_ok, gTup_2, gTup_3, gMax2_ok, gMin2_ok, isi_int_int, isi_int_bool, isi_tup, isi_int_list, isi_list, gEq_int, gNe_int, List.getElem?_cons_zero, List.getElem?_cons_succ, List.set_cons_zero, List.set_cons_succ, List.length_cons, List.length_nil, List.map_cons, List.map_nil, List.cons_append, List.nil_append, List.replicate_zero, List.replicate_succ, decide_true, decide_false, Bool.and_true, Bool.true_and, Bool.and_false, Bool.false_and, Bool.or_true, Bool.true_or, Bool.or_false, Bool.false_or, Bool.not_true, Bool.not_false, if_true, if_false, ite_true, ite_false, reduceIte, List.contains_nil, List.contains_cons, Nat.reduceBEq, List.any_cons, List.any_nil, List.append_nil, Bool.false_eq_true, reduceCtorEq, Nat.reduceAdd, Nat.reduceLT, Nat.reduceLeDiff, Nat.zero_add, Int.reduceSub, Int.reduceAdd, Int.reduceMul, Int.reduceToNat, Int.reducePow, Int.one_mul, Int.reduceNeg, Int.reduceLT, Int.reduceLE, Int.zero_add, Int.add_zero, Int.reduceEq, Int.reduceMod, Int.reduceDiv, Int.reduceOfNat, Int.cast_ofNat_Int, nw_nt, nw_no, nw_nr, nw_pk, nw_sf, nw_len]
      rw [e0]
    · refine ⟨⟨[some (.nd .sh .lst (nw N)), some (.int n), some (.nd .sh .lst (foL L))], [], []⟩, by simp (disch := omega) only [wipeS, wipeF, runF, seqC, bindC, asgC, tgN, tgT, tgsC, tgsN, opE, evs, varE, takE, frzE, cstE, retC, retNC, expC, ifC, passC, rsC, brkC, cntC, callE, srcE, andE, orE, ifE, seqE, notE, chainE, nt_non, nt_bl, nt_int, nt_str, nt_tup, nt_nil, nt_cons, so_non, so_bl, so_int, so_str, so_tup, so_nil, so_cons, no_non, no_bl, no_int, no_str, no_tup, no_nil, no_cons, nr_non, nr_bl, nr_int, nr_str, nr_tup, nr_nil, nr_cons, ao_non, ao_bl, ao_int, ao_str, ao_tup, ao_nil, ao_cons, pk_non, pk_bl, pk_int, pk_str, pk_tup, pk_nil, pk_cons, sf_non, sf_bl, sf_int, sf_str, sf_tup, sf_nil, sf_cons, ints_so, ints_nt, ints_no, ints_nr, ints_ao, ints_pk, ints_sf, ints_snoc, pk_nd, sf_nd, nt_nd, so_nd, no_nd, nr_nd, ao_nd, so_app, gLen_nd, gIx_nd, gLst_0, gLR1_ok, gLR2_ok, isi_lst, hSeq_nd, fp1, fp2, fp3, fb1, fb2, fb3, fb4, fb5, fb6, fb7, fb8, fb9, fb10, fb11, fb12, fb13, fb14, sf_enc, pk_own, pk_sh, pk_tr, nr_enc, ao_enc, so_own, so_sh, nt_own, nt_sh, no_sh, no_tr, no_own, nt_tr, gLen_enc, gIx_0, gIx_1, gLst_nil, hSeq_sh, hRng1_ok, hRng2_ok, gSub_ok, gAdd_ok, gNeg_ok, gMod_ok, gDiv_ok, gShl_ok, gShr_ok, gMul_r, gMul_l, gLt_ok, gLe_ok, gGt_ok, gGe_ok, gNot_ok, gTup_2, gTup_3, gMax2_ok, gMin2_ok, isi_int_int, isi_int_bool, isi_tup, isi_int_list, isi_list, gEq_int, gNe_int, List.getElem?_cons_zero, List.getElem?_cons_succ, List.set_cons_zero, List.set_cons_succ, List.length_cons, List.length_nil, List.map_cons, List.map_nil, List.cons_append, List.nil_append, List.replicate_zero, List.replicate_succ, decide_true, decide_false, Bool.and_true, Bool.true_and, Bool.and_false, Bool.false_and, Bool.or_true, Bool.true_or, Bool.or_false, Bool.false_or, Bool.not_true, Bool.not_false, if_true, if_false, ite_true, ite_false, reduceIte, List.contains_nil, List.contains_cons, Nat.reduceBEq, List.any_cons, List.any_nil, List.append_nil, Bool.false_eq_true, reduceCtorEq, Nat.reduceAdd, Nat.reduceLT, Nat.reduceLeDiff, Nat.zero_add, foL_nt, foL_no, foL_nr, foL_pk, foL_sf, foL_so, foL_len], ?_, rfl, rfl⟩
      have := is_layer_ok (h.h L hL) (hs L hL)
      simp (disch := omega) only [runF, seqC, bindC, asgC, tgN, tgT, tgsC, tgsN, opE, evs, varE, takE, frzE, cstE, retC, retNC, expC, ifC, passC, rsC, brkC, cntC, callE, srcE, andE, orE, ifE, seqE, notE, chainE, nt_non, nt_bl, nt_int, nt_str, nt_tup, nt_nil, nt_cons, so_non, so_bl, so_int, so_str, so_tup, so_nil, so_cons, no_non, no_bl, no_int, no_str, no_tup, no_nil, no_cons, nr_non, nr_bl, nr_int, nr_str, nr_tup, nr_nil, nr_cons, ao_non, ao_bl, ao_int, ao_str, ao_tup, ao_nil, ao_cons, pk_non, pk_bl, pk_int, pk_str, pk_tup, pk_nil, pk_cons, sf_non, sf_bl, sf_int, sf_str, sf_tup, sf_nil, sf_cons, ints_so, ints_nt, ints_no, ints_nr, ints_ao, ints_pk, ints_sf, ints_snoc, pk_nd, sf_nd, nt_nd, so_nd, no_nd, nr_nd, ao_nd, so_app, gLen_nd, gIx_nd, gLst_0, gLR1_ok, gLR2_ok, isi_lst, hSeq_nd, fp1, fp2, fp3, fb1, fb2, fb3, fb4, fb5, fb6, fb7, fb8, fb9, fb10, fb11, fb12, fb13, fb14, sf_enc, pk_own, pk_sh, pk_tr, nr_enc, ao_enc, so_own, so_sh, nt_own, nt_sh, no_sh, no_tr, no_own, nt_tr, gLen_enc, gIx_0, gIx_1, gLst_nil, hSeq_sh, hRng1_ok, hRng2_ok, gSub_ok, gAdd_ok, gNeg_ok, gMod_ok, gDiv_ok, gShl_ok, gShr_ok, gMul_r, gMul_l, gLt_ok, gLe_ok, gGt_ok, gGe_ok, gNot_ok, gTup_2, gTup_3, gMax2_ok, gMin2_ok, isi_int_int, isi_int_bool, isi_tup, isi_int_list, isi_list, gEq_int, gNe_int, List.getElem?_cons_zero, List.getElem?_cons_succ, List.set_cons_zero, List.set_cons_succ, List.length_cons, List.length_nil, List.map_cons, List.map_nil, List.cons_append, List.nil_append, List.replicate_zero, List.replicate_succ, decide_true, decide_false, Bool.and_true, Bool.true_and, Bool.and_false, Bool.false_and, Bool.or_true, Bool.true_or, Bool.or_false, Bool.false_or, Bool.not_true, Bool.not_false, if_true, if_false, ite_true, ite_false, reduceIte, List.contains_nil, List.contains_cons, Nat.reduceBEq, List.any_cons, List.any_nil, List.append_nil, Bool.false_eq_true, reduceCtorEq, Nat.reduceAdd, Nat.reduceLT, Nat.reduceLeDiff, Nat.zero_add, Int.reduceSub, Int.reduceAdd, Int.reduceMul, Int.reduceToNat, Int.reducePow, Int.one_mul, Int.reduceNeg, Int.reduceLT, Int.reduceLE, Int.zero_add, Int.add_zero, Int.reduceEq, Int.reduceMod, Int.reduceDiv, Int.reduceOfNat, Int.cast_ofNat_Int, foL_nt, foL_no, foL_nr, foL_pk, foL_sf, foL_so, foL_len, this]
  have ga : gAll [mkL (N.map fun _ => Vl.bl true)] = some (.bl true) := by
    rw [gAll_bls (fun _ => true) N]
    congr 2
    exact List.all_eq_true.mpr fun _ _ => rfl
  have f1 := num_int1 (n := n) (by omega) (by omega)
  have dd : decide ((40 : Int) < (N.length : Nat)) = false := decide_eq_false (by omega)
  generalize mkL (N.map fun _ => Vl.bl true) = wb at *
  generalize hq1 : compE [2] (tgN 2) (srcE hSeq [varE 0]) (cstE (.bl true)) (callE 2 F_is_layer [varE 2, varE 1] []) = k1 at hc
  simp (disch := omega) only [F_need_net, b_need_net, hq1, runF, seqC, bindC, asgC, tgN, tgT, tgsC, tgsN, opE, evs, varE, takE, frzE, cstE, retC, retNC, expC, ifC, passC, rsC, brkC, cntC, callE, srcE, andE, orE, ifE, seqE, notE, chainE, nt_non, nt_bl, nt_int, nt_str, nt_tup, nt_nil, nt_cons, so_non, so_bl, so_int, so_str, so_tup, so_nil, so_cons, no_non, no_bl, no_int, no_str, no_tup, no_nil, no_cons, nr_non, nr_bl, nr_int, nr_str, nr_tup, nr_nil, nr_cons, ao_non, ao_bl, ao_int, ao_str, ao_tup, ao_nil, ao_cons, pk_non, pk_bl, pk_int, pk_str, pk_tup, pk_nil, pk_cons, sf_non, sf_bl, sf_int, sf_str, sf_tup, sf_nil, sf_cons, ints_so, ints_nt, ints_no, ints_nr, ints_ao, ints_pk, ints_sf, ints_snoc, pk_nd, sf_nd, nt_nd, so_nd, no_nd, nr_nd, ao_nd, so_app, gLen_nd, gIx_nd, gLst_0, gLR1_ok, gLR2_ok, isi_lst, hSeq_nd, fp1, fp2, fp3, fb1, fb2, fb3, fb4, fb5, fb6, fb7, fb8, fb9, fb10, fb11, fb12, fb13, fb14, sf_enc, pk_own, pk_sh, pk_tr, nr_enc, ao_enc, so_own, so_sh, nt_own, nt_sh, no_sh, no_tr, no_own, nt_tr, gLen_enc, gIx_0, gIx_1, gLst_nil, hSeq_sh, hRng1_ok, hRng2_ok, gSub_ok, gAdd_ok, gNeg_ok, gMod_ok, gDiv_ok, gShl_ok, gShr_ok, gMul_r, gMul_l, gLt_ok, gLe_ok, gGt_ok, gGe_ok, gNot_ok, gTup_2, gTup_3, gMax2_ok, gMin2_ok, isi_int_int, isi_int_bool, isi_tup, isi_int_list, isi_list, gEq_int, gNe_int, List.getElem?_cons_zero, List.getElem?_cons_succ, List.set_cons_zero, List.set_cons_succ, List.length_cons, List.length_nil, List.map_cons, List.map_nil, List.cons_append, List.nil_append, List.replicate_zero, List.replicate_succ, decide_true, decide_false, Bool.and_true, Bool.true_and, Bool.and_false, Bool.false_and, Bool.or_true, Bool.true_or, Bool.or_false, Bool.false_or, Bool.not_true, Bool.not_false, if_true, if_false, ite_true, ite_false, reduceIte, List.contains_nil, List.contains_cons, Nat.reduceBEq, List.any_cons, List.any_nil, List.append_nil, Bool.false_eq_true, reduceCtorEq, Nat.reduceAdd, Nat.reduceLT, Nat.reduceLeDiff, Nat.zero_add, Int.reduceSub, Int.reduceAdd, Int.reduceMul, Int.reduceToNat, Int.reducePow, Int.one_mul, Int.reduceNeg, Int.reduceLT, Int.reduceLE, Int.zero_add, Int.add_zero, Int.reduceEq, Int.reduceMod, Int.reduceDiv, Int.reduceOfNat, Int.cast_ofNat_Int, nw_nt, nw_no, nw_nr, nw_pk, nw_sf, nw_len, hc, ga, f1, gLen_nd, gGt_ok, dd, Nat.reduceSub]
/-! ### rises -/
def risB (r : List Int) : Bool := (r.zip (r.drop 1)).all fun p => decide (p.1 ≤ p.2)
theorem zipV_two : ∀ (a b : List Int), zipV (a.map Vl.int) (b.map Vl.int) = (a.zip b).map pV
  | [], _ => rfl
  | _ :: _, [] => rfl
  | x :: a, y :: b => by
    show Vl.tup [.int x, .int y] :: zipV (a.map Vl.int) (b.map Vl.int) = _
    rw [zipV_two a b]; rfl
theorem slL1 (f : Fl) (r : List Int) : gSlL [.nd f .lst (r.map Vl.int), .int 1] = some (.nd .own .lst ((r.drop 1).map Vl.int)) := by
  have e : cutL (r.map Vl.int) (some 1) none = (r.drop 1).map Vl.int := by
    unfold cutL
    show ((r.map Vl.int).drop (min 1 (r.map Vl.int).length)).take ((r.map Vl.int).length - min 1 (r.map Vl.int).length) = _
    rw [List.length_map, List.map_drop]
    cases r with
    | nil => rfl
    | cons x t =>
      rw [show min 1 (x :: t).length = 1 by simp]
      exact List.take_of_length_le (by simp)
  show some (mkL (cutL (r.map Vl.int) (some 1) none)) = _
  rw [e, mkL_ints]
theorem rises_ok (r : List Int) (h : r.length ≤ 1000) : F_rises [.nd .sh .lst (r.map Vl.int)] = .ok (.bl (risB r)) := by
  have hc : compE [1, 2] (tgT 2 (tgsC (tgN 1) (tgsC (tgN 2) tgsN))) (srcE hZip [varE 0, opE gSlL [varE 0, cstE (.int 1)]]) (cstE (.bl true)) (opE gLe [varE 1, varE 2]) ⟨[some (.nd .sh .lst (r.map Vl.int)), none, none], [], []⟩ = .ok (mkL ((r.zip (r.drop 1)).map fun p => Vl.bl (decide (p.1 ≤ p.2))), (⟨[some (.nd .sh .lst (r.map Vl.int)), none, none], [], []⟩ : Sta), false) := by
    refine compE_all (vs := [1, 2]) (st1 := ⟨[some (.nd .sh .lst (r.map Vl.int)), none, none], [], []⟩) (ev := pV) (tr := false) (r.zip (r.drop 1)) (fun p => Vl.bl (decide (p.1 ≤ p.2))) ?_ rfl (fun p hp => ?_) (by rw [PySem.sizeLine_eq, List.length_zip]; omega)
    · have hz : hZip [.nd .sh .lst (r.map Vl.int), .nd .own .lst ((r.drop 1).map Vl.int)] = some ((r.zip (r.drop 1)).map pV, false) := by
        show some (zipV (r.map Vl.int) ((r.drop 1).map Vl.int), (Fl.sh == .tr || Fl.own == .tr) || !(noTrs (r.map Vl.int) && noTrs ((r.drop 1).map Vl.int))) = _
        rw [zipV_two, ints_nt, ints_nt]; rfl
      have hs := slL1 .sh r
      generalize (r.drop 1).map Vl.int = dr at *
      simp (disch := omega) only [runF, seqC, bindC, asgC, tgN, tgT, tgsC, tgsN, opE, evs, varE, takE, frzE, cstE, retC, retNC, expC, ifC, passC, rsC, brkC, cntC, callE, srcE, andE, orE, ifE, seqE, notE, chainE, nt_non, nt_bl, nt_int, nt_str, nt_tup, nt_nil, nt_cons, so_non, so_bl, so_int, so_str, so_tup, so_nil, so_cons, no_non, no_bl, no_int, no_str, no_tup, no_nil, no_cons, nr_non, nr_bl, nr_int, nr_str, nr_tup, nr_nil, nr_cons, ao_non, ao_bl, ao_int, ao_str, ao_tup, ao_nil, ao_cons, pk_non, pk_bl, pk_int, pk_str, pk_tup, pk_nil, pk_cons, sf_non, sf_bl, sf_int, sf_str, sf_tup, sf_nil, sf_cons, ints_so, ints_nt, ints_no, ints_nr, ints_ao, ints_pk, ints_sf, ints_snoc, pk_nd, sf_nd, nt_nd, so_nd, no_nd, nr_nd, ao_nd, so_app, gLen_nd, gIx_nd, gLst_0, gLR1_ok, gLR2_ok, isi_lst, hSeq_nd, fp1, fp2, fp3, fb1, fb2, fb3, fb4, fb5, fb6, fb7, fb8, fb9, fb10, fb11, fb12, fb13, fb14, sf_enc, pk_own, pk_sh, pk_tr, nr_enc, ao_enc, so_own, so_sh, nt_own, nt_sh, no_sh, no_tr, no_own, nt_tr, gLen_enc, gIx_0, gIx_1, gLst_nil, hSeq_sh, hRng1_ok, hRng2_ok, gSub_ok, gAdd_ok, gNeg_ok, gMod_ok, gDiv_ok, gShl_ok, gShr_ok, gMul_r, gMul_l, gLt_ok, gLe_ok, gGt_ok, gGe_ok, gNot_ok, gTup_2, gTup_3, gMax2_ok, gMin2_ok, isi_int_int, isi_int_bool, isi_tup, isi_int_list, isi_list, gEq_int, gNe_int, List.getElem?_cons_zero, List.getElem?_cons_succ, List.set_cons_zero, List.set_cons_succ, List.length_cons, List.length_nil, List.map_cons, List.map_nil, List.cons_append, List.nil_append, List.replicate_zero, List.replicate_succ, decide_true, decide_false, Bool.and_true, Bool.true_and, Bool.and_false, Bool.false_and, Bool.or_true, Bool.true_or, Bool.or_false, Bool.false_or, Bool.not_true, Bool.not_false, if_true, if_false, ite_true, ite_false, reduceIte, List.contains_nil, List.contains_cons, Nat.reduceBEq, List.any_cons, List.any_nil, List.append_nil, Bool.false_eq_true, reduceCtorEq, Nat.reduceAdd, Nat.reduceLT, Nat.reduceLeDiff, Nat.zero_add, Int.reduceSub, Int.reduceAdd, Int.reduceMul, Int.reduceToNat, Int.reducePow, Int.one_mul, Int.reduceNeg, Int.reduceLT, Int.reduceLE, Int.zero_add, Int.add_zero, Int.reduceEq, Int.reduceMod, Int.reduceDiv, Int.reduceOfNat, Int.cast_ofNat_Int, hs, hz]
    · exact ⟨⟨[some (.nd .sh .lst (r.map Vl.int)), some (.int p.1), some (.int p.2)], [], []⟩, rfl, rfl, rfl, rfl⟩
  have ga : gAll [mkL ((r.zip (r.drop 1)).map fun p => Vl.bl (decide (p.1 ≤ p.2)))] = some (.bl (risB r)) := gAll_bls (fun p : Int × Int => decide (p.1 ≤ p.2)) (r.zip (r.drop 1))
  generalize mkL ((r.zip (r.drop 1)).map fun p => Vl.bl (decide (p.1 ≤ p.2))) = wb at *
  generalize hq1 : compE [1, 2] (tgT 2 (tgsC (tgN 1) (tgsC (tgN 2) tgsN))) (srcE hZip [varE 0, opE gSlL [varE 0, cstE (.int 1)]]) (cstE (.bl true)) (opE gLe [varE 1, varE 2]) = k1 at hc
  simp (disch := omega) only [F_rises, b_rises, hq1, runF, seqC, bindC, asgC, tgN, tgT, tgsC, tgsN, opE, evs, varE, takE, frzE, cstE, retC, retNC, expC, ifC, passC, rsC, brkC, cntC, callE, srcE, andE, orE, ifE, seqE, notE, chainE, nt_non, nt_bl, nt_int, nt_str, nt_tup, nt_nil, nt_cons, so_non, so_bl, so_int, so_str, so_tup, so_nil, so_cons, no_non, no_bl, no_int, no_str, no_tup, no_nil, no_cons, nr_non, nr_bl, nr_int, nr_str, nr_tup, nr_nil, nr_cons, ao_non, ao_bl, ao_int, ao_str, ao_tup, ao_nil, ao_cons, pk_non, pk_bl, pk_int, pk_str, pk_tup, pk_nil, pk_cons, sf_non, sf_bl, sf_int, sf_str, sf_tup, sf_nil, sf_cons, ints_so, ints_nt, ints_no, ints_nr, ints_ao, ints_pk, ints_sf, ints_snoc, pk_nd, sf_nd, nt_nd, so_nd, no_nd, nr_nd, ao_nd, so_app, gLen_nd, gIx_nd, gLst_0, gLR1_ok, gLR2_ok, isi_lst, hSeq_nd, fp1, fp2, fp3, fb1, fb2, fb3, fb4, fb5, fb6, fb7, fb8, fb9, fb10, fb11, fb12, fb13, fb14, sf_enc, pk_own, pk_sh, pk_tr, nr_enc, ao_enc, so_own, so_sh, nt_own, nt_sh, no_sh, no_tr, no_own, nt_tr, gLen_enc, gIx_0, gIx_1, gLst_nil, hSeq_sh, hRng1_ok, hRng2_ok, gSub_ok, gAdd_ok, gNeg_ok, gMod_ok, gDiv_ok, gShl_ok, gShr_ok, gMul_r, gMul_l, gLt_ok, gLe_ok, gGt_ok, gGe_ok, gNot_ok, gTup_2, gTup_3, gMax2_ok, gMin2_ok, isi_int_int, isi_int_bool, isi_tup, isi_int_list, isi_list, gEq_int, gNe_int, List.getElem?_cons_zero, List.getElem?_cons_succ, List.set_cons_zero, List.set_cons_succ, List.length_cons, List.length_nil, List.map_cons, List.map_nil, List.cons_append, List.nil_append, List.replicate_zero, List.replicate_succ, decide_true, decide_false, Bool.and_true, Bool.true_and, Bool.and_false, Bool.false_and, Bool.or_true, Bool.true_or, Bool.or_false, Bool.false_or, Bool.not_true, Bool.not_false, if_true, if_false, ite_true, ite_false, reduceIte, List.contains_nil, List.contains_cons, Nat.reduceBEq, List.any_cons, List.any_nil, List.append_nil, Bool.false_eq_true, reduceCtorEq, Nat.reduceAdd, Nat.reduceLT, Nat.reduceLeDiff, Nat.zero_add, Int.reduceSub, Int.reduceAdd, Int.reduceMul, Int.reduceToNat, Int.reducePow, Int.one_mul, Int.reduceNeg, Int.reduceLT, Int.reduceLE, Int.zero_add, Int.add_zero, Int.reduceEq, Int.reduceMod, Int.reduceDiv, Int.reduceOfNat, Int.cast_ofNat_Int, hc, ga, Nat.reduceSub]
end K41

namespace K41
open PyI
open Enc (enc)
--%DEF FO foL_nt, foL_no, foL_nr, foL_pk, foL_sf, foL_so, foL_len
--%DEF NW nw_nt, nw_no, nw_nr, nw_pk, nw_sf, nw_len
/-- a loop that leaves at the first of its items -/
theorem forL_first {γ : Type} {g : Tg} {body : C} {ev : γ → Vl} (P : γ → Bool) (v : γ → Vl) (I : Sta → Prop) : ∀ (xs : List γ) (st : Sta), I st →
    (∀ x ∈ xs, ∀ st, I st → ∃ s1, g (ev x) st = some s1 ∧ (P x = true → ∃ s2, body s1 = .rt (v x) s2) ∧ (P x = false → ∃ s2, body s1 = .nx s2 ∧ I s2)) →
    (∀ x, xs.find? P = some x → ∃ s2, forL g body (xs.map ev) st = .rt (v x) s2) ∧ (xs.find? P = none → ∃ s2, forL g body (xs.map ev) st = .nx s2 ∧ I s2)
  | [], st, hi, _ => ⟨fun x h => by simp at h, fun _ => ⟨st, rfl, hi⟩⟩
  | x :: r, st, hi, h => by
    obtain ⟨s1, g1, g2, g3⟩ := h x List.mem_cons_self st hi
    cases hp : P x with
    | true =>
      obtain ⟨s2, e⟩ := g2 hp
      refine ⟨fun y hy => ?_, fun hy => ?_⟩
      · rw [List.find?_cons_of_pos hp] at hy
        cases hy
        refine ⟨s2, ?_⟩
        show forL g body (ev x :: r.map ev) st = _
        rw [forL_cons g1, e]
      · rw [List.find?_cons_of_pos hp] at hy
        cases hy
    | false =>
      obtain ⟨s2, e, hi2⟩ := g3 hp
      obtain ⟨a, b⟩ := forL_first P v I r s2 hi2 fun y hy => h y (List.mem_cons_of_mem _ hy)
      have hne : ¬ P x = true := by rw [hp]; decide
      refine ⟨fun y hy => ?_, fun hy => ?_⟩
      · rw [List.find?_cons_of_neg hne] at hy
        obtain ⟨s3, e3⟩ := a y hy
        refine ⟨s3, ?_⟩
        show forL g body (ev x :: r.map ev) st = _
        rw [forL_cons g1, e]
        exact e3
      · rw [List.find?_cons_of_neg hne] at hy
        obtain ⟨s3, e3, h3⟩ := b hy
        refine ⟨s3, ?_, h3⟩
        show forL g body (ev x :: r.map ev) st = _
        rw [forL_cons g1, e]
        exact e3
/-! ### the rows of 0 and 1 -/
def bitR (n : Nat) (k : Int) : List Int := (rng n).map fun i => k / 2 ^ i.toNat % 2
theorem bitR_len (n : Nat) (k : Int) : (bitR n k).length = n := by unfold bitR; rw [List.length_map, rng_len]
def Pk (n : Nat) (N : List (List (Int × Int))) (k : Int) : Bool := !risB (ps N (bitR n k))
def fst0 (n : Nat) (N : List (List (Int × Int))) : Option Int := (rng (2 ^ n)).find? (Pk n N)
def res (n : Nat) (N : List (List (Int × Int))) : Vl := match fst0 n N with
  | some k => .nd .own .lst ((bitR n k).map Vl.int)
  | none => .non
theorem pow_le {n : Nat} (h : n ≤ 8) : (2 : Nat) ^ n ≤ 256 := Nat.le_trans (Nat.pow_le_pow_right (by decide) h) (by decide)
theorem shl_1 {n : Nat} (h : n ≤ 8) : gShl [.int 1, .int n] = some (.int ((2 ^ n : Nat) : Int)) := by
  rw [gShl_ok (by omega) (by omega) (by decide)]
  congr 2
  rw [Int.toNat_natCast, Int.one_mul]
  simp
theorem unsorted_ok {n : Nat} (n1 : 1 ≤ n) (n2 : n ≤ 8) {N : List (List (Int × Int))} (h : Nt n N) (hs : ∀ L ∈ N, Sd L) : F_unsorted_row [.nd .sh .lst (nw N), .int n] = .ok (res n N) := by
  have hnn := need_net_ok n1 (by omega) h hs
  have hp := pow_le n2
  have step : ∀ k ∈ rng (2 ^ n), ∀ st, (∃ o2 o3, st = ⟨[some (.nd .sh .lst (nw N)), some (.int n), o2, o3, none], [], []⟩) → ∃ s1, tgN 2 (.int k) st = some s1 ∧ (Pk n N k = true → ∃ s2, b_unsorted_row_L0 s1 = .rt (.nd .own .lst ((bitR n k).map Vl.int)) s2) ∧ (Pk n N k = false → ∃ s2, b_unsorted_row_L0 s1 = .nx s2 ∧ ∃ o2 o3, s2 = ⟨[some (.nd .sh .lst (nw N)), some (.int n), o2, o3, none], [], []⟩) := by
    intro k hk st ⟨o2, o3, hst⟩
    subst hst
    refine ⟨⟨[some (.nd .sh .lst (nw N)), some (.int n), some (.int k), o3, none], [], []⟩, rfl, ?_⟩
    have hc : compE [4] (tgN 4) (srcE hRng1 [varE 1]) (cstE (.bl true)) (opE gAnd [opE gShr [varE 2, varE 4], cstE (.int 1)]) ⟨[some (.nd .sh .lst (nw N)), some (.int n), some (.int k), o3, none], [], []⟩ = .ok (mkL ((rng n).map fun i => Vl.int (k / 2 ^ i.toNat % 2)), (⟨[some (.nd .sh .lst (nw N)), some (.int n), some (.int k), o3, none], [], []⟩ : Sta), false) := by
      refine compE_all (vs := [4]) (st1 := ⟨[some (.nd .sh .lst (nw N)), some (.int n), some (.int k), o3, none], [], []⟩) (ev := Vl.int) (tr := false) (rng n) (fun i => Vl.int (k / 2 ^ i.toNat % 2)) ?_ rfl (fun i hi => ?_) (by rw [PySem.sizeLine_eq, rng_len]; omega)
      · rw [← intsV_rng]
        simp (disch := omega) only [runF, seqC, bindC, asgC, tgN, tgT, tgsC, tgsN, opE, evs, varE, takE, frzE, cstE, retC, retNC, expC, ifC, passC, rsC, brkC, cntC, callE, srcE, andE, orE, ifE, seqE, notE, chainE, nt_non, nt_bl, nt_int, nt_str, nt_tup, nt_nil, nt_cons, so_non, so_bl, so_int, so_str, so_tup, so_nil, so_cons, no_non, no_bl, no_int, no_str, no_tup, no_nil, no_cons, nr_non, nr_bl, nr_int, nr_str, nr_tup, nr_nil, nr_cons, ao_non, ao_bl, ao_int, ao_str, ao_tup, ao_nil, ao_cons, pk_non, pk_bl, pk_int, pk_str, pk_tup, pk_nil, pk_cons, sf_non, sf_bl, sf_int, sf_str, sf_tup, sf_nil, sf_cons, ints_so, ints_nt, ints_no, ints_nr, ints_ao, ints_pk, ints_sf, ints_snoc, pk_nd, sf_nd, nt_nd, so_nd, no_nd, nr_nd, ao_nd, so_app, gLen_nd, gIx_nd, gLst_0, gLR1_ok, gLR2_ok, isi_lst, hSeq_nd, fp1, fp2, fp3, fb1, fb2, fb3, fb4, fb5, fb6, fb7, fb8, fb9, fb10, fb11, fb12, fb13, fb14, sf_enc, pk_own, pk_sh, pk_tr, nr_enc, ao_enc, so_own, so_sh, nt_own, nt_sh, no_sh, no_tr, no_own, nt_tr, gLen_enc, gIx_0, gIx_1, gLst_nil, hSeq_sh, hRng1_ok, hRng2_ok, gSub_ok, gAdd_ok, gNeg_ok, gMod_ok, gDiv_ok, gShl_ok, gShr_ok, gMul_r, gMul_l, gLt_ok, gLe_ok, gGt_ok, gGe_ok, gNot_ok, gTup_2, gTup_3, gMax2_ok, gMin2_ok, isi_int_int, isi_int_bool, isi_tup, isi_int_list, isi_list, gEq_int, gNe_int, List.getElem?_cons_zero, List.getElem?_cons_succ, List.set_cons_zero, List.set_cons_succ, List.length_cons, List.length_nil, List.map_cons, List.map_nil, List.cons_append, List.nil_append, List.replicate_zero, List.replicate_succ, decide_true, decide_false, Bool.and_true, Bool.true_and, Bool.and_false, Bool.false_and, Bool.or_true, Bool.true_or, Bool.or_false, Bool.false_or, Bool.not_true, Bool.not_false, if_true, if_false, ite_true, ite_false, reduceIte, List.contains_nil, List.contains_cons, Nat.reduceBEq, List.any_cons, List.any_nil, List.append_nil, Bool.false_eq_true, reduceCtorEq, Nat.reduceAdd, Nat.reduceLT, Nat.reduceLeDiff, Nat.zero_add, Int.reduceSub, Int.reduceAdd, Int.reduceMul, Int.reduceToNat, Int.reducePow, Int.one_mul, Int.reduceNeg, Int.reduceLT, Int.reduceLE, Int.zero_add, Int.add_zero, Int.reduceEq, Int.reduceMod, Int.reduceDiv, Int.reduceOfNat, Int.cast_ofNat_Int, Int.toNat_natCast]
      · have h0 := (mem_rng.mp hi).1
        refine ⟨⟨[some (.nd .sh .lst (nw N)), some (.int n), some (.int k), o3, some (.int i)], [], []⟩, rfl, ?_, rfl, rfl⟩
        have ga : gAnd [.int (k / 2 ^ i.toNat), .int 1] = some (.int (k / 2 ^ i.toNat % 2)) := by
          show some (Vl.int (PySem.Builtin.bitAnd (k / 2 ^ i.toNat) 1)) = _
          rw [PyProof.Rows.bitAnd_m1]
        have gs := gShr_ok (i := k) h0
        generalize k / 2 ^ i.toNat = w at *
        simp (disch := omega) only [runF, seqC, bindC, asgC, tgN, tgT, tgsC, tgsN, opE, evs, varE, takE, frzE, cstE, retC, retNC, expC, ifC, passC, rsC, brkC, cntC, callE, srcE, andE, orE, ifE, seqE, notE, chainE, nt_non, nt_bl, nt_int, nt_str, nt_tup, nt_nil, nt_cons, so_non, so_bl, so_int, so_str, so_tup, so_nil, so_cons, no_non, no_bl, no_int, no_str, no_tup, no_nil, no_cons, nr_non, nr_bl, nr_int, nr_str, nr_tup, nr_nil, nr_cons, ao_non, ao_bl, ao_int, ao_str, ao_tup, ao_nil, ao_cons, pk_non, pk_bl, pk_int, pk_str, pk_tup, pk_nil, pk_cons, sf_non, sf_bl, sf_int, sf_str, sf_tup, sf_nil, sf_cons, ints_so, ints_nt, ints_no, ints_nr, ints_ao, ints_pk, ints_sf, ints_snoc, pk_nd, sf_nd, nt_nd, so_nd, no_nd, nr_nd, ao_nd, so_app, gLen_nd, gIx_nd, gLst_0, gLR1_ok, gLR2_ok, isi_lst, hSeq_nd, fp1, fp2, fp3, fb1, fb2, fb3, fb4, fb5, fb6, fb7, fb8, fb9, fb10, fb11, fb12, fb13, fb14, sf_enc, pk_own, pk_sh, pk_tr, nr_enc, ao_enc, so_own, so_sh, nt_own, nt_sh, no_sh, no_tr, no_own, nt_tr, gLen_enc, gIx_0, gIx_1, gLst_nil, hSeq_sh, hRng1_ok, hRng2_ok, gSub_ok, gAdd_ok, gNeg_ok, gMod_ok, gDiv_ok, gShl_ok, gShr_ok, gMul_r, gMul_l, gLt_ok, gLe_ok, gGt_ok, gGe_ok, gNot_ok, gTup_2, gTup_3, gMax2_ok, gMin2_ok, isi_int_int, isi_int_bool, isi_tup, isi_int_list, isi_list, gEq_int, gNe_int, List.getElem?_cons_zero, List.getElem?_cons_succ, List.set_cons_zero, List.set_cons_succ, List.length_cons, List.length_nil, List.map_cons, List.map_nil, List.cons_append, List.nil_append, List.replicate_zero, List.replicate_succ, decide_true, decide_false, Bool.and_true, Bool.true_and, Bool.and_false, Bool.false_and, Bool.or_true, Bool.true_or, Bool.or_false, Bool.false_or, Bool.not_true, Bool.not_false, if_true, if_false, ite_true, ite_false, reduceIte, List.contains_nil, List.contains_cons, Nat.reduceBEq, List.any_cons, List.any_nil, List.append_nil, Bool.false_eq_true, reduceCtorEq, Nat.reduceAdd, Nat.reduceLT, Nat.reduceLeDiff, Nat.zero_add, Int.reduceSub, Int.reduceAdd, Int.reduceMul, Int.reduceToNat, Int.reducePow, Int.one_mul, Int.reduceNeg, Int.reduceLT, Int.reduceLE, Int.zero_add, Int.add_zero, Int.reduceEq, Int.reduceMod, Int.reduceDiv, Int.reduceOfNat, Int.cast_ofNat_Int, gs, ga]
    rw [map_ints, mkL_ints] at hc
    have er : ((rng n).map fun i => k / 2 ^ i.toNat % 2) = bitR n k := rfl
    rw [er] at hc
    have hcm := compared_ok h (bitR_len n k) (by omega)
    have hri := rises_ok (ps N (bitR n k)) (by rw [ps_len, bitR_len]; omega)
    have ao := soL_ao (cs N (bitR n k))
    have nt := soL_nt (cs N (bitR n k))
    have i1 := gIx_1 (.nd .own .lst (soL (cs N (bitR n k)))) (.nd .own .lst ((ps N (bitR n k)).map Vl.int)) []
    unfold Pk
    generalize ps N (bitR n k) = pr at *
    generalize soL (cs N (bitR n k)) = sc at *
    generalize bitR n k = br at *
    unfold b_unsorted_row_L0
    generalize compE [4] (tgN 4) (srcE hRng1 [varE 1]) (cstE (.bl true)) (opE gAnd [opE gShr [varE 2, varE 4], cstE (.int 1)]) = ce at *
    refine ⟨fun hP => ⟨⟨[some (.nd .sh .lst (nw N)), some (.int n), some (.int k), none, none], [], []⟩, ?_⟩, fun hP => ⟨⟨[some (.nd .sh .lst (nw N)), some (.int n), some (.int k), some (.nd .own .lst (br.map Vl.int)), none], [], []⟩, ?_, _, _, rfl⟩⟩
    · have hb : risB pr = false := by simpa using hP
      rw [hb] at hri
      simp (disch := omega) only [runF, seqC, bindC, asgC, tgN, tgT, tgsC, tgsN, opE, evs, varE, takE, frzE, cstE, retC, retNC, expC, ifC, passC, rsC, brkC, cntC, callE, srcE, andE, orE, ifE, seqE, notE, chainE, nt_non, nt_bl, nt_int, nt_str, nt_tup, nt_nil, nt_cons, so_non, so_bl, so_int, so_str, so_tup, so_nil, so_cons, no_non, no_bl, no_int, no_str, no_tup, no_nil, no_cons, nr_non, nr_bl, nr_int, nr_str, nr_tup, nr_nil, nr_cons, ao_non, ao_bl, ao_int, ao_str, ao_tup, ao_nil, ao_cons, pk_non, pk_bl, pk_int, pk_str, pk_tup, pk_nil, pk_cons, sf_non, sf_bl, sf_int, sf_str, sf_tup, sf_nil, sf_cons, ints_so, ints_nt, ints_no, ints_nr, ints_ao, ints_pk, ints_sf, ints_snoc, pk_nd, sf_nd, nt_nd, so_nd, no_nd, nr_nd, ao_nd, so_app, gLen_nd, gIx_nd, gLst_0, gLR1_ok, gLR2_ok, isi_lst, hSeq_nd, fp1, fp2, fp3, fb1, fb2, fb3, fb4, fb5, fb6, fb7, fb8, fb9, fb10, fb11, fb12, fb13, fb14, sf_enc, pk_own, pk_sh, pk_tr, nr_enc, ao_enc, so_own, so_sh, nt_own, nt_sh, no_sh, no_tr, no_own, nt_tr, gLen_enc, gIx_0, gIx_1, gLst_nil, hSeq_sh, hRng1_ok, hRng2_ok, gSub_ok, gAdd_ok, gNeg_ok, gMod_ok, gDiv_ok, gShl_ok, gShr_ok, gMul_r, gMul_l, gLt_ok, gLe_ok, gGt_ok, gGe_ok, gNot_ok, gTup_2, gTup_3, gMax2_ok, gMin2_ok, isi_int_int, isi_int_bool, isi_tup, isi_int_list, isi_list, gEq_int, gNe_int, List.getElem?_cons_zero, List.getElem?_cons_succ, List.set_cons_zero, List.set_cons_succ, List.length_cons, List.length_nil, List.map_cons, List.map_nil, List.cons_append, List.nil_append, List.replicate_zero, List.replicate_succ, decide_true, decide_false, Bool.and_true, Bool.true_and, Bool.and_false, Bool.false_and, Bool.or_true, Bool.true_or, Bool.or_false, Bool.false_or, Bool.not_true, Bool.not_false, if_true, if_false, ite_true, ite_false, reduceIte, List.contains_nil, List.contains_cons, Nat.reduceBEq, List.any_cons, List.any_nil, List.append_nil, Bool.false_eq_true, reduceCtorEq, Nat.reduceAdd, Nat.reduceLT, Nat.reduceLeDiff, Nat.zero_add, Int.reduceSub, Int.reduceAdd, Int.reduceMul, Int.reduceToNat, Int.reducePow, Int.one_mul, Int.reduceNeg, Int.reduceLT, Int.reduceLE, Int.zero_add, Int.add_zero, Int.reduceEq, Int.reduceMod, Int.reduceDiv, Int.reduceOfNat, Int.cast_ofNat_Int, nw_nt, nw_no, nw_nr, nw_pk, nw_sf, nw_len, hc, hcm, hri, ao, nt, i1]
    · have hb : risB pr = true := by simpa using hP
      rw [hb] at hri
      simp (disch := omega) only [runF, seqC, bindC, asgC, tgN, tgT, tgsC, tgsN, opE, evs, varE, takE, frzE, cstE, retC, retNC, expC, ifC, passC, rsC, brkC, cntC, callE, srcE, andE, orE, ifE, seqE, notE, chainE, nt_non, nt_bl, nt_int, nt_str, nt_tup, nt_nil, nt_cons, so_non, so_bl, so_int, so_str, so_tup, so_nil, so_cons, no_non, no_bl, no_int, no_str, no_tup, no_nil, no_cons, nr_non, nr_bl, nr_int, nr_str, nr_tup, nr_nil, nr_cons, ao_non, ao_bl, ao_int, ao_str, ao_tup, ao_nil, ao_cons, pk_non, pk_bl, pk_int, pk_str, pk_tup, pk_nil, pk_cons, sf_non, sf_bl, sf_int, sf_str, sf_tup, sf_nil, sf_cons, ints_so, ints_nt, ints_no, ints_nr, ints_ao, ints_pk, ints_sf, ints_snoc, pk_nd, sf_nd, nt_nd, so_nd, no_nd, nr_nd, ao_nd, so_app, gLen_nd, gIx_nd, gLst_0, gLR1_ok, gLR2_ok, isi_lst, hSeq_nd, fp1, fp2, fp3, fb1, fb2, fb3, fb4, fb5, fb6, fb7, fb8, fb9, fb10, fb11, fb12, fb13, fb14, sf_enc, pk_own, pk_sh, pk_tr, nr_enc, ao_enc, so_own, so_sh, nt_own, nt_sh, no_sh, no_tr, no_own, nt_tr, gLen_enc, gIx_0, gIx_1, gLst_nil, hSeq_sh, hRng1_ok, hRng2_ok, gSub_ok, gAdd_ok, gNeg_ok, gMod_ok, gDiv_ok, gShl_ok, gShr_ok, gMul_r, gMul_l, gLt_ok, gLe_ok, gGt_ok, gGe_ok, gNot_ok, gTup_2, gTup_3, gMax2_ok, gMin2_ok, isi_int_int, isi_int_bool, isi_tup, isi_int_list, isi_list, gEq_int, gNe_int, List.getElem?_cons_zero, List.getElem?_cons_succ, List.set_cons_zero, List.set_cons_succ, List.length_cons, List.length_nil, List.map_cons, List.map_nil, List.cons_append, List.nil_append, List.replicate_zero, List.replicate_succ, decide_true, decide_false, Bool.and_true, Bool.true_and, Bool.and_false, Bool.false_and, Bool.or_true, Bool.true_or, Bool.or_false, Bool.false_or, Bool.not_true, Bool.not_false, if_true, if_false, ite_true, ite_false, reduceIte, List.contains_nil, List.contains_cons, Nat.reduceBEq, List.any_cons, List.any_nil, List.append_nil, Bool.false_eq_true, reduceCtorEq, Nat.reduceAdd, Nat.reduceLT, Nat.reduceLeDiff, Nat.zero_add, Int.reduceSub, Int.reduceAdd, Int.reduceMul, Int.reduceToNat, Int.reducePow, Int.one_mul, Int.reduceNeg, Int.reduceLT, Int.reduceLE, Int.zero_add, Int.add_zero, Int.reduceEq, Int.reduceMod, Int.reduceDiv, Int.reduceOfNat, Int.cast_ofNat_Int, nw_nt, nw_no, nw_nr, nw_pk, nw_sf, nw_len, hc, hcm, hri, ao, nt, i1]
  obtain ⟨f1, f2⟩ := forL_first (g := tgN 2) (body := b_unsorted_row_L0) (ev := Vl.int) (Pk n N) (fun k => .nd .own .lst ((bitR n k).map Vl.int)) (fun st => ∃ o2 o3, st = ⟨[some (.nd .sh .lst (nw N)), some (.int n), o2, o3, none], [], []⟩) (rng (2 ^ n)) ⟨[some (.nd .sh .lst (nw N)), some (.int n), none, none, none], [], []⟩ ⟨_, _, rfl⟩ step
  have hrn := intsV_rng (2 ^ n)
  have hsh := shl_1 n2
  have d1 : decide ((1 : Int) ≤ (n : Nat)) = true := decide_eq_true (by omega)
  have d2 : decide (((n : Nat) : Int) ≤ 8) = true := decide_eq_true (by omega)
  have hr1 : hRng1 [.int ((2 ^ n : Nat) : Int)] = some (intsV 0 (2 ^ n), false) := by
    have hp2 := hp
    revert hp2
    generalize 2 ^ n = m
    intro hp2
    rw [hRng1_ok (by omega), Int.toNat_natCast]
  unfold res
  unfold fst0
  generalize hq : forL (tgN 2) b_unsorted_row_L0 = fl at *
  generalize 2 ^ n = m at *
  cases hf : (rng m).find? (Pk n N) with
  | some k =>
    obtain ⟨s2, e⟩ := f1 k hf
    simp (disch := omega) only [F_unsorted_row, b_unsorted_row, forC, hq, runF, seqC, bindC, asgC, tgN, tgT, tgsC, tgsN, opE, evs, varE, takE, frzE, cstE, retC, retNC, expC, ifC, passC, rsC, brkC, cntC, callE, srcE, andE, orE, ifE, seqE, notE, chainE, nt_non, nt_bl, nt_int, nt_str, nt_tup, nt_nil, nt_cons, so_non, so_bl, so_int, so_str, so_tup, so_nil, so_cons, no_non, no_bl, no_int, no_str, no_tup, no_nil, no_cons, nr_non, nr_bl, nr_int, nr_str, nr_tup, nr_nil, nr_cons, ao_non, ao_bl, ao_int, ao_str, ao_tup, ao_nil, ao_cons, pk_non, pk_bl, pk_int, pk_str, pk_tup, pk_nil, pk_cons, sf_non, sf_bl, sf_int, sf_str, sf_tup, sf_nil, sf_cons, ints_so, ints_nt, ints_no, ints_nr, ints_ao, ints_pk, ints_sf, ints_snoc, pk_nd, sf_nd, nt_nd, so_nd, no_nd, nr_nd, ao_nd, so_app, gLen_nd, gIx_nd, gLst_0, gLR1_ok, gLR2_ok, isi_lst, hSeq_nd, fp1, fp2, fp3, fb1, fb2, fb3, fb4, fb5, fb6, fb7, fb8, fb9, fb10, fb11, fb12, fb13, fb14, sf_enc, pk_own, pk_sh, pk_tr, nr_enc, ao_enc, so_own, so_sh, nt_own, nt_sh, no_sh, no_tr, no_own, nt_tr, gLen_enc, gIx_0, gIx_1, gLst_nil, hSeq_sh, hRng1_ok, hRng2_ok, gSub_ok, gAdd_ok, gNeg_ok, gMod_ok, gDiv_ok, gShl_ok, gShr_ok, gMul_r, gMul_l, gLt_ok, gLe_ok, gGt_ok, gGe_ok, gNot_ok, gTup_2, gTup_3, gMax2_ok, gMin2_ok, isi_int_int, isi_int_bool, isi_tup, isi_int_list, isi_list, gEq_int, gNe_int, List.getElem?_cons_zero, List.getElem?_cons_succ, List.set_cons_zero, List.set_cons_succ, List.length_cons, List.length_nil, List.map_cons, List.map_nil, List.cons_append, List.nil_append, List.replicate_zero, List.replicate_succ, decide_true, decide_false, Bool.and_true, Bool.true_and, Bool.and_false, Bool.false_and, Bool.or_true, Bool.true_or, Bool.or_false, Bool.false_or, Bool.not_true, Bool.not_false, if_true, if_false, ite_true, ite_false, reduceIte, List.contains_nil, List.contains_cons, Nat.reduceBEq, List.any_cons, List.any_nil, List.append_nil, Bool.false_eq_true, reduceCtorEq, Nat.reduceAdd, Nat.reduceLT, Nat.reduceLeDiff, Nat.zero_add, Int.reduceSub, Int.reduceAdd, Int.reduceMul, Int.reduceToNat, Int.reducePow, Int.one_mul, Int.reduceNeg, Int.reduceLT, Int.reduceLE, Int.zero_add, Int.add_zero, Int.reduceEq, Int.reduceMod, Int.reduceDiv, Int.reduceOfNat, Int.cast_ofNat_Int, nw_nt, nw_no, nw_nr, nw_pk, nw_sf, nw_len, isi_int_int, isi_int_bool, d1, d2, hnn, hsh, hr1, hrn, e, Nat.reduceSub, List.length_map]
  | none =>
    obtain ⟨s2, e, _⟩ := f2 hf
    simp (disch := omega) only [F_unsorted_row, b_unsorted_row, forC, hq, runF, seqC, bindC, asgC, tgN, tgT, tgsC, tgsN, opE, evs, varE, takE, frzE, cstE, retC, retNC, expC, ifC, passC, rsC, brkC, cntC, callE, srcE, andE, orE, ifE, seqE, notE, chainE, nt_non, nt_bl, nt_int, nt_str, nt_tup, nt_nil, nt_cons, so_non, so_bl, so_int, so_str, so_tup, so_nil, so_cons, no_non, no_bl, no_int, no_str, no_tup, no_nil, no_cons, nr_non, nr_bl, nr_int, nr_str, nr_tup, nr_nil, nr_cons, ao_non, ao_bl, ao_int, ao_str, ao_tup, ao_nil, ao_cons, pk_non, pk_bl, pk_int, pk_str, pk_tup, pk_nil, pk_cons, sf_non, sf_bl, sf_int, sf_str, sf_tup, sf_nil, sf_cons, ints_so, ints_nt, ints_no, ints_nr, ints_ao, ints_pk, ints_sf, ints_snoc, pk_nd, sf_nd, nt_nd, so_nd, no_nd, nr_nd, ao_nd, so_app, gLen_nd, gIx_nd, gLst_0, gLR1_ok, gLR2_ok, isi_lst, hSeq_nd, fp1, fp2, fp3, fb1, fb2, fb3, fb4, fb5, fb6, fb7, fb8, fb9, fb10, fb11, fb12, fb13, fb14, sf_enc, pk_own, pk_sh, pk_tr, nr_enc, ao_enc, so_own, so_sh, nt_own, nt_sh, no_sh, no_tr, no_own, nt_tr, gLen_enc, gIx_0, gIx_1, gLst_nil, hSeq_sh, hRng1_ok, hRng2_ok, gSub_ok, gAdd_ok, gNeg_ok, gMod_ok, gDiv_ok, gShl_ok, gShr_ok, gMul_r, gMul_l, gLt_ok, gLe_ok, gGt_ok, gGe_ok, gNot_ok, gTup_2, gTup_3, gMax2_ok, gMin2_ok, isi_int_int, isi_int_bool, isi_tup, isi_int_list, isi_list, gEq_int, gNe_int, List.getElem?_cons_zero, List.getElem?_cons_succ, List.set_cons_zero, List.set_cons_succ, List.length_cons, List.length_nil, List.map_cons, List.map_nil, List.cons_append, List.nil_append, List.replicate_zero, List.replicate_succ, decide_true, decide_false, Bool.and_true, Bool.true_and, Bool.and_false, Bool.false_and, Bool.or_true, Bool.true_or, Bool.or_false, Bool.false_or, Bool.not_true, Bool.not_false, if_true, if_false, ite_true, ite_false, reduceIte, List.contains_nil, List.contains_cons, Nat.reduceBEq, List.any_cons, List.any_nil, List.append_nil, Bool.false_eq_true, reduceCtorEq, Nat.reduceAdd, Nat.reduceLT, Nat.reduceLeDiff, Nat.zero_add, Int.reduceSub, Int.reduceAdd, Int.reduceMul, Int.reduceToNat, Int.reducePow, Int.one_mul, Int.reduceNeg, Int.reduceLT, Int.reduceLE, Int.zero_add, Int.add_zero, Int.reduceEq, Int.reduceMod, Int.reduceDiv, Int.reduceOfNat, Int.cast_ofNat_Int, nw_nt, nw_no, nw_nr, nw_pk, nw_sf, nw_len, isi_int_int, isi_int_bool, d1, d2, hnn, hsh, hr1, hrn, e, Nat.reduceSub, List.length_map]
end K41

namespace K41
open PyI
open Enc (enc)
--%DEF FO foL_nt, foL_no, foL_nr, foL_pk, foL_sf, foL_so, foL_len
--%DEF NW nw_nt, nw_no, nw_nr, nw_pk, nw_sf, nw_len
theorem atI_lastG (L : List Vl) (v : Vl) : L2.atI (L ++ [v]) (-1) = some v := by
  have h : L2.ixN (L ++ [v]).length (-1) = some L.length := by
    unfold L2.ixN
    rw [if_neg (by omega), if_pos (by simp only [List.length_append, List.length_cons, List.length_nil]; omega)]
    congr 1
    simp only [List.length_append, List.length_cons, List.length_nil]
    omega
  unfold L2.atI
  rw [h]
  show (L ++ [v])[L.length]? = _
  simp
/-- the rows on the way -/
def wk : List (List (Int × Int)) → List Int → List (List Int)
  | [], r => [r]
  | L :: t, r => r :: wk t (wl L r)
theorem wk_snoc : ∀ (p : List (List (Int × Int))) (L : List (Int × Int)) (r : List Int), wk (p ++ [L]) r = wk p r ++ [wl L (ps p r)]
  | [], _, _ => rfl
  | M :: t, L, r => by
    show r :: wk (t ++ [L]) (wl M r) = r :: (wk t (wl M r) ++ [wl L (ps t (wl M r))])
    rw [wk_snoc t]
theorem wk_last : ∀ (N : List (List (Int × Int))) (r : List Int), ∃ A, wk N r = A ++ [ps N r] ∧ A.length = N.length
  | [], r => ⟨[], rfl, rfl⟩
  | M :: t, r => by
    obtain ⟨A, e, l⟩ := wk_last t (wl M r)
    exact ⟨r :: A, by show r :: wk t (wl M r) = _; rw [e]; rfl, by simp [l]⟩
theorem wk_len (N : List (List (Int × Int))) (r : List Int) : (wk N r).length = N.length + 1 := by
  obtain ⟨A, e, l⟩ := wk_last N r
  rw [e]; simp [l]
theorem soL_last (N : List (List (Int × Int))) (r : List Int) : L2.atI (soL (wk N r)) (-1) = some (.nd .own .lst ((ps N r).map Vl.int)) := by
  obtain ⟨A, e, _⟩ := wk_last N r
  rw [e, ← soL_snoc, atI_lastG]
def stL (S : List (List Int)) : List Vl := S.map fun s => .nd .tr .lst (s.map Vl.int)
theorem soL_pk (S : List (List Int)) : peeks (soL S) = stL S := peeks_enc (α := List Int) .own S
theorem stL_last (N : List (List (Int × Int))) (r : List Int) : L2.atI (stL (wk N r)) (-1) = some (.nd .tr .lst ((ps N r).map Vl.int)) := by
  obtain ⟨A, e, _⟩ := wk_last N r
  rw [e]
  unfold stL
  rw [List.map_append]
  exact atI_lastG _ _
abbrev SWK (N : List (List (Int × Int))) (r0 : List Int) (R : List (List Int)) (L : List (Int × Int)) (r : List Int) (o5 o6 : Option Vl) : Sta := ⟨[some (.nd .sh .lst (nw N)), some (.nd .sh .lst (r0.map Vl.int)), some (.nd .own .lst (soL R)), some (.nd .sh .lst (foL L)), some (.nd .own .lst (r.map Vl.int)), o5, o6], [], []⟩
theorem wrow_step {n : Nat} (N : List (List (Int × Int))) (r0 : List Int) (R : List (List Int)) (L : List (Int × Int)) {p : Int × Int} (b : 0 ≤ p.1 ∧ p.1 < p.2 ∧ p.2 ≤ (n : Int) - 1) (r : List Int) (hr : r.length = n) : b__law_walked_L0 (SWK N r0 R L r (some (.int p.1)) (some (.int p.2))) = .nx (SWK N r0 R L (wF r p) (some (.int p.1)) (some (.int p.2))) := by
  obtain ⟨b1, b2, b3⟩ := b
  have a1 := atI_gz (r := r) b1 (by omega)
  have a2 := atI_gz (r := r) (i := p.2) (by omega) (by omega)
  unfold wF
  by_cases q : gz r p.1 > gz r p.2
  · rw [if_pos q]
    have dd : decide (gz r p.2 < gz r p.1) = true := decide_eq_true q
    have x1 : L2.ixN (r.map Vl.int).length p.1 = some p.1.toNat := ixN_pos b1 (by rw [List.length_map]; omega)
    have x1' : L2.ixN r.length p.1 = some p.1.toNat := ixN_pos b1 (by omega)
    generalize gz r p.1 = u at *
    generalize gz r p.2 = v at *
    have e1 : (r.map Vl.int).set p.1.toNat (.int v) = (r.set p.1.toNat v).map Vl.int := by rw [List.map_set]
    have x2 : L2.ixN ((r.set p.1.toNat v).map Vl.int).length p.2 = some p.2.toNat := ixN_pos (by omega) (by rw [List.length_map, List.length_set]; omega)
    have x2' : L2.ixN (r.set p.1.toNat v).length p.2 = some p.2.toNat := ixN_pos (by omega) (by rw [List.length_set]; omega)
    have e2 : ((r.set p.1.toNat v).map Vl.int).set p.2.toNat (.int u) = ((r.set p.1.toNat v).set p.2.toNat u).map Vl.int := by simp only [List.map_set]
    have f0 : ∀ i : Int, flatV0 (.int i) = true := fun _ => rfl
    simp (disch := omega) only [b__law_walked_L0, swapC, tgIx, runF, seqC, bindC, asgC, tgN, tgT, tgsC, tgsN, opE, evs, varE, takE, frzE, cstE, retC, retNC, expC, ifC, passC, rsC, brkC, cntC, callE, srcE, andE, orE, ifE, seqE, notE, chainE, nt_non, nt_bl, nt_int, nt_str, nt_tup, nt_nil, nt_cons, so_non, so_bl, so_int, so_str, so_tup, so_nil, so_cons, no_non, no_bl, no_int, no_str, no_tup, no_nil, no_cons, nr_non, nr_bl, nr_int, nr_str, nr_tup, nr_nil, nr_cons, ao_non, ao_bl, ao_int, ao_str, ao_tup, ao_nil, ao_cons, pk_non, pk_bl, pk_int, pk_str, pk_tup, pk_nil, pk_cons, sf_non, sf_bl, sf_int, sf_str, sf_tup, sf_nil, sf_cons, ints_so, ints_nt, ints_no, ints_nr, ints_ao, ints_pk, ints_sf, ints_snoc, pk_nd, sf_nd, nt_nd, so_nd, no_nd, nr_nd, ao_nd, so_app, gLen_nd, gIx_nd, gLst_0, gLR1_ok, gLR2_ok, isi_lst, hSeq_nd, fp1, fp2, fp3, fb1, fb2, fb3, fb4, fb5, fb6, fb7, fb8, fb9, fb10, fb11, fb12, fb13, fb14, sf_enc, pk_own, pk_sh, pk_tr, nr_enc, ao_enc, so_own, so_sh, nt_own, nt_sh, no_sh, no_tr, no_own, nt_tr, gLen_enc, gIx_0, gIx_1, gLst_nil, hSeq_sh, hRng1_ok, hRng2_ok, gSub_ok, gAdd_ok, gNeg_ok, gMod_ok, gDiv_ok, gShl_ok, gShr_ok, gMul_r, gMul_l, gLt_ok, gLe_ok, gGt_ok, gGe_ok, gNot_ok, gTup_2, gTup_3, gMax2_ok, gMin2_ok, isi_int_int, isi_int_bool, isi_tup, isi_int_list, isi_list, gEq_int, gNe_int, List.getElem?_cons_zero, List.getElem?_cons_succ, List.set_cons_zero, List.set_cons_succ, List.length_cons, List.length_nil, List.map_cons, List.map_nil, List.cons_append, List.nil_append, List.replicate_zero, List.replicate_succ, decide_true, decide_false, Bool.and_true, Bool.true_and, Bool.and_false, Bool.false_and, Bool.or_true, Bool.true_or, Bool.or_false, Bool.false_or, Bool.not_true, Bool.not_false, if_true, if_false, ite_true, ite_false, reduceIte, List.contains_nil, List.contains_cons, Nat.reduceBEq, List.any_cons, List.any_nil, List.append_nil, Bool.false_eq_true, reduceCtorEq, Nat.reduceAdd, Nat.reduceLT, Nat.reduceLeDiff, Nat.zero_add, Int.reduceSub, Int.reduceAdd, Int.reduceMul, Int.reduceToNat, Int.reducePow, Int.one_mul, Int.reduceNeg, Int.reduceLT, Int.reduceLE, Int.zero_add, Int.add_zero, Int.reduceEq, Int.reduceMod, Int.reduceDiv, Int.reduceOfNat, Int.cast_ofNat_Int, getN, putN, gGt_ok, dd, a1, a2, x1, x1', x2, x2', e1, e2, f0, Option.map_some]
  · rw [if_neg q]
    have dd : decide (gz r p.2 < gz r p.1) = false := decide_eq_false q
    simp (disch := omega) only [b__law_walked_L0, runF, seqC, bindC, asgC, tgN, tgT, tgsC, tgsN, opE, evs, varE, takE, frzE, cstE, retC, retNC, expC, ifC, passC, rsC, brkC, cntC, callE, srcE, andE, orE, ifE, seqE, notE, chainE, nt_non, nt_bl, nt_int, nt_str, nt_tup, nt_nil, nt_cons, so_non, so_bl, so_int, so_str, so_tup, so_nil, so_cons, no_non, no_bl, no_int, no_str, no_tup, no_nil, no_cons, nr_non, nr_bl, nr_int, nr_str, nr_tup, nr_nil, nr_cons, ao_non, ao_bl, ao_int, ao_str, ao_tup, ao_nil, ao_cons, pk_non, pk_bl, pk_int, pk_str, pk_tup, pk_nil, pk_cons, sf_non, sf_bl, sf_int, sf_str, sf_tup, sf_nil, sf_cons, ints_so, ints_nt, ints_no, ints_nr, ints_ao, ints_pk, ints_sf, ints_snoc, pk_nd, sf_nd, nt_nd, so_nd, no_nd, nr_nd, ao_nd, so_app, gLen_nd, gIx_nd, gLst_0, gLR1_ok, gLR2_ok, isi_lst, hSeq_nd, fp1, fp2, fp3, fb1, fb2, fb3, fb4, fb5, fb6, fb7, fb8, fb9, fb10, fb11, fb12, fb13, fb14, sf_enc, pk_own, pk_sh, pk_tr, nr_enc, ao_enc, so_own, so_sh, nt_own, nt_sh, no_sh, no_tr, no_own, nt_tr, gLen_enc, gIx_0, gIx_1, gLst_nil, hSeq_sh, hRng1_ok, hRng2_ok, gSub_ok, gAdd_ok, gNeg_ok, gMod_ok, gDiv_ok, gShl_ok, gShr_ok, gMul_r, gMul_l, gLt_ok, gLe_ok, gGt_ok, gGe_ok, gNot_ok, gTup_2, gTup_3, gMax2_ok, gMin2_ok, isi_int_int, isi_int_bool, isi_tup, isi_int_list, isi_list, gEq_int, gNe_int, List.getElem?_cons_zero, List.getElem?_cons_succ, List.set_cons_zero, List.set_cons_succ, List.length_cons, List.length_nil, List.map_cons, List.map_nil, List.cons_append, List.nil_append, List.replicate_zero, List.replicate_succ, decide_true, decide_false, Bool.and_true, Bool.true_and, Bool.and_false, Bool.false_and, Bool.or_true, Bool.true_or, Bool.or_false, Bool.false_or, Bool.not_true, Bool.not_false, if_true, if_false, ite_true, ite_false, reduceIte, List.contains_nil, List.contains_cons, Nat.reduceBEq, List.any_cons, List.any_nil, List.append_nil, Bool.false_eq_true, reduceCtorEq, Nat.reduceAdd, Nat.reduceLT, Nat.reduceLeDiff, Nat.zero_add, Int.reduceSub, Int.reduceAdd, Int.reduceMul, Int.reduceToNat, Int.reducePow, Int.one_mul, Int.reduceNeg, Int.reduceLT, Int.reduceLE, Int.zero_add, Int.add_zero, Int.reduceEq, Int.reduceMod, Int.reduceDiv, Int.reduceOfNat, Int.cast_ofNat_Int, gGt_ok, dd, a1, a2]
theorem wlayer {n : Nat} (N p : List (List (Int × Int))) {L : List (Int × Int)} (hL : Ly n L) (r0 : List Int) (hr : r0.length = n) (hp : p.length ≤ 40) (o4 o5 o6 : Option Vl) : ∃ o5' o6', b__law_walked_L1 ⟨[some (.nd .sh .lst (nw N)), some (.nd .sh .lst (r0.map Vl.int)), some (.nd .own .lst (soL (wk p r0))), some (.nd .sh .lst (foL L)), o4, o5, o6], [], []⟩ = .nx ⟨[some (.nd .sh .lst (nw N)), some (.nd .sh .lst (r0.map Vl.int)), some (.nd .own .lst (soL (wk (p ++ [L]) r0))), some (.nd .sh .lst (foL L)), none, o5', o6'], [], []⟩ := by
  rw [wk_snoc]
  have hl := stL_last p r0
  have hpl : (ps p r0).length = n := by rw [ps_len]; exact hr
  have hwl := wk_len p r0
  have pk := soL_pk (wk p r0)
  generalize ps p r0 = r1 at *
  generalize wk p r0 = R at *
  obtain ⟨st, e1, o5', o6', hs⟩ := forL_map (g := tgT 2 (tgsC (tgN 5) (tgsC (tgN 6) tgsN))) (body := b__law_walked_L0) (ev := pV) L (st := SWK N r0 R L r1 o5 o6)
    (fun q st => ∃ o5 o6, st = SWK N r0 R L (wl q r1) o5 o6) ⟨_, _, rfl⟩ fun q s t st hz ⟨o5, o6, hs⟩ => by
      subst hs
      have hb := hL.b s (by rw [hz]; simp)
      have e : wl (q ++ [s]) r1 = wF (wl q r1) s := by unfold wl; rw [List.foldl_append]; rfl
      rw [e]
      exact ⟨SWK N r0 R L (wl q r1) (some (.int s.1)) (some (.int s.2)), _, by simp (disch := omega) only [runF, seqC, bindC, asgC, tgN, tgT, tgsC, tgsN, opE, evs, varE, takE, frzE, cstE, retC, retNC, expC, ifC, passC, rsC, brkC, cntC, callE, srcE, andE, orE, ifE, seqE, notE, chainE, nt_non, nt_bl, nt_int, nt_str, nt_tup, nt_nil, nt_cons, so_non, so_bl, so_int, so_str, so_tup, so_nil, so_cons, no_non, no_bl, no_int, no_str, no_tup, no_nil, no_cons, nr_non, nr_bl, nr_int, nr_str, nr_tup, nr_nil, nr_cons, ao_non, ao_bl, ao_int, ao_str, ao_tup, ao_nil, ao_cons, pk_non, pk_bl, pk_int, pk_str, pk_tup, pk_nil, pk_cons, sf_non, sf_bl, sf_int, sf_str, sf_tup, sf_nil, sf_cons, ints_so, ints_nt, ints_no, ints_nr, ints_ao, ints_pk, ints_sf, ints_snoc, pk_nd, sf_nd, nt_nd, so_nd, no_nd, nr_nd, ao_nd, so_app, gLen_nd, gIx_nd, gLst_0, gLR1_ok, gLR2_ok, isi_lst, hSeq_nd, fp1, fp2, fp3, fb1, fb2, fb3, fb4, fb5, fb6, fb7, fb8, fb9, fb10, fb11, fb12, fb13, fb14, sf_enc, pk_own, pk_sh, pk_tr, nr_enc, ao_enc, so_own, so_sh, nt_own, nt_sh, no_sh, no_tr, no_own, nt_tr, gLen_enc, gIx_0, gIx_1, gLst_nil, hSeq_sh, hRng1_ok, hRng2_ok, gSub_ok, gAdd_ok, gNeg_ok, gMod_ok, gDiv_ok, gShl_ok, gShr_ok, gMul_r, gMul_l, gLt_ok, gLe_ok, gGt_ok, gGe_ok, gNot_ok, gTup_2, gTup_3, gMax2_ok, gMin2_ok, isi_int_int, isi_int_bool, isi_tup, isi_int_list, isi_list, gEq_int, gNe_int, List.getElem?_cons_zero, List.getElem?_cons_succ, List.set_cons_zero, List.set_cons_succ, List.length_cons, List.length_nil, List.map_cons, List.map_nil, List.cons_append, List.nil_append, List.replicate_zero, List.replicate_succ, decide_true, decide_false, Bool.and_true, Bool.true_and, Bool.and_false, Bool.false_and, Bool.or_true, Bool.true_or, Bool.or_false, Bool.false_or, Bool.not_true, Bool.not_false, if_true, if_false, ite_true, ite_false, reduceIte, List.contains_nil, List.contains_cons, Nat.reduceBEq, List.any_cons, List.any_nil, List.append_nil, Bool.false_eq_true, reduceCtorEq, Nat.reduceAdd, Nat.reduceLT, Nat.reduceLeDiff, Nat.zero_add], .inl (wrow_step N r0 R L hb (wl q r1) (by rw [wl_len]; exact hpl)), _, _, rfl⟩
  subst hs
  have e0 : foL L = L.map pV := rfl
  rw [← e0] at e1
  have nt := foL_nt L
  have no := foL_no L
  have gl : gList [.nd .tr .lst (r1.map Vl.int)] = some (.nd .own .lst (r1.map Vl.int)) := gList_ints .tr r1
  have sn := soL_snoc R (wl L r1)
  have so := soL_so (R ++ [wl L r1])
  have z1 : (soL R).length < PySem.sizeLine := by rw [PySem.sizeLine_eq, soL_len, hwl]; omega
  refine ⟨o5', o6', ?_⟩
  generalize wl L r1 = r2 at *
  generalize hq : forL (tgT 2 (tgsC (tgN 5) (tgsC (tgN 6) tgsN))) b__law_walked_L0 = fl at e1
  simp only [SWK] at e1
  simp (disch := omega) only [b__law_walked_L1, forC, hq, runF, seqC, bindC, asgC, tgN, tgT, tgsC, tgsN, opE, evs, varE, takE, frzE, cstE, retC, retNC, expC, ifC, passC, rsC, brkC, cntC, callE, srcE, andE, orE, ifE, seqE, notE, chainE, nt_non, nt_bl, nt_int, nt_str, nt_tup, nt_nil, nt_cons, so_non, so_bl, so_int, so_str, so_tup, so_nil, so_cons, no_non, no_bl, no_int, no_str, no_tup, no_nil, no_cons, nr_non, nr_bl, nr_int, nr_str, nr_tup, nr_nil, nr_cons, ao_non, ao_bl, ao_int, ao_str, ao_tup, ao_nil, ao_cons, pk_non, pk_bl, pk_int, pk_str, pk_tup, pk_nil, pk_cons, sf_non, sf_bl, sf_int, sf_str, sf_tup, sf_nil, sf_cons, ints_so, ints_nt, ints_no, ints_nr, ints_ao, ints_pk, ints_sf, ints_snoc, pk_nd, sf_nd, nt_nd, so_nd, no_nd, nr_nd, ao_nd, so_app, gLen_nd, gIx_nd, gLst_0, gLR1_ok, gLR2_ok, isi_lst, hSeq_nd, fp1, fp2, fp3, fb1, fb2, fb3, fb4, fb5, fb6, fb7, fb8, fb9, fb10, fb11, fb12, fb13, fb14, sf_enc, pk_own, pk_sh, pk_tr, nr_enc, ao_enc, so_own, so_sh, nt_own, nt_sh, no_sh, no_tr, no_own, nt_tr, gLen_enc, gIx_0, gIx_1, gLst_nil, hSeq_sh, hRng1_ok, hRng2_ok, gSub_ok, gAdd_ok, gNeg_ok, gMod_ok, gDiv_ok, gShl_ok, gShr_ok, gMul_r, gMul_l, gLt_ok, gLe_ok, gGt_ok, gGe_ok, gNot_ok, gTup_2, gTup_3, gMax2_ok, gMin2_ok, isi_int_int, isi_int_bool, isi_tup, isi_int_list, isi_list, gEq_int, gNe_int, List.getElem?_cons_zero, List.getElem?_cons_succ, List.set_cons_zero, List.set_cons_succ, List.length_cons, List.length_nil, List.map_cons, List.map_nil, List.cons_append, List.nil_append, List.replicate_zero, List.replicate_succ, decide_true, decide_false, Bool.and_true, Bool.true_and, Bool.and_false, Bool.false_and, Bool.or_true, Bool.true_or, Bool.or_false, Bool.false_or, Bool.not_true, Bool.not_false, if_true, if_false, ite_true, ite_false, reduceIte, List.contains_nil, List.contains_cons, Nat.reduceBEq, List.any_cons, List.any_nil, List.append_nil, Bool.false_eq_true, reduceCtorEq, Nat.reduceAdd, Nat.reduceLT, Nat.reduceLeDiff, Nat.zero_add, Int.reduceSub, Int.reduceAdd, Int.reduceMul, Int.reduceToNat, Int.reducePow, Int.one_mul, Int.reduceNeg, Int.reduceLT, Int.reduceLE, Int.zero_add, Int.add_zero, Int.reduceEq, Int.reduceMod, Int.reduceDiv, Int.reduceOfNat, Int.cast_ofNat_Int, mutE, getN, putN, isL, muApp, muPop, muPopAt, pk, hl, gl, nt, no, e1, z1, sn, so]
theorem walked_ok {n : Nat} {N : List (List (Int × Int))} (h : Nt n N) {r : List Int} (hr : r.length = n) : F__law_walked [.nd .sh .lst (nw N), .nd .sh .lst (r.map Vl.int)] = .ok (.nd .own .lst (soL (wk N r))) := by
  obtain ⟨st, e1, o3, o4, o5, o6, hs⟩ := forL_map (g := tgN 3) (body := b__law_walked_L1) (ev := fun L => .nd .sh .lst (foL L)) N (st := ⟨[some (.nd .sh .lst (nw N)), some (.nd .sh .lst (r.map Vl.int)), some (.nd .own .lst (soL [r])), none, none, none, none], [], []⟩)
    (fun p st => ∃ o3 o4 o5 o6, st = ⟨[some (.nd .sh .lst (nw N)), some (.nd .sh .lst (r.map Vl.int)), some (.nd .own .lst (soL (wk p r))), o3, o4, o5, o6], [], []⟩) ⟨_, _, _, _, rfl⟩ fun p L t st hz ⟨o3, o4, o5, o6, hs⟩ => by
      subst hs
      have hL := h.h L (by rw [hz]; simp)
      have hp : p.length ≤ 40 := by have := h.l; rw [hz, List.length_append] at this; omega
      obtain ⟨o5', o6', hb⟩ := wlayer N p hL r hr hp o4 o5 o6
      exact ⟨_, _, by simp (disch := omega) only [runF, seqC, bindC, asgC, tgN, tgT, tgsC, tgsN, opE, evs, varE, takE, frzE, cstE, retC, retNC, expC, ifC, passC, rsC, brkC, cntC, callE, srcE, andE, orE, ifE, seqE, notE, chainE, nt_non, nt_bl, nt_int, nt_str, nt_tup, nt_nil, nt_cons, so_non, so_bl, so_int, so_str, so_tup, so_nil, so_cons, no_non, no_bl, no_int, no_str, no_tup, no_nil, no_cons, nr_non, nr_bl, nr_int, nr_str, nr_tup, nr_nil, nr_cons, ao_non, ao_bl, ao_int, ao_str, ao_tup, ao_nil, ao_cons, pk_non, pk_bl, pk_int, pk_str, pk_tup, pk_nil, pk_cons, sf_non, sf_bl, sf_int, sf_str, sf_tup, sf_nil, sf_cons, ints_so, ints_nt, ints_no, ints_nr, ints_ao, ints_pk, ints_sf, ints_snoc, pk_nd, sf_nd, nt_nd, so_nd, no_nd, nr_nd, ao_nd, so_app, gLen_nd, gIx_nd, gLst_0, gLR1_ok, gLR2_ok, isi_lst, hSeq_nd, fp1, fp2, fp3, fb1, fb2, fb3, fb4, fb5, fb6, fb7, fb8, fb9, fb10, fb11, fb12, fb13, fb14, sf_enc, pk_own, pk_sh, pk_tr, nr_enc, ao_enc, so_own, so_sh, nt_own, nt_sh, no_sh, no_tr, no_own, nt_tr, gLen_enc, gIx_0, gIx_1, gLst_nil, hSeq_sh, hRng1_ok, hRng2_ok, gSub_ok, gAdd_ok, gNeg_ok, gMod_ok, gDiv_ok, gShl_ok, gShr_ok, gMul_r, gMul_l, gLt_ok, gLe_ok, gGt_ok, gGe_ok, gNot_ok, gTup_2, gTup_3, gMax2_ok, gMin2_ok, isi_int_int, isi_int_bool, isi_tup, isi_int_list, isi_list, gEq_int, gNe_int, List.getElem?_cons_zero, List.getElem?_cons_succ, List.set_cons_zero, List.set_cons_succ, List.length_cons, List.length_nil, List.map_cons, List.map_nil, List.cons_append, List.nil_append, List.replicate_zero, List.replicate_succ, decide_true, decide_false, Bool.and_true, Bool.true_and, Bool.and_false, Bool.false_and, Bool.or_true, Bool.true_or, Bool.or_false, Bool.false_or, Bool.not_true, Bool.not_false, if_true, if_false, ite_true, ite_false, reduceIte, List.contains_nil, List.contains_cons, Nat.reduceBEq, List.any_cons, List.any_nil, List.append_nil, Bool.false_eq_true, reduceCtorEq, Nat.reduceAdd, Nat.reduceLT, Nat.reduceLeDiff, Nat.zero_add, foL_nt, foL_no, foL_nr, foL_pk, foL_sf, foL_so, foL_len], .inl hb, _, _, _, _, rfl⟩
  subst hs
  have e0 : nw N = N.map fun L => .nd .sh .lst (foL L) := rfl
  rw [← e0] at e1
  have no := nw_no N
  have nt := nw_nt N
  have ao := soL_ao (wk N r)
  have nt2 := soL_nt [r]
  have gl := gList_ints .sh r
  have gl2 : gLst [.nd .own .lst (r.map Vl.int)] = some (.nd .own .lst (soL [r])) := by
    rw [gLst_le (by simp)]
    unfold mkL
    rw [if_pos (by simp only [so_cons, so_nil, so_nd, ints_so]; rfl)]
    rfl
  generalize soL (wk N r) = ss at *
  generalize soL [r] = s0 at *
  generalize hq : forL (tgN 3) b__law_walked_L1 = flp at e1
  simp (disch := omega) only [F__law_walked, b__law_walked, forC, hq, runF, seqC, bindC, asgC, tgN, tgT, tgsC, tgsN, opE, evs, varE, takE, frzE, cstE, retC, retNC, expC, ifC, passC, rsC, brkC, cntC, callE, srcE, andE, orE, ifE, seqE, notE, chainE, nt_non, nt_bl, nt_int, nt_str, nt_tup, nt_nil, nt_cons, so_non, so_bl, so_int, so_str, so_tup, so_nil, so_cons, no_non, no_bl, no_int, no_str, no_tup, no_nil, no_cons, nr_non, nr_bl, nr_int, nr_str, nr_tup, nr_nil, nr_cons, ao_non, ao_bl, ao_int, ao_str, ao_tup, ao_nil, ao_cons, pk_non, pk_bl, pk_int, pk_str, pk_tup, pk_nil, pk_cons, sf_non, sf_bl, sf_int, sf_str, sf_tup, sf_nil, sf_cons, ints_so, ints_nt, ints_no, ints_nr, ints_ao, ints_pk, ints_sf, ints_snoc, pk_nd, sf_nd, nt_nd, so_nd, no_nd, nr_nd, ao_nd, so_app, gLen_nd, gIx_nd, gLst_0, gLR1_ok, gLR2_ok, isi_lst, hSeq_nd, fp1, fp2, fp3, fb1, fb2, fb3, fb4, fb5, fb6, fb7, fb8, fb9, fb10, fb11, fb12, fb13, fb14, sf_enc, pk_own, pk_sh, pk_tr, nr_enc, ao_enc, so_own, so_sh, nt_own, nt_sh, no_sh, no_tr, no_own, nt_tr, gLen_enc, gIx_0, gIx_1, gLst_nil, hSeq_sh, hRng1_ok, hRng2_ok, gSub_ok, gAdd_ok, gNeg_ok, gMod_ok, gDiv_ok, gShl_ok, gShr_ok, gMul_r, gMul_l, gLt_ok, gLe_ok, gGt_ok, gGe_ok, gNot_ok, gTup_2, gTup_3, gMax2_ok, gMin2_ok, isi_int_int, isi_int_bool, isi_tup, isi_int_list, isi_list, gEq_int, gNe_int, List.getElem?_cons_zero, List.getElem?_cons_succ, List.set_cons_zero, List.set_cons_succ, List.length_cons, List.length_nil, List.map_cons, List.map_nil, List.cons_append, List.nil_append, List.replicate_zero, List.replicate_succ, decide_true, decide_false, Bool.and_true, Bool.true_and, Bool.and_false, Bool.false_and, Bool.or_true, Bool.true_or, Bool.or_false, Bool.false_or, Bool.not_true, Bool.not_false, if_true, if_false, ite_true, ite_false, reduceIte, List.contains_nil, List.contains_cons, Nat.reduceBEq, List.any_cons, List.any_nil, List.append_nil, Bool.false_eq_true, reduceCtorEq, Nat.reduceAdd, Nat.reduceLT, Nat.reduceLeDiff, Nat.zero_add, Int.reduceSub, Int.reduceAdd, Int.reduceMul, Int.reduceToNat, Int.reducePow, Int.one_mul, Int.reduceNeg, Int.reduceLT, Int.reduceLE, Int.zero_add, Int.add_zero, Int.reduceEq, Int.reduceMod, Int.reduceDiv, Int.reduceOfNat, Int.cast_ofNat_Int, e1, no, nt, ao, nt2, gl, gl2, Nat.reduceSub, List.length_map]
/-! ### the first row that does not rise -/
theorem risB_two (x y : Int) (t : List Int) : risB (x :: y :: t) = (decide (x ≤ y) && risB (y :: t)) := rfl
theorem risB_iff : ∀ e : List Int, risB e = true ↔ ∀ k : Nat, k + 1 < e.length → e.getD k 0 ≤ e.getD (k + 1) 0
  | [] => ⟨fun _ k h => by simp at h, fun _ => rfl⟩
  | [x] => ⟨fun _ k h => by simp at h, fun _ => rfl⟩
  | x :: y :: t => by
    rw [risB_two, Bool.and_eq_true, decide_eq_true_eq, risB_iff (y :: t)]
    constructor
    · intro ⟨h1, h2⟩ k hk
      cases k with
      | zero => exact h1
      | succ k => exact h2 k (by simpa using hk)
    · intro h
      exact ⟨h 0 (by simp), fun k hk => h (k + 1) (by simpa using hk)⟩
def rng1 (n : Nat) : List Int := (List.range (n - 1)).map fun k => (1 + (k : Nat) : Int)
def bad (n : Nat) (e : List Int) : List Int := (rng1 n).filter fun i => decide (gz e i < gz e (i - 1))
theorem bad_ris {n : Nat} {e : List Int} (h : e.length = n) : decide (bad n e = []) = risB e := by
  rw [Bool.eq_iff_iff, decide_eq_true_eq, risB_iff]
  unfold bad
  rw [List.filter_eq_nil_iff]
  constructor
  · intro q k hk
    have := q (1 + (k : Int)) (List.mem_map.mpr ⟨k, List.mem_range.mpr (by omega), rfl⟩)
    rw [decide_eq_true_eq] at this
    unfold gz at this
    rw [show (1 + (k : Int)).toNat = k + 1 by omega, show (1 + (k : Int) - 1).toNat = k by omega] at this
    omega
  · intro q i hi
    obtain ⟨k, hk, rfl⟩ := List.mem_map.mp hi
    have hk := List.mem_range.mp hk
    have := q k (by omega)
    rw [decide_eq_true_eq]
    unfold gz
    rw [show (1 + (k : Int)).toNat = k + 1 by omega, show (1 + (k : Int) - 1).toNat = k by omega]
    omega
theorem intsV_1 (n : Nat) : intsV 1 n = ((List.range n).map fun k => (1 + (k : Nat) : Int)).map Vl.int := by
  rw [List.map_map]; rfl
end K41

namespace K41
open PyI
open Enc (enc)
--%DEF FO foL_nt, foL_no, foL_nr, foL_pk, foL_sf, foL_so, foL_len
--%DEF NW nw_nt, nw_no, nw_nr, nw_pk, nw_sf, nw_len
theorem first_row {n : Nat} (n2 : n ≤ 8) (V0 : Vl) (k : Int) (o40 o5 : Option Vl) : ∃ o4, forL (tgN 4) b__law_first_L0 ((rng n).map Vl.int) ⟨[some V0, some (.int n), some (.int k), some (.nd .own .lst []), o40, o5], [], []⟩ = .nx ⟨[some V0, some (.int n), some (.int k), some (.nd .own .lst ((bitR n k).map Vl.int)), o4, o5], [], []⟩ := by
  obtain ⟨st, e1, o4, hs⟩ := forL_map (g := tgN 4) (body := b__law_first_L0) (ev := Vl.int) (rng n) (st := ⟨[some V0, some (.int n), some (.int k), some (.nd .own .lst []), o40, o5], [], []⟩)
    (fun p st => ∃ o4, st = ⟨[some V0, some (.int n), some (.int k), some (.nd .own .lst ((p.map fun i => k / 2 ^ i.toNat % 2).map Vl.int)), o4, o5], [], []⟩) ⟨_, rfl⟩ fun p i t st hz ⟨o4, hs⟩ => by
      subst hs
      have hi := mem_rng.mp (show i ∈ rng n by rw [hz]; simp)
      have hpl : p.length ≤ 8 := by
        have := congrArg List.length hz
        rw [rng_len, List.length_append] at this
        omega
      have hg : gShl [.int 1, .int i] = some (.int (2 ^ i.toNat)) := by
        rw [gShl_ok hi.1 (by have := hi.2; omega) (by decide), Int.one_mul]
      have hb : (0 : Int) < 2 ^ i.toNat ∧ (2 : Int) ^ i.toNat < 1073741824 := by
        have a := pow_le (n := i.toNat) (by have := hi.2; omega)
        have b : 0 < 2 ^ i.toNat := Nat.two_pow_pos _
        have e : ((2 ^ i.toNat : Nat) : Int) = (2 : Int) ^ i.toNat := by simp
        revert a b e
        generalize (2 : Int) ^ i.toNat = z
        generalize 2 ^ i.toNat = m
        intro a b e
        omega
      have z1 : (p.map fun i => k / 2 ^ i.toNat % 2).length < PySem.sizeLine := by rw [PySem.sizeLine_eq, List.length_map]; omega
      have e2 : (p ++ [i]).map (fun i => k / 2 ^ i.toNat % 2) = (p.map fun i => k / 2 ^ i.toNat % 2) ++ [k / 2 ^ i.toNat % 2] := by rw [List.map_append]; rfl
      rw [e2]
      have gd := gDiv_ok (i := k) hb.1 hb.2
      refine ⟨⟨[some V0, some (.int n), some (.int k), some (.nd .own .lst ((p.map fun i => k / 2 ^ i.toNat % 2).map Vl.int)), some (.int i), o5], [], []⟩, ⟨[some V0, some (.int n), some (.int k), some (.nd .own .lst (((p.map fun i => k / 2 ^ i.toNat % 2) ++ [k / 2 ^ i.toNat % 2]).map Vl.int)), some (.int i), o5], [], []⟩, rfl, .inl ?_, _, rfl⟩
      generalize (p.map fun i => k / 2 ^ i.toNat % 2) = q at *
      generalize (2 : Int) ^ i.toNat = z at *
      generalize k / z = w at *
      simp (disch := omega) only [b__law_first_L0, runF, seqC, bindC, asgC, tgN, tgT, tgsC, tgsN, opE, evs, varE, takE, frzE, cstE, retC, retNC, expC, ifC, passC, rsC, brkC, cntC, callE, srcE, andE, orE, ifE, seqE, notE, chainE, nt_non, nt_bl, nt_int, nt_str, nt_tup, nt_nil, nt_cons, so_non, so_bl, so_int, so_str, so_tup, so_nil, so_cons, no_non, no_bl, no_int, no_str, no_tup, no_nil, no_cons, nr_non, nr_bl, nr_int, nr_str, nr_tup, nr_nil, nr_cons, ao_non, ao_bl, ao_int, ao_str, ao_tup, ao_nil, ao_cons, pk_non, pk_bl, pk_int, pk_str, pk_tup, pk_nil, pk_cons, sf_non, sf_bl, sf_int, sf_str, sf_tup, sf_nil, sf_cons, ints_so, ints_nt, ints_no, ints_nr, ints_ao, ints_pk, ints_sf, ints_snoc, pk_nd, sf_nd, nt_nd, so_nd, no_nd, nr_nd, ao_nd, so_app, gLen_nd, gIx_nd, gLst_0, gLR1_ok, gLR2_ok, isi_lst, hSeq_nd, fp1, fp2, fp3, fb1, fb2, fb3, fb4, fb5, fb6, fb7, fb8, fb9, fb10, fb11, fb12, fb13, fb14, sf_enc, pk_own, pk_sh, pk_tr, nr_enc, ao_enc, so_own, so_sh, nt_own, nt_sh, no_sh, no_tr, no_own, nt_tr, gLen_enc, gIx_0, gIx_1, gLst_nil, hSeq_sh, hRng1_ok, hRng2_ok, gSub_ok, gAdd_ok, gNeg_ok, gMod_ok, gDiv_ok, gShl_ok, gShr_ok, gMul_r, gMul_l, gLt_ok, gLe_ok, gGt_ok, gGe_ok, gNot_ok, gTup_2, gTup_3, gMax2_ok, gMin2_ok, isi_int_int, isi_int_bool, isi_tup, isi_int_list, isi_list, gEq_int, gNe_int, List.getElem?_cons_zero, List.getElem?_cons_succ, List.set_cons_zero, List.set_cons_succ, List.length_cons, List.length_nil, List.map_cons, List.map_nil, List.cons_append, List.nil_append, List.replicate_zero, List.replicate_succ, decide_true, decide_false, Bool.and_true, Bool.true_and, Bool.and_false, Bool.false_and, Bool.or_true, Bool.true_or, Bool.or_false, Bool.false_or, Bool.not_true, Bool.not_false, if_true, if_false, ite_true, ite_false, reduceIte, List.contains_nil, List.contains_cons, Nat.reduceBEq, List.any_cons, List.any_nil, List.append_nil, Bool.false_eq_true, reduceCtorEq, Nat.reduceAdd, Nat.reduceLT, Nat.reduceLeDiff, Nat.zero_add, Int.reduceSub, Int.reduceAdd, Int.reduceMul, Int.reduceToNat, Int.reducePow, Int.one_mul, Int.reduceNeg, Int.reduceLT, Int.reduceLE, Int.zero_add, Int.add_zero, Int.reduceEq, Int.reduceMod, Int.reduceDiv, Int.reduceOfNat, Int.cast_ofNat_Int, mutE, getN, putN, isL, muApp, muPop, muPopAt, hg, gd, z1, List.length_map]
  subst hs
  exact ⟨o4, e1⟩
theorem first_ok {n : Nat} (n1 : 1 ≤ n) (n2 : n ≤ 8) {N : List (List (Int × Int))} (h : Nt n N) : F__law_first [.nd .sh .lst (nw N), .int n] = .ok (res n N) := by
  have hp := pow_le n2
  have step : ∀ k ∈ rng (2 ^ n), ∀ st, (∃ o2 o3 o4 o5, st = ⟨[some (.nd .sh .lst (nw N)), some (.int n), o2, o3, o4, o5], [], []⟩) → ∃ s1, tgN 2 (.int k) st = some s1 ∧ (Pk n N k = true → ∃ s2, b__law_first_L1 s1 = .rt (.nd .own .lst ((bitR n k).map Vl.int)) s2) ∧ (Pk n N k = false → ∃ s2, b__law_first_L1 s1 = .nx s2 ∧ ∃ o2 o3 o4 o5, s2 = ⟨[some (.nd .sh .lst (nw N)), some (.int n), o2, o3, o4, o5], [], []⟩) := by
    intro k hk st ⟨o2, o3, o4, o5, hst⟩
    subst hst
    refine ⟨⟨[some (.nd .sh .lst (nw N)), some (.int n), some (.int k), o3, o4, o5], [], []⟩, rfl, ?_⟩
    obtain ⟨o4', e2⟩ := first_row n2 (.nd .sh .lst (nw N)) k o4 o5
    have hw := walked_ok h (bitR_len n k)
    have hl := soL_last N (bitR n k)
    have hpl : (ps N (bitR n k)).length = n := by rw [ps_len, bitR_len]
    have ao := soL_ao (wk N (bitR n k))
    have nt := soL_nt (wk N (bitR n k))
    have ao2 := ints_ao (ps N (bitR n k))
    have hbr := bad_ris hpl
    unfold Pk
    rw [← hbr]
    generalize soL (wk N (bitR n k)) = ss at *
    generalize ps N (bitR n k) = e at *
    generalize bitR n k = br at *
    have a1 : asgC (tgN 3) (opE gLst []) ⟨[some (.nd .sh .lst (nw N)), some (.int n), some (.int k), o3, o4, o5], [], []⟩ = .nx ⟨[some (.nd .sh .lst (nw N)), some (.int n), some (.int k), some (.nd .own .lst []), o4, o5], [], []⟩ := by
      simp (disch := omega) only [runF, seqC, bindC, asgC, tgN, tgT, tgsC, tgsN, opE, evs, varE, takE, frzE, cstE, retC, retNC, expC, ifC, passC, rsC, brkC, cntC, callE, srcE, andE, orE, ifE, seqE, notE, chainE, nt_non, nt_bl, nt_int, nt_str, nt_tup, nt_nil, nt_cons, so_non, so_bl, so_int, so_str, so_tup, so_nil, so_cons, no_non, no_bl, no_int, no_str, no_tup, no_nil, no_cons, nr_non, nr_bl, nr_int, nr_str, nr_tup, nr_nil, nr_cons, ao_non, ao_bl, ao_int, ao_str, ao_tup, ao_nil, ao_cons, pk_non, pk_bl, pk_int, pk_str, pk_tup, pk_nil, pk_cons, sf_non, sf_bl, sf_int, sf_str, sf_tup, sf_nil, sf_cons, ints_so, ints_nt, ints_no, ints_nr, ints_ao, ints_pk, ints_sf, ints_snoc, pk_nd, sf_nd, nt_nd, so_nd, no_nd, nr_nd, ao_nd, so_app, gLen_nd, gIx_nd, gLst_0, gLR1_ok, gLR2_ok, isi_lst, hSeq_nd, fp1, fp2, fp3, fb1, fb2, fb3, fb4, fb5, fb6, fb7, fb8, fb9, fb10, fb11, fb12, fb13, fb14, sf_enc, pk_own, pk_sh, pk_tr, nr_enc, ao_enc, so_own, so_sh, nt_own, nt_sh, no_sh, no_tr, no_own, nt_tr, gLen_enc, gIx_0, gIx_1, gLst_nil, hSeq_sh, hRng1_ok, hRng2_ok, gSub_ok, gAdd_ok, gNeg_ok, gMod_ok, gDiv_ok, gShl_ok, gShr_ok, gMul_r, gMul_l, gLt_ok, gLe_ok, gGt_ok, gGe_ok, gNot_ok, gTup_2, gTup_3, gMax2_ok, gMin2_ok, isi_int_int, isi_int_bool, isi_tup, isi_int_list, isi_list, gEq_int, gNe_int, List.getElem?_cons_zero, List.getElem?_cons_succ, List.set_cons_zero, List.set_cons_succ, List.length_cons, List.length_nil, List.map_cons, List.map_nil, List.cons_append, List.nil_append, List.replicate_zero, List.replicate_succ, decide_true, decide_false, Bool.and_true, Bool.true_and, Bool.and_false, Bool.false_and, Bool.or_true, Bool.true_or, Bool.or_false, Bool.false_or, Bool.not_true, Bool.not_false, if_true, if_false, ite_true, ite_false, reduceIte, List.contains_nil, List.contains_cons, Nat.reduceBEq, List.any_cons, List.any_nil, List.append_nil, Bool.false_eq_true, reduceCtorEq, Nat.reduceAdd, Nat.reduceLT, Nat.reduceLeDiff, Nat.zero_add]
    have a2 : forC (tgN 4) (srcE hRng1 [varE 1]) b__law_first_L0 ⟨[some (.nd .sh .lst (nw N)), some (.int n), some (.int k), some (.nd .own .lst []), o4, o5], [], []⟩ = .nx ⟨[some (.nd .sh .lst (nw N)), some (.int n), some (.int k), some (.nd .own .lst (br.map Vl.int)), o4', o5], [], []⟩ := by
      have hrn := intsV_rng n
      generalize hq : forL (tgN 4) b__law_first_L0 = fl at e2
      simp (disch := omega) only [forC, hq, runF, seqC, bindC, asgC, tgN, tgT, tgsC, tgsN, opE, evs, varE, takE, frzE, cstE, retC, retNC, expC, ifC, passC, rsC, brkC, cntC, callE, srcE, andE, orE, ifE, seqE, notE, chainE, nt_non, nt_bl, nt_int, nt_str, nt_tup, nt_nil, nt_cons, so_non, so_bl, so_int, so_str, so_tup, so_nil, so_cons, no_non, no_bl, no_int, no_str, no_tup, no_nil, no_cons, nr_non, nr_bl, nr_int, nr_str, nr_tup, nr_nil, nr_cons, ao_non, ao_bl, ao_int, ao_str, ao_tup, ao_nil, ao_cons, pk_non, pk_bl, pk_int, pk_str, pk_tup, pk_nil, pk_cons, sf_non, sf_bl, sf_int, sf_str, sf_tup, sf_nil, sf_cons, ints_so, ints_nt, ints_no, ints_nr, ints_ao, ints_pk, ints_sf, ints_snoc, pk_nd, sf_nd, nt_nd, so_nd, no_nd, nr_nd, ao_nd, so_app, gLen_nd, gIx_nd, gLst_0, gLR1_ok, gLR2_ok, isi_lst, hSeq_nd, fp1, fp2, fp3, fb1, fb2, fb3, fb4, fb5, fb6, fb7, fb8, fb9, fb10, fb11, fb12, fb13, fb14, sf_enc, pk_own, pk_sh, pk_tr, nr_enc, ao_enc, so_own, so_sh, nt_own, nt_sh, no_sh, no_tr, no_own, nt_tr, gLen_enc, gIx_0, gIx_1, gLst_nil, hSeq_sh, hRng1_ok, hRng2_ok, gSub_ok, gAdd_ok, gNeg_ok, gMod_ok, gDiv_ok, gShl_ok, gShr_ok, gMul_r, gMul_l, gLt_ok, gLe_ok, gGt_ok, gGe_ok, gNot_ok, gTup_2, gTup_3, gMax2_ok, gMin2_ok, isi_int_int, isi_int_bool, isi_tup, isi_int_list, isi_list, gEq_int, gNe_int, List.getElem?_cons_zero, List.getElem?_cons_succ, List.set_cons_zero, List.set_cons_succ, List.length_cons, List.length_nil, List.map_cons, List.map_nil, List.cons_append, List.nil_append, List.replicate_zero, List.replicate_succ, decide_true, decide_false, Bool.and_true, Bool.true_and, Bool.and_false, Bool.false_and, Bool.or_true, Bool.true_or, Bool.or_false, Bool.false_or, Bool.not_true, Bool.not_false, if_true, if_false, ite_true, ite_false, reduceIte, List.contains_nil, List.contains_cons, Nat.reduceBEq, List.any_cons, List.any_nil, List.append_nil, Bool.false_eq_true, reduceCtorEq, Nat.reduceAdd, Nat.reduceLT, Nat.reduceLeDiff, Nat.zero_add, Int.reduceSub, Int.reduceAdd, Int.reduceMul, Int.reduceToNat, Int.reducePow, Int.one_mul, Int.reduceNeg, Int.reduceLT, Int.reduceLE, Int.zero_add, Int.add_zero, Int.reduceEq, Int.reduceMod, Int.reduceDiv, Int.reduceOfNat, Int.cast_ofNat_Int, Int.toNat_natCast, hrn, e2]
    have a3 : asgC (tgN 5) (opE gIx [callE 2 F__law_walked [varE 0, varE 3] [], opE gNeg [cstE (.int 1)]]) ⟨[some (.nd .sh .lst (nw N)), some (.int n), some (.int k), some (.nd .own .lst (br.map Vl.int)), o4', o5], [], []⟩ = .nx ⟨[some (.nd .sh .lst (nw N)), some (.int n), some (.int k), some (.nd .own .lst (br.map Vl.int)), o4', some (.nd .own .lst (e.map Vl.int))], [], []⟩ := by
      simp (disch := omega) only [runF, seqC, bindC, asgC, tgN, tgT, tgsC, tgsN, opE, evs, varE, takE, frzE, cstE, retC, retNC, expC, ifC, passC, rsC, brkC, cntC, callE, srcE, andE, orE, ifE, seqE, notE, chainE, nt_non, nt_bl, nt_int, nt_str, nt_tup, nt_nil, nt_cons, so_non, so_bl, so_int, so_str, so_tup, so_nil, so_cons, no_non, no_bl, no_int, no_str, no_tup, no_nil, no_cons, nr_non, nr_bl, nr_int, nr_str, nr_tup, nr_nil, nr_cons, ao_non, ao_bl, ao_int, ao_str, ao_tup, ao_nil, ao_cons, pk_non, pk_bl, pk_int, pk_str, pk_tup, pk_nil, pk_cons, sf_non, sf_bl, sf_int, sf_str, sf_tup, sf_nil, sf_cons, ints_so, ints_nt, ints_no, ints_nr, ints_ao, ints_pk, ints_sf, ints_snoc, pk_nd, sf_nd, nt_nd, so_nd, no_nd, nr_nd, ao_nd, so_app, gLen_nd, gIx_nd, gLst_0, gLR1_ok, gLR2_ok, isi_lst, hSeq_nd, fp1, fp2, fp3, fb1, fb2, fb3, fb4, fb5, fb6, fb7, fb8, fb9, fb10, fb11, fb12, fb13, fb14, sf_enc, pk_own, pk_sh, pk_tr, nr_enc, ao_enc, so_own, so_sh, nt_own, nt_sh, no_sh, no_tr, no_own, nt_tr, gLen_enc, gIx_0, gIx_1, gLst_nil, hSeq_sh, hRng1_ok, hRng2_ok, gSub_ok, gAdd_ok, gNeg_ok, gMod_ok, gDiv_ok, gShl_ok, gShr_ok, gMul_r, gMul_l, gLt_ok, gLe_ok, gGt_ok, gGe_ok, gNot_ok, gTup_2, gTup_3, gMax2_ok, gMin2_ok, isi_int_int, isi_int_bool, isi_tup, isi_int_list, isi_list, gEq_int, gNe_int, List.getElem?_cons_zero, List.getElem?_cons_succ, List.set_cons_zero, List.set_cons_succ, List.length_cons, List.length_nil, List.map_cons, List.map_nil, List.cons_append, List.nil_append, List.replicate_zero, List.replicate_succ, decide_true, decide_false, Bool.and_true, Bool.true_and, Bool.and_false, Bool.false_and, Bool.or_true, Bool.true_or, Bool.or_false, Bool.false_or, Bool.not_true, Bool.not_false, if_true, if_false, ite_true, ite_false, reduceIte, List.contains_nil, List.contains_cons, Nat.reduceBEq, List.any_cons, List.any_nil, List.append_nil, Bool.false_eq_true, reduceCtorEq, Nat.reduceAdd, Nat.reduceLT, Nat.reduceLeDiff, Nat.zero_add, Int.reduceSub, Int.reduceAdd, Int.reduceMul, Int.reduceToNat, Int.reducePow, Int.one_mul, Int.reduceNeg, Int.reduceLT, Int.reduceLE, Int.zero_add, Int.add_zero, Int.reduceEq, Int.reduceMod, Int.reduceDiv, Int.reduceOfNat, Int.cast_ofNat_Int, nw_nt, nw_no, nw_nr, nw_pk, nw_sf, nw_len, hw, ao, nt, hl]
    have hc : compE [4] (tgN 4) (srcE hRng2 [cstE (.int 1), varE 1]) (opE gGt [opE gIx [varE 5, opE gSub [varE 4, cstE (.int 1)]], opE gIx [varE 5, varE 4]]) (frzE 4) ⟨[some (.nd .sh .lst (nw N)), some (.int n), some (.int k), some (.nd .own .lst (br.map Vl.int)), o4', some (.nd .own .lst (e.map Vl.int))], [], []⟩ = .ok (mkL ((bad n e).map Vl.int), (⟨[some (.nd .sh .lst (nw N)), some (.int n), some (.int k), some (.nd .own .lst (br.map Vl.int)), o4', some (.nd .own .lst (e.map Vl.int))], [], []⟩ : Sta), false) := by
      refine compE_map (vs := [4]) (st1 := ⟨[some (.nd .sh .lst (nw N)), some (.int n), some (.int k), some (.nd .own .lst (br.map Vl.int)), o4', some (.nd .own .lst (e.map Vl.int))], [], []⟩) (ev := Vl.int) (tr := false) (rng1 n) (fun i => decide (gz e i < gz e (i - 1))) Vl.int ?_ rfl (fun i hi => ?_) ?_
      · have hr : hRng2 [.int 1, .int (n : Nat)] = some ((rng1 n).map Vl.int, false) := by
          rw [hRng2_ok (by decide) (by omega)]
          unfold rng1
          rw [show ((n : Nat) - (1 : Int)).toNat = n - 1 by omega, intsV_1]
        simp (disch := omega) only [runF, seqC, bindC, asgC, tgN, tgT, tgsC, tgsN, opE, evs, varE, takE, frzE, cstE, retC, retNC, expC, ifC, passC, rsC, brkC, cntC, callE, srcE, andE, orE, ifE, seqE, notE, chainE, nt_non, nt_bl, nt_int, nt_str, nt_tup, nt_nil, nt_cons, so_non, so_bl, so_int, so_str, so_tup, so_nil, so_cons, no_non, no_bl, no_int, no_str, no_tup, no_nil, no_cons, nr_non, nr_bl, nr_int, nr_str, nr_tup, nr_nil, nr_cons, ao_non, ao_bl, ao_int, ao_str, ao_tup, ao_nil, ao_cons, pk_non, pk_bl, pk_int, pk_str, pk_tup, pk_nil, pk_cons, sf_non, sf_bl, sf_int, sf_str, sf_tup, sf_nil, sf_cons, ints_so, ints_nt, ints_no, ints_nr, ints_ao, ints_pk, ints_sf, ints_snoc, pk_nd, sf_nd, nt_nd, so_nd, no_nd, nr_nd, ao_nd, so_app, gLen_nd, gIx_nd, gLst_0, gLR1_ok, gLR2_ok, isi_lst, hSeq_nd, fp1, fp2, fp3, fb1, fb2, fb3, fb4, fb5, fb6, fb7, fb8, fb9, fb10, fb11, fb12, fb13, fb14, sf_enc, pk_own, pk_sh, pk_tr, nr_enc, ao_enc, so_own, so_sh, nt_own, nt_sh, no_sh, no_tr, no_own, nt_tr, gLen_enc, gIx_0, gIx_1, gLst_nil, hSeq_sh, hRng1_ok, hRng2_ok, gSub_ok, gAdd_ok, gNeg_ok, gMod_ok, gDiv_ok, gShl_ok, gShr_ok, gMul_r, gMul_l, gLt_ok, gLe_ok, gGt_ok, gGe_ok, gNot_ok, gTup_2, gTup_3, gMax2_ok, gMin2_ok, isi_int_int, isi_int_bool, isi_tup, isi_int_list, isi_list, gEq_int, gNe_int, List.getElem?_cons_zero, List.getElem?_cons_succ, List.set_cons_zero, List.set_cons_succ, List.length_cons, List.length_nil, List.map_cons, List.map_nil, List.cons_append, List.nil_append, List.replicate_zero, List.replicate_succ, decide_true, decide_false, Bool.and_true, Bool.true_and, Bool.and_false, Bool.false_and, Bool.or_true, Bool.true_or, Bool.or_false, Bool.false_or, Bool.not_true, Bool.not_false, if_true, if_false, ite_true, ite_false, reduceIte, List.contains_nil, List.contains_cons, Nat.reduceBEq, List.any_cons, List.any_nil, List.append_nil, Bool.false_eq_true, reduceCtorEq, Nat.reduceAdd, Nat.reduceLT, Nat.reduceLeDiff, Nat.zero_add, Int.reduceSub, Int.reduceAdd, Int.reduceMul, Int.reduceToNat, Int.reducePow, Int.one_mul, Int.reduceNeg, Int.reduceLT, Int.reduceLE, Int.zero_add, Int.add_zero, Int.reduceEq, Int.reduceMod, Int.reduceDiv, Int.reduceOfNat, Int.cast_ofNat_Int, hr]
      · obtain ⟨q, hq, rfl⟩ := List.mem_map.mp hi
        have hq := List.mem_range.mp hq
        have g1 := atI_gz (r := e) (i := 1 + (q : Int)) (by omega) (by omega)
        have g2 := atI_gz (r := e) (i := 1 + (q : Int) - 1) (by omega) (by omega)
        refine ⟨⟨[some (.nd .sh .lst (nw N)), some (.int n), some (.int k), some (.nd .own .lst (br.map Vl.int)), some (.int (1 + (q : Int))), some (.nd .own .lst (e.map Vl.int))], [], []⟩, rfl, ?_, fun _ => ⟨rfl, rfl⟩, rfl⟩
        generalize gz e (1 + (q : Int)) = u at *
        generalize gz e (1 + (q : Int) - 1) = v at *
        simp (disch := omega) only [runF, seqC, bindC, asgC, tgN, tgT, tgsC, tgsN, opE, evs, varE, takE, frzE, cstE, retC, retNC, expC, ifC, passC, rsC, brkC, cntC, callE, srcE, andE, orE, ifE, seqE, notE, chainE, nt_non, nt_bl, nt_int, nt_str, nt_tup, nt_nil, nt_cons, so_non, so_bl, so_int, so_str, so_tup, so_nil, so_cons, no_non, no_bl, no_int, no_str, no_tup, no_nil, no_cons, nr_non, nr_bl, nr_int, nr_str, nr_tup, nr_nil, nr_cons, ao_non, ao_bl, ao_int, ao_str, ao_tup, ao_nil, ao_cons, pk_non, pk_bl, pk_int, pk_str, pk_tup, pk_nil, pk_cons, sf_non, sf_bl, sf_int, sf_str, sf_tup, sf_nil, sf_cons, ints_so, ints_nt, ints_no, ints_nr, ints_ao, ints_pk, ints_sf, ints_snoc, pk_nd, sf_nd, nt_nd, so_nd, no_nd, nr_nd, ao_nd, so_app, gLen_nd, gIx_nd, gLst_0, gLR1_ok, gLR2_ok, isi_lst, hSeq_nd, fp1, fp2, fp3, fb1, fb2, fb3, fb4, fb5, fb6, fb7, fb8, fb9, fb10, fb11, fb12, fb13, fb14, sf_enc, pk_own, pk_sh, pk_tr, nr_enc, ao_enc, so_own, so_sh, nt_own, nt_sh, no_sh, no_tr, no_own, nt_tr, gLen_enc, gIx_0, gIx_1, gLst_nil, hSeq_sh, hRng1_ok, hRng2_ok, gSub_ok, gAdd_ok, gNeg_ok, gMod_ok, gDiv_ok, gShl_ok, gShr_ok, gMul_r, gMul_l, gLt_ok, gLe_ok, gGt_ok, gGe_ok, gNot_ok, gTup_2, gTup_3, gMax2_ok, gMin2_ok, isi_int_int, isi_int_bool, isi_tup, isi_int_list, isi_list, gEq_int, gNe_int, List.getElem?_cons_zero, List.getElem?_cons_succ, List.set_cons_zero, List.set_cons_succ, List.length_cons, List.length_nil, List.map_cons, List.map_nil, List.cons_append, List.nil_append, List.replicate_zero, List.replicate_succ, decide_true, decide_false, Bool.and_true, Bool.true_and, Bool.and_false, Bool.false_and, Bool.or_true, Bool.true_or, Bool.or_false, Bool.false_or, Bool.not_true, Bool.not_false, if_true, if_false, ite_true, ite_false, reduceIte, List.contains_nil, List.contains_cons, Nat.reduceBEq, List.any_cons, List.any_nil, List.append_nil, Bool.false_eq_true, reduceCtorEq, Nat.reduceAdd, Nat.reduceLT, Nat.reduceLeDiff, Nat.zero_add, g1, g2]
      · rw [PySem.sizeLine_eq, List.length_map]
        have := List.length_filter_le (fun i => decide (gz e i < gz e (i - 1))) (rng1 n)
        unfold rng1 at this
        rw [List.length_map, List.length_range] at this
        show (List.filter _ _).length < _
        unfold rng1
        omega
    rw [mkL_ints] at hc
    have gn : gNe [.nd .own .lst ((bad n e).map Vl.int), .nd .own .lst []] = some (.bl (!decide (bad n e = []))) := gNe_il .own .own (bad n e) []
    generalize bad n e = bd at *
    have a4 : ∀ b : Bool, decide (bd = []) = b → ifC (opE gNe [compE [4] (tgN 4) (srcE hRng2 [cstE (.int 1), varE 1]) (opE gGt [opE gIx [varE 5, opE gSub [varE 4, cstE (.int 1)]], opE gIx [varE 5, varE 4]]) (frzE 4), opE gLst []]) (retC (takE 3)) passC ⟨[some (.nd .sh .lst (nw N)), some (.int n), some (.int k), some (.nd .own .lst (br.map Vl.int)), o4', some (.nd .own .lst (e.map Vl.int))], [], []⟩ = if b then .nx ⟨[some (.nd .sh .lst (nw N)), some (.int n), some (.int k), some (.nd .own .lst (br.map Vl.int)), o4', some (.nd .own .lst (e.map Vl.int))], [], []⟩ else .rt (.nd .own .lst (br.map Vl.int)) ⟨[some (.nd .sh .lst (nw N)), some (.int n), some (.int k), none, o4', some (.nd .own .lst (e.map Vl.int))], [], []⟩ := fun b hb => by
      rw [hb] at gn
      have nt2 := ints_nt bd
      generalize bd.map Vl.int = ws at *
      generalize compE [4] (tgN 4) (srcE hRng2 [cstE (.int 1), varE 1]) (opE gGt [opE gIx [varE 5, opE gSub [varE 4, cstE (.int 1)]], opE gIx [varE 5, varE 4]]) (frzE 4) = ce at *
      cases b <;> simp (disch := omega) only [runF, seqC, bindC, asgC, tgN, tgT, tgsC, tgsN, opE, evs, varE, takE, frzE, cstE, retC, retNC, expC, ifC, passC, rsC, brkC, cntC, callE, srcE, andE, orE, ifE, seqE, notE, chainE, nt_non, nt_bl, nt_int, nt_str, nt_tup, nt_nil, nt_cons, so_non, so_bl, so_int, so_str, so_tup, so_nil, so_cons, no_non, no_bl, no_int, no_str, no_tup, no_nil, no_cons, nr_non, nr_bl, nr_int, nr_str, nr_tup, nr_nil, nr_cons, ao_non, ao_bl, ao_int, ao_str, ao_tup, ao_nil, ao_cons, pk_non, pk_bl, pk_int, pk_str, pk_tup, pk_nil, pk_cons, sf_non, sf_bl, sf_int, sf_str, sf_tup, sf_nil, sf_cons, ints_so, ints_nt, ints_no, ints_nr, ints_ao, ints_pk, ints_sf, ints_snoc, pk_nd, sf_nd, nt_nd, so_nd, no_nd, nr_nd, ao_nd, so_app, gLen_nd, gIx_nd, gLst_0, gLR1_ok, gLR2_ok, isi_lst, hSeq_nd, fp1, fp2, fp3, fb1, fb2, fb3, fb4, fb5, fb6, fb7, fb8, fb9, fb10, fb11, fb12, fb13, fb14, sf_enc, pk_own, pk_sh, pk_tr, nr_enc, ao_enc, so_own, so_sh, nt_own, nt_sh, no_sh, no_tr, no_own, nt_tr, gLen_enc, gIx_0, gIx_1, gLst_nil, hSeq_sh, hRng1_ok, hRng2_ok, gSub_ok, gAdd_ok, gNeg_ok, gMod_ok, gDiv_ok, gShl_ok, gShr_ok, gMul_r, gMul_l, gLt_ok, gLe_ok, gGt_ok, gGe_ok, gNot_ok, gTup_2, gTup_3, gMax2_ok, gMin2_ok, isi_int_int, isi_int_bool, isi_tup, isi_int_list, isi_list, gEq_int, gNe_int, List.getElem?_cons_zero, List.getElem?_cons_succ, List.set_cons_zero, List.set_cons_succ, List.length_cons, List.length_nil, List.map_cons, List.map_nil, List.cons_append, List.nil_append, List.replicate_zero, List.replicate_succ, decide_true, decide_false, Bool.and_true, Bool.true_and, Bool.and_false, Bool.false_and, Bool.or_true, Bool.true_or, Bool.or_false, Bool.false_or, Bool.not_true, Bool.not_false, if_true, if_false, ite_true, ite_false, reduceIte, List.contains_nil, List.contains_cons, Nat.reduceBEq, List.any_cons, List.any_nil, List.append_nil, Bool.false_eq_true, reduceCtorEq, Nat.reduceAdd, Nat.reduceLT, Nat.reduceLeDiff, Nat.zero_add, Int.reduceSub, Int.reduceAdd, Int.reduceMul, Int.reduceToNat, Int.reducePow, Int.one_mul, Int.reduceNeg, Int.reduceLT, Int.reduceLE, Int.zero_add, Int.add_zero, Int.reduceEq, Int.reduceMod, Int.reduceDiv, Int.reduceOfNat, Int.cast_ofNat_Int, hc, gn, nt2]
    unfold b__law_first_L1
    refine ⟨fun hP => ⟨⟨[some (.nd .sh .lst (nw N)), some (.int n), some (.int k), none, o4', some (.nd .own .lst (e.map Vl.int))], [], []⟩, ?_⟩, fun hP => ⟨⟨[some (.nd .sh .lst (nw N)), some (.int n), some (.int k), some (.nd .own .lst (br.map Vl.int)), o4', some (.nd .own .lst (e.map Vl.int))], [], []⟩, ?_, _, _, _, _, rfl⟩⟩
    · have hb : decide (bd = []) = false := by simpa using hP
      have := a4 false hb
      simp only [seqC, a1, a2, a3, this]
      rfl
    · have hb : decide (bd = []) = true := by simpa using hP
      have := a4 true hb
      simp only [seqC, a1, a2, a3, this]
      rfl
  obtain ⟨f1, f2⟩ := forL_first (g := tgN 2) (body := b__law_first_L1) (ev := Vl.int) (Pk n N) (fun k => .nd .own .lst ((bitR n k).map Vl.int)) (fun st => ∃ o2 o3 o4 o5, st = ⟨[some (.nd .sh .lst (nw N)), some (.int n), o2, o3, o4, o5], [], []⟩) (rng (2 ^ n)) ⟨[some (.nd .sh .lst (nw N)), some (.int n), none, none, none, none], [], []⟩ ⟨_, _, _, _, rfl⟩ step
  have hrn := intsV_rng (2 ^ n)
  have hsh := shl_1 n2
  have hr1 : hRng1 [.int ((2 ^ n : Nat) : Int)] = some (intsV 0 (2 ^ n), false) := by
    have hp2 := hp
    revert hp2
    generalize 2 ^ n = m
    intro hp2
    rw [hRng1_ok (by omega), Int.toNat_natCast]
  unfold res
  unfold fst0
  generalize hq : forL (tgN 2) b__law_first_L1 = fl at *
  generalize 2 ^ n = m at *
  cases hf : (rng m).find? (Pk n N) with
  | some k =>
    obtain ⟨s2, e⟩ := f1 k hf
    simp (disch := omega) only [F__law_first, b__law_first, forC, hq, runF, seqC, bindC, asgC, tgN, tgT, tgsC, tgsN, opE, evs, varE, takE, frzE, cstE, retC, retNC, expC, ifC, passC, rsC, brkC, cntC, callE, srcE, andE, orE, ifE, seqE, notE, chainE, nt_non, nt_bl, nt_int, nt_str, nt_tup, nt_nil, nt_cons, so_non, so_bl, so_int, so_str, so_tup, so_nil, so_cons, no_non, no_bl, no_int, no_str, no_tup, no_nil, no_cons, nr_non, nr_bl, nr_int, nr_str, nr_tup, nr_nil, nr_cons, ao_non, ao_bl, ao_int, ao_str, ao_tup, ao_nil, ao_cons, pk_non, pk_bl, pk_int, pk_str, pk_tup, pk_nil, pk_cons, sf_non, sf_bl, sf_int, sf_str, sf_tup, sf_nil, sf_cons, ints_so, ints_nt, ints_no, ints_nr, ints_ao, ints_pk, ints_sf, ints_snoc, pk_nd, sf_nd, nt_nd, so_nd, no_nd, nr_nd, ao_nd, so_app, gLen_nd, gIx_nd, gLst_0, gLR1_ok, gLR2_ok, isi_lst, hSeq_nd, fp1, fp2, fp3, fb1, fb2, fb3, fb4, fb5, fb6, fb7, fb8, fb9, fb10, fb11, fb12, fb13, fb14, sf_enc, pk_own, pk_sh, pk_tr, nr_enc, ao_enc, so_own, so_sh, nt_own, nt_sh, no_sh, no_tr, no_own, nt_tr, gLen_enc, gIx_0, gIx_1, gLst_nil, hSeq_sh, hRng1_ok, hRng2_ok, gSub_ok, gAdd_ok, gNeg_ok, gMod_ok, gDiv_ok, gShl_ok, gShr_ok, gMul_r, gMul_l, gLt_ok, gLe_ok, gGt_ok, gGe_ok, gNot_ok, gTup_2, gTup_3, gMax2_ok, gMin2_ok, isi_int_int, isi_int_bool, isi_tup, isi_int_list, isi_list, gEq_int, gNe_int, List.getElem?_cons_zero, List.getElem?_cons_succ, List.set_cons_zero, List.set_cons_succ, List.length_cons, List.length_nil, List.map_cons, List.map_nil, List.cons_append, List.nil_append, List.replicate_zero, List.replicate_succ, decide_true, decide_false, Bool.and_true, Bool.true_and, Bool.and_false, Bool.false_and, Bool.or_true, Bool.true_or, Bool.or_false, Bool.false_or, Bool.not_true, Bool.not_false, if_true, if_false, ite_true, ite_false, reduceIte, List.contains_nil, List.contains_cons, Nat.reduceBEq, List.any_cons, List.any_nil, List.append_nil, Bool.false_eq_true, reduceCtorEq, Nat.reduceAdd, Nat.reduceLT, Nat.reduceLeDiff, Nat.zero_add, Int.reduceSub, Int.reduceAdd, Int.reduceMul, Int.reduceToNat, Int.reducePow, Int.one_mul, Int.reduceNeg, Int.reduceLT, Int.reduceLE, Int.zero_add, Int.add_zero, Int.reduceEq, Int.reduceMod, Int.reduceDiv, Int.reduceOfNat, Int.cast_ofNat_Int, nw_nt, nw_no, nw_nr, nw_pk, nw_sf, nw_len, hsh, hr1, hrn, e, Nat.reduceSub, List.length_map]
  | none =>
    obtain ⟨s2, e, _⟩ := f2 hf
    simp (disch := omega) only [F__law_first, b__law_first, forC, hq, runF, seqC, bindC, asgC, tgN, tgT, tgsC, tgsN, opE, evs, varE, takE, frzE, cstE, retC, retNC, expC, ifC, passC, rsC, brkC, cntC, callE, srcE, andE, orE, ifE, seqE, notE, chainE, nt_non, nt_bl, nt_int, nt_str, nt_tup, nt_nil, nt_cons, so_non, so_bl, so_int, so_str, so_tup, so_nil, so_cons, no_non, no_bl, no_int, no_str, no_tup, no_nil, no_cons, nr_non, nr_bl, nr_int, nr_str, nr_tup, nr_nil, nr_cons, ao_non, ao_bl, ao_int, ao_str, ao_tup, ao_nil, ao_cons, pk_non, pk_bl, pk_int, pk_str, pk_tup, pk_nil, pk_cons, sf_non, sf_bl, sf_int, sf_str, sf_tup, sf_nil, sf_cons, ints_so, ints_nt, ints_no, ints_nr, ints_ao, ints_pk, ints_sf, ints_snoc, pk_nd, sf_nd, nt_nd, so_nd, no_nd, nr_nd, ao_nd, so_app, gLen_nd, gIx_nd, gLst_0, gLR1_ok, gLR2_ok, isi_lst, hSeq_nd, fp1, fp2, fp3, fb1, fb2, fb3, fb4, fb5, fb6, fb7, fb8, fb9, fb10, fb11, fb12, fb13, fb14, sf_enc, pk_own, pk_sh, pk_tr, nr_enc, ao_enc, so_own, so_sh, nt_own, nt_sh, no_sh, no_tr, no_own, nt_tr, gLen_enc, gIx_0, gIx_1, gLst_nil, hSeq_sh, hRng1_ok, hRng2_ok, gSub_ok, gAdd_ok, gNeg_ok, gMod_ok, gDiv_ok, gShl_ok, gShr_ok, gMul_r, gMul_l, gLt_ok, gLe_ok, gGt_ok, gGe_ok, gNot_ok, gTup_2, gTup_3, gMax2_ok, gMin2_ok, isi_int_int, isi_int_bool, isi_tup, isi_int_list, isi_list, gEq_int, gNe_int, List.getElem?_cons_zero, List.getElem?_cons_succ, List.set_cons_zero, List.set_cons_succ, List.length_cons, List.length_nil, List.map_cons, List.map_nil, List.cons_append, List.nil_append, List.replicate_zero, List.replicate_succ, decide_true, decide_false, Bool.and_true, Bool.true_and, Bool.and_false, Bool.false_and, Bool.or_true, Bool.true_or, Bool.or_false, Bool.false_or, Bool.not_true, Bool.not_false, if_true, if_false, ite_true, ite_false, reduceIte, List.contains_nil, List.contains_cons, Nat.reduceBEq, List.any_cons, List.any_nil, List.append_nil, Bool.false_eq_true, reduceCtorEq, Nat.reduceAdd, Nat.reduceLT, Nat.reduceLeDiff, Nat.zero_add, Int.reduceSub, Int.reduceAdd, Int.reduceMul, Int.reduceToNat, Int.reducePow, Int.one_mul, Int.reduceNeg, Int.reduceLT, Int.reduceLE, Int.zero_add, Int.add_zero, Int.reduceEq, Int.reduceMod, Int.reduceDiv, Int.reduceOfNat, Int.cast_ofNat_Int, nw_nt, nw_no, nw_nr, nw_pk, nw_sf, nw_len, hsh, hr1, hrn, e, Nat.reduceSub, List.length_map]
end K41

namespace K41
open PyI
open Enc (enc)
--%DEF FO foL_nt, foL_no, foL_nr, foL_pk, foL_sf, foL_so, foL_len
--%DEF NW nw_nt, nw_no, nw_nr, nw_pk, nw_sf, nw_len
/-! ### the draws -/
abbrev K2 : Kd := .dK [.inr "cells", .inr "count"]
abbrev stS (f : Fl) (cs : List Int) (a : Int) : Vl := .nd .own K2 [.nd f .lst (cs.map Vl.int), .int a]
theorem gd_ct (f : Fl) (x : Vl) (a : Int) : gDgt [.nd f K2 [x, .int a], .str "count"] = some (.int a) := by kernel_rfl
theorem mp_ct (x : Vl) (a b : Int) : muPut [.int b, .str "count"] K2 [x, .int a] = some (.non, K2, [x, .int b]) := by kernel_rfl
theorem fk_cl (x y : Vl) : frzK (.inr "cells") [.inr "cells", .inr "count"] [x, y] = some (x, [setF .sh x, y]) := by kernel_rfl
theorem mixed (x : Int) : ∃ m : Int, 0 ≤ m ∧ F__law_mixed [.int x] = .ok (.int m) := by
  refine ⟨(((x + 7919) * 48271 % 2147483647 * ((x + 7919) * 48271 % 2147483647 % 65537 + 11) + 131) % 2147483647) * ((((x + 7919) * 48271 % 2147483647 * ((x + 7919) * 48271 % 2147483647 % 65537 + 11) + 131) % 2147483647) % 30011 + 7) % 2147483647, by omega, ?_⟩
  simp (disch := omega) only [F__law_mixed, b__law_mixed, runF, seqC, bindC, asgC, tgN, tgT, tgsC, tgsN, opE, evs, varE, takE, frzE, cstE, retC, retNC, expC, ifC, passC, rsC, brkC, cntC, callE, srcE, andE, orE, ifE, seqE, notE, chainE, nt_non, nt_bl, nt_int, nt_str, nt_tup, nt_nil, nt_cons, so_non, so_bl, so_int, so_str, so_tup, so_nil, so_cons, no_non, no_bl, no_int, no_str, no_tup, no_nil, no_cons, nr_non, nr_bl, nr_int, nr_str, nr_tup, nr_nil, nr_cons, ao_non, ao_bl, ao_int, ao_str, ao_tup, ao_nil, ao_cons, pk_non, pk_bl, pk_int, pk_str, pk_tup, pk_nil, pk_cons, sf_non, sf_bl, sf_int, sf_str, sf_tup, sf_nil, sf_cons, ints_so, ints_nt, ints_no, ints_nr, ints_ao, ints_pk, ints_sf, ints_snoc, pk_nd, sf_nd, nt_nd, so_nd, no_nd, nr_nd, ao_nd, so_app, gLen_nd, gIx_nd, gLst_0, gLR1_ok, gLR2_ok, isi_lst, hSeq_nd, fp1, fp2, fp3, fb1, fb2, fb3, fb4, fb5, fb6, fb7, fb8, fb9, fb10, fb11, fb12, fb13, fb14, sf_enc, pk_own, pk_sh, pk_tr, nr_enc, ao_enc, so_own, so_sh, nt_own, nt_sh, no_sh, no_tr, no_own, nt_tr, gLen_enc, gIx_0, gIx_1, gLst_nil, hSeq_sh, hRng1_ok, hRng2_ok, gSub_ok, gAdd_ok, gNeg_ok, gMod_ok, gDiv_ok, gShl_ok, gShr_ok, gMul_r, gMul_l, gLt_ok, gLe_ok, gGt_ok, gGe_ok, gNot_ok, gTup_2, gTup_3, gMax2_ok, gMin2_ok, isi_int_int, isi_int_bool, isi_tup, isi_int_list, isi_list, gEq_int, gNe_int, List.getElem?_cons_zero, List.getElem?_cons_succ, List.set_cons_zero, List.set_cons_succ, List.length_cons, List.length_nil, List.map_cons, List.map_nil, List.cons_append, List.nil_append, List.replicate_zero, List.replicate_succ, decide_true, decide_false, Bool.and_true, Bool.true_and, Bool.and_false, Bool.false_and, Bool.or_true, Bool.true_or, Bool.or_false, Bool.false_or, Bool.not_true, Bool.not_false, if_true, if_false, ite_true, ite_false, reduceIte, List.contains_nil, List.contains_cons, Nat.reduceBEq, List.any_cons, List.any_nil, List.append_nil, Bool.false_eq_true, reduceCtorEq, Nat.reduceAdd, Nat.reduceLT, Nat.reduceLeDiff, Nat.zero_add, Int.reduceSub, Int.reduceAdd, Int.reduceMul, Int.reduceToNat, Int.reducePow, Int.one_mul, Int.reduceNeg, Int.reduceLT, Int.reduceLE, Int.zero_add, Int.add_zero, Int.reduceEq, Int.reduceMod, Int.reduceDiv, Int.reduceOfNat, Int.cast_ofNat_Int]
theorem begun_ok (ns : List Int) (hn : ns.length ≤ 63) : F__law_begun [.nd .sh .lst (ns.map Vl.int), .int 5] = .ok (stS .own (5 :: ns) 5) := by
  have g1 : gLst [.int 5] = some (.nd .own .lst ([(5 : Int)].map Vl.int)) := by rw [gLst_le (by simp)]; exact congrArg some (mkL_ints [5])
  have g2 := gList_ints .sh ns
  have g3 : gAdd [.nd .own .lst ([(5 : Int)].map Vl.int), .nd .own .lst (ns.map Vl.int)] = some (.nd .own .lst ((5 :: ns).map Vl.int)) := gAdd_ints .own .own [5] ns (by simp; omega)
  have so := ints_so (5 :: ns)
  have ao := ints_ao (5 :: ns)
  have nt := ints_nt (5 :: ns)
  simp only [stS]
  generalize (5 :: ns).map Vl.int = w at *
  generalize [(5 : Int)].map Vl.int = u at *
  simp (disch := omega) only [F__law_begun, b__law_begun, dispE, runF, seqC, bindC, asgC, tgN, tgT, tgsC, tgsN, opE, evs, varE, takE, frzE, cstE, retC, retNC, expC, ifC, passC, rsC, brkC, cntC, callE, srcE, andE, orE, ifE, seqE, notE, chainE, nt_non, nt_bl, nt_int, nt_str, nt_tup, nt_nil, nt_cons, so_non, so_bl, so_int, so_str, so_tup, so_nil, so_cons, no_non, no_bl, no_int, no_str, no_tup, no_nil, no_cons, nr_non, nr_bl, nr_int, nr_str, nr_tup, nr_nil, nr_cons, ao_non, ao_bl, ao_int, ao_str, ao_tup, ao_nil, ao_cons, pk_non, pk_bl, pk_int, pk_str, pk_tup, pk_nil, pk_cons, sf_non, sf_bl, sf_int, sf_str, sf_tup, sf_nil, sf_cons, ints_so, ints_nt, ints_no, ints_nr, ints_ao, ints_pk, ints_sf, ints_snoc, pk_nd, sf_nd, nt_nd, so_nd, no_nd, nr_nd, ao_nd, so_app, gLen_nd, gIx_nd, gLst_0, gLR1_ok, gLR2_ok, isi_lst, hSeq_nd, fp1, fp2, fp3, fb1, fb2, fb3, fb4, fb5, fb6, fb7, fb8, fb9, fb10, fb11, fb12, fb13, fb14, sf_enc, pk_own, pk_sh, pk_tr, nr_enc, ao_enc, so_own, so_sh, nt_own, nt_sh, no_sh, no_tr, no_own, nt_tr, gLen_enc, gIx_0, gIx_1, gLst_nil, hSeq_sh, hRng1_ok, hRng2_ok, gSub_ok, gAdd_ok, gNeg_ok, gMod_ok, gDiv_ok, gShl_ok, gShr_ok, gMul_r, gMul_l, gLt_ok, gLe_ok, gGt_ok, gGe_ok, gNot_ok, gTup_2, gTup_3, gMax2_ok, gMin2_ok, isi_int_int, isi_int_bool, isi_tup, isi_int_list, isi_list, gEq_int, gNe_int, List.getElem?_cons_zero, List.getElem?_cons_succ, List.set_cons_zero, List.set_cons_succ, List.length_cons, List.length_nil, List.map_cons, List.map_nil, List.cons_append, List.nil_append, List.replicate_zero, List.replicate_succ, decide_true, decide_false, Bool.and_true, Bool.true_and, Bool.and_false, Bool.false_and, Bool.or_true, Bool.true_or, Bool.or_false, Bool.false_or, Bool.not_true, Bool.not_false, if_true, if_false, ite_true, ite_false, reduceIte, List.contains_nil, List.contains_cons, Nat.reduceBEq, List.any_cons, List.any_nil, List.append_nil, Bool.false_eq_true, reduceCtorEq, Nat.reduceAdd, Nat.reduceLT, Nat.reduceLeDiff, Nat.zero_add, Int.reduceSub, Int.reduceAdd, Int.reduceMul, Int.reduceToNat, Int.reducePow, Int.one_mul, Int.reduceNeg, Int.reduceLT, Int.reduceLE, Int.zero_add, Int.add_zero, Int.reduceEq, Int.reduceMod, Int.reduceDiv, Int.reduceOfNat, Int.cast_ofNat_Int, g1, g2, g3, so, ao, nt, Nat.reduceSub]
theorem next_ok (f : Fl) (hf : f = .own ∨ f = .sh) (cs : List Int) (hc : cs.length ≤ 70) (hc1 : 1 ≤ cs.length) (a : Int) (h0 : 0 ≤ a) (h1 : a ≤ 1000000) : ∃ m : Int, 0 ≤ m ∧ F__law_next [stS f cs a] = .ok (.int m) (stS .sh cs (a + 1)) := by
  have hm0 : 0 ≤ (a + 1) % (cs.length : Nat) := Int.emod_nonneg _ (by omega)
  have hm1 : (a + 1) % (cs.length : Nat) < (cs.length : Nat) := Int.emod_lt_of_pos _ (by omega)
  have hA : L2.atI (cs.map Vl.int) ((a + 1) % (cs.length : Nat)) = some (.int (gz cs ((a + 1) % (cs.length : Nat)))) := atI_gz hm0 hm1
  generalize gz cs ((a + 1) % (cs.length : Nat)) = c at hA
  obtain ⟨m, hm, hx⟩ := mixed (c + 104729 * (a + 1))
  refine ⟨m, hm, ?_⟩
  have e1 := gd_ct .tr
  have e3 := fun x => mp_ct x a (a + 1)
  have A : expC (mutE 0 isD [opE gAdd [opE gDgt [varE 0, cstE (.str "count")], cstE (.int 1)], cstE (.str "count")] muPut) ⟨[some (stS f cs a), none], [], [0]⟩ = .nx ⟨[some (stS f cs (a + 1)), none], [], [0]⟩ := by
    rcases hf with rfl | rfl <;> simp (disch := omega) only [stS, runF, seqC, bindC, asgC, tgN, tgT, tgsC, tgsN, opE, evs, varE, takE, frzE, cstE, retC, retNC, expC, ifC, passC, rsC, brkC, cntC, callE, srcE, andE, orE, ifE, seqE, notE, chainE, nt_non, nt_bl, nt_int, nt_str, nt_tup, nt_nil, nt_cons, so_non, so_bl, so_int, so_str, so_tup, so_nil, so_cons, no_non, no_bl, no_int, no_str, no_tup, no_nil, no_cons, nr_non, nr_bl, nr_int, nr_str, nr_tup, nr_nil, nr_cons, ao_non, ao_bl, ao_int, ao_str, ao_tup, ao_nil, ao_cons, pk_non, pk_bl, pk_int, pk_str, pk_tup, pk_nil, pk_cons, sf_non, sf_bl, sf_int, sf_str, sf_tup, sf_nil, sf_cons, ints_so, ints_nt, ints_no, ints_nr, ints_ao, ints_pk, ints_sf, ints_snoc, pk_nd, sf_nd, nt_nd, so_nd, no_nd, nr_nd, ao_nd, so_app, gLen_nd, gIx_nd, gLst_0, gLR1_ok, gLR2_ok, isi_lst, hSeq_nd, fp1, fp2, fp3, fb1, fb2, fb3, fb4, fb5, fb6, fb7, fb8, fb9, fb10, fb11, fb12, fb13, fb14, sf_enc, pk_own, pk_sh, pk_tr, nr_enc, ao_enc, so_own, so_sh, nt_own, nt_sh, no_sh, no_tr, no_own, nt_tr, gLen_enc, gIx_0, gIx_1, gLst_nil, hSeq_sh, hRng1_ok, hRng2_ok, gSub_ok, gAdd_ok, gNeg_ok, gMod_ok, gDiv_ok, gShl_ok, gShr_ok, gMul_r, gMul_l, gLt_ok, gLe_ok, gGt_ok, gGe_ok, gNot_ok, gTup_2, gTup_3, gMax2_ok, gMin2_ok, isi_int_int, isi_int_bool, isi_tup, isi_int_list, isi_list, gEq_int, gNe_int, List.getElem?_cons_zero, List.getElem?_cons_succ, List.set_cons_zero, List.set_cons_succ, List.length_cons, List.length_nil, List.map_cons, List.map_nil, List.cons_append, List.nil_append, List.replicate_zero, List.replicate_succ, decide_true, decide_false, Bool.and_true, Bool.true_and, Bool.and_false, Bool.false_and, Bool.or_true, Bool.true_or, Bool.or_false, Bool.false_or, Bool.not_true, Bool.not_false, if_true, if_false, ite_true, ite_false, reduceIte, List.contains_nil, List.contains_cons, Nat.reduceBEq, List.any_cons, List.any_nil, List.append_nil, Bool.false_eq_true, reduceCtorEq, Nat.reduceAdd, Nat.reduceLT, Nat.reduceLeDiff, Nat.zero_add, Int.reduceSub, Int.reduceAdd, Int.reduceMul, Int.reduceToNat, Int.reducePow, Int.one_mul, Int.reduceNeg, Int.reduceLT, Int.reduceLE, Int.zero_add, Int.add_zero, Int.reduceEq, Int.reduceMod, Int.reduceDiv, Int.reduceOfNat, Int.cast_ofNat_Int, mutE, getN, putN, isL, muApp, muPop, muPopAt, isD, e1, e3]
  have B : asgC (tgN 1) (dgFE 0 "cells") ⟨[some (stS f cs (a + 1)), none], [], [0]⟩ = .nx ⟨[some (stS .sh cs (a + 1)), some (.nd .sh .lst (cs.map Vl.int))], [], [0]⟩ := by
    rcases hf with rfl | rfl <;> simp (disch := omega) only [dgFE, fk_cl, stS, runF, seqC, bindC, asgC, tgN, tgT, tgsC, tgsN, opE, evs, varE, takE, frzE, cstE, retC, retNC, expC, ifC, passC, rsC, brkC, cntC, callE, srcE, andE, orE, ifE, seqE, notE, chainE, nt_non, nt_bl, nt_int, nt_str, nt_tup, nt_nil, nt_cons, so_non, so_bl, so_int, so_str, so_tup, so_nil, so_cons, no_non, no_bl, no_int, no_str, no_tup, no_nil, no_cons, nr_non, nr_bl, nr_int, nr_str, nr_tup, nr_nil, nr_cons, ao_non, ao_bl, ao_int, ao_str, ao_tup, ao_nil, ao_cons, pk_non, pk_bl, pk_int, pk_str, pk_tup, pk_nil, pk_cons, sf_non, sf_bl, sf_int, sf_str, sf_tup, sf_nil, sf_cons, ints_so, ints_nt, ints_no, ints_nr, ints_ao, ints_pk, ints_sf, ints_snoc, pk_nd, sf_nd, nt_nd, so_nd, no_nd, nr_nd, ao_nd, so_app, gLen_nd, gIx_nd, gLst_0, gLR1_ok, gLR2_ok, isi_lst, hSeq_nd, fp1, fp2, fp3, fb1, fb2, fb3, fb4, fb5, fb6, fb7, fb8, fb9, fb10, fb11, fb12, fb13, fb14, sf_enc, pk_own, pk_sh, pk_tr, nr_enc, ao_enc, so_own, so_sh, nt_own, nt_sh, no_sh, no_tr, no_own, nt_tr, gLen_enc, gIx_0, gIx_1, gLst_nil, hSeq_sh, hRng1_ok, hRng2_ok, gSub_ok, gAdd_ok, gNeg_ok, gMod_ok, gDiv_ok, gShl_ok, gShr_ok, gMul_r, gMul_l, gLt_ok, gLe_ok, gGt_ok, gGe_ok, gNot_ok, gTup_2, gTup_3, gMax2_ok, gMin2_ok, isi_int_int, isi_int_bool, isi_tup, isi_int_list, isi_list, gEq_int, gNe_int, List.getElem?_cons_zero, List.getElem?_cons_succ, List.set_cons_zero, List.set_cons_succ, List.length_cons, List.length_nil, List.map_cons, List.map_nil, List.cons_append, List.nil_append, List.replicate_zero, List.replicate_succ, decide_true, decide_false, Bool.and_true, Bool.true_and, Bool.and_false, Bool.false_and, Bool.or_true, Bool.true_or, Bool.or_false, Bool.false_or, Bool.not_true, Bool.not_false, if_true, if_false, ite_true, ite_false, reduceIte, List.contains_nil, List.contains_cons, Nat.reduceBEq, List.any_cons, List.any_nil, List.append_nil, Bool.false_eq_true, reduceCtorEq, Nat.reduceAdd, Nat.reduceLT, Nat.reduceLeDiff, Nat.zero_add]
  have C : retC (callE 1 F__law_mixed [opE gAdd [opE gIx [varE 1, opE gMod [opE gDgt [varE 0, cstE (.str "count")], opE gLen [varE 1]]], opE gMul [cstE (.int 104729), opE gDgt [varE 0, cstE (.str "count")]]]] []) ⟨[some (stS .sh cs (a + 1)), some (.nd .sh .lst (cs.map Vl.int))], [], [0]⟩ = .rt (.int m) ⟨[some (stS .sh cs (a + 1)), some (.nd .sh .lst (cs.map Vl.int))], [], [0]⟩ := by
    simp (disch := omega) only [stS, runF, seqC, bindC, asgC, tgN, tgT, tgsC, tgsN, opE, evs, varE, takE, frzE, cstE, retC, retNC, expC, ifC, passC, rsC, brkC, cntC, callE, srcE, andE, orE, ifE, seqE, notE, chainE, nt_non, nt_bl, nt_int, nt_str, nt_tup, nt_nil, nt_cons, so_non, so_bl, so_int, so_str, so_tup, so_nil, so_cons, no_non, no_bl, no_int, no_str, no_tup, no_nil, no_cons, nr_non, nr_bl, nr_int, nr_str, nr_tup, nr_nil, nr_cons, ao_non, ao_bl, ao_int, ao_str, ao_tup, ao_nil, ao_cons, pk_non, pk_bl, pk_int, pk_str, pk_tup, pk_nil, pk_cons, sf_non, sf_bl, sf_int, sf_str, sf_tup, sf_nil, sf_cons, ints_so, ints_nt, ints_no, ints_nr, ints_ao, ints_pk, ints_sf, ints_snoc, pk_nd, sf_nd, nt_nd, so_nd, no_nd, nr_nd, ao_nd, so_app, gLen_nd, gIx_nd, gLst_0, gLR1_ok, gLR2_ok, isi_lst, hSeq_nd, fp1, fp2, fp3, fb1, fb2, fb3, fb4, fb5, fb6, fb7, fb8, fb9, fb10, fb11, fb12, fb13, fb14, sf_enc, pk_own, pk_sh, pk_tr, nr_enc, ao_enc, so_own, so_sh, nt_own, nt_sh, no_sh, no_tr, no_own, nt_tr, gLen_enc, gIx_0, gIx_1, gLst_nil, hSeq_sh, hRng1_ok, hRng2_ok, gSub_ok, gAdd_ok, gNeg_ok, gMod_ok, gDiv_ok, gShl_ok, gShr_ok, gMul_r, gMul_l, gLt_ok, gLe_ok, gGt_ok, gGe_ok, gNot_ok, gTup_2, gTup_3, gMax2_ok, gMin2_ok, isi_int_int, isi_int_bool, isi_tup, isi_int_list, isi_list, gEq_int, gNe_int, List.getElem?_cons_zero, List.getElem?_cons_succ, List.set_cons_zero, List.set_cons_succ, List.length_cons, List.length_nil, List.map_cons, List.map_nil, List.cons_append, List.nil_append, List.replicate_zero, List.replicate_succ, decide_true, decide_false, Bool.and_true, Bool.true_and, Bool.and_false, Bool.false_and, Bool.or_true, Bool.true_or, Bool.or_false, Bool.false_or, Bool.not_true, Bool.not_false, if_true, if_false, ite_true, ite_false, reduceIte, List.contains_nil, List.contains_cons, Nat.reduceBEq, List.any_cons, List.any_nil, List.append_nil, Bool.false_eq_true, reduceCtorEq, Nat.reduceAdd, Nat.reduceLT, Nat.reduceLeDiff, Nat.zero_add, Int.reduceSub, Int.reduceAdd, Int.reduceMul, Int.reduceToNat, Int.reducePow, Int.one_mul, Int.reduceNeg, Int.reduceLT, Int.reduceLE, Int.zero_add, Int.add_zero, Int.reduceEq, Int.reduceMod, Int.reduceDiv, Int.reduceOfNat, Int.cast_ofNat_Int, e1, gLen_nd, List.length_map, hA, hx]
  show (match b__law_next ⟨[some (stS f cs a), none], [], [0]⟩ with
    | .nx s => endIO s .non
    | .rt v s => endIO s v
    | _ => .bad) = _
  unfold b__law_next
  simp only [seqC, A, B, C]
  simp (disch := omega) only [endIO, stS, runF, seqC, bindC, asgC, tgN, tgT, tgsC, tgsN, opE, evs, varE, takE, frzE, cstE, retC, retNC, expC, ifC, passC, rsC, brkC, cntC, callE, srcE, andE, orE, ifE, seqE, notE, chainE, nt_non, nt_bl, nt_int, nt_str, nt_tup, nt_nil, nt_cons, so_non, so_bl, so_int, so_str, so_tup, so_nil, so_cons, no_non, no_bl, no_int, no_str, no_tup, no_nil, no_cons, nr_non, nr_bl, nr_int, nr_str, nr_tup, nr_nil, nr_cons, ao_non, ao_bl, ao_int, ao_str, ao_tup, ao_nil, ao_cons, pk_non, pk_bl, pk_int, pk_str, pk_tup, pk_nil, pk_cons, sf_non, sf_bl, sf_int, sf_str, sf_tup, sf_nil, sf_cons, ints_so, ints_nt, ints_no, ints_nr, ints_ao, ints_pk, ints_sf, ints_snoc, pk_nd, sf_nd, nt_nd, so_nd, no_nd, nr_nd, ao_nd, so_app, gLen_nd, gIx_nd, gLst_0, gLR1_ok, gLR2_ok, isi_lst, hSeq_nd, fp1, fp2, fp3, fb1, fb2, fb3, fb4, fb5, fb6, fb7, fb8, fb9, fb10, fb11, fb12, fb13, fb14, sf_enc, pk_own, pk_sh, pk_tr, nr_enc, ao_enc, so_own, so_sh, nt_own, nt_sh, no_sh, no_tr, no_own, nt_tr, gLen_enc, gIx_0, gIx_1, gLst_nil, hSeq_sh, hRng1_ok, hRng2_ok, gSub_ok, gAdd_ok, gNeg_ok, gMod_ok, gDiv_ok, gShl_ok, gShr_ok, gMul_r, gMul_l, gLt_ok, gLe_ok, gGt_ok, gGe_ok, gNot_ok, gTup_2, gTup_3, gMax2_ok, gMin2_ok, isi_int_int, isi_int_bool, isi_tup, isi_int_list, isi_list, gEq_int, gNe_int, List.getElem?_cons_zero, List.getElem?_cons_succ, List.set_cons_zero, List.set_cons_succ, List.length_cons, List.length_nil, List.map_cons, List.map_nil, List.cons_append, List.nil_append, List.replicate_zero, List.replicate_succ, decide_true, decide_false, Bool.and_true, Bool.true_and, Bool.and_false, Bool.false_and, Bool.or_true, Bool.true_or, Bool.or_false, Bool.false_or, Bool.not_true, Bool.not_false, if_true, if_false, ite_true, ite_false, reduceIte, List.contains_nil, List.contains_cons, Nat.reduceBEq, List.any_cons, List.any_nil, List.append_nil, Bool.false_eq_true, reduceCtorEq, Nat.reduceAdd, Nat.reduceLT, Nat.reduceLeDiff, Nat.zero_add]
theorem mod_ok (i j : Int) (h : 0 < j) : ∃ r : Int, 0 ≤ r ∧ r < j ∧ gMod [.int i, .int j] = some (.int r) := ⟨i % j, Int.emod_nonneg _ (by omega), Int.emod_lt_of_pos _ h, gMod_ok h⟩
theorem eraseIdx_int (L : List Int) (k : Nat) : (L.map Vl.int).eraseIdx k = (L.eraseIdx k).map Vl.int := by
  induction L generalizing k with
  | nil => simp
  | cons x r ih =>
    cases k with
    | zero => rfl
    | succ k => show Vl.int x :: (r.map Vl.int).eraseIdx k = _; rw [ih]; rfl
theorem perm_erase : ∀ (L : List Int) (i : Nat) (hi : i < L.length), (L[i] :: L.eraseIdx i).Perm L
  | [], i, hi => absurd hi (Nat.not_lt_zero _)
  | x :: r, 0, _ => List.Perm.refl _
  | x :: r, i + 1, hi => by
    have := perm_erase r i (by simpa using hi)
    exact List.Perm.trans (List.Perm.swap x _ _) (List.Perm.cons x this)
abbrev SY (f : Fl) (cs : List Int) (a n : Int) (L : List Int) (F : List (Int × Int)) (o4 o5 : Option Vl) : Sta := ⟨[some (stS f cs a), some (.int n), some (.nd .own .lst (L.map Vl.int)), some (.nd .own .lst (foL F)), o4, o5], [], [0]⟩
section
variable (cs : List Int) (hc : cs.length ≤ 70) (hc1 : 1 ≤ cs.length)
include hc hc1
theorem pop_ok (f : Fl) (hf : f = .own ∨ f = .sh) (a n : Int) (h0 : 0 ≤ a) (h1 : a ≤ 900000) (L : List Int) (hl : L.length ≤ 64) (hl1 : 1 ≤ L.length) (F : List (Int × Int)) (o4 o5 : Option Vl) :
    ∃ (y : Int) (L' : List Int), (y :: L').Perm L ∧ mutE 2 isL [opE gMod [callIOE 0 1 F__law_next [], opE gLen [varE 2]]] muPopAt (SY f cs a n L F o4 o5) = .ok (.int y, SY .sh cs (a + 1) n L' F o4 o5, true) := by
  obtain ⟨m, hm, hp⟩ := next_ok f hf cs hc hc1 a h0 (by omega)
  obtain ⟨k, k0, k1, gm⟩ := mod_ok m (L.length : Nat) (by omega)
  have hx : L2.ixN (L.map Vl.int).length k = some k.toNat := ixN_pos k0 (by rw [List.length_map]; exact k1)
  have hi : k.toNat < L.length := by omega
  have hg : (L.map Vl.int)[k.toNat]? = some (.int L[k.toNat]) := by rw [List.getElem?_map, List.getElem?_eq_getElem hi]; rfl
  have he := eraseIdx_int L k.toNat
  have hb : inB 9223372036854775807 k = true := inB_ok (by omega)
  have hx' : L2.ixN L.length k = some k.toNat := ixN_pos k0 k1
  have hh : handsIO [] = [] := rfl
  refine ⟨L[k.toNat], L.eraseIdx k.toNat, perm_erase L k.toNat hi, ?_⟩
  generalize L[k.toNat] = y at *
  generalize hlen : L.length = ll at *
  simp only [SY, stS] at hp ⊢
  rcases hf with rfl | rfl <;> simp (disch := omega) only [callIOE, getN, putN, mutE, isL, muPopAt, runF, seqC, bindC, asgC, tgN, tgT, tgsC, tgsN, opE, evs, takE, frzE, cstE, retC, retNC, expC, ifC, passC, rsC, brkC, cntC, callE, srcE, andE, orE, ifE, seqE, notE, chainE, nt_non, nt_bl, nt_int, nt_str, nt_tup, nt_nil, nt_cons, so_non, so_bl, so_int, so_str, so_tup, so_nil, so_cons, no_non, no_bl, no_int, no_str, no_tup, no_nil, no_cons, nr_non, nr_bl, nr_int, nr_str, nr_tup, nr_nil, nr_cons, ao_non, ao_bl, ao_int, ao_str, ao_tup, ao_nil, ao_cons, pk_non, pk_bl, pk_int, pk_str, pk_tup, pk_nil, pk_cons, sf_non, sf_bl, sf_int, sf_str, sf_tup, sf_nil, sf_cons, ints_so, ints_nt, ints_no, ints_nr, ints_ao, ints_pk, ints_sf, ints_snoc, pk_nd, sf_nd, nt_nd, so_nd, no_nd, nr_nd, ao_nd, so_app, gLen_nd, gIx_nd, gLst_0, gLR1_ok, gLR2_ok, isi_lst, hSeq_nd, fp1, fp2, fp3, fb1, fb2, fb3, fb4, fb5, fb6, fb7, fb8, fb9, fb10, fb11, fb12, fb13, fb14, sf_enc, pk_own, pk_sh, pk_tr, nr_enc, ao_enc, so_own, so_sh, nt_own, nt_sh, no_sh, no_tr, no_own, nt_tr, gLen_enc, gIx_0, gIx_1, gLst_nil, hSeq_sh, hRng1_ok, hRng2_ok, gSub_ok, gAdd_ok, gNeg_ok, gMod_ok, gDiv_ok, gShl_ok, gShr_ok, gMul_r, gMul_l, gLt_ok, gLe_ok, gGt_ok, gGe_ok, gNot_ok, gTup_2, gTup_3, gMax2_ok, gMin2_ok, isi_int_int, isi_int_bool, isi_tup, isi_int_list, isi_list, gEq_int, gNe_int, List.getElem?_cons_zero, List.getElem?_cons_succ, List.set_cons_zero, List.set_cons_succ, List.length_cons, List.length_nil, List.map_cons, List.map_nil, List.cons_append, List.nil_append, List.replicate_zero, List.replicate_succ, decide_true, decide_false, Bool.and_true, Bool.true_and, Bool.and_false, Bool.false_and, Bool.or_true, Bool.true_or, Bool.or_false, Bool.false_or, Bool.not_true, Bool.not_false, if_true, if_false, ite_true, ite_false, reduceIte, List.contains_nil, List.contains_cons, Nat.reduceBEq, List.any_cons, List.any_nil, List.append_nil, Bool.false_eq_true, reduceCtorEq, Nat.reduceAdd, Nat.reduceLT, Nat.reduceLeDiff, Nat.zero_add, Nat.reduceSub, List.length_map, hlen, gm, gLen_nd, hh, hp, hx, hx', hb, hg, he, varE, Option.bind_some, Option.map_some, Bool.and_self]
end
end K41

namespace K41
open PyI
open Enc (enc)
--%DEF FO foL_nt, foL_no, foL_nr, foL_pk, foL_sf, foL_so, foL_len
--%DEF NW nw_nt, nw_no, nw_nr, nw_pk, nw_sf, nw_len
abbrev OF (f : Fl) : Prop := f = .own ∨ f = .sh
section
variable (cs : List Int) (hc : cs.length ≤ 70) (hc1 : 1 ≤ cs.length)
include hc hc1
theorem layer_step (f : Fl) (hf : OF f) (a n : Int) (h0 : 0 ≤ a) (h1 : a ≤ 800000) (L : List Int) (hl : L.length ≤ 64) (hl1 : 2 ≤ L.length) (hd : L.Nodup) (F : List (Int × Int)) (hF : F.length ≤ 64) (o4 o5 : Option Vl) :
    ∃ (lo hi : Int) (L' : List Int), lo < hi ∧ (lo :: hi :: L').Perm L ∧ ∃ o4' o5', b__law_layer_L0 (SY f cs a n L F o4 o5) = .nx (SY .sh cs (a + 1 + 1) n L' (F ++ [(lo, hi)]) o4' o5') := by
  obtain ⟨y, L1, p1, e1⟩ := pop_ok cs hc hc1 f hf a n h0 (by omega) L hl (by omega) F o4 o5
  have l1 : L1.length + 1 = L.length := by have := p1.length_eq; simpa using this
  obtain ⟨w, L2, p2, e2⟩ := pop_ok cs hc hc1 .sh (.inr rfl) (a + 1) n (by omega) (by omega) L1 (by omega) (by omega) F (some (.int y)) o5
  have hp : (y :: w :: L2).Perm L := (List.Perm.cons y p2).trans p1
  have hnd := hp.nodup_iff.mpr hd
  have yw : y ≠ w := fun e => (List.nodup_cons.mp hnd).1 (by rw [e]; exact List.mem_cons_self)
  generalize hlo : (if w < y then w else y) = lo
  generalize hhi : (if w > y then w else y) = hi
  have z1 : F.length < PySem.sizeLine := by rw [PySem.sizeLine_eq]; omega
  refine ⟨lo, hi, L2, ?_, ?_, some (.int y), some (.int w), ?_⟩
  · split at hlo <;> split at hhi <;> omega
  · by_cases q : w < y
    · rw [if_pos q] at hlo
      rw [if_neg (by omega)] at hhi
      subst hlo hhi
      exact (List.Perm.swap _ _ _).trans hp
    · rw [if_neg q] at hlo
      rw [if_pos (by omega)] at hhi
      subst hlo hhi
      exact hp
  · generalize hq : mutE 2 isL [opE gMod [callIOE 0 1 F__law_next [], opE gLen [varE 2]]] muPopAt = me at e1 e2
    have s1 : asgC (tgN 4) me (SY f cs a n L F o4 o5) = .nx (SY .sh cs (a + 1) n L1 F (some (.int y)) o5) := by
      simp only [SY] at e1
      simp (disch := omega) only [runF, seqC, bindC, asgC, tgN, tgT, tgsC, tgsN, opE, evs, varE, takE, frzE, cstE, retC, retNC, expC, ifC, passC, rsC, brkC, cntC, callE, srcE, andE, orE, ifE, seqE, notE, chainE, nt_non, nt_bl, nt_int, nt_str, nt_tup, nt_nil, nt_cons, so_non, so_bl, so_int, so_str, so_tup, so_nil, so_cons, no_non, no_bl, no_int, no_str, no_tup, no_nil, no_cons, nr_non, nr_bl, nr_int, nr_str, nr_tup, nr_nil, nr_cons, ao_non, ao_bl, ao_int, ao_str, ao_tup, ao_nil, ao_cons, pk_non, pk_bl, pk_int, pk_str, pk_tup, pk_nil, pk_cons, sf_non, sf_bl, sf_int, sf_str, sf_tup, sf_nil, sf_cons, ints_so, ints_nt, ints_no, ints_nr, ints_ao, ints_pk, ints_sf, ints_snoc, pk_nd, sf_nd, nt_nd, so_nd, no_nd, nr_nd, ao_nd, so_app, gLen_nd, gIx_nd, gLst_0, gLR1_ok, gLR2_ok, isi_lst, hSeq_nd, fp1, fp2, fp3, fb1, fb2, fb3, fb4, fb5, fb6, fb7, fb8, fb9, fb10, fb11, fb12, fb13, fb14, sf_enc, pk_own, pk_sh, pk_tr, nr_enc, ao_enc, so_own, so_sh, nt_own, nt_sh, no_sh, no_tr, no_own, nt_tr, gLen_enc, gIx_0, gIx_1, gLst_nil, hSeq_sh, hRng1_ok, hRng2_ok, gSub_ok, gAdd_ok, gNeg_ok, gMod_ok, gDiv_ok, gShl_ok, gShr_ok, gMul_r, gMul_l, gLt_ok, gLe_ok, gGt_ok, gGe_ok, gNot_ok, gTup_2, gTup_3, gMax2_ok, gMin2_ok, isi_int_int, isi_int_bool, isi_tup, isi_int_list, isi_list, gEq_int, gNe_int, List.getElem?_cons_zero, List.getElem?_cons_succ, List.set_cons_zero, List.set_cons_succ, List.length_cons, List.length_nil, List.map_cons, List.map_nil, List.cons_append, List.nil_append, List.replicate_zero, List.replicate_succ, decide_true, decide_false, Bool.and_true, Bool.true_and, Bool.and_false, Bool.false_and, Bool.or_true, Bool.true_or, Bool.or_false, Bool.false_or, Bool.not_true, Bool.not_false, if_true, if_false, ite_true, ite_false, reduceIte, List.contains_nil, List.contains_cons, Nat.reduceBEq, List.any_cons, List.any_nil, List.append_nil, Bool.false_eq_true, reduceCtorEq, Nat.reduceAdd, Nat.reduceLT, Nat.reduceLeDiff, Nat.zero_add, e1]
    have s2 : asgC (tgN 5) me (SY .sh cs (a + 1) n L1 F (some (.int y)) o5) = .nx (SY .sh cs (a + 1 + 1) n L2 F (some (.int y)) (some (.int w))) := by
      simp only [SY] at e2
      simp (disch := omega) only [runF, seqC, bindC, asgC, tgN, tgT, tgsC, tgsN, opE, evs, varE, takE, frzE, cstE, retC, retNC, expC, ifC, passC, rsC, brkC, cntC, callE, srcE, andE, orE, ifE, seqE, notE, chainE, nt_non, nt_bl, nt_int, nt_str, nt_tup, nt_nil, nt_cons, so_non, so_bl, so_int, so_str, so_tup, so_nil, so_cons, no_non, no_bl, no_int, no_str, no_tup, no_nil, no_cons, nr_non, nr_bl, nr_int, nr_str, nr_tup, nr_nil, nr_cons, ao_non, ao_bl, ao_int, ao_str, ao_tup, ao_nil, ao_cons, pk_non, pk_bl, pk_int, pk_str, pk_tup, pk_nil, pk_cons, sf_non, sf_bl, sf_int, sf_str, sf_tup, sf_nil, sf_cons, ints_so, ints_nt, ints_no, ints_nr, ints_ao, ints_pk, ints_sf, ints_snoc, pk_nd, sf_nd, nt_nd, so_nd, no_nd, nr_nd, ao_nd, so_app, gLen_nd, gIx_nd, gLst_0, gLR1_ok, gLR2_ok, isi_lst, hSeq_nd, fp1, fp2, fp3, fb1, fb2, fb3, fb4, fb5, fb6, fb7, fb8, fb9, fb10, fb11, fb12, fb13, fb14, sf_enc, pk_own, pk_sh, pk_tr, nr_enc, ao_enc, so_own, so_sh, nt_own, nt_sh, no_sh, no_tr, no_own, nt_tr, gLen_enc, gIx_0, gIx_1, gLst_nil, hSeq_sh, hRng1_ok, hRng2_ok, gSub_ok, gAdd_ok, gNeg_ok, gMod_ok, gDiv_ok, gShl_ok, gShr_ok, gMul_r, gMul_l, gLt_ok, gLe_ok, gGt_ok, gGe_ok, gNot_ok, gTup_2, gTup_3, gMax2_ok, gMin2_ok, isi_int_int, isi_int_bool, isi_tup, isi_int_list, isi_list, gEq_int, gNe_int, List.getElem?_cons_zero, List.getElem?_cons_succ, List.set_cons_zero, List.set_cons_succ, List.length_cons, List.length_nil, List.map_cons, List.map_nil, List.cons_append, List.nil_append, List.replicate_zero, List.replicate_succ, decide_true, decide_false, Bool.and_true, Bool.true_and, Bool.and_false, Bool.false_and, Bool.or_true, Bool.true_or, Bool.or_false, Bool.false_or, Bool.not_true, Bool.not_false, if_true, if_false, ite_true, ite_false, reduceIte, List.contains_nil, List.contains_cons, Nat.reduceBEq, List.any_cons, List.any_nil, List.append_nil, Bool.false_eq_true, reduceCtorEq, Nat.reduceAdd, Nat.reduceLT, Nat.reduceLeDiff, Nat.zero_add, e2]
    have s3 : expC (mutE 3 isL [opE gTup [opE gMin2 [varE 4, varE 5], opE gMax2 [varE 4, varE 5]]] muApp) (SY .sh cs (a + 1 + 1) n L2 F (some (.int y)) (some (.int w))) = .nx (SY .sh cs (a + 1 + 1) n L2 (F ++ [(lo, hi)]) (some (.int y)) (some (.int w))) := by
      have g1 : gMin2 [.int y, .int w] = some (.int lo) := by rw [gMin2_ok, hlo]
      have g2 : gMax2 [.int y, .int w] = some (.int hi) := by rw [gMax2_ok, hhi]
      have z2 := foL_len F
      have z3 : (foL F).length < PySem.sizeLine := by rw [z2]; exact z1
      have sn := foL_snoc F lo hi
      have so := foL_so (F ++ [(lo, hi)])
      simp (disch := omega) only [runF, seqC, bindC, asgC, tgN, tgT, tgsC, tgsN, opE, evs, varE, takE, frzE, cstE, retC, retNC, expC, ifC, passC, rsC, brkC, cntC, callE, srcE, andE, orE, ifE, seqE, notE, chainE, nt_non, nt_bl, nt_int, nt_str, nt_tup, nt_nil, nt_cons, so_non, so_bl, so_int, so_str, so_tup, so_nil, so_cons, no_non, no_bl, no_int, no_str, no_tup, no_nil, no_cons, nr_non, nr_bl, nr_int, nr_str, nr_tup, nr_nil, nr_cons, ao_non, ao_bl, ao_int, ao_str, ao_tup, ao_nil, ao_cons, pk_non, pk_bl, pk_int, pk_str, pk_tup, pk_nil, pk_cons, sf_non, sf_bl, sf_int, sf_str, sf_tup, sf_nil, sf_cons, ints_so, ints_nt, ints_no, ints_nr, ints_ao, ints_pk, ints_sf, ints_snoc, pk_nd, sf_nd, nt_nd, so_nd, no_nd, nr_nd, ao_nd, so_app, gLen_nd, gIx_nd, gLst_0, gLR1_ok, gLR2_ok, isi_lst, hSeq_nd, fp1, fp2, fp3, fb1, fb2, fb3, fb4, fb5, fb6, fb7, fb8, fb9, fb10, fb11, fb12, fb13, fb14, sf_enc, pk_own, pk_sh, pk_tr, nr_enc, ao_enc, so_own, so_sh, nt_own, nt_sh, no_sh, no_tr, no_own, nt_tr, gLen_enc, gIx_0, gIx_1, gLst_nil, hSeq_sh, hRng1_ok, hRng2_ok, gSub_ok, gAdd_ok, gNeg_ok, gMod_ok, gDiv_ok, gShl_ok, gShr_ok, gMul_r, gMul_l, gLt_ok, gLe_ok, gGt_ok, gGe_ok, gNot_ok, gTup_2, gTup_3, gMax2_ok, gMin2_ok, isi_int_int, isi_int_bool, isi_tup, isi_int_list, isi_list, gEq_int, gNe_int, List.getElem?_cons_zero, List.getElem?_cons_succ, List.set_cons_zero, List.set_cons_succ, List.length_cons, List.length_nil, List.map_cons, List.map_nil, List.cons_append, List.nil_append, List.replicate_zero, List.replicate_succ, decide_true, decide_false, Bool.and_true, Bool.true_and, Bool.and_false, Bool.false_and, Bool.or_true, Bool.true_or, Bool.or_false, Bool.false_or, Bool.not_true, Bool.not_false, if_true, if_false, ite_true, ite_false, reduceIte, List.contains_nil, List.contains_cons, Nat.reduceBEq, List.any_cons, List.any_nil, List.append_nil, Bool.false_eq_true, reduceCtorEq, Nat.reduceAdd, Nat.reduceLT, Nat.reduceLeDiff, Nat.zero_add, mutE, getN, putN, isL, muApp, muPop, muPopAt, g1, g2, z3, sn, so]
    unfold b__law_layer_L0
    rw [hq]
    simp only [seqC, s1, s2, s3]
abbrev tstE : E := andE (opE gGt [opE gLen [varE 2], cstE (.int 1)]) (opE gGt [opE gMod [callIOE 0 1 F__law_next [], cstE (.int 5)], cstE (.int 0)])
theorem tst_small (f : Fl) (a n : Int) (L : List Int) (hl : L.length ≤ 1) (F : List (Int × Int)) (o4 o5 : Option Vl) : tstE (SY f cs a n L F o4 o5) = .ok (.bl false, SY f cs a n L F o4 o5, false) := by
  have dd : decide ((1 : Int) < (L.length : Nat)) = false := decide_eq_false (by omega)
  simp (disch := omega) only [runF, seqC, bindC, asgC, tgN, tgT, tgsC, tgsN, opE, evs, varE, takE, frzE, cstE, retC, retNC, expC, ifC, passC, rsC, brkC, cntC, callE, srcE, andE, orE, ifE, seqE, notE, chainE, nt_non, nt_bl, nt_int, nt_str, nt_tup, nt_nil, nt_cons, so_non, so_bl, so_int, so_str, so_tup, so_nil, so_cons, no_non, no_bl, no_int, no_str, no_tup, no_nil, no_cons, nr_non, nr_bl, nr_int, nr_str, nr_tup, nr_nil, nr_cons, ao_non, ao_bl, ao_int, ao_str, ao_tup, ao_nil, ao_cons, pk_non, pk_bl, pk_int, pk_str, pk_tup, pk_nil, pk_cons, sf_non, sf_bl, sf_int, sf_str, sf_tup, sf_nil, sf_cons, ints_so, ints_nt, ints_no, ints_nr, ints_ao, ints_pk, ints_sf, ints_snoc, pk_nd, sf_nd, nt_nd, so_nd, no_nd, nr_nd, ao_nd, so_app, gLen_nd, gIx_nd, gLst_0, gLR1_ok, gLR2_ok, isi_lst, hSeq_nd, fp1, fp2, fp3, fb1, fb2, fb3, fb4, fb5, fb6, fb7, fb8, fb9, fb10, fb11, fb12, fb13, fb14, sf_enc, pk_own, pk_sh, pk_tr, nr_enc, ao_enc, so_own, so_sh, nt_own, nt_sh, no_sh, no_tr, no_own, nt_tr, gLen_enc, gIx_0, gIx_1, gLst_nil, hSeq_sh, hRng1_ok, hRng2_ok, gSub_ok, gAdd_ok, gNeg_ok, gMod_ok, gDiv_ok, gShl_ok, gShr_ok, gMul_r, gMul_l, gLt_ok, gLe_ok, gGt_ok, gGe_ok, gNot_ok, gTup_2, gTup_3, gMax2_ok, gMin2_ok, isi_int_int, isi_int_bool, isi_tup, isi_int_list, isi_list, gEq_int, gNe_int, List.getElem?_cons_zero, List.getElem?_cons_succ, List.set_cons_zero, List.set_cons_succ, List.length_cons, List.length_nil, List.map_cons, List.map_nil, List.cons_append, List.nil_append, List.replicate_zero, List.replicate_succ, decide_true, decide_false, Bool.and_true, Bool.true_and, Bool.and_false, Bool.false_and, Bool.or_true, Bool.true_or, Bool.or_false, Bool.false_or, Bool.not_true, Bool.not_false, if_true, if_false, ite_true, ite_false, reduceIte, List.contains_nil, List.contains_cons, Nat.reduceBEq, List.any_cons, List.any_nil, List.append_nil, Bool.false_eq_true, reduceCtorEq, Nat.reduceAdd, Nat.reduceLT, Nat.reduceLeDiff, Nat.zero_add, Int.reduceSub, Int.reduceAdd, Int.reduceMul, Int.reduceToNat, Int.reducePow, Int.one_mul, Int.reduceNeg, Int.reduceLT, Int.reduceLE, Int.zero_add, Int.add_zero, Int.reduceEq, Int.reduceMod, Int.reduceDiv, Int.reduceOfNat, Int.cast_ofNat_Int, gLen_nd, List.length_map, gGt_ok, dd]
theorem tst_big (f : Fl) (hf : OF f) (a n : Int) (h0 : 0 ≤ a) (h1 : a ≤ 900000) (L : List Int) (hl : 2 ≤ L.length) (F : List (Int × Int)) (o4 o5 : Option Vl) : ∃ b, tstE (SY f cs a n L F o4 o5) = .ok (.bl b, SY .sh cs (a + 1) n L F o4 o5, true) := by
  obtain ⟨m, hm, hp⟩ := next_ok f hf cs hc hc1 a h0 (by omega)
  obtain ⟨k, k0, k1, gm⟩ := mod_ok m 5 (by omega)
  refine ⟨decide (0 < k), ?_⟩
  have dd : decide ((1 : Int) < (L.length : Nat)) = true := decide_eq_true (by omega)
  have hh : handsIO [] = [] := rfl
  simp only [SY, stS] at hp ⊢
  rcases hf with rfl | rfl <;> simp (disch := omega) only [callIOE, runF, seqC, bindC, asgC, tgN, tgT, tgsC, tgsN, opE, evs, varE, takE, frzE, cstE, retC, retNC, expC, ifC, passC, rsC, brkC, cntC, callE, srcE, andE, orE, ifE, seqE, notE, chainE, nt_non, nt_bl, nt_int, nt_str, nt_tup, nt_nil, nt_cons, so_non, so_bl, so_int, so_str, so_tup, so_nil, so_cons, no_non, no_bl, no_int, no_str, no_tup, no_nil, no_cons, nr_non, nr_bl, nr_int, nr_str, nr_tup, nr_nil, nr_cons, ao_non, ao_bl, ao_int, ao_str, ao_tup, ao_nil, ao_cons, pk_non, pk_bl, pk_int, pk_str, pk_tup, pk_nil, pk_cons, sf_non, sf_bl, sf_int, sf_str, sf_tup, sf_nil, sf_cons, ints_so, ints_nt, ints_no, ints_nr, ints_ao, ints_pk, ints_sf, ints_snoc, pk_nd, sf_nd, nt_nd, so_nd, no_nd, nr_nd, ao_nd, so_app, gLen_nd, gIx_nd, gLst_0, gLR1_ok, gLR2_ok, isi_lst, hSeq_nd, fp1, fp2, fp3, fb1, fb2, fb3, fb4, fb5, fb6, fb7, fb8, fb9, fb10, fb11, fb12, fb13, fb14, sf_enc, pk_own, pk_sh, pk_tr, nr_enc, ao_enc, so_own, so_sh, nt_own, nt_sh, no_sh, no_tr, no_own, nt_tr, gLen_enc, gIx_0, gIx_1, gLst_nil, hSeq_sh, hRng1_ok, hRng2_ok, gSub_ok, gAdd_ok, gNeg_ok, gMod_ok, gDiv_ok, gShl_ok, gShr_ok, gMul_r, gMul_l, gLt_ok, gLe_ok, gGt_ok, gGe_ok, gNot_ok, gTup_2, gTup_3, gMax2_ok, gMin2_ok, isi_int_int, isi_int_bool, isi_tup, isi_int_list, isi_list, gEq_int, gNe_int, List.getElem?_cons_zero, List.getElem?_cons_succ, List.set_cons_zero, List.set_cons_succ, List.length_cons, List.length_nil, List.map_cons, List.map_nil, List.cons_append, List.nil_append, List.replicate_zero, List.replicate_succ, decide_true, decide_false, Bool.and_true, Bool.true_and, Bool.and_false, Bool.false_and, Bool.or_true, Bool.true_or, Bool.or_false, Bool.false_or, Bool.not_true, Bool.not_false, if_true, if_false, ite_true, ite_false, reduceIte, List.contains_nil, List.contains_cons, Nat.reduceBEq, List.any_cons, List.any_nil, List.append_nil, Bool.false_eq_true, reduceCtorEq, Nat.reduceAdd, Nat.reduceLT, Nat.reduceLeDiff, Nat.zero_add, Int.reduceSub, Int.reduceAdd, Int.reduceMul, Int.reduceToNat, Int.reducePow, Int.one_mul, Int.reduceNeg, Int.reduceLT, Int.reduceLE, Int.zero_add, Int.add_zero, Int.reduceEq, Int.reduceMod, Int.reduceDiv, Int.reduceOfNat, Int.cast_ofNat_Int, gLen_nd, List.length_map, gGt_ok, dd, hh, hp, gm, Bool.and_self]
theorem layer_loop (f0 : Fl) (n : Nat) (n2 : n ≤ 8) : ∀ (m : Nat) (f : Fl) (L : List Int) (F : List (Int × Int)) (a : Int) (o4 o5 : Option Vl), OF f → L.length < 2 * m → L.length + 2 * F.length = n → (L ++ flt F).Perm (rng n) → (∀ p ∈ F, p.1 < p.2) → 0 ≤ a → a + 4 * L.length ≤ 700000 →
    ∃ (f' : Fl) (L' : List Int) (F' : List (Int × Int)) (a' : Int) (o4' o5' : Option Vl), OF f' ∧ L'.length + 2 * F'.length = n ∧ (L' ++ flt F').Perm (rng n) ∧ (∀ p ∈ F', p.1 < p.2) ∧ a ≤ a' ∧ a' ≤ a + 4 * L.length + 1 ∧ whileC tstE b__law_layer_L0 m (SY f cs a n L F o4 o5) = .nx (SY f' cs a' n L' F' o4' o5')
  | 0, f, L, F, a, _, _, _, h, _, _, _, _, _ => absurd h (Nat.not_lt_zero _)
  | m + 1, f, L, F, a, o4, o5, hf, hm, hl, hP, hF, h0, h1 => by
    by_cases q : L.length ≤ 1
    · refine ⟨f, L, F, a, o4, o5, hf, hl, hP, hF, Int.le_refl _, by omega, ?_⟩
      have ht := tst_small cs hc hc1 f a n L q F o4 o5
      unfold whileC
      rw [ht]
    · obtain ⟨b, ht⟩ := tst_big cs hc hc1 f hf a n h0 (by omega) L (by omega) F o4 o5
      cases b with
      | false =>
        refine ⟨.sh, L, F, a + 1, o4, o5, .inr rfl, hl, hP, hF, by omega, by omega, ?_⟩
        unfold whileC
        rw [ht]
      | true =>
        have hnd : (L ++ flt F).Nodup := hP.nodup_iff.mpr (rng_nodup n)
        obtain ⟨lo, hi, L', r1, r2, o4', o5', hb⟩ := layer_step cs hc hc1 .sh (.inr rfl) (a + 1) n (by omega) (by omega) L (by omega) (by omega) (List.nodup_append.mp hnd).1 F (by omega) o4 o5
        have rl : L'.length + 2 = L.length := by have := r2.length_eq; simpa using this
        obtain ⟨f', L2, F2, a', o4'', o5'', g1, g2, g3, g4, g5, g6, g7⟩ := layer_loop f0 n n2 m .sh L' (F ++ [(lo, hi)]) (a + 1 + 1 + 1) o4' o5' (.inr rfl) (by omega) (by rw [List.length_append]; simp; omega) (by
          rw [flt_snoc]
          refine List.Perm.trans ?_ hP
          rw [← List.append_assoc]
          refine List.Perm.trans List.perm_append_comm ?_
          show (lo :: hi :: (L' ++ flt F)).Perm _
          exact List.Perm.append_right (flt F) r2) (fun p hp => by
          rcases List.mem_append.mp hp with hp | hp
          · exact hF p hp
          · rw [List.mem_singleton] at hp
            rw [hp]; exact r1) (by omega) (by omega)
        refine ⟨f', L2, F2, a', o4'', o5'', g1, g2, g3, g4, by omega, by omega, ?_⟩
        unfold whileC
        rw [ht]
        show (match b__law_layer_L0 (SY .sh cs (a + 1) n L F o4 o5) with
          | .nx st2 => whileC tstE b__law_layer_L0 m st2
          | .ct st2 => whileC tstE b__law_layer_L0 m st2
          | .bk st2 => .nx st2
          | z => z) = _
        rw [hb]
        exact g7
theorem layer_ok (f : Fl) (hf : OF f) (a : Int) (h0 : 0 ≤ a) (h1 : a ≤ 600000) (n : Nat) (n1 : 1 ≤ n) (n2 : n ≤ 8) : ∃ (L : List (Int × Int)) (f' : Fl) (a' : Int), OF f' ∧ a ≤ a' ∧ a' ≤ a + 40 ∧ Ly n L ∧ Sd L ∧ F__law_layer [stS f cs a, .int n] = .ok (.nd .own .lst (foL L)) (stS f' cs a') := by
  obtain ⟨f', L, F, a', o4, o5, g1, g2, g3, g4, g5, g6, g7⟩ := layer_loop cs hc hc1 f n n2 10 f (rng n) [] a none none hf (by rw [rng_len]; omega) (by rw [rng_len]; simp) (by simp [flt]) (fun p hp => by cases hp) h0 (by rw [rng_len]; omega)
  rw [rng_len] at g6
  obtain ⟨L', pL, sL, hso⟩ := sort_fo .tr F
  have hnd : (L ++ flt F).Nodup := g3.nodup_iff.mpr (rng_nodup n)
  have hnF : (flt F).Nodup := (List.nodup_append.mp hnd).2.1
  have hfp : (flt L').Perm (flt F) := pL.flatMap_right _
  refine ⟨L', f', a', g1, g5, by omega, ⟨fun p hp => ?_, dj_of (hfp.nodup_iff.mpr hnF), by have := pL.length_eq; omega⟩, sL, ?_⟩
  · have hF := pL.mem_iff.mp hp
    have r1 := g4 p hF
    have i1 : p.1 ∈ rng n := g3.mem_iff.mp (List.mem_append.mpr (.inr (List.mem_flatMap.mpr ⟨p, hF, by simp⟩)))
    have i2 : p.2 ∈ rng n := g3.mem_iff.mp (List.mem_append.mpr (.inr (List.mem_flatMap.mpr ⟨p, hF, by simp⟩)))
    exact ⟨(mem_rng.mp i1).1, r1, (mem_rng.mp i2).2⟩
  have hlr : gLR1 [.int (n : Nat)] = some (.nd .own .lst ((rng n).map Vl.int)) := by rw [gLR1_ok (by omega), Int.toNat_natCast, intsV_rng]
  have hrn := intsV_rng n
  have hf0 : foL [] = [] := rfl
  have ao := foL_ao L'
  have pk := foL_pk F
  show (match b__law_layer ⟨[some (stS f cs a), some (.int n), none, none, none, none], [], [0]⟩ with
    | .nx s => endIO s .non
    | .rt v s => endIO s v
    | _ => .bad) = _
  unfold b__law_layer
  generalize hq : whileC tstE b__law_layer_L0 10 = wc at g7
  simp only [tstE] at hq
  simp only [SY, stS, hf0] at g7 ⊢
  rcases hf with rfl | rfl <;> rcases g1 with rfl | rfl <;> simp (disch := omega) only [hq, runF, seqC, bindC, asgC, tgN, tgT, tgsC, tgsN, opE, evs, varE, takE, frzE, cstE, retC, retNC, expC, ifC, passC, rsC, brkC, cntC, callE, srcE, andE, orE, ifE, seqE, notE, chainE, nt_non, nt_bl, nt_int, nt_str, nt_tup, nt_nil, nt_cons, so_non, so_bl, so_int, so_str, so_tup, so_nil, so_cons, no_non, no_bl, no_int, no_str, no_tup, no_nil, no_cons, nr_non, nr_bl, nr_int, nr_str, nr_tup, nr_nil, nr_cons, ao_non, ao_bl, ao_int, ao_str, ao_tup, ao_nil, ao_cons, pk_non, pk_bl, pk_int, pk_str, pk_tup, pk_nil, pk_cons, sf_non, sf_bl, sf_int, sf_str, sf_tup, sf_nil, sf_cons, ints_so, ints_nt, ints_no, ints_nr, ints_ao, ints_pk, ints_sf, ints_snoc, pk_nd, sf_nd, nt_nd, so_nd, no_nd, nr_nd, ao_nd, so_app, gLen_nd, gIx_nd, gLst_0, gLR1_ok, gLR2_ok, isi_lst, hSeq_nd, fp1, fp2, fp3, fb1, fb2, fb3, fb4, fb5, fb6, fb7, fb8, fb9, fb10, fb11, fb12, fb13, fb14, sf_enc, pk_own, pk_sh, pk_tr, nr_enc, ao_enc, so_own, so_sh, nt_own, nt_sh, no_sh, no_tr, no_own, nt_tr, gLen_enc, gIx_0, gIx_1, gLst_nil, hSeq_sh, hRng1_ok, hRng2_ok, gSub_ok, gAdd_ok, gNeg_ok, gMod_ok, gDiv_ok, gShl_ok, gShr_ok, gMul_r, gMul_l, gLt_ok, gLe_ok, gGt_ok, gGe_ok, gNot_ok, gTup_2, gTup_3, gMax2_ok, gMin2_ok, isi_int_int, isi_int_bool, isi_tup, isi_int_list, isi_list, gEq_int, gNe_int, List.getElem?_cons_zero, List.getElem?_cons_succ, List.set_cons_zero, List.set_cons_succ, List.length_cons, List.length_nil, List.map_cons, List.map_nil, List.cons_append, List.nil_append, List.replicate_zero, List.replicate_succ, decide_true, decide_false, Bool.and_true, Bool.true_and, Bool.and_false, Bool.false_and, Bool.or_true, Bool.true_or, Bool.or_false, Bool.false_or, Bool.not_true, Bool.not_false, if_true, if_false, ite_true, ite_false, reduceIte, List.contains_nil, List.contains_cons, Nat.reduceBEq, List.any_cons, List.any_nil, List.append_nil, Bool.false_eq_true, reduceCtorEq, Nat.reduceAdd, Nat.reduceLT, Nat.reduceLeDiff, Nat.zero_add, Int.reduceSub, Int.reduceAdd, Int.reduceMul, Int.reduceToNat, Int.reducePow, Int.one_mul, Int.reduceNeg, Int.reduceLT, Int.reduceLE, Int.zero_add, Int.add_zero, Int.reduceEq, Int.reduceMod, Int.reduceDiv, Int.reduceOfNat, Int.cast_ofNat_Int, hlr, hrn, Int.toNat_natCast, g7, pk, hso, ao, endIO, Bool.and_self]
end
end K41

namespace K41
open PyI
open Enc (enc)
--%DEF FO foL_nt, foL_no, foL_nr, foL_pk, foL_sf, foL_so, foL_len
--%DEF NW nw_nt, nw_no, nw_nr, nw_pk, nw_sf, nw_len
--%DEF NV noV_nt, noV_so, noV_ao, noV_len
theorem compL_io {γ δ : Type} {vs : List Nat} {g : Tg} {elt : E} {ev : γ → Vl} (f : δ → Vl) (J : Nat → Sta → Prop) (R : γ → δ → Prop) : ∀ (N : Nat) (xs : List γ) (i : Nat) (st : Sta), i + xs.length ≤ N → J i st →
    (∀ i x st, i < N → x ∈ xs → J i st → ∃ s d s' e, g (ev x) st = some s ∧ elt s = .ok (f d, s', e) ∧ noTr (f d) = true ∧ R x d ∧ J (i + 1) (wipeS vs s')) →
    ∃ (ws : List (γ × δ)) (st' : Sta) (e : Bool), ws.map Prod.fst = xs ∧ compL vs g (cstE (.bl true)) elt false (xs.map ev) st = .ok (ws.map (fun w => f w.2), st', e) ∧ J (i + xs.length) st' ∧ ∀ w ∈ ws, R w.1 w.2
  | N, [], i, st, _, hj, _ => ⟨[], st, false, rfl, rfl, hj, fun w hw => by cases hw⟩
  | N, x :: r, i, st, hN, hj, h => by
    rw [List.length_cons] at hN
    obtain ⟨s, d, s', e, h1, h2, h3, h4, h5⟩ := h i x st (by omega) List.mem_cons_self hj
    obtain ⟨ws, st', e', q1, q2, q3, q4⟩ := compL_io f J R N r (i + 1) (wipeS vs s') (by omega) h5 fun i y st hi hy hj => h i y st hi (List.mem_cons_of_mem _ hy) hj
    refine ⟨(x, d) :: ws, st', e || e', by rw [List.map_cons, q1], ?_, by rw [List.length_cons, show i + (r.length + 1) = i + 1 + r.length by omega]; exact q3, fun w hw => ?_⟩
    · show compL vs g (cstE (.bl true)) elt false (ev x :: r.map ev) st = _
      unfold compL
      rw [h1]
      simp only [cstE, h2, h3, q2, Bool.not_false, Bool.true_or, Bool.and_self, if_true, Bool.false_or]
      rfl
    · rcases List.mem_cons.mp hw with e | hw
      · rw [e]; exact h4
      · exact q4 w hw
theorem compE_io {γ δ : Type} {vs : List Nat} {g : Tg} {src : Src} {elt : E} {ev : γ → Vl} (f : δ → Vl) (J : Nat → Sta → Prop) (R : γ → δ → Prop) (xs : List γ) {st st1 : Sta} {e0 : Bool} (hs : src st = .ok (xs.map ev, false, st1, e0)) (hl : (vs.any fun i => st1.la.contains i) = false) (hj : J 0 (wipeS vs st1))
    (h : ∀ i x st, i < xs.length → x ∈ xs → J i st → ∃ s d s' e, g (ev x) st = some s ∧ elt s = .ok (f d, s', e) ∧ noTr (f d) = true ∧ R x d ∧ J (i + 1) (wipeS vs s')) (hn : xs.length < PySem.sizeLine) :
    ∃ (ws : List (γ × δ)) (st' : Sta) (e : Bool), ws.map Prod.fst = xs ∧ compE vs g src (cstE (.bl true)) elt st = .ok (mkL (ws.map (fun w => f w.2)), backS vs st1 st', e) ∧ J xs.length st' ∧ ∀ w ∈ ws, R w.1 w.2 := by
  obtain ⟨ws, st', e, q1, q2, q3, q4⟩ := compL_io f J R xs.length xs 0 (wipeS vs st1) (by omega) hj h
  rw [Nat.zero_add] at q3
  refine ⟨ws, st', e0 || e, q1, ?_, q3, q4⟩
  have hw : (ws.map (fun w => f w.2)).length < PySem.sizeLine := by
    rw [List.length_map]
    have : ws.length = xs.length := by rw [← q1, List.length_map]
    omega
  unfold compE
  rw [hs]
  simp only [hl, q2, decide_eq_true hw, if_true]
  rfl

/-! ### neighbours -/
def nbL (i : Int) (m : Nat) : List (Int × Int) := (List.range m).map fun k => (i + (k : Nat) * 2, i + (k : Nat) * 2 + 1)
theorem nb_Ly {n : Nat} (n2 : n ≤ 64) {i : Int} {m : Nat} (h0 : 0 ≤ i) (h : m = 0 ∨ i + ((m : Int) - 1) * 2 + 1 ≤ (n : Int) - 1) : Ly n (nbL i m) ∧ Sd (nbL i m) := by
  refine ⟨⟨fun p hp => ?_, ?_, by unfold nbL; rw [List.length_map, List.length_range]; omega⟩, ?_⟩
  · obtain ⟨k, hk, rfl⟩ := List.mem_map.mp hp
    have hk := List.mem_range.mp hk
    show 0 ≤ i + (k : Int) * 2 ∧ i + (k : Int) * 2 < i + (k : Int) * 2 + 1 ∧ i + (k : Int) * 2 + 1 ≤ (n : Int) - 1
    omega
  · refine List.pairwise_map.mpr (List.pairwise_lt_range.imp fun {k l} hkl => ?_)
    show i + (k : Int) * 2 ≠ i + (l : Int) * 2 ∧ i + (k : Int) * 2 ≠ i + (l : Int) * 2 + 1 ∧ i + (k : Int) * 2 + 1 ≠ i + (l : Int) * 2 ∧ i + (k : Int) * 2 + 1 ≠ i + (l : Int) * 2 + 1
    omega
  · unfold Sd nbL SrtT
    rw [List.map_map]
    refine List.pairwise_map.mpr (List.pairwise_lt_range.imp fun {k l} hkl => ?_)
    show lexL [i + (l : Int) * 2, i + (l : Int) * 2 + 1] [i + (k : Int) * 2, i + (k : Int) * 2 + 1] = false
    unfold lexL
    rw [if_neg (by omega)]
    exact decide_eq_false (by omega)
def noV (N : List (List (Int × Int))) : List Vl := N.map fun L => .nd .own .lst (foL L)
theorem noV_e (N : List (List (Int × Int))) : (.nd .own .lst (noV N) : Vl) = enc .own N := rfl
theorem noV_nt (N : List (List (Int × Int))) : noTrs (noV N) = true := noTrs_enc (α := List (Int × Int)) .own rfl _
theorem noV_so (N : List (List (Int × Int))) : stors (noV N) = true := stors_enc (α := List (Int × Int)) .own rfl _
theorem noV_ao (N : List (List (Int × Int))) : allOwns (noV N) = true := allOwns_enc (α := List (Int × Int)) _
theorem noV_len (N : List (List (Int × Int))) : (noV N).length = N.length := List.length_map _
theorem mk_noV (N : List (List (Int × Int))) : mkL (noV N) = .nd .own .lst (noV N) := by unfold mkL; rw [if_pos (noV_so N)]
def nbN (n : Nat) : List (List (Int × Int)) := (rng n).map fun t => nbL (t % 2) (if t % 2 < (n : Int) - 1 then ((n : Int) - 1 - t % 2 - 1) / 2 + 1 else 0).toNat
theorem nbN_len (n : Nat) : (nbN n).length = n := by unfold nbN; rw [List.length_map, rng_len]
theorem nbN_ok {n : Nat} (n2 : n ≤ 64) : ∀ L ∈ nbN n, Ly n L ∧ Sd L := fun L hL => by
  obtain ⟨t, ht, rfl⟩ := List.mem_map.mp hL
  refine nb_Ly n2 (by omega) ?_
  split <;> omega
theorem neigh_ok {n : Nat} (n2 : n ≤ 64) : F__law_neighbours [.int n] = .ok (.nd .own .lst (noV (nbN n))) := by
  have hc : compE [1] (tgN 1) (srcE hRng1 [varE 0]) (cstE (.bl true)) (compE [2] (tgN 2) (srcE hRngP [opE gMod [varE 1, cstE (.int 2)], opE gSub [varE 0, cstE (.int 1)], cstE (.int 2)]) (cstE (.bl true)) (opE gTup [frzE 2, opE gAdd [varE 2, cstE (.int 1)]])) ⟨[some (.int n), none, none], [], []⟩ = .ok (mkL (noV (nbN n)), (⟨[some (.int n), none, none], [], []⟩ : Sta), false) := by
    have e0 : noV (nbN n) = (rng n).map fun t => .nd .own .lst (foL (nbL (t % 2) (if t % 2 < (n : Int) - 1 then ((n : Int) - 1 - t % 2 - 1) / 2 + 1 else 0).toNat)) := by
      unfold noV nbN
      rw [List.map_map]; rfl
    rw [e0]
    refine compE_all (vs := [1]) (st1 := ⟨[some (.int n), none, none], [], []⟩) (ev := Vl.int) (tr := false) (rng n) _ ?_ rfl (fun t ht => ?_) (by rw [PySem.sizeLine_eq, rng_len]; omega)
    · rw [← intsV_rng]
      simp (disch := omega) only [runF, seqC, bindC, asgC, tgN, tgT, tgsC, tgsN, opE, evs, varE, takE, frzE, cstE, retC, retNC, expC, ifC, passC, rsC, brkC, cntC, callE, srcE, andE, orE, ifE, seqE, notE, chainE, nt_non, nt_bl, nt_int, nt_str, nt_tup, nt_nil, nt_cons, so_non, so_bl, so_int, so_str, so_tup, so_nil, so_cons, no_non, no_bl, no_int, no_str, no_tup, no_nil, no_cons, nr_non, nr_bl, nr_int, nr_str, nr_tup, nr_nil, nr_cons, ao_non, ao_bl, ao_int, ao_str, ao_tup, ao_nil, ao_cons, pk_non, pk_bl, pk_int, pk_str, pk_tup, pk_nil, pk_cons, sf_non, sf_bl, sf_int, sf_str, sf_tup, sf_nil, sf_cons, ints_so, ints_nt, ints_no, ints_nr, ints_ao, ints_pk, ints_sf, ints_snoc, pk_nd, sf_nd, nt_nd, so_nd, no_nd, nr_nd, ao_nd, so_app, gLen_nd, gIx_nd, gLst_0, gLR1_ok, gLR2_ok, isi_lst, hSeq_nd, fp1, fp2, fp3, fb1, fb2, fb3, fb4, fb5, fb6, fb7, fb8, fb9, fb10, fb11, fb12, fb13, fb14, sf_enc, pk_own, pk_sh, pk_tr, nr_enc, ao_enc, so_own, so_sh, nt_own, nt_sh, no_sh, no_tr, no_own, nt_tr, gLen_enc, gIx_0, gIx_1, gLst_nil, hSeq_sh, hRng1_ok, hRng2_ok, gSub_ok, gAdd_ok, gNeg_ok, gMod_ok, gDiv_ok, gShl_ok, gShr_ok, gMul_r, gMul_l, gLt_ok, gLe_ok, gGt_ok, gGe_ok, gNot_ok, gTup_2, gTup_3, gMax2_ok, gMin2_ok, isi_int_int, isi_int_bool, isi_tup, isi_int_list, isi_list, gEq_int, gNe_int, List.getElem?_cons_zero, List.getElem?_cons_succ, List.set_cons_zero, List.set_cons_succ, List.length_cons, List.length_nil, List.map_cons, List.map_nil, List.cons_append, List.nil_append, List.replicate_zero, List.replicate_succ, decide_true, decide_false, Bool.and_true, Bool.true_and, Bool.and_false, Bool.false_and, Bool.or_true, Bool.true_or, Bool.or_false, Bool.false_or, Bool.not_true, Bool.not_false, if_true, if_false, ite_true, ite_false, reduceIte, List.contains_nil, List.contains_cons, Nat.reduceBEq, List.any_cons, List.any_nil, List.append_nil, Bool.false_eq_true, reduceCtorEq, Nat.reduceAdd, Nat.reduceLT, Nat.reduceLeDiff, Nat.zero_add, Int.reduceSub, Int.reduceAdd, Int.reduceMul, Int.reduceToNat, Int.reducePow, Int.one_mul, Int.reduceNeg, Int.reduceLT, Int.reduceLE, Int.zero_add, Int.add_zero, Int.reduceEq, Int.reduceMod, Int.reduceDiv, Int.reduceOfNat, Int.cast_ofNat_Int, Int.toNat_natCast]
    · have h0 := mem_rng.mp ht
      refine ⟨⟨[some (.int n), some (.int t), none], [], []⟩, rfl, ?_, by rw [nt_nd, foL_nt]; rfl, rfl⟩
      generalize hm : (if t % 2 < (n : Int) - 1 then ((n : Int) - 1 - t % 2 - 1) / 2 + 1 else 0).toNat = m
      have hml : m ≤ 64 := by rw [← hm]; split <;> omega
      have hin : compE [2] (tgN 2) (srcE hRngP [opE gMod [varE 1, cstE (.int 2)], opE gSub [varE 0, cstE (.int 1)], cstE (.int 2)]) (cstE (.bl true)) (opE gTup [frzE 2, opE gAdd [varE 2, cstE (.int 1)]]) ⟨[some (.int n), some (.int t), none], [], []⟩ = .ok (mkL (foL (nbL (t % 2) m)), (⟨[some (.int n), some (.int t), none], [], []⟩ : Sta), false) := by
        have e1 : foL (nbL (t % 2) m) = (List.range m).map fun k => Vl.tup [.int (t % 2 + (k : Nat) * 2), .int (t % 2 + (k : Nat) * 2 + 1)] := by
          unfold foL nbL
          rw [List.map_map]; rfl
        rw [e1]
        refine compE_all (vs := [2]) (st1 := ⟨[some (.int n), some (.int t), none], [], []⟩) (ev := fun k : Nat => Vl.int (t % 2 + (k : Nat) * 2)) (tr := false) (List.range m) _ ?_ rfl (fun k hk => ?_) (by rw [PySem.sizeLine_eq, List.length_range]; omega)
        · have hr : hRngP [.int (t % 2), .int ((n : Int) - 1), .int 2] = some ((List.range m).map fun k : Nat => Vl.int (t % 2 + (k : Nat) * 2), false) := by
            show (if (inB 1000000 (t % 2) && inB 1000000 ((n : Int) - 1)) && (decide ((0 : Int) < 2) && inB 1000000 2) then some (intsC (t % 2) 2 (if t % 2 < (n : Int) - 1 then ((n : Int) - 1 - t % 2 - 1) / 2 + 1 else 0).toNat, false) else none) = _
            rw [inB_ok (by omega), inB_ok (by omega), hm]
            rfl
          have gm : gMod [.int t, .int 2] = some (.int (t % 2)) := gMod_ok (by omega)
          simp (disch := omega) only [runF, seqC, bindC, asgC, tgN, tgT, tgsC, tgsN, opE, evs, varE, takE, frzE, cstE, retC, retNC, expC, ifC, passC, rsC, brkC, cntC, callE, srcE, andE, orE, ifE, seqE, notE, chainE, nt_non, nt_bl, nt_int, nt_str, nt_tup, nt_nil, nt_cons, so_non, so_bl, so_int, so_str, so_tup, so_nil, so_cons, no_non, no_bl, no_int, no_str, no_tup, no_nil, no_cons, nr_non, nr_bl, nr_int, nr_str, nr_tup, nr_nil, nr_cons, ao_non, ao_bl, ao_int, ao_str, ao_tup, ao_nil, ao_cons, pk_non, pk_bl, pk_int, pk_str, pk_tup, pk_nil, pk_cons, sf_non, sf_bl, sf_int, sf_str, sf_tup, sf_nil, sf_cons, ints_so, ints_nt, ints_no, ints_nr, ints_ao, ints_pk, ints_sf, ints_snoc, pk_nd, sf_nd, nt_nd, so_nd, no_nd, nr_nd, ao_nd, so_app, gLen_nd, gIx_nd, gLst_0, gLR1_ok, gLR2_ok, isi_lst, hSeq_nd, fp1, fp2, fp3, fb1, fb2, fb3, fb4, fb5, fb6, fb7, fb8, fb9, fb10, fb11, fb12, fb13, fb14, sf_enc, pk_own, pk_sh, pk_tr, nr_enc, ao_enc, so_own, so_sh, nt_own, nt_sh, no_sh, no_tr, no_own, nt_tr, gLen_enc, gIx_0, gIx_1, gLst_nil, hSeq_sh, hRng1_ok, hRng2_ok, gSub_ok, gAdd_ok, gNeg_ok, gMod_ok, gDiv_ok, gShl_ok, gShr_ok, gMul_r, gMul_l, gLt_ok, gLe_ok, gGt_ok, gGe_ok, gNot_ok, gTup_2, gTup_3, gMax2_ok, gMin2_ok, isi_int_int, isi_int_bool, isi_tup, isi_int_list, isi_list, gEq_int, gNe_int, List.getElem?_cons_zero, List.getElem?_cons_succ, List.set_cons_zero, List.set_cons_succ, List.length_cons, List.length_nil, List.map_cons, List.map_nil, List.cons_append, List.nil_append, List.replicate_zero, List.replicate_succ, decide_true, decide_false, Bool.and_true, Bool.true_and, Bool.and_false, Bool.false_and, Bool.or_true, Bool.true_or, Bool.or_false, Bool.false_or, Bool.not_true, Bool.not_false, if_true, if_false, ite_true, ite_false, reduceIte, List.contains_nil, List.contains_cons, Nat.reduceBEq, List.any_cons, List.any_nil, List.append_nil, Bool.false_eq_true, reduceCtorEq, Nat.reduceAdd, Nat.reduceLT, Nat.reduceLeDiff, Nat.zero_add, Int.reduceSub, Int.reduceAdd, Int.reduceMul, Int.reduceToNat, Int.reducePow, Int.one_mul, Int.reduceNeg, Int.reduceLT, Int.reduceLE, Int.zero_add, Int.add_zero, Int.reduceEq, Int.reduceMod, Int.reduceDiv, Int.reduceOfNat, Int.cast_ofNat_Int, gm, hr]
        · refine ⟨⟨[some (.int n), some (.int t), some (.int (t % 2 + (k : Nat) * 2))], [], []⟩, rfl, ?_, rfl, rfl⟩
          generalize t % 2 + (k : Nat) * 2 = w
          simp (disch := omega) only [runF, seqC, bindC, asgC, tgN, tgT, tgsC, tgsN, opE, evs, varE, takE, frzE, cstE, retC, retNC, expC, ifC, passC, rsC, brkC, cntC, callE, srcE, andE, orE, ifE, seqE, notE, chainE, nt_non, nt_bl, nt_int, nt_str, nt_tup, nt_nil, nt_cons, so_non, so_bl, so_int, so_str, so_tup, so_nil, so_cons, no_non, no_bl, no_int, no_str, no_tup, no_nil, no_cons, nr_non, nr_bl, nr_int, nr_str, nr_tup, nr_nil, nr_cons, ao_non, ao_bl, ao_int, ao_str, ao_tup, ao_nil, ao_cons, pk_non, pk_bl, pk_int, pk_str, pk_tup, pk_nil, pk_cons, sf_non, sf_bl, sf_int, sf_str, sf_tup, sf_nil, sf_cons, ints_so, ints_nt, ints_no, ints_nr, ints_ao, ints_pk, ints_sf, ints_snoc, pk_nd, sf_nd, nt_nd, so_nd, no_nd, nr_nd, ao_nd, so_app, gLen_nd, gIx_nd, gLst_0, gLR1_ok, gLR2_ok, isi_lst, hSeq_nd, fp1, fp2, fp3, fb1, fb2, fb3, fb4, fb5, fb6, fb7, fb8, fb9, fb10, fb11, fb12, fb13, fb14, sf_enc, pk_own, pk_sh, pk_tr, nr_enc, ao_enc, so_own, so_sh, nt_own, nt_sh, no_sh, no_tr, no_own, nt_tr, gLen_enc, gIx_0, gIx_1, gLst_nil, hSeq_sh, hRng1_ok, hRng2_ok, gSub_ok, gAdd_ok, gNeg_ok, gMod_ok, gDiv_ok, gShl_ok, gShr_ok, gMul_r, gMul_l, gLt_ok, gLe_ok, gGt_ok, gGe_ok, gNot_ok, gTup_2, gTup_3, gMax2_ok, gMin2_ok, isi_int_int, isi_int_bool, isi_tup, isi_int_list, isi_list, gEq_int, gNe_int, List.getElem?_cons_zero, List.getElem?_cons_succ, List.set_cons_zero, List.set_cons_succ, List.length_cons, List.length_nil, List.map_cons, List.map_nil, List.cons_append, List.nil_append, List.replicate_zero, List.replicate_succ, decide_true, decide_false, Bool.and_true, Bool.true_and, Bool.and_false, Bool.false_and, Bool.or_true, Bool.true_or, Bool.or_false, Bool.false_or, Bool.not_true, Bool.not_false, if_true, if_false, ite_true, ite_false, reduceIte, List.contains_nil, List.contains_cons, Nat.reduceBEq, List.any_cons, List.any_nil, List.append_nil, Bool.false_eq_true, reduceCtorEq, Nat.reduceAdd, Nat.reduceLT, Nat.reduceLeDiff, Nat.zero_add, Int.reduceSub, Int.reduceAdd, Int.reduceMul, Int.reduceToNat, Int.reducePow, Int.one_mul, Int.reduceNeg, Int.reduceLT, Int.reduceLE, Int.zero_add, Int.add_zero, Int.reduceEq, Int.reduceMod, Int.reduceDiv, Int.reduceOfNat, Int.cast_ofNat_Int]
      have em : mkL (foL (nbL (t % 2) m)) = .nd .own .lst (foL (nbL (t % 2) m)) := by unfold mkL; rw [if_pos (foL_so _)]
      rw [em] at hin
      exact hin
  rw [mk_noV] at hc
  have ao := noV_ao (nbN n)
  generalize noV (nbN n) = w at *
  generalize hq : compE [1] (tgN 1) (srcE hRng1 [varE 0]) (cstE (.bl true)) (compE [2] (tgN 2) (srcE hRngP [opE gMod [varE 1, cstE (.int 2)], opE gSub [varE 0, cstE (.int 1)], cstE (.int 2)]) (cstE (.bl true)) (opE gTup [frzE 2, opE gAdd [varE 2, cstE (.int 1)]])) = ce at hc
  simp (disch := omega) only [F__law_neighbours, b__law_neighbours, hq, runF, seqC, bindC, asgC, tgN, tgT, tgsC, tgsN, opE, evs, varE, takE, frzE, cstE, retC, retNC, expC, ifC, passC, rsC, brkC, cntC, callE, srcE, andE, orE, ifE, seqE, notE, chainE, nt_non, nt_bl, nt_int, nt_str, nt_tup, nt_nil, nt_cons, so_non, so_bl, so_int, so_str, so_tup, so_nil, so_cons, no_non, no_bl, no_int, no_str, no_tup, no_nil, no_cons, nr_non, nr_bl, nr_int, nr_str, nr_tup, nr_nil, nr_cons, ao_non, ao_bl, ao_int, ao_str, ao_tup, ao_nil, ao_cons, pk_non, pk_bl, pk_int, pk_str, pk_tup, pk_nil, pk_cons, sf_non, sf_bl, sf_int, sf_str, sf_tup, sf_nil, sf_cons, ints_so, ints_nt, ints_no, ints_nr, ints_ao, ints_pk, ints_sf, ints_snoc, pk_nd, sf_nd, nt_nd, so_nd, no_nd, nr_nd, ao_nd, so_app, gLen_nd, gIx_nd, gLst_0, gLR1_ok, gLR2_ok, isi_lst, hSeq_nd, fp1, fp2, fp3, fb1, fb2, fb3, fb4, fb5, fb6, fb7, fb8, fb9, fb10, fb11, fb12, fb13, fb14, sf_enc, pk_own, pk_sh, pk_tr, nr_enc, ao_enc, so_own, so_sh, nt_own, nt_sh, no_sh, no_tr, no_own, nt_tr, gLen_enc, gIx_0, gIx_1, gLst_nil, hSeq_sh, hRng1_ok, hRng2_ok, gSub_ok, gAdd_ok, gNeg_ok, gMod_ok, gDiv_ok, gShl_ok, gShr_ok, gMul_r, gMul_l, gLt_ok, gLe_ok, gGt_ok, gGe_ok, gNot_ok, gTup_2, gTup_3, gMax2_ok, gMin2_ok, isi_int_int, isi_int_bool, isi_tup, isi_int_list, isi_list, gEq_int, gNe_int, List.getElem?_cons_zero, List.getElem?_cons_succ, List.set_cons_zero, List.set_cons_succ, List.length_cons, List.length_nil, List.map_cons, List.map_nil, List.cons_append, List.nil_append, List.replicate_zero, List.replicate_succ, decide_true, decide_false, Bool.and_true, Bool.true_and, Bool.and_false, Bool.false_and, Bool.or_true, Bool.true_or, Bool.or_false, Bool.false_or, Bool.not_true, Bool.not_false, if_true, if_false, ite_true, ite_false, reduceIte, List.contains_nil, List.contains_cons, Nat.reduceBEq, List.any_cons, List.any_nil, List.append_nil, Bool.false_eq_true, reduceCtorEq, Nat.reduceAdd, Nat.reduceLT, Nat.reduceLeDiff, Nat.zero_add, Int.reduceSub, Int.reduceAdd, Int.reduceMul, Int.reduceToNat, Int.reducePow, Int.one_mul, Int.reduceNeg, Int.reduceLT, Int.reduceLE, Int.zero_add, Int.add_zero, Int.reduceEq, Int.reduceMod, Int.reduceDiv, Int.reduceOfNat, Int.cast_ofNat_Int, hc, ao, Nat.reduceSub]
end K41

namespace K41
open PyI
open Enc (enc)
--%DEF FO foL_nt, foL_no, foL_nr, foL_pk, foL_sf, foL_so, foL_len
--%DEF NW nw_nt, nw_no, nw_nr, nw_pk, nw_sf, nw_len
--%DEF NV noV_nt, noV_so, noV_ao, noV_len
def trV (N : List (List (Int × Int))) : List Vl := N.map fun L => .nd .tr .lst (foL L)
theorem noV_pk (N : List (List (Int × Int))) : peeks (noV N) = trV N := peeks_enc (α := List (Int × Int)) .own N
theorem trV_len (N : List (List (Int × Int))) : (trV N).length = N.length := List.length_map _
def bwV (N : List (List (Int × Int))) : List Vl := N.map fun L => .nd .bw .lst (foL L)
theorem noV_bw (N : List (List (Int × Int))) : setFs .bw (noV N) = bwV N := setFs_enc (α := List (Int × Int)) .own .bw N
theorem bwV_pk (N : List (List (Int × Int))) : peeks (bwV N) = bwV N := peeks_enc (α := List (Int × Int)) .bw N
theorem noV_nr (N : List (List (Int × Int))) : noRefs (noV N) = true := noRefs_enc (α := List (Int × Int)) .own N
theorem fw1 : (if Fl.bw = Fl.own then Fl.tr else Fl.bw) = Fl.bw := rfl
abbrev Gd (n : Nat) (N : List (List (Int × Int))) : Prop := ∀ L ∈ N, Ly n L ∧ Sd L
abbrev SN7 (f : Fl) (cs : List Int) (a : Int) (n : Nat) (o2 o3 o4 o5 : Option Vl) : Sta := ⟨[some (stS f cs a), some (.int n), o2, o3, o4, o5, none], [], [0]⟩
theorem slH_noV (N : List (List (Int × Int))) : ∃ M, (∀ L ∈ M, L ∈ N) ∧ M.length ≤ N.length ∧ gSlH [.nd .own .lst (noV N), .int 2] = some (.nd .own .lst (noV M)) := by
  refine ⟨N.take (HT.sIx (noV N).length (noV N).length (some 2)), fun L hL => List.mem_of_mem_take hL, by rw [List.length_take]; omega, ?_⟩
  have e : cutL (noV N) none (some 2) = noV (N.take (HT.sIx (noV N).length (noV N).length (some 2))) := by
    unfold cutL
    show ((noV N).drop 0).take (HT.sIx (noV N).length (noV N).length (some 2) - 0) = _
    rw [List.drop_zero, Nat.sub_zero]
    generalize HT.sIx (noV N).length (noV N).length (some 2) = k
    unfold noV
    rw [List.map_take]
  show some (mkL (cutL (noV N) none (some 2))) = _
  rw [e, mk_noV]
theorem Ly.erase {n : Nat} {L : List (Int × Int)} (h : Ly n L ∧ Sd L) (k : Nat) : Ly n (L.eraseIdx k) ∧ Sd (L.eraseIdx k) := by
  have sb := List.eraseIdx_sublist L k
  refine ⟨⟨fun p hp => h.1.b p (sb.mem hp), h.1.d.sublist sb, Nat.le_trans sb.length_le h.1.l⟩, ?_⟩
  unfold Sd SrtT
  exact h.2.sublist (sb.map _)
theorem foL_erase (L : List (Int × Int)) (k : Nat) : (foL L).eraseIdx k = foL (L.eraseIdx k) := by
  unfold foL
  induction L generalizing k with
  | nil => simp
  | cons x r ih =>
    cases k with
    | zero => rfl
    | succ k => show pV x :: (r.map pV).eraseIdx k = _; rw [ih]; rfl
section
variable (cs : List Int) (hc : cs.length ≤ 70) (hc1 : 1 ≤ cs.length)
include hc hc1
theorem draw_ok (f : Fl) (hf : OF f) (a : Int) (h0 : 0 ≤ a) (h1 : a ≤ 900000) (n : Nat) (o2 o3 o4 o5 : Option Vl) : ∃ m : Int, 0 ≤ m ∧ callIOE 0 1 F__law_next [] (SN7 f cs a n o2 o3 o4 o5) = .ok (.int m, SN7 .sh cs (a + 1) n o2 o3 o4 o5, true) := by
  obtain ⟨m, hm, hp⟩ := next_ok f hf cs hc hc1 a h0 (by omega)
  refine ⟨m, hm, ?_⟩
  have hh : handsIO [] = [] := rfl
  simp only [SN7, stS] at hp ⊢
  rcases hf with rfl | rfl <;> simp (disch := omega) only [callIOE, runF, seqC, bindC, asgC, tgN, tgT, tgsC, tgsN, opE, evs, varE, takE, frzE, cstE, retC, retNC, expC, ifC, passC, rsC, brkC, cntC, callE, srcE, andE, orE, ifE, seqE, notE, chainE, nt_non, nt_bl, nt_int, nt_str, nt_tup, nt_nil, nt_cons, so_non, so_bl, so_int, so_str, so_tup, so_nil, so_cons, no_non, no_bl, no_int, no_str, no_tup, no_nil, no_cons, nr_non, nr_bl, nr_int, nr_str, nr_tup, nr_nil, nr_cons, ao_non, ao_bl, ao_int, ao_str, ao_tup, ao_nil, ao_cons, pk_non, pk_bl, pk_int, pk_str, pk_tup, pk_nil, pk_cons, sf_non, sf_bl, sf_int, sf_str, sf_tup, sf_nil, sf_cons, ints_so, ints_nt, ints_no, ints_nr, ints_ao, ints_pk, ints_sf, ints_snoc, pk_nd, sf_nd, nt_nd, so_nd, no_nd, nr_nd, ao_nd, so_app, gLen_nd, gIx_nd, gLst_0, gLR1_ok, gLR2_ok, isi_lst, hSeq_nd, fp1, fp2, fp3, fb1, fb2, fb3, fb4, fb5, fb6, fb7, fb8, fb9, fb10, fb11, fb12, fb13, fb14, sf_enc, pk_own, pk_sh, pk_tr, nr_enc, ao_enc, so_own, so_sh, nt_own, nt_sh, no_sh, no_tr, no_own, nt_tr, gLen_enc, gIx_0, gIx_1, gLst_nil, hSeq_sh, hRng1_ok, hRng2_ok, gSub_ok, gAdd_ok, gNeg_ok, gMod_ok, gDiv_ok, gShl_ok, gShr_ok, gMul_r, gMul_l, gLt_ok, gLe_ok, gGt_ok, gGe_ok, gNot_ok, gTup_2, gTup_3, gMax2_ok, gMin2_ok, isi_int_int, isi_int_bool, isi_tup, isi_int_list, isi_list, gEq_int, gNe_int, List.getElem?_cons_zero, List.getElem?_cons_succ, List.set_cons_zero, List.set_cons_succ, List.length_cons, List.length_nil, List.map_cons, List.map_nil, List.cons_append, List.nil_append, List.replicate_zero, List.replicate_succ, decide_true, decide_false, Bool.and_true, Bool.true_and, Bool.and_false, Bool.false_and, Bool.or_true, Bool.true_or, Bool.or_false, Bool.false_or, Bool.not_true, Bool.not_false, if_true, if_false, ite_true, ite_false, reduceIte, List.contains_nil, List.contains_cons, Nat.reduceBEq, List.any_cons, List.any_nil, List.append_nil, Bool.false_eq_true, reduceCtorEq, Nat.reduceAdd, Nat.reduceLT, Nat.reduceLeDiff, Nat.zero_add, Int.reduceSub, Int.reduceAdd, Int.reduceMul, Int.reduceToNat, Int.reducePow, Int.one_mul, Int.reduceNeg, Int.reduceLT, Int.reduceLE, Int.zero_add, Int.add_zero, Int.reduceEq, Int.reduceMod, Int.reduceDiv, Int.reduceOfNat, Int.cast_ofNat_Int, hh, hp, Bool.and_self]
theorem net_s1 (f : Fl) (hf : OF f) (a : Int) (h0 : 0 ≤ a) (h1 : a ≤ 500000) (n : Nat) (n1 : 1 ≤ n) (n2 : n ≤ 8) (w : Int) : ∃ (N : List (List (Int × Int))) (f' : Fl) (a' : Int), OF f' ∧ a ≤ a' ∧ a' ≤ a + 400 ∧ N.length ≤ 8 ∧ Gd n N ∧ asgC (tgN 3) (compE [6] (tgN 6) (srcE hRng1 [opE gMod [callIOE 0 1 F__law_next [], cstE (.int 8)]]) (cstE (.bl true)) (callIOE 0 2 F__law_layer [frzE 1])) (SN7 f cs a n (some (.int w)) none none none) = .nx (SN7 f' cs a' n (some (.int w)) (some (.nd .own .lst (noV N))) none none) := by
  obtain ⟨m, hm, hd⟩ := draw_ok cs hc hc1 f hf a h0 (by omega) n (some (.int w)) none none none
  obtain ⟨k, k0, k1, gm⟩ := mod_ok m 8 (by omega)
  have hh : ∀ i : Int, handsIO [.int i] = [.int i] := fun _ => rfl
  have hs : srcE hRng1 [opE gMod [callIOE 0 1 F__law_next [], cstE (.int 8)]] (SN7 f cs a n (some (.int w)) none none none) = .ok ((rng k.toNat).map Vl.int, false, SN7 .sh cs (a + 1) n (some (.int w)) none none none, true) := by
    rw [← intsV_rng]
    generalize callIOE 0 1 F__law_next [] = ce at hd
    simp (disch := omega) only [runF, seqC, bindC, asgC, tgN, tgT, tgsC, tgsN, opE, evs, varE, takE, frzE, cstE, retC, retNC, expC, ifC, passC, rsC, brkC, cntC, callE, srcE, andE, orE, ifE, seqE, notE, chainE, nt_non, nt_bl, nt_int, nt_str, nt_tup, nt_nil, nt_cons, so_non, so_bl, so_int, so_str, so_tup, so_nil, so_cons, no_non, no_bl, no_int, no_str, no_tup, no_nil, no_cons, nr_non, nr_bl, nr_int, nr_str, nr_tup, nr_nil, nr_cons, ao_non, ao_bl, ao_int, ao_str, ao_tup, ao_nil, ao_cons, pk_non, pk_bl, pk_int, pk_str, pk_tup, pk_nil, pk_cons, sf_non, sf_bl, sf_int, sf_str, sf_tup, sf_nil, sf_cons, ints_so, ints_nt, ints_no, ints_nr, ints_ao, ints_pk, ints_sf, ints_snoc, pk_nd, sf_nd, nt_nd, so_nd, no_nd, nr_nd, ao_nd, so_app, gLen_nd, gIx_nd, gLst_0, gLR1_ok, gLR2_ok, isi_lst, hSeq_nd, fp1, fp2, fp3, fb1, fb2, fb3, fb4, fb5, fb6, fb7, fb8, fb9, fb10, fb11, fb12, fb13, fb14, sf_enc, pk_own, pk_sh, pk_tr, nr_enc, ao_enc, so_own, so_sh, nt_own, nt_sh, no_sh, no_tr, no_own, nt_tr, gLen_enc, gIx_0, gIx_1, gLst_nil, hSeq_sh, hRng1_ok, hRng2_ok, gSub_ok, gAdd_ok, gNeg_ok, gMod_ok, gDiv_ok, gShl_ok, gShr_ok, gMul_r, gMul_l, gLt_ok, gLe_ok, gGt_ok, gGe_ok, gNot_ok, gTup_2, gTup_3, gMax2_ok, gMin2_ok, isi_int_int, isi_int_bool, isi_tup, isi_int_list, isi_list, gEq_int, gNe_int, List.getElem?_cons_zero, List.getElem?_cons_succ, List.set_cons_zero, List.set_cons_succ, List.length_cons, List.length_nil, List.map_cons, List.map_nil, List.cons_append, List.nil_append, List.replicate_zero, List.replicate_succ, decide_true, decide_false, Bool.and_true, Bool.true_and, Bool.and_false, Bool.false_and, Bool.or_true, Bool.true_or, Bool.or_false, Bool.false_or, Bool.not_true, Bool.not_false, if_true, if_false, ite_true, ite_false, reduceIte, List.contains_nil, List.contains_cons, Nat.reduceBEq, List.any_cons, List.any_nil, List.append_nil, Bool.false_eq_true, reduceCtorEq, Nat.reduceAdd, Nat.reduceLT, Nat.reduceLeDiff, Nat.zero_add, Int.reduceSub, Int.reduceAdd, Int.reduceMul, Int.reduceToNat, Int.reducePow, Int.one_mul, Int.reduceNeg, Int.reduceLT, Int.reduceLE, Int.zero_add, Int.add_zero, Int.reduceEq, Int.reduceMod, Int.reduceDiv, Int.reduceOfNat, Int.cast_ofNat_Int, hd, gm]
  obtain ⟨ws, st', e, q1, q2, ⟨f', a', g1, b1, b2, rfl⟩, q4⟩ := compE_io (vs := [6]) (g := tgN 6) (elt := callIOE 0 2 F__law_layer [frzE 1]) (ev := Vl.int) (fun L : List (Int × Int) => Vl.nd .own .lst (foL L)) (fun i st => ∃ (f : Fl) (a' : Int), OF f ∧ a + 1 ≤ a' ∧ a' ≤ a + 1 + 40 * i ∧ st = SN7 f cs a' n (some (.int w)) none none none) (fun _ L => Ly n L ∧ Sd L) (rng k.toNat) hs rfl ⟨.sh, a + 1, .inr rfl, by omega, by omega, rfl⟩ (fun i x st hi hx ⟨f, a', g1, b1, b2, hst⟩ => by
      subst hst
      rw [rng_len] at hi
      obtain ⟨L, f2, a2, g2, c1, c2, hL, hS, hy⟩ := layer_ok cs hc hc1 f g1 a' (by omega) (by omega) n n1 n2
      refine ⟨⟨[some (stS f cs a'), some (.int n), some (.int w), none, none, none, some (.int x)], [], [0]⟩, L, ⟨[some (stS f2 cs a2), some (.int n), some (.int w), none, none, none, some (.int x)], [], [0]⟩, true, rfl, ?_, by rw [nt_nd, foL_nt]; rfl, ⟨hL, hS⟩, f2, a2, g2, by omega, by omega, rfl⟩
      simp only [stS] at hy ⊢
      rcases g1 with rfl | rfl <;> simp (disch := omega) only [callIOE, runF, seqC, bindC, asgC, tgN, tgT, tgsC, tgsN, opE, evs, varE, takE, frzE, cstE, retC, retNC, expC, ifC, passC, rsC, brkC, cntC, callE, srcE, andE, orE, ifE, seqE, notE, chainE, nt_non, nt_bl, nt_int, nt_str, nt_tup, nt_nil, nt_cons, so_non, so_bl, so_int, so_str, so_tup, so_nil, so_cons, no_non, no_bl, no_int, no_str, no_tup, no_nil, no_cons, nr_non, nr_bl, nr_int, nr_str, nr_tup, nr_nil, nr_cons, ao_non, ao_bl, ao_int, ao_str, ao_tup, ao_nil, ao_cons, pk_non, pk_bl, pk_int, pk_str, pk_tup, pk_nil, pk_cons, sf_non, sf_bl, sf_int, sf_str, sf_tup, sf_nil, sf_cons, ints_so, ints_nt, ints_no, ints_nr, ints_ao, ints_pk, ints_sf, ints_snoc, pk_nd, sf_nd, nt_nd, so_nd, no_nd, nr_nd, ao_nd, so_app, gLen_nd, gIx_nd, gLst_0, gLR1_ok, gLR2_ok, isi_lst, hSeq_nd, fp1, fp2, fp3, fb1, fb2, fb3, fb4, fb5, fb6, fb7, fb8, fb9, fb10, fb11, fb12, fb13, fb14, sf_enc, pk_own, pk_sh, pk_tr, nr_enc, ao_enc, so_own, so_sh, nt_own, nt_sh, no_sh, no_tr, no_own, nt_tr, gLen_enc, gIx_0, gIx_1, gLst_nil, hSeq_sh, hRng1_ok, hRng2_ok, gSub_ok, gAdd_ok, gNeg_ok, gMod_ok, gDiv_ok, gShl_ok, gShr_ok, gMul_r, gMul_l, gLt_ok, gLe_ok, gGt_ok, gGe_ok, gNot_ok, gTup_2, gTup_3, gMax2_ok, gMin2_ok, isi_int_int, isi_int_bool, isi_tup, isi_int_list, isi_list, gEq_int, gNe_int, List.getElem?_cons_zero, List.getElem?_cons_succ, List.set_cons_zero, List.set_cons_succ, List.length_cons, List.length_nil, List.map_cons, List.map_nil, List.cons_append, List.nil_append, List.replicate_zero, List.replicate_succ, decide_true, decide_false, Bool.and_true, Bool.true_and, Bool.and_false, Bool.false_and, Bool.or_true, Bool.true_or, Bool.or_false, Bool.false_or, Bool.not_true, Bool.not_false, if_true, if_false, ite_true, ite_false, reduceIte, List.contains_nil, List.contains_cons, Nat.reduceBEq, List.any_cons, List.any_nil, List.append_nil, Bool.false_eq_true, reduceCtorEq, Nat.reduceAdd, Nat.reduceLT, Nat.reduceLeDiff, Nat.zero_add, Int.reduceSub, Int.reduceAdd, Int.reduceMul, Int.reduceToNat, Int.reducePow, Int.one_mul, Int.reduceNeg, Int.reduceLT, Int.reduceLE, Int.zero_add, Int.add_zero, Int.reduceEq, Int.reduceMod, Int.reduceDiv, Int.reduceOfNat, Int.cast_ofNat_Int, hh, hy, Bool.and_self]) (by rw [PySem.sizeLine_eq, rng_len]; omega)
  rw [rng_len] at b2
  have lw : ws.length = k.toNat := by rw [← rng_len k.toNat, ← q1, List.length_map]
  refine ⟨ws.map (·.2), f', a', g1, by omega, by omega, by rw [List.length_map]; omega, fun L hL => ?_, ?_⟩
  · obtain ⟨w, hw, rfl⟩ := List.mem_map.mp hL
    exact q4 w hw
  have em : (ws.map fun w => Vl.nd .own .lst (foL w.2)) = noV (ws.map (·.2)) := by unfold noV; rw [List.map_map]; rfl
  rw [em, mk_noV] at q2
  have hbk : backS [6] (SN7 .sh cs (a + 1) n (some (.int w)) none none none) (SN7 f' cs a' n (some (.int w)) none none none) = SN7 f' cs a' n (some (.int w)) none none none := rfl
  rw [hbk] at q2
  have nt := noV_nt (ws.map (·.2))
  generalize noV (ws.map (·.2)) = wv at *
  generalize compE [6] (tgN 6) (srcE hRng1 [opE gMod [callIOE 0 1 F__law_next [], cstE (.int 8)]]) (cstE (.bl true)) (callIOE 0 2 F__law_layer [frzE 1]) = ce at *
  simp only [SN7] at q2
  simp (disch := omega) only [runF, seqC, bindC, asgC, tgN, tgT, tgsC, tgsN, opE, evs, varE, takE, frzE, cstE, retC, retNC, expC, ifC, passC, rsC, brkC, cntC, callE, srcE, andE, orE, ifE, seqE, notE, chainE, nt_non, nt_bl, nt_int, nt_str, nt_tup, nt_nil, nt_cons, so_non, so_bl, so_int, so_str, so_tup, so_nil, so_cons, no_non, no_bl, no_int, no_str, no_tup, no_nil, no_cons, nr_non, nr_bl, nr_int, nr_str, nr_tup, nr_nil, nr_cons, ao_non, ao_bl, ao_int, ao_str, ao_tup, ao_nil, ao_cons, pk_non, pk_bl, pk_int, pk_str, pk_tup, pk_nil, pk_cons, sf_non, sf_bl, sf_int, sf_str, sf_tup, sf_nil, sf_cons, ints_so, ints_nt, ints_no, ints_nr, ints_ao, ints_pk, ints_sf, ints_snoc, pk_nd, sf_nd, nt_nd, so_nd, no_nd, nr_nd, ao_nd, so_app, gLen_nd, gIx_nd, gLst_0, gLR1_ok, gLR2_ok, isi_lst, hSeq_nd, fp1, fp2, fp3, fb1, fb2, fb3, fb4, fb5, fb6, fb7, fb8, fb9, fb10, fb11, fb12, fb13, fb14, sf_enc, pk_own, pk_sh, pk_tr, nr_enc, ao_enc, so_own, so_sh, nt_own, nt_sh, no_sh, no_tr, no_own, nt_tr, gLen_enc, gIx_0, gIx_1, gLst_nil, hSeq_sh, hRng1_ok, hRng2_ok, gSub_ok, gAdd_ok, gNeg_ok, gMod_ok, gDiv_ok, gShl_ok, gShr_ok, gMul_r, gMul_l, gLt_ok, gLe_ok, gGt_ok, gGe_ok, gNot_ok, gTup_2, gTup_3, gMax2_ok, gMin2_ok, isi_int_int, isi_int_bool, isi_tup, isi_int_list, isi_list, gEq_int, gNe_int, List.getElem?_cons_zero, List.getElem?_cons_succ, List.set_cons_zero, List.set_cons_succ, List.length_cons, List.length_nil, List.map_cons, List.map_nil, List.cons_append, List.nil_append, List.replicate_zero, List.replicate_succ, decide_true, decide_false, Bool.and_true, Bool.true_and, Bool.and_false, Bool.false_and, Bool.or_true, Bool.true_or, Bool.or_false, Bool.false_or, Bool.not_true, Bool.not_false, if_true, if_false, ite_true, ite_false, reduceIte, List.contains_nil, List.contains_cons, Nat.reduceBEq, List.any_cons, List.any_nil, List.append_nil, Bool.false_eq_true, reduceCtorEq, Nat.reduceAdd, Nat.reduceLT, Nat.reduceLeDiff, Nat.zero_add, q2, nt]
theorem net_s3 (f : Fl) (a : Int) (n : Nat) (n2 : n ≤ 8) (w : Int) (N : List (List (Int × Int))) (hN : N.length ≤ 8) (hG : Gd n N) : ∃ M, Gd n M ∧ M.length ≤ 16 ∧ n ≤ M.length ∧ asgC (tgN 4) (opE gAdd [opE gSlH [takE 3, cstE (.int 2)], callE 1 F__law_neighbours [varE 1] []]) (SN7 f cs a n (some (.int w)) (some (.nd .own .lst (noV N))) none none) = .nx (SN7 f cs a n (some (.int w)) none (some (.nd .own .lst (noV M))) none) := by
  obtain ⟨M1, m1, m2, m3⟩ := slH_noV N
  have hnb := neigh_ok (n := n) (by omega)
  refine ⟨M1 ++ nbN n, fun L hL => ?_, by rw [List.length_append, nbN_len]; omega, by rw [List.length_append, nbN_len]; omega, ?_⟩
  · rcases List.mem_append.mp hL with h | h
    · exact hG L (m1 L h)
    · exact nbN_ok (by omega) L h
  have ga : gAdd [.nd .own .lst (noV M1), .nd .own .lst (noV (nbN n))] = some (.nd .own .lst (noV (M1 ++ nbN n))) := by
    show (if (noV M1).length + (noV (nbN n)).length ≤ PySem.sizeLine then some (mkL (noV M1 ++ noV (nbN n))) else none) = _
    rw [if_pos (by rw [PySem.sizeLine_eq, noV_len, noV_len, nbN_len]; omega)]
    have : noV M1 ++ noV (nbN n) = noV (M1 ++ nbN n) := by unfold noV; rw [List.map_append]
    rw [this, mk_noV]
  have ao := noV_ao (nbN n)
  have nt := noV_nt (M1 ++ nbN n)
  have nt1 := noV_nt N
  have nt2 := noV_nt M1
  have nt3 := noV_nt (nbN n)
  generalize noV (M1 ++ nbN n) = v3 at *
  generalize noV (nbN n) = v2 at *
  generalize noV M1 = v1 at *
  generalize noV N = v0 at *
  simp (disch := omega) only [runF, seqC, bindC, asgC, tgN, tgT, tgsC, tgsN, opE, evs, varE, takE, frzE, cstE, retC, retNC, expC, ifC, passC, rsC, brkC, cntC, callE, srcE, andE, orE, ifE, seqE, notE, chainE, nt_non, nt_bl, nt_int, nt_str, nt_tup, nt_nil, nt_cons, so_non, so_bl, so_int, so_str, so_tup, so_nil, so_cons, no_non, no_bl, no_int, no_str, no_tup, no_nil, no_cons, nr_non, nr_bl, nr_int, nr_str, nr_tup, nr_nil, nr_cons, ao_non, ao_bl, ao_int, ao_str, ao_tup, ao_nil, ao_cons, pk_non, pk_bl, pk_int, pk_str, pk_tup, pk_nil, pk_cons, sf_non, sf_bl, sf_int, sf_str, sf_tup, sf_nil, sf_cons, ints_so, ints_nt, ints_no, ints_nr, ints_ao, ints_pk, ints_sf, ints_snoc, pk_nd, sf_nd, nt_nd, so_nd, no_nd, nr_nd, ao_nd, so_app, gLen_nd, gIx_nd, gLst_0, gLR1_ok, gLR2_ok, isi_lst, hSeq_nd, fp1, fp2, fp3, fb1, fb2, fb3, fb4, fb5, fb6, fb7, fb8, fb9, fb10, fb11, fb12, fb13, fb14, sf_enc, pk_own, pk_sh, pk_tr, nr_enc, ao_enc, so_own, so_sh, nt_own, nt_sh, no_sh, no_tr, no_own, nt_tr, gLen_enc, gIx_0, gIx_1, gLst_nil, hSeq_sh, hRng1_ok, hRng2_ok, gSub_ok, gAdd_ok, gNeg_ok, gMod_ok, gDiv_ok, gShl_ok, gShr_ok, gMul_r, gMul_l, gLt_ok, gLe_ok, gGt_ok, gGe_ok, gNot_ok, gTup_2, gTup_3, gMax2_ok, gMin2_ok, isi_int_int, isi_int_bool, isi_tup, isi_int_list, isi_list, gEq_int, gNe_int, List.getElem?_cons_zero, List.getElem?_cons_succ, List.set_cons_zero, List.set_cons_succ, List.length_cons, List.length_nil, List.map_cons, List.map_nil, List.cons_append, List.nil_append, List.replicate_zero, List.replicate_succ, decide_true, decide_false, Bool.and_true, Bool.true_and, Bool.and_false, Bool.false_and, Bool.or_true, Bool.true_or, Bool.or_false, Bool.false_or, Bool.not_true, Bool.not_false, if_true, if_false, ite_true, ite_false, reduceIte, List.contains_nil, List.contains_cons, Nat.reduceBEq, List.any_cons, List.any_nil, List.append_nil, Bool.false_eq_true, reduceCtorEq, Nat.reduceAdd, Nat.reduceLT, Nat.reduceLeDiff, Nat.zero_add, Int.reduceSub, Int.reduceAdd, Int.reduceMul, Int.reduceToNat, Int.reducePow, Int.one_mul, Int.reduceNeg, Int.reduceLT, Int.reduceLE, Int.zero_add, Int.add_zero, Int.reduceEq, Int.reduceMod, Int.reduceDiv, Int.reduceOfNat, Int.cast_ofNat_Int, hnb, m3, ga, ao, nt, nt1, nt2, nt3]
theorem net_s4 (f : Fl) (hf : OF f) (a : Int) (h0 : 0 ≤ a) (h1 : a ≤ 900000) (n : Nat) (w : Int) (M : List (List (Int × Int))) (hM : 1 ≤ M.length) : ∃ i : Int, 0 ≤ i ∧ i < (M.length : Nat) ∧ asgC (tgN 5) (opE gMod [callIOE 0 1 F__law_next [], opE gLen [varE 4]]) (SN7 f cs a n (some (.int w)) none (some (.nd .own .lst (noV M))) none) = .nx (SN7 .sh cs (a + 1) n (some (.int w)) none (some (.nd .own .lst (noV M))) (some (.int i))) := by
  obtain ⟨m, hm, hd⟩ := draw_ok cs hc hc1 f hf a h0 h1 n (some (.int w)) none (some (.nd .own .lst (noV M))) none
  obtain ⟨k, k0, k1, gm⟩ := mod_ok m (M.length : Nat) (by omega)
  refine ⟨k, k0, k1, ?_⟩
  have pk := noV_pk M
  have tl := trV_len M
  generalize callIOE 0 1 F__law_next [] = ce at hd
  simp only [SN7] at hd
  simp (disch := omega) only [runF, seqC, bindC, asgC, tgN, tgT, tgsC, tgsN, opE, evs, varE, takE, frzE, cstE, retC, retNC, expC, ifC, passC, rsC, brkC, cntC, callE, srcE, andE, orE, ifE, seqE, notE, chainE, nt_non, nt_bl, nt_int, nt_str, nt_tup, nt_nil, nt_cons, so_non, so_bl, so_int, so_str, so_tup, so_nil, so_cons, no_non, no_bl, no_int, no_str, no_tup, no_nil, no_cons, nr_non, nr_bl, nr_int, nr_str, nr_tup, nr_nil, nr_cons, ao_non, ao_bl, ao_int, ao_str, ao_tup, ao_nil, ao_cons, pk_non, pk_bl, pk_int, pk_str, pk_tup, pk_nil, pk_cons, sf_non, sf_bl, sf_int, sf_str, sf_tup, sf_nil, sf_cons, ints_so, ints_nt, ints_no, ints_nr, ints_ao, ints_pk, ints_sf, ints_snoc, pk_nd, sf_nd, nt_nd, so_nd, no_nd, nr_nd, ao_nd, so_app, gLen_nd, gIx_nd, gLst_0, gLR1_ok, gLR2_ok, isi_lst, hSeq_nd, fp1, fp2, fp3, fb1, fb2, fb3, fb4, fb5, fb6, fb7, fb8, fb9, fb10, fb11, fb12, fb13, fb14, sf_enc, pk_own, pk_sh, pk_tr, nr_enc, ao_enc, so_own, so_sh, nt_own, nt_sh, no_sh, no_tr, no_own, nt_tr, gLen_enc, gIx_0, gIx_1, gLst_nil, hSeq_sh, hRng1_ok, hRng2_ok, gSub_ok, gAdd_ok, gNeg_ok, gMod_ok, gDiv_ok, gShl_ok, gShr_ok, gMul_r, gMul_l, gLt_ok, gLe_ok, gGt_ok, gGe_ok, gNot_ok, gTup_2, gTup_3, gMax2_ok, gMin2_ok, isi_int_int, isi_int_bool, isi_tup, isi_int_list, isi_list, gEq_int, gNe_int, List.getElem?_cons_zero, List.getElem?_cons_succ, List.set_cons_zero, List.set_cons_succ, List.length_cons, List.length_nil, List.map_cons, List.map_nil, List.cons_append, List.nil_append, List.replicate_zero, List.replicate_succ, decide_true, decide_false, Bool.and_true, Bool.true_and, Bool.and_false, Bool.false_and, Bool.or_true, Bool.true_or, Bool.or_false, Bool.false_or, Bool.not_true, Bool.not_false, if_true, if_false, ite_true, ite_false, reduceIte, List.contains_nil, List.contains_cons, Nat.reduceBEq, List.any_cons, List.any_nil, List.append_nil, Bool.false_eq_true, reduceCtorEq, Nat.reduceAdd, Nat.reduceLT, Nat.reduceLeDiff, Nat.zero_add, Int.reduceSub, Int.reduceAdd, Int.reduceMul, Int.reduceToNat, Int.reducePow, Int.one_mul, Int.reduceNeg, Int.reduceLT, Int.reduceLE, Int.zero_add, Int.add_zero, Int.reduceEq, Int.reduceMod, Int.reduceDiv, Int.reduceOfNat, Int.cast_ofNat_Int, hd, pk, gLen_nd, tl, gm]
theorem net_s5 (a : Int) (h0 : 0 ≤ a) (h1 : a ≤ 900000) (n : Nat) (w : Int) (M : List (List (Int × Int))) (hG : Gd n M) (i : Int) (i0 : 0 ≤ i) (i1 : i < (M.length : Nat)) : ∃ (M' : List (List (Int × Int))) (a' : Int), Gd n M' ∧ M'.length = M.length ∧ a ≤ a' ∧ a' ≤ a + 1 ∧ ifC (andE (opE gGt [varE 2, cstE (.int 0)]) (opE gNe [opE gIx [varE 4, varE 5], opE gLst []])) (expC (mutPXE (plI (plN 4) (varE 5)) isL (opE gMod [callIOE 0 1 F__law_next [], opE gLen [opE gIx [varE 4, varE 5]]]) muPopAt)) passC (SN7 .sh cs a n (some (.int w)) none (some (.nd .own .lst (noV M))) (some (.int i))) = .nx (SN7 .sh cs a' n (some (.int w)) none (some (.nd .own .lst (noV M'))) (some (.int i))) := by
  have hi : i.toNat < M.length := by omega
  have pk := noV_pk M
  have ht : L2.atI (trV M) i = some (.nd .tr .lst (foL M[i.toNat])) := atI_pos i0 (by unfold trV; rw [List.getElem?_map, List.getElem?_eq_getElem hi]; rfl)
  have gn : gNe [.nd .tr .lst (foL M[i.toNat]), .nd .own .lst []] = some (.bl (!decide (M[i.toNat] = []))) := gNe_enc (f := .tr) (g := .own) M[i.toNat] []
  have hL := hG _ (List.getElem_mem hi)
  by_cases q : 0 < w ∧ M[i.toNat] ≠ []
  · have ll : 1 ≤ M[i.toNat].length := by
      cases h : M[i.toNat] with
      | nil => exact absurd h q.2
      | cons x r => simp
    obtain ⟨m, hm, hd⟩ := draw_ok cs hc hc1 .sh (.inr rfl) a h0 h1 n (some (.int w)) none (some (.nd .bw .lst (bwV M))) (some (.int i))
    obtain ⟨k, k0, k1, gm⟩ := mod_ok m (M[i.toNat].length : Nat) (by omega)
    refine ⟨M.set i.toNat (M[i.toNat].eraseIdx k.toNat), a + 1, fun L hL2 => ?_, by rw [List.length_set], by omega, by omega, ?_⟩
    · rcases List.mem_or_eq_of_mem_set hL2 with e | e
      · exact hG L e
      · rw [e]; exact Ly.erase hL _
    have dd : decide (0 < w) = true := decide_eq_true q.1
    have dn : decide (M[i.toNat] = []) = false := decide_eq_false q.2
    rw [dn] at gn
    have hn : (noV M)[i.toNat]? = some (.nd .own .lst (foL M[i.toNat])) := by unfold noV; rw [List.getElem?_map, List.getElem?_eq_getElem hi]; rfl
    have hb : L2.atI (bwV M) i = some (.nd .bw .lst (foL M[i.toNat])) := atI_pos i0 (by unfold bwV; rw [List.getElem?_map, List.getElem?_eq_getElem hi]; rfl)
    have xi : L2.ixN (noV M).length i = some i.toNat := ixN_pos i0 (by rw [noV_len]; exact i1)
    have xk : L2.ixN (foL M[i.toNat]).length k = some k.toNat := ixN_pos k0 (by rw [foL_len]; exact k1)
    have xk' : L2.ixN M[i.toNat].length k = some k.toNat := ixN_pos k0 k1
    have hk : k.toNat < M[i.toNat].length := by omega
    have gk : (foL M[i.toNat])[k.toNat]? = some (pV M[i.toNat][k.toNat]) := by unfold foL; rw [List.getElem?_map, List.getElem?_eq_getElem hk]; rfl
    have ib : inB 9223372036854775807 k = true := inB_ok (by have := hL.1.l; omega)
    have fe := foL_erase M[i.toNat] k.toNat
    have so := foL_so (M[i.toNat].eraseIdx k.toNat)
    have st2 : (noV M).set i.toNat (.nd .own .lst (foL (M[i.toNat].eraseIdx k.toNat))) = noV (M.set i.toNat (M[i.toNat].eraseIdx k.toNat)) := by unfold noV; rw [List.map_set]
    have nb := noV_bw M
    have bp := bwV_pk M
    have fl := foL_len M[i.toNat]
    have fp := foL_pk M[i.toNat]
    have nr := noV_nr M
    have ntp : noTr (pV M[i.toNat][k.toNat]) = true := rfl
    generalize pV M[i.toNat][k.toNat] = pv at *
    generalize M.set i.toNat (M[i.toNat].eraseIdx k.toNat) = M2 at *
    generalize M[i.toNat].eraseIdx k.toNat = L2x at *
    generalize hlen : M[i.toNat].length = ll2 at *
    generalize foL M[i.toNat] = fo at *
    generalize noV M = nv at *
    generalize bwV M = bv at *
    generalize trV M = tv at *
    have fin : mutPXE (plI (plN 4) (varE 5)) isL (opE gMod [callIOE 0 1 F__law_next [], opE gLen [opE gIx [varE 4, varE 5]]]) muPopAt (SN7 .sh cs a n (some (.int w)) none (some (.nd .own .lst nv)) (some (.int i))) = .ok (pv, SN7 .sh cs (a + 1) n (some (.int w)) none (some (.nd .own .lst (noV M2))) (some (.int i)), true) := by
      generalize callIOE 0 1 F__law_next [] = ce at hd
      simp only [SN7, stS] at hd ⊢
      simp (disch := omega) only [mutPXE, plI, plN, getP, putP, allSt, List.all_cons, List.all_nil, runF, seqC, bindC, asgC, tgN, tgT, tgsC, tgsN, opE, evs, takE, frzE, cstE, retC, retNC, expC, ifC, passC, rsC, brkC, cntC, callE, srcE, andE, orE, ifE, seqE, notE, chainE, nt_non, nt_bl, nt_int, nt_str, nt_tup, nt_nil, nt_cons, so_non, so_bl, so_int, so_str, so_tup, so_nil, so_cons, no_non, no_bl, no_int, no_str, no_tup, no_nil, no_cons, nr_non, nr_bl, nr_int, nr_str, nr_tup, nr_nil, nr_cons, ao_non, ao_bl, ao_int, ao_str, ao_tup, ao_nil, ao_cons, pk_non, pk_bl, pk_int, pk_str, pk_tup, pk_nil, pk_cons, sf_non, sf_bl, sf_int, sf_str, sf_tup, sf_nil, sf_cons, ints_so, ints_nt, ints_no, ints_nr, ints_ao, ints_pk, ints_sf, ints_snoc, pk_nd, sf_nd, nt_nd, so_nd, no_nd, nr_nd, ao_nd, so_app, gLen_nd, gIx_nd, gLst_0, gLR1_ok, gLR2_ok, isi_lst, hSeq_nd, fp1, fp2, fp3, fb1, fb2, fb3, fb4, fb5, fb6, fb7, fb8, fb9, fb10, fb11, fb12, fb13, fb14, sf_enc, pk_own, pk_sh, pk_tr, nr_enc, ao_enc, so_own, so_sh, nt_own, nt_sh, no_sh, no_tr, no_own, nt_tr, gLen_enc, gIx_0, gIx_1, gLst_nil, hSeq_sh, hRng1_ok, hRng2_ok, gSub_ok, gAdd_ok, gNeg_ok, gMod_ok, gDiv_ok, gShl_ok, gShr_ok, gMul_r, gMul_l, gLt_ok, gLe_ok, gGt_ok, gGe_ok, gNot_ok, gTup_2, gTup_3, gMax2_ok, gMin2_ok, isi_int_int, isi_int_bool, isi_tup, isi_int_list, isi_list, gEq_int, gNe_int, List.getElem?_cons_zero, List.getElem?_cons_succ, List.set_cons_zero, List.set_cons_succ, List.length_cons, List.length_nil, List.map_cons, List.map_nil, List.cons_append, List.nil_append, List.replicate_zero, List.replicate_succ, decide_true, decide_false, Bool.and_true, Bool.true_and, Bool.and_false, Bool.false_and, Bool.or_true, Bool.true_or, Bool.or_false, Bool.false_or, Bool.not_true, Bool.not_false, if_true, if_false, ite_true, ite_false, reduceIte, List.contains_nil, List.contains_cons, Nat.reduceBEq, List.any_cons, List.any_nil, List.append_nil, Bool.false_eq_true, reduceCtorEq, Nat.reduceAdd, Nat.reduceLT, Nat.reduceLeDiff, Nat.zero_add, Nat.reduceSub, List.length_map, Int.reduceSub, Int.reduceAdd, Int.reduceMul, Int.reduceToNat, Int.reducePow, Int.one_mul, Int.reduceNeg, Int.reduceLT, Int.reduceLE, Int.zero_add, Int.add_zero, Int.reduceEq, Int.reduceMod, Int.reduceDiv, Int.reduceOfNat, Int.cast_ofNat_Int, varE, hn, hb, xi, xk, xk', gk, ib, fe, so, st2, nb, bp, fl, fp, nr, hd, gm, gLen_nd, fw1, isL, muPopAt, Option.bind_some, Option.map_some, ntp, Bool.and_self]
    generalize mutPXE (plI (plN 4) (varE 5)) isL (opE gMod [callIOE 0 1 F__law_next [], opE gLen [opE gIx [varE 4, varE 5]]]) muPopAt = me at *
    simp only [SN7] at fin
    simp (disch := omega) only [runF, seqC, bindC, asgC, tgN, tgT, tgsC, tgsN, opE, evs, varE, takE, frzE, cstE, retC, retNC, expC, ifC, passC, rsC, brkC, cntC, callE, srcE, andE, orE, ifE, seqE, notE, chainE, nt_non, nt_bl, nt_int, nt_str, nt_tup, nt_nil, nt_cons, so_non, so_bl, so_int, so_str, so_tup, so_nil, so_cons, no_non, no_bl, no_int, no_str, no_tup, no_nil, no_cons, nr_non, nr_bl, nr_int, nr_str, nr_tup, nr_nil, nr_cons, ao_non, ao_bl, ao_int, ao_str, ao_tup, ao_nil, ao_cons, pk_non, pk_bl, pk_int, pk_str, pk_tup, pk_nil, pk_cons, sf_non, sf_bl, sf_int, sf_str, sf_tup, sf_nil, sf_cons, ints_so, ints_nt, ints_no, ints_nr, ints_ao, ints_pk, ints_sf, ints_snoc, pk_nd, sf_nd, nt_nd, so_nd, no_nd, nr_nd, ao_nd, so_app, gLen_nd, gIx_nd, gLst_0, gLR1_ok, gLR2_ok, isi_lst, hSeq_nd, fp1, fp2, fp3, fb1, fb2, fb3, fb4, fb5, fb6, fb7, fb8, fb9, fb10, fb11, fb12, fb13, fb14, sf_enc, pk_own, pk_sh, pk_tr, nr_enc, ao_enc, so_own, so_sh, nt_own, nt_sh, no_sh, no_tr, no_own, nt_tr, gLen_enc, gIx_0, gIx_1, gLst_nil, hSeq_sh, hRng1_ok, hRng2_ok, gSub_ok, gAdd_ok, gNeg_ok, gMod_ok, gDiv_ok, gShl_ok, gShr_ok, gMul_r, gMul_l, gLt_ok, gLe_ok, gGt_ok, gGe_ok, gNot_ok, gTup_2, gTup_3, gMax2_ok, gMin2_ok, isi_int_int, isi_int_bool, isi_tup, isi_int_list, isi_list, gEq_int, gNe_int, List.getElem?_cons_zero, List.getElem?_cons_succ, List.set_cons_zero, List.set_cons_succ, List.length_cons, List.length_nil, List.map_cons, List.map_nil, List.cons_append, List.nil_append, List.replicate_zero, List.replicate_succ, decide_true, decide_false, Bool.and_true, Bool.true_and, Bool.and_false, Bool.false_and, Bool.or_true, Bool.true_or, Bool.or_false, Bool.false_or, Bool.not_true, Bool.not_false, if_true, if_false, ite_true, ite_false, reduceIte, List.contains_nil, List.contains_cons, Nat.reduceBEq, List.any_cons, List.any_nil, List.append_nil, Bool.false_eq_true, reduceCtorEq, Nat.reduceAdd, Nat.reduceLT, Nat.reduceLeDiff, Nat.zero_add, Int.reduceSub, Int.reduceAdd, Int.reduceMul, Int.reduceToNat, Int.reducePow, Int.one_mul, Int.reduceNeg, Int.reduceLT, Int.reduceLE, Int.zero_add, Int.add_zero, Int.reduceEq, Int.reduceMod, Int.reduceDiv, Int.reduceOfNat, Int.cast_ofNat_Int, gGt_ok, dd, pk, ht, gn, fin]
  · refine ⟨M, a, hG, rfl, by omega, by omega, ?_⟩
    by_cases w0 : 0 < w
    · have dd : decide (0 < w) = true := decide_eq_true w0
      have dn : decide (M[i.toNat] = []) = true := decide_eq_true (by
        by_cases h : M[i.toNat] = []
        · exact h
        · exact absurd ⟨w0, h⟩ q)
      rw [dn] at gn
      simp (disch := omega) only [runF, seqC, bindC, asgC, tgN, tgT, tgsC, tgsN, opE, evs, varE, takE, frzE, cstE, retC, retNC, expC, ifC, passC, rsC, brkC, cntC, callE, srcE, andE, orE, ifE, seqE, notE, chainE, nt_non, nt_bl, nt_int, nt_str, nt_tup, nt_nil, nt_cons, so_non, so_bl, so_int, so_str, so_tup, so_nil, so_cons, no_non, no_bl, no_int, no_str, no_tup, no_nil, no_cons, nr_non, nr_bl, nr_int, nr_str, nr_tup, nr_nil, nr_cons, ao_non, ao_bl, ao_int, ao_str, ao_tup, ao_nil, ao_cons, pk_non, pk_bl, pk_int, pk_str, pk_tup, pk_nil, pk_cons, sf_non, sf_bl, sf_int, sf_str, sf_tup, sf_nil, sf_cons, ints_so, ints_nt, ints_no, ints_nr, ints_ao, ints_pk, ints_sf, ints_snoc, pk_nd, sf_nd, nt_nd, so_nd, no_nd, nr_nd, ao_nd, so_app, gLen_nd, gIx_nd, gLst_0, gLR1_ok, gLR2_ok, isi_lst, hSeq_nd, fp1, fp2, fp3, fb1, fb2, fb3, fb4, fb5, fb6, fb7, fb8, fb9, fb10, fb11, fb12, fb13, fb14, sf_enc, pk_own, pk_sh, pk_tr, nr_enc, ao_enc, so_own, so_sh, nt_own, nt_sh, no_sh, no_tr, no_own, nt_tr, gLen_enc, gIx_0, gIx_1, gLst_nil, hSeq_sh, hRng1_ok, hRng2_ok, gSub_ok, gAdd_ok, gNeg_ok, gMod_ok, gDiv_ok, gShl_ok, gShr_ok, gMul_r, gMul_l, gLt_ok, gLe_ok, gGt_ok, gGe_ok, gNot_ok, gTup_2, gTup_3, gMax2_ok, gMin2_ok, isi_int_int, isi_int_bool, isi_tup, isi_int_list, isi_list, gEq_int, gNe_int, List.getElem?_cons_zero, List.getElem?_cons_succ, List.set_cons_zero, List.set_cons_succ, List.length_cons, List.length_nil, List.map_cons, List.map_nil, List.cons_append, List.nil_append, List.replicate_zero, List.replicate_succ, decide_true, decide_false, Bool.and_true, Bool.true_and, Bool.and_false, Bool.false_and, Bool.or_true, Bool.true_or, Bool.or_false, Bool.false_or, Bool.not_true, Bool.not_false, if_true, if_false, ite_true, ite_false, reduceIte, List.contains_nil, List.contains_cons, Nat.reduceBEq, List.any_cons, List.any_nil, List.append_nil, Bool.false_eq_true, reduceCtorEq, Nat.reduceAdd, Nat.reduceLT, Nat.reduceLeDiff, Nat.zero_add, Int.reduceSub, Int.reduceAdd, Int.reduceMul, Int.reduceToNat, Int.reducePow, Int.one_mul, Int.reduceNeg, Int.reduceLT, Int.reduceLE, Int.zero_add, Int.add_zero, Int.reduceEq, Int.reduceMod, Int.reduceDiv, Int.reduceOfNat, Int.cast_ofNat_Int, gGt_ok, dd, pk, ht, gn]
    · have dd : decide (0 < w) = false := decide_eq_false w0
      simp (disch := omega) only [runF, seqC, bindC, asgC, tgN, tgT, tgsC, tgsN, opE, evs, varE, takE, frzE, cstE, retC, retNC, expC, ifC, passC, rsC, brkC, cntC, callE, srcE, andE, orE, ifE, seqE, notE, chainE, nt_non, nt_bl, nt_int, nt_str, nt_tup, nt_nil, nt_cons, so_non, so_bl, so_int, so_str, so_tup, so_nil, so_cons, no_non, no_bl, no_int, no_str, no_tup, no_nil, no_cons, nr_non, nr_bl, nr_int, nr_str, nr_tup, nr_nil, nr_cons, ao_non, ao_bl, ao_int, ao_str, ao_tup, ao_nil, ao_cons, pk_non, pk_bl, pk_int, pk_str, pk_tup, pk_nil, pk_cons, sf_non, sf_bl, sf_int, sf_str, sf_tup, sf_nil, sf_cons, ints_so, ints_nt, ints_no, ints_nr, ints_ao, ints_pk, ints_sf, ints_snoc, pk_nd, sf_nd, nt_nd, so_nd, no_nd, nr_nd, ao_nd, so_app, gLen_nd, gIx_nd, gLst_0, gLR1_ok, gLR2_ok, isi_lst, hSeq_nd, fp1, fp2, fp3, fb1, fb2, fb3, fb4, fb5, fb6, fb7, fb8, fb9, fb10, fb11, fb12, fb13, fb14, sf_enc, pk_own, pk_sh, pk_tr, nr_enc, ao_enc, so_own, so_sh, nt_own, nt_sh, no_sh, no_tr, no_own, nt_tr, gLen_enc, gIx_0, gIx_1, gLst_nil, hSeq_sh, hRng1_ok, hRng2_ok, gSub_ok, gAdd_ok, gNeg_ok, gMod_ok, gDiv_ok, gShl_ok, gShr_ok, gMul_r, gMul_l, gLt_ok, gLe_ok, gGt_ok, gGe_ok, gNot_ok, gTup_2, gTup_3, gMax2_ok, gMin2_ok, isi_int_int, isi_int_bool, isi_tup, isi_int_list, isi_list, gEq_int, gNe_int, List.getElem?_cons_zero, List.getElem?_cons_succ, List.set_cons_zero, List.set_cons_succ, List.length_cons, List.length_nil, List.map_cons, List.map_nil, List.cons_append, List.nil_append, List.replicate_zero, List.replicate_succ, decide_true, decide_false, Bool.and_true, Bool.true_and, Bool.and_false, Bool.false_and, Bool.or_true, Bool.true_or, Bool.or_false, Bool.false_or, Bool.not_true, Bool.not_false, if_true, if_false, ite_true, ite_false, reduceIte, List.contains_nil, List.contains_cons, Nat.reduceBEq, List.any_cons, List.any_nil, List.append_nil, Bool.false_eq_true, reduceCtorEq, Nat.reduceAdd, Nat.reduceLT, Nat.reduceLeDiff, Nat.zero_add, Int.reduceSub, Int.reduceAdd, Int.reduceMul, Int.reduceToNat, Int.reducePow, Int.one_mul, Int.reduceNeg, Int.reduceLT, Int.reduceLE, Int.zero_add, Int.add_zero, Int.reduceEq, Int.reduceMod, Int.reduceDiv, Int.reduceOfNat, Int.cast_ofNat_Int, gGt_ok, dd]
end
end K41

namespace K41
open PyI
open Enc (enc)
--%DEF FO foL_nt, foL_no, foL_nr, foL_pk, foL_sf, foL_so, foL_len
--%DEF NW nw_nt, nw_no, nw_nr, nw_pk, nw_sf, nw_len
--%DEF NV noV_nt, noV_so, noV_ao, noV_len
theorem trV_sf (N : List (List (Int × Int))) : setFs .sh (trV N) = nw N := setFs_enc (α := List (Int × Int)) .tr .sh N
theorem trV_nr (N : List (List (Int × Int))) : noRefs (trV N) = true := noRefs_enc (α := List (Int × Int)) .tr N
theorem noV_sf (N : List (List (Int × Int))) : setFs .sh (noV N) = nw N := setFs_enc (α := List (Int × Int)) .own .sh N
section
variable (cs : List Int) (hc : cs.length ≤ 70) (hc1 : 1 ≤ cs.length)
include hc hc1
theorem net_ok (f : Fl) (hf : OF f) (a : Int) (h0 : 0 ≤ a) (h1 : a ≤ 400000) (n : Nat) (n1 : 1 ≤ n) (n2 : n ≤ 8) : ∃ (N : List (List (Int × Int))) (f' : Fl) (a' : Int), OF f' ∧ a ≤ a' ∧ a' ≤ a + 410 ∧ N.length ≤ 16 ∧ Gd n N ∧ F__law_net [stS f cs a, .int n] = .ok (.nd .own .lst (noV N)) (stS f' cs a') := by
  obtain ⟨m, hm, hd⟩ := draw_ok cs hc hc1 f hf a h0 (by omega) n none none none none
  obtain ⟨w, w0, w1, gm⟩ := mod_ok m 5 (by omega)
  have s0 : asgC (tgN 2) (opE gMod [callIOE 0 1 F__law_next [], cstE (.int 5)]) (SN7 f cs a n none none none none) = .nx (SN7 .sh cs (a + 1) n (some (.int w)) none none none) := by
    generalize callIOE 0 1 F__law_next [] = ce at hd ⊢
    simp only [SN7] at hd
    simp (disch := omega) only [runF, seqC, bindC, asgC, tgN, tgT, tgsC, tgsN, opE, evs, varE, takE, frzE, cstE, retC, retNC, expC, ifC, passC, rsC, brkC, cntC, callE, srcE, andE, orE, ifE, seqE, notE, chainE, nt_non, nt_bl, nt_int, nt_str, nt_tup, nt_nil, nt_cons, so_non, so_bl, so_int, so_str, so_tup, so_nil, so_cons, no_non, no_bl, no_int, no_str, no_tup, no_nil, no_cons, nr_non, nr_bl, nr_int, nr_str, nr_tup, nr_nil, nr_cons, ao_non, ao_bl, ao_int, ao_str, ao_tup, ao_nil, ao_cons, pk_non, pk_bl, pk_int, pk_str, pk_tup, pk_nil, pk_cons, sf_non, sf_bl, sf_int, sf_str, sf_tup, sf_nil, sf_cons, ints_so, ints_nt, ints_no, ints_nr, ints_ao, ints_pk, ints_sf, ints_snoc, pk_nd, sf_nd, nt_nd, so_nd, no_nd, nr_nd, ao_nd, so_app, gLen_nd, gIx_nd, gLst_0, gLR1_ok, gLR2_ok, isi_lst, hSeq_nd, fp1, fp2, fp3, fb1, fb2, fb3, fb4, fb5, fb6, fb7, fb8, fb9, fb10, fb11, fb12, fb13, fb14, sf_enc, pk_own, pk_sh, pk_tr, nr_enc, ao_enc, so_own, so_sh, nt_own, nt_sh, no_sh, no_tr, no_own, nt_tr, gLen_enc, gIx_0, gIx_1, gLst_nil, hSeq_sh, hRng1_ok, hRng2_ok, gSub_ok, gAdd_ok, gNeg_ok, gMod_ok, gDiv_ok, gShl_ok, gShr_ok, gMul_r, gMul_l, gLt_ok, gLe_ok, gGt_ok, gGe_ok, gNot_ok, gTup_2, gTup_3, gMax2_ok, gMin2_ok, isi_int_int, isi_int_bool, isi_tup, isi_int_list, isi_list, gEq_int, gNe_int, List.getElem?_cons_zero, List.getElem?_cons_succ, List.set_cons_zero, List.set_cons_succ, List.length_cons, List.length_nil, List.map_cons, List.map_nil, List.cons_append, List.nil_append, List.replicate_zero, List.replicate_succ, decide_true, decide_false, Bool.and_true, Bool.true_and, Bool.and_false, Bool.false_and, Bool.or_true, Bool.true_or, Bool.or_false, Bool.false_or, Bool.not_true, Bool.not_false, if_true, if_false, ite_true, ite_false, reduceIte, List.contains_nil, List.contains_cons, Nat.reduceBEq, List.any_cons, List.any_nil, List.append_nil, Bool.false_eq_true, reduceCtorEq, Nat.reduceAdd, Nat.reduceLT, Nat.reduceLeDiff, Nat.zero_add, Int.reduceSub, Int.reduceAdd, Int.reduceMul, Int.reduceToNat, Int.reducePow, Int.one_mul, Int.reduceNeg, Int.reduceLT, Int.reduceLE, Int.zero_add, Int.add_zero, Int.reduceEq, Int.reduceMod, Int.reduceDiv, Int.reduceOfNat, Int.cast_ofNat_Int, hd, gm]
  obtain ⟨N, f1, a1, g1, b1, b2, l1, G1, s1⟩ := net_s1 cs hc hc1 .sh (.inr rfl) (a + 1) (by omega) (by omega) n n1 n2 w
  have S : F__law_net [stS f cs a, .int n] = (match b__law_net (SN7 f cs a n none none none none) with
    | .nx s => endIO s .non
    | .rt v s => endIO s v
    | _ => .bad) := rfl
  rw [S]
  unfold b__law_net
  by_cases q : 2 < w
  · refine ⟨N, f1, a1, g1, by omega, by omega, by omega, G1, ?_⟩
    have ao := noV_ao N
    have s2 : ifC (opE gGt [varE 2, cstE (.int 2)]) (retC (takE 3)) passC (SN7 f1 cs a1 n (some (.int w)) (some (.nd .own .lst (noV N))) none none) = .rt (.nd .own .lst (noV N)) (SN7 f1 cs a1 n (some (.int w)) none none none) := by
      have dd : decide (2 < w) = true := decide_eq_true q
      generalize noV N = v at *
      simp (disch := omega) only [runF, seqC, bindC, asgC, tgN, tgT, tgsC, tgsN, opE, evs, varE, takE, frzE, cstE, retC, retNC, expC, ifC, passC, rsC, brkC, cntC, callE, srcE, andE, orE, ifE, seqE, notE, chainE, nt_non, nt_bl, nt_int, nt_str, nt_tup, nt_nil, nt_cons, so_non, so_bl, so_int, so_str, so_tup, so_nil, so_cons, no_non, no_bl, no_int, no_str, no_tup, no_nil, no_cons, nr_non, nr_bl, nr_int, nr_str, nr_tup, nr_nil, nr_cons, ao_non, ao_bl, ao_int, ao_str, ao_tup, ao_nil, ao_cons, pk_non, pk_bl, pk_int, pk_str, pk_tup, pk_nil, pk_cons, sf_non, sf_bl, sf_int, sf_str, sf_tup, sf_nil, sf_cons, ints_so, ints_nt, ints_no, ints_nr, ints_ao, ints_pk, ints_sf, ints_snoc, pk_nd, sf_nd, nt_nd, so_nd, no_nd, nr_nd, ao_nd, so_app, gLen_nd, gIx_nd, gLst_0, gLR1_ok, gLR2_ok, isi_lst, hSeq_nd, fp1, fp2, fp3, fb1, fb2, fb3, fb4, fb5, fb6, fb7, fb8, fb9, fb10, fb11, fb12, fb13, fb14, sf_enc, pk_own, pk_sh, pk_tr, nr_enc, ao_enc, so_own, so_sh, nt_own, nt_sh, no_sh, no_tr, no_own, nt_tr, gLen_enc, gIx_0, gIx_1, gLst_nil, hSeq_sh, hRng1_ok, hRng2_ok, gSub_ok, gAdd_ok, gNeg_ok, gMod_ok, gDiv_ok, gShl_ok, gShr_ok, gMul_r, gMul_l, gLt_ok, gLe_ok, gGt_ok, gGe_ok, gNot_ok, gTup_2, gTup_3, gMax2_ok, gMin2_ok, isi_int_int, isi_int_bool, isi_tup, isi_int_list, isi_list, gEq_int, gNe_int, List.getElem?_cons_zero, List.getElem?_cons_succ, List.set_cons_zero, List.set_cons_succ, List.length_cons, List.length_nil, List.map_cons, List.map_nil, List.cons_append, List.nil_append, List.replicate_zero, List.replicate_succ, decide_true, decide_false, Bool.and_true, Bool.true_and, Bool.and_false, Bool.false_and, Bool.or_true, Bool.true_or, Bool.or_false, Bool.false_or, Bool.not_true, Bool.not_false, if_true, if_false, ite_true, ite_false, reduceIte, List.contains_nil, List.contains_cons, Nat.reduceBEq, List.any_cons, List.any_nil, List.append_nil, Bool.false_eq_true, reduceCtorEq, Nat.reduceAdd, Nat.reduceLT, Nat.reduceLeDiff, Nat.zero_add, Int.reduceSub, Int.reduceAdd, Int.reduceMul, Int.reduceToNat, Int.reducePow, Int.one_mul, Int.reduceNeg, Int.reduceLT, Int.reduceLE, Int.zero_add, Int.add_zero, Int.reduceEq, Int.reduceMod, Int.reduceDiv, Int.reduceOfNat, Int.cast_ofNat_Int, gGt_ok, dd]
    simp only [seqC, s0, s1, s2]
    rcases g1 with rfl | rfl <;> simp (disch := omega) only [endIO, SN7, stS, runF, seqC, bindC, asgC, tgN, tgT, tgsC, tgsN, opE, evs, varE, takE, frzE, cstE, retC, retNC, expC, ifC, passC, rsC, brkC, cntC, callE, srcE, andE, orE, ifE, seqE, notE, chainE, nt_non, nt_bl, nt_int, nt_str, nt_tup, nt_nil, nt_cons, so_non, so_bl, so_int, so_str, so_tup, so_nil, so_cons, no_non, no_bl, no_int, no_str, no_tup, no_nil, no_cons, nr_non, nr_bl, nr_int, nr_str, nr_tup, nr_nil, nr_cons, ao_non, ao_bl, ao_int, ao_str, ao_tup, ao_nil, ao_cons, pk_non, pk_bl, pk_int, pk_str, pk_tup, pk_nil, pk_cons, sf_non, sf_bl, sf_int, sf_str, sf_tup, sf_nil, sf_cons, ints_so, ints_nt, ints_no, ints_nr, ints_ao, ints_pk, ints_sf, ints_snoc, pk_nd, sf_nd, nt_nd, so_nd, no_nd, nr_nd, ao_nd, so_app, gLen_nd, gIx_nd, gLst_0, gLR1_ok, gLR2_ok, isi_lst, hSeq_nd, fp1, fp2, fp3, fb1, fb2, fb3, fb4, fb5, fb6, fb7, fb8, fb9, fb10, fb11, fb12, fb13, fb14, sf_enc, pk_own, pk_sh, pk_tr, nr_enc, ao_enc, so_own, so_sh, nt_own, nt_sh, no_sh, no_tr, no_own, nt_tr, gLen_enc, gIx_0, gIx_1, gLst_nil, hSeq_sh, hRng1_ok, hRng2_ok, gSub_ok, gAdd_ok, gNeg_ok, gMod_ok, gDiv_ok, gShl_ok, gShr_ok, gMul_r, gMul_l, gLt_ok, gLe_ok, gGt_ok, gGe_ok, gNot_ok, gTup_2, gTup_3, gMax2_ok, gMin2_ok, isi_int_int, isi_int_bool, isi_tup, isi_int_list, isi_list, gEq_int, gNe_int, List.getElem?_cons_zero, List.getElem?_cons_succ, List.set_cons_zero, List.set_cons_succ, List.length_cons, List.length_nil, List.map_cons, List.map_nil, List.cons_append, List.nil_append, List.replicate_zero, List.replicate_succ, decide_true, decide_false, Bool.and_true, Bool.true_and, Bool.and_false, Bool.false_and, Bool.or_true, Bool.true_or, Bool.or_false, Bool.false_or, Bool.not_true, Bool.not_false, if_true, if_false, ite_true, ite_false, reduceIte, List.contains_nil, List.contains_cons, Nat.reduceBEq, List.any_cons, List.any_nil, List.append_nil, Bool.false_eq_true, reduceCtorEq, Nat.reduceAdd, Nat.reduceLT, Nat.reduceLeDiff, Nat.zero_add, ao]
  · have s2 : ifC (opE gGt [varE 2, cstE (.int 2)]) (retC (takE 3)) passC (SN7 f1 cs a1 n (some (.int w)) (some (.nd .own .lst (noV N))) none none) = .nx (SN7 f1 cs a1 n (some (.int w)) (some (.nd .own .lst (noV N))) none none) := by
      have dd : decide (2 < w) = false := decide_eq_false q
      simp (disch := omega) only [runF, seqC, bindC, asgC, tgN, tgT, tgsC, tgsN, opE, evs, varE, takE, frzE, cstE, retC, retNC, expC, ifC, passC, rsC, brkC, cntC, callE, srcE, andE, orE, ifE, seqE, notE, chainE, nt_non, nt_bl, nt_int, nt_str, nt_tup, nt_nil, nt_cons, so_non, so_bl, so_int, so_str, so_tup, so_nil, so_cons, no_non, no_bl, no_int, no_str, no_tup, no_nil, no_cons, nr_non, nr_bl, nr_int, nr_str, nr_tup, nr_nil, nr_cons, ao_non, ao_bl, ao_int, ao_str, ao_tup, ao_nil, ao_cons, pk_non, pk_bl, pk_int, pk_str, pk_tup, pk_nil, pk_cons, sf_non, sf_bl, sf_int, sf_str, sf_tup, sf_nil, sf_cons, ints_so, ints_nt, ints_no, ints_nr, ints_ao, ints_pk, ints_sf, ints_snoc, pk_nd, sf_nd, nt_nd, so_nd, no_nd, nr_nd, ao_nd, so_app, gLen_nd, gIx_nd, gLst_0, gLR1_ok, gLR2_ok, isi_lst, hSeq_nd, fp1, fp2, fp3, fb1, fb2, fb3, fb4, fb5, fb6, fb7, fb8, fb9, fb10, fb11, fb12, fb13, fb14, sf_enc, pk_own, pk_sh, pk_tr, nr_enc, ao_enc, so_own, so_sh, nt_own, nt_sh, no_sh, no_tr, no_own, nt_tr, gLen_enc, gIx_0, gIx_1, gLst_nil, hSeq_sh, hRng1_ok, hRng2_ok, gSub_ok, gAdd_ok, gNeg_ok, gMod_ok, gDiv_ok, gShl_ok, gShr_ok, gMul_r, gMul_l, gLt_ok, gLe_ok, gGt_ok, gGe_ok, gNot_ok, gTup_2, gTup_3, gMax2_ok, gMin2_ok, isi_int_int, isi_int_bool, isi_tup, isi_int_list, isi_list, gEq_int, gNe_int, List.getElem?_cons_zero, List.getElem?_cons_succ, List.set_cons_zero, List.set_cons_succ, List.length_cons, List.length_nil, List.map_cons, List.map_nil, List.cons_append, List.nil_append, List.replicate_zero, List.replicate_succ, decide_true, decide_false, Bool.and_true, Bool.true_and, Bool.and_false, Bool.false_and, Bool.or_true, Bool.true_or, Bool.or_false, Bool.false_or, Bool.not_true, Bool.not_false, if_true, if_false, ite_true, ite_false, reduceIte, List.contains_nil, List.contains_cons, Nat.reduceBEq, List.any_cons, List.any_nil, List.append_nil, Bool.false_eq_true, reduceCtorEq, Nat.reduceAdd, Nat.reduceLT, Nat.reduceLeDiff, Nat.zero_add, Int.reduceSub, Int.reduceAdd, Int.reduceMul, Int.reduceToNat, Int.reducePow, Int.one_mul, Int.reduceNeg, Int.reduceLT, Int.reduceLE, Int.zero_add, Int.add_zero, Int.reduceEq, Int.reduceMod, Int.reduceDiv, Int.reduceOfNat, Int.cast_ofNat_Int, gGt_ok, dd]
    obtain ⟨M, G2, l2, l3, s3⟩ := net_s3 cs hc hc1 f1 a1 n n2 w N l1 G1
    obtain ⟨i, i0, i1, s4⟩ := net_s4 cs hc hc1 f1 g1 a1 (by omega) (by omega) n w M (by omega)
    obtain ⟨M', a', G3, l4, b3, b4, s5⟩ := net_s5 cs hc hc1 (a1 + 1) (by omega) (by omega) n w M G2 i i0 i1
    refine ⟨M', .sh, a', .inr rfl, by omega, by omega, by omega, G3, ?_⟩
    have ao := noV_ao M'
    have s6 : retC (takE 4) (SN7 .sh cs a' n (some (.int w)) none (some (.nd .own .lst (noV M'))) (some (.int i))) = .rt (.nd .own .lst (noV M')) (SN7 .sh cs a' n (some (.int w)) none none (some (.int i))) := by
      generalize noV M' = v at *
      simp (disch := omega) only [runF, seqC, bindC, asgC, tgN, tgT, tgsC, tgsN, opE, evs, varE, takE, frzE, cstE, retC, retNC, expC, ifC, passC, rsC, brkC, cntC, callE, srcE, andE, orE, ifE, seqE, notE, chainE, nt_non, nt_bl, nt_int, nt_str, nt_tup, nt_nil, nt_cons, so_non, so_bl, so_int, so_str, so_tup, so_nil, so_cons, no_non, no_bl, no_int, no_str, no_tup, no_nil, no_cons, nr_non, nr_bl, nr_int, nr_str, nr_tup, nr_nil, nr_cons, ao_non, ao_bl, ao_int, ao_str, ao_tup, ao_nil, ao_cons, pk_non, pk_bl, pk_int, pk_str, pk_tup, pk_nil, pk_cons, sf_non, sf_bl, sf_int, sf_str, sf_tup, sf_nil, sf_cons, ints_so, ints_nt, ints_no, ints_nr, ints_ao, ints_pk, ints_sf, ints_snoc, pk_nd, sf_nd, nt_nd, so_nd, no_nd, nr_nd, ao_nd, so_app, gLen_nd, gIx_nd, gLst_0, gLR1_ok, gLR2_ok, isi_lst, hSeq_nd, fp1, fp2, fp3, fb1, fb2, fb3, fb4, fb5, fb6, fb7, fb8, fb9, fb10, fb11, fb12, fb13, fb14, sf_enc, pk_own, pk_sh, pk_tr, nr_enc, ao_enc, so_own, so_sh, nt_own, nt_sh, no_sh, no_tr, no_own, nt_tr, gLen_enc, gIx_0, gIx_1, gLst_nil, hSeq_sh, hRng1_ok, hRng2_ok, gSub_ok, gAdd_ok, gNeg_ok, gMod_ok, gDiv_ok, gShl_ok, gShr_ok, gMul_r, gMul_l, gLt_ok, gLe_ok, gGt_ok, gGe_ok, gNot_ok, gTup_2, gTup_3, gMax2_ok, gMin2_ok, isi_int_int, isi_int_bool, isi_tup, isi_int_list, isi_list, gEq_int, gNe_int, List.getElem?_cons_zero, List.getElem?_cons_succ, List.set_cons_zero, List.set_cons_succ, List.length_cons, List.length_nil, List.map_cons, List.map_nil, List.cons_append, List.nil_append, List.replicate_zero, List.replicate_succ, decide_true, decide_false, Bool.and_true, Bool.true_and, Bool.and_false, Bool.false_and, Bool.or_true, Bool.true_or, Bool.or_false, Bool.false_or, Bool.not_true, Bool.not_false, if_true, if_false, ite_true, ite_false, reduceIte, List.contains_nil, List.contains_cons, Nat.reduceBEq, List.any_cons, List.any_nil, List.append_nil, Bool.false_eq_true, reduceCtorEq, Nat.reduceAdd, Nat.reduceLT, Nat.reduceLeDiff, Nat.zero_add, Int.reduceSub, Int.reduceAdd, Int.reduceMul, Int.reduceToNat, Int.reducePow, Int.one_mul, Int.reduceNeg, Int.reduceLT, Int.reduceLE, Int.zero_add, Int.add_zero, Int.reduceEq, Int.reduceMod, Int.reduceDiv, Int.reduceOfNat, Int.cast_ofNat_Int]
    simp only [seqC, s0, s1, s2, s3, s4, s5, s6]
    simp (disch := omega) only [endIO, SN7, stS, runF, seqC, bindC, asgC, tgN, tgT, tgsC, tgsN, opE, evs, varE, takE, frzE, cstE, retC, retNC, expC, ifC, passC, rsC, brkC, cntC, callE, srcE, andE, orE, ifE, seqE, notE, chainE, nt_non, nt_bl, nt_int, nt_str, nt_tup, nt_nil, nt_cons, so_non, so_bl, so_int, so_str, so_tup, so_nil, so_cons, no_non, no_bl, no_int, no_str, no_tup, no_nil, no_cons, nr_non, nr_bl, nr_int, nr_str, nr_tup, nr_nil, nr_cons, ao_non, ao_bl, ao_int, ao_str, ao_tup, ao_nil, ao_cons, pk_non, pk_bl, pk_int, pk_str, pk_tup, pk_nil, pk_cons, sf_non, sf_bl, sf_int, sf_str, sf_tup, sf_nil, sf_cons, ints_so, ints_nt, ints_no, ints_nr, ints_ao, ints_pk, ints_sf, ints_snoc, pk_nd, sf_nd, nt_nd, so_nd, no_nd, nr_nd, ao_nd, so_app, gLen_nd, gIx_nd, gLst_0, gLR1_ok, gLR2_ok, isi_lst, hSeq_nd, fp1, fp2, fp3, fb1, fb2, fb3, fb4, fb5, fb6, fb7, fb8, fb9, fb10, fb11, fb12, fb13, fb14, sf_enc, pk_own, pk_sh, pk_tr, nr_enc, ao_enc, so_own, so_sh, nt_own, nt_sh, no_sh, no_tr, no_own, nt_tr, gLen_enc, gIx_0, gIx_1, gLst_nil, hSeq_sh, hRng1_ok, hRng2_ok, gSub_ok, gAdd_ok, gNeg_ok, gMod_ok, gDiv_ok, gShl_ok, gShr_ok, gMul_r, gMul_l, gLt_ok, gLe_ok, gGt_ok, gGe_ok, gNot_ok, gTup_2, gTup_3, gMax2_ok, gMin2_ok, isi_int_int, isi_int_bool, isi_tup, isi_int_list, isi_list, gEq_int, gNe_int, List.getElem?_cons_zero, List.getElem?_cons_succ, List.set_cons_zero, List.set_cons_succ, List.length_cons, List.length_nil, List.map_cons, List.map_nil, List.cons_append, List.nil_append, List.replicate_zero, List.replicate_succ, decide_true, decide_false, Bool.and_true, Bool.true_and, Bool.and_false, Bool.false_and, Bool.or_true, Bool.true_or, Bool.or_false, Bool.false_or, Bool.not_true, Bool.not_false, if_true, if_false, ite_true, ite_false, reduceIte, List.contains_nil, List.contains_cons, Nat.reduceBEq, List.any_cons, List.any_nil, List.append_nil, Bool.false_eq_true, reduceCtorEq, Nat.reduceAdd, Nat.reduceLT, Nat.reduceLeDiff, Nat.zero_add, ao]
theorem pick_ok (f : Fl) (hf : OF f) (a : Int) (h0 : 0 ≤ a) (h1 : a ≤ 900000) (xs : List Int) (hx : 0 < xs.length) : ∃ e, e ∈ xs ∧ F__law_pick [stS f cs a, .nd .own .lst (xs.map Vl.int)] = .ok (.int e) (stS .sh cs (a + 1)) := by
  obtain ⟨m, hm, hp⟩ := next_ok f hf cs hc hc1 a h0 (by omega)
  obtain ⟨k, k0, k1, gm⟩ := mod_ok m (xs.length : Nat) (by omega)
  have hi : k.toNat < xs.length := by omega
  refine ⟨xs[k.toNat], List.getElem_mem hi, ?_⟩
  have hat : L2.atI (xs.map Vl.int) k = some (.int xs[k.toNat]) := atI_ints k0 (List.getElem?_eq_getElem hi)
  generalize xs[k.toNat] = e at hat
  have hh : handsIO [] = [] := rfl
  have hcc : opE gMod [callIOE 0 1 F__law_next [], opE gLen [varE 1]] ⟨[some (stS f cs a), some (.nd .own .lst (xs.map Vl.int))], [], [0]⟩ = .ok (.int k, ⟨[some (stS .sh cs (a + 1)), some (.nd .own .lst (xs.map Vl.int))], [], [0]⟩, true) := by
    simp only [stS] at hp ⊢
    rcases hf with rfl | rfl <;> simp (disch := omega) only [callIOE, runF, seqC, bindC, asgC, tgN, tgT, tgsC, tgsN, opE, evs, varE, takE, frzE, cstE, retC, retNC, expC, ifC, passC, rsC, brkC, cntC, callE, srcE, andE, orE, ifE, seqE, notE, chainE, nt_non, nt_bl, nt_int, nt_str, nt_tup, nt_nil, nt_cons, so_non, so_bl, so_int, so_str, so_tup, so_nil, so_cons, no_non, no_bl, no_int, no_str, no_tup, no_nil, no_cons, nr_non, nr_bl, nr_int, nr_str, nr_tup, nr_nil, nr_cons, ao_non, ao_bl, ao_int, ao_str, ao_tup, ao_nil, ao_cons, pk_non, pk_bl, pk_int, pk_str, pk_tup, pk_nil, pk_cons, sf_non, sf_bl, sf_int, sf_str, sf_tup, sf_nil, sf_cons, ints_so, ints_nt, ints_no, ints_nr, ints_ao, ints_pk, ints_sf, ints_snoc, pk_nd, sf_nd, nt_nd, so_nd, no_nd, nr_nd, ao_nd, so_app, gLen_nd, gIx_nd, gLst_0, gLR1_ok, gLR2_ok, isi_lst, hSeq_nd, fp1, fp2, fp3, fb1, fb2, fb3, fb4, fb5, fb6, fb7, fb8, fb9, fb10, fb11, fb12, fb13, fb14, sf_enc, pk_own, pk_sh, pk_tr, nr_enc, ao_enc, so_own, so_sh, nt_own, nt_sh, no_sh, no_tr, no_own, nt_tr, gLen_enc, gIx_0, gIx_1, gLst_nil, hSeq_sh, hRng1_ok, hRng2_ok, gSub_ok, gAdd_ok, gNeg_ok, gMod_ok, gDiv_ok, gShl_ok, gShr_ok, gMul_r, gMul_l, gLt_ok, gLe_ok, gGt_ok, gGe_ok, gNot_ok, gTup_2, gTup_3, gMax2_ok, gMin2_ok, isi_int_int, isi_int_bool, isi_tup, isi_int_list, isi_list, gEq_int, gNe_int, List.getElem?_cons_zero, List.getElem?_cons_succ, List.set_cons_zero, List.set_cons_succ, List.length_cons, List.length_nil, List.map_cons, List.map_nil, List.cons_append, List.nil_append, List.replicate_zero, List.replicate_succ, decide_true, decide_false, Bool.and_true, Bool.true_and, Bool.and_false, Bool.false_and, Bool.or_true, Bool.true_or, Bool.or_false, Bool.false_or, Bool.not_true, Bool.not_false, if_true, if_false, ite_true, ite_false, reduceIte, List.contains_nil, List.contains_cons, Nat.reduceBEq, List.any_cons, List.any_nil, List.append_nil, Bool.false_eq_true, reduceCtorEq, Nat.reduceAdd, Nat.reduceLT, Nat.reduceLeDiff, Nat.zero_add, Int.reduceSub, Int.reduceAdd, Int.reduceMul, Int.reduceToNat, Int.reducePow, Int.one_mul, Int.reduceNeg, Int.reduceLT, Int.reduceLE, Int.zero_add, Int.add_zero, Int.reduceEq, Int.reduceMod, Int.reduceDiv, Int.reduceOfNat, Int.cast_ofNat_Int, hh, hp, gLen_nd, List.length_map, gm, Bool.and_self]
  show (match b__law_pick ⟨[some (stS f cs a), some (.nd .own .lst (xs.map Vl.int))], [], [0]⟩ with
    | .nx s => endIO s .non
    | .rt v s => endIO s v
    | _ => .bad) = _
  unfold b__law_pick ixTakeE
  generalize opE gMod [callIOE 0 1 F__law_next [], opE gLen [varE 1]] = ce at hcc
  simp (disch := omega) only [retC, bindC, List.getElem?_cons_succ, List.getElem?_cons_zero, hcc, hat]
  simp (disch := omega) only [endIO, stS, runF, seqC, bindC, asgC, tgN, tgT, tgsC, tgsN, opE, evs, varE, takE, frzE, cstE, retC, retNC, expC, ifC, passC, rsC, brkC, cntC, callE, srcE, andE, orE, ifE, seqE, notE, chainE, nt_non, nt_bl, nt_int, nt_str, nt_tup, nt_nil, nt_cons, so_non, so_bl, so_int, so_str, so_tup, so_nil, so_cons, no_non, no_bl, no_int, no_str, no_tup, no_nil, no_cons, nr_non, nr_bl, nr_int, nr_str, nr_tup, nr_nil, nr_cons, ao_non, ao_bl, ao_int, ao_str, ao_tup, ao_nil, ao_cons, pk_non, pk_bl, pk_int, pk_str, pk_tup, pk_nil, pk_cons, sf_non, sf_bl, sf_int, sf_str, sf_tup, sf_nil, sf_cons, ints_so, ints_nt, ints_no, ints_nr, ints_ao, ints_pk, ints_sf, ints_snoc, pk_nd, sf_nd, nt_nd, so_nd, no_nd, nr_nd, ao_nd, so_app, gLen_nd, gIx_nd, gLst_0, gLR1_ok, gLR2_ok, isi_lst, hSeq_nd, fp1, fp2, fp3, fb1, fb2, fb3, fb4, fb5, fb6, fb7, fb8, fb9, fb10, fb11, fb12, fb13, fb14, sf_enc, pk_own, pk_sh, pk_tr, nr_enc, ao_enc, so_own, so_sh, nt_own, nt_sh, no_sh, no_tr, no_own, nt_tr, gLen_enc, gIx_0, gIx_1, gLst_nil, hSeq_sh, hRng1_ok, hRng2_ok, gSub_ok, gAdd_ok, gNeg_ok, gMod_ok, gDiv_ok, gShl_ok, gShr_ok, gMul_r, gMul_l, gLt_ok, gLe_ok, gGt_ok, gGe_ok, gNot_ok, gTup_2, gTup_3, gMax2_ok, gMin2_ok, isi_int_int, isi_int_bool, isi_tup, isi_int_list, isi_list, gEq_int, gNe_int, List.getElem?_cons_zero, List.getElem?_cons_succ, List.set_cons_zero, List.set_cons_succ, List.length_cons, List.length_nil, List.map_cons, List.map_nil, List.cons_append, List.nil_append, List.replicate_zero, List.replicate_succ, decide_true, decide_false, Bool.and_true, Bool.true_and, Bool.and_false, Bool.false_and, Bool.or_true, Bool.true_or, Bool.or_false, Bool.false_or, Bool.not_true, Bool.not_false, if_true, if_false, ite_true, ite_false, reduceIte, List.contains_nil, List.contains_cons, Nat.reduceBEq, List.any_cons, List.any_nil, List.append_nil, Bool.false_eq_true, reduceCtorEq, Nat.reduceAdd, Nat.reduceLT, Nat.reduceLeDiff, Nat.zero_add]
end
theorem gNe_same {u v : Vl} {d : PySem.PyData} (h1 : pyOf u = some d) (h2 : pyOf v = some d) (h : PySem.SeqAt.shaped d = true) : gNe [u, v] = some (.bl false) := by
  have h3 : PySem.PyData.eqv d d = true := PySem.SeqAt.eqv_refl _ (by
    unfold PySem.SeqAt.shaped at h
    exact (Bool.and_eq_true _ _ ▸ h).1)
  unfold gNe
  simp only [h1, h2, h, h3]
  rfl
/-! ### the law -/
abbrev SLw (ns cs : List Int) (f : Fl) (a : Int) (t o3 o4 o5 o6 o7 : Option Vl) : Sta := ⟨[some (.nd .sh .lst (ns.map Vl.int)), some (stS f cs a), t, o3, o4, o5, o6, o7, none, none], [], []⟩
abbrev szL : List Int := [1, 2, 3, 3, 4, 4, 5, 5, 6, 6, 7, 8]
theorem res_cases (n : Nat) (N : List (List (Int × Int))) : (res n N = .non) ∨ ∃ k, res n N = .nd .own .lst ((bitR n k).map Vl.int) := by
  unfold res
  cases fst0 n N with
  | none => exact .inl rfl
  | some k => exact .inr ⟨k, rfl⟩
section
variable (ns cs : List Int) (hc : cs.length ≤ 70) (hc1 : 1 ≤ cs.length)
include hc hc1
theorem turn_ok (f : Fl) (hf : OF f) (a : Int) (h0 : 0 ≤ a) (h1 : a ≤ 300000) (t o3 o4 o5 o6 o7 : Option Vl) : ∃ (f' : Fl) (a' : Int) (p3 p4 p5 p6 p7 : Option Vl), OF f' ∧ a ≤ a' ∧ a' ≤ a + 500 ∧ b_law_L0 (SLw ns cs f a t o3 o4 o5 o6 o7) = .nx (SLw ns cs f' a' t p3 p4 p5 p6 p7) := by
  obtain ⟨z, hz, hp⟩ := pick_ok cs hc hc1 f hf a h0 (by omega) szL (by decide)
  have hz' : 1 ≤ z ∧ z ≤ 8 := by
    simp only [szL, List.mem_cons, List.not_mem_nil, or_false] at hz
    omega
  obtain ⟨n, rfl⟩ : ∃ n : Nat, z = n := ⟨z.toNat, by omega⟩
  obtain ⟨N, f2, a2, g2, b1, b2, lN, G, hN⟩ := net_ok cs hc hc1 .sh (.inr rfl) (a + 1) (by omega) (by omega) n (by omega) (by omega)
  have NN : Nt n N := ⟨fun L hL => (G L hL).1, by omega⟩
  have SS : ∀ L ∈ N, Sd L := fun L hL => (G L hL).2
  have hfi := first_ok (n := n) (by omega) (by omega) NN
  have hun := unsorted_ok (n := n) (by omega) (by omega) NN SS
  have hh : ∀ i : Int, handsIO [.int i] = [.int i] := fun _ => rfl
  have hhl : ∀ L : List Int, handsIO [.nd .own .lst (L.map Vl.int)] = [.nd .own .lst (L.map Vl.int)] := fun L => by
    have : handIO (.nd .own .lst (L.map Vl.int)) = .nd .own .lst (L.map Vl.int) := by
      unfold handIO
      rw [if_pos (by rw [so_nd, ints_so]; rfl)]
    show [handIO _] = _
    rw [this]
  have c0 : asgC (tgN 3) (callIOE 1 2 F__law_pick [opE gLst [cstE (.int 1), cstE (.int 2), cstE (.int 3), cstE (.int 3), cstE (.int 4), cstE (.int 4), cstE (.int 5), cstE (.int 5), cstE (.int 6), cstE (.int 6), cstE (.int 7), cstE (.int 8)]]) (SLw ns cs f a t o3 o4 o5 o6 o7) = .nx (SLw ns cs .sh (a + 1) t (some (.int n)) o4 o5 o6 o7) := by
    have gl : gLst [.int 1, .int 2, .int 3, .int 3, .int 4, .int 4, .int 5, .int 5, .int 6, .int 6, .int 7, .int 8] = some (.nd .own .lst (szL.map Vl.int)) := by rw [gLst_le (by simp)]; exact congrArg some (mkL_ints szL)
    have h3 := hhl szL
    have nt := ints_nt szL
    have nr := ints_nr szL
    generalize szL.map Vl.int = ws at *
    simp only [stS] at hp ⊢
    rcases hf with rfl | rfl <;> simp (disch := omega) only [callIOE, runF, seqC, bindC, asgC, tgN, tgT, tgsC, tgsN, opE, evs, varE, takE, frzE, cstE, retC, retNC, expC, ifC, passC, rsC, brkC, cntC, callE, srcE, andE, orE, ifE, seqE, notE, chainE, nt_non, nt_bl, nt_int, nt_str, nt_tup, nt_nil, nt_cons, so_non, so_bl, so_int, so_str, so_tup, so_nil, so_cons, no_non, no_bl, no_int, no_str, no_tup, no_nil, no_cons, nr_non, nr_bl, nr_int, nr_str, nr_tup, nr_nil, nr_cons, ao_non, ao_bl, ao_int, ao_str, ao_tup, ao_nil, ao_cons, pk_non, pk_bl, pk_int, pk_str, pk_tup, pk_nil, pk_cons, sf_non, sf_bl, sf_int, sf_str, sf_tup, sf_nil, sf_cons, ints_so, ints_nt, ints_no, ints_nr, ints_ao, ints_pk, ints_sf, ints_snoc, pk_nd, sf_nd, nt_nd, so_nd, no_nd, nr_nd, ao_nd, so_app, gLen_nd, gIx_nd, gLst_0, gLR1_ok, gLR2_ok, isi_lst, hSeq_nd, fp1, fp2, fp3, fb1, fb2, fb3, fb4, fb5, fb6, fb7, fb8, fb9, fb10, fb11, fb12, fb13, fb14, sf_enc, pk_own, pk_sh, pk_tr, nr_enc, ao_enc, so_own, so_sh, nt_own, nt_sh, no_sh, no_tr, no_own, nt_tr, gLen_enc, gIx_0, gIx_1, gLst_nil, hSeq_sh, hRng1_ok, hRng2_ok, gSub_ok, gAdd_ok, gNeg_ok, gMod_ok, gDiv_ok, gShl_ok, gShr_ok, gMul_r, gMul_l, gLt_ok, gLe_ok, gGt_ok, gGe_ok, gNot_ok, gTup_2, gTup_3, gMax2_ok, gMin2_ok, isi_int_int, isi_int_bool, isi_tup, isi_int_list, isi_list, gEq_int, gNe_int, List.getElem?_cons_zero, List.getElem?_cons_succ, List.set_cons_zero, List.set_cons_succ, List.length_cons, List.length_nil, List.map_cons, List.map_nil, List.cons_append, List.nil_append, List.replicate_zero, List.replicate_succ, decide_true, decide_false, Bool.and_true, Bool.true_and, Bool.and_false, Bool.false_and, Bool.or_true, Bool.true_or, Bool.or_false, Bool.false_or, Bool.not_true, Bool.not_false, if_true, if_false, ite_true, ite_false, reduceIte, List.contains_nil, List.contains_cons, Nat.reduceBEq, List.any_cons, List.any_nil, List.append_nil, Bool.false_eq_true, reduceCtorEq, Nat.reduceAdd, Nat.reduceLT, Nat.reduceLeDiff, Nat.zero_add, Int.reduceSub, Int.reduceAdd, Int.reduceMul, Int.reduceToNat, Int.reducePow, Int.one_mul, Int.reduceNeg, Int.reduceLT, Int.reduceLE, Int.zero_add, Int.add_zero, Int.reduceEq, Int.reduceMod, Int.reduceDiv, Int.reduceOfNat, Int.cast_ofNat_Int, gl, h3, nt, nr, hp, Bool.and_self]
  have c1 : asgC (tgN 4) (callIOE 1 2 F__law_net [frzE 3]) (SLw ns cs .sh (a + 1) t (some (.int n)) o4 o5 o6 o7) = .nx (SLw ns cs f2 a2 t (some (.int n)) (some (.nd .own .lst (noV N))) o5 o6 o7) := by
    have nt := noV_nt N
    generalize noV N = v at *
    simp only [stS] at hN ⊢
    simp (disch := omega) only [callIOE, runF, seqC, bindC, asgC, tgN, tgT, tgsC, tgsN, opE, evs, varE, takE, frzE, cstE, retC, retNC, expC, ifC, passC, rsC, brkC, cntC, callE, srcE, andE, orE, ifE, seqE, notE, chainE, nt_non, nt_bl, nt_int, nt_str, nt_tup, nt_nil, nt_cons, so_non, so_bl, so_int, so_str, so_tup, so_nil, so_cons, no_non, no_bl, no_int, no_str, no_tup, no_nil, no_cons, nr_non, nr_bl, nr_int, nr_str, nr_tup, nr_nil, nr_cons, ao_non, ao_bl, ao_int, ao_str, ao_tup, ao_nil, ao_cons, pk_non, pk_bl, pk_int, pk_str, pk_tup, pk_nil, pk_cons, sf_non, sf_bl, sf_int, sf_str, sf_tup, sf_nil, sf_cons, ints_so, ints_nt, ints_no, ints_nr, ints_ao, ints_pk, ints_sf, ints_snoc, pk_nd, sf_nd, nt_nd, so_nd, no_nd, nr_nd, ao_nd, so_app, gLen_nd, gIx_nd, gLst_0, gLR1_ok, gLR2_ok, isi_lst, hSeq_nd, fp1, fp2, fp3, fb1, fb2, fb3, fb4, fb5, fb6, fb7, fb8, fb9, fb10, fb11, fb12, fb13, fb14, sf_enc, pk_own, pk_sh, pk_tr, nr_enc, ao_enc, so_own, so_sh, nt_own, nt_sh, no_sh, no_tr, no_own, nt_tr, gLen_enc, gIx_0, gIx_1, gLst_nil, hSeq_sh, hRng1_ok, hRng2_ok, gSub_ok, gAdd_ok, gNeg_ok, gMod_ok, gDiv_ok, gShl_ok, gShr_ok, gMul_r, gMul_l, gLt_ok, gLe_ok, gGt_ok, gGe_ok, gNot_ok, gTup_2, gTup_3, gMax2_ok, gMin2_ok, isi_int_int, isi_int_bool, isi_tup, isi_int_list, isi_list, gEq_int, gNe_int, List.getElem?_cons_zero, List.getElem?_cons_succ, List.set_cons_zero, List.set_cons_succ, List.length_cons, List.length_nil, List.map_cons, List.map_nil, List.cons_append, List.nil_append, List.replicate_zero, List.replicate_succ, decide_true, decide_false, Bool.and_true, Bool.true_and, Bool.and_false, Bool.false_and, Bool.or_true, Bool.true_or, Bool.or_false, Bool.false_or, Bool.not_true, Bool.not_false, if_true, if_false, ite_true, ite_false, reduceIte, List.contains_nil, List.contains_cons, Nat.reduceBEq, List.any_cons, List.any_nil, List.append_nil, Bool.false_eq_true, reduceCtorEq, Nat.reduceAdd, Nat.reduceLT, Nat.reduceLeDiff, Nat.zero_add, Int.reduceSub, Int.reduceAdd, Int.reduceMul, Int.reduceToNat, Int.reducePow, Int.one_mul, Int.reduceNeg, Int.reduceLT, Int.reduceLE, Int.zero_add, Int.add_zero, Int.reduceEq, Int.reduceMod, Int.reduceDiv, Int.reduceOfNat, Int.cast_ofNat_Int, hh, hN, nt, Bool.and_self]
  have e0 : nw N = N.map fun L => .nd .sh .lst (foL L) := rfl
  have c2 : asgC (tgN 5) (compE [8] (tgN 8) (srcE hSeq [frzE 4]) (cstE (.bl true)) (opE gList [varE 8])) (SLw ns cs f2 a2 t (some (.int n)) (some (.nd .own .lst (noV N))) o5 o6 o7) = .nx (SLw ns cs f2 a2 t (some (.int n)) (some (.nd .sh .lst (nw N))) (some (.nd .own .lst (noV N))) o6 o7) := by
    have hcm : compE [8] (tgN 8) (srcE hSeq [frzE 4]) (cstE (.bl true)) (opE gList [varE 8]) (SLw ns cs f2 a2 t (some (.int n)) (some (.nd .own .lst (noV N))) o5 o6 o7) = .ok (mkL (N.map fun L => Vl.nd .own .lst (foL L)), SLw ns cs f2 a2 t (some (.int n)) (some (.nd .sh .lst (nw N))) o5 o6 o7, true) := by
      refine compE_all (vs := [8]) (st1 := SLw ns cs f2 a2 t (some (.int n)) (some (.nd .sh .lst (nw N))) o5 o6 o7) (ev := fun L => .nd .sh .lst (foL L)) (tr := false) N (fun L => .nd .own .lst (foL L)) ?_ rfl (fun L hL => ?_) (by rw [PySem.sizeLine_eq]; omega)
      · have so := noV_so N
        have sf := noV_sf N
        have nt := nw_nt N
        simp (disch := omega) only [runF, seqC, bindC, asgC, tgN, tgT, tgsC, tgsN, opE, evs, varE, takE, frzE, cstE, retC, retNC, expC, ifC, passC, rsC, brkC, cntC, callE, srcE, andE, orE, ifE, seqE, notE, chainE, nt_non, nt_bl, nt_int, nt_str, nt_tup, nt_nil, nt_cons, so_non, so_bl, so_int, so_str, so_tup, so_nil, so_cons, no_non, no_bl, no_int, no_str, no_tup, no_nil, no_cons, nr_non, nr_bl, nr_int, nr_str, nr_tup, nr_nil, nr_cons, ao_non, ao_bl, ao_int, ao_str, ao_tup, ao_nil, ao_cons, pk_non, pk_bl, pk_int, pk_str, pk_tup, pk_nil, pk_cons, sf_non, sf_bl, sf_int, sf_str, sf_tup, sf_nil, sf_cons, ints_so, ints_nt, ints_no, ints_nr, ints_ao, ints_pk, ints_sf, ints_snoc, pk_nd, sf_nd, nt_nd, so_nd, no_nd, nr_nd, ao_nd, so_app, gLen_nd, gIx_nd, gLst_0, gLR1_ok, gLR2_ok, isi_lst, hSeq_nd, fp1, fp2, fp3, fb1, fb2, fb3, fb4, fb5, fb6, fb7, fb8, fb9, fb10, fb11, fb12, fb13, fb14, sf_enc, pk_own, pk_sh, pk_tr, nr_enc, ao_enc, so_own, so_sh, nt_own, nt_sh, no_sh, no_tr, no_own, nt_tr, gLen_enc, gIx_0, gIx_1, gLst_nil, hSeq_sh, hRng1_ok, hRng2_ok, gSub_ok, gAdd_ok, gNeg_ok, gMod_ok, gDiv_ok, gShl_ok, gShr_ok, gMul_r, gMul_l, gLt_ok, gLe_ok, gGt_ok, gGe_ok, gNot_ok, gTup_2, gTup_3, gMax2_ok, gMin2_ok, isi_int_int, isi_int_bool, isi_tup, isi_int_list, isi_list, gEq_int, gNe_int, List.getElem?_cons_zero, List.getElem?_cons_succ, List.set_cons_zero, List.set_cons_succ, List.length_cons, List.length_nil, List.map_cons, List.map_nil, List.cons_append, List.nil_append, List.replicate_zero, List.replicate_succ, decide_true, decide_false, Bool.and_true, Bool.true_and, Bool.and_false, Bool.false_and, Bool.or_true, Bool.true_or, Bool.or_false, Bool.false_or, Bool.not_true, Bool.not_false, if_true, if_false, ite_true, ite_false, reduceIte, List.contains_nil, List.contains_cons, Nat.reduceBEq, List.any_cons, List.any_nil, List.append_nil, Bool.false_eq_true, reduceCtorEq, Nat.reduceAdd, Nat.reduceLT, Nat.reduceLeDiff, Nat.zero_add, Int.reduceSub, Int.reduceAdd, Int.reduceMul, Int.reduceToNat, Int.reducePow, Int.one_mul, Int.reduceNeg, Int.reduceLT, Int.reduceLE, Int.zero_add, Int.add_zero, Int.reduceEq, Int.reduceMod, Int.reduceDiv, Int.reduceOfNat, Int.cast_ofNat_Int, so, sf, nt]
        rw [e0]
      · refine ⟨⟨[some (.nd .sh .lst (ns.map Vl.int)), some (stS f2 cs a2), t, some (.int n), some (.nd .sh .lst (nw N)), o5, o6, o7, some (.nd .sh .lst (foL L)), none], [], []⟩, by simp (disch := omega) only [wipeS, wipeF, runF, seqC, bindC, asgC, tgN, tgT, tgsC, tgsN, opE, evs, varE, takE, frzE, cstE, retC, retNC, expC, ifC, passC, rsC, brkC, cntC, callE, srcE, andE, orE, ifE, seqE, notE, chainE, nt_non, nt_bl, nt_int, nt_str, nt_tup, nt_nil, nt_cons, so_non, so_bl, so_int, so_str, so_tup, so_nil, so_cons, no_non, no_bl, no_int, no_str, no_tup, no_nil, no_cons, nr_non, nr_bl, nr_int, nr_str, nr_tup, nr_nil, nr_cons, ao_non, ao_bl, ao_int, ao_str, ao_tup, ao_nil, ao_cons, pk_non, pk_bl, pk_int, pk_str, pk_tup, pk_nil, pk_cons, sf_non, sf_bl, sf_int, sf_str, sf_tup, sf_nil, sf_cons, ints_so, ints_nt, ints_no, ints_nr, ints_ao, ints_pk, ints_sf, ints_snoc, pk_nd, sf_nd, nt_nd, so_nd, no_nd, nr_nd, ao_nd, so_app, gLen_nd, gIx_nd, gLst_0, gLR1_ok, gLR2_ok, isi_lst, hSeq_nd, fp1, fp2, fp3, fb1, fb2, fb3, fb4, fb5, fb6, fb7, fb8, fb9, fb10, fb11, fb12, fb13, fb14, sf_enc, pk_own, pk_sh, pk_tr, nr_enc, ao_enc, so_own, so_sh, nt_own, nt_sh, no_sh, no_tr, no_own, nt_tr, gLen_enc, gIx_0, gIx_1, gLst_nil, hSeq_sh, hRng1_ok, hRng2_ok, gSub_ok, gAdd_ok, gNeg_ok, gMod_ok, gDiv_ok, gShl_ok, gShr_ok, gMul_r, gMul_l, gLt_ok, gLe_ok, gGt_ok, gGe_ok, gNot_ok, gTup_2, gTup_3, gMax2_ok, gMin2_ok, isi_int_int, isi_int_bool, isi_tup, isi_int_list, isi_list, gEq_int, gNe_int, List.getElem?_cons_zero, List.getElem?_cons_succ, List.set_cons_zero, List.set_cons_succ, List.length_cons, List.length_nil, List.map_cons, List.map_nil, List.cons_append, List.nil_append, List.replicate_zero, List.replicate_succ, decide_true, decide_false, Bool.and_true, Bool.true_and, Bool.and_false, Bool.false_and, Bool.or_true, Bool.true_or, Bool.or_false, Bool.false_or, Bool.not_true, Bool.not_false, if_true, if_false, ite_true, ite_false, reduceIte, List.contains_nil, List.contains_cons, Nat.reduceBEq, List.any_cons, List.any_nil, List.append_nil, Bool.false_eq_true, reduceCtorEq, Nat.reduceAdd, Nat.reduceLT, Nat.reduceLeDiff, Nat.zero_add, foL_nt, foL_no, foL_nr, foL_pk, foL_sf, foL_so, foL_len], ?_, by rw [nt_nd, foL_nt]; rfl, rfl⟩
        have gl : gList [.nd .sh .lst (foL L)] = some (.nd .own .lst (foL L)) := by
          show some (mkL (foL L)) = _
          unfold mkL
          rw [if_pos (foL_so L)]
        simp (disch := omega) only [runF, seqC, bindC, asgC, tgN, tgT, tgsC, tgsN, opE, evs, varE, takE, frzE, cstE, retC, retNC, expC, ifC, passC, rsC, brkC, cntC, callE, srcE, andE, orE, ifE, seqE, notE, chainE, nt_non, nt_bl, nt_int, nt_str, nt_tup, nt_nil, nt_cons, so_non, so_bl, so_int, so_str, so_tup, so_nil, so_cons, no_non, no_bl, no_int, no_str, no_tup, no_nil, no_cons, nr_non, nr_bl, nr_int, nr_str, nr_tup, nr_nil, nr_cons, ao_non, ao_bl, ao_int, ao_str, ao_tup, ao_nil, ao_cons, pk_non, pk_bl, pk_int, pk_str, pk_tup, pk_nil, pk_cons, sf_non, sf_bl, sf_int, sf_str, sf_tup, sf_nil, sf_cons, ints_so, ints_nt, ints_no, ints_nr, ints_ao, ints_pk, ints_sf, ints_snoc, pk_nd, sf_nd, nt_nd, so_nd, no_nd, nr_nd, ao_nd, so_app, gLen_nd, gIx_nd, gLst_0, gLR1_ok, gLR2_ok, isi_lst, hSeq_nd, fp1, fp2, fp3, fb1, fb2, fb3, fb4, fb5, fb6, fb7, fb8, fb9, fb10, fb11, fb12, fb13, fb14, sf_enc, pk_own, pk_sh, pk_tr, nr_enc, ao_enc, so_own, so_sh, nt_own, nt_sh, no_sh, no_tr, no_own, nt_tr, gLen_enc, gIx_0, gIx_1, gLst_nil, hSeq_sh, hRng1_ok, hRng2_ok, gSub_ok, gAdd_ok, gNeg_ok, gMod_ok, gDiv_ok, gShl_ok, gShr_ok, gMul_r, gMul_l, gLt_ok, gLe_ok, gGt_ok, gGe_ok, gNot_ok, gTup_2, gTup_3, gMax2_ok, gMin2_ok, isi_int_int, isi_int_bool, isi_tup, isi_int_list, isi_list, gEq_int, gNe_int, List.getElem?_cons_zero, List.getElem?_cons_succ, List.set_cons_zero, List.set_cons_succ, List.length_cons, List.length_nil, List.map_cons, List.map_nil, List.cons_append, List.nil_append, List.replicate_zero, List.replicate_succ, decide_true, decide_false, Bool.and_true, Bool.true_and, Bool.and_false, Bool.false_and, Bool.or_true, Bool.true_or, Bool.or_false, Bool.false_or, Bool.not_true, Bool.not_false, if_true, if_false, ite_true, ite_false, reduceIte, List.contains_nil, List.contains_cons, Nat.reduceBEq, List.any_cons, List.any_nil, List.append_nil, Bool.false_eq_true, reduceCtorEq, Nat.reduceAdd, Nat.reduceLT, Nat.reduceLeDiff, Nat.zero_add, Int.reduceSub, Int.reduceAdd, Int.reduceMul, Int.reduceToNat, Int.reducePow, Int.one_mul, Int.reduceNeg, Int.reduceLT, Int.reduceLE, Int.zero_add, Int.add_zero, Int.reduceEq, Int.reduceMod, Int.reduceDiv, Int.reduceOfNat, Int.cast_ofNat_Int, foL_nt, foL_no, foL_nr, foL_pk, foL_sf, foL_so, foL_len, gl]
    have em : (N.map fun L => Vl.nd .own .lst (foL L)) = noV N := rfl
    rw [em, mk_noV] at hcm
    generalize compE [8] (tgN 8) (srcE hSeq [frzE 4]) (cstE (.bl true)) (opE gList [varE 8]) = ce at *
    have nt := noV_nt N
    simp only [SLw] at hcm
    simp (disch := omega) only [runF, seqC, bindC, asgC, tgN, tgT, tgsC, tgsN, opE, evs, varE, takE, frzE, cstE, retC, retNC, expC, ifC, passC, rsC, brkC, cntC, callE, srcE, andE, orE, ifE, seqE, notE, chainE, nt_non, nt_bl, nt_int, nt_str, nt_tup, nt_nil, nt_cons, so_non, so_bl, so_int, so_str, so_tup, so_nil, so_cons, no_non, no_bl, no_int, no_str, no_tup, no_nil, no_cons, nr_non, nr_bl, nr_int, nr_str, nr_tup, nr_nil, nr_cons, ao_non, ao_bl, ao_int, ao_str, ao_tup, ao_nil, ao_cons, pk_non, pk_bl, pk_int, pk_str, pk_tup, pk_nil, pk_cons, sf_non, sf_bl, sf_int, sf_str, sf_tup, sf_nil, sf_cons, ints_so, ints_nt, ints_no, ints_nr, ints_ao, ints_pk, ints_sf, ints_snoc, pk_nd, sf_nd, nt_nd, so_nd, no_nd, nr_nd, ao_nd, so_app, gLen_nd, gIx_nd, gLst_0, gLR1_ok, gLR2_ok, isi_lst, hSeq_nd, fp1, fp2, fp3, fb1, fb2, fb3, fb4, fb5, fb6, fb7, fb8, fb9, fb10, fb11, fb12, fb13, fb14, sf_enc, pk_own, pk_sh, pk_tr, nr_enc, ao_enc, so_own, so_sh, nt_own, nt_sh, no_sh, no_tr, no_own, nt_tr, gLen_enc, gIx_0, gIx_1, gLst_nil, hSeq_sh, hRng1_ok, hRng2_ok, gSub_ok, gAdd_ok, gNeg_ok, gMod_ok, gDiv_ok, gShl_ok, gShr_ok, gMul_r, gMul_l, gLt_ok, gLe_ok, gGt_ok, gGe_ok, gNot_ok, gTup_2, gTup_3, gMax2_ok, gMin2_ok, isi_int_int, isi_int_bool, isi_tup, isi_int_list, isi_list, gEq_int, gNe_int, List.getElem?_cons_zero, List.getElem?_cons_succ, List.set_cons_zero, List.set_cons_succ, List.length_cons, List.length_nil, List.map_cons, List.map_nil, List.cons_append, List.nil_append, List.replicate_zero, List.replicate_succ, decide_true, decide_false, Bool.and_true, Bool.true_and, Bool.and_false, Bool.false_and, Bool.or_true, Bool.true_or, Bool.or_false, Bool.false_or, Bool.not_true, Bool.not_false, if_true, if_false, ite_true, ite_false, reduceIte, List.contains_nil, List.contains_cons, Nat.reduceBEq, List.any_cons, List.any_nil, List.append_nil, Bool.false_eq_true, reduceCtorEq, Nat.reduceAdd, Nat.reduceLT, Nat.reduceLeDiff, Nat.zero_add, hcm, nt]
  have pk := noV_pk N
  have tsf := trV_sf N
  have tnr := trV_nr N
  have gnn : gNe [.nd .sh .lst (nw N), .nd .tr .lst (trV N)] = some (.bl false) := by
    have := gNe_enc (f := .sh) (g := .tr) N N
    rw [decide_eq_true rfl] at this
    exact this
  have nwn := nw_no N
  have nwt := nw_nt N
  have nwr := nw_nr N
  have nws := nw_sf N
  have fin : ∀ R, res n N = R → (R = .non ∨ ∃ row : List Int, row.length = n ∧ R = .nd .own .lst (row.map Vl.int)) → ∃ p7, (seqC (asgC (tgN 6) (callE 2 F__law_first [varE 5, varE 3] [])) (seqC (asgC (tgN 7) (callE 2 F_unsorted_row [frzE 4, varE 3] []))
      (seqC (ifC (orE (opE gNe [varE 7, varE 6]) (opE gNe [frzE 4, varE 5])) (retC (cstE (.bl false))) (passC))
      (seqC (ifC (opE gNotN [varE 7]) (seqC (ifC (orE (notE (opE gIsi [varE 7, cstE (.sym (.ty "list"))])) (opE gNe [compE [9] (tgN 9) (srcE hSeq [varE 7]) (opE gIsi [varE 9, cstE (.sym (.ty "bool"))]) (frzE 9), opE gLst []])) (retC (cstE (.bl false))) (passC))
      (expC (mutE 7 isL [cstE (.int 7)] muApp))) (passC))
      (ifC (opE gNe [callE 2 F_unsorted_row [frzE 4, varE 3] [], varE 6]) (retC (cstE (.bl false))) (passC)))))) (SLw ns cs f2 a2 t (some (.int n)) (some (.nd .sh .lst (nw N))) (some (.nd .own .lst (noV N))) o6 o7) = .nx (SLw ns cs f2 a2 t (some (.int n)) (some (.nd .sh .lst (nw N))) (some (.nd .own .lst (noV N))) (some R) p7) := by
    intro R hR hcase
    rw [hR] at hfi hun
    generalize noV N = nv at *
    generalize trV N = tv at *
    generalize nw N = nn at *
    rcases hcase with rfl | ⟨row, hrl, rfl⟩
    · have g0 : gNe [.non, .non] = some (.bl false) := gNe_same (d := .none) rfl rfl rfl
      refine ⟨some .non, ?_⟩
      simp (disch := omega) only [runF, seqC, bindC, asgC, tgN, tgT, tgsC, tgsN, opE, evs, varE, takE, frzE, cstE, retC, retNC, expC, ifC, passC, rsC, brkC, cntC, callE, srcE, andE, orE, ifE, seqE, notE, chainE, nt_non, nt_bl, nt_int, nt_str, nt_tup, nt_nil, nt_cons, so_non, so_bl, so_int, so_str, so_tup, so_nil, so_cons, no_non, no_bl, no_int, no_str, no_tup, no_nil, no_cons, nr_non, nr_bl, nr_int, nr_str, nr_tup, nr_nil, nr_cons, ao_non, ao_bl, ao_int, ao_str, ao_tup, ao_nil, ao_cons, pk_non, pk_bl, pk_int, pk_str, pk_tup, pk_nil, pk_cons, sf_non, sf_bl, sf_int, sf_str, sf_tup, sf_nil, sf_cons, ints_so, ints_nt, ints_no, ints_nr, ints_ao, ints_pk, ints_sf, ints_snoc, pk_nd, sf_nd, nt_nd, so_nd, no_nd, nr_nd, ao_nd, so_app, gLen_nd, gIx_nd, gLst_0, gLR1_ok, gLR2_ok, isi_lst, hSeq_nd, fp1, fp2, fp3, fb1, fb2, fb3, fb4, fb5, fb6, fb7, fb8, fb9, fb10, fb11, fb12, fb13, fb14, sf_enc, pk_own, pk_sh, pk_tr, nr_enc, ao_enc, so_own, so_sh, nt_own, nt_sh, no_sh, no_tr, no_own, nt_tr, gLen_enc, gIx_0, gIx_1, gLst_nil, hSeq_sh, hRng1_ok, hRng2_ok, gSub_ok, gAdd_ok, gNeg_ok, gMod_ok, gDiv_ok, gShl_ok, gShr_ok, gMul_r, gMul_l, gLt_ok, gLe_ok, gGt_ok, gGe_ok, gNot_ok, gTup_2, gTup_3, gMax2_ok, gMin2_ok, isi_int_int, isi_int_bool, isi_tup, isi_int_list, isi_list, gEq_int, gNe_int, List.getElem?_cons_zero, List.getElem?_cons_succ, List.set_cons_zero, List.set_cons_succ, List.length_cons, List.length_nil, List.map_cons, List.map_nil, List.cons_append, List.nil_append, List.replicate_zero, List.replicate_succ, decide_true, decide_false, Bool.and_true, Bool.true_and, Bool.and_false, Bool.false_and, Bool.or_true, Bool.true_or, Bool.or_false, Bool.false_or, Bool.not_true, Bool.not_false, if_true, if_false, ite_true, ite_false, reduceIte, List.contains_nil, List.contains_cons, Nat.reduceBEq, List.any_cons, List.any_nil, List.append_nil, Bool.false_eq_true, reduceCtorEq, Nat.reduceAdd, Nat.reduceLT, Nat.reduceLeDiff, Nat.zero_add, Int.reduceSub, Int.reduceAdd, Int.reduceMul, Int.reduceToNat, Int.reducePow, Int.one_mul, Int.reduceNeg, Int.reduceLT, Int.reduceLE, Int.zero_add, Int.add_zero, Int.reduceEq, Int.reduceMod, Int.reduceDiv, Int.reduceOfNat, Int.cast_ofNat_Int, pk, tsf, tnr, hfi, hun, g0, gnn, nwn, nwt, nwr, nws, gNotN, isNon]
    · have g1 : ∀ f g, gNe [.nd f .lst (row.map Vl.int), .nd g .lst (row.map Vl.int)] = some (.bl false) := fun f g => by rw [gNe_il]; simp
      have hcm : ∀ o6, compE [9] (tgN 9) (srcE hSeq [varE 7]) (opE gIsi [varE 9, cstE (.sym (.ty "bool"))]) (frzE 9) ⟨[some (.nd .sh .lst (ns.map Vl.int)), some (stS f2 cs a2), t, some (.int n), some (.nd .sh .lst nn), some (.nd .own .lst nv), o6, some (.nd .own .lst (row.map Vl.int)), none, none], [], []⟩ = .ok (mkL ((row.filter fun _ => false).map Vl.int), (⟨[some (.nd .sh .lst (ns.map Vl.int)), some (stS f2 cs a2), t, some (.int n), some (.nd .sh .lst nn), some (.nd .own .lst nv), o6, some (.nd .own .lst (row.map Vl.int)), none, none], [], []⟩ : Sta), false) := fun o6 => by
        refine compE_map (vs := [9]) (st1 := ⟨[some (.nd .sh .lst (ns.map Vl.int)), some (stS f2 cs a2), t, some (.int n), some (.nd .sh .lst nn), some (.nd .own .lst nv), o6, some (.nd .own .lst (row.map Vl.int)), none, none], [], []⟩) (ev := Vl.int) (tr := true) row (fun _ => false) Vl.int ?_ rfl (fun x hx => ?_) ?_
        · simp (disch := omega) only [runF, seqC, bindC, asgC, tgN, tgT, tgsC, tgsN, opE, evs, varE, takE, frzE, cstE, retC, retNC, expC, ifC, passC, rsC, brkC, cntC, callE, srcE, andE, orE, ifE, seqE, notE, chainE, nt_non, nt_bl, nt_int, nt_str, nt_tup, nt_nil, nt_cons, so_non, so_bl, so_int, so_str, so_tup, so_nil, so_cons, no_non, no_bl, no_int, no_str, no_tup, no_nil, no_cons, nr_non, nr_bl, nr_int, nr_str, nr_tup, nr_nil, nr_cons, ao_non, ao_bl, ao_int, ao_str, ao_tup, ao_nil, ao_cons, pk_non, pk_bl, pk_int, pk_str, pk_tup, pk_nil, pk_cons, sf_non, sf_bl, sf_int, sf_str, sf_tup, sf_nil, sf_cons, ints_so, ints_nt, ints_no, ints_nr, ints_ao, ints_pk, ints_sf, ints_snoc, pk_nd, sf_nd, nt_nd, so_nd, no_nd, nr_nd, ao_nd, so_app, gLen_nd, gIx_nd, gLst_0, gLR1_ok, gLR2_ok, isi_lst, hSeq_nd, fp1, fp2, fp3, fb1, fb2, fb3, fb4, fb5, fb6, fb7, fb8, fb9, fb10, fb11, fb12, fb13, fb14, sf_enc, pk_own, pk_sh, pk_tr, nr_enc, ao_enc, so_own, so_sh, nt_own, nt_sh, no_sh, no_tr, no_own, nt_tr, gLen_enc, gIx_0, gIx_1, gLst_nil, hSeq_sh, hRng1_ok, hRng2_ok, gSub_ok, gAdd_ok, gNeg_ok, gMod_ok, gDiv_ok, gShl_ok, gShr_ok, gMul_r, gMul_l, gLt_ok, gLe_ok, gGt_ok, gGe_ok, gNot_ok, gTup_2, gTup_3, gMax2_ok, gMin2_ok, isi_int_int, isi_int_bool, isi_tup, isi_int_list, isi_list, gEq_int, gNe_int, List.getElem?_cons_zero, List.getElem?_cons_succ, List.set_cons_zero, List.set_cons_succ, List.length_cons, List.length_nil, List.map_cons, List.map_nil, List.cons_append, List.nil_append, List.replicate_zero, List.replicate_succ, decide_true, decide_false, Bool.and_true, Bool.true_and, Bool.and_false, Bool.false_and, Bool.or_true, Bool.true_or, Bool.or_false, Bool.false_or, Bool.not_true, Bool.not_false, if_true, if_false, ite_true, ite_false, reduceIte, List.contains_nil, List.contains_cons, Nat.reduceBEq, List.any_cons, List.any_nil, List.append_nil, Bool.false_eq_true, reduceCtorEq, Nat.reduceAdd, Nat.reduceLT, Nat.reduceLeDiff, Nat.zero_add, Int.reduceSub, Int.reduceAdd, Int.reduceMul, Int.reduceToNat, Int.reducePow, Int.one_mul, Int.reduceNeg, Int.reduceLT, Int.reduceLE, Int.zero_add, Int.add_zero, Int.reduceEq, Int.reduceMod, Int.reduceDiv, Int.reduceOfNat, Int.cast_ofNat_Int]
        · exact ⟨⟨[some (.nd .sh .lst (ns.map Vl.int)), some (stS f2 cs a2), t, some (.int n), some (.nd .sh .lst nn), some (.nd .own .lst nv), o6, some (.nd .own .lst (row.map Vl.int)), none, some (.int x)], [], []⟩, rfl, rfl, fun h => (by cases h), rfl⟩
        · rw [PySem.sizeLine_eq, List.length_map]
          have := List.length_filter_le (fun _ => false) row
          omega
      have ef : (row.filter fun _ => false) = [] := List.filter_eq_nil_iff.mpr fun x _ => by simp
      rw [ef, mkL_ints] at hcm
      have g2 : gNe [.nd .own .lst (([] : List Int).map Vl.int), .nd .own .lst []] = some (.bl false) := by
        have := gNe_il .own .own [] []
        rw [decide_eq_true rfl] at this
        exact this
      have g2' : gNe [.nd .own .lst [], .nd .own .lst []] = some (.bl false) := g2
      have z1 : (row.map Vl.int).length < PySem.sizeLine := by rw [PySem.sizeLine_eq, List.length_map]; omega
      have z1' : row.length < PySem.sizeLine := by rw [PySem.sizeLine_eq]; omega
      refine ⟨some (.nd .own .lst ((row ++ [7]).map Vl.int)), ?_⟩
      generalize compE [9] (tgN 9) (srcE hSeq [varE 7]) (opE gIsi [varE 9, cstE (.sym (.ty "bool"))]) (frzE 9) = ce at *
      simp (disch := omega) only [runF, seqC, bindC, asgC, tgN, tgT, tgsC, tgsN, opE, evs, varE, takE, frzE, cstE, retC, retNC, expC, ifC, passC, rsC, brkC, cntC, callE, srcE, andE, orE, ifE, seqE, notE, chainE, nt_non, nt_bl, nt_int, nt_str, nt_tup, nt_nil, nt_cons, so_non, so_bl, so_int, so_str, so_tup, so_nil, so_cons, no_non, no_bl, no_int, no_str, no_tup, no_nil, no_cons, nr_non, nr_bl, nr_int, nr_str, nr_tup, nr_nil, nr_cons, ao_non, ao_bl, ao_int, ao_str, ao_tup, ao_nil, ao_cons, pk_non, pk_bl, pk_int, pk_str, pk_tup, pk_nil, pk_cons, sf_non, sf_bl, sf_int, sf_str, sf_tup, sf_nil, sf_cons, ints_so, ints_nt, ints_no, ints_nr, ints_ao, ints_pk, ints_sf, ints_snoc, pk_nd, sf_nd, nt_nd, so_nd, no_nd, nr_nd, ao_nd, so_app, gLen_nd, gIx_nd, gLst_0, gLR1_ok, gLR2_ok, isi_lst, hSeq_nd, fp1, fp2, fp3, fb1, fb2, fb3, fb4, fb5, fb6, fb7, fb8, fb9, fb10, fb11, fb12, fb13, fb14, sf_enc, pk_own, pk_sh, pk_tr, nr_enc, ao_enc, so_own, so_sh, nt_own, nt_sh, no_sh, no_tr, no_own, nt_tr, gLen_enc, gIx_0, gIx_1, gLst_nil, hSeq_sh, hRng1_ok, hRng2_ok, gSub_ok, gAdd_ok, gNeg_ok, gMod_ok, gDiv_ok, gShl_ok, gShr_ok, gMul_r, gMul_l, gLt_ok, gLe_ok, gGt_ok, gGe_ok, gNot_ok, gTup_2, gTup_3, gMax2_ok, gMin2_ok, isi_int_int, isi_int_bool, isi_tup, isi_int_list, isi_list, gEq_int, gNe_int, List.getElem?_cons_zero, List.getElem?_cons_succ, List.set_cons_zero, List.set_cons_succ, List.length_cons, List.length_nil, List.map_cons, List.map_nil, List.cons_append, List.nil_append, List.replicate_zero, List.replicate_succ, decide_true, decide_false, Bool.and_true, Bool.true_and, Bool.and_false, Bool.false_and, Bool.or_true, Bool.true_or, Bool.or_false, Bool.false_or, Bool.not_true, Bool.not_false, if_true, if_false, ite_true, ite_false, reduceIte, List.contains_nil, List.contains_cons, Nat.reduceBEq, List.any_cons, List.any_nil, List.append_nil, Bool.false_eq_true, reduceCtorEq, Nat.reduceAdd, Nat.reduceLT, Nat.reduceLeDiff, Nat.zero_add, Int.reduceSub, Int.reduceAdd, Int.reduceMul, Int.reduceToNat, Int.reducePow, Int.one_mul, Int.reduceNeg, Int.reduceLT, Int.reduceLE, Int.zero_add, Int.add_zero, Int.reduceEq, Int.reduceMod, Int.reduceDiv, Int.reduceOfNat, Int.cast_ofNat_Int, mutE, getN, putN, isL, muApp, muPop, muPopAt, pk, tsf, tnr, hfi, hun, g1, g2, g2', gnn, nwn, nwt, nwr, nws, gNotN, isNon, hcm, z1, z1', List.length_map]
  have hcs : res n N = .non ∨ ∃ row : List Int, row.length = n ∧ res n N = .nd .own .lst (row.map Vl.int) := by
    rcases res_cases n N with h | ⟨k, h⟩
    · exact .inl h
    · exact .inr ⟨bitR n k, bitR_len n k, h⟩
  obtain ⟨p7, hfin⟩ := fin (res n N) rfl hcs
  refine ⟨f2, a2, some (.int n), some (.nd .sh .lst (nw N)), some (.nd .own .lst (noV N)), some (res n N), p7, g2, by omega, by omega, ?_⟩
  unfold b_law_L0
  rw [show ∀ (A B : C) (s : Sta), seqC A B s = (match A s with
    | .nx s => B s
    | r => r) from fun _ _ _ => rfl, c0]
  show seqC _ _ _ = _
  rw [show ∀ (A B : C) (s : Sta), seqC A B s = (match A s with
    | .nx s => B s
    | r => r) from fun _ _ _ => rfl, c1]
  show seqC _ _ _ = _
  rw [show ∀ (A B : C) (s : Sta), seqC A B s = (match A s with
    | .nx s => B s
    | r => r) from fun _ _ _ => rfl, c2]
  exact hfin
end
theorem law_true (ns : List Int) (hn : ns.length ≤ 63) : runF N_law.length b_law [.nd .sh .lst (ns.map Vl.int)] = .ok (.bl true) := by
  have hb := begun_ok ns hn
  have e0 : asgC (tgN 1) (callE 2 F__law_begun [varE 0, cstE (.int 5)] []) ⟨[some (.nd .sh .lst (ns.map Vl.int)), none, none, none, none, none, none, none, none, none], [], []⟩ = .nx (SLw ns (5 :: ns) .own 5 none none none none none none) := by
    have ao := ints_ao (5 :: ns)
    have nt := ints_nt (5 :: ns)
    simp only [SLw, stS] at hb ⊢
    generalize (5 :: ns).map Vl.int = w at *
    simp (disch := omega) only [runF, seqC, bindC, asgC, tgN, tgT, tgsC, tgsN, opE, evs, varE, takE, frzE, cstE, retC, retNC, expC, ifC, passC, rsC, brkC, cntC, callE, srcE, andE, orE, ifE, seqE, notE, chainE, nt_non, nt_bl, nt_int, nt_str, nt_tup, nt_nil, nt_cons, so_non, so_bl, so_int, so_str, so_tup, so_nil, so_cons, no_non, no_bl, no_int, no_str, no_tup, no_nil, no_cons, nr_non, nr_bl, nr_int, nr_str, nr_tup, nr_nil, nr_cons, ao_non, ao_bl, ao_int, ao_str, ao_tup, ao_nil, ao_cons, pk_non, pk_bl, pk_int, pk_str, pk_tup, pk_nil, pk_cons, sf_non, sf_bl, sf_int, sf_str, sf_tup, sf_nil, sf_cons, ints_so, ints_nt, ints_no, ints_nr, ints_ao, ints_pk, ints_sf, ints_snoc, pk_nd, sf_nd, nt_nd, so_nd, no_nd, nr_nd, ao_nd, so_app, gLen_nd, gIx_nd, gLst_0, gLR1_ok, gLR2_ok, isi_lst, hSeq_nd, fp1, fp2, fp3, fb1, fb2, fb3, fb4, fb5, fb6, fb7, fb8, fb9, fb10, fb11, fb12, fb13, fb14, sf_enc, pk_own, pk_sh, pk_tr, nr_enc, ao_enc, so_own, so_sh, nt_own, nt_sh, no_sh, no_tr, no_own, nt_tr, gLen_enc, gIx_0, gIx_1, gLst_nil, hSeq_sh, hRng1_ok, hRng2_ok, gSub_ok, gAdd_ok, gNeg_ok, gMod_ok, gDiv_ok, gShl_ok, gShr_ok, gMul_r, gMul_l, gLt_ok, gLe_ok, gGt_ok, gGe_ok, gNot_ok, gTup_2, gTup_3, gMax2_ok, gMin2_ok, isi_int_int, isi_int_bool, isi_tup, isi_int_list, isi_list, gEq_int, gNe_int, List.getElem?_cons_zero, List.getElem?_cons_succ, List.set_cons_zero, List.set_cons_succ, List.length_cons, List.length_nil, List.map_cons, List.map_nil, List.cons_append, List.nil_append, List.replicate_zero, List.replicate_succ, decide_true, decide_false, Bool.and_true, Bool.true_and, Bool.and_false, Bool.false_and, Bool.or_true, Bool.true_or, Bool.or_false, Bool.false_or, Bool.not_true, Bool.not_false, if_true, if_false, ite_true, ite_false, reduceIte, List.contains_nil, List.contains_cons, Nat.reduceBEq, List.any_cons, List.any_nil, List.append_nil, Bool.false_eq_true, reduceCtorEq, Nat.reduceAdd, Nat.reduceLT, Nat.reduceLeDiff, Nat.zero_add, Int.reduceSub, Int.reduceAdd, Int.reduceMul, Int.reduceToNat, Int.reducePow, Int.one_mul, Int.reduceNeg, Int.reduceLT, Int.reduceLE, Int.zero_add, Int.add_zero, Int.reduceEq, Int.reduceMod, Int.reduceDiv, Int.reduceOfNat, Int.cast_ofNat_Int, hb, ao, nt]
  generalize hm : (1 + (if (ns.length : Int) / 20 < 2 then (ns.length : Int) / 20 else 2)) = m
  have hm0 : 0 ≤ m ∧ m ≤ 3 := by split at hm <;> omega
  obtain ⟨st, e1, f, a, t, o3, o4, o5, o6, o7, hf, ha0, ha1, hs⟩ := forL_inv (g := tgN 2) (body := b_law_L0) (items := intsV 0 m.toNat) (st := SLw ns (5 :: ns) .own 5 none none none none none none)
    (fun i st => ∃ (f : Fl) (a : Int) (t o3 o4 o5 o6 o7 : Option Vl), OF f ∧ 0 ≤ a ∧ a ≤ 5 + 500 * i ∧ st = SLw ns (5 :: ns) f a t o3 o4 o5 o6 o7) ⟨.own, 5, _, _, _, _, _, _, .inl rfl, by omega, by omega, rfl⟩ fun i st x ⟨f, a, t, o3, o4, o5, o6, o7, hf, ha0, ha1, hs⟩ hv => by
      subst hs
      rw [intsV_rng, List.getElem?_map] at hv
      obtain ⟨c, hc, rfl⟩ := Option.map_eq_some_iff.mp hv
      have hi : i < m.toNat := by
        have := (List.getElem?_eq_some_iff.mp hc).1
        simpa [rng] using this
      obtain ⟨f', a', p3, p4, p5, p6, p7, g, q1, q2, q3⟩ := turn_ok ns (5 :: ns) (by simp; omega) (by simp) f hf a ha0 (by omega) (some (.int c)) o3 o4 o5 o6 o7
      exact ⟨SLw ns (5 :: ns) f a (some (.int c)) o3 o4 o5 o6 o7, _, rfl, .inl q3, f', a', _, _, _, _, _, _, g, by omega, by omega, rfl⟩
  subst hs
  have e2 : forC (tgN 2) (srcE hRng1 [opE gAdd [cstE (.int 1), opE gMin2 [cstE (.int 2), opE gDiv [opE gLen [varE 0], cstE (.int 20)]]]]) b_law_L0 (SLw ns (5 :: ns) .own 5 none none none none none none) = .nx (SLw ns (5 :: ns) f a t o3 o4 o5 o6 o7) := by
    unfold forC
    generalize forL (tgN 2) b_law_L0 = fl at e1 ⊢
    simp only [SLw] at e1 ⊢
    have hg : hRng1 [.int m] = some (intsV 0 m.toNat, false) := hRng1_ok (by omega)
    simp (disch := omega) only [runF, seqC, bindC, asgC, tgN, tgT, tgsC, tgsN, opE, evs, varE, takE, frzE, cstE, retC, retNC, expC, ifC, passC, rsC, brkC, cntC, callE, srcE, andE, orE, ifE, seqE, notE, chainE, nt_non, nt_bl, nt_int, nt_str, nt_tup, nt_nil, nt_cons, so_non, so_bl, so_int, so_str, so_tup, so_nil, so_cons, no_non, no_bl, no_int, no_str, no_tup, no_nil, no_cons, nr_non, nr_bl, nr_int, nr_str, nr_tup, nr_nil, nr_cons, ao_non, ao_bl, ao_int, ao_str, ao_tup, ao_nil, ao_cons, pk_non, pk_bl, pk_int, pk_str, pk_tup, pk_nil, pk_cons, sf_non, sf_bl, sf_int, sf_str, sf_tup, sf_nil, sf_cons, ints_so, ints_nt, ints_no, ints_nr, ints_ao, ints_pk, ints_sf, ints_snoc, pk_nd, sf_nd, nt_nd, so_nd, no_nd, nr_nd, ao_nd, so_app, gLen_nd, gIx_nd, gLst_0, gLR1_ok, gLR2_ok, isi_lst, hSeq_nd, fp1, fp2, fp3, fb1, fb2, fb3, fb4, fb5, fb6, fb7, fb8, fb9, fb10, fb11, fb12, fb13, fb14, sf_enc, pk_own, pk_sh, pk_tr, nr_enc, ao_enc, so_own, so_sh, nt_own, nt_sh, no_sh, no_tr, no_own, nt_tr, gLen_enc, gIx_0, gIx_1, gLst_nil, hSeq_sh, hRng1_ok, hRng2_ok, gSub_ok, gAdd_ok, gNeg_ok, gMod_ok, gDiv_ok, gShl_ok, gShr_ok, gMul_r, gMul_l, gLt_ok, gLe_ok, gGt_ok, gGe_ok, gNot_ok, gTup_2, gTup_3, gMax2_ok, gMin2_ok, isi_int_int, isi_int_bool, isi_tup, isi_int_list, isi_list, gEq_int, gNe_int, List.getElem?_cons_zero, List.getElem?_cons_succ, List.set_cons_zero, List.set_cons_succ, List.length_cons, List.length_nil, List.map_cons, List.map_nil, List.cons_append, List.nil_append, List.replicate_zero, List.replicate_succ, decide_true, decide_false, Bool.and_true, Bool.true_and, Bool.and_false, Bool.false_and, Bool.or_true, Bool.true_or, Bool.or_false, Bool.false_or, Bool.not_true, Bool.not_false, if_true, if_false, ite_true, ite_false, reduceIte, List.contains_nil, List.contains_cons, Nat.reduceBEq, List.any_cons, List.any_nil, List.append_nil, Bool.false_eq_true, reduceCtorEq, Nat.reduceAdd, Nat.reduceLT, Nat.reduceLeDiff, Nat.zero_add, Int.reduceSub, Int.reduceAdd, Int.reduceMul, Int.reduceToNat, Int.reducePow, Int.one_mul, Int.reduceNeg, Int.reduceLT, Int.reduceLE, Int.zero_add, Int.add_zero, Int.reduceEq, Int.reduceMod, Int.reduceDiv, Int.reduceOfNat, Int.cast_ofNat_Int, gMin2_ok, gLen_nd, List.length_map, hm, hg, e1]
  have hl : N_law.length = 10 := rfl
  rw [hl]
  show (match b_law ⟨[some (.nd .sh .lst (ns.map Vl.int)), none, none, none, none, none, none, none, none, none], [], []⟩ with
    | .nx _ => RF.ok .non
    | .rt v _ => if allOwn v then .ok v else .bad
    | .exc c _ => .exc c
    | _ => .bad) = _
  unfold b_law
  simp only [seqC, e0, e2, retC, bindC, cstE, ao_bl, if_true]
end K41

open PySem PySem.W PyProof.Rows in
set_option maxHeartbeats 0 in
theorem PySem.Challenge.cw_pairhall_k41_rows_unsorted_holds : PySem.Challenge.rw_pairhall_k41_rows_unsorted.Holds := by
  w_on; o_law; k_head; (case hw => w_witness2)
  k_fill
  refine L2.walk_of (l := PySem.Challenge.rw_pairhall_k41_rows_unsorted) (n := 63) (k := 6) (x := "_law_script") (CX := fun w => L2.CX PySem.Challenge.rw_pairhall_k41_rows_unsorted.prog w) (sp := fun w => PyI.spLaw _) rfl (by decide) rfl ⟨rfl, by decide, by decide⟩ (fun w h Y => PySem.W.kIn_of Y) ?F (fun _ _ a ns hl _ hS => ⟨a, ns, rfl, hS, hl, fun _ => rfl⟩) ?X
  case X => exact PyI.cx_none
  case F =>
    intro w mg fa h KX G hmg
    have m_int : mg "int" = none := by refine' PySem.W.mg_none_of KX G ?a; (case a => k_is)
    have m_isinstance : mg "isinstance" = none := by refine' PySem.W.mg_none_of KX G ?a; (case a => k_is)
    have m_bool : mg "bool" = none := by refine' PySem.W.mg_none_of KX G ?a; (case a => k_is)
    have m_tuple : mg "tuple" = none := by refine' PySem.W.mg_none_of KX G ?a; (case a => k_is)
    have m_len : mg "len" = none := by refine' PySem.W.mg_none_of KX G ?a; (case a => k_is)
    have m_list : mg "list" = none := by refine' PySem.W.mg_none_of KX G ?a; (case a => k_is)
    have m_all : mg "all" = none := by refine' PySem.W.mg_none_of KX G ?a; (case a => k_is)
    have m_sorted : mg "sorted" = none := by refine' PySem.W.mg_none_of KX G ?a; (case a => k_is)
    have m_set : mg "set" = none := by refine' PySem.W.mg_none_of KX G ?a; (case a => k_is)
    have m_zip : mg "zip" = none := by refine' PySem.W.mg_none_of KX G ?a; (case a => k_is)
    have m_range : mg "range" = none := by refine' PySem.W.mg_none_of KX G ?a; (case a => k_is)
    have m_min : mg "min" = none := by refine' PySem.W.mg_none_of KX G ?a; (case a => k_is)
    have m_max : mg "max" = none := by refine' PySem.W.mg_none_of KX G ?a; (case a => k_is)
    have g_MOST_LANES_pairings : PyI.IntG mg "MOST_LANES_pairings" 64 := by refine' PyI.intG KX G ?a; (case a => k_is)
    have g_MOST_LAYERS : PyI.IntG mg "MOST_LAYERS" 40 := by refine' PyI.intG KX G ?a; (case a => k_is)
    have g_MOST_LANES_sorters : PyI.IntG mg "MOST_LANES_sorters" 8 := by refine' PyI.intG KX G ?a; (case a => k_is)
    refine' PyI.withF (PyI.excC (x := "NoSize") KX G PySem.F.excBase_ValueError ?a ?b ?c ?d ?e) ?go_NoSize; (case a => k_is); (case b => first | k_exc | k_is); (case c => k_is); (case d => k_is); (case e => k_is)
    intro e_NoSize
    refine' PyI.withF (PyI.excC (x := "NoNet") KX G PySem.F.excBase_ValueError ?a ?b ?c ?d ?e) ?go_NoNet; (case a => k_is); (case b => first | k_exc | k_is); (case c => k_is); (case d => k_is); (case e => k_is)
    intro e_NoNet
    refine' PyI.withF (PyI.defAt (x := "is_number") (st := K41.s_is_number) KX G ?a ?l ?c ?k) ?go_is_number; (case a => k_is); (case l => k_is); (case c => k_is); (case k => k_is)
    intro d_is_number
    refine' PyI.withF (PyI.defAt (x := "is_switch") (st := K41.s_is_switch) KX G ?a ?l ?c ?k) ?go_is_switch; (case a => k_is); (case l => k_is); (case c => k_is); (case k => k_is)
    intro d_is_switch
    refine' PyI.withF (PyI.defAt (x := "is_layer") (st := K41.s_is_layer) KX G ?a ?l ?c ?k) ?go_is_layer; (case a => k_is); (case l => k_is); (case c => k_is); (case k => k_is)
    intro d_is_layer
    refine' PyI.withF (PyI.defAt (x := "need_net") (st := K41.s_need_net) KX G ?a ?l ?c ?k) ?go_need_net; (case a => k_is); (case l => k_is); (case c => k_is); (case k => k_is)
    intro d_need_net
    refine' PyI.withF (PyI.defAt (x := "exchanged") (st := K41.s_exchanged) KX G ?a ?l ?c ?k) ?go_exchanged; (case a => k_is); (case l => k_is); (case c => k_is); (case k => k_is)
    intro d_exchanged
    refine' PyI.withF (PyI.defAt (x := "compared") (st := K41.s_compared) KX G ?a ?l ?c ?k) ?go_compared; (case a => k_is); (case l => k_is); (case c => k_is); (case k => k_is)
    intro d_compared
    refine' PyI.withF (PyI.defAt (x := "rises") (st := K41.s_rises) KX G ?a ?l ?c ?k) ?go_rises; (case a => k_is); (case l => k_is); (case c => k_is); (case k => k_is)
    intro d_rises
    refine' PyI.withF (PyI.defAt (x := "unsorted_row") (st := K41.s_unsorted_row) KX G ?a ?l ?c ?k) ?go_unsorted_row; (case a => k_is); (case l => k_is); (case c => k_is); (case k => k_is)
    intro d_unsorted_row
    refine' PyI.withF (PyI.defAt (x := "_law_mixed") (st := K41.s__law_mixed) KX G ?a ?l ?c ?k) ?go__law_mixed; (case a => k_is); (case l => k_is); (case c => k_is); (case k => k_is)
    intro d__law_mixed
    refine' PyI.withF (PyI.defAt (x := "_law_begun") (st := K41.s__law_begun) KX G ?a ?l ?c ?k) ?go__law_begun; (case a => k_is); (case l => k_is); (case c => k_is); (case k => k_is)
    intro d__law_begun
    refine' PyI.withF (PyI.defAt (x := "_law_next") (st := K41.s__law_next) KX G ?a ?l ?c ?k) ?go__law_next; (case a => k_is); (case l => k_is); (case c => k_is); (case k => k_is)
    intro d__law_next
    refine' PyI.withF (PyI.defAt (x := "_law_pick") (st := K41.s__law_pick) KX G ?a ?l ?c ?k) ?go__law_pick; (case a => k_is); (case l => k_is); (case c => k_is); (case k => k_is)
    intro d__law_pick
    refine' PyI.withF (PyI.defAt (x := "_law_walked") (st := K41.s__law_walked) KX G ?a ?l ?c ?k) ?go__law_walked; (case a => k_is); (case l => k_is); (case c => k_is); (case k => k_is)
    intro d__law_walked
    refine' PyI.withF (PyI.defAt (x := "_law_layer") (st := K41.s__law_layer) KX G ?a ?l ?c ?k) ?go__law_layer; (case a => k_is); (case l => k_is); (case c => k_is); (case k => k_is)
    intro d__law_layer
    refine' PyI.withF (PyI.defAt (x := "_law_neighbours") (st := K41.s__law_neighbours) KX G ?a ?l ?c ?k) ?go__law_neighbours; (case a => k_is); (case l => k_is); (case c => k_is); (case k => k_is)
    intro d__law_neighbours
    refine' PyI.withF (PyI.defAt (x := "_law_net") (st := K41.s__law_net) KX G ?a ?l ?c ?k) ?go__law_net; (case a => k_is); (case l => k_is); (case c => k_is); (case k => k_is)
    intro d__law_net
    refine' PyI.withF (PyI.defAt (x := "_law_first") (st := K41.s__law_first) KX G ?a ?l ?c ?k) ?go__law_first; (case a => k_is); (case l => k_is); (case c => k_is); (case k => k_is)
    intro d__law_first
    refine' PyI.withF (PyI.defAt (x := "law") (st := K41.s_law) KX G ?a ?l ?c ?k) ?go_law; (case a => k_is); (case l => k_is); (case c => k_is); (case k => k_is)
    intro d_law
    have x := K41.Fx.mk m_int m_isinstance m_bool m_tuple m_len m_list m_all m_sorted m_set m_zip m_range m_min m_max g_MOST_LANES_pairings g_MOST_LAYERS g_MOST_LANES_sorters e_NoSize e_NoNet d_is_number d_is_switch d_is_layer d_need_net d_exchanged d_compared d_rises d_unsorted_row d__law_mixed d__law_begun d__law_next d__law_pick d__law_walked d__law_layer d__law_neighbours d__law_net d__law_first d_law
    exact PyI.law_all G hmg d_law K41.sc_law (fun _ _ _ _ _ _ us hl => match us, hl with | [_], _ => rfl) (fun base f => K41.ok_law x f) K41.law_true
